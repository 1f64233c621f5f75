import PyProof.Rows.All
import Wide.All
import OpenK.AllK
import Wide.FinOn
import HandS.ForMost
import HandS.ForExc
import HandS.IsInst
import HandS.Conv
import HandS.Walk
import HandS.Zip
import HandS.Wide
import HandS.CallSlots
import HandS.TupAny
import HandS.Deep
import KE.SortData
import KE.DataMinMax
import KE.DataCmp
import HandS.SortInts
import HandS.TupMul
import HandS.RaiseMore
import KE.GoesEnum
import HandS.WordsExc
import HandS.ExcOwn
import HandS.Style
import HandS.Ends
import PySem.Challenge.RW_outsoonest_k70_whole_houses_drawn
set_option Elab.async false
set_option linter.all false
set_option maxRecDepth 100000
set_option maxHeartbeats 4000000
namespace DL
open PySem L2

abbrev Fg := PySem.W.Frag
abbrev AS := Addr → Prop
abbrev D := PyData

/-! ### how a value reads as data, away from the addresses of O -/
def KTp (K : Fg) (a : Addr) (xs : List V) : Prop :=
  ∃ (o : Obj) (its : Array Value) (n : Nat), K.lookup a = some o ∧ o.cls = .type "tuple" ∧ o.data = .seq its n ∧ its.size ≤ sizeLine ∧ Vals xs its.toList
def LsAt (H : Hp) (O : AS) (a : Addr) (xs : List V) : Prop := H a = some (.lst xs) ∧ ¬ O a
def TpAt (K : Fg) (H : Hp) (O : AS) (a : Addr) (xs : List V) : Prop := (H a = some (.tup xs) ∧ ¬ O a) ∨ KTp K a xs
mutual
inductive RD (K : Fg) (H : Hp) (O : AS) : V → D → Prop
  | non : RD K H O .non .none
  | bl (b : Bool) : RD K H O (.bl b) (.bool b)
  | int (i : Int) : RD K H O (.int i) (.int i)
  | str (x : Str) : RD K H O (.str x) (.str x)
  | lst {a : Addr} {xs : List V} {ds : List D} : LsAt H O a xs → xs.length ≤ sizeLine → RDs K H O xs ds → RD K H O (.ref a) (.list ds)
  | tup {a : Addr} {xs : List V} {ds : List D} : TpAt K H O a xs → xs.length ≤ sizeLine → RDs K H O xs ds → RD K H O (.ref a) (.tuple ds)
inductive RDs (K : Fg) (H : Hp) (O : AS) : List V → List D → Prop
  | nil : RDs K H O [] []
  | cons {v : V} {vs : List V} {d : D} {ds : List D} : RD K H O v d → RDs K H O vs ds → RDs K H O (v :: vs) (d :: ds)
end
section
variable {K : Fg} {H H' : Hp} {O O' : AS}
theorem not_grow {a : Addr} {u : HO} (h : H a = some u) (n : ¬ O a) (grow : ∀ a, O' a → O a ∨ H a = none) : ¬ O' a := fun q => by
  rcases grow a q with z | z
  · exact n z
  · rw [z] at h; cases h
theorem LsAt.mono {a : Addr} {xs : List V} (h : LsAt H O a xs) (keep : ∀ a o, H a = some o → ¬ O a → H' a = some o) (grow : ∀ a, O' a → O a ∨ H a = none) : LsAt H' O' a xs := ⟨keep _ _ h.1 h.2, not_grow h.1 h.2 grow⟩
theorem TpAt.mono {a : Addr} {xs : List V} (h : TpAt K H O a xs) (keep : ∀ a o, H a = some o → ¬ O a → H' a = some o) (grow : ∀ a, O' a → O a ∨ H a = none) : TpAt K H' O' a xs := by
  rcases h with ⟨h, n⟩ | h
  · exact .inl ⟨keep _ _ h n, not_grow h n grow⟩
  · exact .inr h
mutual
theorem RD.mono (keep : ∀ a o, H a = some o → ¬ O a → H' a = some o) (grow : ∀ a, O' a → O a ∨ H a = none) : ∀ {v : V} {d : D}, RD K H O v d → RD K H' O' v d
  | _, _, .non => .non
  | _, _, .bl b => .bl b
  | _, _, .int i => .int i
  | _, _, .str x => .str x
  | _, _, .lst h l r => .lst (h.mono keep grow) l (RDs.mono keep grow r)
  | _, _, .tup h l r => .tup (h.mono keep grow) l (RDs.mono keep grow r)
theorem RDs.mono (keep : ∀ a o, H a = some o → ¬ O a → H' a = some o) (grow : ∀ a, O' a → O a ∨ H a = none) : ∀ {v : List V} {d : List D}, RDs K H O v d → RDs K H' O' v d
  | _, _, .nil => .nil
  | _, _, .cons h r => .cons (RD.mono keep grow h) (RDs.mono keep grow r)
end
theorem LsAt.sq {a : Addr} {xs : List V} (h : LsAt H O a xs) : SqL K H a xs := .inl (.inl h.1)
theorem TpAt.sq {a : Addr} {xs : List V} (h : TpAt K H O a xs) : SqT K H a xs := by
  rcases h with ⟨h, _⟩ | h
  · exact .inl (.inl h)
  · exact .inr h
mutual
theorem RD.dp : ∀ {v : V} {d : D}, RD K H O v d → Dp K H v d
  | _, _, .non => .non
  | _, _, .bl b => .bl b
  | _, _, .int i => .int i
  | _, _, .str x => .str x
  | _, _, .lst h l r => .lst h.sq (RDs.dp r)
  | _, _, .tup h l r => .tup h.sq (RDs.dp r)
theorem RDs.dp : ∀ {v : List V} {d : List D}, RDs K H O v d → DpAll K H v d
  | _, _, .nil => .nil
  | _, _, .cons h r => .cons (RD.dp h) (RDs.dp r)
end
theorem RDs.length : ∀ {vs : List V} {ds : List D}, RDs K H O vs ds → vs.length = ds.length
  | _, _, .nil => rfl
  | _, _, .cons _ r => by rw [List.length_cons, List.length_cons, RDs.length r]
theorem RDs.get : ∀ {vs : List V} {ds : List D} {i : Nat} {d : D}, RDs K H O vs ds → ds[i]? = some d → ∃ v, vs[i]? = some v ∧ RD K H O v d
  | _, _, _, _, .nil, e => by simp at e
  | _, _, 0, _, .cons h _, e => by
    have e' := Option.some.inj (by simpa using e)
    subst e'
    exact ⟨_, rfl, h⟩
  | _, _, i + 1, d, .cons _ r, e => by
    obtain ⟨v, h1, h2⟩ := RDs.get (i := i) (d := d) r (by simpa using e)
    exact ⟨v, by simpa using h1, h2⟩
theorem RDs.get' : ∀ {vs : List V} {ds : List D} {i : Nat} {v : V}, RDs K H O vs ds → vs[i]? = some v → ∃ d, ds[i]? = some d ∧ RD K H O v d
  | _, _, _, _, .nil, e => by simp at e
  | _, _, 0, _, .cons h _, e => by
    have e' := Option.some.inj (by simpa using e)
    subst e'
    exact ⟨_, rfl, h⟩
  | _, _, i + 1, d, .cons _ r, e => by
    obtain ⟨v, h1, h2⟩ := RDs.get' (i := i) (v := d) r (by simpa using e)
    exact ⟨v, by simpa using h1, h2⟩
theorem RDs.append : ∀ {vs ws : List V} {ds es : List D}, RDs K H O vs ds → RDs K H O ws es → RDs K H O (vs ++ ws) (ds ++ es)
  | _, _, _, _, .nil, s => s
  | _, _, _, _, .cons h r, s => .cons h (RDs.append r s)
theorem RDs.take : ∀ {vs : List V} {ds : List D} (n : Nat), RDs K H O vs ds → RDs K H O (vs.take n) (ds.take n)
  | _, _, 0, _ => .nil
  | _, _, _ + 1, .nil => .nil
  | _, _, n + 1, .cons h r => .cons h (RDs.take n r)
theorem RDs.drop : ∀ {vs : List V} {ds : List D} (n : Nat), RDs K H O vs ds → RDs K H O (vs.drop n) (ds.drop n)
  | _, _, 0, r => r
  | _, _, _ + 1, .nil => .nil
  | _, _, n + 1, .cons _ r => RDs.drop n r
theorem RDs.set {v : V} {d : D} (h : RD K H O v d) : ∀ {vs : List V} {ds : List D} (n : Nat), RDs K H O vs ds → RDs K H O (vs.set n v) (ds.set n d)
  | _, _, _, .nil => .nil
  | _, _, 0, .cons _ r => .cons h r
  | _, _, n + 1, .cons g r => .cons g (RDs.set h n r)
theorem RDs.one {v : V} {d : D} (h : RD K H O v d) : RDs K H O [v] [d] := .cons h .nil
end

/-! ### what a piece of code comes to -/
inductive Sl where
  | no
  | fz (d : D)
  | ow (ds : List D)
  | bx
  | sq (ns : List Int)
structure En where
  sl : List Sl
  bx : Int × Int
inductive Rs (α : Type) where
  | ok (a : α)
  | ex (c : Str) (d : D) (en : En)
  | bad
@[reducible] def Rs.bind {α β : Type} (x : Rs α) (f : α → Rs β) : Rs β := match x with
  | .ok a => f a
  | .ex c d en => .ex c d en
  | .bad => .bad
instance : Monad Rs where
  pure := Rs.ok
  bind := Rs.bind
theorem ok_bind {α β : Type} (a : α) (f : α → Rs β) : (Rs.ok a >>= f) = f a := rfl
theorem bad_bind {α β : Type} (f : α → Rs β) : ((Rs.bad : Rs α) >>= f) = Rs.bad := rfl
theorem ex_bind {α β : Type} (c : Str) (d : D) (en : En) (f : α → Rs β) : ((Rs.ex c d en : Rs α) >>= f) = Rs.ex c d en := rfl
def Post {α : Type} (P : α → Prop) (E : Str → D → En → Prop) : Rs α → Prop
  | .ok a => P a
  | .ex c d en => E c d en
  | .bad => False
theorem post_bind {α β : Type} {P : β → Prop} {E : Str → D → En → Prop} {x : Rs α} {f : α → Rs β} : Post P E (x >>= f) ↔ Post (fun a => Post P E (f a)) E x := by
  cases x <;> exact Iff.rfl
theorem Post.imp {α : Type} {P P' : α → Prop} {E E' : Str → D → En → Prop} {x : Rs α} (h : Post P E x) (hp : ∀ a, P a → P' a) (he : ∀ c d en, E c d en → E' c d en) : Post P' E' x := by
  cases x with
  | ok a => exact hp a h
  | ex c d en => exact he c d en h
  | bad => exact h
abbrev DEn := En → Rs (D × En)
abbrev DTt := En → Rs (Bool × En)
abbrev DAs := En → Rs (List D × En)
inductive Out where
  | nx (en : En)
  | rt (d : D) (en : En)
  | rn (ds : List D) (en : En)
  | bk (en : En)
  | ct (en : En)
abbrev DSt := En → Rs Out

/-! ### the ghost of a body: the written part, what callers own, whether a box is made here; the classes of errors -/
structure Gh where
  K : Fg
  Out : AS
  top : Bool
  /-- of an error's class: its value, the name of its field -/
  cls : Str → Option (Value × Str)
def av (G : Gh) (M : AS) : AS := fun a => M a ∨ G.Out a
/-- the law's own script: a list of whole numbers that may be any object there is -/
def SqOk (K : Fg) (H : Hp) (O : AS) (a : Addr) (ns : List Int) : Prop := (Rd H a (.lst (ns.map V.int)) ∧ ¬ O a) ∨ ((∀ H' : Hp, SqL K H' a (ns.map V.int)))
theorem SqOk.sq {K : Fg} {H : Hp} {O : AS} {a : Addr} {ns : List Int} (h : SqOk K H O a ns) : SqL K H a (ns.map V.int) := h.elim (fun z => .inl z.1) fun z => z H
theorem SqOk.mono {K : Fg} {H H' : Hp} {O O' : AS} {a : Addr} {ns : List Int} (h : SqOk K H O a ns) (keep : ∀ a o, H a = some o → ¬ O a → H' a = some o) (grow : ∀ a, O' a → O a ∨ H a = none) : SqOk K H' O' a ns := by
  rcases h with ⟨h | ⟨o, h⟩, n⟩ | h
  · exact .inl ⟨.inl (keep _ _ h n), not_grow h n grow⟩
  · exact .inl ⟨.inr ⟨o, keep _ _ h n⟩, not_grow h n grow⟩
  · exact .inr h
def SlOk (G : Gh) (σ : L2.St) (H : Hp) (M : AS) (B : Option Addr) (i : Nat) : Sl → Prop
  | .no => True
  | .fz d => ∃ v, σ[i]? = some (some v) ∧ RD G.K H (av G M) v d
  | .ow ds => ∃ p xs, σ[i]? = some (some (.ref p)) ∧ M p ∧ H p = some (.lst xs) ∧ xs.length ≤ sizeLine ∧ RDs G.K H (av G M) xs ds
  | .bx => ∃ p, B = some p ∧ σ[i]? = some (some (.ref p))
  | .sq ns => ∃ a, σ[i]? = some (some (.ref a)) ∧ SqOk G.K H (av G M) a ns
structure Rel (G : Gh) (en : En) (σ : L2.St) (H : Hp) (M : AS) (B : Option Addr) : Prop where
  len : σ.length = en.sl.length
  slot : ∀ i s, en.sl[i]? = some s → SlOk G σ H M B i s
  inj : ∀ (i j : Nat) (p : Addr) (ds es : List D), i ≠ j → en.sl[i]? = some (Sl.ow ds) → en.sl[j]? = some (Sl.ow es) → σ[i]? = some (some (V.ref p)) → σ[j]? = some (some (V.ref p)) → False
  box : ∀ p, B = some p → M p ∧ H p = some (.lst [.int en.bx.1, .int en.bx.2])
  bne : ∀ (p : Addr) (i : Nat) (ds : List D), B = some p → en.sl[i]? = some (Sl.ow ds) → σ[i]? = some (some (V.ref p)) → False
  out : ∀ a, G.Out a → H a ≠ none ∧ ¬ M a
  mh : ∀ a, M a → H a ≠ none
structure Step (H : Hp) (M : AS) (H' : Hp) (M' : AS) : Prop where
  keep : ∀ a o, H a = some o → ¬ M a → H' a = some o
  grow : ∀ a, M' a → M a ∨ H a = none
theorem Step.refl {H : Hp} {M : AS} : Step H M H M := ⟨fun _ _ h _ => h, fun _ h => .inl h⟩
theorem Step.trans {H H1 H2 : Hp} {M M1 M2 : AS} (a : Step H M H1 M1) (b : Step H1 M1 H2 M2) : Step H M H2 M2 := by
  refine ⟨fun c o h n => b.keep c o (a.keep c o h n) fun q => ?_, fun c h => ?_⟩
  · rcases a.grow c q with z | z
    · exact n z
    · rw [h] at z; cases z
  · rcases b.grow c h with z | z
    · exact a.grow c z
    · by_cases hm : M c
      · exact .inl hm
      · cases e : H c with
        | none => exact .inr rfl
        | some o =>
          rw [a.keep c o e hm] at z
          cases z
theorem Step.ext {H H' : Hp} {M : AS} (e : ∀ a o, H a = some o → H' a = some o) : Step H M H' M := ⟨fun a o h _ => e a o h, fun _ h => .inl h⟩
theorem Step.akeep {G : Gh} {H H' : Hp} {M M' : AS} (s : Step H M H' M') : ∀ a o, H a = some o → ¬ av G M a → H' a = some o := fun a o h n => s.keep a o h fun q => n (.inl q)
theorem Step.agrow {G : Gh} {H H' : Hp} {M M' : AS} (s : Step H M H' M') : ∀ a, av G M' a → av G M a ∨ H a = none := fun a h => by
  rcases h with h | h
  · rcases s.grow a h with z | z
    · exact .inl (.inl z)
    · exact .inr z
  · exact .inl (.inr h)
theorem RD.step {G : Gh} {H H' : Hp} {M M' : AS} {v : V} {d : D} (r : RD G.K H (av G M) v d) (s : Step H M H' M') : RD G.K H' (av G M') v d := r.mono s.akeep s.agrow
theorem SqOk.step {G : Gh} {H H' : Hp} {M M' : AS} {a : Addr} {ns : List Int} (r : SqOk G.K H (av G M) a ns) (s : Step H M H' M') : SqOk G.K H' (av G M') a ns := r.mono s.akeep s.agrow
theorem RDs.step {G : Gh} {H H' : Hp} {M M' : AS} {v : List V} {d : List D} (r : RDs G.K H (av G M) v d) (s : Step H M H' M') : RDs G.K H' (av G M') v d := r.mono s.akeep s.agrow
abbrev Ext (H H' : Hp) : Prop := ∀ a o, H a = some o → H' a = some o
theorem ext_new {H : Hp} {p : Addr} {o : HO} (h : H p = none) : Ext H (upd H p o) := fun a u e => by
  rw [upd_ne (ne_of_none e h)]; exact e
theorem RD.ext {K : Fg} {O : AS} {H H' : Hp} {v : V} {d : D} (r : RD K H O v d) (e : Ext H H') : RD K H' O v d := r.mono (fun a o h _ => e a o h) fun _ h => .inl h
theorem RDs.ext {K : Fg} {O : AS} {H H' : Hp} {v : List V} {d : List D} (r : RDs K H O v d) (e : Ext H H') : RDs K H' O v d := r.mono (fun a o h _ => e a o h) fun _ h => .inl h
theorem out_step {G : Gh} {H H' : Hp} {M M' : AS} (out : ∀ a, G.Out a → H a ≠ none ∧ ¬ M a) (s : Step H M H' M') : ∀ a, G.Out a → H' a ≠ none ∧ ¬ M' a := fun a h => by
  obtain ⟨h1, h2⟩ := out a h
  cases e : H a with
  | none => exact absurd e h1
  | some o =>
    refine ⟨fun q => ?_, fun q => ?_⟩
    · rw [s.keep a o e h2] at q
      cases q
    rcases s.grow a q with z | z
    · exact h2 z
    · rw [e] at z; cases z
theorem Rel.ext {G : Gh} {en : En} {σ : L2.St} {H H' : Hp} {M : AS} {B : Option Addr} (r : Rel G en σ H M B) (e : Ext H H') : Rel G en σ H' M B := by
  have st : Step H M H' M := Step.ext e
  refine ⟨r.len, fun i s h => ?_, r.inj, fun p h => ⟨(r.box p h).1, e _ _ (r.box p h).2⟩, r.bne, out_step r.out st, fun a h q => ?_⟩
  rotate_left
  · cases z : H a with
    | none => exact r.mh a h z
    | some o => rw [e a o z] at q; cases q
  have q := r.slot i s h
  cases s with
  | no => trivial
  | fz d => obtain ⟨v, h1, h2⟩ := q; exact ⟨v, h1, h2.step st⟩
  | sq ns => obtain ⟨v, h1, h2⟩ := q; exact ⟨v, h1, h2.step st⟩
  | ow ds => obtain ⟨p, xs, h1, h2, h3, h4, h5⟩ := q; exact ⟨p, xs, h1, h2, e _ _ h3, h4, h5.step st⟩
  | bx => exact q
theorem Rel.avh {G : Gh} {en : En} {σ : L2.St} {H : Hp} {M : AS} {B : Option Addr} (r : Rel G en σ H M B) : ∀ a, av G M a → H a ≠ none := fun a h => h.elim (r.mh a) fun q => (r.out a q).1
/-- an error that flies: its class, its own dict with the field -/
def XO (G : Gh) (H : Hp) (M : AS) (cls : Value) (dd : Option Addr) (c : Str) (d : D) : Prop :=
  ∃ (f : Str) (a : Addr) (fs : List (Str × V)) (v : V), G.cls c = some (cls, f) ∧ dd = some a ∧ H a = some (.xd fs) ∧ ¬ av G M a ∧ fs.lookup f = some v ∧ RD G.K H (av G M) v d
/-- what is wished for where an error leaves -/
def EW (G : Gh) (W : WX) (σ : L2.St) (H : Hp) (M : AS) (B : Option Addr) (c : Str) (d : D) (en : En) : Prop :=
  ∀ cls dd H' M', Rel G en σ H' M' B → Step H M H' M' → XO G H' M' cls dd c d → W cls dd σ H'
theorem EW.step {G : Gh} {W : WX} {σ : L2.St} {H H1 : Hp} {M M1 : AS} {B : Option Addr} {c : Str} {d : D} {en : En} (h : EW G W σ H M B c d en) (s : Step H M H1 M1) : EW G W σ H1 M1 B c d en :=
  fun cls dd H' M' r s' x => h cls dd H' M' r (s.trans s') x
def tE (G : Gh) (W : WX) (A : DEn) : TE := fun σ H Q => ∃ en M B, Rel G en σ H M B ∧
  Post (fun p => ∀ v H' M', Rel G p.2 σ H' M' B → Step H M H' M' → RD G.K H' (av G M') v p.1 → Q v H') (EW G W σ H M B) (A en)
def tT (G : Gh) (W : WX) (A : DTt) : TT := fun σ H Q => ∃ en M B, Rel G en σ H M B ∧
  Post (fun p => ∀ H' M', Rel G p.2 σ H' M' B → Step H M H' M' → Q p.1 H') (EW G W σ H M B) (A en)
def tA (G : Gh) (W : WX) (A : DAs) : TA := fun σ H Q => ∃ en M B, Rel G en σ H M B ∧
  Post (fun p => ∀ vs H' M', Rel G p.2 σ H' M' B → Step H M H' M' → RDs G.K H' (av G M') vs p.1 → Q vs H') (EW G W σ H M B) (A en)
structure OwnV (G : Gh) (en : En) (σ : L2.St) (H : Hp) (M : AS) (B : Option Addr) (p : Addr) (ys : List V) (zs : List D) : Prop where
  own : M p
  at_ : H p = some (.lst ys)
  len : ys.length ≤ sizeLine
  rds : RDs G.K H (av G M) ys zs
  ne : ∀ (i : Nat) (ds : List D), en.sl[i]? = some (Sl.ow ds) → σ[i]? = some (some (V.ref p)) → False
  nb : B ≠ some p
def OutOk (G : Gh) (Ds : Ends) (H : Hp) (M : AS) (B : Option Addr) : Out → Prop
  | .nx en => ∀ σ' H' M' B', Rel G en σ' H' M' B' → Step H M H' M' → (G.top = false → B' = B) → Ds.nx σ' H'
  | .rt d en => ∀ v σ' H' M' B', Rel G en σ' H' M' B' → Step H M H' M' → (G.top = false → B' = B) → RD G.K H' (av G M') v d → Ds.rt v H'
  | .rn ds en => ∀ p ys σ' H' M' B', Rel G en σ' H' M' B' → Step H M H' M' → (G.top = false → B' = B) → OwnV G en σ' H' M' B' p ys ds → Ds.rt (.ref p) H'
  | .bk en => ∀ σ' H' M' B', Rel G en σ' H' M' B' → Step H M H' M' → (G.top = false → B' = B) → Ds.bk σ' H'
  | .ct en => ∀ σ' H' M' B', Rel G en σ' H' M' B' → Step H M H' M' → (G.top = false → B' = B) → Ds.ct σ' H'
def EWS (G : Gh) (W : WX) (H : Hp) (M : AS) (B : Option Addr) (c : Str) (d : D) (en : En) : Prop :=
  ∀ cls dd σ' H' M' B', Rel G en σ' H' M' B' → Step H M H' M' → (G.top = false → B' = B) → XO G H' M' cls dd c d → W cls dd σ' H'
def tS (G : Gh) (W : WX) (A : DSt) : TS := fun Ds σ H => ∃ en M B, Rel G en σ H M B ∧ Post (OutOk G Ds H M B) (EWS G W H M B) (A en)

structure DE (X : Cx) (G : Gh) (W : WX) (e : Expr) (A : DEn) : Prop where pe : PE X e (tE G W A)
structure DT (X : Cx) (G : Gh) (W : WX) (e : Expr) (A : DTt) : Prop where pt : PT X e (tT G W A)
structure DW (X : Cx) (G : Gh) (W : WX) (e : Expr) (A : DTt) : Prop where pw : PW X e (tT G W A)
structure DA (X : Cx) (G : Gh) (W : WX) (es : List Expr) (A : DAs) : Prop where pa : PA X es (tA G W A)
structure DS (X : Cx) (G : Gh) (W : WX) (st : Stmt) (A : DSt) : Prop where ps : PS X st (tS G W A)
structure DSs (X : Cx) (G : Gh) (W : WX) (st : List Stmt) (A : DSt) : Prop where pss : PSs X st (tS G W A)
theorem pe_imp {X : Cx} {e : Expr} {t t' : TE} (h : PE X e t) (i : ∀ σ H Q, t' σ H Q → t σ H Q) : PE X e t' := ⟨fun pins s σ H Q I q => h.run pins s σ H Q I (i σ H Q q)⟩
theorem pt_imp {X : Cx} {e : Expr} {t t' : TT} (h : PT X e t) (i : ∀ σ H Q, t' σ H Q → t σ H Q) : PT X e t' := ⟨fun pins s σ H Q I q => h.run pins s σ H Q I (i σ H Q q)⟩
theorem pw_imp {X : Cx} {e : Expr} {t t' : TT} (h : PW X e t) (i : ∀ σ H Q, t' σ H Q → t σ H Q) : PW X e t' := ⟨fun wh pins s σ H Q I q => h.run wh pins s σ H Q I (i σ H Q q)⟩
theorem pa_imp {X : Cx} {e : List Expr} {t t' : TA} (h : PA X e t) (i : ∀ σ H Q, t' σ H Q → t σ H Q) : PA X e t' := ⟨fun pos pins s σ H Q I q => h.run pos pins s σ H Q I (i σ H Q q)⟩
theorem ps_imp {X : Cx} {e : Stmt} {t t' : TS} (h : PS X e t) (i : ∀ Q σ H, t' Q σ H → t Q σ H) : PS X e t' := ⟨fun pins s σ H Q I q => h.run pins s σ H Q I (i Q σ H q)⟩
theorem pss_imp {X : Cx} {e : List Stmt} {t t' : TS} (h : PSs X e t) (i : ∀ Q σ H, t' Q σ H → t Q σ H) : PSs X e t' := ⟨fun pins s σ H Q I q => h.run pins s σ H Q I (i Q σ H q)⟩
end DL

namespace DL
open PySem L2

/-! ### names -/
def liftO {α : Type} : Option α → Rs α
  | some a => .ok a
  | none => .bad
theorem post_lift {α β : Type} {P : β → Prop} {E : Str → D → En → Prop} {o : Option α} {g : α → Rs β} : Post P E (liftO o >>= g) ↔ ∃ z, o = some z ∧ Post P E (g z) := by
  cases o with
  | none => exact ⟨fun h => h.elim, fun ⟨_, h, _⟩ => nomatch h⟩
  | some a => exact ⟨fun h => ⟨a, rfl, h⟩, fun ⟨z, h, q⟩ => by cases h; exact q⟩
def eVar (i : Nat) : DEn := fun en => match en.sl[i]? with
  | some (.fz d) => .ok (d, en)
  | some (.ow ds) => .ok (.list ds, { en with sl := en.sl.set i (.fz (.list ds)) })
  | _ => .bad
/-- an owned list is let go: from now on it stands -/
theorem Rel.freeze {G : Gh} {en : En} {σ : L2.St} {H : Hp} {M : AS} {B : Option Addr} {i : Nat} {ds : List D} {p : Addr} (r : Rel G en σ H M B) (h : en.sl[i]? = some (Sl.ow ds)) (hp : σ[i]? = some (some (V.ref p))) :
    ∃ M', Rel G { en with sl := en.sl.set i (.fz (.list ds)) } σ H M' B ∧ Step H M H M' ∧ RD G.K H (av G M') (.ref p) (.list ds) := by
  have hi : i < en.sl.length := (List.getElem?_eq_some_iff.mp h).1
  obtain ⟨p', xs, h1, h2, h3, h4, h5⟩ := r.slot i _ h
  obtain rfl : p' = p := by
    rw [h1] at hp
    exact V.ref.inj (Option.some.inj (Option.some.inj hp))
  have st : Step H M H (fun a => M a ∧ a ≠ p') := ⟨fun _ _ h _ => h, fun a h => .inl h.1⟩
  have rd : RD G.K H (av G fun a => M a ∧ a ≠ p') (.ref p') (.list ds) := by
    refine .lst ⟨h3, fun q => ?_⟩ h4 (h5.step st)
    rcases q with q | q
    · exact q.2 rfl
    · exact (r.out p' q).2 h2
  refine ⟨fun a => M a ∧ a ≠ p', ⟨by rw [r.len]; simp, fun j s hj => ?_, fun j k p ds es hne hj hk => ?_, fun p hb => ⟨⟨(r.box p hb).1, fun q => ?_⟩, (r.box p hb).2⟩, fun p j ds hb hj => ?_, out_step r.out st, fun a h => r.mh a h.1⟩, st, rd⟩
  · by_cases hji : j = i
    · subst hji
      rw [show ({ en with sl := en.sl.set j (Sl.fz (.list ds)) } : En).sl = en.sl.set j (Sl.fz (.list ds)) from rfl, List.getElem?_set_self hi] at hj
      cases hj
      exact ⟨_, h1, rd⟩
    · rw [show ({ en with sl := en.sl.set i (Sl.fz (.list ds)) } : En).sl = en.sl.set i (Sl.fz (.list ds)) from rfl, List.getElem?_set_ne (Ne.symm hji)] at hj
      have q := r.slot j s hj
      cases s with
      | no => trivial
      | fz d => obtain ⟨v, q1, q2⟩ := q; exact ⟨v, q1, q2.step st⟩
      | sq ns => obtain ⟨v, q1, q2⟩ := q; exact ⟨v, q1, q2.step st⟩
      | ow es =>
        obtain ⟨p, ys, q1, q2, q3, q4, q5⟩ := q
        refine ⟨p, ys, q1, ⟨q2, fun z => ?_⟩, q3, q4, q5.step st⟩
        subst z
        exact r.inj j i p es ds hji hj h q1 h1
      | bx => exact q
  · have hj' : j ≠ i := fun z => by
      subst z
      rw [show ({ en with sl := en.sl.set j (Sl.fz (.list _)) } : En).sl = en.sl.set j (Sl.fz (.list _)) from rfl, List.getElem?_set_self hi] at hj
      cases hj
    have hk' : k ≠ i := fun z => by
      subst z
      rw [show ({ en with sl := en.sl.set k (Sl.fz (.list _)) } : En).sl = en.sl.set k (Sl.fz (.list _)) from rfl, List.getElem?_set_self hi] at hk
      cases hk
    rw [show ({ en with sl := en.sl.set i (Sl.fz (.list _)) } : En).sl = en.sl.set i (Sl.fz (.list _)) from rfl, List.getElem?_set_ne (Ne.symm hj')] at hj
    rw [show ({ en with sl := en.sl.set i (Sl.fz (.list _)) } : En).sl = en.sl.set i (Sl.fz (.list _)) from rfl, List.getElem?_set_ne (Ne.symm hk')] at hk
    exact r.inj j k p _ _ hne hj hk
  · subst q
    exact r.bne _ i ds hb h h1
  · have hj' : j ≠ i := fun z => by
      subst z
      rw [show ({ en with sl := en.sl.set j (Sl.fz (.list _)) } : En).sl = en.sl.set j (Sl.fz (.list _)) from rfl, List.getElem?_set_self hi] at hj
      cases hj
    rw [show ({ en with sl := en.sl.set i (Sl.fz (.list _)) } : En).sl = en.sl.set i (Sl.fz (.list _)) from rfl, List.getElem?_set_ne (Ne.symm hj')] at hj
    exact r.bne p j ds hb hj

section
variable {X : Cx} {G : Gh} {W : WX} {pos : Pos}
theorem eVar_post {σ : L2.St} {H : Hp} {M : AS} {B : Option Addr} {en : En} {i : Nat} {P : D × En → Prop} {E : Str → D → En → Prop} (r : Rel G en σ H M B) (m : Post P E (eVar i en)) :
    ∃ v d en' M', σ[i]? = some (some v) ∧ P (d, en') ∧ Rel G en' σ H M' B ∧ Step H M H M' ∧ RD G.K H (av G M') v d := by
  unfold eVar at m
  cases e : en.sl[i]? with
  | none => rw [e] at m; exact m.elim
  | some s =>
    rw [e] at m
    cases s with
    | no => exact m.elim
    | sq ns => exact m.elim
    | bx => exact m.elim
    | fz d =>
      obtain ⟨v, h1, h2⟩ := r.slot i _ e
      exact ⟨v, d, en, M, h1, m, r, .refl, h2⟩
    | ow ds =>
      obtain ⟨p, xs, h1, h2, h3, h4, h5⟩ := r.slot i _ e
      obtain ⟨M', r', st, rd⟩ := r.freeze e h1
      exact ⟨_, _, _, M', h1, m, r', st, rd⟩
theorem de_var (i : Nat) {x : Str} (hN : X.N[i]? = some x) (hv : Vis X.env.scope x) (hd : (x == ("__debug__" : Str)) = false := by decide) (hcd : (x == ("__classdict__" : Str)) = false := by decide) : DE X G W (.Name x pos) (eVar i) :=
  ⟨pe_imp (pe_var hN hv hd hcd) fun σ H Q ⟨en, M, B, r, m⟩ => by
    obtain ⟨v, d, en', M', h1, h2, h3, h4, h5⟩ := eVar_post r m
    exact ⟨v, h1, h2 v H M' h3 h4 h5⟩⟩
/-! ### constants -/
def eC (d : D) : DEn := fun en => .ok (d, en)
theorem de_tC {e : Expr} {v : V} {d : D} (h : PE X e (tC v)) (hd : ∀ K H O, RD K H O v d) : DE X G W e (eC d) :=
  ⟨pe_imp h fun σ H Q ⟨en, M, B, r, m⟩ => m v H M r .refl (hd _ _ _)⟩
theorem de_int {i : Int} {j} : DE X G W (.Constant (.int i) j pos) (eC (.int i)) := de_tC pe_int fun _ _ _ => .int i
theorem de_bl {b : Bool} {j} : DE X G W (.Constant (.bool b) j pos) (eC (.bool b)) := de_tC pe_bl fun _ _ _ => .bl b
theorem de_non {j} : DE X G W (.Constant .none j pos) (eC .none) := de_tC pe_non fun _ _ _ => .non
theorem de_str {x : Str} {j} : DE X G W (.Constant (.str x) j pos) (eC (.str x)) := de_tC pe_str fun _ _ _ => .str x
theorem de_gint {x : Str} {i : Int} {t : Tok} (hg : Gl X x) (hm : X.mg x = some (.int i t)) (hd : (x == ("__debug__" : Str)) = false := by decide) : DE X G W (.Name x pos) (eC (.int i)) := de_tC (v := .int i) (pe_glob hg hm ⟨t, rfl⟩ hd) fun _ _ _ => .int i
theorem de_gstr {x : Str} {z : Str} {t : Tok} (hg : Gl X x) (hm : X.mg x = some (.str z t)) (hd : (x == ("__debug__" : Str)) = false := by decide) : DE X G W (.Name x pos) (eC (.str z)) := de_tC (v := .str z) (pe_glob hg hm ⟨t, rfl⟩ hd) fun _ _ _ => .str z
/-! ### operators -/
def OpS (G : Gh) (r : R2) (f : D → D → Option D) : Prop := ∀ (H : Hp) (O : AS) (x y : V) (d e z : D) (Q : VK), (∀ a, O a → H a ≠ none) → RD G.K H O x d → RD G.K H O y e → f d e = some z →
  (∀ v H', Ext H H' → RD G.K H' O v z → Q v H') → r x y H Q
def UnS (G : Gh) (r : V → Hp → VK → Prop) (f : D → Option D) : Prop := ∀ (H : Hp) (O : AS) (x : V) (d z : D) (Q : VK), (∀ a, O a → H a ≠ none) → RD G.K H O x d → f d = some z →
  (∀ v H', Ext H H' → RD G.K H' O v z → Q v H') → r x H Q
def ClS (G : Gh) (r : List V → Hp → VK → Prop) (f : List D → Option D) : Prop := ∀ (H : Hp) (O : AS) (xs : List V) (ds : List D) (z : D) (Q : VK), (∀ a, O a → H a ≠ none) → RDs G.K H O xs ds → f ds = some z →
  (∀ v H', Ext H H' → RD G.K H' O v z → Q v H') → r xs H Q
def eBin (f : D → D → Option D) (a b : DEn) : DEn := fun en => a en >>= fun p => b p.2 >>= fun q => liftO (f p.1 q.1) >>= fun z => .ok (z, q.2)
def eUn (f : D → Option D) (a : DEn) : DEn := fun en => a en >>= fun p => liftO (f p.1) >>= fun z => .ok (z, p.2)
def eCl (f : List D → Option D) (a : DAs) : DEn := fun en => a en >>= fun p => liftO (f p.1) >>= fun z => .ok (z, p.2)
variable {a b c : Expr} {A B C : DEn}
theorem op_tr {r : R2} {f : D → D → Option D} (hs : OpS G r f) : ∀ σ H Q, tE G W (eBin f A B) σ H Q → tOp r (tE G W A) (tE G W B) σ H Q := fun σ H Q ⟨en, M, Bx, rel, m⟩ =>
  ⟨en, M, Bx, rel, Post.imp (post_bind.mp m) (fun p mp v H1 M1 rel1 st1 rd1 => ⟨p.2, M1, Bx, rel1, Post.imp (post_bind.mp mp) (fun q mq w H2 M2 rel2 st2 rd2 => by
    obtain ⟨z, hz, mz⟩ := post_lift.mp mq
    exact hs H2 _ v w p.1 q.1 z Q rel2.avh (rd1.step st2) rd2 hz fun u H' ext rd => mz u H' M2 (rel2.ext ext) ((st1.trans st2).trans (.ext ext)) rd) fun c d en h => h.step st1⟩) fun _ _ _ h => h⟩
theorem un_tr {r : V → Hp → VK → Prop} {f : D → Option D} (hs : UnS G r f) : ∀ σ H Q, tE G W (eUn f A) σ H Q → tUn r (tE G W A) σ H Q := fun σ H Q ⟨en, M, Bx, rel, m⟩ =>
  ⟨en, M, Bx, rel, Post.imp (post_bind.mp m) (fun p mp v H1 M1 rel1 st1 rd1 => by
    obtain ⟨z, hz, mz⟩ := post_lift.mp mp
    exact hs H1 _ v p.1 z Q rel1.avh rd1 hz fun u H' ext rd => mz u H' M1 (rel1.ext ext) (st1.trans (.ext ext)) rd) fun _ _ _ h => h⟩
theorem cl_tr {r : List V → Hp → VK → Prop} {f : List D → Option D} {As : DAs} (hs : ClS G r f) : ∀ σ H Q, tE G W (eCl f As) σ H Q → tCB r (tA G W As) σ H Q := fun σ H Q ⟨en, M, Bx, rel, m⟩ =>
  ⟨en, M, Bx, rel, Post.imp (post_bind.mp m) (fun p mp v H1 M1 rel1 st1 rd1 => by
    obtain ⟨z, hz, mz⟩ := post_lift.mp mp
    exact hs H1 _ v p.1 z Q rel1.avh rd1 hz fun u H' ext rd => mz u H' M1 (rel1.ext ext) (st1.trans (.ext ext)) rd) fun _ _ _ h => h⟩
theorem de_op {op : Operator} {r : R2} {f : D → D → Option D} (ho : OpR X (binaryOp op) r) (hs : OpS G r f) (ha : DE X G W a A) (hb : DE X G W b B) : DE X G W (.BinOp a op b pos) (eBin f A B) :=
  ⟨pe_imp (pe_op ho ha.pe hb.pe) (op_tr hs)⟩
theorem de_un {op : UnaryOp} {r : V → Hp → VK → Prop} {f : D → Option D} (ho : UnR X (unaryOp op) r) (hs : UnS G r f) (ha : DE X G W a A) : DE X G W (.UnaryOp op a pos) (eUn f A) :=
  ⟨pe_imp (pe_un ho ha.pe) (un_tr hs)⟩
theorem de_cmp {op : CmpOp} {r : R2} {f : D → D → Option D} (ho : OpR X (compareOp op) r) (hs : OpS G r f) (ha : DE X G W a A) (hb : DE X G W b B) (hm : behindInMarks op b = false) : DE X G W (.Compare a [op] [b] pos) (eBin f A B) :=
  ⟨pe_imp (pe_cmpR ho ha.pe hb.pe hm) (op_tr hs)⟩
/-! ### tests -/
def asB : D → Option Bool
  | .bool b => some b
  | _ => none
def tV (a : DEn) : DTt := fun en => a en >>= fun p => liftO (asB p.1) >>= fun b => .ok (b, p.2)
theorem asB_rd {K : Fg} {H : Hp} {O : AS} {v : V} {d : D} {b : Bool} (r : RD K H O v d) (h : asB d = some b) : v = .bl b := by
  cases r <;> simp [asB] at h
  subst h; rfl
theorem tv_tr : ∀ σ H Q, tT G W (tV A) σ H Q → tB (tE G W A) σ H Q := fun σ H Q ⟨en, M, Bx, rel, m⟩ =>
  ⟨en, M, Bx, rel, Post.imp (post_bind.mp m) (fun p mp v H1 M1 rel1 st1 rd1 => by
    obtain ⟨z, hz, mz⟩ := post_lift.mp mp
    exact ⟨z, asB_rd rd1 hz, mz H1 M1 rel1 st1⟩) fun _ _ _ h => h⟩
theorem dt_val {e : Expr} (h : DE X G W e A) (he : ∀ whole, isTrue e X.env whole = (do let v ← whole; standAt e.pos; holding [v] (truthy v)) := by intro _; rfl) : DT X G W e (tV A) := ⟨pt_imp (pt_val h.pe he) tv_tr⟩
theorem dt_cmp {op : CmpOp} {r : R2} {f : D → D → Option D} (ho : OpR X (compareOp op) r) (hs : OpS G r f) (ha : DE X G W a A) (hb : DE X G W b B) (hm : behindInMarks op b = false) : DT X G W (.Compare a [op] [b] pos) (tV (eBin f A B)) := by
  refine ⟨pt_imp (pt_cmpR ho ha.pe hb.pe hm) fun σ H Q h => ?_⟩
  have h := tv_tr σ H Q h
  exact op_tr (r := r) hs σ H _ h
variable {rest : List Expr} {TA TB : DTt}
def tAnd (a b : DTt) : DTt := fun en => a en >>= fun p => if p.1 = true then b p.2 else .ok (false, p.2)
def tOr (a b : DTt) : DTt := fun en => a en >>= fun p => if p.1 = true then .ok (true, p.2) else b p.2
def tNot (a : DTt) : DTt := fun en => a en >>= fun p => .ok (!p.1, p.2)
theorem dw_and1 (h : DT X G W a TA) : DW X G W (.BoolOp .And [a] pos) TA := ⟨pw_and1 h.pt⟩
theorem dw_or1 (h : DT X G W a TA) : DW X G W (.BoolOp .Or [a] pos) TA := ⟨pw_or1 h.pt⟩
theorem dw_and (h : DT X G W a TA) (hr : DW X G W (.BoolOp .And (b :: rest) pos) TB) : DW X G W (.BoolOp .And (a :: b :: rest) pos) (tAnd TA TB) :=
  ⟨pw_imp (pw_and h.pt hr.pw) fun σ H Q ⟨en, M, Bx, rel, m⟩ => ⟨en, M, Bx, rel, Post.imp (post_bind.mp m) (fun p mp H1 M1 rel1 st1 => by
    by_cases c : p.1 = true
    · rw [if_pos c] at mp ⊢
      exact ⟨p.2, M1, Bx, rel1, Post.imp mp (fun q mq H2 M2 rel2 st2 => mq H2 M2 rel2 (st1.trans st2)) fun _ _ _ h => h.step st1⟩
    · rw [if_neg c] at mp ⊢
      exact mp H1 M1 rel1 st1) fun _ _ _ h => h⟩⟩
theorem dw_or (h : DT X G W a TA) (hr : DW X G W (.BoolOp .Or (b :: rest) pos) TB) : DW X G W (.BoolOp .Or (a :: b :: rest) pos) (tOr TA TB) :=
  ⟨pw_imp (pw_or h.pt hr.pw) fun σ H Q ⟨en, M, Bx, rel, m⟩ => ⟨en, M, Bx, rel, Post.imp (post_bind.mp m) (fun p mp H1 M1 rel1 st1 => by
    by_cases c : p.1 = true
    · rw [if_pos c] at mp ⊢
      exact mp H1 M1 rel1 st1
    · rw [if_neg c] at mp ⊢
      exact ⟨p.2, M1, Bx, rel1, Post.imp mp (fun q mq H2 M2 rel2 st2 => mq H2 M2 rel2 (st1.trans st2)) fun _ _ _ h => h.step st1⟩) fun _ _ _ h => h⟩⟩
theorem dt_bool {e : Expr} (h : DW X G W e TA) : DT X G W e TA := ⟨h.pw.pt⟩
theorem dt_not (h : DT X G W a TA) : DT X G W (.UnaryOp .Not a pos) (tNot TA) :=
  ⟨pt_imp (pt_not h.pt) fun σ H Q ⟨en, M, Bx, rel, m⟩ => ⟨en, M, Bx, rel, Post.imp (post_bind.mp m) (fun p mp H1 M1 rel1 st1 => mp H1 M1 rel1 st1) fun _ _ _ h => h⟩⟩
/-! ### and, or, not as values of bools; a if t else b -/
def eAnd (a b : DEn) : DEn := fun en => a en >>= fun p => liftO (asB p.1) >>= fun c => if c = true then b p.2 else .ok (.bool false, p.2)
def eOr (a b : DEn) : DEn := fun en => a en >>= fun p => liftO (asB p.1) >>= fun c => if c = true then .ok (.bool true, p.2) else b p.2
def eNot (a : DEn) : DEn := fun en => a en >>= fun p => liftO (asB p.1) >>= fun c => .ok (.bool (!c), p.2)
theorem de_one {op : BoolOp} (h : DE X G W a A) : DE X G W (.BoolOp op [a] pos) A := ⟨pe_one h.pe⟩
theorem de_and (h : DE X G W a A) (hr : DE X G W (.BoolOp .And (b :: rest) pos) B) : DE X G W (.BoolOp .And (a :: b :: rest) pos) (eAnd A B) :=
  ⟨pe_imp (pe_and h.pe hr.pe) fun σ H Q ⟨en, M, Bx, rel, m⟩ => ⟨en, M, Bx, rel, Post.imp (post_bind.mp m) (fun p mp v H1 M1 rel1 st1 rd1 => by
    obtain ⟨c, hc, mc⟩ := post_lift.mp mp
    refine ⟨c, asB_rd rd1 hc, ?_⟩
    by_cases c' : c = true
    · rw [if_pos c'] at mc ⊢
      exact ⟨p.2, M1, Bx, rel1, Post.imp mc (fun q mq w H2 M2 rel2 st2 rd2 => mq w H2 M2 rel2 (st1.trans st2) rd2) fun _ _ _ h => h.step st1⟩
    · rw [if_neg c'] at mc ⊢
      exact mc _ H1 M1 rel1 st1 (.bl false)) fun _ _ _ h => h⟩⟩
theorem de_or (h : DE X G W a A) (hr : DE X G W (.BoolOp .Or (b :: rest) pos) B) : DE X G W (.BoolOp .Or (a :: b :: rest) pos) (eOr A B) :=
  ⟨pe_imp (pe_or h.pe hr.pe) fun σ H Q ⟨en, M, Bx, rel, m⟩ => ⟨en, M, Bx, rel, Post.imp (post_bind.mp m) (fun p mp v H1 M1 rel1 st1 rd1 => by
    obtain ⟨c, hc, mc⟩ := post_lift.mp mp
    refine ⟨c, asB_rd rd1 hc, ?_⟩
    by_cases c' : c = true
    · rw [if_pos c'] at mc ⊢
      exact mc _ H1 M1 rel1 st1 (.bl true)
    · rw [if_neg c'] at mc ⊢
      exact ⟨p.2, M1, Bx, rel1, Post.imp mc (fun q mq w H2 M2 rel2 st2 rd2 => mq w H2 M2 rel2 (st1.trans st2) rd2) fun _ _ _ h => h.step st1⟩) fun _ _ _ h => h⟩⟩
theorem de_not (h : DE X G W a A) : DE X G W (.UnaryOp .Not a pos) (eNot A) :=
  ⟨pe_imp (pe_not h.pe) fun σ H Q ⟨en, M, Bx, rel, m⟩ => ⟨en, M, Bx, rel, Post.imp (post_bind.mp m) (fun p mp v H1 M1 rel1 st1 rd1 => by
    obtain ⟨c, hc, mc⟩ := post_lift.mp mp
    exact ⟨c, asB_rd rd1 hc, mc _ H1 M1 rel1 st1 (.bl _)⟩) fun _ _ _ h => h⟩⟩
def eIf (t : DTt) (a b : DEn) : DEn := fun en => t en >>= fun p => if p.1 = true then a p.2 else b p.2
theorem de_if (h : DT X G W c TA) (ha : DE X G W a A) (hb : DE X G W b B) : DE X G W (.IfExp c a b pos) (eIf TA A B) :=
  ⟨pe_imp (pe_ifExp h.pt ha.pe hb.pe) fun σ H Q ⟨en, M, Bx, rel, m⟩ => ⟨en, M, Bx, rel, Post.imp (post_bind.mp m) (fun p mp H1 M1 rel1 st1 => by
    by_cases c' : p.1 = true
    · rw [if_pos c'] at mp ⊢
      exact ⟨p.2, M1, Bx, rel1, Post.imp mp (fun q mq w H2 M2 rel2 st2 rd2 => mq w H2 M2 rel2 (st1.trans st2) rd2) fun _ _ _ h => h.step st1⟩
    · rw [if_neg c'] at mp ⊢
      exact ⟨p.2, M1, Bx, rel1, Post.imp mp (fun q mq w H2 M2 rel2 st2 rd2 => mq w H2 M2 rel2 (st1.trans st2) rd2) fun _ _ _ h => h.step st1⟩) fun _ _ _ h => h⟩⟩
/-! ### arguments, displays -/
def aNil : DAs := fun en => .ok ([], en)
def aCons (a : DEn) (r : DAs) : DAs := fun en => a en >>= fun p => r p.2 >>= fun q => .ok (p.1 :: q.1, q.2)
variable {es : List Expr} {As : DAs}
theorem da_nil : DA X G W [] aNil := ⟨pa_imp pa_nil fun σ H Q ⟨en, M, Bx, rel, m⟩ => m [] H M rel .refl .nil⟩
theorem da_cons (ha : DE X G W a A) (hr : DA X G W es As) (hs : starEach (a :: es) X.env = (false, eval a X.env) :: starEach es X.env := by rfl) : DA X G W (a :: es) (aCons A As) :=
  ⟨pa_imp (pa_cons ha.pe hr.pa hs) fun σ H Q ⟨en, M, Bx, rel, m⟩ => ⟨en, M, Bx, rel, Post.imp (post_bind.mp m) (fun p mp v H1 M1 rel1 st1 rd1 =>
    ⟨p.2, M1, Bx, rel1, Post.imp (post_bind.mp mp) (fun q mq ws H2 M2 rel2 st2 rd2 => mq _ H2 M2 rel2 (st1.trans st2) (.cons (rd1.step st2) rd2)) fun _ _ _ h => h.step st1⟩) fun _ _ _ h => h⟩⟩
def mkT (ds : List D) : Option D := if ds.length ≤ sizeLine then some (.tuple ds) else none
def mkL (ds : List D) : Option D := if ds.length ≤ sizeLine then some (.list ds) else none
theorem new_tup {K : Fg} {H : Hp} {O : AS} {xs : List V} {ds : List D} {p : Addr} (hO : ∀ a, O a → H a ≠ none) (r : RDs K H O xs ds) (hl : xs.length ≤ sizeLine) (hp : H p = none) : RD K (upd H p (.tup xs)) O (.ref p) (.tuple ds) :=
  .tup (.inl ⟨upd_same, fun q => hO p q hp⟩) hl (r.ext (ext_new hp))
theorem new_lst {K : Fg} {H : Hp} {O : AS} {xs : List V} {ds : List D} {p : Addr} (hO : ∀ a, O a → H a ≠ none) (r : RDs K H O xs ds) (hl : xs.length ≤ sizeLine) (hp : H p = none) : RD K (upd H p (.lst xs)) O (.ref p) (.list ds) :=
  .lst ⟨upd_same, fun q => hO p q hp⟩ hl (r.ext (ext_new hp))
theorem de_tup {k : Nat} (h : DA X G W es As) : DE X G W (.Tuple es k pos) (eCl mkT As) :=
  ⟨pe_imp (pe_tup h.pa) fun σ H Q q => cl_tr (r := fun xs H1 Q => xs.length ≤ sizeLine ∧ ∀ p, H1 p = none → Q (.ref p) (upd H1 p (.tup xs))) (fun H O xs ds z Q hO rd hz hq => by
    unfold mkT at hz
    split at hz
    · rename_i hl
      cases hz
      have hl' : xs.length ≤ sizeLine := by rw [rd.length]; exact hl
      exact ⟨hl', fun p hp => hq _ _ (ext_new hp) (new_tup hO rd hl' hp)⟩
    · cases hz) σ H Q q⟩
theorem de_lst (h : DA X G W es As) : DE X G W (.List es pos) (eCl mkL As) :=
  ⟨pe_imp (pe_lst h.pa) fun σ H Q q => cl_tr (r := fun xs H1 Q => xs.length ≤ sizeLine ∧ ∀ p, H1 p = none → Q (.ref p) (upd H1 p (.lst xs))) (fun H O xs ds z Q hO rd hz hq => by
    unfold mkL at hz
    split at hz
    · rename_i hl
      cases hz
      have hl' : xs.length ≤ sizeLine := by rw [rd.length]; exact hl
      exact ⟨hl', fun p hp => hq _ _ (ext_new hp) (new_lst hO rd hl' hp)⟩
    · cases hz) σ H Q q⟩
/-! ### calls of built-ins -/
theorem de_callB {id : String} {x : Str} {p : Pos} {r : List V → Hp → VK → Prop} {f : List D → Option D} (hc : CallR X (.builtin id) r) (hs : ClS G r f) (hg : Gl X x) (hm : X.mg x = none) (hv : bootBuiltins x = some (.builtin id)) (ha : DA X G W (a :: es) As)
    (hn : x ≠ "__name__" := by decide) (hdb : (x == ("__debug__" : Str)) = false := by decide) (he : starEach (a :: es) X.env = (false, eval a X.env) :: starEach es X.env := by rfl) (hpl : (backTo pos (starEach es X.env)).any (·.1) = false := by rfl) :
    DE X G W (.Call (.Name x p) (a :: es) [] pos) (eCl f As) := ⟨pe_imp (pe_callB hc hg hm hv ha.pa hn hdb he hpl) (cl_tr hs)⟩
theorem de_callTy {T : String} {x : Str} {p : Pos} {r : List V → Hp → VK → Prop} {f : List D → Option D} (hc : CallR X (.type T) r) (hs : ClS G r f) (hg : Gl X x) (hm : X.mg x = none) (hv : bootBuiltins x = some (.type T)) (ha : DA X G W (a :: es) As)
    (hn : x ≠ "__name__" := by decide) (hdb : (x == ("__debug__" : Str)) = false := by decide) (he : starEach (a :: es) X.env = (false, eval a X.env) :: starEach es X.env := by rfl) (hpl : (backTo pos (starEach es X.env)).any (·.1) = false := by rfl) :
    DE X G W (.Call (.Name x p) (a :: es) [] pos) (eCl f As) := ⟨pe_imp (pe_callTy hc hg hm hv ha.pa hn hdb he hpl) (cl_tr hs)⟩
end
end DL

namespace DL
open PySem L2

/-! ### plain data -/
theorem depth64 {A : Around} {d e : D} (hu : A.units + 64 < cLine) (h : d.depth ≤ 64) : A.units + min d.depth e.depth < cLine := by omega
section
variable {X : Cx} {G : Gh}
/-! ### + - * // % ** and - x -/
def rInt2 (C : Int → Int → Prop) (g : Int → Int → Int) : R2 := rI C fun i j => .int (g i j)
def dAdd : D → D → Option D
  | .int i, .int j => some (.int (i + j))
  | .str x, .str y => if x.length + y.length ≤ sizeLine then some (.str (x ++ y)) else none
  | .list xs, .list ys => if xs.length + ys.length ≤ sizeLine then some (.list (xs ++ ys)) else none
  | .tuple xs, .tuple ys => if xs.length + ys.length ≤ sizeLine then some (.tuple (xs ++ ys)) else none
  | _, _ => none
def rAddA (K : Fg) : R2 := fun x y H Q => (rI0 fun i j => .int (i + j)) x y H Q ∨ (∃ i j, x = .str i ∧ y = .str j ∧ i.length + j.length ≤ sizeLine ∧ Q (.str (i ++ j)) H) ∨ rCat x y H Q ∨ rCatA K x y H Q
theorem op_addA : OpR X (binaryOp .Add) (rAddA X.K) := OpR.or op_add (OpR.or op_add_str (OpR.or op_cat op_catA))
theorem ops_add : OpS G (rAddA G.K) dAdd := by
  intro H O x y d e z Q hO rx ry hz hq
  cases rx with
  | int i =>
    cases ry with
    | int j =>
      cases hz
      exact .inl ⟨i, j, rfl, rfl, hq _ _ (fun _ _ h => h) (.int _)⟩
    | _ => cases hz
  | str a =>
    cases ry with
    | str b =>
      simp only [dAdd] at hz
      split at hz
      · rename_i hl
        cases hz
        exact .inr (.inl ⟨a, b, rfl, rfl, hl, hq _ _ (fun _ _ h => h) (.str _)⟩)
      · cases hz
    | _ => cases hz
  | @lst a xs ds h1 h2 h3 =>
    cases ry with
    | @lst b ys es k1 k2 k3 =>
      simp only [dAdd] at hz
      split at hz
      · rename_i hl
        cases hz
        have hl' : xs.length + ys.length ≤ sizeLine := by rw [← h3.length, ← k3.length] at hl; exact hl
        exact .inr (.inr (.inl ⟨_, _, _, _, rfl, rfl, h1.1, k1.1, hl', fun p hp => hq _ _ (ext_new hp) (new_lst hO (h3.append k3) (by rw [List.length_append]; exact hl') hp)⟩))
      · cases hz
    | _ => cases hz
  | @tup a xs ds h1 h2 h3 =>
    cases ry with
    | @tup b ys es k1 k2 k3 =>
      simp only [dAdd] at hz
      split at hz
      · rename_i hl
        cases hz
        have hl' : xs.length + ys.length ≤ sizeLine := by rw [← h3.length, ← k3.length] at hl; exact hl
        refine .inr (.inr (.inr ⟨_, _, _, _, rfl, rfl, h1.sq, k1.sq, hl', fun z1 => ?_, fun z1 z2 => ?_, fun _ _ p hp => hq _ _ (ext_new hp) (new_tup hO (h3.append k3) (by rw [List.length_append]; exact hl') hp)⟩))
        · subst z1
          cases h3
          exact hq _ _ (fun _ _ h => h) (.tup k1 k2 k3)
        · subst z2
          cases k3
          rw [List.append_nil] at hq
          exact hq _ _ (fun _ _ h => h) (.tup h1 h2 h3)
      · cases hz
    | _ => cases hz
  | _ => cases ry <;> cases hz
/-- two ints in, an int out, under a test -/
def dII (C : Int → Int → Bool) (g : Int → Int → Int) : D → D → Option D
  | .int i, .int j => if C i j = true then some (.int (g i j)) else none
  | _, _ => none
theorem ops_II {C : Int → Int → Prop} {c : Int → Int → Bool} {g : Int → Int → Int} (hc : ∀ i j, c i j = true → C i j) : OpS G (rI C fun i j => .int (g i j)) (dII c g) := by
  intro H O x y d e z Q hO rx ry hz hq
  cases rx with
  | int i =>
    cases ry with
    | int j =>
      simp only [dII] at hz
      split at hz
      · rename_i h
        cases hz
        exact ⟨i, j, rfl, rfl, hc i j h, hq _ _ (fun _ _ h => h) (.int _)⟩
      · cases hz
    | _ => cases hz
  | _ => cases ry <;> cases hz
def dSub : D → D → Option D := dII (fun _ _ => true) fun i j => i - j
theorem op_subA : OpR X (binaryOp .Sub) (rI (fun _ _ => True) fun i j => .int (i - j)) := fun pins s σ H x y v u Q I rx ry ⟨i, j, h1, h2, _, q⟩ => op_sub pins s σ H x y v u Q I rx ry ⟨i, j, h1, h2, q⟩
theorem ops_sub : OpS G (rI (fun _ _ => True) fun i j => .int (i - j)) dSub := ops_II fun _ _ _ => trivial
def cMod (_ j : Int) : Bool := decide (0 < j)
def dMod : D → D → Option D := dII cMod fun i j => i % j
theorem ops_mod : OpS G (rI (fun _ j => 0 < j) fun i j => .int (i % j)) dMod := ops_II fun _ _ h => of_decide_eq_true h
def cDiv (_ j : Int) : Bool := decide (0 < j) && decide (j.natAbs.log2 < 9000)
def dDiv : D → D → Option D := dII cDiv fun i j => i / j
theorem ops_div : OpS G (rI CDivW fun i j => .int (i / j)) dDiv := ops_II fun i j h => by
  unfold cDiv at h
  rw [Bool.and_eq_true] at h
  exact ⟨of_decide_eq_true h.1, of_decide_eq_true h.2⟩
def cPow (i j : Int) : Bool := decide (0 ≤ j) && decide (j ≤ 1000000) && decide (i.natAbs < 2 ^ 64)
def dPow : D → D → Option D := dII cPow fun i j => i ^ j.toNat
theorem ops_pow : OpS G (rI CPow fun i j => .int (i ^ j.toNat)) dPow := ops_II fun i j h => by
  unfold cPow at h
  rw [Bool.and_eq_true, Bool.and_eq_true] at h
  exact ⟨of_decide_eq_true h.1.1, of_decide_eq_true h.1.2, of_decide_eq_true h.2⟩
/-- * of ints; a list or a tuple times an int -/
def cMul (i j : Int) : Bool := (decide (-(2 ^ 64) < i) && decide (i < 2 ^ 64)) || ((decide (-(2 ^ 64) < j) && decide (j < 2 ^ 64)) || decide (i.natAbs.log2 + j.natAbs.log2 < 1000000))
def dMul : D → D → Option D
  | .int i, .int j => if cMul i j = true then some (.int (i * j)) else none
  | .list xs, .int k => if 0 ≤ k ∧ k < 2 ^ 63 ∧ xs.length * k.toNat ≤ sizeLine then some (.list (List.replicate k.toNat xs).flatten) else none
  | .tuple xs, .int k => if xs ≠ [] ∧ 2 ≤ k ∧ k ≤ 1000 ∧ xs.length ≤ 1000 then some (.tuple (List.replicate k.toNat xs).flatten) else none
  | _, _ => none
def rMulA (K : Fg) : R2 := fun x y H Q => (rI CMul fun i j => .int (i * j)) x y H Q ∨ (rI CMulW fun i j => .int (i * j)) x y H Q ∨ rRep x y H Q ∨ rRepT K x y H Q
theorem op_mulA : OpR X (binaryOp .Mult) (rMulA X.K) := OpR.or op_mul (OpR.or op_mulW (OpR.or op_rep op_repT))
theorem RDs.rep {K : Fg} {H : Hp} {O : AS} {xs : List V} {ds : List D} (h : RDs K H O xs ds) : ∀ k : Nat, RDs K H O (List.replicate k xs).flatten (List.replicate k ds).flatten
  | 0 => .nil
  | k + 1 => by
    rw [List.replicate_succ, List.replicate_succ, List.flatten_cons, List.flatten_cons]
    exact h.append (RDs.rep h k)
theorem ops_mul : OpS G (rMulA G.K) dMul := by
  intro H O x y d e z Q hO rx ry hz hq
  cases rx with
  | int i =>
    cases ry with
    | int j =>
      simp only [dMul] at hz
      split at hz
      · rename_i h
        cases hz
        unfold cMul at h
        rw [Bool.or_eq_true, Bool.or_eq_true, Bool.and_eq_true, Bool.and_eq_true] at h
        rcases h with h | h | h
        · exact .inl ⟨i, j, rfl, rfl, .inl ⟨of_decide_eq_true h.1, of_decide_eq_true h.2⟩, hq _ _ (fun _ _ h => h) (.int _)⟩
        · exact .inl ⟨i, j, rfl, rfl, .inr ⟨of_decide_eq_true h.1, of_decide_eq_true h.2⟩, hq _ _ (fun _ _ h => h) (.int _)⟩
        · exact .inr (.inl ⟨i, j, rfl, rfl, (show i.natAbs.log2 + j.natAbs.log2 < 1000000 from of_decide_eq_true h), hq _ _ (fun _ _ h => h) (.int _)⟩)
      · cases hz
    | _ => cases hz
  | @lst a xs ds h1 h2 h3 =>
    cases ry with
    | int k =>
      simp only [dMul] at hz
      split at hz
      · rename_i h
        cases hz
        have hl' : xs.length * k.toNat ≤ sizeLine := by have := h.2.2; rw [← h3.length] at this; exact this
        exact .inr (.inr (.inl ⟨_, k, _, rfl, rfl, h1.1, by omega, h.2.1, hl', fun p hp => hq _ _ (ext_new hp) (new_lst hO (h3.rep _) (by rw [PyProof.Rows.lm_len_rep_flat, Nat.mul_comm]; exact hl') hp)⟩))
      · cases hz
    | _ => cases hz
  | @tup a xs ds h1 h2 h3 =>
    cases ry with
    | int k =>
      simp only [dMul] at hz
      split at hz
      · rename_i h
        cases hz
        have hl : xs.length ≤ 1000 := by rw [h3.length]; exact h.2.2.2
        refine .inr (.inr (.inr ⟨_, k, _, rfl, rfl, h1.sq, fun q => h.1 ?_, h.2.1, h.2.2.1, hl, fun p hp => hq _ _ (ext_new hp) (new_tup hO (h3.rep _) ?_ hp)⟩))
        · subst q
          cases h3
          rfl
        · rw [PyProof.Rows.lm_len_rep_flat]
          have h5 : k.toNat ≤ 1000 := by have := h.2.2.1; omega
          have := Nat.mul_le_mul h5 hl
          have e : sizeLine = 16777216 := sizeLine_eq
          omega
      · cases hz
    | _ => cases hz
  | _ => cases ry <;> cases hz
def dNeg : D → Option D
  | .int i => some (.int (-i))
  | _ => none
theorem uns_neg : UnS G (rU fun i => .int (-i)) dNeg := by
  intro H O x d z Q hO rx hz hq
  cases rx with
  | int i => cases hz; exact ⟨i, rfl, hq _ _ (fun _ _ h => h) (.int _)⟩
  | _ => cases hz
/-! ### == != < <= > >= is None, in -/
def dEq : D → D → Option D
  | .int i, .int j => some (.bool (i == j))
  | .str i, .str j => some (.bool (i == j))
  | d, e => if SeqAt.shaped d = true ∧ SeqAt.shaped e = true then some (.bool (PyData.eqv d e)) else none
def dNe : D → D → Option D
  | .int i, .int j => some (.bool (!(i == j)))
  | .str i, .str j => some (.bool (!(i == j)))
  | d, e => if SeqAt.shaped d = true ∧ SeqAt.shaped e = true then some (.bool (!PyData.eqv d e)) else none
theorem shaped_int (i : Int) : SeqAt.shaped (.int i) = true := by
  simp [SeqAt.shaped, PyData.canLay0, PyData.depth]
def rEqA (K : Fg) : R2 := fun x y H Q => rEqD K x y H Q ∨ rEq x y H Q
def rNeA (K : Fg) : R2 := fun x y H Q => rNeD K x y H Q ∨ rNe x y H Q
theorem op_eqA {X : Cx} (hu : X.A.units + 64 < cLine) : OpR X (compareOp .Eq) (rEqA X.K) := OpR.or (op_eqD hu) op_eq
theorem op_neA {X : Cx} (hu : X.A.units + 64 < cLine) : OpR X (compareOp .NotEq) (rNeA X.K) := OpR.or (op_neD hu) op_ne
theorem decS {i j : Str} : decide (V.str i = V.str j) = (i == j) := by
  rw [Bool.eq_iff_iff]
  simp
theorem ops_eq : OpS G (rEqA G.K) dEq := by
  intro H O x y d e z Q hO rx ry hz hq
  have gen : (SeqAt.shaped d = true ∧ SeqAt.shaped e = true) → z = .bool (PyData.eqv d e) → rEqA G.K x y H Q := fun h hz => .inl ⟨d, e, rx.dp, ry.dp, h.1, h.2, hq _ _ (fun _ _ h => h) (by rw [hz]; exact .bl _)⟩
  unfold dEq at hz
  split at hz
  · cases hz
    exact gen ⟨shaped_int _, shaped_int _⟩ (by simp [PyData.eqv])
  · cases hz
    cases rx
    cases ry
    exact .inr ⟨rfl, hq _ _ (fun _ _ h => h) (by rw [decS]; exact .bl _)⟩
  · split at hz
    · rename_i h
      cases hz
      exact gen h rfl
    · cases hz
theorem ops_ne : OpS G (rNeA G.K) dNe := by
  intro H O x y d e z Q hO rx ry hz hq
  have gen : (SeqAt.shaped d = true ∧ SeqAt.shaped e = true) → z = .bool (!PyData.eqv d e) → rNeA G.K x y H Q := fun h hz => .inl ⟨d, e, rx.dp, ry.dp, h.1, h.2, hq _ _ (fun _ _ h => h) (by rw [hz]; exact .bl _)⟩
  unfold dNe at hz
  split at hz
  · cases hz
    exact gen ⟨shaped_int _, shaped_int _⟩ (by simp [PyData.eqv])
  · cases hz
    cases rx
    cases ry
    exact .inr ⟨rfl, hq _ _ (fun _ _ h => h) (by rw [decS]; exact .bl _)⟩
  · split at hz
    · rename_i h
      cases hz
      exact gen h rfl
    · cases hz
/-- an order of alike data -/
def cmpOk (d e : D) : Bool := PySem.W.alike d e && (decide (d.depth ≤ 64) && !(match d with | .none => true | _ => false))
theorem cmpOk_of {d e : D} (h : cmpOk d e = true) : PySem.W.alike d e = true ∧ d.depth ≤ 64 ∧ d ≠ .none := by
  unfold cmpOk at h
  rw [Bool.and_eq_true, Bool.and_eq_true] at h
  refine ⟨h.1, of_decide_eq_true h.2.1, fun q => ?_⟩
  subst q
  exact absurd h.2.2 (by decide)
def dOrd (g : D → D → Bool) (gi : Int → Int → Bool) : D → D → Option D
  | .int i, .int j => some (.bool (gi i j))
  | d, e => if cmpOk d e = true then some (.bool (g d e)) else none
def rOrd (K : Fg) (g : D → D → Bool) : R2 := fun x y H Q => ∃ d e, Dp K H x d ∧ Dp K H y e ∧ cmpOk d e = true ∧ Q (.bl (g d e)) H
theorem cmpOk_int (i j : Int) : cmpOk (.int i) (.int j) = true := by simp [cmpOk, PySem.W.alike, PyData.depth]
theorem ops_ord {g : D → D → Bool} {gi : Int → Int → Bool} (h : ∀ i j, g (.int i) (.int j) = gi i j) : OpS G (rOrd G.K g) (dOrd g gi) := by
  intro H O x y d e z Q hO rx ry hz hq
  unfold dOrd at hz
  split at hz
  · cases hz
    exact ⟨_, _, rx.dp, ry.dp, cmpOk_int _ _, hq _ _ (fun _ _ h => h) (by rw [h]; exact .bl _)⟩
  · split at hz
    · rename_i hc
      cases hz
      exact ⟨_, _, rx.dp, ry.dp, hc, hq _ _ (fun _ _ h => h) (.bl _)⟩
    · cases hz
def dLt : D → D → Option D := dOrd (fun d e => PySem.W.dataLt d e) fun i j => decide (i < j)
def dGt : D → D → Option D := dOrd (fun d e => PySem.W.dataLt e d) fun i j => decide (j < i)
def dLe : D → D → Option D := dOrd (fun d e => !PySem.W.dataLt e d) fun i j => decide (i ≤ j)
def dGe : D → D → Option D := dOrd (fun d e => !PySem.W.dataLt d e) fun i j => decide (j ≤ i)
theorem nlt_le (i j : Int) : (!decide (j < i)) = decide (i ≤ j) := by
  by_cases h : j < i
  · rw [decide_eq_true h, decide_eq_false (by omega)]; rfl
  · rw [decide_eq_false h, decide_eq_true (by omega)]; rfl
theorem ops_lt : OpS G (rOrd G.K fun d e => PySem.W.dataLt d e) dLt := ops_ord fun i j => PySem.W.dataLt_int i j
theorem ops_gt : OpS G (rOrd G.K fun d e => PySem.W.dataLt e d) dGt := ops_ord fun i j => PySem.W.dataLt_int j i
theorem ops_le : OpS G (rOrd G.K fun d e => !PySem.W.dataLt e d) dLe := ops_ord fun i j => by rw [PySem.W.dataLt_int]; exact nlt_le i j
theorem ops_ge : OpS G (rOrd G.K fun d e => !PySem.W.dataLt d e) dGe := ops_ord fun i j => by rw [PySem.W.dataLt_int]; exact nlt_le j i
theorem op_ltO (hu : X.A.units + 64 < cLine) : OpR X (compareOp .Lt) (rOrd X.K fun d e => PySem.W.dataLt d e) := by
  intro pins s σ H x y v u Q I rx ry h
  obtain ⟨d, e, hd, he, hc, q⟩ := h
  obtain ⟨as, r1⟩ := Dp.reads I d x v hd rx
  obtain ⟨bs, r2⟩ := Dp.reads I e y u he ry
  obtain ⟨c1, c2, c3⟩ := cmpOk_of hc
  exact PySem.W.lt_data r1 r2 c1 c3 (depth64 hu c2) (fin_bl I q rfl)
theorem op_gtO (hu : X.A.units + 64 < cLine) : OpR X (compareOp .Gt) (rOrd X.K fun d e => PySem.W.dataLt e d) := by
  intro pins s σ H x y v u Q I rx ry h
  obtain ⟨d, e, hd, he, hc, q⟩ := h
  obtain ⟨as, r1⟩ := Dp.reads I d x v hd rx
  obtain ⟨bs, r2⟩ := Dp.reads I e y u he ry
  obtain ⟨c1, c2, c3⟩ := cmpOk_of hc
  exact PySem.W.gt_data r1 r2 c1 c3 (depth64 hu c2) (fin_bl I q rfl)
theorem op_leO (hu : X.A.units + 64 < cLine) : OpR X (compareOp .LtE) (rOrd X.K fun d e => !PySem.W.dataLt e d) := by
  intro pins s σ H x y v u Q I rx ry h
  obtain ⟨d, e, hd, he, hc, q⟩ := h
  obtain ⟨as, r1⟩ := Dp.reads I d x v hd rx
  obtain ⟨bs, r2⟩ := Dp.reads I e y u he ry
  obtain ⟨c1, c2, c3⟩ := cmpOk_of hc
  exact PySem.W.le_data r1 r2 c1 c3 (depth64 hu c2) (fin_bl I q rfl)
theorem op_geO (hu : X.A.units + 64 < cLine) : OpR X (compareOp .GtE) (rOrd X.K fun d e => !PySem.W.dataLt d e) := by
  intro pins s σ H x y v u Q I rx ry h
  obtain ⟨d, e, hd, he, hc, q⟩ := h
  obtain ⟨as, r1⟩ := Dp.reads I d x v hd rx
  obtain ⟨bs, r2⟩ := Dp.reads I e y u he ry
  obtain ⟨c1, c2, c3⟩ := cmpOk_of hc
  exact PySem.W.ge_data r1 r2 c1 c3 (depth64 hu c2) (fin_bl I q rfl)
/-- is None, is not None -/
def dIsN (d e : D) : Option D := match e with
  | .none => some (.bool (match d with | .none => true | _ => false))
  | _ => none
def dNotN (d e : D) : Option D := match e with
  | .none => some (.bool (match d with | .none => false | _ => true))
  | _ => none
theorem ops_isN : OpS G (fun x y H Q => y = .non ∧ Q (.bl (decide (x = .non))) H) dIsN := by
  intro H O x y d e z Q hO rx ry hz hq
  cases ry <;> simp only [dIsN, reduceCtorEq, Option.some.injEq] at hz
  subst hz
  refine ⟨rfl, hq _ _ (fun _ _ h => h) ?_⟩
  cases rx <;> exact .bl _
theorem ops_notN : OpS G (fun x y H Q => y = .non ∧ Q (.bl (!decide (x = .non))) H) dNotN := by
  intro H O x y d e z Q hO rx ry hz hq
  cases ry <;> simp only [dNotN, reduceCtorEq, Option.some.injEq] at hz
  subst hz
  refine ⟨rfl, hq _ _ (fun _ _ h => h) ?_⟩
  cases rx <;> exact .bl _
/-- x in xs, of flat things -/
def flatD : D → Bool
  | .none => true
  | .bool _ => true
  | .int _ => true
  | .str _ => true
  | _ => false
end
end DL

namespace DL
open PySem L2
section
variable {X : Cx} {G : Gh} {W : WX} {pos : Pos} {a b : Expr} {es : List Expr} {A B : DEn} {As : DAs}
/-! ### x in xs -/
theorem flat_rd {K : Fg} {H : Hp} {O : AS} {v : V} {d : D} (r : RD K H O v d) (f : flatD d = true) : flatV v = true := by
  cases r <;> first | rfl | cases f
theorem eqV_eqv {K : Fg} {H : Hp} {O : AS} {v w : V} {d e : D} (r : RD K H O v d) (q : RD K H O w e) (f : flatD d = true) (g : flatD e = true) : eqV v w = PyData.eqv d e := by
  cases r <;> cases q <;> first | rfl | cases f | cases g | simp [eqV, PyData.eqv]
theorem flat_all {K : Fg} {H : Hp} {O : AS} : ∀ {vs : List V} {ds : List D}, RDs K H O vs ds → ds.all flatD = true → vs.all flatV = true
  | _, _, .nil, _ => rfl
  | _, _, .cons h r, f => by
    rw [List.all_cons, Bool.and_eq_true] at f ⊢
    exact ⟨flat_rd h f.1, flat_all r f.2⟩
theorem inV_eqv {K : Fg} {H : Hp} {O : AS} {v : V} {d : D} (q : RD K H O v d) (g : flatD d = true) : ∀ {vs : List V} {ds : List D}, RDs K H O vs ds → ds.all flatD = true → inV v vs = ds.any fun y => PyData.eqv y d
  | _, _, .nil, _ => rfl
  | _, _, .cons h r, f => by
    rw [List.all_cons, Bool.and_eq_true] at f
    have ih := inV_eqv q g r f.2
    unfold inV at ih ⊢
    rw [List.any_cons, List.any_cons, ih, eqV_eqv h q f.1 g]
def dInSeq (neg : Bool) (d : D) (ds : List D) : Option D := if flatD d = true ∧ ds.all flatD = true then some (.bool (if neg = true then !ds.any fun y => PyData.eqv y d else ds.any fun y => PyData.eqv y d)) else none
def dInN (neg : Bool) : D → D → Option D
  | d, .list ds => dInSeq neg d ds
  | d, .tuple ds => dInSeq neg d ds
  | _, _ => none
theorem ops_in (neg : Bool) : OpS G (rIn G.K neg) (dInN neg) := by
  intro H O x y d e z Q hO rx ry hz hq
  have fin : ∀ {p : Addr} {vs : List V} {ds : List D}, RDs G.K H O vs ds → (SqL G.K H p vs ∨ SqT G.K H p vs) → dInSeq neg d ds = some z → rIn G.K neg x (.ref p) H Q := fun {p vs ds} r hs hz => by
    unfold dInSeq at hz
    split at hz
    · rename_i h
      cases hz
      refine ⟨p, vs, rfl, hs, flat_rd rx h.1, flat_all r h.2, hq _ _ (fun _ _ h => h) ?_⟩
      rw [inV_eqv rx h.1 r h.2]
      exact .bl _
    · cases hz
  cases ry with
  | lst h1 h2 h3 => exact fin h3 (.inl h1.sq) hz
  | tup h1 h2 h3 => exact fin h3 (.inr h1.sq) hz
  | _ => cases hz
def dIn : D → D → Option D := dInN false
def dNotIn : D → D → Option D := dInN true
/-! ### xs[i], xs[a:b] -/
def dIx : D → D → Option D
  | .list ds, .int i => atI ds i
  | .tuple ds, .int i => atI ds i
  | .str z, .int i => if z.length ≤ sizeLine then (atI z.cps.toList i).map fun c => .str ⟨#[c]⟩ else none
  | _, _ => none
theorem RDs.atI {K : Fg} {H : Hp} {O : AS} {vs : List V} {ds : List D} {i : Int} {d : D} (r : RDs K H O vs ds) (h : L2.atI ds i = some d) : ∃ v, L2.atI vs i = some v ∧ RD K H O v d := by
  unfold L2.atI at h ⊢
  rw [r.length]
  cases e : ixN ds.length i with
  | none => rw [e] at h; cases h
  | some j =>
    rw [e] at h
    obtain ⟨v, h1, h2⟩ := r.get h
    exact ⟨v, h1, h2⟩
theorem ops_ix : OpS G (rIx G.K) dIx := by
  intro H O x y d e z Q hO rx ry hz hq
  cases ry with
  | int i =>
    cases rx with
    | lst h1 h2 h3 =>
      obtain ⟨v, e1, e2⟩ := h3.atI hz
      exact .inl ⟨_, _, i, v, rfl, rfl, h1.sq, e1, hq _ _ (fun _ _ h => h) e2⟩
    | tup h1 h2 h3 =>
      obtain ⟨v, e1, e2⟩ := h3.atI hz
      exact .inr (.inl ⟨_, _, i, v, rfl, rfl, h1.sq, e1, hq _ _ (fun _ _ h => h) e2⟩)
    | str z0 =>
      simp only [dIx] at hz
      split at hz
      · rename_i hl
        cases e : L2.atI z0.cps.toList i with
        | none => rw [e] at hz; cases hz
        | some c =>
          rw [e] at hz
          cases hz
          exact .inr (.inr ⟨z0, i, c, rfl, rfl, hl, e, hq _ _ (fun _ _ h => h) (.str _)⟩)
      · cases hz
    | _ => cases hz
  | _ => cases rx <;> cases hz
theorem de_ix (ha : DE X G W a A) (hb : DE X G W b B) (hK : G.K = X.K) (hs : PlainIx b) : DE X G W (.Subscript a b pos) (eBin dIx A B) := ⟨pe_imp (pe_ix (r := rIx G.K) (by rw [hK]; exact ix_seq) ha.pe hb.pe hs) (op_tr ops_ix)⟩
/-- a slice's bound -/
abbrev DPo := En → Rs (Option Int × En)
def oNo : DPo := fun en => .ok (none, en)
def asI : D → Option Int
  | .int i => some i
  | _ => none
def oSo (a : DEn) : DPo := fun en => a en >>= fun p => liftO (asI p.1) >>= fun i => .ok (some i, p.2)
def tO (G : Gh) (W : WX) (A : DPo) : TO := fun σ H Q => ∃ en M B, Rel G en σ H M B ∧
  Post (fun p => ∀ H' M', Rel G p.2 σ H' M' B → Step H M H' M' → Q p.1 H') (EW G W σ H M B) (A en)
structure DO (X : Cx) (G : Gh) (W : WX) (e : Option Expr) (A : DPo) : Prop where po : PO X e (tO G W A)
theorem po_imp {e : Option Expr} {t t' : TO} (h : PO X e t) (i : ∀ σ H Q, t' σ H Q → t σ H Q) : PO X e t' := by
  refine ⟨fun pins s σ H Q I q => ?_⟩
  exact h.run pins s σ H Q I (i σ H Q q)
theorem do_no : DO X G W none oNo := ⟨po_imp po_none fun σ H Q ⟨en, M, Bx, rel, m⟩ => m H M rel .refl⟩
theorem asI_rd {K : Fg} {H : Hp} {O : AS} {v : V} {d : D} {i : Int} (r : RD K H O v d) (h : asI d = some i) : v = .int i := by
  cases r <;> simp [asI] at h
  subst h; rfl
theorem do_so (ha : DE X G W a A) : DO X G W (some a) (oSo A) := ⟨po_imp (po_some ha.pe) fun σ H Q ⟨en, M, Bx, rel, m⟩ =>
  ⟨en, M, Bx, rel, Post.imp (post_bind.mp m) (fun p mp v H1 M1 rel1 st1 rd1 => by
    obtain ⟨i, hi, mi⟩ := post_lift.mp mp
    exact ⟨i, asI_rd rd1 hi, mi H1 M1 rel1 st1⟩) fun _ _ _ h => h⟩⟩
def cutD (ds : List D) (lo hi : Option Int) : List D := (ds.drop (HT.sIx ds.length 0 lo)).take (HT.sIx ds.length ds.length hi - HT.sIx ds.length 0 lo)
def dSl : D → Option Int → Option Int → Option D
  | .list ds, lo, hi => some (.list (cutD ds lo hi))
  | .tuple ds, lo, hi => some (.tuple (cutD ds lo hi))
  | .str z, lo, hi => if z.length ≤ sizeLine then some (.str (cutS z lo hi)) else none
  | _, _, _ => none
theorem RDs.cut {K : Fg} {H : Hp} {O : AS} {vs : List V} {ds : List D} (r : RDs K H O vs ds) (lo hi : Option Int) : RDs K H O (cutV vs lo hi) (cutD ds lo hi) := by
  unfold cutV cutD
  rw [r.length]
  exact (r.drop _).take _
def eSl (a : DEn) (l h : DPo) : DEn := fun en => a en >>= fun p => l p.2 >>= fun q => h q.2 >>= fun r => liftO (dSl p.1 q.1 r.1) >>= fun z => .ok (z, r.2)
def rSlU (K : Fg) : V → Option Int → Option Int → Hp → VK → Prop := fun x lo hi H Q => rSlL K x lo hi H Q ∨ rSlA K x lo hi H Q ∨ rSlS x lo hi H Q
theorem sl_any : SlR X (rSlU X.K) := SlR.or sl_list (SlR.or sl_tupA sl_str)
theorem sls {H : Hp} {O : AS} {x : V} {d z : D} {lo hi : Option Int} {Q : VK} (hO : ∀ a, O a → H a ≠ none) (rx : RD G.K H O x d) (hz : dSl d lo hi = some z) (hq : ∀ v H', Ext H H' → RD G.K H' O v z → Q v H') : rSlU G.K x lo hi H Q := by
  cases rx with
  | lst h1 h2 h3 =>
    cases hz
    exact .inl ⟨_, _, rfl, h1.sq, fun p hp => hq _ _ (ext_new hp) (new_lst hO (h3.cut lo hi) (Nat.le_trans (cutV_length _ _ _) h2) hp)⟩
  | @tup p0 xs ds h1 h2 h3 =>
    cases hz
    refine .inr (.inl ⟨_, _, rfl, h1.sq, fun w => ?_, fun _ p hp => hq _ _ (ext_new hp) (new_tup hO (h3.cut lo hi) (Nat.le_trans (cutV_length _ _ _) h2) hp)⟩)
    have e : cutD ds lo hi = ds := by
      unfold cutD
      rw [← h3.length, w.1, w.2, List.drop_zero, Nat.sub_zero, h3.length, List.take_length]
    rw [e] at hq
    exact hq _ _ (fun _ _ h => h) (.tup h1 h2 h3)
  | str z0 =>
    simp only [dSl] at hz
    split at hz
    · rename_i hl
      cases hz
      exact .inr (.inr ⟨z0, rfl, hl, hq _ _ (fun _ _ h => h) (.str _)⟩)
    · cases hz
  | _ => cases hz
theorem de_sl {l h : Option Expr} {L Hh : DPo} {p2 : Pos} (hK : G.K = X.K) (ha : DE X G W a A) (hl : DO X G W l L) (hh : DO X G W h Hh) : DE X G W (.Subscript a (.Slice l h none p2) pos) (eSl A L Hh) := by
  refine ⟨pe_imp (pe_slice (r := rSlU X.K) sl_any ha.pe hl.po hh.po) fun σ H Q ⟨en, M, Bx, rel, m⟩ => ?_⟩
  rw [← hK]
  exact ⟨en, M, Bx, rel, Post.imp (post_bind.mp m) (fun p mp v H1 M1 rel1 st1 rd1 => ⟨p.2, M1, Bx, rel1, Post.imp (post_bind.mp mp) (fun q mq H2 M2 rel2 st2 => ⟨q.2, M2, Bx, rel2, Post.imp (post_bind.mp mq) (fun r mr H3 M3 rel3 st3 => by
    obtain ⟨z, hz, mz⟩ := post_lift.mp mr
    exact sls rel3.avh ((rd1.step st2).step st3) hz fun u H' ext rd => mz u H' M3 (rel3.ext ext) (((st1.trans st2).trans st3).trans (.ext ext)) rd) fun _ _ _ h => (h.step st1).step st2⟩) fun _ _ _ h => h.step st1⟩) fun _ _ _ h => h⟩
/-! ### built-ins of one argument and more -/
def dLen : List D → Option D
  | [.list ds] => some (.int ds.length)
  | [.tuple ds] => some (.int ds.length)
  | [.str z] => if z.length ≤ sizeLine then some (.int z.length) else none
  | _ => none
def rLenA (K : Fg) : List V → Hp → VK → Prop := fun xs H Q => (∃ p ys, xs = [.ref p] ∧ (SqL K H p ys ∨ SqT K H p ys) ∧ Q (.int ys.length) H) ∨ ∃ z, xs = [.str z] ∧ z.length ≤ sizeLine ∧ Q (.int z.length) H
theorem cr_lenA : CallR X (.builtin "len") (rLenA X.K) := CallR.or call_len_seq call_len_str
theorem one_of {K : Fg} {H : Hp} {O : AS} {xs : List V} {d : D} (r : RDs K H O xs [d]) : ∃ x, xs = [x] ∧ RD K H O x d := by
  cases r with
  | cons h t => cases t; exact ⟨_, rfl, h⟩
theorem two_of {K : Fg} {H : Hp} {O : AS} {xs : List V} {d e : D} (r : RDs K H O xs [d, e]) : ∃ x y, xs = [x, y] ∧ RD K H O x d ∧ RD K H O y e := by
  cases r with
  | cons h t =>
    obtain ⟨y, rfl, q⟩ := one_of t
    exact ⟨_, y, rfl, h, q⟩
theorem cls_len : ClS G (rLenA G.K) dLen := by
  intro H O xs ds z Q hO r hz hq
  unfold dLen at hz
  split at hz
  · obtain ⟨x, rfl, rx⟩ := one_of r
    cases hz
    cases rx with
    | lst h1 h2 h3 => exact .inl ⟨_, _, rfl, .inl h1.sq, hq _ _ (fun _ _ h => h) (by rw [h3.length]; exact .int _)⟩
  · obtain ⟨x, rfl, rx⟩ := one_of r
    cases hz
    cases rx with
    | tup h1 h2 h3 => exact .inl ⟨_, _, rfl, .inr h1.sq, hq _ _ (fun _ _ h => h) (by rw [h3.length]; exact .int _)⟩
  · obtain ⟨x, rfl, rx⟩ := one_of r
    split at hz
    · rename_i hl
      cases hz
      cases rx
      exact .inr ⟨_, rfl, hl, hq _ _ (fun _ _ h => h) (.int _)⟩
    · cases hz
  · cases hz
def dList : List D → Option D
  | [.list ds] => some (.list ds)
  | [.tuple ds] => some (.list ds)
  | _ => none
theorem cls_list : ClS G (fun xs H Q => ∃ p ys, xs = [.ref p] ∧ (SqL G.K H p ys ∨ SqT G.K H p ys) ∧ ∀ l, H l = none → Q (.ref l) (upd H l (.lst ys))) dList := by
  intro H O xs ds z Q hO r hz hq
  unfold dList at hz
  split at hz
  · obtain ⟨x, rfl, rx⟩ := one_of r
    cases hz
    cases rx with
    | lst h1 h2 h3 => exact ⟨_, _, rfl, .inl h1.sq, fun l hl => hq _ _ (ext_new hl) (new_lst hO h3 h2 hl)⟩
  · obtain ⟨x, rfl, rx⟩ := one_of r
    cases hz
    cases rx with
    | tup h1 h2 h3 => exact ⟨_, _, rfl, .inr h1.sq, fun l hl => hq _ _ (ext_new hl) (new_lst hO h3 h2 hl)⟩
  · cases hz
def dTuple : List D → Option D
  | [.list ds] => some (.tuple ds)
  | [.tuple ds] => some (.tuple ds)
  | _ => none
theorem cls_tuple : ClS G (fun xs H Q => ∃ p ys, xs = [.ref p] ∧ ((SqL G.K H p ys ∧ ∀ l, H l = none → Q (.ref l) (upd H l (.tup ys))) ∨ (SqT G.K H p ys ∧ Q (.ref p) H))) dTuple := by
  intro H O xs ds z Q hO r hz hq
  unfold dTuple at hz
  split at hz
  · obtain ⟨x, rfl, rx⟩ := one_of r
    cases hz
    cases rx with
    | lst h1 h2 h3 => exact ⟨_, _, rfl, .inl ⟨h1.sq, fun l hl => hq _ _ (ext_new hl) (new_tup hO h3 h2 hl)⟩⟩
  · obtain ⟨x, rfl, rx⟩ := one_of r
    cases hz
    cases rx with
    | tup h1 h2 h3 => exact ⟨_, _, rfl, .inr ⟨h1.sq, hq _ _ (fun _ _ h => h) (.tup h1 h2 h3)⟩⟩
  · cases hz
def dInt : List D → Option D
  | [.int i] => some (.int i)
  | [.bool b] => some (.int (if b then 1 else 0))
  | _ => none
theorem cls_int : ClS G (fun xs H Q => (∃ i, xs = [.int i] ∧ Q (.int i) H) ∨ ∃ k, xs = [.bl k] ∧ Q (.int (if k then 1 else 0)) H) dInt := by
  intro H O xs ds z Q hO r hz hq
  unfold dInt at hz
  split at hz
  · obtain ⟨x, rfl, rx⟩ := one_of r
    cases hz
    cases rx
    exact .inl ⟨_, rfl, hq _ _ (fun _ _ h => h) (.int _)⟩
  · obtain ⟨x, rfl, rx⟩ := one_of r
    cases hz
    cases rx
    exact .inr ⟨_, rfl, hq _ _ (fun _ _ h => h) (.int _)⟩
  · cases hz
def dAbs : List D → Option D
  | [.int i] => some (.int (if i < 0 then -i else i))
  | _ => none
theorem cls_abs : ClS G (fun xs H Q => ∃ i, xs = [.int i] ∧ Q (.int (if i < 0 then -i else i)) H) dAbs := by
  intro H O xs ds z Q hO r hz hq
  unfold dAbs at hz
  split at hz
  · obtain ⟨x, rfl, rx⟩ := one_of r
    cases hz
    cases rx
    exact ⟨_, rfl, hq _ _ (fun _ _ h => h) (.int _)⟩
  · cases hz
def dStr : List D → Option D
  | [.int i] => if i.natAbs.log2 < 1920 then some (.str (toString i)) else none
  | [.str z] => some (.str z)
  | _ => none
def rStrA : List V → Hp → VK → Prop := fun xs H Q => (∃ i, xs = [.int i] ∧ i.natAbs.log2 < 1920 ∧ Q (.str (toString i)) H) ∨ ∃ a, xs = [.str a] ∧ Q (.str a) H
theorem cr_strA : CallR X (.type "str") rStrA := CallR.or call_str_int SkE.call_str_str
theorem cls_str : ClS G rStrA dStr := by
  intro H O xs ds z Q hO r hz hq
  unfold dStr at hz
  split at hz
  · obtain ⟨x, rfl, rx⟩ := one_of r
    split at hz
    · rename_i hl
      cases hz
      cases rx
      exact .inl ⟨_, rfl, hl, hq _ _ (fun _ _ h => h) (.str _)⟩
    · cases hz
  · obtain ⟨x, rfl, rx⟩ := one_of r
    cases hz
    cases rx
    exact .inr ⟨_, rfl, hq _ _ (fun _ _ h => h) (.str _)⟩
  · cases hz
/-! ### lists of one kind -/
def allO {α : Type} (f : D → Option α) : List D → Option (List α)
  | [] => some []
  | d :: ds => (f d).bind fun a => (allO f ds).map fun r => a :: r
def asS : D → Option Str
  | .str z => some z
  | _ => none
theorem asS_rd {K : Fg} {H : Hp} {O : AS} {v : V} {d : D} {i : Str} (r : RD K H O v d) (h : asS d = some i) : v = .str i := by
  cases r <;> simp [asS] at h
  subst h; rfl
theorem allO_rd {α : Type} {f : D → Option α} {g : α → V} (hf : ∀ {K : Fg} {H : Hp} {O : AS} {v : V} {d : D} {x : α}, RD K H O v d → f d = some x → v = g x) {K : Fg} {H : Hp} {O : AS} :
    ∀ {vs : List V} {ds : List D} {as : List α}, RDs K H O vs ds → allO f ds = some as → vs = as.map g
  | _, _, _, .nil, h => by cases h; rfl
  | _, d :: ds, _, .cons h r, e => by
    unfold allO at e
    cases e1 : f d with
    | none => rw [e1] at e; cases e
    | some x =>
      rw [e1] at e
      cases e2 : allO f ds with
      | none => rw [e2] at e; cases e
      | some l =>
        rw [e2] at e
        cases e
        rw [hf h e1, allO_rd hf r e2]
        rfl
def dOfL {α : Type} (f : D → Option α) (g : List α → Option D) : List D → Option D
  | [.list ds] => (allO f ds).bind g
  | _ => none
theorem ofL_rd {α : Type} {f : D → Option α} {h : α → V} (hf : ∀ {K : Fg} {H : Hp} {O : AS} {v : V} {d : D} {x : α}, RD K H O v d → f d = some x → v = h x) {g : List α → Option D} {K : Fg} {H : Hp} {O : AS} {xs : List V} {ds : List D} {z : D}
    (r : RDs K H O xs ds) (e : dOfL f g ds = some z) : ∃ p as, xs = [.ref p] ∧ SqL K H p (as.map h) ∧ g as = some z := by
  unfold dOfL at e
  split at e
  · rename_i ds'
    obtain ⟨x, rfl, rx⟩ := one_of r
    cases rx with
    | lst h1 h2 h3 =>
      cases e1 : allO f ds' with
      | none => rw [e1] at e; cases e
      | some l =>
        rw [e1] at e
        have q := allO_rd hf h3 e1
        subst q
        exact ⟨_, l, rfl, h1.sq, e⟩
  · cases e
def dSum : List D → Option D := dOfL asI fun ns => some (.int ns.sum)
theorem cls_sum : ClS G (rSum G.K) dSum := by
  intro H O xs ds z Q hO r hz hq
  obtain ⟨p, as, rfl, hs, e⟩ := ofL_rd (h := V.int) asI_rd r hz
  cases e
  exact ⟨p, as, rfl, hs, hq _ _ (fun _ _ h => h) (.int _)⟩
def dAll : List D → Option D := dOfL asB fun bs => some (.bool (bs.all id))
theorem cls_all : ClS G (rAll G.K) dAll := by
  intro H O xs ds z Q hO r hz hq
  obtain ⟨p, as, rfl, hs, e⟩ := ofL_rd (h := V.bl) asB_rd r hz
  cases e
  exact ⟨p, as, rfl, hs, hq _ _ (fun _ _ h => h) (.bl _)⟩
def dAny : List D → Option D := dOfL asB fun bs => some (.bool (bs.any id))
theorem cls_any : ClS G (rAny G.K) dAny := by
  intro H O xs ds z Q hO r hz hq
  obtain ⟨p, as, rfl, hs, e⟩ := ofL_rd (h := V.bl) asB_rd r hz
  cases e
  exact ⟨p, as, rfl, hs, hq _ _ (fun _ _ h => h) (.bl _)⟩
/-! ### sep.join(texts), s.split(sep) -/
def dJoin : D → List D → Option D
  | .str a, [.list ds] => (allO asS ds).bind fun ys => if (ys.map (·.length)).sum + ys.length * a.length ≤ 16777216 then some (.str (Txt.join a ys)) else none
  | .str a, [.tuple ds] => (allO asS ds).bind fun ys => if (ys.map (·.length)).sum + ys.length * a.length ≤ 16777216 then some (.str (Txt.join a ys)) else none
  | _, _ => none
def asStr : D → Option Unit
  | .str _ => some ()
  | _ => none
def eM1 (f : D → List D → Option D) (o a : DEn) : DEn := fun en => o en >>= fun p => liftO (asStr p.1) >>= fun _ => a p.2 >>= fun q => liftO (f p.1 [q.1]) >>= fun z => .ok (z, q.2)
def MtS (G : Gh) (r : V → List V → Hp → VK → Prop) (f : D → List D → Option D) : Prop := ∀ (H : Hp) (O : AS) (x : V) (xs : List V) (d z : D) (ds : List D) (Q : VK), (∀ a, O a → H a ≠ none) → RD G.K H O x d → RDs G.K H O xs ds → f d ds = some z →
  (∀ v H', Ext H H' → RD G.K H' O v z → Q v H') → r x xs H Q
theorem m1_tr {r : V → List V → Hp → VK → Prop} {f : D → List D → Option D} (hs : MtS G r f) : ∀ σ H Q, tE G W (eM1 f A B) σ H Q → tM1 r (tE G W A) (tE G W B) σ H Q := fun σ H Q ⟨en, M, Bx, rel, m⟩ =>
  ⟨en, M, Bx, rel, Post.imp (post_bind.mp m) (fun p mp v H1 M1 rel1 st1 rd1 => by
    obtain ⟨u, hu, mu⟩ := post_lift.mp mp
    refine ⟨?_, p.2, M1, Bx, rel1, Post.imp (post_bind.mp mu) (fun q mq w H2 M2 rel2 st2 rd2 => ?_) fun _ _ _ h => h.step st1⟩
    · generalize hd : p.1 = d at rd1 hu
      cases rd1 <;> first | exact ⟨_, rfl⟩ | cases hu
    · obtain ⟨z, hz, mz⟩ := post_lift.mp mq
      exact hs H2 _ v [w] p.1 z [q.1] Q rel2.avh (rd1.step st2) (.one rd2) hz fun u H' ext rd => mz u H' M2 (rel2.ext ext) ((st1.trans st2).trans (.ext ext)) rd) fun _ _ _ h => h⟩
def rJoin (K : Fg) : V → List V → Hp → VK → Prop := fun x xs H Q => ∃ a p, ∃ ys : List Str, x = .str a ∧ xs = [.ref p] ∧ (SqL K H p (ys.map V.str) ∨ SqT K H p (ys.map V.str)) ∧
  (ys.map (·.length)).sum + ys.length * a.length ≤ 16777216 ∧ Q (.str (Txt.join a ys)) H
theorem mts_join : MtS G (rJoin G.K) dJoin := by
  intro H O x xs d z ds Q hO rx r hz hq
  unfold dJoin at hz
  split at hz
  · rename_i a ds'
    obtain ⟨y, rfl, ry⟩ := one_of r
    cases rx
    cases ry with
    | lst h1 h2 h3 =>
      cases e1 : allO asS ds' with
      | none => rw [e1] at hz; cases hz
      | some l =>
        rw [e1] at hz
        simp only [Option.bind_some] at hz
        split at hz
        · rename_i hl
          cases hz
          have q := allO_rd (g := V.str) asS_rd h3 e1
          subst q
          exact ⟨a, _, l, rfl, rfl, .inl h1.sq, hl, hq _ _ (fun _ _ h => h) (.str _)⟩
        · cases hz
  · rename_i a ds'
    obtain ⟨y, rfl, ry⟩ := one_of r
    cases rx
    cases ry with
    | tup h1 h2 h3 =>
      cases e1 : allO asS ds' with
      | none => rw [e1] at hz; cases hz
      | some l =>
        rw [e1] at hz
        simp only [Option.bind_some] at hz
        split at hz
        · rename_i hl
          cases hz
          have q := allO_rd (g := V.str) asS_rd h3 e1
          subst q
          exact ⟨a, _, l, rfl, rfl, .inr h1.sq, hl, hq _ _ (fun _ _ h => h) (.str _)⟩
        · cases hz
  · cases hz
theorem de_join {apos : Pos} (hK : G.K = X.K) (ho : DE X G W a A) (he : DE X G W b B) (hs : starEach [b] X.env = [(false, eval b X.env)] := by rfl) (hbase : attributeBase a "join" X.env (eval a X.env) = eval a X.env := by rfl) (hline : (apos.endLine == pos.line) = true := by rfl) :
    DE X G W (.Call (.Attribute a "join" apos) [b] [] pos) (eM1 dJoin A B) := by
  refine ⟨pe_imp (pe_join ho.pe he.pe hs hbase hline) fun σ H Q h => ?_⟩
  have q := m1_tr (G := G) mts_join σ H Q h
  rw [hK] at q
  exact q
end
end DL

namespace DL
open PySem L2
section
variable {X : Cx} {G : Gh} {W : WX} {pos : Pos} {a b : Expr} {es : List Expr} {A B : DEn} {As : DAs}
/-! ### sorted, min, max of alike data -/
def dle (a b : D) : Bool := !PySem.W.dataLt b a
theorem dle_eq : PySem.W.dataLe false (id : D → D) = dle := rfl
def nonEmptyT : D → Bool
  | .tuple (_ :: _) => true
  | _ => false
def noTuple : D → Bool
  | .none => false
  | .tuple _ => false
  | _ => true
def srtOk (ds : List D) : Bool := (ds.all fun d => ds.all fun e => PySem.W.alike d e) && ((ds.all nonEmptyT || ds.all noTuple) && ds.all fun d => decide (d.depth ≤ 32))
def dSorted : List D → Option D
  | [.list ds] => if srtOk ds = true then some (.list (ds.mergeSort dle)) else none
  | _ => none
theorem srtOk_of {ds : List D} (h : srtOk ds = true) : PySem.W.AllAlike ds ∧ PySem.W.Sortable ds ∧ ∀ d ∈ ds, d.depth ≤ 32 := by
  unfold srtOk at h
  rw [Bool.and_eq_true, Bool.and_eq_true, Bool.or_eq_true, List.all_eq_true, List.all_eq_true, List.all_eq_true, List.all_eq_true] at h
  refine ⟨fun d hd e he => List.all_eq_true.mp (h.1 d hd) e he, ?_, fun d hd => of_decide_eq_true (h.2.2 d hd)⟩
  rcases h.2.1 with q | q
  · refine .inl fun d hd => ?_
    have := q d hd
    cases d with
    | tuple xs =>
      cases xs with
      | nil => cases this
      | cons x r => exact ⟨x, r, rfl⟩
    | _ => cases this
  · refine .inr fun d hd => ⟨fun z => ?_, fun xs z => ?_⟩
    · have := q d hd
      subst z
      exact absurd this (by simp [noTuple])
    · have := q d hd
      subst z
      exact absurd this (by simp [noTuple])
/-- the i-th value with the i-th datum -/
def Both (xs : List V) (ds : List D) (y : V) (d : D) : Prop := ∃ i : Nat, xs[i]? = some y ∧ ds[i]? = some d
def rSortedD (K : Fg) : List V → Hp → VK → Prop := fun vs H Q => ∃ (a : Addr) (xs : List V) (ds : List D), vs = [V.ref a] ∧ SqL K H a xs ∧ DpAll K H xs ds ∧ srtOk ds = true ∧ xs.length ≤ sizeLine ∧
  ∀ (ys : List V) (p : Addr), PySem.W.EachIs (Both xs ds) ys (ds.mergeSort dle) → ys.length = xs.length → H p = none → Q (.ref p) (upd H p (.lst ys))
theorem dpAll_length {K : Fg} {H : Hp} : ∀ {xs : List V} {ds : List D}, DpAll K H xs ds → xs.length = ds.length
  | _, _, .nil => rfl
  | _, _, .cons _ r => by rw [List.length_cons, List.length_cons, dpAll_length r]
theorem dpAll_get {K : Fg} {H : Hp} : ∀ {xs : List V} {ds : List D} {i : Nat} {d : D}, DpAll K H xs ds → ds[i]? = some d → ∃ v, xs[i]? = some v ∧ Dp K H v d
  | _, _, _, _, .nil, e => by simp at e
  | _, _, 0, _, .cons h _, e => by
    have e' := Option.some.inj (by simpa using e)
    subst e'
    exact ⟨_, rfl, h⟩
  | _, _, i + 1, d, .cons _ r, e => by
    obtain ⟨v, h1, h2⟩ := dpAll_get (i := i) (d := d) r (by simpa using e)
    exact ⟨v, by simpa using h1, h2⟩
theorem each_of_ix {α β : Type} {R : α → β → Prop} : ∀ {as : List α} {bs : List β}, as.length = bs.length → (∀ (i : Nat) a b, as[i]? = some a → bs[i]? = some b → R a b) → PySem.W.EachIs R as bs
  | [], [], _, _ => .nil
  | [], _ :: _, h, _ => by simp at h
  | _ :: _, [], h, _ => by simp at h
  | a :: as, b :: bs, h, f => .cons (f 0 a b rfl rfl) (each_of_ix (by simpa using h) fun i x y h1 h2 => f (i + 1) x y (by simpa using h1) (by simpa using h2))
theorem each_map_fst {α β γ : Type} {R : α → β → Prop} {S : γ → β → Prop} {T : γ → α → Prop} (f : ∀ a b, R a b → ∃ c, T c a ∧ S c b) : ∀ {as : List α} {bs : List β}, PySem.W.EachIs R as bs → ∃ cs, PySem.W.EachIs T cs as ∧ PySem.W.EachIs S cs bs
  | _, _, .nil => ⟨[], .nil, .nil⟩
  | _, _, .cons h r => by
    obtain ⟨c, h1, h2⟩ := f _ _ h
    obtain ⟨cs, h3, h4⟩ := each_map_fst f r
    exact ⟨c :: cs, .cons h1 h3, .cons h2 h4⟩
theorem vals_each : ∀ {ys : List V} {us : List Value}, PySem.W.EachIs RelV ys us → Vals ys us
  | _, _, .nil => .nil
  | _, _, .cons h r => .cons h (vals_each r)
theorem cr_sortedD (hu : X.A.units + 64 < cLine) : CallR X (.builtin "sorted") (rSortedD X.K) := by
  intro pins s σ H vs us Q I r h
  obtain ⟨a, xs, ds, rfl, hs, hd, hk, hx, q⟩ := h
  obtain ⟨its, rv, hl, hz⟩ := I.list hs
  rw [Vals.ref1 r]
  obtain ⟨k1, k2, k3⟩ := srtOk_of hk
  have len1 := rv.length
  have len2 := dpAll_length hd
  have ev : PySem.W.EachIs (fun v d => ∃ y, RelV y v ∧ Both xs ds y d) its ds := each_of_ix (by omega) fun i v d h1 h2 => by
    obtain ⟨y, h3, h4⟩ := dpAll_get hd h2
    obtain ⟨u, h5, h6⟩ := rv.get h3
    rw [h1] at h5
    cases h5
    exact ⟨y, h6, i, h3, h2⟩
  have er : PySem.W.EachIs (fun v d => ∃ as, Reads s.heap v d as) its ds := each_of_ix (by omega) fun i v d h1 h2 => by
    obtain ⟨y, h3, h4⟩ := dpAll_get hd h2
    obtain ⟨u, h5, h6⟩ := rv.get h3
    rw [h1] at h5
    cases h5
    exact Dp.reads I d y _ h4 h6
  refine PySem.W.sorted_data (β := D) (enc := id) hl.isList ev er (by rw [List.map_id]; exact k1) (by rw [List.map_id]; exact k2) (by omega) (fun d hm => ?_) fun out ho he => ?_
  · have := k3 d hm
    show X.A.units + 2 + d.depth < cLine
    omega
  · obtain ⟨ys, e1, e2⟩ := each_map_fst (T := fun y v => RelV y v) (S := Both xs ds) (fun v d ⟨y, h1, h2⟩ => ⟨y, h1, h2⟩) he
    obtain ⟨ep, he'⟩ := PyProof.Rows.sortedAll_at s.heap its out.toArray
    have vy : Vals ys out := vals_each e1
    have ly : ys.length = xs.length := by rw [vy.length, ho]; omega
    refine ⟨.ref _, upd H (s.heap.objs.size + 1) (.lst ys), I.laid (t' := s.toks) (fun _ _ => PyProof.Rows.sortedAll_old) (Nat.le_succ _) ⟨by omega, out, ep, vy, he'⟩, rfl, q ys _ e2 ly (I.hok.fresh (Nat.le_succ _))⟩
theorem RDs.both {K : Fg} {H : Hp} {O : AS} {xs : List V} {ds : List D} (r : RDs K H O xs ds) : ∀ {ys : List V} {es : List D}, PySem.W.EachIs (Both xs ds) ys es → RDs K H O ys es
  | _, _, .nil => .nil
  | _, _, .cons ⟨i, h1, h2⟩ t => by
    obtain ⟨v, h3, h4⟩ := r.get h2
    rw [h1] at h3
    cases h3
    exact .cons h4 (RDs.both r t)
theorem cls_sorted : ClS G (rSortedD G.K) dSorted := by
  intro H O xs ds z Q hO r hz hq
  unfold dSorted at hz
  split at hz
  · obtain ⟨x, rfl, rx⟩ := one_of r
    split at hz
    · rename_i hk
      cases hz
      cases rx with
      | lst h1 h2 h3 =>
        refine ⟨_, _, _, rfl, h1.sq, h3.dp, hk, h2, fun ys p he hl hp => hq _ _ (ext_new hp) (new_lst hO (h3.both he) (by omega) hp)⟩
    · cases hz
  · cases hz
/-- min, max of a list -/
def mmOk (ds : List D) : Bool := (ds.all fun d => ds.all fun e => PySem.W.alike d e) && ((ds.all fun d => match d with | .none => false | _ => true) && decide (PyData.depthAll ds ≤ 60))
def dMinL : List D → Option D
  | [.list (d :: ds)] => if mmOk (d :: ds) = true then some (PySem.W.minD d ds) else none
  | [.int i, .int j] => some (.int (if j < i then j else i))
  | _ => none
def dMaxL : List D → Option D
  | [.list (d :: ds)] => if mmOk (d :: ds) = true then some (PySem.W.maxD d ds) else none
  | [.int i, .int j] => some (.int (if j > i then j else i))
  | _ => none
theorem mmOk_of {ds : List D} (h : mmOk ds = true) : PySem.W.AlikeAll ds ∧ PyData.depthAll ds ≤ 60 := by
  unfold mmOk at h
  rw [Bool.and_eq_true, Bool.and_eq_true, List.all_eq_true, List.all_eq_true] at h
  refine ⟨⟨fun d hd e he => List.all_eq_true.mp (h.1 d hd) e he, fun d hd z => ?_⟩, of_decide_eq_true h.2.2⟩
  have := h.2.1 d hd
  subst z
  exact absurd this (by simp)
def rBest (K : Fg) (best : D → List D → D) : List V → Hp → VK → Prop := fun vs H Q => ∃ (a : Addr) (xs : List V) (d : D) (ds : List D), vs = [V.ref a] ∧ SqL K H a xs ∧ DpAll K H xs (d :: ds) ∧ mmOk (d :: ds) = true ∧
  ∀ (i : Nat) (y : V), xs[i]? = some y → (d :: ds)[i]? = some (best d ds) → Q y H
theorem alike_mem {d : D} {ds : List D} (h : PySem.W.AlikeAll (d :: ds)) : ∀ (best : D), best ∈ d :: ds → ∀ e ∈ d :: ds, PySem.W.alike e best = true := fun b hb e he => h.1 e he b hb
theorem minD_mem (x : D) : ∀ xs : List D, PySem.W.minD x xs ∈ x :: xs := by
  intro xs
  induction xs generalizing x with
  | nil => exact List.mem_cons_self
  | cons y ys ih =>
    show List.foldl _ (if PySem.W.dataLt y x then y else x) ys ∈ _
    have := ih (if PySem.W.dataLt y x then y else x)
    unfold PySem.W.minD at this
    rcases List.mem_cons.mp this with e | m
    · rw [e]
      split
      · exact List.mem_cons_of_mem _ List.mem_cons_self
      · exact List.mem_cons_self
    · exact List.mem_cons_of_mem _ (List.mem_cons_of_mem _ m)
theorem maxD_mem (x : D) : ∀ xs : List D, PySem.W.maxD x xs ∈ x :: xs := by
  intro xs
  induction xs generalizing x with
  | nil => exact List.mem_cons_self
  | cons y ys ih =>
    show List.foldl _ (if PySem.W.dataLt x y then y else x) ys ∈ _
    have := ih (if PySem.W.dataLt x y then y else x)
    unfold PySem.W.maxD at this
    rcases List.mem_cons.mp this with e | m
    · rw [e]
      split
      · exact List.mem_cons_of_mem _ List.mem_cons_self
      · exact List.mem_cons_self
    · exact List.mem_cons_of_mem _ (List.mem_cons_of_mem _ m)
theorem best_end {pins : List (Addr × Obj)} {s : Shared} {σ : L2.St} {H : Hp} {Q : VK} {xs : List V} {d : D} {ds : List D} {its : List Value} {best : D} {v : Value} {h' : Heap} {tk : Nat} {bs : List Addr} {i : Nat} (I : Inv X pins σ H s) (hd : DpAll X.K H xs (d :: ds)) (ha : PySem.W.AlikeAll (d :: ds)) (hm : best ∈ d :: ds)
    (rv : Vals xs its) (hv : its.toArray[i]? = some v) (rd : Reads h' v best bs) (hk : ∀ b o, s.heap.get? b = some o → h'.get? b = some o)
    (q : ∀ (i : Nat) (y : V), xs[i]? = some y → (d :: ds)[i]? = some best → Q y H) : EP X pins σ Q v { s with heap := h', toks := tk } := by
  have hv' : its[i]? = some v := by simpa using hv
  have hi : i < its.length := (List.getElem?_eq_some_iff.mp hv').1
  have len1 := rv.length
  have len2 := dpAll_length hd
  obtain ⟨e, he⟩ : ∃ e, (d :: ds)[i]? = some e := ⟨(d :: ds)[i]'(by omega), List.getElem?_eq_getElem _⟩
  obtain ⟨y, h3, h4⟩ := dpAll_get hd he
  obtain ⟨u, h5, h6⟩ := rv.get h3
  rw [hv'] at h5
  cases h5
  have I' : Inv X pins σ H { s with heap := h', toks := tk } := I.kept hk
  obtain ⟨as, r2⟩ := Dp.reads I' e y v h4 h6
  have ee : e = best := PySem.W.alike_unique e best v as bs (ha.1 e (List.mem_of_getElem? he) best hm) r2 rd
  subst ee
  exact ⟨y, H, I', h6, q i y h3 he⟩
theorem dp_readsAll {pins : List (Addr × Obj)} {s : Shared} {σ : L2.St} {H : Hp} {xs : List V} {ds : List D} {its : List Value} (I : Inv X pins σ H s) (hd : DpAll X.K H xs ds) (rv : Vals xs its) : ∃ as, ReadsAll s.heap its.toArray.toList ds as := by
  obtain ⟨as, r⟩ := Dp.readsAll I ds xs its hd rv
  exact ⟨as, by simpa using r⟩
theorem cr_minD (hc : X.calm = true) (hu : X.A.units + 64 < cLine) : CallR X (.builtin "min") (rBest X.K PySem.W.minD) := by
  intro pins s σ H vs us Q I r h
  obtain ⟨a, xs, d, ds, rfl, hs, hd, hk, q⟩ := h
  obtain ⟨its, rv, hl, hz⟩ := I.list hs
  rw [Vals.ref1 r]
  obtain ⟨k1, k2⟩ := mmOk_of hk
  obtain ⟨as, ra⟩ := dp_readsAll I hd rv
  exact PySem.W.min_list_data (I.ok.hd hc) hl.isList ra k1 (by omega) fun i v h' tk bs hv rd hk' => best_end I hd k1 (minD_mem d ds) rv hv rd hk' q
theorem cr_maxD (hc : X.calm = true) (hu : X.A.units + 64 < cLine) : CallR X (.builtin "max") (rBest X.K PySem.W.maxD) := by
  intro pins s σ H vs us Q I r h
  obtain ⟨a, xs, d, ds, rfl, hs, hd, hk, q⟩ := h
  obtain ⟨its, rv, hl, hz⟩ := I.list hs
  rw [Vals.ref1 r]
  obtain ⟨k1, k2⟩ := mmOk_of hk
  obtain ⟨as, ra⟩ := dp_readsAll I hd rv
  exact PySem.W.max_list_data (I.ok.hd hc) hl.isList ra k1 (by omega) fun i v h' tk bs hv rd hk' => best_end I hd k1 (maxD_mem d ds) rv hv rd hk' q
def rMinA (K : Fg) : List V → Hp → VK → Prop := fun xs H Q => rBest K PySem.W.minD xs H Q ∨ ∃ i j, xs = [.int i, .int j] ∧ Q (.int (if j < i then j else i)) H
def rMaxA (K : Fg) : List V → Hp → VK → Prop := fun xs H Q => rBest K PySem.W.maxD xs H Q ∨ ∃ i j, xs = [.int i, .int j] ∧ Q (.int (if j > i then j else i)) H
theorem cr_minA (hc : X.calm = true) (hu : X.A.units + 64 < cLine) : CallR X (.builtin "min") (rMinA X.K) := CallR.or (cr_minD hc hu) (call_min2 hc)
theorem cr_maxA (hc : X.calm = true) (hu : X.A.units + 64 < cLine) : CallR X (.builtin "max") (rMaxA X.K) := CallR.or (cr_maxD hc hu) (call_max2 hc)
theorem best_rd {K : Fg} {H : Hp} {O : AS} {xs : List V} {d : D} {ds : List D} {best : D → List D → D} {Q : VK} {a : Addr} (h1 : LsAt H O a xs) (h3 : RDs K H O xs (d :: ds)) (hk : mmOk (d :: ds) = true) (hq : ∀ v H', Ext H H' → RD K H' O v (best d ds) → Q v H') : rBest K best [.ref a] H Q :=
  ⟨a, xs, d, ds, rfl, h1.sq, h3.dp, hk, fun i y e1 e2 => by
    obtain ⟨v, h5, h6⟩ := h3.get e2
    rw [e1] at h5
    cases h5
    exact hq _ _ (fun _ _ h => h) h6⟩
theorem cls_min : ClS G (rMinA G.K) dMinL := by
  intro H O xs ds z Q hO r hz hq
  unfold dMinL at hz
  split at hz
  · obtain ⟨x, rfl, rx⟩ := one_of r
    split at hz
    · rename_i hk
      cases hz
      cases rx with
      | lst h1 h2 h3 => exact .inl (best_rd h1 h3 hk hq)
    · cases hz
  · obtain ⟨x, y, rfl, rx, ry⟩ := two_of r
    cases hz
    cases rx
    cases ry
    exact .inr ⟨_, _, rfl, hq _ _ (fun _ _ h => h) (.int _)⟩
  · cases hz
theorem cls_max : ClS G (rMaxA G.K) dMaxL := by
  intro H O xs ds z Q hO r hz hq
  unfold dMaxL at hz
  split at hz
  · obtain ⟨x, rfl, rx⟩ := one_of r
    split at hz
    · rename_i hk
      cases hz
      cases rx with
      | lst h1 h2 h3 => exact .inl (best_rd h1 h3 hk hq)
    · cases hz
  · obtain ⟨x, y, rfl, rx, ry⟩ := two_of r
    cases hz
    cases rx
    cases ry
    exact .inr ⟨_, _, rfl, hq _ _ (fun _ _ h => h) (.int _)⟩
  · cases hz
/-! ### repr -/
def reprOk (d : D) : Bool := d.showable && (!d.hasDict && (decide (d.depth ≤ 60) && decide (d.shown.length ≤ sizeLine)))
def dRepr : List D → Option D
  | [d] => if reprOk d = true then some (.str d.shown) else none
  | _ => none
def rRepr (K : Fg) : List V → Hp → VK → Prop := fun vs H Q => ∃ (x : V) (d : D), vs = [x] ∧ Dp K H x d ∧ reprOk d = true ∧ Q (.str d.shown) H
theorem reprOk_of {d : D} (h : reprOk d = true) : d.showable = true ∧ d.hasDict = false ∧ d.depth ≤ 60 ∧ d.shown.length ≤ sizeLine := by
  unfold reprOk at h
  rw [Bool.and_eq_true, Bool.and_eq_true, Bool.and_eq_true, Bool.not_eq_true'] at h
  exact ⟨h.1, h.2.1, of_decide_eq_true h.2.2.1, of_decide_eq_true h.2.2.2⟩
theorem cr_repr (hg : X.A.guards = some []) (hu : X.A.units + 64 < cLine) : CallR X (.builtin "repr") (rRepr X.K) := by
  intro pins s σ H vs us Q I r h
  obtain ⟨x, d, rfl, hd, hk, q⟩ := h
  obtain ⟨u, rfl, ru⟩ := vals1 r
  obtain ⟨k1, k2, k3, k4⟩ := reprOk_of hk
  have big : ∀ {a : Addr}, u = .ref a → wpAny (model X.prog X.w) X.A (call (.builtin "repr") [u]) (EP X pins σ Q) X.xe s := fun {a} e => by
    subst e
    obtain ⟨as, rd⟩ := Dp.reads I d x _ hd ru
    refine repr_of_reads' rd k1 (PyData.noDict_hsm k2) hg (by omega) (fun _ _ e => e) (fun h' u tk hk' => ?_) k4
    exact ⟨.str d.shown, H, I.kept hk', ⟨_, rfl⟩, q⟩
  cases hd with
  | non =>
    cases (show u = Value.none from ru)
    exact PySem.P.repr_of_none ⟨.str _, H, I.tok _, ⟨_, rfl⟩, q⟩
  | bl b =>
    cases (show u = Value.bool b from ru)
    exact PySem.P.repr_of_bool ⟨.str _, H, I.tok _, ⟨_, rfl⟩, by simpa [PyData.shown] using q⟩
  | int i =>
    obtain ⟨t, e⟩ := (show ∃ t, u = Value.int i t from ru)
    cases e
    exact PySem.P.repr_of_int (by simpa [PyData.showable] using k1) ⟨.str _, H, I.tok _, ⟨_, rfl⟩, q⟩
  | str z =>
    obtain ⟨t, e⟩ := (show ∃ t, u = Value.str z t from ru)
    cases e
    exact PySem.P.repr_of_str (hsz := by simpa [PyData.shown] using k4) ⟨.str _, H, I.tok _, ⟨_, rfl⟩, by simpa [PyData.shown] using q⟩
  | lst h1 h2 => exact big ru
  | tup h1 h2 => exact big ru
theorem cls_repr : ClS G (rRepr G.K) dRepr := by
  intro H O xs ds z Q hO r hz hq
  unfold dRepr at hz
  split at hz
  · obtain ⟨x, rfl, rx⟩ := one_of r
    split at hz
    · rename_i hk
      cases hz
      exact ⟨x, _, rfl, rx.dp, hk, hq _ _ (fun _ _ h => h) (.str _)⟩
    · cases hz
  · cases hz
/-! ### isinstance -/
def tyName : D → String
  | .none => "NoneType"
  | .bool _ => "bool"
  | .int _ => "int"
  | .str _ => "str"
  | .list _ => "list"
  | .tuple _ => "tuple"
  | .dict _ => "dict"
inductive Kd | int | bool | str | list | tuple
def Kd.nm : Kd → String
  | .int => "int" | .bool => "bool" | .str => "str" | .list => "list" | .tuple => "tuple"
def isK : D → Kd → Bool
  | .bool _, .bool => true
  | .bool _, .int => true
  | .int _, .int => true
  | .str _, .str => true
  | .list _, .list => true
  | .tuple _, .tuple => true
  | _, _ => false
theorem kitN (k : Kd) : kitB "NoneType" k.nm = some (isK .none k) := by cases k <;> decide +kernel
theorem kitBo (k : Kd) : kitB "bool" k.nm = some (isK (.bool true) k) := by cases k <;> decide +kernel
theorem kitI (k : Kd) : kitB "int" k.nm = some (isK (.int 0) k) := by cases k <;> decide +kernel
theorem kitS (k : Kd) : kitB "str" k.nm = some (isK (.str Str.empty) k) := by cases k <;> decide +kernel
theorem kitL (k : Kd) : kitB "list" k.nm = some (isK (.list []) k) := by cases k <;> decide +kernel
theorem kitT (k : Kd) : kitB "tuple" k.nm = some (isK (.tuple []) k) := by cases k <;> decide +kernel
theorem kit_isK {K : Fg} {H : Hp} {O : AS} {v : V} {d : D} (r : RD K H O v d) (k : Kd) : PySem.W.kitOne K (.type (tyName d)) (.type k.nm) = some (isK d k) := by
  cases r with
  | non => exact kit_ty (kitN k)
  | bl b => exact kit_ty ((kitBo k).trans (by cases k <;> rfl))
  | int i => exact kit_ty ((kitI k).trans (by cases k <;> rfl))
  | str x => exact kit_ty ((kitS k).trans (by cases k <;> rfl))
  | lst _ _ _ => exact kit_ty ((kitL k).trans (by cases k <;> rfl))
  | tup _ _ _ => exact kit_ty ((kitT k).trans (by cases k <;> rfl))
theorem tyX_rd {K : Fg} {H : Hp} {O : AS} {v : V} {d : D} (r : RD K H O v d) : TyX K H v (.type (tyName d)) := by
  cases r with
  | non => exact .base .non
  | bl b => exact .base (.bl b)
  | int i => exact .base (.int i)
  | str x => exact .base (.str x)
  | lst h1 h2 h3 => exact .base (.lst h1.1)
  | tup h1 h2 h3 =>
    rcases h1 with h1 | ⟨o, its, n, h1, h4, _⟩
    · exact .base (.tup h1.1)
    · exact .kTuple h1 h4
def dIsi (ks : List Kd) (d : D) : Option D := some (.bool (ks.any (isK d)))
theorem kit_any {K : Fg} {H : Hp} {O : AS} {v : V} {d : D} (r : RD K H O v d) : ∀ ks : List Kd, PySem.W.kitAny K (.type (tyName d)) (ks.map fun k => .type k.nm) = some (ks.any (isK d))
  | [] => kitAny_nil
  | k :: ks => kitAny_cons (kit_isK r k) (fun e => by rw [kit_any r ks, List.any_cons, e, Bool.false_or]) fun e => by rw [List.any_cons, e, Bool.true_or]
theorem isi_tr (k : Kd) : ∀ σ H Q, tE G W (eUn (dIsi [k]) A) σ H Q → tCB (rIsi G.K) (L2.tCons (tE G W A) (L2.tCons (tC (.ty k.nm)) L2.tNil)) σ H Q := fun σ H Q ⟨en, M, Bx, rel, m⟩ =>
  ⟨en, M, Bx, rel, Post.imp (post_bind.mp m) (fun p mp v H1 M1 rel1 st1 rd1 => by
    obtain ⟨z, hz, mz⟩ := post_lift.mp mp
    cases hz
    exact ⟨v, .ty k.nm, _, _, isK p.1 k, rfl, .ty _, tyX_rd rd1, kit_isK rd1 k, mz _ H1 M1 rel1 st1 (by
      show RD _ _ _ _ (.bool ([k].any (isK p.1)))
      rw [List.any_cons, List.any_nil, Bool.or_false]
      exact .bl _)⟩) fun _ _ _ h => h⟩
theorem de_isi (k : Kd) {tx : Str} {p p2 : Pos} (hK : G.K = X.K) (hg : Gl X "isinstance") (hm : X.mg "isinstance" = none) (ha : DE X G W a A) (hg2 : Gl X tx) (hm2 : X.mg tx = none) (hv2 : bootBuiltins tx = some (.type k.nm)) (hn2 : tx ≠ "__name__" := by decide) (hd2 : (tx == ("__debug__" : Str)) = false := by decide)
    (he : starEach [a, .Name tx p2] X.env = (false, eval a X.env) :: starEach [.Name tx p2] X.env := by rfl) (he2 : starEach [.Name tx p2] X.env = (false, eval (.Name tx p2) X.env) :: starEach [] X.env := by rfl) (hpl : (backTo pos (starEach [.Name tx p2] X.env)).any (·.1) = false := by rfl) :
    DE X G W (.Call (.Name "isinstance" p) [a, .Name tx p2] [] pos) (eUn (dIsi [k]) A) := by
  refine ⟨pe_imp (pe_callB call_isi hg hm (by decide +kernel) (pa_cons ha.pe (pa_cons (pe_bltn hg2 hm2 hv2 (v := .ty k.nm) rfl hn2 hd2) pa_nil he2) he) (by decide) (by decide) he hpl) fun σ H Q h => ?_⟩
  have q := isi_tr (G := G) k σ H Q h
  rw [hK] at q
  exact q
theorem isiT_tr (k k' : Kd) : ∀ σ H Q, tE G W (eUn (dIsi [k, k']) A) σ H Q → tCB (rIsiT G.K) (L2.tCons (tE G W A) (L2.tCons (tTup (L2.tCons (tC (.ty k.nm)) (L2.tCons (tC (.ty k'.nm)) L2.tNil))) L2.tNil)) σ H Q := fun σ H Q ⟨en, M, Bx, rel, m⟩ =>
  ⟨en, M, Bx, rel, Post.imp (post_bind.mp m) (fun p mp v H1 M1 rel1 st1 rd1 => by
    obtain ⟨z, hz, mz⟩ := post_lift.mp mp
    cases hz
    refine ⟨(by show 2 ≤ sizeLine; decide), fun t ht => ⟨v, t, [.ty k.nm, .ty k'.nm], _, [.type k.nm, .type k'.nm], ([k, k'].any (isK p.1)), rfl, upd_same, .cons (.ty _) (.cons (.ty _) .nil), tyX_rd (rd1.ext (ext_new ht)), kit_any rd1 [k, k'], mz _ _ M1 (rel1.ext (ext_new ht)) (st1.trans (.ext (ext_new ht))) (.bl _)⟩⟩) fun _ _ _ h => h⟩
theorem de_isiT (k k' : Kd) {tx ty : Str} {p p2 p3 p4 : Pos} {kk : Nat} (hK : G.K = X.K) (hg : Gl X "isinstance") (hm : X.mg "isinstance" = none) (ha : DE X G W a A) (hg2 : Gl X tx) (hm2 : X.mg tx = none) (hv2 : bootBuiltins tx = some (.type k.nm)) (hg3 : Gl X ty) (hm3 : X.mg ty = none) (hv3 : bootBuiltins ty = some (.type k'.nm))
    (hn2 : tx ≠ "__name__" := by decide) (hd2 : (tx == ("__debug__" : Str)) = false := by decide) (hn3 : ty ≠ "__name__" := by decide) (hd3 : (ty == ("__debug__" : Str)) = false := by decide)
    (h5 : starEach [.Name tx p2, .Name ty p3] X.env = (false, eval (.Name tx p2) X.env) :: starEach [.Name ty p3] X.env := by rfl) (h6 : starEach [.Name ty p3] X.env = (false, eval (.Name ty p3) X.env) :: starEach [] X.env := by rfl)
    (he : starEach [a, .Tuple [.Name tx p2, .Name ty p3] kk p4] X.env = (false, eval a X.env) :: starEach [.Tuple [.Name tx p2, .Name ty p3] kk p4] X.env := by rfl) (he2 : starEach [.Tuple [.Name tx p2, .Name ty p3] kk p4] X.env = (false, eval (.Tuple [.Name tx p2, .Name ty p3] kk p4) X.env) :: starEach [] X.env := by rfl)
    (hpl : (backTo pos (starEach [.Tuple [.Name tx p2, .Name ty p3] kk p4] X.env)).any (·.1) = false := by rfl) :
    DE X G W (.Call (.Name "isinstance" p) [a, .Tuple [.Name tx p2, .Name ty p3] kk p4] [] pos) (eUn (dIsi [k, k']) A) := by
  refine ⟨pe_imp (pe_callB call_isiT hg hm (by decide +kernel) (pa_cons ha.pe (pa_cons (pe_tup (pa_cons (pe_bltn hg2 hm2 hv2 (v := .ty k.nm) rfl hn2 hd2) (pa_cons (pe_bltn hg3 hm3 hv3 (v := .ty k'.nm) rfl hn3 hd3) pa_nil h6) h5)) pa_nil he2) he) (by decide) (by decide) he hpl) fun σ H Q h => ?_⟩
  have q := isiT_tr (G := G) k k' σ H Q h
  rw [hK] at q
  exact q
end
end DL

namespace DL
open PySem L2
/-! ### new lists, owned -/
abbrev DNl := En → Rs (List D × En)
def tN (G : Gh) (W : WX) (A : DNl) : TE := fun σ H Q => ∃ en M B, Rel G en σ H M B ∧
  Post (fun q => ∀ p ys H' M', Rel G q.2 σ H' M' B → Step H M H' M' → OwnV G q.2 σ H' M' B p ys q.1 → Q (.ref p) H') (EW G W σ H M B) (A en)
structure DN (X : Cx) (G : Gh) (W : WX) (e : Expr) (A : DNl) : Prop where pn : PE X e (tN G W A)
/-- a new list that nothing holds yet: it may be let stand -/
theorem OwnV.stand {G : Gh} {en : En} {σ : L2.St} {H : Hp} {M : AS} {B : Option Addr} {p : Addr} {ys : List V} {zs : List D} (o : OwnV G en σ H M B p ys zs) (r : Rel G en σ H M B) :
    Rel G en σ H (fun a => M a ∧ a ≠ p) B ∧ Step H M H (fun a => M a ∧ a ≠ p) ∧ RD G.K H (av G fun a => M a ∧ a ≠ p) (.ref p) (.list zs) := by
  have st : Step H M H (fun a => M a ∧ a ≠ p) := ⟨fun _ _ h _ => h, fun a h => .inl h.1⟩
  refine ⟨⟨r.len, fun j s hj => ?_, r.inj, fun q hb => ⟨⟨(r.box q hb).1, fun z => o.nb (by rw [← z]; exact hb)⟩, (r.box q hb).2⟩, r.bne, out_step r.out st, fun a h => r.mh a h.1⟩, st, .lst ⟨o.at_, fun q => ?_⟩ o.len (o.rds.step st)⟩
  · have q := r.slot j s hj
    cases s with
    | no => trivial
    | fz d => obtain ⟨v, q1, q2⟩ := q; exact ⟨v, q1, q2.step st⟩
    | sq ns => obtain ⟨v, q1, q2⟩ := q; exact ⟨v, q1, q2.step st⟩
    | ow es =>
      obtain ⟨p', xs, q1, q2, q3, q4, q5⟩ := q
      refine ⟨p', xs, q1, ⟨q2, fun z => ?_⟩, q3, q4, q5.step st⟩
      subst z
      exact o.ne j es hj q1
    | bx => exact q
  · rcases q with q | q
    · exact q.2 rfl
    · exact (r.out p q).2 o.own
section
variable {X : Cx} {G : Gh} {W : WX} {pos : Pos} {a b e : Expr} {es : List Expr} {A B : DEn} {As : DAs} {N : DNl}
def eN (N : DNl) : DEn := fun en => N en >>= fun q => .ok (.list q.1, q.2)
theorem de_new (h : DN X G W e N) : DE X G W e (eN N) := ⟨pe_imp h.pn fun σ H Q ⟨en, M, Bx, rel, m⟩ => ⟨en, M, Bx, rel, Post.imp (post_bind.mp m) (fun q mq p ys H1 M1 rel1 st1 o => by
  obtain ⟨r2, s2, rd⟩ := o.stand rel1
  exact mq _ H1 _ r2 (st1.trans s2) rd) fun _ _ _ h => h⟩⟩
/-- from a rule that lays a new list -/
theorem own_new {en : En} {σ : L2.St} {H : Hp} {M : AS} {Bx : Option Addr} {p : Addr} {ys : List V} {zs : List D} (r : Rel G en σ H M Bx) (hp : H p = none) (hl : ys.length ≤ sizeLine) (rd : RDs G.K H (av G M) ys zs) :
    Rel G en σ (upd H p (.lst ys)) (fun a => M a ∨ a = p) Bx ∧ Step H M (upd H p (.lst ys)) (fun a => M a ∨ a = p) ∧ OwnV G en σ (upd H p (.lst ys)) (fun a => M a ∨ a = p) Bx p ys zs := by
  have ex : Ext H (upd H p (.lst ys)) := ext_new hp
  have st : Step H M (upd H p (.lst ys)) (fun a => M a ∨ a = p) := ⟨fun a o h _ => ex a o h, fun a h => h.elim .inl fun q => .inr (by rw [q]; exact hp)⟩
  refine ⟨⟨r.len, fun j s hj => ?_, r.inj, fun q hb => ⟨.inl (r.box q hb).1, ex _ _ (r.box q hb).2⟩, r.bne, out_step r.out st, fun a h => ?_⟩, st, .inr rfl, upd_same, hl, rd.step st, fun i ds hi hs => ?_, fun hb => ?_⟩
  · have q := r.slot j s hj
    cases s with
    | no => trivial
    | fz d => obtain ⟨v, q1, q2⟩ := q; exact ⟨v, q1, q2.step st⟩
    | sq ns => obtain ⟨v, q1, q2⟩ := q; exact ⟨v, q1, q2.step st⟩
    | ow es => obtain ⟨p', xs, q1, q2, q3, q4, q5⟩ := q; exact ⟨p', xs, q1, .inl q2, ex _ _ q3, q4, q5.step st⟩
    | bx => exact q
  · rcases h with h | h
    · cases e : H a with
      | none => exact absurd e (r.mh a h)
      | some o => rw [ex a o e]; exact fun z => nomatch z
    · subst h
      rw [upd_same]
      exact fun z => nomatch z
  · obtain ⟨p', xs, q1, q2, q3, q4, q5⟩ := r.slot i _ hi
    rw [hs] at q1
    cases q1
    rw [hp] at q3
    cases q3
  · have := (r.box p hb).2
    rw [hp] at this
    cases this
def NwS (G : Gh) (r : List V → Hp → VK → Prop) (f : List D → Option (List D)) : Prop := ∀ (H : Hp) (O : AS) (xs : List V) (ds zs : List D) (Q : VK), (∀ a, O a → H a ≠ none) → RDs G.K H O xs ds → f ds = some zs →
  (∀ p ys, H p = none → ys.length ≤ sizeLine → RDs G.K H O ys zs → Q (.ref p) (upd H p (.lst ys))) → r xs H Q
def nCl (f : List D → Option (List D)) (a : DAs) : DNl := fun en => a en >>= fun p => liftO (f p.1) >>= fun z => .ok (z, p.2)
theorem nw_tr {r : List V → Hp → VK → Prop} {f : List D → Option (List D)} (hs : NwS G r f) : ∀ σ H Q, tN G W (nCl f As) σ H Q → tCB r (tA G W As) σ H Q := fun σ H Q ⟨en, M, Bx, rel, m⟩ =>
  ⟨en, M, Bx, rel, Post.imp (post_bind.mp m) (fun p mp v H1 M1 rel1 st1 rd1 => by
    obtain ⟨z, hz, mz⟩ := post_lift.mp mp
    refine hs H1 _ v p.1 z Q rel1.avh rd1 hz fun q ys hq hl rd => ?_
    obtain ⟨r2, s2, o⟩ := own_new rel1 hq hl rd
    exact mz q ys _ _ r2 (st1.trans s2) o) fun _ _ _ h => h⟩
def nwL (ds : List D) : Option (List D) := if ds.length ≤ sizeLine then some ds else none
theorem dn_lst (h : DA X G W es As) : DN X G W (.List es pos) (nCl nwL As) :=
  ⟨pe_imp (pe_lst h.pa) fun σ H Q q => nw_tr (r := fun xs H1 Q => xs.length ≤ sizeLine ∧ ∀ p, H1 p = none → Q (.ref p) (upd H1 p (.lst xs))) (fun H O xs ds z Q hO rd hz hq => by
    unfold nwL at hz
    split at hz
    · rename_i hl
      cases hz
      have hl' : xs.length ≤ sizeLine := by rw [rd.length]; exact hl
      exact ⟨hl', fun p hp => hq _ _ hp hl' rd⟩
    · cases hz) σ H Q q⟩
def nList : List D → Option (List D)
  | [.list ds] => some ds
  | [.tuple ds] => some ds
  | _ => none
theorem nws_list : NwS G (fun xs H Q => ∃ p ys, xs = [.ref p] ∧ (SqL G.K H p ys ∨ SqT G.K H p ys) ∧ ∀ l, H l = none → Q (.ref l) (upd H l (.lst ys))) nList := by
  intro H O xs ds z Q hO r hz hq
  unfold nList at hz
  split at hz
  · obtain ⟨x, rfl, rx⟩ := one_of r
    cases hz
    cases rx with
    | lst h1 h2 h3 => exact ⟨_, _, rfl, .inl h1.sq, fun l hl => hq _ _ hl h2 h3⟩
  · obtain ⟨x, rfl, rx⟩ := one_of r
    cases hz
    cases rx with
    | tup h1 h2 h3 => exact ⟨_, _, rfl, .inr h1.sq, fun l hl => hq _ _ hl h2 h3⟩
  · cases hz
theorem dn_list {p : Pos} (hK : G.K = X.K) (hg : Gl X "list") (hm : X.mg "list" = none) (ha : DA X G W [a] As) (he : starEach [a] X.env = (false, eval a X.env) :: starEach [] X.env := by rfl) (hpl : (backTo pos (starEach [] X.env)).any (·.1) = false := by rfl) :
    DN X G W (.Call (.Name "list" p) [a] [] pos) (nCl nList As) := by
  refine ⟨pe_imp (pe_callTy call_list_of hg hm (by decide +kernel) ha.pa (by decide) (by decide) he hpl) fun σ H Q q => ?_⟩
  have z := nw_tr (G := G) nws_list σ H Q q
  rw [hK] at z
  exact z
/-- a list times a number -/
def nRep (a b : DEn) : DNl := fun en => a en >>= fun p => b p.2 >>= fun q => liftO (match p.1, q.1 with
  | .list xs, .int k => if 0 ≤ k ∧ k < 2 ^ 63 ∧ xs.length * k.toNat ≤ sizeLine then some (List.replicate k.toNat xs).flatten else none
  | _, _ => none) >>= fun z => .ok (z, q.2)
theorem dn_rep (ha : DE X G W a A) (hb : DE X G W b B) : DN X G W (.BinOp a .Mult b pos) (nRep A B) :=
  ⟨pe_imp (pe_op op_rep ha.pe hb.pe) fun σ H Q ⟨en, M, Bx, rel, m⟩ =>
    ⟨en, M, Bx, rel, Post.imp (post_bind.mp m) (fun p mp v H1 M1 rel1 st1 rd1 => ⟨p.2, M1, Bx, rel1, Post.imp (post_bind.mp mp) (fun q mq w H2 M2 rel2 st2 rd2 => by
      obtain ⟨z, hz, mz⟩ := post_lift.mp mq
      have rd1' := rd1.step st2
      generalize p.1 = d at rd1' hz
      generalize q.1 = e at rd2 hz
      split at hz
      · cases rd2
        cases rd1' with
        | lst h1 h2 h3 =>
          split at hz
          · rename_i h
            cases hz
            have hl' := h.2.2
            rw [← h3.length] at hl'
            refine ⟨_, _, _, rfl, rfl, h1.1, by omega, h.2.1, hl', fun x hx => ?_⟩
            obtain ⟨r3, s3, o⟩ := own_new rel2 hx (ys := (List.replicate _ _).flatten) (by rw [PyProof.Rows.lm_len_rep_flat, Nat.mul_comm]; exact hl') (h3.rep _)
            exact mz x _ _ _ r3 ((st1.trans st2).trans s3) o
          · cases hz
      · cases hz) fun c d en h => h.step st1⟩) fun _ _ _ h => h⟩⟩
/-- two lists put together anew -/
def nCat (a b : DEn) : DNl := fun en => a en >>= fun p => b p.2 >>= fun q => liftO (match p.1, q.1 with
  | .list xs, .list ys => if xs.length + ys.length ≤ sizeLine then some (xs ++ ys) else none
  | _, _ => none) >>= fun z => .ok (z, q.2)
theorem dn_cat (hK : G.K = X.K) (ha : DE X G W a A) (hb : DE X G W b B) : DN X G W (.BinOp a .Add b pos) (nCat A B) :=
  ⟨pe_imp (pe_op op_cat ha.pe hb.pe) fun σ H Q ⟨en, M, Bx, rel, m⟩ =>
    ⟨en, M, Bx, rel, Post.imp (post_bind.mp m) (fun p mp v H1 M1 rel1 st1 rd1 => ⟨p.2, M1, Bx, rel1, Post.imp (post_bind.mp mp) (fun q mq w H2 M2 rel2 st2 rd2 => by
      obtain ⟨z, hz, mz⟩ := post_lift.mp mq
      have rd1' := rd1.step st2
      generalize p.1 = d at rd1' hz
      generalize q.1 = e at rd2 hz
      split at hz
      · cases rd2 with
        | lst k1 k2 k3 => cases rd1' with
          | lst h1 h2 h3 =>
            split at hz
            · rename_i h
              cases hz
              have hl' := h
              rw [← h3.length, ← k3.length] at hl'
              refine ⟨_, _, _, _, rfl, rfl, h1.1, k1.1, hl', fun x hx => ?_⟩
              obtain ⟨r3, s3, o⟩ := own_new rel2 hx (by rw [List.length_append]; exact hl') (h3.append k3)
              exact mz x _ _ _ r3 ((st1.trans st2).trans s3) o
            · cases hz
      · cases hz) fun c d en h => h.step st1⟩) fun _ _ _ h => h⟩⟩
end
/-! ### statements -/
def Out.en : Out → En
  | .nx en => en
  | .rt _ en => en
  | .rn _ en => en
  | .bk en => en
  | .ct en => en
theorem OutOk.step {G : Gh} {Ds : Ends} {H H1 : Hp} {M M1 : AS} {B : Option Addr} {o : Out} (h : OutOk G Ds H M B o) (s : Step H M H1 M1) : OutOk G Ds H1 M1 B o := by
  cases o with
  | nx en => exact fun σ' H' M' B' r s' b => h σ' H' M' B' r (s.trans s') b
  | rt d en => exact fun v σ' H' M' B' r s' b => h v σ' H' M' B' r (s.trans s') b
  | rn d en => exact fun p v σ' H' M' B' r s' b => h p v σ' H' M' B' r (s.trans s') b
  | bk en => exact fun σ' H' M' B' r s' b => h σ' H' M' B' r (s.trans s') b
  | ct en => exact fun σ' H' M' B' r s' b => h σ' H' M' B' r (s.trans s') b
theorem OutOk.stepB {G : Gh} {Ds : Ends} {H H1 : Hp} {M M1 : AS} {B B1 : Option Addr} {o : Out} (h : OutOk G Ds H M B o) (s : Step H M H1 M1) (hb : G.top = false → B1 = B) : OutOk G Ds H1 M1 B1 o := by
  cases o with
  | nx en => exact fun σ' H' M' B' r s' b => h σ' H' M' B' r (s.trans s') fun t => (b t).trans (hb t)
  | rt d en => exact fun v σ' H' M' B' r s' b => h v σ' H' M' B' r (s.trans s') fun t => (b t).trans (hb t)
  | rn d en => exact fun p v σ' H' M' B' r s' b => h p v σ' H' M' B' r (s.trans s') fun t => (b t).trans (hb t)
  | bk en => exact fun σ' H' M' B' r s' b => h σ' H' M' B' r (s.trans s') fun t => (b t).trans (hb t)
  | ct en => exact fun σ' H' M' B' r s' b => h σ' H' M' B' r (s.trans s') fun t => (b t).trans (hb t)
theorem EWS.stepB {G : Gh} {W : WX} {H H1 : Hp} {M M1 : AS} {B B1 : Option Addr} {c : Str} {d : D} {en : En} (h : EWS G W H M B c d en) (s : Step H M H1 M1) (hb : G.top = false → B1 = B) : EWS G W H1 M1 B1 c d en :=
  fun cls dd σ' H' M' B' r s' b x => h cls dd σ' H' M' B' r (s.trans s') (fun t => (b t).trans (hb t)) x
theorem EWS.ew {G : Gh} {W : WX} {H : Hp} {M : AS} {B : Option Addr} {c : Str} {d : D} {en : En} (h : EWS G W H M B c d en) (σ : L2.St) : EW G W σ H M B c d en :=
  fun cls dd H' M' r s x => h cls dd σ H' M' B r s (fun _ => rfl) x
section
variable {X : Cx} {G : Gh} {W : WX} {pos : Pos} {a b e : Expr} {es : List Expr} {A B : DEn} {As : DAs} {st : Stmt} {rest : List Stmt} {S T : DSt} {TA : DTt} {N : DNl}
def sNx : DSt := fun en => .ok (.nx en)
def sSeq (s t : DSt) : DSt := fun en => s en >>= fun o => match o with
  | .nx en' => t en'
  | .rt d en' => .ok (.rt d en')
  | .rn d en' => .ok (.rn d en')
  | .bk en' => .ok (.bk en')
  | .ct en' => .ok (.ct en')
theorem ds_nil : DSs X G W [] sNx := ⟨pss_imp pss_nil fun Ds σ H ⟨en, M, Bx, rel, m⟩ => m σ H M Bx rel .refl fun _ => rfl⟩
theorem ds_one (h : DS X G W st S) : DSs X G W [st] S := ⟨pss_one h.ps⟩
theorem ds_cons (h : DS X G W st S) (hr : DSs X G W rest T) : DSs X G W (st :: rest) (sSeq S T) :=
  ⟨pss_imp (pss_cons h.ps hr.pss) fun Ds σ H ⟨en, M, Bx, rel, m⟩ => ⟨en, M, Bx, rel, Post.imp (post_bind.mp m) (fun o mo => by
    cases o with
    | nx en1 => exact fun σ1 H1 M1 B1 rel1 st1 b1 => ⟨en1, M1, B1, rel1, Post.imp mo (fun o2 m2 => m2.stepB st1 b1) fun _ _ _ h => h.stepB st1 b1⟩
    | rt d en1 => exact mo
    | rn d en1 => exact mo
    | bk en1 => exact mo
    | ct en1 => exact mo) fun _ _ _ h => h⟩⟩
def sPass : DSt := sNx
theorem ds_pass : DS X G W (.Pass pos) sPass := ⟨ps_imp ps_pass fun Ds σ H ⟨en, M, Bx, rel, m⟩ => m σ H M Bx rel .refl fun _ => rfl⟩
def sBrk : DSt := fun en => .ok (.bk en)
def sCnt : DSt := fun en => .ok (.ct en)
theorem ds_brk : DS X G W (.Break pos) sBrk := ⟨ps_imp ps_break fun Ds σ H ⟨en, M, Bx, rel, m⟩ => m σ H M Bx rel .refl fun _ => rfl⟩
theorem ds_cnt : DS X G W (.Continue pos) sCnt := ⟨ps_imp ps_continue fun Ds σ H ⟨en, M, Bx, rel, m⟩ => m σ H M Bx rel .refl fun _ => rfl⟩
theorem ds_doc {x : Str} {j : Nat} {p2 : Pos} : DS X G W (.Expr (.Constant (.str x) j pos) p2) sNx := ⟨ps_imp ps_doc fun Ds σ H ⟨en, M, Bx, rel, m⟩ => m σ H M Bx rel .refl fun _ => rfl⟩
def sExp (a : DEn) : DSt := fun en => a en >>= fun p => .ok (.nx p.2)
theorem ds_exp (h : DE X G W a A) (hs : swapsWith a none pos.line X.env = pure false := by rfl) : DS X G W (.Expr a pos) (sExp A) :=
  ⟨ps_imp (ps_expr h.pe hs) fun Ds σ H ⟨en, M, Bx, rel, m⟩ => ⟨en, M, Bx, rel, Post.imp (post_bind.mp m) (fun p mp v H1 M1 rel1 st1 rd1 => mp σ H1 M1 Bx rel1 st1 fun _ => rfl) fun _ _ _ h => h.ew σ⟩⟩
def sRet (a : DEn) : DSt := fun en => a en >>= fun p => .ok (.rt p.1 p.2)
theorem ds_ret (h : DE X G W a A) : DS X G W (.Return (some a) pos) (sRet A) :=
  ⟨ps_imp (ps_ret h.pe) fun Ds σ H ⟨en, M, Bx, rel, m⟩ => ⟨en, M, Bx, rel, Post.imp (post_bind.mp m) (fun p mp v H1 M1 rel1 st1 rd1 => mp v σ H1 M1 Bx rel1 st1 (fun _ => rfl) rd1) fun _ _ _ h => h.ew σ⟩⟩
/-- a new list handed back: nobody else has it -/
def sRetO (n : DNl) : DSt := fun en => n en >>= fun p => .ok (.rn p.1 p.2)
theorem ds_retO (h : DN X G W e N) : DS X G W (.Return (some e) pos) (sRetO N) :=
  ⟨ps_imp (ps_ret h.pn) fun Ds σ H ⟨en, M, Bx, rel, m⟩ => ⟨en, M, Bx, rel, Post.imp (post_bind.mp m) (fun q mq p ys H1 M1 rel1 st1 o => mq p ys σ H1 M1 Bx rel1 st1 (fun _ => rfl) o) fun _ _ _ h => h.ew σ⟩⟩
def sRetN : DSt := fun en => .ok (.rt .none en)
theorem ds_retN : DS X G W (.Return none pos) sRetN := ⟨ps_imp ps_retN fun Ds σ H ⟨en, M, Bx, rel, m⟩ => m .non σ H M Bx rel .refl (fun _ => rfl) .non⟩
def sIf (t : DTt) (a b : DSt) : DSt := fun en => t en >>= fun p => if p.1 = true then a p.2 else b p.2
theorem ds_if {xs ys : List Stmt} (h : DT X G W e TA) (ha : DSs X G W xs S) (hb : DSs X G W ys T) : DS X G W (.If e xs ys pos) (sIf TA S T) :=
  ⟨ps_imp (ps_if h.pt ha.pss hb.pss) fun Ds σ H ⟨en, M, Bx, rel, m⟩ => ⟨en, M, Bx, rel, Post.imp (post_bind.mp m) (fun p mp H1 M1 rel1 st1 => by
    by_cases c : p.1 = true
    · rw [if_pos c] at mp ⊢
      exact ⟨p.2, M1, Bx, rel1, Post.imp mp (fun o mo => mo.stepB st1 fun _ => rfl) fun _ _ _ h => h.stepB st1 fun _ => rfl⟩
    · rw [if_neg c] at mp ⊢
      exact ⟨p.2, M1, Bx, rel1, Post.imp mp (fun o mo => mo.stepB st1 fun _ => rfl) fun _ _ _ h => h.stepB st1 fun _ => rfl⟩) fun _ _ _ h => h.ew σ⟩⟩
/-! ### stores -/
def En.put (en : En) (i : Nat) (s : Sl) : En := { en with sl := en.sl.set i s }
theorem put_same {en : En} {i : Nat} {s : Sl} (h : i < en.sl.length) : (en.put i s).sl[i]? = some s := List.getElem?_set_self h
theorem put_ne {en : En} {i j : Nat} {s : Sl} (h : j ≠ i) : (en.put i s).sl[j]? = en.sl[j]? := List.getElem?_set_ne (Ne.symm h)
theorem put_out {en : En} {i : Nat} {s t : Sl} (h : (en.put i s).sl[i]? = some t) : t = s ∧ i < en.sl.length := by
  have hi : i < en.sl.length := by
    have := (List.getElem?_eq_some_iff.mp h).1
    simpa [En.put] using this
  rw [put_same hi] at h
  exact ⟨(Option.some.inj h).symm, hi⟩
/-- a datum stored at a name -/
theorem Rel.set {en : En} {σ : L2.St} {H : Hp} {M : AS} {Bx : Option Addr} {v : V} {d : D} {i : Nat} (r : Rel G en σ H M Bx) (rd : RD G.K H (av G M) v d) : Rel G (en.put i (.fz d)) (σ.set i (some v)) H M Bx := by
  refine ⟨by rw [List.length_set, r.len]; simp [En.put], fun j s hj => ?_, fun j k p ds es hne hj hk h1 h2 => ?_, r.box, fun p j ds hb hj h1 => ?_, r.out, r.mh⟩
  · by_cases c : j = i
    · subst c
      obtain ⟨e1, e2⟩ := put_out hj
      subst e1
      exact ⟨v, by rw [List.getElem?_set_self (by rw [r.len]; exact e2)], rd⟩
    · rw [put_ne c] at hj
      have q := r.slot j s hj
      have se : (σ.set i (some v))[j]? = σ[j]? := List.getElem?_set_ne (Ne.symm c)
      cases s with
      | no => trivial
      | fz d => obtain ⟨v, q1, q2⟩ := q; exact ⟨v, by rw [se]; exact q1, q2⟩
      | sq ns => obtain ⟨v, q1, q2⟩ := q; exact ⟨v, by rw [se]; exact q1, q2⟩
      | ow es => obtain ⟨p', xs, q1, q2⟩ := q; exact ⟨p', xs, by rw [se]; exact q1, q2⟩
      | bx => obtain ⟨p, q1, q2⟩ := q; exact ⟨p, q1, by rw [se]; exact q2⟩
  · have cj : j ≠ i := fun z => by subst z; cases (put_out hj).1
    have ck : k ≠ i := fun z => by subst z; cases (put_out hk).1
    rw [put_ne cj] at hj
    rw [put_ne ck] at hk
    rw [List.getElem?_set_ne (Ne.symm cj)] at h1
    rw [List.getElem?_set_ne (Ne.symm ck)] at h2
    exact r.inj j k p ds es hne hj hk h1 h2
  · have cj : j ≠ i := fun z => by subst z; cases (put_out hj).1
    rw [put_ne cj] at hj
    rw [List.getElem?_set_ne (Ne.symm cj)] at h1
    exact r.bne p j ds hb hj h1
theorem Rel.setOwn {en : En} {σ : L2.St} {H : Hp} {M : AS} {Bx : Option Addr} {p : Addr} {ys : List V} {zs : List D} {i : Nat} (r : Rel G en σ H M Bx) (o : OwnV G en σ H M Bx p ys zs) : Rel G (en.put i (.ow zs)) (σ.set i (some (.ref p))) H M Bx := by
  refine ⟨by rw [List.length_set, r.len]; simp [En.put], fun j s hj => ?_, fun j k q ds es hne hj hk h1 h2 => ?_, r.box, fun q j ds hb hj h1 => ?_, r.out, r.mh⟩
  · by_cases c : j = i
    · subst c
      obtain ⟨e1, e2⟩ := put_out hj
      subst e1
      exact ⟨p, ys, by rw [List.getElem?_set_self (by rw [r.len]; exact e2)], o.own, o.at_, o.len, o.rds⟩
    · rw [put_ne c] at hj
      have q := r.slot j s hj
      have se : (σ.set i (some (.ref p)))[j]? = σ[j]? := List.getElem?_set_ne (Ne.symm c)
      cases s with
      | no => trivial
      | fz d => obtain ⟨v, q1, q2⟩ := q; exact ⟨v, by rw [se]; exact q1, q2⟩
      | sq ns => obtain ⟨v, q1, q2⟩ := q; exact ⟨v, by rw [se]; exact q1, q2⟩
      | ow es => obtain ⟨p', xs, q1, q2⟩ := q; exact ⟨p', xs, by rw [se]; exact q1, q2⟩
      | bx => obtain ⟨p, q1, q2⟩ := q; exact ⟨p, q1, by rw [se]; exact q2⟩
  · by_cases cj : j = i
    · subst cj
      obtain ⟨_, e2⟩ := put_out hj
      rw [List.getElem?_set_self (by rw [r.len]; exact e2)] at h1
      cases h1
      rw [put_ne (Ne.symm hne)] at hk
      rw [List.getElem?_set_ne hne] at h2
      exact o.ne k es hk h2
    · rw [put_ne cj] at hj
      rw [List.getElem?_set_ne (Ne.symm cj)] at h1
      by_cases ck : k = i
      · subst ck
        obtain ⟨_, e2⟩ := put_out hk
        rw [List.getElem?_set_self (by rw [r.len]; exact e2)] at h2
        cases h2
        exact o.ne j ds hj h1
      · rw [put_ne ck] at hk
        rw [List.getElem?_set_ne (Ne.symm ck)] at h2
        exact r.inj j k q ds es hne hj hk h1 h2
  · by_cases cj : j = i
    · subst cj
      obtain ⟨_, e2⟩ := put_out hj
      rw [List.getElem?_set_self (by rw [r.len]; exact e2)] at h1
      cases h1
      exact o.nb hb
    · rw [put_ne cj] at hj
      rw [List.getElem?_set_ne (Ne.symm cj)] at h1
      exact r.bne q j ds hb hj h1
def sAsg (i : Nat) (a : DEn) : DSt := fun en => a en >>= fun p => .ok (.nx (p.2.put i (.fz p.1)))
theorem ds_asg (i : Nat) {x : Str} {p2 : Pos} (hN : X.N.Nodup) (hi : X.N[i]? = some x) (hx : Loc X.env.scope x) (h : DE X G W e A) (hs : swapsWith e (some (.Name x p2)) pos.line X.env = pure false := by rfl) (hf : X.fn x = true ∨ X.env.scope.names.lookup x = some .local := by first | exact .inl rfl | exact .inr rfl | assumption) :
    DS X G W (.Assign [.Name x p2] e pos) (sAsg i A) :=
  ⟨ps_imp (ps_set hN hi hx h.pe hs hf) fun Ds σ H ⟨en, M, Bx, rel, m⟩ => ⟨en, M, Bx, rel, Post.imp (post_bind.mp m) (fun p mp v H1 M1 rel1 st1 rd1 => mp _ H1 M1 Bx (rel1.set rd1) st1 fun _ => rfl) fun _ _ _ h => h.ew σ⟩⟩
def sOwn (i : Nat) (n : DNl) : DSt := fun en => n en >>= fun p => .ok (.nx (p.2.put i (.ow p.1)))
theorem ds_own (i : Nat) {x : Str} {p2 : Pos} (hN : X.N.Nodup) (hi : X.N[i]? = some x) (hx : Loc X.env.scope x) (h : DN X G W e N) (hs : swapsWith e (some (.Name x p2)) pos.line X.env = pure false := by rfl) (hf : X.fn x = true ∨ X.env.scope.names.lookup x = some .local := by first | exact .inl rfl | exact .inr rfl | assumption) :
    DS X G W (.Assign [.Name x p2] e pos) (sOwn i N) :=
  ⟨ps_imp (ps_set hN hi hx h.pn hs hf) fun Ds σ H ⟨en, M, Bx, rel, m⟩ => ⟨en, M, Bx, rel, Post.imp (post_bind.mp m) (fun q mq p ys H1 M1 rel1 st1 o => mq _ H1 M1 Bx (rel1.setOwn o) st1 fun _ => rfl) fun _ _ _ h => h.ew σ⟩⟩
/-- an owned list written -/
theorem Rel.write {en : En} {σ : L2.St} {H : Hp} {M : AS} {Bx : Option Addr} {p : Addr} {i : Nat} {ds zs : List D} {ys : List V} (r : Rel G en σ H M Bx) (hi : en.sl[i]? = some (Sl.ow ds)) (hp : σ[i]? = some (some (V.ref p))) (hl : ys.length ≤ sizeLine) (rd : RDs G.K H (av G M) ys zs) :
    Rel G (en.put i (.ow zs)) σ (upd H p (.lst ys)) M Bx ∧ Step H M (upd H p (.lst ys)) M := by
  obtain ⟨p', xs, h1, h2, h3, h4, h5⟩ := r.slot i _ hi
  obtain rfl : p' = p := by
    rw [hp] at h1
    exact (V.ref.inj (Option.some.inj (Option.some.inj h1))).symm
  have st : Step H M (upd H p' (.lst ys)) M := ⟨fun a o h n => by rw [upd_ne (fun z => n (by rw [z]; exact h2))]; exact h, fun _ h => .inl h⟩
  refine ⟨⟨by rw [r.len]; simp [En.put], fun j s hj => ?_, fun j k q ds' es hne hj hk g1 g2 => ?_, fun q hb => ⟨(r.box q hb).1, ?_⟩, fun q j ds' hb hj g1 => ?_, out_step r.out st, fun a h => ?_⟩, st⟩
  · by_cases c : j = i
    · subst c
      obtain ⟨e1, e2⟩ := put_out hj
      subst e1
      exact ⟨p', ys, hp, h2, upd_same, hl, rd.step st⟩
    · rw [put_ne c] at hj
      have q := r.slot j s hj
      cases s with
      | no => trivial
      | fz d => obtain ⟨v, q1, q2⟩ := q; exact ⟨v, q1, q2.step st⟩
      | sq ns => obtain ⟨v, q1, q2⟩ := q; exact ⟨v, q1, q2.step st⟩
      | ow es =>
        obtain ⟨p2, xs2, q1, q2, q3, q4, q5⟩ := q
        refine ⟨p2, xs2, q1, q2, ?_, q4, q5.step st⟩
        rw [upd_ne fun z => ?_]
        · exact q3
        · subst z
          exact r.inj j i p2 es ds c hj hi q1 hp
      | bx => exact q
  · have fj : ∀ {j : Nat} {ds' : List D}, (en.put i (.ow zs)).sl[j]? = some (Sl.ow ds') → ∃ d2, en.sl[j]? = some (Sl.ow d2) := fun {j ds'} hj => by
      by_cases c : j = i
      · subst c; exact ⟨_, hi⟩
      · rw [put_ne c] at hj; exact ⟨_, hj⟩
    obtain ⟨_, a1⟩ := fj hj
    obtain ⟨_, a2⟩ := fj hk
    exact r.inj j k q _ _ hne a1 a2 g1 g2
  · rw [upd_ne fun z => ?_]
    · exact (r.box q hb).2
    · subst z
      exact r.bne q i ds hb hi hp
  · by_cases c : j = i
    · subst c; exact r.bne q j ds hb hi g1
    · rw [put_ne c] at hj; exact r.bne q j ds' hb hj g1
  · by_cases c : a = p'
    · subst c; rw [upd_same]; exact fun z => nomatch z
    · rw [upd_ne c]; exact r.mh a h
def sApp (i : Nat) (a : DEn) : DSt := fun en => (match en.sl[i]? with | some (.ow _) => a en | _ => .bad) >>= fun p => match p.2.sl[i]? with
  | some (.ow ds) => if ds.length < sizeLine then .ok (.nx (p.2.put i (.ow (ds ++ [p.1])))) else .bad
  | _ => .bad
theorem ds_app (i : Nat) {x : Str} {p2 p3 p4 : Pos} (hN : X.N[i]? = some x) (hv : Vis X.env.scope x) (h : DE X G W e A) (hd : (x == ("__debug__" : Str)) = false := by decide) (hcd : (x == ("__classdict__" : Str)) = false := by decide)
    (hes : starEach [e] X.env = (false, eval e X.env) :: starEach [] X.env := by rfl) (hpl : (backTo p3 (starEach [] X.env)).any (·.1) = false := by rfl) (hline : (p2.endLine == p3.line) = true := by rfl) (hb : attributeBase (.Name x pos) "append" X.env (eval (.Name x pos) X.env) = eval (.Name x pos) X.env := by rfl)
    (hfew : ((backTo p3 (starEach [e] X.env)).all (fun x => !x.1) && ((backToKw p3 (keywordEach [] X.env)).all (fun x => x.1.isSome)) && decide ([e].length + ([] : List Keyword).length + (if ([] : List Keyword).isEmpty then 0 else 1) < 30)) = true := by rfl)
    (hsw : swapsWith (.Call (.Attribute (.Name x pos) "append" p2) [e] [] p3) none p4.line X.env = pure false := by rfl) :
    DS X G W (.Expr (.Call (.Attribute (.Name x pos) "append" p2) [e] [] p3) p4) (sApp i A) := by
  refine ⟨ps_imp (ps_expr (pe_bm PySem.F.plainAttrs_list PySem.F.slot_list_append PySem.F.type_list_append mt_append (pe_var hN hv hd hcd) (pa_cons h.pe pa_nil hes) hb hfew hline hes hpl) hsw) fun Ds σ H ⟨en, M, Bx, rel, m⟩ => ?_⟩
  have m := post_bind.mp m
  cases es : en.sl[i]? with
  | none => rw [es] at m; exact m.elim
  | some s =>
    rw [es] at m
    cases s with
    | ow ds0 =>
      obtain ⟨p, xs, h1, h2, h3, h4, h5⟩ := rel.slot i _ es
      refine ⟨_, h1, .inl ⟨rfl, _, .inl (.inl h3)⟩, en, M, Bx, rel, Post.imp m (fun q mq v H1 M1 rel1 st1 rd1 => ?_) fun _ _ _ h => h.ew σ⟩
      cases e1 : q.2.sl[i]? with
      | none => rw [e1] at mq; exact mq.elim
      | some s1 =>
        rw [e1] at mq
        cases s1 with
        | ow ds =>
          dsimp only at mq
          split at mq
          · rename_i hl
            obtain ⟨p', ys, g1, g2, g3, g4, g5⟩ := rel1.slot i _ e1
            rw [h1] at g1
            cases g1
            have hl' : ys.length < sizeLine := by rw [g5.length]; exact hl
            obtain ⟨r2, s2⟩ := rel1.write (ys := ys ++ [v]) (zs := ds ++ [q.1]) e1 h1 (by rw [List.length_append, List.length_singleton]; omega) (g5.append (.one rd1))
            exact ⟨p, ys, v, rfl, rfl, g3, hl', mq σ _ M1 Bx r2 (st1.trans s2) fun _ => rfl⟩
          · exact mq.elim
        | _ => exact mq.elim
    | _ => exact m.elim
/-- xs[i] = e of an owned list -/
def sStore (i : Nat) (a ix : DEn) : DSt := fun en => a en >>= fun p => (match p.2.sl[i]? with | some (.ow _) => ix p.2 | _ => .bad) >>= fun q => match q.2.sl[i]? with
  | some (.ow ds) => (liftO ((asI q.1).bind fun k => ixN ds.length k)) >>= fun j => .ok (.nx (q.2.put i (.ow (ds.set j p.1))))
  | _ => .bad
theorem ds_store (i : Nat) {x : Str} {p2 p3 : Pos} {ix : Expr} {I : DEn} (hN : X.N[i]? = some x) (hv : Vis X.env.scope x) (h : DE X G W e A) (hI : DE X G W ix I) (hd : (x == ("__debug__" : Str)) = false := by decide) (hcd : (x == ("__classdict__" : Str)) = false := by decide)
    (ha : ∀ v, assign (.Subscript (.Name x p2) ix p3) X.env v = (do
      let ov ← holding [v] (eval (.Name x p2) X.env)
      let iv ← holding [v, ov] (eval ix X.env)
      standAt p3
      holding [v, ov, iv] (setItem ov iv v)
      release [v, ov, iv] []) := by intro _; rfl) (hs : swapsWithSole [.Subscript (.Name x p2) ix p3] e pos.line X.env = pure false := by rfl) (hw : swappedStores [.Subscript (.Name x p2) ix p3] e X.env = pure none := by rfl)
    (h1 : (assignEach [.Subscript (.Name x p2) ix p3] X.env).map (·.2) = [assign (.Subscript (.Name x p2) ix p3) X.env] := by rfl) :
    DS X G W (.Assign [.Subscript (.Name x p2) ix p3] e pos) (sStore i A I) := by
  refine ⟨ps_imp (ps_asg h.pe (pg_sub (pe_var hN hv hd hcd) hI.pe set_list ha) hs hw h1) fun Ds σ H ⟨en, M, Bx, rel, m⟩ => ⟨en, M, Bx, rel, Post.imp (post_bind.mp m) (fun p mp v H1 M1 rel1 st1 rd1 => ?_) fun _ _ _ h => h.ew σ⟩⟩
  have mp := post_bind.mp mp
  cases es : p.2.sl[i]? with
  | none => rw [es] at mp; exact mp.elim
  | some s =>
    rw [es] at mp
    cases s with
    | ow ds0 =>
      obtain ⟨a0, xs, g1, g2, g3, g4, g5⟩ := rel1.slot i _ es
      refine ⟨_, g1, p.2, M1, Bx, rel1, Post.imp mp (fun q mq w H2 M2 rel2 st2 rd2 => ?_) fun _ _ _ h => (h.ew σ).step st1⟩
      cases e1 : q.2.sl[i]? with
      | none => rw [e1] at mq; exact mq.elim
      | some s1 =>
        rw [e1] at mq
        cases s1 with
        | ow ds =>
          obtain ⟨j, hj, mj⟩ := post_lift.mp mq
          obtain ⟨p', ys, k1, k2, k3, k4, k5⟩ := rel2.slot i _ e1
          rw [g1] at k1
          cases k1
          cases ei : asI q.1 with
          | none => rw [ei] at hj; cases hj
          | some k =>
            rw [ei] at hj
            obtain ⟨r3, s3⟩ := rel2.write (ys := ys.set j v) (zs := ds.set j p.1) e1 g1 (by rw [List.length_set]; exact k4) (k5.set (rd1.step st2) j)
            exact ⟨a0, ys, k, j, rfl, asI_rd rd2 ei, k3, by rw [k5.length]; exact hj, mj σ _ M2 Bx r3 ((st1.trans st2).trans s3) fun _ => rfl⟩
        | _ => exact mq.elim
    | _ => exact mp.elim
end
end DL

/-! enumerate(v) of a tuple: how it begins, its turns -/
namespace DL
open PySem L2
open PySem.Spec PyProof.Rows in
theorem meets_enum1 {v : Value} {o : Obj} {H : Heap → Prop} (Bg : Begins v o H) :
    Meets (Builtin.«enumerate.__new__» ⟨[.type "enumerate", v], []⟩) (fun _ R s => H s.heap ∧
      R (.ok (.ret (.ref (s.heap.push o).objs.size))) { s with heap := (s.heap.push o).push { cls := .type "enumerate", data := .fields #[.none, .bool false, .ref s.heap.objs.size, rawInt 0, .none, .none] } }) := by
  refine .of_wp fun prog w A R s h => ?_
  obtain ⟨hp, g, d, tk, os⟩ := s
  obtain ⟨h1, h2⟩ := h
  have hsub := sub_enumerate
  have start : ∀ {A' : Around} {E : Value → Shared → Prop} {Q : Value → Shared → Prop}, Q (.ref hp.objs.size) ⟨hp.push o, g, d, tk, os⟩ → wpAny (model prog w) A' (pyIter v) Q E ⟨hp, g, d, tk, os⟩ := fun q => Bg.iter prog w _ _ ⟨hp, g, d, tk, os⟩ _ h1 q
  wp_walk using start
  refine wpAny_stack_any fun st => wpAny_pure ?_
  split
  · rename_i c _ _ _ _ _
    cases (c == Value.type "enumerate") <;> (wp_walk using start; exact ⟨_, rfl, h2⟩)
  · wp_walk using start
    exact ⟨_, rfl, h2⟩
open PySem.Spec PyProof.Rows in
theorem enum_begin1 {prog : Program} {w : World} {A : Around} {E : Value → Shared → Prop} {s : Shared} {v : Value} {o : Obj} {H : Heap → Prop} {Q : Value → Shared → Prop} (Bg : Begins v o H) (h1 : H s.heap)
    (h : ∀ h', IsEnum h' (s.heap.objs.size + 1) s.heap.objs.size 0 .none → h'.get? s.heap.objs.size = some o → (∀ b o, s.heap.get? b = some o → h'.get? b = some o) → Q (.ref (s.heap.objs.size + 1)) { s with heap := h' }) :
    wpAny (model prog w) A (call (.type "enumerate") [v]) Q E s := by
  refine callType_new F.called_enumerate (by decide) (F.typeCall_enumerate_1 _) (F.newCall_enumerate_1 _) (fun obj => F.args_object_init_2 obj _) F.entry_enumerate_new (meets_enum1 Bg) ⟨h1, ?_⟩
  have hz : (s.heap.push o).objs.size = s.heap.objs.size + 1 := Heap.size_push ..
  show _ ∧ _
  rw [hz]
  have he := Heap.get?_push_size (s.heap.push o) (o := { cls := .type "enumerate", data := .fields #[.none, .bool false, .ref s.heap.objs.size, rawInt 0, .none, .none] }) rfl
  rw [hz] at he
  exact ⟨⟨_, he, rfl⟩, h _ he (Heap.get?_push_of_some _ (Heap.get?_push_size _ Bg.free)) fun b o x => Heap.get?_push_of_some _ (Heap.get?_push_of_some _ x)⟩
def Itet (K : Fg) (a : Addr) : It :=
  ⟨fun i H => ∃ (xs : List V) (x : V), SqT K H a xs ∧ xs[i]? = some x, fun i H v H' => ∃ T x, v = .ref T ∧ H T = none ∧ H' = upd H T (.tup [.int (i : Nat), x]) ∧ ∀ xs, SqT K H a xs → xs[i]? = some x, fun i H => ∃ xs : List V, SqT K H a xs ∧ xs.length ≤ i⟩
open PySem.Spec PyProof.Rows in
theorem turn_enumT {P : Program} {w : World} {K : Fg} {elts : List Expr} {kk : Nat} {tpos : Pos} (a e it : Addr) :
    Turn P w K (.Tuple elts kk tpos) (Itet K a) [e, it] e (fun i h => (∃ old, IsEnum h e it ((i : Nat) : Int) old) ∧ h.IsTupleIter it a i ∧ e ≠ it ∧ a ≠ it) where
  mem := List.mem_cons_self
  obj := fun i h st b hb => by
    obtain ⟨⟨old, he⟩, ⟨o, ho, hc, hd⟩, _⟩ := st
    rcases (by simpa using hb : b = e ∨ b = it) with z | z
    · subst z; exact ⟨_, he, fun v q => nomatch q⟩
    · subst z; exact ⟨o, ho, fun v q => by rw [hd] at q; cases q⟩
  keep := fun i h h' st k => let ⟨⟨old, he⟩, hi, hne⟩ := st; ⟨⟨old, k e List.mem_cons_self _ he⟩, hi.at fun o q => k it (by simp) o q, hne⟩
  item := by
    intro X hP hw hK hc i pins s σ H E I hf st hg
    subst hP hw hK
    obtain ⟨⟨old, he⟩, hit, hne, hna⟩ := st
    obtain ⟨xs, x, hq, hx⟩ := hg
    obtain ⟨its, rv, p, hz⟩ := I.tuple hq
    obtain ⟨u, hu, ru⟩ := rv.get hx
    have hT0 : s.heap.IsTuple a its.toArray := p
    have hel : e < s.heap.objs.size := Heap.lt_size he
    have hil : it < s.heap.objs.size := by obtain ⟨_, q, _⟩ := hit; exact Heap.lt_size q
    have hlt : i < its.toArray.size := by
      have := (List.getElem?_eq_some_iff.mp hu).1
      simpa using this
    have hae : a ≠ e := by
      intro z
      subst z
      obtain ⟨o, ho, hcl, _⟩ := hT0
      rw [he] at ho
      cases ho
      exact absurd (Value.type.inj hcl) (by decide)
    refine wpAny_pyNext_enum_itemD (Draws.tuple (A := X.A.in1) (I.ok.hd hc) it a hna its.toArray) he ⟨hit, hT0⟩ hlt hne (by simp; exact ⟨hne, Ne.symm hae⟩) fun y h' tk hy ho hst hT hsz hk => ?_
    obtain rfl : u = y := by
      have h2 : its.toArray[i]? = some u := by simpa using hu
      rw [h2] at hy
      exact Option.some.inj hy
    refine ⟨_, rfl, wpAny_letOwnedTupleGo_enum (s := { s with heap := h', toks := tk + 1 }) ho fun h'' he' sb => ?_⟩
    have hT2 : h''.get? s.heap.objs.size = some { cls := .type "tuple", data := .seq #[.int i tk, u] } := (sb.2 _ (Nat.ne_of_gt hel)).trans hT
    have new : ObjOk X.prog X.w (upd H s.heap.objs.size (.tup [.int (i : Nat), x])) h'' s.heap.objs.size (.tup [.int (i : Nat), x]) :=
      ⟨by show 2 ≤ sizeLine; decide, [.int i tk, u], .cons ⟨_, rfl⟩ (.cons ru .nil), ⟨_, hT2, rfl, _, rfl⟩⟩
    have I1 : Inv X pins σ (upd H s.heap.objs.size (.tup [.int (i : Nat), x])) { s with heap := h'', toks := tk + 1 } := by
      refine I.turnedNew (ch := [e, it]) (fun b ob hb q => ?_) hf (Nat.le_refl _) new
      have n1 : b ≠ e := fun z => hb (by simp [z])
      have n2 : b ≠ it := fun z => hb (by simp [z])
      exact (sb.2 b n1).trans (hk b ob n1 n2 q)
    refine ⟨.ref s.heap.objs.size, _, I1, rfl, ⟨_, x, rfl, I.hok.fresh (Nat.le_refl _), rfl, fun ys hy => by rw [I.tuple_inj hy hq]; exact hx⟩, ⟨⟨u, ?_⟩, hst.1.at fun o q => (sb.2 it (Ne.symm hne)).trans q, hne, hna⟩, fun b hb => ?_⟩
    · rw [show ((i + 1 : Nat) : Int) = (i : Int) + 1 by omega]
      exact he'
    · have hb' : b < s.heap.objs.size := by
        rcases (by simpa using hb : b = e ∨ b = it) with z | z
        · rw [z]; exact hel
        · rw [z]; exact hil
      rw [upd_ne (Nat.ne_of_lt hb')]
      exact (hf b hb).1
  done := by
    intro X hP hw hK hc i pins s σ H E I hf st hg
    subst hP hw hK
    obtain ⟨⟨old, he⟩, hit, hne, hna⟩ := st
    obtain ⟨xs, hq, hx⟩ := hg
    obtain ⟨its, rv, p, hz⟩ := I.tuple hq
    have hT0 : s.heap.IsTuple a its.toArray := p
    obtain ⟨f0, f1, f2, f3, f4, f5⟩ := hf it (by simp)
    have hl := rv.length
    have em : Draws X.prog X.w X.A.in1 it [it, a] 0 (fun _ _ => False) (fun _ h => h.IsTupleIter it a i ∧ h.IsTuple a its.toArray) :=
      { live := fun _ _ st => let ⟨o, ho, _⟩ := st.1; ⟨o, ho⟩
        frame := fun _ _ _ st hk => ⟨st.1.at fun o e => hk it (by simp) o e, st.2.at fun o e => hk a (by simp) o e⟩
        item := fun _ _ _ _ h _ _ => absurd h (Nat.not_lt_zero _)
        done := fun s Q E st hE => wpAny_nextOf_tuple_end (I.ok.hd hc) st.1 st.2 (by simp; omega) hE }
    exact wpAny_pyNext_enum_endD em he ⟨hit, hT0⟩ fun h' eb => ⟨rfl, I.turned (t' := s.toks) (fun b o hb q => eb b o hb q) f0 f1 f3 f4 f5⟩
  self := fun A i s Q E st h => let ⟨⟨_, he⟩, _⟩ := st; wpAny_pyIter_enum he h
def iEnumT (K : Fg) (ta : TA) : TI := fun σ H R => ta σ H fun vs H1 => ∃ a xs, vs = [.ref a] ∧ ((SqL K H1 a xs ∧ R (Ite K a) H1) ∨ (SqT K H1 a xs ∧ R (Itet K a) H1))
open PySem.Spec PyProof.Rows in
theorem pi_enumT {X : Cx} {e : Expr} {ta : TA} {p pos tpos : Pos} {elts : List Expr} {kk : Nat} (hg : Gl X "enumerate") (hm : X.mg "enumerate" = none) (ha : PA X [e] ta) (hs : starEach [e] X.env = [(false, eval e X.env)] := by rfl) :
    PI X (.Tuple elts kk tpos) (.Call (.Name "enumerate" p) [e] [] pos) (iEnumT X.K ta) := by
  refine ⟨fun pins s σ H R I h => ?_⟩
  refine Call_ (ld_blt I hg hm boot_enumerate (PyProof.Rows.callWith_type1 (thn (ha.run pos pins s σ H _ I h) fun us s1 ⟨vs, H1, I1, r1, q1⟩ => ?_) hs rfl))
  obtain ⟨a, xs, ex, q⟩ := q1
  subst ex
  obtain rfl := Vals.ref1 r1
  have near : ∀ b ∈ [s1.heap.objs.size + 1, s1.heap.objs.size], s1.heap.objs.size ≤ b := fun b hb => by
    rcases (by simpa using hb : b = s1.heap.objs.size + 1 ∨ b = s1.heap.objs.size) with z | z <;> omega
  rcases q with ⟨hq, q⟩ | ⟨hq, q⟩
  · obtain ⟨its, rv, p', hz⟩ := I1.list hq
    refine enum_begin1 (begins_list a its.toArray) p'.isList fun h' he hit hk => wpAny_pyIter_enum he ?_
    exact ⟨s1.heap.objs.size + 1, [s1.heap.objs.size + 1, s1.heap.objs.size], _, _, H1, rfl, I1.kept (t' := s1.toks) hk, turn_enum a (s1.heap.objs.size + 1) s1.heap.objs.size,
      ⟨⟨.none, he⟩, ⟨_, hit, rfl, rfl⟩, Nat.succ_ne_self _⟩, fun b hb => I1.fpOk (near b hb) (I1.hok.fresh (near b hb)), q⟩
  · obtain ⟨its, rv, p', hz⟩ := I1.tuple hq
    have hT0 : s1.heap.IsTuple a its.toArray := p'
    have hal : a < s1.heap.objs.size := by obtain ⟨_, q, _⟩ := hT0; exact Heap.lt_size q
    refine enum_begin1 (begins_tuple a its.toArray) hT0 fun h' he hit hk => wpAny_pyIter_enum he ?_
    exact ⟨s1.heap.objs.size + 1, [s1.heap.objs.size + 1, s1.heap.objs.size], _, _, H1, rfl, I1.kept (t' := s1.toks) hk, turn_enumT a (s1.heap.objs.size + 1) s1.heap.objs.size,
      ⟨⟨.none, he⟩, ⟨_, hit, rfl, rfl⟩, Nat.succ_ne_self _, Nat.ne_of_lt hal⟩, fun b hb => I1.fpOk (near b hb) (I1.hok.fresh (near b hb)), q⟩
theorem walk_enumT {K : Fg} {a : Addr} {xs : List V} : Walk (Itet K a) xs.length (fun H => SqT K H a xs) (YPair (fun i => some (.int (i : Nat))) (fun i => xs[i]?)) := by
  refine ⟨fun i _ hi q => ⟨xs, xs[i], q, by simp [hi]⟩, fun _ q => ⟨xs, q, Nat.le_refl _⟩, fun i H v H' _ q y => ?_⟩
  obtain ⟨T, x, h1, h2, h3, h4⟩ := y
  exact ⟨T, .int (i : Nat), x, h1, h2, h3, rfl, h4 xs q⟩
end DL

namespace DL
open PySem L2
/-! ### targets -/
abbrev DGt := D → En → Option En
/-- behind stores at the slots ts nothing else has changed -/
def Only (ts : List Nat) (σ σ' : L2.St) : Prop := ∀ vs : List Nat, (∀ i ∈ ts, i ∈ vs) → wipe σ' vs = wipe σ vs
theorem wipe_set {σ : L2.St} {i : Nat} {v : Option V} : ∀ {vs : List Nat}, i ∈ vs → wipe (σ.set i v) vs = wipe σ vs
  | [], h => nomatch h
  | w :: vs, h => by
    unfold wipe
    by_cases c : i ∈ vs
    · rw [wipe_set c]
    · have e : i = w := (List.mem_cons.mp h).elim id fun q => absurd q c
      subst e
      have comm : ∀ vs : List Nat, i ∉ vs → wipe (σ.set i v) vs = (wipe σ vs).set i v := by
        intro vs hn
        induction vs with
        | nil => rfl
        | cons u us ih =>
          have h1 : i ≠ u := fun z => hn (by rw [z]; exact List.mem_cons_self)
          show (wipe (σ.set i v) us).set u none = ((wipe σ us).set u none).set i v
          rw [ih fun z => hn (List.mem_cons_of_mem _ z), List.set_comm _ _ h1]
      rw [comm vs c, List.set_set]
def tG (G : Gh) (ts : List Nat) (g : DGt) : TG := fun v σ H Q => ∃ d en M B en', Rel G en σ H M B ∧ RD G.K H (av G M) v d ∧ g d en = some en' ∧ ∀ σ' H' M', Rel G en' σ' H' M' B → Step H M H' M' → Only ts σ σ' → Q σ' H'
abbrev DGts := List D → En → Option En
def tGs (G : Gh) (ts : List Nat) (g : DGts) : TGs := fun vs σ H Q => ∃ ds en M B en', Rel G en σ H M B ∧ RDs G.K H (av G M) vs ds ∧ g ds en = some en' ∧ ∀ σ' H' M', Rel G en' σ' H' M' B → Step H M H' M' → Only ts σ σ' → Q σ' H'
structure DG (X : Cx) (G : Gh) (tg : Expr) (ts : List Nat) (g : DGt) : Prop where pg : PG X tg (tG G ts g)
structure DGs (X : Cx) (G : Gh) (es : List Expr) (ts : List Nat) (g : DGts) : Prop where pgs : PGs X es (tGs G ts g)
theorem pg_imp {X : Cx} {e : Expr} {t t' : TG} (h : PG X e t) (i : ∀ v σ H Q, t' v σ H Q → t v σ H Q) : PG X e t' := ⟨fun pins s σ H v u Q I r q => h.run pins s σ H v u Q I r (i v σ H Q q)⟩
theorem pgs_imp {X : Cx} {e : List Expr} {t t' : TGs} (h : PGs X e t) (i : ∀ v σ H Q, t' v σ H Q → t v σ H Q) : PGs X e t' := ⟨fun pins s σ H v u Q I r q => h.run pins s σ H v u Q I r (i v σ H Q q)⟩
def gN (i : Nat) : DGt := fun d en => some (en.put i (.fz d))
def gNil : DGts := fun ds en => match ds with | [] => some en | _ => none
def gCons (g : DGt) (r : DGts) : DGts := fun ds en => match ds with | d :: t => (g d en).bind (r t) | [] => none
def gTup (n : Nat) (g : DGts) : DGt := fun d en => match d with | .tuple ds => if ds.length = n then g ds en else none | _ => none
section
variable {X : Cx} {G : Gh} {W : WX} {pos : Pos}
theorem dg_name (i : Nat) {x : Str} (hN : X.N.Nodup) (hi : X.N[i]? = some x) (hx : Loc X.env.scope x) (hf : X.fn x = true ∨ X.env.scope.names.lookup x = some .local := by first | exact .inl rfl | exact .inr rfl | assumption) : DG X G (.Name x pos) [i] (gN i) :=
  ⟨pg_imp (pg_name hN hi hx hf) fun v σ H Q ⟨d, en, M, B, en', rel, rd, e, m⟩ => by
    cases e
    exact m _ H M (rel.set rd) .refl fun vs h => wipe_set (h i List.mem_cons_self)⟩
theorem dgs_nil : DGs X G [] [] gNil := ⟨pgs_imp pgs_nil fun v σ H Q ⟨ds, en, M, B, en', rel, rd, e, m⟩ => by
  cases rd with
  | nil => cases e; exact ⟨rfl, m σ H M rel .refl fun _ _ => rfl⟩
  | cons _ _ => cases e⟩
theorem dgs_cons {e : Expr} {es : List Expr} {g : DGt} {r : DGts} {ts us : List Nat} (h1 : DG X G e ts g) (h2 : DGs X G es us r) (hs : (assignEach (e :: es) X.env).map (·.2) = assign e X.env :: (assignEach es X.env).map (·.2) := by rfl) : DGs X G (e :: es) (ts ++ us) (gCons g r) :=
  ⟨pgs_imp (pgs_cons h1.pg h2.pgs hs) fun v σ H Q ⟨ds, en, M, B, en', rel, rd, e, m⟩ => by
    cases rd with
    | nil => cases e
    | @cons v0 vs d ds q t =>
      have e : (g d en).bind (r ds) = some en' := e
      cases e1 : g d en with
      | none => rw [e1] at e; cases e
      | some en1 =>
        rw [e1] at e
        exact ⟨_, _, rfl, _, en, M, B, en1, rel, q, e1, fun σ1 H1 M1 rel1 st1 o1 => ⟨_, en1, M1, B, en', rel1, t.step st1, e, fun σ2 H2 M2 rel2 st2 o2 => m σ2 H2 M2 rel2 (st1.trans st2) fun vs h => (o2 vs fun i hi => h i (List.mem_append_right _ hi)).trans (o1 vs fun i hi => h i (List.mem_append_left _ hi))⟩⟩⟩
theorem dg_tup {es : List Expr} {k : Nat} {g : DGts} {n : Nat} {ts : List Nat} (hK : G.K = X.K) (hc : X.calm = true) (h : DGs X G es ts g) (hn : (assignEach es X.env).length = n := by rfl) (hst : (assignEach es X.env).findIdx? (·.1) = none := by rfl) : DG X G (.Tuple es k pos) ts (gTup n g) := by
  refine ⟨pg_imp (pg_tup hc h.pgs hn hst) fun v σ H Q ⟨d, en, M, B, en', rel, rd, e, m⟩ => ?_⟩
  rw [← hK]
  unfold gTup at e
  cases rd with
  | tup h1 h2 h3 =>
    dsimp only at e
    split at e
    · rename_i hl
      exact ⟨_, _, rfl, h1.sq, h3.length.trans hl, _, en, M, B, en', rel, h3, e, m⟩
    · cases e
  | _ => cases e
/-! ### what is walked -/
def ItOk (G : Gh) (J : It) (ds : List D) (H0 : Hp) (M0 : AS) : Prop := ∃ (Gd : Hp → Prop) (Y : Nat → Hp → V → Hp → Prop), Walk J ds.length Gd Y ∧ (∀ H M, Step H0 M0 H M → Gd H) ∧
  ∀ i H M x H', i < ds.length → Step H0 M0 H M → (∀ a, av G M a → H a ≠ none) → Y i H x H' → Ext H H' ∧ ∃ d, ds[i]? = some d ∧ RD G.K H' (av G M) x d
def tI (G : Gh) (W : WX) (A : DNl) : TI := fun σ H R => ∃ en M B, Rel G en σ H M B ∧ Post (fun q => ∀ J H' M', Rel G q.2 σ H' M' B → Step H M H' M' → ItOk G J q.1 H' M' → R J H') (EW G W σ H M B) (A en)
structure DI (X : Cx) (G : Gh) (W : WX) (tg iter : Expr) (A : DNl) : Prop where pi : PI X tg iter (tI G W A)
theorem pi_imp {X : Cx} {tg e : Expr} {t t' : TI} (h : PI X tg e t) (i : ∀ σ H R, t' σ H R → t σ H R) : PI X tg e t' := ⟨fun pins s σ H R I q => h.run pins s σ H R I (i σ H R q)⟩
theorem itOk_list {H : Hp} {M : AS} {a : Addr} {xs : List V} {ds : List D} (h1 : LsAt H (av G M) a xs) (h3 : RDs G.K H (av G M) xs ds) : ItOk G (Itl G.K a) ds H M := by
  refine ⟨_, _, h3.length ▸ walk_list (xs := xs), fun H' M' s => (h1.mono s.akeep s.agrow).sq, fun i H' M' x H'' hi s hO y => ?_⟩
  obtain ⟨rfl, hx⟩ := y
  obtain ⟨d, e1, e2⟩ := (h3.step s).get' hx
  exact ⟨fun _ _ h => h, d, e1, e2⟩
theorem itOk_tup {H : Hp} {M : AS} {a : Addr} {xs : List V} {ds : List D} (h1 : TpAt G.K H (av G M) a xs) (h3 : RDs G.K H (av G M) xs ds) : ItOk G (Itt G.K a) ds H M := by
  refine ⟨_, _, h3.length ▸ walk_tup (xs := xs), fun H' M' s => (h1.mono s.akeep s.agrow).sq, fun i H' M' x H'' hi s hO y => ?_⟩
  obtain ⟨rfl, hx⟩ := y
  obtain ⟨d, e1, e2⟩ := (h3.step s).get' hx
  exact ⟨fun _ _ h => h, d, e1, e2⟩
def asSeq : D → Option (List D)
  | .list ds => some ds
  | .tuple ds => some ds
  | _ => none
def iSeq (a : DEn) : DNl := fun en => a en >>= fun p => liftO (asSeq p.1) >>= fun ds => .ok (ds, p.2)
def iSeqT (K : Fg) (tl : TE) : TI := fun σ H R => tl σ H fun x H1 => ∃ a, x = .ref a ∧ (((∃ xs, SqL K H1 a xs) ∧ R (Itl K a) H1) ∨ ((∃ xs, SqT K H1 a xs) ∧ R (Itt K a) H1))
theorem pi_seq {tg l : Expr} {tl : TE} (hl : PE X l tl) : PI X tg l (iSeqT X.K tl) := by
  refine ⟨fun pins s σ H R I h => thn (hl.run pins s σ H _ I h) fun v s1 ⟨x, H1, I1, r1, a, e, q⟩ => ?_⟩
  subst e
  cases (show v = Value.ref a from r1)
  have near : ∀ b ∈ [s1.heap.objs.size], s1.heap.objs.size ≤ b := fun b hb => by rw [List.mem_singleton.mp hb]; exact Nat.le_refl _
  rcases q with ⟨⟨xs, hq⟩, q⟩ | ⟨⟨xs, hq⟩, q⟩
  · obtain ⟨its, rv, p, hz⟩ := I1.list hq
    exact wpAny_pyIter_list p.isList ⟨s1.heap.objs.size, [s1.heap.objs.size], _, _, H1, rfl, I1.kept (t' := s1.toks) (fun b o e => Heap.get?_push_of_some _ e), turn_list a _, ⟨_, Heap.get?_push_size _ rfl, rfl, rfl⟩, fun b hb => I1.fpOk (near b hb) (I1.hok.fresh (near b hb)), q⟩
  · obtain ⟨its, rv, p, hz⟩ := I1.tuple hq
    exact wpAny_pyIter_tuple (show s1.heap.IsTuple a its.toArray from p) ⟨s1.heap.objs.size, [s1.heap.objs.size], _, _, H1, rfl, I1.kept (t' := s1.toks) (fun b o e => Heap.get?_push_of_some _ e), turn_tuple a _, ⟨_, Heap.get?_push_size _ rfl, rfl, rfl⟩, fun b hb => I1.fpOk (near b hb) (I1.hok.fresh (near b hb)), q⟩
theorem di_seq {tg l : Expr} {A : DEn} (hK : G.K = X.K) (h : DE X G W l A) : DI X G W tg l (iSeq A) := by
  refine ⟨pi_imp (pi_seq h.pe) fun σ H R ⟨en, M, Bx, rel, m⟩ => ?_⟩
  rw [← hK]
  refine ⟨en, M, Bx, rel, Post.imp (post_bind.mp m) (fun p mp v H1 M1 rel1 st1 rd1 => ?_) fun _ _ _ h => h⟩
  obtain ⟨z, hz, mz⟩ := post_lift.mp mp
  generalize p.1 = d at rd1 hz
  cases rd1 with
  | lst h1 h2 h3 =>
    cases hz
    exact ⟨_, rfl, .inl ⟨⟨_, h1.sq⟩, mz _ H1 M1 rel1 st1 (itOk_list h1 h3)⟩⟩
  | tup h1 h2 h3 =>
    cases hz
    exact ⟨_, rfl, .inr ⟨⟨_, h1.sq⟩, mz _ H1 M1 rel1 st1 (itOk_tup h1 h3)⟩⟩
  | _ => cases hz
/-- range -/
def rgD (lo : Int) (n : Nat) : List D := (List.range n).map fun i => .int (lo + (i : Nat))
theorem itOk_range {H : Hp} {M : AS} {lo : Int} {n : Nat} : ItOk G (Itr lo n) (rgD lo n) H M := by
  have hl : (rgD lo n).length = n := by unfold rgD; rw [List.length_map, List.length_range]
  refine ⟨fun _ => True, _, by rw [hl]; exact walk_range, fun _ _ _ => trivial, fun i H' M' x H'' hi s hO y => ?_⟩
  obtain ⟨rfl, rfl⟩ := y
  rw [hl] at hi
  refine ⟨fun _ _ h => h, .int (lo + (i : Nat)), ?_, .int _⟩
  unfold rgD
  rw [List.getElem?_map, List.getElem?_range hi]
  rfl
def rgOk (i : Int) : Bool := decide (-(2 ^ 62) ≤ i) && decide (i < 2 ^ 62)
theorem rgOk_of {i : Int} (h : rgOk i = true) : -(2 ^ 62) ≤ i ∧ i < 2 ^ 62 := by
  unfold rgOk at h
  rw [Bool.and_eq_true] at h
  exact ⟨of_decide_eq_true h.1, of_decide_eq_true h.2⟩
def iR1 (a : DEn) : DNl := fun en => a en >>= fun p => liftO (asI p.1) >>= fun n => if rgOk n = true then .ok (rgD 0 n.toNat, p.2) else .bad
def iR2 (a b : DEn) : DNl := fun en => a en >>= fun p => b p.2 >>= fun q => liftO (asI p.1) >>= fun i => liftO (asI q.1) >>= fun j => if rgOk i = true ∧ rgOk j = true then .ok (rgD i (j - i).toNat, q.2) else .bad
theorem di_r1 {tg a : Expr} {A : DEn} {p : Pos} (hg : Gl X "range") (hm : X.mg "range" = none) (h : DE X G W a A) (hs : starEach [a] X.env = (false, eval a X.env) :: starEach [] X.env := by rfl) (hs2 : starEach [a] X.env = [(false, eval a X.env)] := by rfl) :
    DI X G W tg (.Call (.Name "range" p) [a] [] pos) (iR1 A) := by
  refine ⟨pi_imp (pi_range1 hg hm (pa_cons h.pe pa_nil hs) hs2) fun σ H R ⟨en, M, Bx, rel, m⟩ => ⟨en, M, Bx, rel, Post.imp (post_bind.mp m) (fun p mp v H1 M1 rel1 st1 rd1 => ?_) fun _ _ _ h => h⟩⟩
  obtain ⟨n, hn, mz⟩ := post_lift.mp mp
  split at mz
  · rename_i hr
    obtain ⟨h1, h2⟩ := rgOk_of hr
    exact ⟨n, by rw [asI_rd rd1 hn], h1, h2, mz _ H1 M1 rel1 st1 itOk_range⟩
  · exact mz.elim
theorem di_r2 {tg a b : Expr} {A B : DEn} {p : Pos} (hg : Gl X "range") (hm : X.mg "range" = none) (h : DE X G W a A) (h' : DE X G W b B) (hs : starEach [a, b] X.env = (false, eval a X.env) :: starEach [b] X.env := by rfl) (hs2 : starEach [b] X.env = (false, eval b X.env) :: starEach [] X.env := by rfl)
    (hs3 : starEach [a, b] X.env = [(false, eval a X.env), (false, eval b X.env)] := by rfl) (hs4 : starEach [b] X.env = [(false, eval b X.env)] := by rfl) :
    DI X G W tg (.Call (.Name "range" p) [a, b] [] pos) (iR2 A B) := by
  refine ⟨pi_imp (pi_range2 hg hm (pa_cons h.pe (pa_cons h'.pe pa_nil hs2) hs) hs3 hs4) fun σ H R ⟨en, M, Bx, rel, m⟩ => ⟨en, M, Bx, rel, Post.imp (post_bind.mp m) (fun p mp v H1 M1 rel1 st1 rd1 =>
    ⟨p.2, M1, Bx, rel1, Post.imp (post_bind.mp mp) (fun q mq w H2 M2 rel2 st2 rd2 => ?_) fun _ _ _ h => h.step st1⟩) fun _ _ _ h => h⟩⟩
  obtain ⟨i, hi, mi⟩ := post_lift.mp mq
  obtain ⟨j, hj, mj⟩ := post_lift.mp mi
  split at mj
  · rename_i hr
    obtain ⟨h1, h2⟩ := rgOk_of hr.1
    obtain ⟨h3, h4⟩ := rgOk_of hr.2
    exact ⟨i, j, by rw [asI_rd rd1 hi, asI_rd rd2 hj], ⟨h1, h2, h3, h4⟩, mj _ H2 M2 rel2 (st1.trans st2) itOk_range⟩
  · exact mj.elim
/-- enumerate -/
def enumD (k : Nat) : List D → List D
  | [] => []
  | d :: ds => .tuple [.int (k : Nat), d] :: enumD (k + 1) ds
theorem enumD_get : ∀ (ds : List D) (k i : Nat), (enumD k ds)[i]? = ds[i]?.map fun d => .tuple [.int ((k + i : Nat) : Int), d]
  | [], _, _ => by simp [enumD]
  | d :: ds, k, 0 => by simp [enumD]
  | d :: ds, k, i + 1 => by
    unfold enumD
    rw [List.getElem?_cons_succ, enumD_get ds (k + 1) i, List.getElem?_cons_succ, show k + 1 + i = k + (i + 1) by omega]
theorem enumD_length : ∀ (ds : List D) (k : Nat), (enumD k ds).length = ds.length
  | [], _ => rfl
  | d :: ds, k => by unfold enumD; rw [List.length_cons, List.length_cons, enumD_length ds (k + 1)]
theorem itOk_enum {J : It} {H : Hp} {M : AS} {xs : List V} {ds : List D} {Gd : Hp → Prop} (w : Walk J xs.length Gd (YPair (fun i => some (.int (i : Nat))) (fun i => xs[i]?))) (hG : ∀ H' M', Step H M H' M' → Gd H') (h3 : RDs G.K H (av G M) xs ds) : ItOk G J (enumD 0 ds) H M := by
  refine ⟨Gd, _, by rw [enumD_length, ← h3.length]; exact w, hG, fun i H' M' x H'' hi s hO y => ?_⟩
  obtain ⟨T, a, b, rfl, hT, rfl, ha, hb⟩ := y
  cases ha
  obtain ⟨d, e1, e2⟩ := (h3.step s).get' hb
  refine ⟨ext_new hT, .tuple [.int (i : Nat), d], ?_, new_tup hO (.cons (.int _) (.one e2)) (by show 2 ≤ sizeLine; decide) hT⟩
  rw [enumD_get, e1, Nat.zero_add]
  rfl
def iEnu (a : DEn) : DNl := fun en => a en >>= fun p => liftO (asSeq p.1) >>= fun ds => .ok (enumD 0 ds, p.2)
theorem di_enum {a : Expr} {A : DEn} {p tpos : Pos} {elts : List Expr} {kk : Nat} (hK : G.K = X.K) (hg : Gl X "enumerate") (hm : X.mg "enumerate" = none) (h : DE X G W a A) (hs : starEach [a] X.env = (false, eval a X.env) :: starEach [] X.env := by rfl) (hs2 : starEach [a] X.env = [(false, eval a X.env)] := by rfl) :
    DI X G W (.Tuple elts kk tpos) (.Call (.Name "enumerate" p) [a] [] pos) (iEnu A) := by
  refine ⟨pi_imp (pi_enumT hg hm (pa_cons h.pe pa_nil hs) hs2) fun σ H R ⟨en, M, Bx, rel, m⟩ => ?_⟩
  rw [← hK]
  refine ⟨en, M, Bx, rel, Post.imp (post_bind.mp m) (fun p mp v H1 M1 rel1 st1 rd1 => ?_) fun _ _ _ h => h⟩
  obtain ⟨z, hz, mz⟩ := post_lift.mp mp
  generalize p.1 = d at rd1 hz
  cases rd1 with
  | lst h1 h2 h3 =>
    cases hz
    exact ⟨_, _, rfl, .inl ⟨h1.sq, mz _ H1 M1 rel1 st1 (itOk_enum walk_enum (fun H' M' s => (h1.mono s.akeep s.agrow).sq) h3)⟩⟩
  | tup h1 h2 h3 =>
    cases hz
    exact ⟨_, _, rfl, .inr ⟨h1.sq, mz _ H1 M1 rel1 st1 (itOk_enum walk_enumT (fun H' M' s => (h1.mono s.akeep s.agrow).sq) h3)⟩⟩
  | _ => cases hz
/-! ### for -/
def sLoop (g : DGt) (S : DSt) : List D → En → Rs Out
  | [], en => .ok (.nx en)
  | d :: ds, en => liftO (g d en) >>= fun en1 => S en1 >>= fun o => match o with
    | .nx en2 => sLoop g S ds en2
    | .ct en2 => sLoop g S ds en2
    | .bk en2 => .ok (.nx en2)
    | .rt v en2 => .ok (.rt v en2)
    | .rn v en2 => .ok (.rn v en2)
def sFor (it : DNl) (g : DGt) (S : DSt) : DSt := fun en => it en >>= fun q => sLoop g S q.1 q.2
theorem ds_for {tg iter : Expr} {body : List Stmt} {IA : DNl} {g : DGt} {S : DSt} (hp : PassesOwn (model X.prog X.w) X.A X.env X.xe) (hc : X.calm = true) {ts : List Nat} (hi : DI X G W tg iter IA) (hg : DG X G tg ts g) (hb : DSs X G W body S)
    (hs : ∀ x, foldedSetIterable iter X.env x = pure x := by intro _; rfl) : DS X G W (.For tg iter body [] pos) (sFor IA g S) := by
  refine ⟨ps_imp (ps_for hp hc hi.pi hg.pg hb.pss hs) fun Ds σ H ⟨en, M, B, rel, m⟩ => ⟨en, M, B, rel, Post.imp (post_bind.mp m) (fun q mq J H1 M1 rel1 st1 it => ?_) fun _ _ _ h => h.ew σ⟩⟩
  obtain ⟨Gd, Y, w, hG, hY⟩ := it
  have m0 : Post (OutOk G Ds H1 M1 B) (EWS G W H1 M1 B) (sLoop g S (q.1.drop 0) q.2) := by
    rw [List.drop_zero]
    exact Post.imp mq (fun o (ho : OutOk G Ds H M B o) => ho.stepB st1 fun _ => rfl) fun _ _ _ h => EWS.stepB h st1 fun _ => rfl
  refine for_it w (fun i σ' H' => ∃ en' M' B', Rel G en' σ' H' M' B' ∧ Step H1 M1 H' M' ∧ (G.top = false → B' = B) ∧ Post (OutOk G Ds H1 M1 B) (EWS G W H1 M1 B) (sLoop g S (q.1.drop i) en'))
    ⟨q.2, M1, B, rel1, .refl, fun _ => rfl, m0⟩
    (fun i σ' H' _ ⟨en', M', B', r, s, _⟩ => hG H' M' s) (fun i x σ' H' H'' hlt ⟨en', M', B', r, s, hb', mm⟩ y => ?_) (fun σ' H' ⟨en', M', B', r, s, hb', mm⟩ => ?_)
  · obtain ⟨ex, d, hd, rd⟩ := hY i H' M' x H'' hlt s r.avh y
    have hdr : q.1.drop i = d :: q.1.drop (i + 1) := by
      rw [List.drop_eq_getElem_cons hlt]
      rw [List.getElem?_eq_getElem hlt] at hd
      rw [Option.some.inj hd]
    rw [hdr] at mm
    obtain ⟨en1, e1, mm⟩ := post_lift.mp mm
    have se : Step H' M' H'' M' := .ext ex
    refine ⟨d, en', M', B', en1, r.ext ex, rd, e1, fun σ2 H2 M2 rel2 st2 _ => ?_⟩
    have s2 : Step H1 M1 H2 M2 := (s.trans se).trans st2
    refine ⟨en1, M2, B', rel2, Post.imp (post_bind.mp mm) (fun o mo => ?_) fun c dd en2 h => h.stepB s2 hb'⟩
    cases o with
    | nx en2 => exact fun σ3 H3 M3 B3 r3 st3 hb3 => ⟨en2, M3, B3, r3, s2.trans st3, fun t => (hb3 t).trans (hb' t), mo⟩
    | ct en2 => exact fun σ3 H3 M3 B3 r3 st3 hb3 => ⟨en2, M3, B3, r3, s2.trans st3, fun t => (hb3 t).trans (hb' t), mo⟩
    | bk en2 => exact fun σ3 H3 M3 B3 r3 st3 hb3 => mo σ3 H3 M3 B3 r3 (s2.trans st3) fun t => (hb3 t).trans (hb' t)
    | rn v en2 => exact fun p u σ3 H3 M3 B3 r3 st3 hb3 o3 => mo p u σ3 H3 M3 B3 r3 (s2.trans st3) (fun t => (hb3 t).trans (hb' t)) o3
    | rt v en2 => exact fun u σ3 H3 M3 B3 r3 st3 hb3 rd3 => mo u σ3 H3 M3 B3 r3 (s2.trans st3) (fun t => (hb3 t).trans (hb' t)) rd3
  · rw [List.drop_length] at mm
    exact mm σ' H' M' B' r s hb'
end
end DL

namespace DL
open PySem L2
/-! ### list comprehensions -/
def En.wipe (en : En) : List Nat → En
  | [] => en
  | v :: vs => (en.wipe vs).put v .no
def En.back (en orig : En) : List Nat → En
  | [] => en
  | v :: vs => (en.back orig vs).put v (orig.sl.getD v .no)
def ownOk (en : En) (own : List Nat) : Bool := own.all fun i => match en.sl[i]? with | some (.ow _) => false | some .bx => false | _ => true
def noEx {α : Type} : Rs α → Rs α
  | .ok a => .ok a
  | _ => .bad
theorem post_noEx {α : Type} {P : α → Prop} {E : Str → D → En → Prop} {x : Rs α} (h : Post P E (noEx x)) : Post P (fun _ _ _ => False) x := by
  cases x with
  | ok a => exact h
  | ex c d en => exact h
  | bad => exact h
theorem post_noEx' {α β : Type} {P : β → Prop} {E : Str → D → En → Prop} {x : Rs α} {f : α → β} (h : Post P E (noEx x >>= fun r => .ok (f r))) : Post (fun r => P (f r)) (fun _ _ _ => False) x := by
  cases x with
  | ok a => exact h
  | ex c d en => exact h
  | bad => exact h
theorem wipe_self {σ : L2.St} {i : Nat} : ∀ {vs : List Nat}, i ∈ vs → (wipe σ vs).set i none = wipe σ vs
  | w :: vs, h => by
    unfold wipe
    rcases List.mem_cons.mp h with e | h
    · subst e; rw [List.set_set]
    · by_cases c : i = w
      · subst c; rw [List.set_set]
      · rw [List.set_comm _ _ (Ne.symm c), wipe_self h]
theorem wipe_twice {σ : L2.St} : ∀ {vs ws : List Nat}, (∀ i ∈ vs, i ∈ ws) → wipe (wipe σ ws) vs = wipe σ ws
  | [], _, _ => rfl
  | v :: vs, ws, h => by
    show (wipe (wipe σ ws) vs).set v none = _
    rw [wipe_twice fun i hi => h i (List.mem_cons_of_mem _ hi)]
    exact wipe_self (h v List.mem_cons_self)
abbrev W0 : WX := fun _ _ _ _ => False
abbrev Gh.with (G : Gh) (O : AS) : Gh := { G with Out := O }
def tTrue : DTt := fun en => .ok (true, en)
structure DTs (X : Cx) (G : Gh) (W : WX) (ifs : List Expr) (t : DTt) : Prop where pts : PTs X ifs (tT G W t)
def cLoop (own : List Nat) (g : DGt) (t : DTt) (A : DEn) : List D → En → List D → Rs (List D × En)
  | [], en, acc => .ok (acc, en)
  | d :: ds, en, acc => liftO (g d en) >>= fun en1 => t en1 >>= fun p => if p.1 = true then A p.2 >>= fun q => (if acc.length < sizeLine then cLoop own g t A ds (q.2.wipe own) (acc ++ [q.1]) else .bad) else cLoop own g t A ds (p.2.wipe own) acc
def nComp (own : List Nat) (it : DNl) (g : DGt) (t : DTt) (A : DEn) : DNl := fun en => it en >>= fun q => if ownOk q.2 own = true then noEx (cLoop own g t A q.1 (q.2.wipe own) []) >>= fun r => .ok (r.1, r.2.back q.2 own) else .bad
section
variable {X : Cx} {G : Gh} {W : WX} {pos : Pos} {a b e : Expr}
theorem dts_nil : DTs X G W [] tTrue := ⟨⟨fun pins s σ H Q I ⟨en, M, B, rel, m⟩ => pts_nil.run pins s σ H Q I (m H M rel .refl)⟩⟩
theorem dts_one {t : DTt} (h : DT X G W e t) : DTs X G W [e] t := ⟨pts_one h.pt⟩
theorem Rel.drop {en : En} {σ : L2.St} {H : Hp} {M : AS} {B : Option Addr} (r : Rel G en σ H M B) (i : Nat) : Rel G (en.put i .no) (σ.set i none) H M B := by
  refine ⟨by rw [List.length_set, r.len]; simp [En.put], fun j s hj => ?_, fun j k p ds es hne hj hk h1 h2 => ?_, r.box, fun p j ds hb hj h1 => ?_, r.out, r.mh⟩
  · by_cases c : j = i
    · subst c
      obtain ⟨e1, e2⟩ := put_out hj
      subst e1
      trivial
    · rw [put_ne c] at hj
      have q := r.slot j s hj
      have se : (σ.set i none)[j]? = σ[j]? := List.getElem?_set_ne (Ne.symm c)
      cases s with
      | no => trivial
      | fz d => obtain ⟨v, q1, q2⟩ := q; exact ⟨v, by rw [se]; exact q1, q2⟩
      | sq ns => obtain ⟨v, q1, q2⟩ := q; exact ⟨v, by rw [se]; exact q1, q2⟩
      | ow es => obtain ⟨p', xs, q1, q2⟩ := q; exact ⟨p', xs, by rw [se]; exact q1, q2⟩
      | bx => obtain ⟨p, q1, q2⟩ := q; exact ⟨p, q1, by rw [se]; exact q2⟩
  · have cj : j ≠ i := fun z => by subst z; cases (put_out hj).1
    have ck : k ≠ i := fun z => by subst z; cases (put_out hk).1
    rw [put_ne cj] at hj
    rw [put_ne ck] at hk
    rw [List.getElem?_set_ne (Ne.symm cj)] at h1
    rw [List.getElem?_set_ne (Ne.symm ck)] at h2
    exact r.inj j k p ds es hne hj hk h1 h2
  · have cj : j ≠ i := fun z => by subst z; cases (put_out hj).1
    rw [put_ne cj] at hj
    rw [List.getElem?_set_ne (Ne.symm cj)] at h1
    exact r.bne p j ds hb hj h1
theorem Rel.wipe {en : En} {σ : L2.St} {H : Hp} {M : AS} {B : Option Addr} (r : Rel G en σ H M B) : ∀ own : List Nat, Rel G (en.wipe own) (L2.wipe σ own) H M B
  | [] => r
  | v :: vs => (Rel.wipe r vs).drop v
theorem back_at {en orig : En} {j : Nat} {s : Sl} : ∀ {own : List Nat}, (en.back orig own).sl[j]? = some s → (j ∈ own ∧ s = orig.sl.getD j .no) ∨ (j ∉ own ∧ en.sl[j]? = some s)
  | [], h => .inr ⟨by simp, h⟩
  | v :: vs, h => by
    unfold En.back at h
    by_cases c : j = v
    · subst c
      obtain ⟨e, _⟩ := put_out h
      exact .inl ⟨List.mem_cons_self, e⟩
    · rw [put_ne c] at h
      rcases back_at h with ⟨h1, h2⟩ | ⟨h1, h2⟩
      · exact .inl ⟨List.mem_cons_of_mem _ h1, h2⟩
      · exact .inr ⟨fun z => (List.mem_cons.mp z).elim c h1, h2⟩
theorem back_len {en orig : En} : ∀ own : List Nat, (en.back orig own).sl.length = en.sl.length
  | [] => rfl
  | v :: vs => by
    show ((en.back orig vs).sl.set v _).length = _
    rw [List.length_set, back_len vs]
theorem back_bx {en orig : En} : ∀ own : List Nat, (en.back orig own).bx = en.bx
  | [] => rfl
  | v :: vs => back_bx vs
/-- behind a block: the own names are as they were -/
theorem Rel.back {en en2 : En} {σ : L2.St} {H0 H : Hp} {M0 M : AS} {B : Option Addr} {own : List Nat} (r0 : Rel G en σ H0 M0 B) (ok : ownOk en own = true) (r : Rel G en2 (L2.wipe σ own) H M B) (st : Step H0 M0 H M) : Rel G (en2.back en own) σ H M B := by
  have okj : ∀ {j : Nat} {ds : List D}, j ∈ own → en.sl.getD j .no ≠ Sl.ow ds := fun {j ds} hj z => by
    have := List.all_eq_true.mp ok j hj
    rw [List.getD_eq_getElem?_getD] at z
    cases e1 : en.sl[j]? with
    | none => rw [e1] at z; cases z
    | some s =>
      rw [e1] at z this
      cases (show s = Sl.ow ds from z)
      exact absurd this (by simp)
  have out : ∀ {j : Nat} {v : V}, j ∉ own → (L2.wipe σ own)[j]? = σ[j]? := fun {j v} hj => wipe_out hj
  refine ⟨?_, fun j s hj => ?_, fun j k p ds es hne hj hk h1 h2 => ?_, fun p hp => by rw [back_bx]; exact r.box p hp, fun p j ds hb hj h1 => ?_, r.out, r.mh⟩
  · rw [back_len, ← r.len, wipe_length]
  · rcases back_at hj with ⟨h1, h2⟩ | ⟨h1, h2⟩
    · subst h2
      have oj := List.all_eq_true.mp ok j h1
      rw [List.getD_eq_getElem?_getD]
      cases e1 : en.sl[j]? with
      | none => trivial
      | some s =>
        rw [e1] at oj
        have q := r0.slot j s e1
        cases s with
        | no => trivial
        | fz d => obtain ⟨v, q1, q2⟩ := q; exact ⟨v, q1, q2.step st⟩
        | sq ns => obtain ⟨v, q1, q2⟩ := q; exact ⟨v, q1, q2.step st⟩
        | ow es => exact absurd oj (by simp)
        | bx => exact absurd oj (by simp)
    · have q := r.slot j s h2
      have se := wipe_out (σ := σ) h1
      cases s with
      | no => trivial
      | fz d => obtain ⟨v, q1, q2⟩ := q; exact ⟨v, by rw [← se]; exact q1, q2⟩
      | sq ns => obtain ⟨v, q1, q2⟩ := q; exact ⟨v, by rw [← se]; exact q1, q2⟩
      | ow es => obtain ⟨p', xs, q1, q2⟩ := q; exact ⟨p', xs, by rw [← se]; exact q1, q2⟩
      | bx => obtain ⟨p, q1, q2⟩ := q; exact ⟨p, q1, by rw [← se]; exact q2⟩
  · rcases back_at hj with ⟨a1, a2⟩ | ⟨a1, a2⟩
    · exact okj a1 a2.symm
    · rcases back_at hk with ⟨b1, b2⟩ | ⟨b1, b2⟩
      · exact okj b1 b2.symm
      · rw [← wipe_out a1] at h1
        rw [← wipe_out b1] at h2
        exact r.inj j k p ds es hne a2 b2 h1 h2
  · rcases back_at hj with ⟨a1, a2⟩ | ⟨a1, a2⟩
    · exact okj a1 a2.symm
    · rw [← wipe_out a1] at h1
      exact r.bne p j ds hb a2 h1
/-- an address is shut off from a block, and given back -/
theorem Rel.shut {en : En} {σ : L2.St} {H : Hp} {M : AS} {B : Option Addr} {p : Addr} {o : HO} (r : Rel G en σ H M B) (hp : H p = none) : Rel (G.with fun a => G.Out a ∨ a = p) en σ (upd H p o) M B := by
  have ex : Ext H (upd H p o) := ext_new hp
  have mo : ∀ {v : V} {d : D}, RD G.K H (av G M) v d → RD G.K (upd H p o) (av (G.with fun a => G.Out a ∨ a = p) M) v d := fun h => h.mono (fun a o h _ => ex a o h) fun a h => by
    rcases h with h | h | h
    · exact .inl (.inl h)
    · exact .inl (.inr h)
    · exact .inr (by rw [h]; exact hp)
  have mq : ∀ {a : Addr} {ns : List Int}, SqOk G.K H (av G M) a ns → SqOk G.K (upd H p o) (av (G.with fun a => G.Out a ∨ a = p) M) a ns := fun h => h.mono (fun a o h _ => ex a o h) fun a h => by
    rcases h with h | h | h
    · exact .inl (.inl h)
    · exact .inl (.inr h)
    · exact .inr (by rw [h]; exact hp)
  have mos : ∀ {v : List V} {d : List D}, RDs G.K H (av G M) v d → RDs G.K (upd H p o) (av (G.with fun a => G.Out a ∨ a = p) M) v d := fun h => h.mono (fun a o h _ => ex a o h) fun a h => by
    rcases h with h | h | h
    · exact .inl (.inl h)
    · exact .inl (.inr h)
    · exact .inr (by rw [h]; exact hp)
  have nM : ¬ M p := fun z => r.mh p z hp
  refine ⟨r.len, fun j s hj => ?_, r.inj, fun q hb => ⟨(r.box q hb).1, ex _ _ (r.box q hb).2⟩, r.bne, fun a h => ?_, fun a h => ?_⟩
  · have q := r.slot j s hj
    cases s with
    | no => trivial
    | fz d => obtain ⟨v, q1, q2⟩ := q; exact ⟨v, q1, mo q2⟩
    | sq ns => obtain ⟨v, q1, q2⟩ := q; exact ⟨v, q1, mq q2⟩
    | ow es => obtain ⟨p', xs, q1, q2, q3, q4, q5⟩ := q; exact ⟨p', xs, q1, q2, ex _ _ q3, q4, mos q5⟩
    | bx => exact q
  · rcases h with h | h
    · obtain ⟨h1, h2⟩ := r.out a h
      refine ⟨fun z => ?_, h2⟩
      cases e1 : H a with
      | none => exact h1 e1
      | some u => rw [ex a u e1] at z; cases z
    · subst h
      exact ⟨(fun z => by rw [upd_same] at z; cases z), nM⟩
  · cases e1 : H a with
    | none => exact absurd e1 (r.mh a h)
    | some u => rw [ex a u e1]; exact fun z => nomatch z
theorem av_open {M : AS} {p : Addr} (a : Addr) : av (G.with fun a => G.Out a ∨ a = p) M a ↔ av G (fun a => M a ∨ a = p) a := by
  constructor
  · rintro (h | h | h)
    · exact .inl (.inl h)
    · exact .inr h
    · exact .inl (.inr h)
  · rintro ((h | h) | h)
    · exact .inl h
    · exact .inr (.inr h)
    · exact .inr (.inl h)
theorem RD.opened {H : Hp} {M : AS} {p : Addr} {v : V} {d : D} (h : RD G.K H (av (G.with fun a => G.Out a ∨ a = p) M) v d) : RD G.K H (av G fun a => M a ∨ a = p) v d := h.mono (fun _ _ h _ => h) fun a q => .inl ((av_open a).mpr q)
theorem SqOk.opened {H : Hp} {M : AS} {p a : Addr} {ns : List Int} (h : SqOk G.K H (av (G.with fun a => G.Out a ∨ a = p) M) a ns) : SqOk G.K H (av G fun a => M a ∨ a = p) a ns := h.mono (fun _ _ h _ => h) fun a q => .inl ((av_open a).mpr q)
theorem RDs.opened {H : Hp} {M : AS} {p : Addr} {v : List V} {d : List D} (h : RDs G.K H (av (G.with fun a => G.Out a ∨ a = p) M) v d) : RDs G.K H (av G fun a => M a ∨ a = p) v d := h.mono (fun _ _ h _ => h) fun a q => .inl ((av_open a).mpr q)
theorem Rel.opened {en : En} {σ : L2.St} {H : Hp} {M : AS} {B : Option Addr} {p : Addr} (r : Rel (G.with fun a => G.Out a ∨ a = p) en σ H M B) (np : ¬ G.Out p) : Rel G en σ H (fun a => M a ∨ a = p) B := by
  refine ⟨r.len, fun j s hj => ?_, r.inj, fun q hb => ⟨.inl (r.box q hb).1, (r.box q hb).2⟩, r.bne, fun a h => ?_, fun a h => ?_⟩
  · have q := r.slot j s hj
    cases s with
    | no => trivial
    | fz d => obtain ⟨v, q1, q2⟩ := q; exact ⟨v, q1, q2.opened⟩
    | sq ns => obtain ⟨v, q1, q2⟩ := q; exact ⟨v, q1, q2.opened⟩
    | ow es => obtain ⟨p', xs, q1, q2, q3, q4, q5⟩ := q; exact ⟨p', xs, q1, .inl q2, q3, q4, q5.opened⟩
    | bx => exact q
  · obtain ⟨h1, h2⟩ := r.out a (.inl h)
    exact ⟨h1, fun z => z.elim h2 fun q => np (by rw [← q]; exact h)⟩
  · rcases h with h | h
    · exact r.mh a h
    · subst h
      exact (r.out a (.inr rfl)).1
/-- the shut off list grows -/
theorem Rel.grown {en : En} {σ : L2.St} {H : Hp} {M : AS} {B : Option Addr} {p : Addr} {o : HO} (r : Rel (G.with fun a => G.Out a ∨ a = p) en σ H M B) : Rel (G.with fun a => G.Out a ∨ a = p) en σ (upd H p o) M B := by
  have nM : ¬ M p := (r.out p (.inr rfl)).2
  have kp : ∀ a u, H a = some u → ¬ av (G.with fun a => G.Out a ∨ a = p) M a → upd H p o a = some u := fun a u h n => by
    rw [upd_ne fun z => n (.inr (.inr z))]
    exact h
  refine ⟨r.len, fun j s hj => ?_, r.inj, fun q hb => ⟨(r.box q hb).1, ?_⟩, r.bne, fun a h => ?_, fun a h => ?_⟩
  · have q := r.slot j s hj
    cases s with
    | no => trivial
    | fz d => obtain ⟨v, q1, q2⟩ := q; exact ⟨v, q1, q2.mono kp fun _ h => .inl h⟩
    | sq ns => obtain ⟨v, q1, q2⟩ := q; exact ⟨v, q1, q2.mono kp fun _ h => .inl h⟩
    | ow es =>
      obtain ⟨p', xs, q1, q2, q3, q4, q5⟩ := q
      exact ⟨p', xs, q1, q2, by rw [upd_ne fun z => nM (by rw [← z]; exact q2)]; exact q3, q4, q5.mono kp fun _ h => .inl h⟩
    | bx => exact q
  · rw [upd_ne fun z => nM (by rw [← z]; exact (r.box q hb).1)]
    exact (r.box q hb).2
  · refine ⟨?_, (r.out a h).2⟩
    by_cases c : a = p
    · subst c; rw [upd_same]; exact fun z => nomatch z
    · rw [upd_ne c]; exact (r.out a h).1
  · rw [upd_ne fun z => nM (by rw [← z]; exact h)]
    exact r.mh a h
theorem comp_tr {IA : DNl} {g : DGt} {t : DTt} {A : DEn} {ts own : List Nat} (hsub : ∀ i ∈ ts, i ∈ own) {wi : TI} {gg : TG} {tt : TT} {te : TE} (hwi : ∀ σ H R, tI G W IA σ H R → wi σ H R)
    (hg : ∀ O v σ H Q, tG (G.with O) ts g v σ H Q → gg v σ H Q) (ht : ∀ O σ H Q, tT (G.with O) W0 t σ H Q → tt σ H Q) (he : ∀ O σ H Q, tE (G.with O) W0 A σ H Q → te σ H Q) :
    ∀ σ H Q, tN G W (nComp own IA g t A) σ H Q → tLc wi gg tt te own σ H Q := fun σ H Q ⟨en, M, B, rel, m⟩ => by
  refine hwi σ H _ ⟨en, M, B, rel, Post.imp (post_bind.mp m) (fun q mq J H1 M1 rel1 st1 it p hp => ?_) fun _ _ _ h => h⟩
  obtain ⟨Gd, Y, w, hG, hY⟩ := it
  split at mq
  · rename_i hok
    have mq := post_noEx' mq
    obtain ⟨O', hO'⟩ : ∃ O' : AS, O' = fun a => G.Out a ∨ a = p := ⟨_, rfl⟩
    have npO : ¬ G.Out p := fun z => (rel1.out p z).1 hp
    refine lc_it w (fun i H' => ∃ en' M' ys acc, Rel (G.with O') en' (L2.wipe σ own) H' M' B ∧ Step H1 M1 H' (fun a => M' a ∨ a = p) ∧ H' p = some (.lst ys) ∧ ys.length ≤ sizeLine ∧ RDs G.K H' (av (G.with O') M') ys acc ∧
      Post (fun r => ∀ H2 M2 ys2, Rel (G.with O') r.2 (L2.wipe σ own) H2 M2 B → Step H1 M1 H2 (fun a => M2 a ∨ a = p) → H2 p = some (.lst ys2) → ys2.length ≤ sizeLine → RDs G.K H2 (av (G.with O') M2) ys2 r.1 → Q (.ref p) H2) (fun _ _ _ => False) (cLoop own g t A (q.1.drop i) en' acc))
      ⟨q.2.wipe own, M1, [], [], by rw [hO']; exact (rel1.wipe own).shut hp, ?_, upd_same, Nat.zero_le _, .nil, ?_⟩ (fun i H' _ ⟨en', M', ys, acc, r, s, _⟩ => hG H' _ s) (fun i x H' H'' hlt ⟨en', M', ys, acc, r, s, hat, hl, hr, mm⟩ y => ?_) (fun H' ⟨en', M', ys, acc, r, s, hat, hl, hr, mm⟩ => ?_)
    · exact ⟨fun a o h _ => ext_new hp a o h, fun a h => h.elim .inl fun z => .inr (by rw [z]; exact hp)⟩
    · rw [List.drop_zero]
      refine Post.imp mq (fun r mr H2 M2 ys2 r2 s2 h2 l2 d2 => ?_) fun _ _ _ h => h
      subst hO'
      have r3 := r2.opened npO
      refine mr p ys2 H2 _ (rel1.back hok r3 s2) (st1.trans s2) ⟨.inr rfl, h2, l2, d2.opened, fun j ds hj hs => ?_, fun hb => ?_⟩
      · rcases back_at hj with ⟨a1, a2⟩ | ⟨a1, a2⟩
        · have oj := List.all_eq_true.mp hok j a1
          rw [List.getD_eq_getElem?_getD] at a2
          cases e1 : q.2.sl[j]? with
          | none => rw [e1] at a2; cases a2
          | some s =>
            rw [e1] at a2 oj
            cases (show Sl.ow ds = s from a2)
            exact absurd oj (by simp)
        · obtain ⟨p', xs, g1, g2, _⟩ := r2.slot j _ a2
          rw [wipe_out a1, hs] at g1
          cases g1
          exact (r2.out p (.inr rfl)).2 g2
      · exact (r2.out p (.inr rfl)).2 (r2.box p hb).1
    · have avh : ∀ a, av G (fun a => M' a ∨ a = p) a → H' a ≠ none := fun a ha => r.avh a (by rw [hO']; exact (av_open a).mpr ha)
      obtain ⟨ex, d, hd, rd⟩ := hY i H' _ x H'' hlt s avh y
      have hdr : q.1.drop i = d :: q.1.drop (i + 1) := by
        rw [List.drop_eq_getElem_cons hlt]
        rw [List.getElem?_eq_getElem hlt] at hd
        rw [Option.some.inj hd]
      rw [hdr] at mm
      obtain ⟨en1, e1, mm⟩ := post_lift.mp mm
      have rd' : RD G.K H'' (av (G.with O') M') x d := rd.mono (fun _ _ h _ => h) fun a h => .inl (by rw [hO'] at h; exact (av_open a).mp h)
      refine hg O' _ _ _ _ ⟨d, en', M', B, en1, r.ext ex, rd', e1, fun σ2 H2 M2 rel2 st2 on2 => ⟨(on2 own hsub).trans (wipe_twice fun _ h => h), ?_⟩⟩
      have s2 : Step H1 M1 H2 (fun a => M2 a ∨ a = p) := by
        have sa : Step H' (fun a => M' a ∨ a = p) H2 (fun a => M2 a ∨ a = p) := ⟨fun a o h n => st2.keep a o (ex a o h) fun z => n (.inl z), fun a h => h.elim (fun z => (st2.grow a z).elim (fun z => .inl (.inl z)) fun z => by
          cases eh : H' a with
          | none => exact .inr rfl
          | some o => rw [ex a o eh] at z; cases z) fun z => .inl (.inr z)⟩
        exact s.trans sa
      have np1 : ¬ M' p := (r.out p (by rw [hO']; exact .inr rfl)).2
      have at2 : H2 p = some (.lst ys) := st2.keep p _ (ex p _ hat) np1
      have rd2 : RDs G.K H2 (av (G.with O') M2) ys acc := (hr.ext ex).step (G := G.with O') st2
      refine ht O' _ _ _ ⟨en1, M2, B, rel2, Post.imp (post_bind.mp mm) (fun tp mt H3 M3 rel3 st3 => ?_) fun c dd en2 h => h.elim⟩
      have np2 : ¬ M2 p := (rel2.out p (by rw [hO']; exact .inr rfl)).2
      have sb : ∀ {Ha Hb : Hp} {Ma Mb : AS}, Step Ha Ma Hb Mb → Step Ha (fun a => Ma a ∨ a = p) Hb (fun a => Mb a ∨ a = p) := fun s0 =>
        ⟨fun a o h n => s0.keep a o h fun z => n (.inl z), fun a h => h.elim (fun z => (s0.grow a z).elim (fun z => .inl (.inl z)) .inr) fun z => .inl (.inr z)⟩
      have s3 := s2.trans (sb st3)
      have at3 := st3.keep p _ at2 np2
      have rd3 : RDs G.K H3 (av (G.with O') M3) ys acc := rd2.step (G := G.with O') st3
      have w2 : L2.wipe σ2 own = L2.wipe σ own := by rw [on2 own hsub, wipe_twice fun _ h => h]
      by_cases c : tp.1 = true
      · rw [if_pos c] at mt
        show (if tp.1 = true then _ else _)
        rw [if_pos c]
        refine he O' _ _ _ ⟨tp.2, M3, B, rel3, Post.imp (post_bind.mp mt) (fun ep me v H4 M4 rel4 st4 rd4 => ?_) fun c dd en2 h => h.elim⟩
        have np3 : ¬ M3 p := (rel3.out p (by rw [hO']; exact .inr rfl)).2
        have at4 := st4.keep p _ at3 np3
        have rd4' : RDs G.K H4 (av (G.with O') M4) ys acc := rd3.step (G := G.with O') st4
        split at me
        · rename_i hlt2
          have hly : ys.length < sizeLine := by rw [hr.length]; exact hlt2
          refine ⟨ys, at4, hly, ep.2.wipe own, M4, ys ++ [v], acc ++ [ep.1], ?_, ?_, upd_same, by rw [List.length_append, List.length_singleton]; omega, ?_, me⟩
          · have r5 := rel4.wipe own
            rw [w2] at r5
            subst hO'
            exact r5.grown
          · have s4 := s3.trans (sb st4)
            refine ⟨fun a o h n => ?_, s4.grow⟩
            rw [upd_ne fun z => ?_]
            · exact s4.keep a o h n
            · subst z
              rw [hp] at h
              cases h
          · refine (rd4'.append (.one rd4)).mono (fun a o h n => ?_) fun _ h => .inl h
            rw [upd_ne fun z => n (.inr (by rw [hO']; exact .inr z))]
            exact h
        · exact me.elim
      · rw [if_neg c] at mt
        show (if tp.1 = true then _ else _)
        rw [if_neg c]
        have r5 := rel3.wipe own
        rw [w2] at r5
        exact ⟨tp.2.wipe own, M3, ys, acc, r5, s3, at3, hl, rd3, mt⟩
    · rw [List.drop_length] at mm
      exact mm H' M' ys r s hat hl hr
  · exact mq.elim
end
end DL

namespace DL
open PySem L2
section
variable {X : Cx} {G : Gh} {W : WX} {pos spos py : Pos} {elt tg iter : Expr} {ifs : List Expr} {scope : Scope} {own : List (Str × Nat)} {IA : DNl} {g : DGt} {t : DTt} {A : DEn} {ts : List Nat}
/-- what stands in the block, at any turn -/
structure Blk (X : Cx) (G : Gh) (scope : Scope) (tg : Expr) (ifs : List Expr) (elt : Expr) (ts : List Nat) (g : DGt) (t : DTt) (A : DEn) : Prop where
  dg : ∀ (O : AS) (s : Shared) (H : Hp) (C : Addr) (cl : List (Str × Addr)) (fp : List Addr), DG (X.blk s H scope (compEnvC scope cl C X.env) fp) (G.with O) tg ts g
  dt : ∀ (O : AS) (s : Shared) (H : Hp) (C : Addr) (cl : List (Str × Addr)) (fp : List Addr), DTs (X.blk s H scope (compEnvC scope cl C X.env) fp) (G.with O) W0 ifs t
  de : ∀ (O : AS) (s : Shared) (H : Hp) (C : Addr) (cl : List (Str × Addr)) (fp : List Addr), DE (X.blk s H scope (compEnvC scope cl C X.env) fp) (G.with O) W0 elt A
def tgU (G : Gh) (ts : List Nat) (g : DGt) : TG := fun v σ H Q => ∃ O, tG (G.with O) ts g v σ H Q
def ttU (G : Gh) (t : DTt) : TT := fun σ H Q => ∃ O, tT (G.with O) W0 t σ H Q
def teU (G : Gh) (A : DEn) : TE := fun σ H Q => ∃ O, tE (G.with O) W0 A σ H Q
theorem comp_pe (hc : X.calm = true) (hN : X.N.Nodup) (hi : DI X G W tg iter IA) (ok : BlkOk X.N X.env.scope scope own) (hsub : ∀ i ∈ ts, i ∈ own.map (·.2)) (b : Blk X G scope tg ifs elt ts g t A) (hs : ∀ x, foldedSetIterable iter X.env x = pure x := by intro _; rfl) :
    DN X G W (.ListComp elt [⟨tg, iter, ifs, 0⟩] scope pos) (nComp (own.map (·.2)) IA g t A) :=
  ⟨pe_imp (pe_lc (g := tgU G ts g) (tt := ttU G t) (te := teU G A) hc hN hi.pi ok
    (fun s H C cl fp => ⟨fun pins s' σ H' v u Q I r ⟨O, q⟩ => (b.dg O s H C cl fp).pg.run pins s' σ H' v u Q I r q⟩)
    (fun s H C cl fp => ⟨fun pins s' σ H' Q I ⟨O, q⟩ => (b.dt O s H C cl fp).pts.run pins s' σ H' Q I q⟩)
    (fun s H C cl fp => ⟨fun pins s' σ H' Q I ⟨O, q⟩ => (b.de O s H C cl fp).pe.run pins s' σ H' Q I q⟩) hs)
    (comp_tr hsub (fun _ _ _ q => q) (fun O _ _ _ _ q => ⟨O, q⟩) (fun O _ _ _ q => ⟨O, q⟩) (fun O _ _ _ q => ⟨O, q⟩))⟩
theorem comp_ps {i : Nat} {y : Str} (hc : X.calm = true) (hN : X.N.Nodup) (hy : X.N[i]? = some y) (hyl : X.env.scope.names.lookup y = some .local) (hsw : swapsWith (.ListComp elt [⟨tg, iter, ifs, 0⟩] scope pos) (some (.Name y py)) spos.line X.env = pure true)
    (hi : DI X G W tg iter IA) (ok : BlkOk X.N X.env.scope scope own) (hsub : ∀ i ∈ ts, i ∈ own.map (·.2)) (b : Blk X G scope tg ifs elt ts g t A) (hs : ∀ x, foldedSetIterable iter X.env x = pure x := by intro _; rfl) :
    PS X (.Assign [.Name y py] (.ListComp elt [⟨tg, iter, ifs, 0⟩] scope pos) spos) (tAsg (tN G W (nComp (own.map (·.2)) IA g t A)) (gName i)) :=
  ps_imp (ps_setLc (g := tgU G ts g) (tt := ttU G t) (te := teU G A) hc hN hy hyl hsw hi.pi ok
    (fun s H C cl fp => ⟨fun pins s' σ H' v u Q I r ⟨O, q⟩ => (b.dg O s H C cl fp).pg.run pins s' σ H' v u Q I r q⟩)
    (fun s H C cl fp => ⟨fun pins s' σ H' Q I ⟨O, q⟩ => (b.dt O s H C cl fp).pts.run pins s' σ H' Q I q⟩)
    (fun s H C cl fp => ⟨fun pins s' σ H' Q I ⟨O, q⟩ => (b.de O s H C cl fp).pe.run pins s' σ H' Q I q⟩) hs)
    (fun Ds σ H q => comp_tr hsub (fun _ _ _ q => q) (fun O _ _ _ _ q => ⟨O, q⟩) (fun O _ _ _ q => ⟨O, q⟩) (fun O _ _ _ q => ⟨O, q⟩) σ H _ q)
/-- as a new list -/
theorem dn_comp (own : List (Str × Nat)) (hc : X.calm = true) (hN : X.N.Nodup) (hi : DI X G W tg iter IA) (ok : BlkOk X.N X.env.scope scope own) (hsub : ∀ i ∈ ts, i ∈ own.map (·.2)) (b : Blk X G scope tg ifs elt ts g t A) (hs : ∀ x, foldedSetIterable iter X.env x = pure x := by intro _; rfl) :
    DN X G W (.ListComp elt [⟨tg, iter, ifs, 0⟩] scope pos) (nComp (own.map (·.2)) IA g t A) := comp_pe hc hN hi ok hsub b hs
/-- name = [..], the list the name's own -/
theorem ds_ownLc (own : List (Str × Nat)) (i : Nat) {y : Str} (hc : X.calm = true) (hN : X.N.Nodup) (hy : X.N[i]? = some y) (hyl : X.env.scope.names.lookup y = some .local) (hsw : swapsWith (.ListComp elt [⟨tg, iter, ifs, 0⟩] scope pos) (some (.Name y py)) spos.line X.env = pure true)
    (hi : DI X G W tg iter IA) (ok : BlkOk X.N X.env.scope scope own) (hsub : ∀ i ∈ ts, i ∈ own.map (·.2)) (b : Blk X G scope tg ifs elt ts g t A) (hs : ∀ x, foldedSetIterable iter X.env x = pure x := by intro _; rfl) :
    DS X G W (.Assign [.Name y py] (.ListComp elt [⟨tg, iter, ifs, 0⟩] scope pos) spos) (sOwn i (nComp (own.map (·.2)) IA g t A)) :=
  ⟨ps_imp (comp_ps hc hN hy hyl hsw hi ok hsub b hs) fun Ds σ H ⟨en, M, Bx, rel, m⟩ => ⟨en, M, Bx, rel, Post.imp (post_bind.mp m) (fun q mq p ys H1 M1 rel1 st1 o => mq _ H1 M1 Bx (rel1.setOwn o) st1 fun _ => rfl) fun _ _ _ h => h.ew σ⟩⟩
/-- name = [..], the list left to stand -/
theorem ds_asgLc (own : List (Str × Nat)) (i : Nat) {y : Str} (hc : X.calm = true) (hN : X.N.Nodup) (hy : X.N[i]? = some y) (hyl : X.env.scope.names.lookup y = some .local) (hsw : swapsWith (.ListComp elt [⟨tg, iter, ifs, 0⟩] scope pos) (some (.Name y py)) spos.line X.env = pure true)
    (hi : DI X G W tg iter IA) (ok : BlkOk X.N X.env.scope scope own) (hsub : ∀ i ∈ ts, i ∈ own.map (·.2)) (b : Blk X G scope tg ifs elt ts g t A) (hs : ∀ x, foldedSetIterable iter X.env x = pure x := by intro _; rfl) :
    DS X G W (.Assign [.Name y py] (.ListComp elt [⟨tg, iter, ifs, 0⟩] scope pos) spos) (sAsg i (eN (nComp (own.map (·.2)) IA g t A))) :=
  ⟨ps_imp (comp_ps hc hN hy hyl hsw hi ok hsub b hs) fun Ds σ H ⟨en, M, Bx, rel, m⟩ => ⟨en, M, Bx, rel, by
    unfold sAsg eN at m
    cases hn : nComp (own.map (·.2)) IA g t A en with
    | ok q =>
      rw [hn] at m
      intro p ys H1 M1 rel1 st1 o
      obtain ⟨r2, s2, rd⟩ := o.stand rel1
      exact m _ H1 _ Bx (r2.set rd) (st1.trans s2) fun _ => rfl
    | ex c d en2 => rw [hn] at m; exact EWS.ew m σ
    | bad => rw [hn] at m; exact m⟩⟩
end
end DL

namespace DL
open PySem L2 PySem.Spec PyProof.Rows
/-! ### a def as a function on data -/
inductive FR where
  | ok (d : D) (b : Int × Int)
  | nw (ds : List D) (b : Int × Int)
  | ex (c : Str) (d : D) (b : Int × Int)
  | bad
abbrev FnS := List D → Int × Int → FR
def PostF (P : D → Int × Int → Prop) (N : List D → Int × Int → Prop) (E : Str → D → Int × Int → Prop) : FR → Prop
  | .ok d b => P d b
  | .nw ds b => N ds b
  | .ex c d b => E c d b
  | .bad => False
/-- behind a def: all that stood there still stands, the box holds b -/
def Kept (H : Hp) (B : Option Addr) (b : Int × Int) (H' : Hp) : Prop := (∀ a o, H a = some o → B ≠ some a → H' a = some o) ∧ ∀ p, B = some p → H' p = some (.lst [.int b.1, .int b.2])
def XD (K : Fg) (cs : Str → Option (Value × Str)) (H : Hp) (O : AS) (cls : Value) (dd : Option Addr) (c : Str) (d : D) : Prop :=
  ∃ (f : Str) (a : Addr) (fs : List (Str × V)) (v : V), cs c = some (cls, f) ∧ dd = some a ∧ H a = some (.xd fs) ∧ ¬ O a ∧ fs.lookup f = some v ∧ RD K H O v d
def argsOf (B : Option Addr) (vs : List V) : List V := match B with | some p => .ref p :: vs | none => vs
/-- the promise of a def whose first parameter is the box (bx), with n more parameters -/
def spF (K : Fg) (cs : Str → Option (Value × Str)) (bx : Bool) (n : Nat) (F : FnS) : Sp := fun us H Q E => ∃ (O : AS) (B : Option Addr) (b : Int × Int) (vs : List V) (ds : List D),
  us = argsOf B vs ∧ B.isSome = bx ∧ ds.length = n ∧ RDs K H O vs ds ∧ (∀ a, O a → H a ≠ none) ∧ (∀ p, B = some p → O p ∧ H p = some (.lst [.int b.1, .int b.2])) ∧
  PostF (fun d b' => ∀ v H', Kept H B b' H' → RD K H' O v d → Q v H') (fun ds b' => ∀ p ys H', Kept H B b' H' → H p = none → H' p = some (.lst ys) → ys.length ≤ sizeLine → RDs K H' O ys ds → Q (.ref p) H') (fun c d b' => ∀ cls dd H', Kept H B b' H' → XD K cs H' O cls dd c d → E cls dd H') (F ds b)
structure FnG (P : Program) (w : World) (K : Fg) (mg : Str → Option Value) (base : Heap) (k : Nat) (f : Addr) (fd : FuncData) (ps : List Str) (sp : Sp) : Prop where
  len : ∀ vs H Q E, sp vs H Q E → vs.length = ps.length
  run : ∀ (A : Around) (outer : List Env) (s : Shared) (H : Hp) (args : Args) (us : List Value) (vs : List V) (Q : VK) (E : XK), Room k A → A.guards = some [] → Env0 P w K mg base A outer s H → BindsTo s fd args (ps.zip us) → Vals vs us → sp vs H Q E →
    codeAny (model P w) A (.call (.ref f) args) (CR (L2.CX P w) outer P w H s Q E) s
section
variable {P : Program} {w : World} {K : Fg} {mg : Str → Option Value} {base : Heap} {k : Nat} {f : Addr} {fd : FuncData} {ps : List Str} {sp : Sp}
theorem FnG.mono {j : Nat} (F : FnG P w K mg base j f fd ps sp) (h : j ≤ k) : FnG P w K mg base k f fd ps sp := ⟨F.len, fun A outer s H args us vs Q E hr => F.run A outer s H args us vs Q E (hr.mono h)⟩
/-- from the body -/
theorem fnG_of {x qual : Str} {st : Stmt} {N : List Str} (F : Fun K x qual st f fd) (S : FnScope N ps (defScope st)) (len : ∀ vs H Q E, sp vs H Q E → vs.length = ps.length)
    (body : ∀ (cdv : Value) (A : Around) (outer : List Env) (s : Shared) (H : Hp) (vs : List V) (Q : VK) (E : XK), Room k (A.deeper (envOfC qual (defScope st) s.heap.objs.size f cdv)) → A.guards = some [] → sp vs H Q E →
      ∃ t, PSs (cxOf (L2.CX P w) P w K mg base N qual (defScope st) f cdv A outer s H E) (defBody st) t ∧ t { nx := fun _ H' => Q .non H', rt := Q } (start N vs) H) : FnG P w K mg base (k + 1) f fd ps sp := by
  obtain ⟨oc, od, kV, doc, pm, an, cdv, ct, osl, rfl, lk, hcd⟩ := F.ex
  refine ⟨len, fun A outer s H args us vs Q E hr hgu e0 hb r hsp => ?_⟩
  have nl : vs.length = ps.length := len _ _ _ _ hsp
  obtain ⟨t, ht, hq⟩ := body cdv A outer s H vs Q E (hr.deeper _) hgu hsp
  have kin : K.In s.heap := e0.mod.kin.keeps fun a o z => (e0.bs a o z).1
  have kinds : ∀ y ∈ ps.zip us, (defScope st).names.lookup y.1 = some .local ∨ ((defScope st).names.lookup y.1 = some .cell ∧ ((cellsFrom (s.heap.objs.size + 1) (defScope st).names []).lookup y.1).isSome = true) := by
    rintro ⟨n, v⟩ hy
    exact (S.par n (List.of_mem_zip hy).1).imp id fun q => ⟨q, PySem.W.cellsFrom_some _ _ _ (.inl q)⟩
  refine codeAny_call_function hr.depth (kin _ _ lk) rfl S.co S.gen rfl (PySem.W.codeRec_of kin hcd) (hb _ _ _ _ ?_)
  refine wpAny_newFunctionEnv_cells S.kind kinds fun env he s1 x => ?_
  cases he
  refine ⟨(e0.mod.nolimit.keeps fun a o z => (e0.bs a o z).1).keeps x.toInCall.keep, codeAny_func ?_⟩
  refine wpAny_mono (ht.run [] s1 (start N vs) H _ (inv_start S hr.hd e0 nl r x) hq) (fun fl s' hs => ?_) fun _ _ hs => hs
  cases fl with
  | ret u => obtain ⟨v, _, H', J, rv, q⟩ := hs; exact ⟨v, H', J.os, J.bare, J.base, J.hok, rv, q⟩
  | next => obtain ⟨_, H', J, q⟩ := hs; exact ⟨V.non, H', J.os, J.bare, J.base, J.hok, rfl, q⟩
  | brk => obtain ⟨_, _, _, q⟩ := hs; exact q.elim
  | cont => obtain ⟨_, _, _, q⟩ := hs; exact q.elim
end
section
variable {X : Cx} {k : Nat} {f : Addr} {fd : FuncData} {ps ks : List Str} {sp : Sp} {E : L2.St → XK} {x : Str} {p pos : Pos} {e : Expr} {es : List Expr} {kws : List Keyword} {t : TA}
theorem run_fnG {args : Args} {pins : List (Addr × Obj)} {σ : L2.St} {H : Hp} {s : Shared} {Q : VK} {us : List Value} {vs : List V} (F : FnG X.prog X.w X.K X.mg X.base k f fd ps sp) (hr : Room k X.A) (hgu : X.A.guards = some []) (hx : PassesAt (L2.CX X.prog X.w) X σ (E σ))
    (I : Inv X pins σ H s) (hb : BindsTo s fd args (ps.zip us)) (r : Vals vs us) (h : sp vs H Q (E σ)) : wpAny (model X.prog X.w) X.A (call (.ref f) args.pos args.kw) (EP X pins σ Q) X.xe s := by
  refine wpAny_call (codeAny_mono (F.run X.A X.stack s H _ us vs Q (E σ) hr hgu I.env0 hb r h) fun r s' hq => ?_)
  match r, hq with
  | .error e, hq => exact hx pins H s e s' I hq
  | .ok (.ret u), hq => exact I.after hq
  | .ok .next, hq => exact hq.elim
  | .ok .brk, hq => exact hq.elim
  | .ok .cont, hq => exact hq.elim
theorem pe_callG (F : FnG X.prog X.w X.K X.mg X.base k f fd ps sp) (hr : Room k X.A) (hgu : X.A.guards = some []) (hg : Gl X x) (hm : X.mg x = some (.ref f)) (hk : PySem.W.keepIn X.K (.ref f) = true) (hb : Binds X.K fd ps []) (hx : ∀ σ, PassesAt (L2.CX X.prog X.w) X σ (E σ))
    (ha : PA X (e :: es) t) (hdb : (x == ("__debug__" : Str)) = false := by decide) (he : starEach (e :: es) X.env = (false, eval e X.env) :: starEach es X.env := by rfl) (hpl : (backTo pos (starEach es X.env)).any (·.1) = false := by rfl) :
    PE X (.Call (.Name x p) (e :: es) [] pos) (tCallSD sp [] E t) := by
  refine ⟨fun pins s σ H Q I h => wpAny_Call_Name_kw (ld_glob I hg hm ?_ hdb)⟩
  refine PySem.W.callWith_K (h₀ := X.base) I.ok.mod.kin hk (thn (ha.run pos pins s σ H _ I h) fun us s1 ⟨vs, H1, I1, r, q⟩ => ⟨I1.kIn, ?_⟩) he hpl
  have q : sp (vs ++ []) H1 Q (E σ) := q
  rw [List.append_nil] at q
  have nl : us.length = ps.length := by rw [← r.length]; exact F.len _ _ _ _ q
  have b := hb s1 us I1.kIn (by rw [List.append_nil]; exact nl)
  rw [List.append_nil] at b
  exact run_fnG (args := ⟨us, []⟩) F hr hgu (hx σ) I1 b r q
/-- the values of a call that names every parameter, put into the def's order by the places js -/
def put {α : Type} (z : α) (js : List Nat) (zs : List α) : List α := js.map fun j => zs.getD j z
theorem vals_at : ∀ {vs : List V} {us : List Value} (j : Nat), Vals vs us → RelV (vs.getD j .non) (us.getD j .none)
  | _, _, _, .nil => rfl
  | _, _, 0, .cons h _ => h
  | _, _, j + 1, .cons _ r => vals_at j r
theorem vals_put {vs : List V} {us : List Value} (h : Vals vs us) : ∀ js : List Nat, Vals (put V.non js vs) (put Value.none js us)
  | [] => .nil
  | j :: js => .cons (vals_at j h) (vals_put h js)
theorem rds_at {K : Fg} {H : Hp} {O : AS} : ∀ {vs : List V} {ds : List D} (j : Nat), RDs K H O vs ds → RD K H O (vs.getD j .non) (ds.getD j .none)
  | _, _, _, .nil => .non
  | _, _, 0, .cons h _ => h
  | _, _, j + 1, .cons _ r => rds_at j r
theorem rds_put {K : Fg} {H : Hp} {O : AS} {vs : List V} {ds : List D} (h : RDs K H O vs ds) : ∀ js : List Nat, RDs K H O (put V.non js vs) (put PyData.none js ds)
  | [] => .nil
  | j :: js => .cons (rds_at j h) (rds_put h js)
def BindsK (fd : FuncData) (ps ks : List Str) (js : List Nat) : Prop := ∀ ws : List Value, ws.length = ks.length → bindArgs fd ⟨[], ks.zip ws⟩ = pure (ps.zip (put Value.none js ws))
def tCallKw (sp : Sp) (js : List Nat) (n : Nat) (E : L2.St → XK) (t : TA) : TE := fun σ H Q => t σ H fun vs H1 => vs.length = n ∧ sp (put V.non js vs) H1 Q (E σ)
theorem pe_callGK (js : List Nat) (F : FnG X.prog X.w X.K X.mg X.base k f fd ps sp) (hr : Room k X.A) (hgu : X.A.guards = some []) (hg : Gl X x) (hm : X.mg x = some (.ref f)) (hk : PySem.W.keepIn X.K (.ref f) = true) (hb : BindsK fd ps ks js) (hx : ∀ σ, PassesAt (L2.CX X.prog X.w) X σ (E σ))
    (hkw : PK X kws t) (hall : (backToKw pos (keywordEach kws X.env)).all (·.1.isSome) = true := by rfl) (hks : (backToKw pos (keywordEach kws X.env)).filterMap (·.1) = ks := by rfl)
    (hdb : (x == ("__debug__" : Str)) = false := by decide) (hpl : ((backTo pos (starEach [] X.env)).any (·.1) || (backToKw pos (keywordEach kws X.env)).any (·.1.isNone)) = false := by rfl) :
    PE X (.Call (.Name x p) [] kws pos) (tCallKw sp js ks.length E t) := by
  refine ⟨fun pins s σ H Q I h => wpAny_Call_Name_kw (ld_glob I hg hm ?_ hdb)⟩
  refine PySem.W.callWith_KW0 (h₀ := X.base) I.ok.mod.kin hk hall (thn (hkw.run pos pins s σ H _ I h) fun ws s1 ⟨zs, H1, I1, r, nz, q⟩ => ⟨I1.kIn, ?_⟩) hpl
  rw [hks]
  exact run_fnG (args := ⟨[], ks.zip ws⟩) F hr hgu (hx σ) I1 (.of_eq (hb ws (by rw [← r.length]; exact nz))) (vals_put r js) q
end
end DL

namespace DL
open PySem L2 PySem.Spec PyProof.Rows
/-! ### a body as a function on data -/
def enF (bx : Bool) (m : Nat) (ds : List D) (b : Int × Int) : En := ⟨(if bx then [Sl.bx] else []) ++ (ds.map Sl.fz ++ List.replicate (m - (ds.length + if bx then 1 else 0)) Sl.no), b⟩
def finF : Rs Out → FR
  | .ok (.rt d en) => .ok d en.bx
  | .ok (.rn d en) => .nw d en.bx
  | .ok (.nx en) => .ok .none en.bx
  | .ok _ => .bad
  | .ex c d en => .ex c d en.bx
  | .bad => .bad
def runF (bx : Bool) (m : Nat) (A : DSt) : FnS := fun ds b => finF (A (enF bx m ds b))
theorem slots_at {K : Fg} {H : Hp} {O : AS} {r : Nat} : ∀ {vs : List V} {ds : List D} {i : Nat} {s : Sl}, RDs K H O vs ds → (ds.map Sl.fz ++ List.replicate r Sl.no)[i]? = some s →
    s = .no ∨ ∃ d v, s = .fz d ∧ (vs.map some ++ List.replicate r none)[i]? = some (some v) ∧ RD K H O v d
  | _, _, i, s, .nil, e => by
    simp only [List.map_nil, List.nil_append, List.getElem?_replicate] at e
    split at e
    · exact .inl (Option.some.inj e).symm
    · cases e
  | _, _, 0, s, .cons h _, e => by
    have e' : some (Sl.fz _) = some s := e
    cases e'
    exact .inr ⟨_, _, rfl, rfl, h⟩
  | _, _, i + 1, s, .cons _ q, e => slots_at (i := i) q (by simpa using e)
theorem rel_start {K : Fg} {cs : Str → Option (Value × Str)} {N : List Str} {H : Hp} {O : AS} {B : Option Addr} {b : Int × Int} {vs : List V} {ds : List D} (nd : (argsOf B vs).length ≤ N.length) (rd : RDs K H O vs ds) (oh : ∀ a, O a → H a ≠ none)
    (hb : ∀ p, B = some p → O p ∧ H p = some (.lst [.int b.1, .int b.2])) : Rel ⟨K, fun a => O a ∧ B ≠ some a, false, cs⟩ (enF B.isSome N.length ds b) (start N (argsOf B vs)) H (fun a => B = some a) B := by
  have ln := rd.length
  have rd' : RDs K H (av ⟨K, fun a => O a ∧ B ≠ some a, false, cs⟩ fun a => B = some a) vs ds := rd.mono (fun _ _ h _ => h) fun a h => h.elim (fun z => .inl (hb a z).1) fun z => .inl z.1
  have key : ∀ (i : Nat) (s : Sl), (enF B.isSome N.length ds b).sl[i]? = some s → s = .no ∨ (∃ d v, s = .fz d ∧ (start N (argsOf B vs))[i]? = some (some v) ∧ RD K H (av ⟨K, fun a => O a ∧ B ≠ some a, false, cs⟩ fun a => B = some a) v d) ∨
      (s = .bx ∧ ∃ p, B = some p ∧ (start N (argsOf B vs))[i]? = some (some (.ref p))) := fun i s hi => by
    cases B with
    | none =>
      have hi : (ds.map Sl.fz ++ List.replicate (N.length - ds.length) Sl.no)[i]? = some s := hi
      rw [← ln] at hi
      rcases slots_at rd' hi with e | ⟨d, v, e1, e2, e3⟩
      · exact .inl e
      · exact .inr (.inl ⟨d, v, e1, e2, e3⟩)
    | some p =>
      cases i with
      | zero =>
        have hi : some Sl.bx = some s := hi
        cases hi
        exact .inr (.inr ⟨rfl, p, rfl, rfl⟩)
      | succ i =>
        have hi : (ds.map Sl.fz ++ List.replicate (N.length - (ds.length + 1)) Sl.no)[i]? = some s := hi
        rw [← ln] at hi
        rcases slots_at rd' hi with e | ⟨d, v, e1, e2, e3⟩
        · exact .inl e
        · exact .inr (.inl ⟨d, v, e1, e2, e3⟩)
  have noW : ∀ {i : Nat} {es : List D}, (enF B.isSome N.length ds b).sl[i]? ≠ some (Sl.ow es) := fun {i es} h => by
    rcases key i _ h with z | ⟨_, _, z, _⟩ | ⟨z, _⟩ <;> cases z
  refine ⟨?_, fun i s hi => ?_, fun i j p ds es _ h1 _ _ _ => noW h1, fun p hp => ⟨hp, (hb p hp).2⟩, fun p i ds _ h _ => noW h, fun a h => ⟨oh a h.1, h.2⟩, fun a h => oh a (hb a h).1⟩
  · cases B with
    | none =>
      have nd : vs.length ≤ N.length := nd
      show (vs.map some ++ List.replicate (N.length - vs.length) none).length = (ds.map Sl.fz ++ List.replicate (N.length - ds.length) Sl.no).length
      simp [ln]
    | some p =>
      have nd : vs.length + 1 ≤ N.length := nd
      show ((V.ref p :: vs).map some ++ List.replicate (N.length - (vs.length + 1)) none).length = (Sl.bx :: (ds.map Sl.fz ++ List.replicate (N.length - (ds.length + 1)) Sl.no)).length
      simp [ln]
  · rcases key i s hi with z | ⟨d, v, z, h1, h2⟩ | ⟨z, p, h1, h2⟩
    · subst z; trivial
    · subst z; exact ⟨v, h1, h2⟩
    · subst z; exact ⟨p, h1, h2⟩
section
variable {P : Program} {w : World} {K : Fg} {mg : Str → Option Value} {base : Heap} {k : Nat} {f : Addr} {fd : FuncData} {ps : List Str}
theorem kept_of {G : Gh} {en : En} {σ : L2.St} {H H' : Hp} {M' : AS} {B : Option Addr} (r : Rel G en σ H' M' B) (s : Step H (fun a => B = some a) H' M') : Kept H B en.bx H' := ⟨fun a o h n => s.keep a o h n, fun p hp => (r.box p hp).2⟩
theorem out_of {K : Fg} {cs : Str → Option (Value × Str)} {O : AS} {en : En} {σ : L2.St} {H' : Hp} {M' : AS} {B : Option Addr} (r : Rel ⟨K, fun a => O a ∧ B ≠ some a, false, cs⟩ en σ H' M' B) (a : Addr) (h : O a) : av ⟨K, fun a => O a ∧ B ≠ some a, false, cs⟩ M' a := by
  by_cases c : B = some a
  · exact .inl (r.box a c).1
  · exact .inr ⟨h, c⟩
theorem fn_data {cs : Str → Option (Value × Str)} {x qual : Str} {st : Stmt} {N : List Str} {bx : Bool} {n : Nat} {A : DSt} (F : Fun K x qual st f fd) (S : FnScope N ps (defScope st)) (hps : ps.length = n + if bx then 1 else 0)
    (body : ∀ (cdv : Value) (Ar : Around) (outer : List Env) (s : Shared) (H : Hp) (E : XK) (O : AS) (W : WX), Room k (Ar.deeper (envOfC qual (defScope st) s.heap.objs.size f cdv)) → Ar.guards = some [] →
      L2.Takes (cxOf (L2.CX P w) P w K mg base N qual (defScope st) f cdv Ar outer s H E) W → DSs (cxOf (L2.CX P w) P w K mg base N qual (defScope st) f cdv Ar outer s H E) ⟨K, O, false, cs⟩ W (defBody st) A) :
    FnG P w K mg base (k + 1) f fd ps (spF K cs bx n (runF bx N.length A)) := by
  have hlen : ∀ {B : Option Addr} {vs : List V} {ds : List D} {H : Hp} {O : AS}, B.isSome = bx → ds.length = n → RDs K H O vs ds → (argsOf B vs).length = ps.length := fun {B vs ds H O} h1 h2 h3 => by
    rw [hps, ← h2, ← h3.length, ← h1]
    cases B <;> rfl
  have hpl : ps.length ≤ N.length := by have := congrArg List.length S.pre; rw [List.length_take] at this; omega
  refine fnG_of F S (fun vs H Q E ⟨O, B, b, vs', ds, e, h1, h2, h3, _⟩ => by rw [e]; exact hlen h1 h2 h3) fun cdv Ar outer s H vs Q E hr hg ⟨O, B, b, vs', ds, e, h1, h2, h3, h4, h5, h6⟩ => ?_
  subst e h1
  refine ⟨_, (body cdv Ar outer s H E (fun a => O a ∧ B ≠ some a) (fun cls d _ H => E cls d H) hr hg (takes_of rfl rfl rfl rfl)).pss, _, _, B, rel_start (by rw [hlen rfl h2 h3]; exact hpl) h3 h4 h5, ?_⟩
  unfold runF at h6
  cases e : A (enF B.isSome N.length ds b) with
  | bad => rw [e] at h6; exact h6.elim
  | ex c d en =>
    rw [e] at h6
    intro cls dd σ' H' M' B' r st hB ⟨f', a, fs, v, x1, x2, x3, x4, x5, x6⟩
    cases hB rfl
    exact h6 cls dd H' (kept_of r st) ⟨f', a, fs, v, x1, x2, x3, fun z => x4 (out_of r a z), x5, x6.mono (fun _ _ h _ => h) fun a z => .inl (out_of r a z)⟩
  | ok o =>
    rw [e] at h6
    cases o with
    | bk en => exact h6.elim
    | ct en => exact h6.elim
    | nx en =>
      intro σ' H' M' B' r st hB
      cases hB rfl
      exact h6 .non H' (kept_of r st) .non
    | rn d en =>
      intro p ys σ' H' M' B' r st hB o
      cases hB rfl
      refine h6 p ys H' (kept_of r st) ?_ o.at_ o.len (o.rds.mono (fun _ _ h _ => h) fun a z => .inl (out_of r a z))
      exact (st.grow p o.own).elim (fun z => absurd z o.nb) id
    | rt d en =>
      intro v σ' H' M' B' r st hB rd
      cases hB rfl
      exact h6 v H' (kept_of r st) (rd.mono (fun _ _ h _ => h) fun a z => .inl (out_of r a z))
end
/-! ### calls -/
/-- the box was written -/
theorem Rel.boxed {G : Gh} {en : En} {σ : L2.St} {H H' : Hp} {M : AS} {p : Addr} {b : Int × Int} (r : Rel G en σ H M (some p)) (kp : Kept H (some p) b H') : Rel G { en with bx := b } σ H' M (some p) ∧ Step H M H' M := by
  obtain ⟨mp, hp⟩ := r.box p rfl
  have st : Step H M H' M := ⟨fun a o h n => kp.1 a o h fun z => n (by cases z; exact mp), fun a h => .inl h⟩
  refine ⟨⟨r.len, fun j s hj => ?_, r.inj, fun q hb => by cases hb; exact ⟨mp, kp.2 _ rfl⟩, r.bne, out_step r.out st, fun a h z => ?_⟩, st⟩
  · have q := r.slot j s hj
    cases s with
    | no => trivial
    | fz d => obtain ⟨v, q1, q2⟩ := q; exact ⟨v, q1, q2.step st⟩
    | sq ns => obtain ⟨v, q1, q2⟩ := q; exact ⟨v, q1, q2.step st⟩
    | ow es => obtain ⟨p', xs, q1, q2, q3, q4, q5⟩ := q; exact ⟨p', xs, q1, q2, kp.1 _ _ q3 (fun z => by cases z; exact r.bne _ j es rfl hj q1), q4, q5.step st⟩
    | bx => exact q
  · cases e : H a with
    | none => exact r.mh a h e
    | some o =>
      by_cases c : p = a
      · subst c; rw [kp.2 _ rfl] at z; cases z
      · rw [kp.1 a o e fun y => c (Option.some.inj y)] at z; cases z
theorem Rel.stay {G : Gh} {en : En} {σ : L2.St} {H H' : Hp} {M : AS} {B : Option Addr} {b : Int × Int} (r : Rel G en σ H M B) (kp : Kept H none b H') : Rel G en σ H' M B ∧ Step H M H' M :=
  have ex : Ext H H' := fun a o h => kp.1 a o h fun z => nomatch z
  ⟨r.ext ex, Step.ext ex⟩
def toRs (r : FR) (en : (Int × Int) → En) : Rs (D × En) := match r with
  | .ok d b => .ok (d, en b)
  | .nw ds b => .ok (.list ds, en b)
  | .ex c d b => .ex c d (en b)
  | .bad => .bad
/-- f(..) of a def that takes no box -/
def eCall (n : Nat) (F : FnS) (As : DAs) : DEn := fun en => As en >>= fun p => if p.1.length = n then toRs (F p.1 (0, 0)) (fun _ => p.2) else .bad
/-- f(box, ..) -/
def eCallB (n i : Nat) (F : FnS) (As : DAs) : DEn := fun en => match en.sl[i]? with
  | some .bx => As en >>= fun p => if p.1.length = n then toRs (F p.1 p.2.bx) (fun b => { p.2 with bx := b }) else .bad
  | _ => .bad
/-- every parameter named -/
def eCallK (n : Nat) (js : List Nat) (F : FnS) (As : DAs) : DEn := fun en => As en >>= fun p => if p.1.length = n ∧ js.length = n then toRs (F (put PyData.none js p.1) (0, 0)) (fun _ => p.2) else .bad
section
variable {X : Cx} {G : Gh} {W : WX} {k n : Nat} {f : Addr} {fd : FuncData} {ps ks : List Str} {F : FnS} {x : Str} {p p2 pos : Pos} {e : Expr} {es : List Expr} {kws : List Keyword} {As : DAs}
theorem call_tr {σ : L2.St} {H H1 : Hp} {M M1 : AS} {B : Option Addr} {en1 : En} {vs : List V} {ds : List D} {Q : VK} (rel : Rel G en1 σ H1 M1 B) (st : Step H M H1 M1) (rd : RDs G.K H1 (av G M1) vs ds) (hn : ds.length = n)
    (m : Post (fun p => ∀ v H' M', Rel G p.2 σ H' M' B → Step H M H' M' → RD G.K H' (av G M') v p.1 → Q v H') (EW G W σ H M B) (toRs (F ds (0, 0)) fun _ => en1)) : spF G.K G.cls false n F vs H1 Q (WE W σ) := by
  refine ⟨av G M1, none, (0, 0), vs, ds, rfl, rfl, hn, rd, rel.avh, (fun p hp => nomatch hp), ?_⟩
  cases e : F ds (0, 0) with
  | bad => rw [e] at m; exact m.elim
  | ok d b =>
    rw [e] at m
    intro v H' kp r
    obtain ⟨r2, s2⟩ := rel.stay kp
    exact m v H' M1 r2 (st.trans s2) r
  | nw zs b =>
    rw [e] at m
    intro q ys H' kp hq hat hl r
    obtain ⟨r2, s2⟩ := rel.stay kp
    exact m (.ref q) H' M1 r2 (st.trans s2) (.lst ⟨hat, fun z => rel.avh q z hq⟩ hl r)
  | ex c d b =>
    rw [e] at m
    intro cls dd H' kp x
    obtain ⟨r2, s2⟩ := rel.stay kp
    exact m cls dd H' M1 r2 (st.trans s2) x
theorem callB_tr {σ : L2.St} {H H1 : Hp} {M M1 : AS} {q : Addr} {en1 : En} {vs : List V} {ds : List D} {Q : VK} (rel : Rel G en1 σ H1 M1 (some q)) (st : Step H M H1 M1) (rd : RDs G.K H1 (av G M1) vs ds) (hn : ds.length = n)
    (m : Post (fun p => ∀ v H' M', Rel G p.2 σ H' M' (some q) → Step H M H' M' → RD G.K H' (av G M') v p.1 → Q v H') (EW G W σ H M (some q)) (toRs (F ds en1.bx) fun b => { en1 with bx := b })) : spF G.K G.cls true n F (.ref q :: vs) H1 Q (WE W σ) := by
  refine ⟨av G M1, some q, en1.bx, vs, ds, rfl, rfl, hn, rd, rel.avh, fun p hp => by cases hp; exact ⟨.inl (rel.box _ rfl).1, (rel.box _ rfl).2⟩, ?_⟩
  cases e : F ds en1.bx with
  | bad => rw [e] at m; exact m.elim
  | ok d b =>
    rw [e] at m
    intro v H' kp r
    obtain ⟨r2, s2⟩ := rel.boxed kp
    exact m v H' M1 r2 (st.trans s2) r
  | nw zs b =>
    rw [e] at m
    intro q ys H' kp hq hat hl r
    obtain ⟨r2, s2⟩ := rel.boxed kp
    exact m (.ref q) H' M1 r2 (st.trans s2) (.lst ⟨hat, fun z => rel.avh q z hq⟩ hl r)
  | ex c d b =>
    rw [e] at m
    intro cls dd H' kp x
    obtain ⟨r2, s2⟩ := rel.boxed kp
    exact m cls dd H' M1 r2 (st.trans s2) x
theorem de_call (Fn : FnG X.prog X.w X.K X.mg X.base k f fd ps (spF X.K G.cls false n F)) (hK : G.K = X.K) (tk : L2.Takes X W) (hr : Room k X.A) (hgu : X.A.guards = some []) (hm : X.mg x = some (.ref f)) (hk : PySem.W.keepIn X.K (.ref f) = true) (hb : Binds X.K fd ps []) (ha : DA X G W (e :: es) As)
    (hg : Gl X x := by rfl) (hdb : (x == ("__debug__" : Str)) = false := by decide) (he : starEach (e :: es) X.env = (false, eval e X.env) :: starEach es X.env := by rfl) (hpl : (backTo pos (starEach es X.env)).any (·.1) = false := by rfl) :
    DE X G W (.Call (.Name x p) (e :: es) [] pos) (eCall n F As) :=
  ⟨pe_imp (pe_callG Fn hr hgu hg hm hk hb (passAt tk) ha.pa hdb he hpl) fun σ H Q ⟨en, M, B, rel, m⟩ => ⟨en, M, B, rel, Post.imp (post_bind.mp m) (fun q mq vs H1 M1 rel1 st1 rd => by
    split at mq
    · rename_i hn
      show spF X.K G.cls false n F (vs ++ []) H1 Q (WE W σ)
      rw [List.append_nil, ← hK]
      exact call_tr rel1 st1 rd hn mq
    · exact mq.elim) fun _ _ _ h => h⟩⟩
theorem de_callX (i : Nat) {y : Str} (Fn : FnG X.prog X.w X.K X.mg X.base k f fd ps (spF X.K G.cls true n F)) (hK : G.K = X.K) (tk : L2.Takes X W) (hr : Room k X.A) (hgu : X.A.guards = some []) (hm : X.mg x = some (.ref f)) (hk : PySem.W.keepIn X.K (.ref f) = true) (hb : Binds X.K fd ps [])
    (hN : X.N[i]? = some y) (hv : Vis X.env.scope y) (ha : DA X G W es As)
    (hg : Gl X x := by rfl) (hdb : (x == ("__debug__" : Str)) = false := by decide) (hd : (y == ("__debug__" : Str)) = false := by decide) (hcd : (y == ("__classdict__" : Str)) = false := by decide)
    (hst : starEach (.Name y p2 :: es) X.env = (false, eval (.Name y p2) X.env) :: starEach es X.env := by rfl) (hpl : (backTo pos (starEach es X.env)).any (·.1) = false := by rfl) :
    DE X G W (.Call (.Name x p) (.Name y p2 :: es) [] pos) (eCallB n i F As) :=
  ⟨pe_imp (pe_callG Fn hr hgu hg hm hk hb (passAt tk) (pa_cons (pe_var hN hv hd hcd) ha.pa hst) hdb hst hpl) fun σ H Q ⟨en, M, B, rel, m⟩ => by
    unfold eCallB at m
    cases es : en.sl[i]? with
    | none => rw [es] at m; exact m.elim
    | some s =>
      rw [es] at m
      cases s with
      | no => exact m.elim
      | fz d => exact m.elim
      | ow ds => exact m.elim
      | sq ns => exact m.elim
      | bx =>
        obtain ⟨q, e1, e2⟩ := rel.slot i _ es
        subst e1
        refine ⟨.ref q, e2, en, M, some q, rel, Post.imp (post_bind.mp m) (fun z mz vs H1 M1 rel1 st1 rd => ?_) fun _ _ _ h => h⟩
        split at mz
        · rename_i hn
          show spF X.K G.cls true n F (.ref q :: (vs ++ [])) H1 Q (WE W σ)
          rw [List.append_nil, ← hK]
          exact callB_tr rel1 st1 rd hn mz
        · exact mz.elim⟩
theorem cons_tr {σ : L2.St} {H : Hp} {Q : List V → Hp → Prop} {A : DEn} (q : tA G W (aCons A As) σ H Q) : tCons (tE G W A) (tA G W As) σ H Q := by
  obtain ⟨en, M, Bx, rel, m⟩ := q
  exact ⟨en, M, Bx, rel, Post.imp (post_bind.mp m) (fun p mp v H1 M1 rel1 st1 rd1 =>
    ⟨p.2, M1, Bx, rel1, Post.imp (post_bind.mp mp) (fun q mq ws H2 M2 rel2 st2 rd2 => mq _ H2 M2 rel2 (st1.trans st2) (.cons (rd1.step st2) rd2)) fun _ _ _ h => h.step st1⟩) fun _ _ _ h => h⟩
structure DK (X : Cx) (G : Gh) (W : WX) (kws : List Keyword) (A : DAs) : Prop where pk : PK X kws (tA G W A)
theorem dk_nil : DK X G W [] aNil := ⟨⟨fun pos pins s σ H Q I ⟨en, M, B, r, m⟩ => pk_nil.run pos pins s σ H Q I (m [] H M r .refl .nil)⟩⟩
theorem dk_cons {A : DEn} {nm : Option Str} {kpos : Pos} (ha : DE X G W e A) (hr : DK X G W kws As) : DK X G W (⟨nm, e, kpos⟩ :: kws) (aCons A As) :=
  ⟨⟨fun pos pins s σ H Q I q => (pk_cons ha.pe hr.pk).run pos pins s σ H Q I (cons_tr q)⟩⟩
theorem de_callK (js : List Nat) (Fn : FnG X.prog X.w X.K X.mg X.base k f fd ps (spF X.K G.cls false n F)) (hK : G.K = X.K) (tk : L2.Takes X W) (hr : Room k X.A) (hgu : X.A.guards = some []) (hm : X.mg x = some (.ref f)) (hk : PySem.W.keepIn X.K (.ref f) = true) (hb : BindsK fd ps ks js) (ha : DK X G W kws As)
    (hn : ks.length = n) (hg : Gl X x := by rfl) (hall : (backToKw pos (keywordEach kws X.env)).all (·.1.isSome) = true := by rfl) (hks : (backToKw pos (keywordEach kws X.env)).filterMap (·.1) = ks := by rfl) (hdb : (x == ("__debug__" : Str)) = false := by decide)
    (hpl : ((backTo pos (starEach [] X.env)).any (·.1) || (backToKw pos (keywordEach kws X.env)).any (·.1.isNone)) = false := by rfl) :
    DE X G W (.Call (.Name x p) [] kws pos) (eCallK n js F As) :=
  ⟨pe_imp (pe_callGK js Fn hr hgu hg hm hk hb (passAt tk) ha.pk hall hks hdb hpl) fun σ H Q ⟨en, M, B, rel, m⟩ => ⟨en, M, B, rel, Post.imp (post_bind.mp m) (fun q mq vs H1 M1 rel1 st1 rd => by
    split at mq
    · rename_i hc
      refine ⟨by rw [rd.length, hn]; exact hc.1, ?_⟩
      rw [← hK]
      exact call_tr rel1 st1 (rds_put rd js) (by unfold put; rw [List.length_map]; exact hc.2) mq
    · exact mq.elim) fun _ _ _ h => h⟩⟩
end
end DL

namespace DL
open PySem L2 PySem.Spec PyProof.Rows
/-! ### a, b = x, y -/
inductive Its (G : Gh) (en : En) (σ : L2.St) (H : Hp) (M : AS) (B : Option Addr) : List V → List Sl → Prop
  | nil : Its G en σ H M B [] []
  | fr {v : V} {d : D} {vs : List V} {ss : List Sl} : RD G.K H (av G M) v d → Its G en σ H M B vs ss → Its G en σ H M B (v :: vs) (.fz d :: ss)
  | nw {p : Addr} {ys : List V} {zs : List D} {vs : List V} {ss : List Sl} : OwnV G en σ H M B p ys zs → (∀ (j : Nat) (es : List D), ss[j]? = some (Sl.ow es) → vs[j]? ≠ some (V.ref p)) → Its G en σ H M B vs ss → Its G en σ H M B (.ref p :: vs) (.ow zs :: ss)
inductive PIt where
  | fr (A : DEn)
  | nw (N : DNl)
def evP : List PIt → En → Rs (List Sl × En)
  | [], en => .ok ([], en)
  | .fr A :: r, en => A en >>= fun p => evP r p.2 >>= fun q => .ok (.fz p.1 :: q.1, q.2)
  | .nw A :: r, en => A en >>= fun p => evP r p.2 >>= fun q => .ok (.ow p.1 :: q.1, q.2)
def tP (G : Gh) (W : WX) (its : List PIt) : TA := fun σ H Q => ∃ en M B, Rel G en σ H M B ∧ Post (fun p => ∀ vs H' M', Rel G p.2 σ H' M' B → Step H M H' M' → Its G p.2 σ H' M' B vs p.1 → Q vs H') (EW G W σ H M B) (evP its en)
structure DP (X : Cx) (G : Gh) (W : WX) (es : List Expr) (its : List PIt) : Prop where pa : ∀ O, PA X es (tP (G.with O) W its)
theorem Its.length {G : Gh} {en : En} {σ : L2.St} {H : Hp} {M : AS} {B : Option Addr} : ∀ {vs : List V} {ss : List Sl}, Its G en σ H M B vs ss → vs.length = ss.length
  | _, _, .nil => rfl
  | _, _, .fr _ r => by rw [List.length_cons, List.length_cons, r.length]
  | _, _, .nw _ _ r => by rw [List.length_cons, List.length_cons, r.length]
section
variable {X : Cx} {G : Gh} {W : WX} {pos : Pos} {e : Expr} {es : List Expr} {A : DEn} {N : DNl} {its : List PIt}
theorem dp_nil : DP X G W [] [] := ⟨fun O => ⟨fun pos pins s σ H Q I ⟨en, M, B, r, m⟩ => pa_nil.run pos pins s σ H Q I (m [] H M r .refl .nil)⟩⟩
theorem dp_fr (h1 : ∀ O, DE X (G.with O) W e A) (h2 : DP X G W es its) (hs : starEach (e :: es) X.env = (false, eval e X.env) :: starEach es X.env := by rfl) : DP X G W (e :: es) (.fr A :: its) :=
  ⟨fun O => pa_imp (pa_cons (h1 O).pe (h2.pa O) hs) fun σ H Q ⟨en, M, B, rel, m⟩ => ⟨en, M, B, rel, Post.imp (post_bind.mp m) (fun p mp v H1 M1 rel1 st1 rd1 =>
    ⟨p.2, M1, B, rel1, Post.imp (post_bind.mp mp) (fun q mq ws H2 M2 rel2 st2 it => mq _ H2 M2 rel2 (st1.trans st2) (.fr (rd1.step st2) it)) fun _ _ _ h => h.step st1⟩) fun _ _ _ h => h⟩⟩
/-- a new list is shut off while the rest is worked out -/
theorem OwnV.shut {en : En} {σ : L2.St} {H : Hp} {M : AS} {B : Option Addr} {p : Addr} {ys : List V} {zs : List D} (o : OwnV G en σ H M B p ys zs) (r : Rel G en σ H M B) : Rel (G.with fun a => G.Out a ∨ a = p) en σ H (fun a => M a ∧ a ≠ p) B := by
  have av1 : ∀ a, av (G.with fun a => G.Out a ∨ a = p) (fun a => M a ∧ a ≠ p) a → av G M a ∨ H a = none := fun a h => by
    rcases h with h | h | h
    · exact .inl (.inl h.1)
    · exact .inl (.inr h)
    · exact .inl (.inl (by rw [h]; exact o.own))
  refine ⟨r.len, fun j s hj => ?_, r.inj, fun q hb => ⟨⟨(r.box q hb).1, fun z => o.nb (by rw [← z]; exact hb)⟩, (r.box q hb).2⟩, r.bne, fun a h => ?_, fun a h => r.mh a h.1⟩
  · have q := r.slot j s hj
    cases s with
    | no => trivial
    | fz d => obtain ⟨v, q1, q2⟩ := q; exact ⟨v, q1, q2.mono (fun _ _ h _ => h) av1⟩
    | sq ns => obtain ⟨v, q1, q2⟩ := q; exact ⟨v, q1, q2.mono (fun _ _ h _ => h) av1⟩
    | ow es =>
      obtain ⟨p', xs, q1, q2, q3, q4, q5⟩ := q
      refine ⟨p', xs, q1, ⟨q2, fun z => ?_⟩, q3, q4, q5.mono (fun _ _ h _ => h) av1⟩
      subst z
      exact o.ne j es hj q1
    | bx => exact q
  · rcases h with h | h
    · exact ⟨(r.out a h).1, fun z => (r.out a h).2 z.1⟩
    · subst h; exact ⟨r.mh _ o.own, fun z => z.2 rfl⟩
theorem Its.opened {en : En} {σ : L2.St} {H : Hp} {M : AS} {B : Option Addr} {p : Addr} (np : ¬ M p) : ∀ {vs : List V} {ss : List Sl}, Its (G.with fun a => G.Out a ∨ a = p) en σ H M B vs ss → Its G en σ H (fun a => M a ∨ a = p) B vs ss ∧ ∀ (j : Nat) (es : List D), ss[j]? = some (Sl.ow es) → vs[j]? ≠ some (V.ref p)
  | _, _, .nil => ⟨.nil, fun j es h => by cases h⟩
  | _, _, .fr rd r => ⟨.fr rd.opened (Its.opened np r).1, fun j es h => by
    cases j with
    | zero => cases h
    | succ j => exact (Its.opened np r).2 j es h⟩
  | _, _, .nw o d r => ⟨.nw ⟨.inl o.own, o.at_, o.len, o.rds.opened, o.ne, o.nb⟩ d (Its.opened np r).1, fun j es h => by
    cases j with
    | zero => intro z; cases z; exact np o.own
    | succ j => exact (Its.opened np r).2 j es h⟩
theorem dp_nw (h1 : ∀ O, DN X (G.with O) W e N) (h2 : DP X G W es its) (hs : starEach (e :: es) X.env = (false, eval e X.env) :: starEach es X.env := by rfl) : DP X G W (e :: es) (.nw N :: its) := by
  refine ⟨fun O => ⟨fun pos pins s σ H Q I ⟨en, M, B, rel, m⟩ => ?_⟩⟩
  refine (pa_cons (te := tN (G.with O) W N) (t := fun σ H Q => ∃ O', tP (G.with O') W its σ H Q) (h1 O).pn ⟨fun pos pins s σ H Q I ⟨O', q⟩ => (h2.pa O').run pos pins s σ H Q I q⟩ hs).run pos pins s σ H Q I ?_
  refine ⟨en, M, B, rel, Post.imp (post_bind.mp m) (fun p mp a ys H1 M1 rel1 st1 o => ?_) fun _ _ _ h => h⟩
  have npO : ¬ (G.with O).Out a := fun z => (rel1.out a z).2 o.own
  have sb : ∀ {H2 : Hp} {M2 : AS}, Step H1 (fun b => M1 b ∧ b ≠ a) H2 M2 → Step H1 M1 H2 (fun b => M2 b ∨ b = a) := fun s0 => ⟨fun b u h n => s0.keep b u h fun z => n z.1, fun b h => h.elim (fun z => (s0.grow b z).imp And.left id) fun z => .inl (by rw [z]; exact o.own)⟩
  refine ⟨fun b => (G.with O).Out b ∨ b = a, p.2, fun b => M1 b ∧ b ≠ a, B, o.shut rel1, Post.imp (post_bind.mp mp) (fun q mq ws H2 M2 rel2 st2 it => ?_) fun c d en2 h => ?_⟩
  · have np2 : ¬ M2 a := (rel2.out a (.inr rfl)).2
    have r3 := Rel.opened (G := G.with O) rel2 npO
    obtain ⟨i1, i2⟩ := Its.opened (G := G.with O) np2 it
    have hat : H2 a = some (.lst ys) := st2.keep a _ o.at_ fun z => z.2 rfl
    exact mq _ H2 _ r3 (st1.trans (sb st2)) (.nw ⟨.inr rfl, hat, o.len, o.rds.step (sb st2), fun i ds hi hs => by
      obtain ⟨p', xs, g1, g2, _⟩ := rel2.slot i _ hi
      rw [hs] at g1
      cases g1
      exact np2 g2, o.nb⟩ i2 i1)
  · intro cls dd H2 M2 rel2 st2 ⟨f, b, fs, v, x1, x2, x3, x4, x5, x6⟩
    exact h cls dd H2 _ (Rel.opened (G := G.with O) rel2 npO) (st1.trans (sb st2)) ⟨f, b, fs, v, x1, x2, x3, fun z => x4 ((av_open (G := G.with O) b).mpr z), x5, RD.opened (G := G.with O) x6⟩
def putAll : List Nat → List Sl → En → En
  | i :: is, s :: ss, en => putAll is ss (en.put i s)
  | _, _, en => en
def setAll : List Nat → List V → L2.St → L2.St
  | i :: is, v :: vs, σ => setAll is vs (σ.set i (some v))
  | _, _, σ => σ
theorem Its.stored {en : En} {σ : L2.St} {H : Hp} {M : AS} {B : Option Addr} {i : Nat} {s : Sl} {v : V} (hd : ∀ (es : List D), s ≠ Sl.ow es) : ∀ {vs : List V} {ss : List Sl}, Its G en σ H M B vs ss → Its G (en.put i s) (σ.set i (some v)) H M B vs ss
  | _, _, .nil => .nil
  | _, _, .fr rd r => .fr rd (Its.stored hd r)
  | _, _, .nw o d r => .nw ⟨o.own, o.at_, o.len, o.rds, fun j ds hj h1 => by
      by_cases c : j = i
      · subst c; exact hd _ (put_out hj).1.symm
      · rw [put_ne c] at hj
        rw [List.getElem?_set_ne (Ne.symm c)] at h1
        exact o.ne j ds hj h1, o.nb⟩ d (Its.stored hd r)
theorem Its.storedO {en : En} {σ : L2.St} {H : Hp} {M : AS} {B : Option Addr} {i : Nat} {s : Sl} {p : Addr} (hl : σ.length = en.sl.length) : ∀ {vs : List V} {ss : List Sl}, (∀ (j : Nat) (es : List D), ss[j]? = some (Sl.ow es) → vs[j]? ≠ some (V.ref p)) → Its G en σ H M B vs ss → Its G (en.put i s) (σ.set i (some (.ref p))) H M B vs ss
  | _, _, _, .nil => .nil
  | _, _, hd, .fr rd r => .fr rd (Its.storedO hl (fun j es h => hd (j + 1) es h) r)
  | _, _, hd, .nw o d r => .nw ⟨o.own, o.at_, o.len, o.rds, fun j ds hj h1 => by
      by_cases c : j = i
      · subst c
        rw [List.getElem?_set_self (by rw [hl]; exact (put_out hj).2)] at h1
        cases h1
        exact hd 0 _ rfl rfl
      · rw [put_ne c] at hj
        rw [List.getElem?_set_ne (Ne.symm c)] at h1
        exact o.ne j ds hj h1, o.nb⟩ d (Its.storedO hl (fun j es h => hd (j + 1) es h) r)
theorem its_store {H : Hp} {M : AS} {B : Option Addr} : ∀ {is : List Nat} {vs : List V} {ss : List Sl} {en : En} {σ : L2.St}, Rel G en σ H M B → Its G en σ H M B vs ss → Rel G (putAll is ss en) (setAll is vs σ) H M B
  | [], _, _, _, _, r, _ => r
  | _ :: _, _, _, _, _, r, .nil => r
  | i :: is, _, _, _, _, r, .fr rd q => its_store (is := is) (r.set rd) (q.stored fun _ z => by cases z)
  | i :: is, _, _, _, _, r, .nw o d q => its_store (is := is) (r.setOwn o) (q.storedO r.len d)
def sPar (is : List Nat) (its : List PIt) : DSt := fun en => evP its en >>= fun q => if q.1.length = is.length then .ok (.nx (putAll is q.1 q.2)) else .bad
theorem with_self (G : Gh) : G.with G.Out = G := rfl
theorem par_tr {its : List PIt} {is : List Nat} {σ : L2.St} {H : Hp} {Ds : Ends} (m : tS G W (sPar is its) Ds σ H) : tP G W its σ H fun vs H1 => vs.length = is.length ∧ Ds.nx (setAll is vs σ) H1 := by
  obtain ⟨en, M, B, rel, m⟩ := m
  refine ⟨en, M, B, rel, Post.imp (post_bind.mp m) (fun q mq vs H1 M1 rel1 st1 it => ?_) fun _ _ _ h => EWS.ew h σ⟩
  split at mq
  · rename_i hl
    exact ⟨it.length.trans hl, mq _ H1 M1 B (its_store rel1 it) st1 fun _ => rfl⟩
  · exact mq.elim
theorem tP_imp {σ : L2.St} {H : Hp} {Q Q' : List V → Hp → Prop} (i : ∀ vs H', Q vs H' → Q' vs H') (m : tP G W its σ H Q) : tP G W its σ H Q' := by
  obtain ⟨en, M, B, rel, m⟩ := m
  exact ⟨en, M, B, rel, Post.imp m (fun q mq vs H1 M1 r s it => i _ _ (mq vs H1 M1 r s it)) fun _ _ _ h => h⟩
theorem ds_par2 (i j : Nat) {x y : Str} {a b : Expr} {px py pt : Pos} {kt k2 pt2} (hc : X.calm = true) (hN : X.N.Nodup) (hi : X.N[i]? = some x) (hj : X.N[j]? = some y) (hij : i ≠ j) (hx : X.env.scope.names.lookup x = some .local) (hy : X.env.scope.names.lookup y = some .local)
    (h : DP X G W [a, b] its) (hw : swappedStores [.Tuple [.Name x px, .Name y py] kt pt] (.Tuple [a, b] k2 pt2) X.env = pure (some [x, y])) (hs : swapsWithSole [.Tuple [.Name x px, .Name y py] kt pt] (.Tuple [a, b] k2 pt2) pos.line X.env = pure false := by rfl) :
    DS X G W (.Assign [.Tuple [.Name x px, .Name y py] kt pt] (.Tuple [a, b] k2 pt2) pos) (sPar [i, j] its) :=
  ⟨ps_imp (ps_par hc hN hi hj hij hx hy (h.pa G.Out) hw hs) fun Ds σ H m => tP_imp (fun vs H1 ⟨hl, q⟩ => by
    match vs, hl with
    | [v, w], _ => exact ⟨v, w, rfl, q⟩) (par_tr m)⟩
theorem ds_par3 (i j l : Nat) {x y z : Str} {a b c : Expr} {px py pz pt : Pos} {kt k2 pt2} (hc : X.calm = true) (hN : X.N.Nodup) (hi : X.N[i]? = some x) (hj : X.N[j]? = some y) (hl : X.N[l]? = some z) (hij : i ≠ j) (hil : i ≠ l) (hjl : j ≠ l)
    (hx : X.env.scope.names.lookup x = some .local) (hy : X.env.scope.names.lookup y = some .local) (hz : X.env.scope.names.lookup z = some .local)
    (h : DP X G W [a, b, c] its) (hw : swappedStores [.Tuple [.Name x px, .Name y py, .Name z pz] kt pt] (.Tuple [a, b, c] k2 pt2) X.env = pure (some [x, y, z])) (hs : swapsWithSole [.Tuple [.Name x px, .Name y py, .Name z pz] kt pt] (.Tuple [a, b, c] k2 pt2) pos.line X.env = pure false := by rfl) :
    DS X G W (.Assign [.Tuple [.Name x px, .Name y py, .Name z pz] kt pt] (.Tuple [a, b, c] k2 pt2) pos) (sPar [i, j, l] its) :=
  ⟨ps_imp (ps_par3 hc hN hi hj hl hij hil hjl hx hy hz (h.pa G.Out) hw hs) fun Ds σ H m => tP_imp (fun vs H1 ⟨hl, q⟩ => by
    match vs, hl with
    | [u, v, w], _ => exact ⟨u, v, w, rfl, q⟩) (par_tr m)⟩
/-- the plain way: a tuple is made and taken apart -/
structure NG (X : Cx) (es : List Expr) (is : List Nat) : Prop where pgs : PGs X es fun vs σ H Q => vs.length = is.length ∧ Q (setAll is vs σ) H
theorem ng_nil : NG X [] [] := ⟨pgs_imp pgs_nil fun vs σ H Q ⟨hl, q⟩ => by
  match vs, hl with
  | [], _ => exact ⟨rfl, q⟩⟩
theorem ng_cons (i : Nat) {x : Str} {px : Pos} {is : List Nat} (hN : X.N.Nodup) (hi : X.N[i]? = some x) (hx : Loc X.env.scope x) (h : NG X es is) (hf : X.fn x = true ∨ X.env.scope.names.lookup x = some .local := by first | exact .inl rfl | exact .inr rfl | assumption)
    (hs : (assignEach (.Name x px :: es) X.env).map (·.2) = assign (.Name x px) X.env :: (assignEach es X.env).map (·.2) := by rfl) : NG X (.Name x px :: es) (i :: is) := ⟨pgs_imp (pgs_cons (pg_name hN hi hx hf) h.pgs hs) fun vs σ H Q ⟨hl, q⟩ => by
  match vs, hl with
  | v :: vs, hl => exact ⟨v, vs, rfl, Nat.succ.inj hl, q⟩⟩
theorem Its.ext {en : En} {σ : L2.St} {H H' : Hp} {M : AS} {B : Option Addr} (ex : Ext H H') : ∀ {vs : List V} {ss : List Sl}, Its G en σ H M B vs ss → Its G en σ H' M B vs ss
  | _, _, .nil => .nil
  | _, _, .fr rd r => .fr (rd.ext ex) (Its.ext ex r)
  | _, _, .nw o d r => .nw ⟨o.own, ex _ _ o.at_, o.len, o.rds.ext ex, o.ne, o.nb⟩ d (Its.ext ex r)
theorem ds_parT {ts : List Expr} {is : List Nat} {kt k2 : Nat} {pt pt2 : Pos} (hc : X.calm = true) (h : DP X G W es its) (g : NG X ts is) (hz : is.length ≤ 1000) (hn : (assignEach ts X.env).length = is.length := by rfl) (hst : (assignEach ts X.env).findIdx? (·.1) = none := by rfl)
    (hs : swapsWithSole [.Tuple ts kt pt] (.Tuple es k2 pt2) pos.line X.env = pure false := by rfl) (hw : swappedStores [.Tuple ts kt pt] (.Tuple es k2 pt2) X.env = pure none := by rfl) (h1 : (assignEach [.Tuple ts kt pt] X.env).map (·.2) = [assign (.Tuple ts kt pt) X.env] := by rfl) :
    DS X G W (.Assign [.Tuple ts kt pt] (.Tuple es k2 pt2) pos) (sPar is its) :=
  ⟨ps_imp (ps_asg (pe_tup (h.pa G.Out)) (pg_tup hc g.pgs hn hst) hs hw h1) fun Ds σ H ⟨en, M, B, rel, m⟩ => ⟨en, M, B, rel, Post.imp (post_bind.mp m) (fun q mq vs H1 M1 rel1 st1 it => by
    split at mq
    · rename_i hl
      refine ⟨by rw [it.length, hl]; exact Nat.le_trans hz (by decide), fun p hp => ⟨p, vs, rfl, .inl (.inl upd_same), it.length.trans hl, it.length.trans hl, ?_⟩⟩
      have ex : Ext H1 (upd H1 p (.tup vs)) := ext_new hp
      exact mq _ _ M1 B (its_store (rel1.ext ex) (it.ext ex)) (st1.trans (.ext ex)) fun _ => rfl
    · exact mq.elim) fun _ _ _ h => EWS.ew h σ⟩⟩
/-- a target and what it is given -/
def sUnp (g : DGt) (A : DEn) : DSt := fun en => A en >>= fun p => liftO (g p.1 p.2) >>= fun e => .ok (.nx e)
theorem ds_unp {tg : Expr} {ts : List Nat} {g : DGt} (h : DE X G W e A) (hg : DG X G tg ts g) (hs : swapsWithSole [tg] e pos.line X.env = pure false := by rfl) (hw : swappedStores [tg] e X.env = pure none := by rfl) (h1 : (assignEach [tg] X.env).map (·.2) = [assign tg X.env] := by rfl) :
    DS X G W (.Assign [tg] e pos) (sUnp g A) :=
  ⟨ps_imp (ps_asg h.pe hg.pg hs hw h1) fun Ds σ H ⟨en, M, B, rel, m⟩ => ⟨en, M, B, rel, Post.imp (post_bind.mp m) (fun q mq v H1 M1 rel1 st1 rd => by
    obtain ⟨e1, g1, mq⟩ := post_lift.mp mq
    exact ⟨q.1, q.2, M1, B, e1, rel1, rd, g1, fun σ2 H2 M2 rel2 st2 _ => mq σ2 H2 M2 B rel2 (st1.trans st2) fun _ => rfl⟩) fun _ _ _ h => EWS.ew h σ⟩⟩
end
end DL

namespace DL
open PySem L2 PySem.Spec PyProof.Rows
/-! ### the box -/
def bxGet (b : Int × Int) : Int → Option Int
  | 0 => some b.1
  | 1 => some b.2
  | _ => none
def bxSet (b : Int × Int) (v : Int) : Int → Option (Int × Int)
  | 0 => some (v, b.2)
  | 1 => some (b.1, v)
  | _ => none
/-- box[c] -/
def eBx (i : Nat) (c : Int) : DEn := fun en => match en.sl[i]? with
  | some .bx => liftO (bxGet en.bx c) >>= fun z => .ok (.int z, en)
  | _ => .bad
theorem bx_slot {α : Type} {P : α → Prop} {E : Str → D → En → Prop} {G : Gh} {en : En} {σ : L2.St} {H : Hp} {M : AS} {B : Option Addr} {i : Nat} {r : Rs α} (rel : Rel G en σ H M B) (m : Post P E (match en.sl[i]? with | some .bx => r | _ => .bad)) :
    ∃ p, B = some p ∧ σ[i]? = some (some (V.ref p)) ∧ M p ∧ H p = some (.lst [.int en.bx.1, .int en.bx.2]) ∧ Post P E r := by
  cases es : en.sl[i]? with
  | none => rw [es] at m; exact m.elim
  | some s =>
    rw [es] at m
    cases s with
    | bx => obtain ⟨p, h1, h2⟩ := rel.slot i _ es; exact ⟨p, h1, h2, (rel.box p h1).1, (rel.box p h1).2, m⟩
    | _ => exact m.elim
section
variable {X : Cx} {G : Gh} {W : WX} {pos p2 p3 p4 : Pos} {e : Expr} {es : List Expr} {A : DEn} {kk : Nat}
theorem de_bx (i : Nat) {c : Int} {y : Str} (hc : c = 0 ∨ c = 1) (hN : X.N[i]? = some y) (hv : Vis X.env.scope y) (hd : (y == ("__debug__" : Str)) = false := by decide) (hcd : (y == ("__classdict__" : Str)) = false := by decide) :
    DE X G W (.Subscript (.Name y p2) (.Constant (.int c) kk p3) pos) (eBx i c) :=
  ⟨pe_imp (pe_ix ix_seq (pe_var hN hv hd hcd) pe_int fun _ _ => rfl) fun σ H Q ⟨en, M, B, rel, m⟩ => by
    obtain ⟨p, h1, h2, h3, h4, m⟩ := bx_slot rel m
    obtain ⟨z, hz, m⟩ := post_lift.mp m
    rcases hc with rfl | rfl <;> cases hz
    · exact ⟨.ref p, h2, .inl ⟨p, _, _, _, rfl, rfl, .inl (.inl h4), rfl, m _ H M rel .refl (.int _)⟩⟩
    · exact ⟨.ref p, h2, .inl ⟨p, _, _, _, rfl, rfl, .inl (.inl h4), rfl, m _ H M rel .refl (.int _)⟩⟩⟩
/-- box[c] = e -/
def sBx (i : Nat) (c : Int) (A : DEn) : DSt := fun en => A en >>= fun p => match p.2.sl[i]? with
  | some .bx => liftO ((asI p.1).bind fun v => bxSet p.2.bx v c) >>= fun b => .ok (.nx { p.2 with bx := b })
  | _ => .bad
theorem ds_bx (i : Nat) {c : Int} {y : Str} (hc : c = 0 ∨ c = 1) (hN : X.N[i]? = some y) (hv : Vis X.env.scope y) (h : DE X G W e A) (hd : (y == ("__debug__" : Str)) = false := by decide) (hcd : (y == ("__classdict__" : Str)) = false := by decide)
    (ha : ∀ v, assign (.Subscript (.Name y p2) (.Constant (.int c) kk p3) p4) X.env v = (do
      let ov ← holding [v] (eval (.Name y p2) X.env)
      let iv ← holding [v, ov] (eval (.Constant (.int c) kk p3) X.env)
      standAt p4
      holding [v, ov, iv] (setItem ov iv v)
      release [v, ov, iv] []) := by intro _; rfl) (hs : swapsWithSole [.Subscript (.Name y p2) (.Constant (.int c) kk p3) p4] e pos.line X.env = pure false := by rfl) (hw : swappedStores [.Subscript (.Name y p2) (.Constant (.int c) kk p3) p4] e X.env = pure none := by rfl)
    (h1 : (assignEach [.Subscript (.Name y p2) (.Constant (.int c) kk p3) p4] X.env).map (·.2) = [assign (.Subscript (.Name y p2) (.Constant (.int c) kk p3) p4) X.env] := by rfl) :
    DS X G W (.Assign [.Subscript (.Name y p2) (.Constant (.int c) kk p3) p4] e pos) (sBx i c A) := by
  refine ⟨ps_imp (ps_asg h.pe (pg_sub (pe_var hN hv hd hcd) pe_int set_list ha) hs hw h1) fun Ds σ H ⟨en, M, Bx, rel, m⟩ => ⟨en, M, Bx, rel, Post.imp (post_bind.mp m) (fun p mp v H1 M1 rel1 st1 rd1 => ?_) fun _ _ _ h => h.ew σ⟩⟩
  obtain ⟨q, e1, e2, e3, e4, mp⟩ := bx_slot rel1 mp
  subst e1
  obtain ⟨b, hb, mp⟩ := post_lift.mp mp
  have key : ∀ (b : Int × Int), Post (OutOk G Ds H M (some q)) (EWS G W H M (some q)) (.ok (.nx { p.2 with bx := b })) → Ds.nx σ (upd H1 q (.lst [.int b.1, .int b.2])) := fun b mp => by
    have kp : Kept H1 (some q) b (upd H1 q (.lst [.int b.1, .int b.2])) := ⟨fun a o h n => by rw [upd_ne fun z => n (by rw [z])]; exact h, fun p hp => by cases hp; exact upd_same⟩
    obtain ⟨r2, s2⟩ := rel1.boxed kp
    exact mp σ _ M1 (some q) r2 (st1.trans s2) fun _ => rfl
  obtain ⟨d, en1⟩ := p
  cases rd1 with
  | int z =>
    rcases hc with rfl | rfl <;> cases hb
    · exact ⟨.ref q, e2, q, _, _, 0, rfl, rfl, e4, rfl, key _ mp⟩
    · exact ⟨.ref q, e2, q, _, _, 1, rfl, rfl, e4, rfl, key _ mp⟩
  | _ => cases hb
/-! ### the script -/
def eSqLen (i : Nat) : DEn := fun en => match en.sl[i]? with
  | some (.sq ns) => .ok (.int ns.length, en)
  | _ => .bad
def eSqIx (i : Nat) (A : DEn) : DEn := fun en => match en.sl[i]? with
  | some (.sq ns) => A en >>= fun p => liftO ((asI p.1).bind fun k => L2.atI ns k) >>= fun z => .ok (.int z, p.2)
  | _ => .bad
theorem sq_slot {α : Type} {P : α → Prop} {E : Str → D → En → Prop} {G : Gh} {en : En} {σ : L2.St} {H : Hp} {M : AS} {B : Option Addr} {i : Nat} {r : List Int → Rs α} (rel : Rel G en σ H M B) (m : Post P E (match en.sl[i]? with | some (.sq ns) => r ns | _ => .bad)) :
    ∃ a ns, en.sl[i]? = some (.sq ns) ∧ σ[i]? = some (some (V.ref a)) ∧ SqOk G.K H (av G M) a ns ∧ Post P E (r ns) := by
  cases es : en.sl[i]? with
  | none => rw [es] at m; exact m.elim
  | some s =>
    rw [es] at m
    cases s with
    | sq ns => obtain ⟨a, h1, h2⟩ := rel.slot i _ es; exact ⟨a, ns, rfl, h1, h2, m⟩
    | _ => exact m.elim
theorem de_sqLen (i : Nat) {x y : Str} {p : Pos} (hK : G.K = X.K) (hN : X.N[i]? = some y) (hv : Vis X.env.scope y) (hg : Gl X x) (hm : X.mg x = none) (hb : bootBuiltins x = some (.builtin "len")) (hd : (y == ("__debug__" : Str)) = false := by decide) (hcd : (y == ("__classdict__" : Str)) = false := by decide)
    (hn : x ≠ "__name__" := by decide) (hdb : (x == ("__debug__" : Str)) = false := by decide) (he : starEach [.Name y p2] X.env = (false, eval (.Name y p2) X.env) :: starEach [] X.env := by rfl) (hpl : (backTo pos (starEach [] X.env)).any (·.1) = false := by rfl) :
    DE X G W (.Call (.Name x p) [.Name y p2] [] pos) (eSqLen i) :=
  ⟨pe_imp (pe_callB call_len_seq hg hm hb (pa_cons (pe_var hN hv hd hcd) pa_nil he) hn hdb he hpl) fun σ H Q ⟨en, M, B, rel, m⟩ => by
    obtain ⟨a, ns, h0, h1, h2, m⟩ := sq_slot (r := fun ns => Rs.ok (PyData.int ns.length, en)) rel m
    refine ⟨.ref a, h1, a, _, rfl, .inl (by rw [← hK]; exact h2.sq), ?_⟩
    rw [List.length_map]
    exact m _ H M rel .refl (.int _)⟩
theorem atI_map {ns : List Int} {i z : Int} (h : L2.atI ns i = some z) : L2.atI (ns.map V.int) i = some (.int z) := by
  unfold L2.atI at h ⊢
  rw [List.length_map]
  cases e : ixN ns.length i with
  | none => rw [e] at h; cases h
  | some j =>
    rw [e] at h
    have h : ns[j]? = some z := h
    show (ns.map V.int)[j]? = _
    rw [List.getElem?_map, h]
    rfl
theorem de_sqIx (i : Nat) {y : Str} {ix : Expr} (hK : G.K = X.K) (hN : X.N[i]? = some y) (hv : Vis X.env.scope y) (h : DE X G W ix A) (hs : PlainIx ix) (hd : (y == ("__debug__" : Str)) = false := by decide) (hcd : (y == ("__classdict__" : Str)) = false := by decide) :
    DE X G W (.Subscript (.Name y p2) ix pos) (eSqIx i A) :=
  ⟨pe_imp (pe_ix (r := rIx G.K) (by rw [hK]; exact ix_seq) (pe_var hN hv hd hcd) h.pe hs) fun σ H Q ⟨en, M, B, rel, m⟩ => by
    obtain ⟨a, ns, h0, h1, h2, m⟩ := sq_slot (r := fun ns => A en >>= fun p => liftO ((asI p.1).bind fun k => L2.atI ns k) >>= fun z => Rs.ok (PyData.int z, p.2)) rel m
    refine ⟨.ref a, h1, en, M, B, rel, Post.imp (post_bind.mp m) (fun p mp v H1 M1 rel1 st1 rd => ?_) fun _ _ _ h => h⟩
    obtain ⟨z, hz, mp⟩ := post_lift.mp mp
    obtain ⟨d, en1⟩ := p
    cases rd with
    | int k => exact .inl ⟨a, _, k, _, rfl, rfl, (h2.step st1).sq, atI_map hz, mp _ H1 M1 rel1 st1 (.int _)⟩
    | _ => cases hz⟩
/-! ### a new box -/
def isBx : Sl → Bool
  | .bx => true
  | _ => false
def boxF (A : DSt) (m : Nat) (ns : List Int) (k : Int) : Int × Int := match A ⟨.sq ns :: .fz (.int k) :: List.replicate m .no, (0, 0)⟩ with
  | .ok (.rn [.int g, .int s] _) => (g, s)
  | _ => (0, 0)
def spBx (K : Fg) (F : List Int → Int → Int × Int) : Sp := fun us H Q _ => ∃ (a : Addr) (ns : List Int) (k : Int) (O : AS), us = [.ref a, .int k] ∧ 0 ≤ k ∧ SqOk K H O a ns ∧ (∀ a, O a → H a ≠ none) ∧
  ∀ p H', Ext H H' → H p = none → H' p = some (.lst [.int (F ns k).1, .int (F ns k).2]) → Q (.ref p) H'
theorem rel_box {K : Fg} {cs : Str → Option (Value × Str)} {H : Hp} {O : AS} {a : Addr} {ns : List Int} {k : Int} {m : Nat} (sq : SqOk K H O a ns) (oh : ∀ a, O a → H a ≠ none) :
    Rel ⟨K, O, false, cs⟩ ⟨.sq ns :: .fz (.int k) :: List.replicate m .no, (0, 0)⟩ (some (.ref a) :: some (.int k) :: List.replicate m none) H (fun _ => False) none := by
  have key : ∀ (j : Nat) (s : Sl), (Sl.sq ns :: Sl.fz (.int k) :: List.replicate m Sl.no)[j]? = some s → (j = 0 ∧ s = .sq ns) ∨ (j = 1 ∧ s = .fz (.int k)) ∨ s = .no := fun j s h => by
    match j, h with
    | 0, h => cases h; exact .inl ⟨rfl, rfl⟩
    | 1, h => cases h; exact .inr (.inl ⟨rfl, rfl⟩)
    | j + 2, h =>
      have h : (List.replicate m Sl.no)[j]? = some s := h
      rw [List.getElem?_replicate] at h
      split at h
      · exact .inr (.inr (Option.some.inj h).symm)
      · cases h
  have now : ∀ {j : Nat} {ds : List D}, (Sl.sq ns :: Sl.fz (.int k) :: List.replicate m Sl.no)[j]? ≠ some (Sl.ow ds) := fun {j ds} h => by
    rcases key j _ h with ⟨_, z⟩ | ⟨_, z⟩ | z <;> cases z
  refine ⟨by simp, fun j s h => ?_, fun i j p ds es _ h _ _ _ => now h, (fun p h => nomatch h), (fun p i ds h => nomatch h), fun a h => ⟨oh a h, fun z => z⟩, fun a h => h.elim⟩
  rcases key j s h with ⟨e, z⟩ | ⟨e, z⟩ | z
  · subst e z; exact ⟨a, rfl, sq.mono (fun _ _ h _ => h) fun a h => .inl (Or.elim h (fun z => False.elim z) id)⟩
  · subst e z; exact ⟨_, rfl, .int _⟩
  · subst z; trivial
end
section
variable {P : Program} {w : World} {K : Fg} {mg : Str → Option Value} {base : Heap} {k : Nat} {f : Addr} {fd : FuncData} {x1 x2 : Str}
theorem fn_box {x qual : Str} {st : Stmt} {N : List Str} {m : Nat} {A : DSt} (cs : Str → Option (Value × Str)) (F : Fun K x qual st f fd) (S : FnScope N [x1, x2] (defScope st)) (hm : N.length = m + 2)
    (tot : ∀ (ns : List Int) (k : Int), 0 ≤ k → ∃ g s en, A ⟨.sq ns :: .fz (.int k) :: List.replicate m .no, (0, 0)⟩ = .ok (.rn [.int g, .int s] en))
    (body : ∀ (cdv : Value) (Ar : Around) (outer : List Env) (s : Shared) (H : Hp) (E : XK) (O : AS) (W : WX), Room k (Ar.deeper (envOfC qual (defScope st) s.heap.objs.size f cdv)) → Ar.guards = some [] →
      L2.Takes (cxOf (L2.CX P w) P w K mg base N qual (defScope st) f cdv Ar outer s H E) W → DSs (cxOf (L2.CX P w) P w K mg base N qual (defScope st) f cdv Ar outer s H E) ⟨K, O, false, cs⟩ W (defBody st) A) :
    FnG P w K mg base (k + 1) f fd [x1, x2] (spBx K (boxF A m)) := by
  refine fnG_of F S (fun vs H Q E ⟨a, ns, k, O, e, _⟩ => by rw [e]; rfl) fun cdv Ar outer s H vs Q E hr hg ⟨a, ns, k, O, e, h0, h1, h2, h3⟩ => ?_
  subst e
  obtain ⟨g, z, en, e⟩ := tot ns k h0
  have eb : boxF A m ns k = (g, z) := by unfold boxF; rw [e]
  rw [eb] at h3
  have es : L2.start N [V.ref a, V.int k] = some (.ref a) :: some (.int k) :: List.replicate m none := by
    unfold L2.start
    rw [hm]
    rfl
  rw [es]
  refine ⟨_, (body cdv Ar outer s H E O (fun cls d _ H => E cls d H) hr hg (takes_of rfl rfl rfl rfl)).pss, _, _, none, rel_box h1 h2, ?_⟩
  rw [e]
  intro p ys σ' H' M' B' r st hB o
  have rds := o.rds
  cases rds with
  | cons r1 q1 => cases q1 with
    | cons r2 q2 => cases q2 with
      | nil =>
        cases r1
        cases r2
        exact h3 p H' (fun b o h => st.keep b o h fun z => z) ((st.grow p o.own).elim False.elim id) o.at_
end
section
variable {X : Cx} {G : Gh} {W : WX} {pos p p1 p2 p3 : Pos} {A : DEn} {ek : Expr} {k : Nat} {f : Addr} {fd : FuncData} {ps : List Str} {F : List Int → Int → Int × Int}
theorem Rel.newBox {en : En} {σ : L2.St} {H H' : Hp} {M : AS} {B : Option Addr} {i : Nat} {p : Addr} {b : Int × Int} (r : Rel G en σ H M B) (ex : Ext H H') (hp : H p = none) (hat : H' p = some (.lst [.int b.1, .int b.2])) (nb : (en.sl.set i .no).all (fun s => !isBx s) = true) :
    Rel G { en.put i .bx with bx := b } (σ.set i (some (.ref p))) H' (fun a => M a ∨ a = p) (some p) := by
  have st : Step H M H' (fun a => M a ∨ a = p) := ⟨fun a o h _ => ex a o h, fun a h => h.imp id fun z => by rw [z]; exact hp⟩
  have nobx : ∀ {j : Nat}, j ≠ i → en.sl[j]? ≠ some Sl.bx := fun {j} c h => by
    have m : Sl.bx ∈ en.sl.set i .no := List.mem_of_getElem? (i := j) (by rw [List.getElem?_set_ne (Ne.symm c)]; exact h)
    exact absurd (List.all_eq_true.mp nb _ m) (by decide)
  have ow : ∀ {j : Nat} {ds : List D}, (en.put i .bx).sl[j]? = some (Sl.ow ds) → j ≠ i ∧ en.sl[j]? = some (Sl.ow ds) := fun {j ds} h => by
    by_cases c : j = i
    · subst c; cases (put_out h).1
    · rw [put_ne c] at h; exact ⟨c, h⟩
  refine ⟨by rw [List.length_set, r.len]; simp [En.put], fun j s hj => ?_, fun j l q ds es hne hj hl h1 h2 => ?_, fun q hq => by cases hq; exact ⟨.inr rfl, hat⟩, fun q j ds hq hj h1 => ?_, out_step r.out st, fun a h => ?_⟩
  · have hj : (en.put i .bx).sl[j]? = some s := hj
    by_cases c : j = i
    · subst c
      obtain ⟨e1, e2⟩ := put_out hj
      subst e1
      exact ⟨p, rfl, by rw [List.getElem?_set_self (by rw [r.len]; exact e2)]⟩
    · rw [put_ne c] at hj
      have q := r.slot j s hj
      have se : (σ.set i (some (.ref p)))[j]? = σ[j]? := List.getElem?_set_ne (Ne.symm c)
      cases s with
      | no => trivial
      | fz d => obtain ⟨v, q1, q2⟩ := q; exact ⟨v, by rw [se]; exact q1, q2.step st⟩
      | sq ns => obtain ⟨v, q1, q2⟩ := q; exact ⟨v, by rw [se]; exact q1, q2.step st⟩
      | ow es => obtain ⟨p', xs, q1, q2, q3, q4, q5⟩ := q; exact ⟨p', xs, by rw [se]; exact q1, .inl q2, ex _ _ q3, q4, q5.step st⟩
      | bx => exact absurd hj (nobx c)
  · obtain ⟨c1, a1⟩ := ow hj
    obtain ⟨c2, a2⟩ := ow hl
    rw [List.getElem?_set_ne (Ne.symm c1)] at h1
    rw [List.getElem?_set_ne (Ne.symm c2)] at h2
    exact r.inj j l q ds es hne a1 a2 h1 h2
  · cases hq
    obtain ⟨c1, a1⟩ := ow hj
    rw [List.getElem?_set_ne (Ne.symm c1)] at h1
    obtain ⟨p', xs, q1, q2, q3, _⟩ := r.slot j _ a1
    rw [h1] at q1
    cases q1
    rw [hp] at q3
    cases q3
  · rcases h with h | h
    · cases e : H a with
      | none => exact absurd e (r.mh a h)
      | some o => rw [ex a o e]; exact fun z => nomatch z
    · rw [h, hat]; exact fun z => nomatch z
/-- box = _law_box(script, k) -/
def boxK (i : Nat) (F : List Int → Int → Int × Int) (ns : List Int) (p : D × En) : Rs Out := match asI p.1 with
  | some k => if 0 ≤ k ∧ (p.2.sl.set i .no).all (fun s => !isBx s) = true then .ok (.nx { p.2.put i .bx with bx := F ns k }) else .bad
  | _ => .bad
def sBox (i s : Nat) (F : List Int → Int → Int × Int) (A : DEn) : DSt := fun en => match en.sl[s]? with
  | some (.sq ns) => A en >>= fun p => boxK i F ns p
  | _ => .bad
theorem ds_box (i s : Nat) {x y z : Str} (ht : G.top = true) (Fn : FnG X.prog X.w X.K X.mg X.base k f fd ps (spBx X.K F)) (hK : G.K = X.K) (tk : L2.Takes X W) (hr : Room k X.A) (hgu : X.A.guards = some []) (hm : X.mg x = some (.ref f)) (hk : PySem.W.keepIn X.K (.ref f) = true) (hb : Binds X.K fd ps [])
    (nd : X.N.Nodup) (hN : X.N[s]? = some y) (hv : Vis X.env.scope y) (hi : X.N[i]? = some z) (hz : Loc X.env.scope z) (ha : DE X G W ek A)
    (hg : Gl X x := by rfl) (hdb : (x == ("__debug__" : Str)) = false := by decide) (hd : (y == ("__debug__" : Str)) = false := by decide) (hcd : (y == ("__classdict__" : Str)) = false := by decide)
    (hst2 : starEach [ek] X.env = (false, eval ek X.env) :: starEach [] X.env := by rfl) (hst : starEach [.Name y p2, ek] X.env = (false, eval (.Name y p2) X.env) :: starEach [ek] X.env := by rfl) (hpl : (backTo p3 (starEach [ek] X.env)).any (·.1) = false := by rfl)
    (hs : swapsWith (.Call (.Name x p) [.Name y p2, ek] [] p3) (some (.Name z p1)) pos.line X.env = pure false := by rfl) (hf : X.fn z = true ∨ X.env.scope.names.lookup z = some .local := by first | exact .inl rfl | exact .inr rfl | assumption) :
    DS X G W (.Assign [.Name z p1] (.Call (.Name x p) [.Name y p2, ek] [] p3) pos) (sBox i s F A) :=
  ⟨ps_imp (ps_set nd hi hz (pe_callG Fn hr hgu hg hm hk hb (passAt tk) (pa_cons (pe_var hN hv hd hcd) (pa_cons ha.pe pa_nil hst2) hst) hdb hst hpl) hs hf) fun Ds σ H ⟨en, M, B, rel, m⟩ => by
    obtain ⟨a, ns, h0, h1, h2, m⟩ := sq_slot (r := fun ns => A en >>= fun p => boxK i F ns p) rel m
    refine ⟨.ref a, h1, en, M, B, rel, Post.imp (post_bind.mp m) (fun q mq v H1 M1 rel1 st1 rd => ?_) fun _ _ _ h => h.ew σ⟩
    obtain ⟨d, en1⟩ := q
    cases rd with
    | int j =>
      have mq : Post _ _ (if 0 ≤ j ∧ (en1.sl.set i .no).all (fun s => !isBx s) = true then Rs.ok (Out.nx { en1.put i .bx with bx := F ns j }) else .bad) := mq
      split at mq
      · rename_i nb
        show spBx X.K F ([V.ref a, V.int j] ++ []) H1 (fun x H1 => gName i x σ H1 Ds.nx) (WE W σ)
        refine ⟨a, ns, j, av G M1, rfl, nb.1, by rw [← hK]; exact h2.step st1, rel1.avh, fun p H' ex hp hat => ?_⟩
        have st2 : Step H1 M1 H' (fun b => M1 b ∨ b = p) := ⟨fun a o h _ => ex a o h, fun a h => h.imp id fun z => by rw [z]; exact hp⟩
        exact mq _ H' _ (some p) (rel1.newBox ex hp hat nb.2) (st1.trans st2) fun t => by rw [ht] at t; cases t
      · exact mq.elim
    | _ => exact mq.elim⟩
end
end DL

namespace DL
open PySem L2 PySem.Spec PyProof.Rows
/-- what a body knows of its place -/
structure Cn (X : Cx) (G : Gh) (W : WX) (k : Nat) : Prop where
  K : G.K = X.K
  rm : Room k X.A
  gu : X.A.guards = some []
  tk : L2.Takes X W
  calm : X.calm = true
  nd : X.N.Nodup
theorem Cn.u {X : Cx} {G : Gh} {W : WX} {k : Nat} (c : Cn X G W k) : X.A.units + 64 < cLine := c.rm.units
theorem Cn.wo {X : Cx} {G : Gh} {W : WX} {k : Nat} (c : Cn X G W k) (O : AS) : Cn X (G.with O) W k := ⟨c.K, c.rm, c.gu, c.tk, c.calm, c.nd⟩
theorem Cn.blk {X : Cx} {G : Gh} {W : WX} {k : Nat} (c : Cn X G W k) (O : AS) (s : Shared) (H : Hp) (scope : Scope) (env : Env) (fp : List Addr) : Cn (X.blk s H scope env fp) (G.with O) W0 k := ⟨c.K, c.rm, c.gu, takes0, c.calm, c.nd⟩
/-- a def that may be called -/
structure Callee (P : Program) (w : World) (K : Fg) (mg : Str → Option Value) (base : Heap) (k : Nat) (x : Str) (ps : List Str) (sp : Sp) : Prop where
  ex : ∃ (f : Addr) (fd : FuncData), mg x = some (.ref f) ∧ PySem.W.keepIn K (.ref f) = true ∧ Binds K fd ps [] ∧ FnG P w K mg base k f fd ps sp
theorem _root_.L2.Fun.bindsK {K : Fg} {x qual : Str} {st : Stmt} {f : Addr} {fd : FuncData} {ps ks : List Str} {js : List Nat} (F : Fun K x qual st f fd)
    (h : ∀ (kV doc pm : Value) (an : Option Addr) (cdv ct : Value) (ws : List Value), ws.length = ks.length → bindArgs (PySem.W.fnOf x qual (defArgs st) (defBody st) (defScope st) .none kV doc pm an cdv ct) ⟨[], ks.zip ws⟩ = pure (ps.zip (put Value.none js ws))) : BindsK fd ps ks js := by
  obtain ⟨oc, od, kV, doc, pm, an, cdv, ct, osl, e, lk, hcd⟩ := F.ex
  subst e
  exact fun ws hl => h kV doc pm an cdv ct ws hl
structure CalleeK (P : Program) (w : World) (K : Fg) (mg : Str → Option Value) (base : Heap) (k : Nat) (x : Str) (ps ks : List Str) (js : List Nat) (sp : Sp) : Prop where
  ex : ∃ (f : Addr) (fd : FuncData), mg x = some (.ref f) ∧ PySem.W.keepIn K (.ref f) = true ∧ BindsK fd ps ks js ∧ FnG P w K mg base k f fd ps sp
section
variable {X : Cx} {G : Gh} {W : WX} {k : Nat} {pos : Pos} {a b e : Expr} {es : List Expr} {A B : DEn} {As : DAs} {N : DNl}
theorem v_add (c : Cn X G W k) (ha : DE X G W a A) (hb : DE X G W b B) : DE X G W (.BinOp a .Add b pos) (eBin dAdd A B) := de_op (r := rAddA G.K) (by rw [c.K]; exact op_addA) ops_add ha hb
theorem v_sub (c : Cn X G W k) (ha : DE X G W a A) (hb : DE X G W b B) : DE X G W (.BinOp a .Sub b pos) (eBin dSub A B) := de_op op_subA ops_sub ha hb
theorem v_mul (c : Cn X G W k) (ha : DE X G W a A) (hb : DE X G W b B) : DE X G W (.BinOp a .Mult b pos) (eBin dMul A B) := de_op (r := rMulA G.K) (by rw [c.K]; exact op_mulA) ops_mul ha hb
theorem v_mod (c : Cn X G W k) (ha : DE X G W a A) (hb : DE X G W b B) : DE X G W (.BinOp a .Mod b pos) (eBin dMod A B) := de_op op_mod ops_mod ha hb
theorem v_div (c : Cn X G W k) (ha : DE X G W a A) (hb : DE X G W b B) : DE X G W (.BinOp a .FloorDiv b pos) (eBin dDiv A B) := de_op op_fdivW ops_div ha hb
theorem v_pow (c : Cn X G W k) (ha : DE X G W a A) (hb : DE X G W b B) : DE X G W (.BinOp a .Pow b pos) (eBin dPow A B) := de_op op_pow ops_pow ha hb
theorem v_eq (c : Cn X G W k) (ha : DE X G W a A) (hb : DE X G W b B) (hm : behindInMarks .Eq b = false := by rfl) : DE X G W (.Compare a [.Eq] [b] pos) (eBin dEq A B) := de_cmp (r := rEqA G.K) (by rw [c.K]; exact op_eqA c.u) ops_eq ha hb hm
theorem w_eq (c : Cn X G W k) (ha : DE X G W a A) (hb : DE X G W b B) (hm : behindInMarks .Eq b = false := by rfl) : DT X G W (.Compare a [.Eq] [b] pos) (tV (eBin dEq A B)) := dt_cmp (r := rEqA G.K) (by rw [c.K]; exact op_eqA c.u) ops_eq ha hb hm
theorem v_ne (c : Cn X G W k) (ha : DE X G W a A) (hb : DE X G W b B) (hm : behindInMarks .NotEq b = false := by rfl) : DE X G W (.Compare a [.NotEq] [b] pos) (eBin dNe A B) := de_cmp (r := rNeA G.K) (by rw [c.K]; exact op_neA c.u) ops_ne ha hb hm
theorem w_ne (c : Cn X G W k) (ha : DE X G W a A) (hb : DE X G W b B) (hm : behindInMarks .NotEq b = false := by rfl) : DT X G W (.Compare a [.NotEq] [b] pos) (tV (eBin dNe A B)) := dt_cmp (r := rNeA G.K) (by rw [c.K]; exact op_neA c.u) ops_ne ha hb hm
theorem v_lt (c : Cn X G W k) (ha : DE X G W a A) (hb : DE X G W b B) (hm : behindInMarks .Lt b = false := by rfl) : DE X G W (.Compare a [.Lt] [b] pos) (eBin dLt A B) := de_cmp (r := rOrd G.K fun d e => PySem.W.dataLt d e) (by rw [c.K]; exact op_ltO c.u) ops_lt ha hb hm
theorem w_lt (c : Cn X G W k) (ha : DE X G W a A) (hb : DE X G W b B) (hm : behindInMarks .Lt b = false := by rfl) : DT X G W (.Compare a [.Lt] [b] pos) (tV (eBin dLt A B)) := dt_cmp (r := rOrd G.K fun d e => PySem.W.dataLt d e) (by rw [c.K]; exact op_ltO c.u) ops_lt ha hb hm
theorem v_gt (c : Cn X G W k) (ha : DE X G W a A) (hb : DE X G W b B) (hm : behindInMarks .Gt b = false := by rfl) : DE X G W (.Compare a [.Gt] [b] pos) (eBin dGt A B) := de_cmp (r := rOrd G.K fun d e => PySem.W.dataLt e d) (by rw [c.K]; exact op_gtO c.u) ops_gt ha hb hm
theorem w_gt (c : Cn X G W k) (ha : DE X G W a A) (hb : DE X G W b B) (hm : behindInMarks .Gt b = false := by rfl) : DT X G W (.Compare a [.Gt] [b] pos) (tV (eBin dGt A B)) := dt_cmp (r := rOrd G.K fun d e => PySem.W.dataLt e d) (by rw [c.K]; exact op_gtO c.u) ops_gt ha hb hm
theorem v_le (c : Cn X G W k) (ha : DE X G W a A) (hb : DE X G W b B) (hm : behindInMarks .LtE b = false := by rfl) : DE X G W (.Compare a [.LtE] [b] pos) (eBin dLe A B) := de_cmp (r := rOrd G.K fun d e => !PySem.W.dataLt e d) (by rw [c.K]; exact op_leO c.u) ops_le ha hb hm
theorem w_le (c : Cn X G W k) (ha : DE X G W a A) (hb : DE X G W b B) (hm : behindInMarks .LtE b = false := by rfl) : DT X G W (.Compare a [.LtE] [b] pos) (tV (eBin dLe A B)) := dt_cmp (r := rOrd G.K fun d e => !PySem.W.dataLt e d) (by rw [c.K]; exact op_leO c.u) ops_le ha hb hm
theorem v_ge (c : Cn X G W k) (ha : DE X G W a A) (hb : DE X G W b B) (hm : behindInMarks .GtE b = false := by rfl) : DE X G W (.Compare a [.GtE] [b] pos) (eBin dGe A B) := de_cmp (r := rOrd G.K fun d e => !PySem.W.dataLt d e) (by rw [c.K]; exact op_geO c.u) ops_ge ha hb hm
theorem w_ge (c : Cn X G W k) (ha : DE X G W a A) (hb : DE X G W b B) (hm : behindInMarks .GtE b = false := by rfl) : DT X G W (.Compare a [.GtE] [b] pos) (tV (eBin dGe A B)) := dt_cmp (r := rOrd G.K fun d e => !PySem.W.dataLt d e) (by rw [c.K]; exact op_geO c.u) ops_ge ha hb hm
theorem v_isn (c : Cn X G W k) (ha : DE X G W a A) (hb : DE X G W b B) (hm : behindInMarks .Is b = false := by rfl) : DE X G W (.Compare a [.Is] [b] pos) (eBin dIsN A B) := de_cmp op_isN ops_isN ha hb hm
theorem w_isn (c : Cn X G W k) (ha : DE X G W a A) (hb : DE X G W b B) (hm : behindInMarks .Is b = false := by rfl) : DT X G W (.Compare a [.Is] [b] pos) (tV (eBin dIsN A B)) := dt_cmp op_isN ops_isN ha hb hm
theorem v_isnot (c : Cn X G W k) (ha : DE X G W a A) (hb : DE X G W b B) (hm : behindInMarks .IsNot b = false := by rfl) : DE X G W (.Compare a [.IsNot] [b] pos) (eBin dNotN A B) := de_cmp op_notN ops_notN ha hb hm
theorem w_isnot (c : Cn X G W k) (ha : DE X G W a A) (hb : DE X G W b B) (hm : behindInMarks .IsNot b = false := by rfl) : DT X G W (.Compare a [.IsNot] [b] pos) (tV (eBin dNotN A B)) := dt_cmp op_notN ops_notN ha hb hm
theorem v_in (c : Cn X G W k) (ha : DE X G W a A) (hb : DE X G W b B) (hm : behindInMarks .In b = false := by rfl) : DE X G W (.Compare a [.In] [b] pos) (eBin dIn A B) := de_cmp (r := rIn G.K false) (by rw [c.K]; exact op_in_seq) (ops_in false) ha hb hm
theorem w_in (c : Cn X G W k) (ha : DE X G W a A) (hb : DE X G W b B) (hm : behindInMarks .In b = false := by rfl) : DT X G W (.Compare a [.In] [b] pos) (tV (eBin dIn A B)) := dt_cmp (r := rIn G.K false) (by rw [c.K]; exact op_in_seq) (ops_in false) ha hb hm
theorem v_notin (c : Cn X G W k) (ha : DE X G W a A) (hb : DE X G W b B) (hm : behindInMarks .NotIn b = false := by rfl) : DE X G W (.Compare a [.NotIn] [b] pos) (eBin dNotIn A B) := de_cmp (r := rIn G.K true) (by rw [c.K]; exact op_notIn_seq) (ops_in true) ha hb hm
theorem w_notin (c : Cn X G W k) (ha : DE X G W a A) (hb : DE X G W b B) (hm : behindInMarks .NotIn b = false := by rfl) : DT X G W (.Compare a [.NotIn] [b] pos) (tV (eBin dNotIn A B)) := dt_cmp (r := rIn G.K true) (by rw [c.K]; exact op_notIn_seq) (ops_in true) ha hb hm
theorem v_neg (c : Cn X G W k) (ha : DE X G W a A) : DE X G W (.UnaryOp .USub a pos) (eUn dNeg A) := de_un un_neg uns_neg ha
theorem v_len (c : Cn X G W k) {p : Pos} (hm : X.mg "len" = none) (ha : DA X G W (a :: es) As) (hg : Gl X "len" := by rfl) (he : starEach (a :: es) X.env = (false, eval a X.env) :: starEach es X.env := by rfl) (hpl : (backTo pos (starEach es X.env)).any (·.1) = false := by rfl) :
    DE X G W (.Call (.Name "len" p) (a :: es) [] pos) (eCl dLen As) := de_callB (r := rLenA G.K) (by rw [c.K]; exact cr_lenA) cls_len hg hm (by decide +kernel) ha (by decide) (by decide) he hpl
theorem v_abs (c : Cn X G W k) {p : Pos} (hm : X.mg "abs" = none) (ha : DA X G W (a :: es) As) (hg : Gl X "abs" := by rfl) (he : starEach (a :: es) X.env = (false, eval a X.env) :: starEach es X.env := by rfl) (hpl : (backTo pos (starEach es X.env)).any (·.1) = false := by rfl) :
    DE X G W (.Call (.Name "abs" p) (a :: es) [] pos) (eCl dAbs As) := de_callB (call_abs) cls_abs hg hm (by decide +kernel) ha (by decide) (by decide) he hpl
theorem v_sum (c : Cn X G W k) {p : Pos} (hm : X.mg "sum" = none) (ha : DA X G W (a :: es) As) (hg : Gl X "sum" := by rfl) (he : starEach (a :: es) X.env = (false, eval a X.env) :: starEach es X.env := by rfl) (hpl : (backTo pos (starEach es X.env)).any (·.1) = false := by rfl) :
    DE X G W (.Call (.Name "sum" p) (a :: es) [] pos) (eCl dSum As) := de_callB (r := rSum G.K) (by rw [c.K]; exact cr_sum c.calm) cls_sum hg hm (by decide +kernel) ha (by decide) (by decide) he hpl
theorem v_all (c : Cn X G W k) {p : Pos} (hm : X.mg "all" = none) (ha : DA X G W (a :: es) As) (hg : Gl X "all" := by rfl) (he : starEach (a :: es) X.env = (false, eval a X.env) :: starEach es X.env := by rfl) (hpl : (backTo pos (starEach es X.env)).any (·.1) = false := by rfl) :
    DE X G W (.Call (.Name "all" p) (a :: es) [] pos) (eCl dAll As) := de_callB (r := rAll G.K) (by rw [c.K]; exact cr_all c.calm) cls_all hg hm (by decide +kernel) ha (by decide) (by decide) he hpl
theorem v_any (c : Cn X G W k) {p : Pos} (hm : X.mg "any" = none) (ha : DA X G W (a :: es) As) (hg : Gl X "any" := by rfl) (he : starEach (a :: es) X.env = (false, eval a X.env) :: starEach es X.env := by rfl) (hpl : (backTo pos (starEach es X.env)).any (·.1) = false := by rfl) :
    DE X G W (.Call (.Name "any" p) (a :: es) [] pos) (eCl dAny As) := de_callB (r := rAny G.K) (by rw [c.K]; exact cr_any c.calm) cls_any hg hm (by decide +kernel) ha (by decide) (by decide) he hpl
theorem v_sorted (c : Cn X G W k) {p : Pos} (hm : X.mg "sorted" = none) (ha : DA X G W (a :: es) As) (hg : Gl X "sorted" := by rfl) (he : starEach (a :: es) X.env = (false, eval a X.env) :: starEach es X.env := by rfl) (hpl : (backTo pos (starEach es X.env)).any (·.1) = false := by rfl) :
    DE X G W (.Call (.Name "sorted" p) (a :: es) [] pos) (eCl dSorted As) := de_callB (r := rSortedD G.K) (by rw [c.K]; exact cr_sortedD c.u) cls_sorted hg hm (by decide +kernel) ha (by decide) (by decide) he hpl
theorem v_min (c : Cn X G W k) {p : Pos} (hm : X.mg "min" = none) (ha : DA X G W (a :: es) As) (hg : Gl X "min" := by rfl) (he : starEach (a :: es) X.env = (false, eval a X.env) :: starEach es X.env := by rfl) (hpl : (backTo pos (starEach es X.env)).any (·.1) = false := by rfl) :
    DE X G W (.Call (.Name "min" p) (a :: es) [] pos) (eCl dMinL As) := de_callB (r := rMinA G.K) (by rw [c.K]; exact cr_minA c.calm c.u) cls_min hg hm (by decide +kernel) ha (by decide) (by decide) he hpl
theorem v_max (c : Cn X G W k) {p : Pos} (hm : X.mg "max" = none) (ha : DA X G W (a :: es) As) (hg : Gl X "max" := by rfl) (he : starEach (a :: es) X.env = (false, eval a X.env) :: starEach es X.env := by rfl) (hpl : (backTo pos (starEach es X.env)).any (·.1) = false := by rfl) :
    DE X G W (.Call (.Name "max" p) (a :: es) [] pos) (eCl dMaxL As) := de_callB (r := rMaxA G.K) (by rw [c.K]; exact cr_maxA c.calm c.u) cls_max hg hm (by decide +kernel) ha (by decide) (by decide) he hpl
theorem v_repr (c : Cn X G W k) {p : Pos} (hm : X.mg "repr" = none) (ha : DA X G W (a :: es) As) (hg : Gl X "repr" := by rfl) (he : starEach (a :: es) X.env = (false, eval a X.env) :: starEach es X.env := by rfl) (hpl : (backTo pos (starEach es X.env)).any (·.1) = false := by rfl) :
    DE X G W (.Call (.Name "repr" p) (a :: es) [] pos) (eCl dRepr As) := de_callB (r := rRepr G.K) (by rw [c.K]; exact cr_repr c.gu c.u) cls_repr hg hm (by decide +kernel) ha (by decide) (by decide) he hpl
theorem v_list (c : Cn X G W k) {p : Pos} (hm : X.mg "list" = none) (ha : DA X G W (a :: es) As) (hg : Gl X "list" := by rfl) (he : starEach (a :: es) X.env = (false, eval a X.env) :: starEach es X.env := by rfl) (hpl : (backTo pos (starEach es X.env)).any (·.1) = false := by rfl) :
    DE X G W (.Call (.Name "list" p) (a :: es) [] pos) (eCl dList As) := de_callTy (r := fun xs H Q => ∃ p ys, xs = [.ref p] ∧ (SqL G.K H p ys ∨ SqT G.K H p ys) ∧ ∀ l, H l = none → Q (.ref l) (upd H l (.lst ys))) (by rw [c.K]; exact call_list_of) cls_list hg hm (by decide +kernel) ha (by decide) (by decide) he hpl
theorem v_tuple (c : Cn X G W k) {p : Pos} (hm : X.mg "tuple" = none) (ha : DA X G W (a :: es) As) (hg : Gl X "tuple" := by rfl) (he : starEach (a :: es) X.env = (false, eval a X.env) :: starEach es X.env := by rfl) (hpl : (backTo pos (starEach es X.env)).any (·.1) = false := by rfl) :
    DE X G W (.Call (.Name "tuple" p) (a :: es) [] pos) (eCl dTuple As) := de_callTy (r := fun xs H Q => ∃ p ys, xs = [.ref p] ∧ ((SqL G.K H p ys ∧ ∀ l, H l = none → Q (.ref l) (upd H l (.tup ys))) ∨ (SqT G.K H p ys ∧ Q (.ref p) H))) (by rw [c.K]; exact call_tuple_of) cls_tuple hg hm (by decide +kernel) ha (by decide) (by decide) he hpl
theorem v_int (c : Cn X G W k) {p : Pos} (hm : X.mg "int" = none) (ha : DA X G W (a :: es) As) (hg : Gl X "int" := by rfl) (he : starEach (a :: es) X.env = (false, eval a X.env) :: starEach es X.env := by rfl) (hpl : (backTo pos (starEach es X.env)).any (·.1) = false := by rfl) :
    DE X G W (.Call (.Name "int" p) (a :: es) [] pos) (eCl dInt As) := de_callTy (call_int1) cls_int hg hm (by decide +kernel) ha (by decide) (by decide) he hpl
theorem v_str (c : Cn X G W k) {p : Pos} (hm : X.mg "str" = none) (ha : DA X G W (a :: es) As) (hg : Gl X "str" := by rfl) (he : starEach (a :: es) X.env = (false, eval a X.env) :: starEach es X.env := by rfl) (hpl : (backTo pos (starEach es X.env)).any (·.1) = false := by rfl) :
    DE X G W (.Call (.Name "str" p) (a :: es) [] pos) (eCl dStr As) := de_callTy (cr_strA) cls_str hg hm (by decide +kernel) ha (by decide) (by decide) he hpl
theorem v_var (i : Nat) {y : Str} (hN : X.N[i]? = some y := by rfl) (hv : Vis X.env.scope y := by first | exact Or.inl rfl | exact Or.inr (Or.inl rfl) | exact Or.inr (Or.inr rfl)) (hd : (y == ("__debug__" : Str)) = false := by decide) (hcd : (y == ("__classdict__" : Str)) = false := by decide) : DE X G W (.Name y pos) (eVar i) := de_var i hN hv hd hcd
theorem v_bx (i : Nat) {c : Int} {y : Str} {kk : Nat} {p2 p3 : Pos} (hc : c = 0 ∨ c = 1) (hN : X.N[i]? = some y := by rfl) (hv : Vis X.env.scope y := by first | exact Or.inl rfl | exact Or.inr (Or.inl rfl) | exact Or.inr (Or.inr rfl)) (hd : (y == ("__debug__" : Str)) = false := by decide) (hcd : (y == ("__classdict__" : Str)) = false := by decide) :
    DE X G W (.Subscript (.Name y p2) (.Constant (.int c) kk p3) pos) (eBx i c) := de_bx i hc hN hv hd hcd
theorem v_ix (c : Cn X G W k) (ha : DE X G W a A) (hb : DE X G W b B) (hs : PlainIx b := by intro _ _; rfl) : DE X G W (.Subscript a b pos) (eBin dIx A B) := de_ix ha hb c.K hs
theorem s_asg (c : Cn X G W k) (i : Nat) {x : Str} {p2 : Pos} (h : DE X G W e A) (hi : X.N[i]? = some x := by rfl) (hx : Loc X.env.scope x := by first | exact Or.inl rfl | exact Or.inr rfl) (hs : swapsWith e (some (.Name x p2)) pos.line X.env = pure false := by rfl) (hf : X.fn x = true ∨ X.env.scope.names.lookup x = some .local := by first | exact .inl rfl | exact .inr rfl) :
    DS X G W (.Assign [.Name x p2] e pos) (sAsg i A) := ds_asg i c.nd hi hx h hs hf
theorem s_own (c : Cn X G W k) (i : Nat) {x : Str} {p2 : Pos} (h : DN X G W e N) (hi : X.N[i]? = some x := by rfl) (hx : Loc X.env.scope x := by first | exact Or.inl rfl | exact Or.inr rfl) (hs : swapsWith e (some (.Name x p2)) pos.line X.env = pure false := by rfl) (hf : X.fn x = true ∨ X.env.scope.names.lookup x = some .local := by first | exact .inl rfl | exact .inr rfl) :
    DS X G W (.Assign [.Name x p2] e pos) (sOwn i N) := ds_own i c.nd hi hx h hs hf
theorem s_app (i : Nat) {y : Str} {p2 p3 p4 : Pos} (h : DE X G W e A) (hN : X.N[i]? = some y := by rfl) (hv : Vis X.env.scope y := by first | exact Or.inl rfl | exact Or.inr (Or.inl rfl) | exact Or.inr (Or.inr rfl)) (hd : (y == ("__debug__" : Str)) = false := by decide) (hcd : (y == ("__classdict__" : Str)) = false := by decide)
    (hes : starEach [e] X.env = (false, eval e X.env) :: starEach [] X.env := by rfl) (hpl : (backTo p3 (starEach [] X.env)).any (·.1) = false := by rfl) (hline : (p2.endLine == p3.line) = true := by rfl) (hb : attributeBase (.Name y pos) "append" X.env (eval (.Name y pos) X.env) = eval (.Name y pos) X.env := by rfl)
    (hfew : ((backTo p3 (starEach [e] X.env)).all (fun x => !x.1) && ((backToKw p3 (keywordEach [] X.env)).all (fun x => x.1.isSome)) && decide ([e].length + ([] : List Keyword).length + (if ([] : List Keyword).isEmpty then 0 else 1) < 30)) = true := by rfl)
    (hsw : swapsWith (.Call (.Attribute (.Name y pos) "append" p2) [e] [] p3) none p4.line X.env = pure false := by rfl) :
    DS X G W (.Expr (.Call (.Attribute (.Name y pos) "append" p2) [e] [] p3) p4) (sApp i A) := ds_app i hN hv h hd hcd hes hpl hline hb hfew hsw
theorem g_name (c : Cn X G W k) (i : Nat) {x : Str} (hi : X.N[i]? = some x := by rfl) (hx : Loc X.env.scope x := by first | exact Or.inl rfl | exact Or.inr rfl) (hf : X.fn x = true ∨ X.env.scope.names.lookup x = some .local := by first | exact .inl rfl | exact .inr rfl) : DG X G (.Name x pos) [i] (gN i) := dg_name i c.nd hi hx hf
theorem n_cons (c : Cn X G W k) (i : Nat) {x : Str} {px : Pos} {is : List Nat} (h : NG X es is) (hi : X.N[i]? = some x := by rfl) (hx : Loc X.env.scope x := by first | exact Or.inl rfl | exact Or.inr rfl) (hf : X.fn x = true ∨ X.env.scope.names.lookup x = some .local := by first | exact .inl rfl | exact .inr rfl)
    (hs : (assignEach (.Name x px :: es) X.env).map (·.2) = assign (.Name x px) X.env :: (assignEach es X.env).map (·.2) := by rfl) : NG X (.Name x px :: es) (i :: is) := ng_cons i c.nd hi hx h hf hs
theorem v_listn (c : Cn X G W k) {p : Pos} (hm : X.mg "list" = none) (ha : DA X G W [a] As) (hg : Gl X "list" := by rfl) (he : starEach [a] X.env = (false, eval a X.env) :: starEach [] X.env := by rfl) (hpl : (backTo pos (starEach [] X.env)).any (·.1) = false := by rfl) :
    DN X G W (.Call (.Name "list" p) [a] [] pos) (nCl nList As) := dn_list c.K hg hm ha he hpl
theorem v_gint (c : Cn X G W k) {x : Str} {i : Int} (hm : ∃ t, X.mg x = some (.int i t)) (hg : Gl X x := by rfl) (hd : (x == ("__debug__" : Str)) = false := by decide) : DE X G W (.Name x pos) (eC (.int i)) := by obtain ⟨t, hm⟩ := hm; exact de_gint hg hm hd
theorem v_gstr (c : Cn X G W k) {x : Str} {z : Str} (hm : ∃ t, X.mg x = some (.str z t)) (hg : Gl X x := by rfl) (hd : (x == ("__debug__" : Str)) = false := by decide) : DE X G W (.Name x pos) (eC (.str z)) := by obtain ⟨t, hm⟩ := hm; exact de_gstr hg hm hd
theorem v_call (c : Cn X G W k) {n j : Nat} {F : FnS} {x : Str} {p : Pos} {ps : List Str} (Fn : Callee X.prog X.w X.K X.mg X.base j x ps (spF X.K G.cls false n F)) (ha : DA X G W (e :: es) As) (hj : j ≤ k := by decide)
    (hg : Gl X x := by rfl) (hdb : (x == ("__debug__" : Str)) = false := by decide) (he : starEach (e :: es) X.env = (false, eval e X.env) :: starEach es X.env := by rfl) (hpl : (backTo pos (starEach es X.env)).any (·.1) = false := by rfl) : DE X G W (.Call (.Name x p) (e :: es) [] pos) (eCall n F As) := by
  obtain ⟨f, fd, h1, h2, h3, h4⟩ := Fn
  exact de_call h4 c.K c.tk (c.rm.mono hj) c.gu h1 h2 h3 ha hg hdb he hpl
theorem v_callX (c : Cn X G W k) (i : Nat) {y : Str} {n j : Nat} {F : FnS} {x : Str} {p p2 : Pos} {ps : List Str} (Fn : Callee X.prog X.w X.K X.mg X.base j x ps (spF X.K G.cls true n F)) (ha : DA X G W es As) (hN : X.N[i]? = some y := by rfl) (hv : Vis X.env.scope y := by first | exact Or.inl rfl | exact Or.inr (Or.inl rfl) | exact Or.inr (Or.inr rfl)) (hj : j ≤ k := by decide)
    (hg : Gl X x := by rfl) (hdb : (x == ("__debug__" : Str)) = false := by decide) (hd : (y == ("__debug__" : Str)) = false := by decide) (hcd : (y == ("__classdict__" : Str)) = false := by decide)
    (hst : starEach (.Name y p2 :: es) X.env = (false, eval (.Name y p2) X.env) :: starEach es X.env := by rfl) (hpl : (backTo pos (starEach es X.env)).any (·.1) = false := by rfl) : DE X G W (.Call (.Name x p) (.Name y p2 :: es) [] pos) (eCallB n i F As) := by
  obtain ⟨f, fd, h1, h2, h3, h4⟩ := Fn
  exact de_callX i h4 c.K c.tk (c.rm.mono hj) c.gu h1 h2 h3 hN hv ha hg hdb hd hcd hst hpl
theorem v_callK (c : Cn X G W k) {n j : Nat} {F : FnS} {x : Str} {p : Pos} {ps ks : List Str} {js : List Nat} {kws : List Keyword} (Fn : CalleeK X.prog X.w X.K X.mg X.base j x ps ks js (spF X.K G.cls false n F)) (ha : DK X G W kws As) (hn : ks.length = n := by rfl) (hj : j ≤ k := by decide)
    (hg : Gl X x := by rfl) (hall : (backToKw pos (keywordEach kws X.env)).all (·.1.isSome) = true := by rfl) (hks : (backToKw pos (keywordEach kws X.env)).filterMap (·.1) = ks := by rfl) (hdb : (x == ("__debug__" : Str)) = false := by decide)
    (hpl : ((backTo pos (starEach [] X.env)).any (·.1) || (backToKw pos (keywordEach kws X.env)).any (·.1.isNone)) = false := by rfl) : DE X G W (.Call (.Name x p) [] kws pos) (eCallK n js F As) := by
  obtain ⟨f, fd, h1, h2, h3, h4⟩ := Fn
  exact de_callK js h4 c.K c.tk (c.rm.mono hj) c.gu h1 h2 h3 ha hn hg hall hks hdb hpl
theorem v_box (c : Cn X G W k) (i s : Nat) {x y z : Str} {j : Nat} {F : List Int → Int → Int × Int} {p p1 p2 p3 : Pos} {ek : Expr} {ps : List Str} (ht : G.top = true) (Fn : Callee X.prog X.w X.K X.mg X.base j x ps (spBx X.K F)) (ha : DE X G W ek A) (hN : X.N[s]? = some y := by rfl) (hv : Vis X.env.scope y := by first | exact Or.inl rfl | exact Or.inr (Or.inl rfl) | exact Or.inr (Or.inr rfl)) (hi : X.N[i]? = some z := by rfl) (hz : Loc X.env.scope z := by first | exact Or.inl rfl | exact Or.inr rfl) (hj : j ≤ k := by decide)
    (hg : Gl X x := by rfl) (hdb : (x == ("__debug__" : Str)) = false := by decide) (hd : (y == ("__debug__" : Str)) = false := by decide) (hcd : (y == ("__classdict__" : Str)) = false := by decide)
    (hst2 : starEach [ek] X.env = (false, eval ek X.env) :: starEach [] X.env := by rfl) (hst : starEach [.Name y p2, ek] X.env = (false, eval (.Name y p2) X.env) :: starEach [ek] X.env := by rfl) (hpl : (backTo p3 (starEach [ek] X.env)).any (·.1) = false := by rfl)
    (hs : swapsWith (.Call (.Name x p) [.Name y p2, ek] [] p3) (some (.Name z p1)) pos.line X.env = pure false := by rfl) (hf : X.fn z = true ∨ X.env.scope.names.lookup z = some .local := by first | exact .inl rfl | exact .inr rfl | assumption) :
    DS X G W (.Assign [.Name z p1] (.Call (.Name x p) [.Name y p2, ek] [] p3) pos) (sBox i s F A) := by
  obtain ⟨f, fd, h1, h2, h3, h4⟩ := Fn
  exact ds_box i s ht h4 c.K c.tk (c.rm.mono hj) c.gu h1 h2 h3 c.nd hN hv hi hz ha hg hdb hd hcd hst2 hst hpl hs hf
end
end DL

namespace DL
open PySem L2 PySem.Spec PyProof.Rows
/-! ### the law's own def, and the end -/
def spLaw (K : Fg) (n : Nat) : Sp := fun us H Q _ => ∃ (a : Addr) (ns : List Int), us = [.ref a] ∧ SqOk K H (fun _ => False) a ns ∧ ns.length ≤ n ∧ ∀ H', Q (.bl true) H'
/-- what is tracked at the beginning: the script, if the written part does not know it -/
def scriptH (K : Fg) (a : Addr) (o : Obj) (xs : List V) : Hp := fun b => if b = a ∧ K.lookup a = none then some (.frz o (.lst xs)) else none
theorem scriptH_some {K : Fg} {a b : Addr} {o : Obj} {xs : List V} {u : HO} (h : scriptH K a o xs b = some u) : b = a ∧ K.lookup a = none ∧ u = .frz o (.lst xs) := by
  unfold scriptH at h
  split at h
  · rename_i c; cases h; exact ⟨c.1, c.2, rfl⟩
  · cases h
section
variable {P : Program} {w : World} {K : Fg} {mg mb : Str → Option Value} {k n : Nat} {fa a : Addr} {fd : FuncData} {x : Str} {s1 : Shared} {vs : List Value} {ns : List Int}
theorem law_run (inK : K.In s1.heap) (nsG : s1.heap.Ns mainGlobals mg) (nsB : s1.heap.Ns builtinsNs mb) (bb : ∀ x : Str, x ≠ "__name__" → mb x = bootBuiltins x) (nl : s1.heap.NoLimit) (ng : s1.gens = #[])
    (at_ : s1.heap.get? a = some { cls := .type "list", data := .seq vs.toArray }) (nums : IntsAre vs ns) (few : ns.length ≤ n) (few2 : n ≤ sizeLine) (room : Room k callerA)
    (F : ∀ base : Heap, K.In base → base.Ns mainGlobals mg → FnG P w K mg base k fa fd [x] (spLaw K n)) (binds : ∀ (s : Shared) (u : Value), BindsTo s fd ⟨[u], []⟩ [(x, u)]) :
    codeAny (model P w) callerA (.call (.ref fa) ⟨[.ref a], []⟩) (fun r s2 => r = .ok (.ret (.bool true)) ∧ OldK s1.heap s2.heap ∧ s2.os = s1.os ∧ AllBare s2.gens) s1 := by
  have rel := vals_ints nums
  obtain ⟨obj, hobj⟩ : ∃ obj : Obj, obj = { cls := .type "list", data := .seq vs.toArray } := ⟨_, rfl⟩
  rw [← hobj] at at_
  obtain ⟨H, hH⟩ : ∃ H, H = scriptH K a obj (ns.map V.int) := ⟨_, rfl⟩
  have only : ∀ {b : Addr} {u : HO}, H b = some u → b = a ∧ K.lookup a = none ∧ u = .frz obj (.lst (ns.map V.int)) := fun h => scriptH_some (by rw [← hH]; exact h)
  have len : (ns.map V.int).length ≤ sizeLine := by rw [List.length_map]; exact Nat.le_trans few few2
  have good : HOk P w H s1.heap := fun b u h => by
    obtain ⟨rfl, _, rfl⟩ := only h
    exact ⟨at_, len, vs, _, rel, by rw [at_, hobj]⟩
  have sq : SqOk K H (fun _ => False) a ns := by
    cases e : K.lookup a with
    | none => exact .inl ⟨.inr ⟨obj, by rw [hH]; exact if_pos ⟨rfl, e⟩⟩, id⟩
    | some o =>
      have same := inK a o e
      rw [at_, hobj] at same
      cases same
      exact .inr fun H' => .inr ⟨_, vs.toArray, _, e, rfl, rfl, rfl, by rw [List.size_toArray, ← rel.length]; exact len, by simpa using rel⟩
  have free : ∀ {b : Addr} {o : Obj}, s1.heap.get? b = some o → o ≠ obj → H b = none := fun {b o} e d => by
    cases q : H b with
    | none => rfl
    | some u =>
      obtain ⟨rfl, _⟩ := only q
      rw [at_] at e
      exact absurd (Option.some.inj e).symm d
  have freeK : ∀ {b : Addr} {o : Obj}, K.lookup b = some o → H b = none := fun {b o} e => by
    cases q : H b with
    | none => rfl
    | some u =>
      obtain ⟨rfl, z, _⟩ := only q
      rw [z] at e
      cases e
  have dicts : ∀ {b : Addr} {m : Str → Option Value}, s1.heap.Ns b m → (hidT s1.heap H).Ns b m := fun {b m} ⟨o, es, ep, e, d, r⟩ => ⟨o, es, ep, hidT_get e (free e fun z => by
    rw [z, hobj] at d
    have d' : Data.seq vs.toArray _ = Data.dict es ep := d
    cases d'), d, r⟩
  have inB : K.In (hidT s1.heap H) := fun b o e => hidT_get (inK b o e) (freeK e)
  have mod : Mod K mg (hidT s1.heap H) := ⟨inB, dicts nsG, ⟨mb, dicts nsB, bb⟩, nl.elim fun mc h => ⟨mc, dicts h.1, h.2⟩⟩
  have env : Env0 P w K mg (hidT s1.heap H) callerA [] s1 H := ⟨rfl, mod, fun _ _ e => of_hidT e, Nat.le_of_eq (hidT_size _ _), trivial, (fun b hb => nomatch (show b ∈ ([] : List Addr) from hb)), good, .of_eq ng⟩
  refine codeAny_mono ((F _ inB (dicts nsG)).run callerA [] s1 H ⟨[.ref a], []⟩ [.ref a] [.ref a] (fun v _ => v = .bl true) (fun _ _ _ => False) room rfl env (binds s1 (.ref a)) (.cons rfl .nil) ⟨a, ns, rfl, sq, few, fun _ => rfl⟩) fun r s2 h => ?_
  match r, h with
  | .error e, ⟨_, _, _, _, _, _, _, _, _, _, _, _, z⟩ => exact z.elim
  | .ok .next, z => exact False.elim z
  | .ok .brk, z => exact False.elim z
  | .ok .cont, z => exact False.elim z
  | .ok (.ret u), ⟨v, H2, os, bare, un, good2, rv, q⟩ =>
    have q : v = .bl true := q
    subst q
    obtain rfl : u = Value.bool true := rv
    refine ⟨rfl, OldK.of_keep fun b o e => ?_, os, bare⟩
    cases q : H b with
    | none => exact un.keep b o e q (fun z => nomatch (show b ∈ ([] : List Addr) from z)) (by simp)
    | some u =>
      obtain ⟨rfl, _, rfl⟩ := only q
      rw [at_] at e
      cases e
      exact (good2 b _ (un.frzs b _ _ q)).1
/-- THE END: from the promise of the law's def -/
theorem walk_dl {l : PySem.W.OpenLaw} {n : Nat} {q : Program} {loose : List Str} {XP : (Str → Option Value) → Heap → Prop} {YP : World → Heap → Prop} {d : DefRec} {Kf : Params → Fg} {x : Str} {k : Nat}
    (hn : l.most = some n) (hn2 : n ≤ sizeLine) (hdf : d.params.defaults = []) (hr : Room k callerA) (hY : ∀ (w : World) (h : Heap), YP w h → (Kf w.params).In h)
    (F : ∀ (w : World) (mg : Str → Option Value) (fa : Addr) (h : Heap), (Kf w.params).In h → h.Ns mainGlobals mg → mg d.name = some (.ref fa) →
      ∃ fd : FuncData, (∀ (s : Shared) (u : Value), BindsTo s fd ⟨[u], []⟩ [(x, u)]) ∧ ∀ base : Heap, (Kf w.params).In base → base.Ns mainGlobals mg → FnG l.prog w (Kf w.params) mg base k fa fd [x] (spLaw (Kf w.params) n)) :
    PySem.W.WalkO q loose XP YP l.row.toRowW d [] (fun f vs => PySem.call f vs) :=
  Att.attach_call hn hdf fun w s0 s1 mg mb fa o pm cd doc a vs ns G Y ho hd hcd hmg hobj hints hlen hg => by
    have KX := hY w _ Y
    obtain ⟨fd, hb, hF⟩ := F w mg fa _ KX G.T.g hmg
    exact law_run KX G.T.g G.T.b G.T.builtins G.T.nolimit hg hobj hints hlen hn2 hr hF hb
/-- the law's def by its body -/
theorem fn_law {base : Heap} {qual z : Str} {st : Stmt} {N : List Str} {m : Nat} {A : DSt} {f : Addr} (cs : Str → Option (Value × Str)) (F : Fun K z qual st f fd) (S : FnScope N [x] (defScope st)) (hm : N.length = m + 1)
    (tot : ∀ ns : List Int, ns.length ≤ n → Post (fun o => ∃ en, o = Out.rt (.bool true) en) (fun _ _ _ => False) (A ⟨.sq ns :: List.replicate m .no, (0, 0)⟩))
    (body : ∀ (cdv : Value) (Ar : Around) (outer : List Env) (s : Shared) (H : Hp) (E : XK) (W : WX), Room k (Ar.deeper (envOfC qual (defScope st) s.heap.objs.size f cdv)) → Ar.guards = some [] →
      L2.Takes (cxOf (L2.CX P w) P w K mg base N qual (defScope st) f cdv Ar outer s H E) W → DSs (cxOf (L2.CX P w) P w K mg base N qual (defScope st) f cdv Ar outer s H E) ⟨K, fun _ => False, true, cs⟩ W (defBody st) A) :
    FnG P w K mg base (k + 1) f fd [x] (spLaw K n) := by
  refine fnG_of F S (fun us H Q E ⟨a, ns, e, _⟩ => by rw [e]; rfl) fun cdv Ar outer s H us Q E hr hg ⟨a, ns, e, sq, few, hq⟩ => ?_
  subst e
  have es : L2.start N [V.ref a] = some (.ref a) :: List.replicate m none := by
    unfold L2.start
    rw [hm]
    rfl
  rw [es]
  have key : ∀ (j : Nat) (s : Sl), (Sl.sq ns :: List.replicate m Sl.no)[j]? = some s → (j = 0 ∧ s = .sq ns) ∨ s = .no := fun j s h => by
    match j, h with
    | 0, h => cases h; exact .inl ⟨rfl, rfl⟩
    | j + 1, h =>
      have h : (List.replicate m Sl.no)[j]? = some s := h
      rw [List.getElem?_replicate] at h
      split at h
      · exact .inr (Option.some.inj h).symm
      · cases h
  have now : ∀ {j : Nat} {ds : List D}, (Sl.sq ns :: List.replicate m Sl.no)[j]? ≠ some (Sl.ow ds) := fun {j ds} h => by
    rcases key j _ h with ⟨_, z⟩ | z <;> cases z
  have rel : Rel ⟨K, fun _ => False, true, cs⟩ ⟨.sq ns :: List.replicate m .no, (0, 0)⟩ (some (.ref a) :: List.replicate m none) H (fun _ => False) none := by
    refine ⟨by simp, fun j s h => ?_, fun i j p ds es _ h _ _ _ => now h, (fun p h => nomatch h), (fun p i ds h => nomatch h), fun a h => h.elim, fun a h => h.elim⟩
    rcases key j s h with ⟨e, z⟩ | z
    · subst e z; exact ⟨a, rfl, sq.mono (fun _ _ h _ => h) fun a h => .inl (Or.elim h (fun z => z) (fun z => z))⟩
    · subst z; trivial
  refine ⟨_, (body cdv Ar outer s H E (fun cls d _ H => E cls d H) hr hg (takes_of rfl rfl rfl rfl)).pss, _, _, none, rel, Post.imp (tot ns few) (fun o ho => ?_) fun _ _ _ h => h.elim⟩
  obtain ⟨en, rfl⟩ := ho
  intro v σ' H' M' B' r st hB rd
  cases rd
  exact hq H'
end
end DL

namespace DL
open PySem L2
/-! ### reading the terms -/
theorem ap {α : Sort _} {a b : α} (h : a = b) : a = b := h
section
variable {en : En} {k0 : List Sl} {b0 : Int × Int} {i j n m : Nat} {a b : DEn} {t u : DTt} {As r : DAs} {N : DNl} {S S' : DSt} {g : DGt} {gs : DGts}
@[simp] theorem bind_ok {α β : Type} (x : α) (f : α → Rs β) : ((Rs.ok x : Rs α) >>= f) = f x := ap rfl
@[simp] theorem bind_bad {α β : Type} (f : α → Rs β) : ((Rs.bad : Rs α) >>= f) = Rs.bad := ap rfl
@[simp] theorem bind_ex {α β : Type} (c : Str) (d : D) (e : En) (f : α → Rs β) : ((Rs.ex c d e : Rs α) >>= f) = Rs.ex c d e := ap rfl
@[simp] theorem lift_some {α : Type} (x : α) : liftO (some x) = .ok x := ap rfl
@[simp] theorem lift_none {α : Type} : liftO (none : Option α) = .bad := ap rfl
@[simp] theorem eVar_ap : eVar i (⟨k0, b0⟩ : En) = (match k0[i]? with
  | some (.fz d) => .ok (d, (⟨k0, b0⟩ : En))
  | some (.ow ds) => .ok (.list ds, { sl := k0.set i (.fz (.list ds)), bx := b0 })
  | _ => .bad) := ap rfl
@[simp] theorem eC_ap {d : D} : eC d (⟨k0, b0⟩ : En) = .ok (d, (⟨k0, b0⟩ : En)) := ap rfl
@[simp] theorem eBin_ap {f : D → D → Option D} : eBin f a b (⟨k0, b0⟩ : En) = (a (⟨k0, b0⟩ : En) >>= fun p => b p.2 >>= fun q => liftO (f p.1 q.1) >>= fun z => .ok (z, q.2)) := ap rfl
@[simp] theorem eUn_ap {f : D → Option D} : eUn f a (⟨k0, b0⟩ : En) = (a (⟨k0, b0⟩ : En) >>= fun p => liftO (f p.1) >>= fun z => .ok (z, p.2)) := ap rfl
@[simp] theorem eCl_ap {f : List D → Option D} : eCl f As (⟨k0, b0⟩ : En) = (As (⟨k0, b0⟩ : En) >>= fun p => liftO (f p.1) >>= fun z => .ok (z, p.2)) := ap rfl
@[simp] theorem tV_ap : tV a (⟨k0, b0⟩ : En) = (a (⟨k0, b0⟩ : En) >>= fun p => liftO (asB p.1) >>= fun b => .ok (b, p.2)) := ap rfl
@[simp] theorem tAnd_ap : tAnd t u (⟨k0, b0⟩ : En) = (t (⟨k0, b0⟩ : En) >>= fun p => if p.1 = true then u p.2 else .ok (false, p.2)) := ap rfl
@[simp] theorem tOr_ap : tOr t u (⟨k0, b0⟩ : En) = (t (⟨k0, b0⟩ : En) >>= fun p => if p.1 = true then .ok (true, p.2) else u p.2) := ap rfl
@[simp] theorem tNot_ap : tNot t (⟨k0, b0⟩ : En) = (t (⟨k0, b0⟩ : En) >>= fun p => .ok (!p.1, p.2)) := ap rfl
@[simp] theorem tTrue_ap : tTrue (⟨k0, b0⟩ : En) = .ok (true, (⟨k0, b0⟩ : En)) := ap rfl
@[simp] theorem eAnd_ap : eAnd a b (⟨k0, b0⟩ : En) = (a (⟨k0, b0⟩ : En) >>= fun p => liftO (asB p.1) >>= fun c => if c = true then b p.2 else .ok (.bool false, p.2)) := ap rfl
@[simp] theorem eOr_ap : eOr a b (⟨k0, b0⟩ : En) = (a (⟨k0, b0⟩ : En) >>= fun p => liftO (asB p.1) >>= fun c => if c = true then .ok (.bool true, p.2) else b p.2) := ap rfl
@[simp] theorem eNot_ap : eNot a (⟨k0, b0⟩ : En) = (a (⟨k0, b0⟩ : En) >>= fun p => liftO (asB p.1) >>= fun c => .ok (.bool (!c), p.2)) := ap rfl
@[simp] theorem eIf_ap : eIf t a b (⟨k0, b0⟩ : En) = (t (⟨k0, b0⟩ : En) >>= fun p => if p.1 = true then a p.2 else b p.2) := ap rfl
@[simp] theorem aNil_ap : aNil (⟨k0, b0⟩ : En) = .ok ([], (⟨k0, b0⟩ : En)) := ap rfl
@[simp] theorem aCons_ap : aCons a r (⟨k0, b0⟩ : En) = (a (⟨k0, b0⟩ : En) >>= fun p => r p.2 >>= fun q => .ok (p.1 :: q.1, q.2)) := ap rfl
@[simp] theorem eSl_ap {l h : DPo} : eSl a l h (⟨k0, b0⟩ : En) = (a (⟨k0, b0⟩ : En) >>= fun p => l p.2 >>= fun q => h q.2 >>= fun r => liftO (dSl p.1 q.1 r.1) >>= fun z => .ok (z, r.2)) := ap rfl
@[simp] theorem oNo_ap : oNo (⟨k0, b0⟩ : En) = .ok (none, (⟨k0, b0⟩ : En)) := ap rfl
@[simp] theorem oSo_ap : oSo a (⟨k0, b0⟩ : En) = (a (⟨k0, b0⟩ : En) >>= fun p => liftO (asI p.1) >>= fun i => .ok (some i, p.2)) := ap rfl
@[simp] theorem eM1_ap {f : D → List D → Option D} : eM1 f a b (⟨k0, b0⟩ : En) = (a (⟨k0, b0⟩ : En) >>= fun p => liftO (asStr p.1) >>= fun _ => b p.2 >>= fun q => liftO (f p.1 [q.1]) >>= fun z => .ok (z, q.2)) := ap rfl
@[simp] theorem eN_ap : eN N (⟨k0, b0⟩ : En) = (N (⟨k0, b0⟩ : En) >>= fun q => .ok (.list q.1, q.2)) := ap rfl
@[simp] theorem nCl_ap {f : List D → Option (List D)} : nCl f As (⟨k0, b0⟩ : En) = (As (⟨k0, b0⟩ : En) >>= fun p => liftO (f p.1) >>= fun z => .ok (z, p.2)) := ap rfl
@[simp] theorem nRep_ap : nRep a b (⟨k0, b0⟩ : En) = (a (⟨k0, b0⟩ : En) >>= fun p => b p.2 >>= fun q => liftO (match p.1, q.1 with
  | .list xs, .int k => if 0 ≤ k ∧ k < 2 ^ 63 ∧ xs.length * k.toNat ≤ sizeLine then some (List.replicate k.toNat xs).flatten else none
  | _, _ => none) >>= fun z => .ok (z, q.2)) := ap rfl
@[simp] theorem nCat_ap : nCat a b (⟨k0, b0⟩ : En) = (a (⟨k0, b0⟩ : En) >>= fun p => b p.2 >>= fun q => liftO (match p.1, q.1 with
  | .list xs, .list ys => if xs.length + ys.length ≤ sizeLine then some (xs ++ ys) else none
  | _, _ => none) >>= fun z => .ok (z, q.2)) := ap rfl
@[simp] theorem sNx_ap : sNx (⟨k0, b0⟩ : En) = .ok (.nx (⟨k0, b0⟩ : En)) := ap rfl
@[simp] theorem sSeq_ap : sSeq S S' (⟨k0, b0⟩ : En) = (S (⟨k0, b0⟩ : En) >>= fun o => match o with
  | .nx en' => S' en'
  | .rt d en' => .ok (.rt d en')
  | .rn d en' => .ok (.rn d en')
  | .bk en' => .ok (.bk en')
  | .ct en' => .ok (.ct en')) := ap rfl
@[simp] theorem sPass_ap : sPass (⟨k0, b0⟩ : En) = .ok (.nx (⟨k0, b0⟩ : En)) := ap rfl
@[simp] theorem sBrk_ap : sBrk (⟨k0, b0⟩ : En) = .ok (.bk (⟨k0, b0⟩ : En)) := ap rfl
@[simp] theorem sCnt_ap : sCnt (⟨k0, b0⟩ : En) = .ok (.ct (⟨k0, b0⟩ : En)) := ap rfl
@[simp] theorem sExp_ap : sExp a (⟨k0, b0⟩ : En) = (a (⟨k0, b0⟩ : En) >>= fun p => .ok (.nx p.2)) := ap rfl
@[simp] theorem sRet_ap : sRet a (⟨k0, b0⟩ : En) = (a (⟨k0, b0⟩ : En) >>= fun p => .ok (.rt p.1 p.2)) := ap rfl
@[simp] theorem sRetO_ap : sRetO N (⟨k0, b0⟩ : En) = (N (⟨k0, b0⟩ : En) >>= fun p => .ok (.rn p.1 p.2)) := ap rfl
@[simp] theorem sRetN_ap : sRetN (⟨k0, b0⟩ : En) = .ok (.rt .none (⟨k0, b0⟩ : En)) := ap rfl
@[simp] theorem sIf_ap : sIf t S S' (⟨k0, b0⟩ : En) = (t (⟨k0, b0⟩ : En) >>= fun p => if p.1 = true then S p.2 else S' p.2) := ap rfl
@[simp] theorem sAsg_ap : sAsg i a (⟨k0, b0⟩ : En) = (a (⟨k0, b0⟩ : En) >>= fun p => .ok (.nx (p.2.put i (.fz p.1)))) := ap rfl
@[simp] theorem sOwn_ap : sOwn i N (⟨k0, b0⟩ : En) = (N (⟨k0, b0⟩ : En) >>= fun p => .ok (.nx (p.2.put i (.ow p.1)))) := ap rfl
@[simp] theorem sApp_ap : sApp i a (⟨k0, b0⟩ : En) = ((match k0[i]? with | some (.ow _) => a (⟨k0, b0⟩ : En) | _ => .bad) >>= fun p => match p.2.sl[i]? with
  | some (.ow ds) => if ds.length < sizeLine then .ok (.nx (p.2.put i (.ow (ds ++ [p.1])))) else .bad
  | _ => .bad) := ap rfl
@[simp] theorem put_ap {s : Sl} {l : List Sl} {bx : Int × Int} : (⟨l, bx⟩ : En).put i s = ⟨l.set i s, bx⟩ := ap rfl
@[simp] theorem gN_ap {d : D} : gN i d (⟨k0, b0⟩ : En) = some ((⟨k0, b0⟩ : En).put i (.fz d)) := ap rfl
@[simp] theorem gNil_ap : gNil [] (⟨k0, b0⟩ : En) = some (⟨k0, b0⟩ : En) := ap rfl
@[simp] theorem gCons_ap {d : D} {ds : List D} : gCons g gs (d :: ds) (⟨k0, b0⟩ : En) = (g d (⟨k0, b0⟩ : En)).bind (gs ds) := ap rfl
@[simp] theorem gTup_ap {ds : List D} : gTup n gs (.tuple ds) (⟨k0, b0⟩ : En) = (if ds.length = n then gs ds (⟨k0, b0⟩ : En) else none) := ap rfl
@[simp] theorem iSeq_ap : iSeq a (⟨k0, b0⟩ : En) = (a (⟨k0, b0⟩ : En) >>= fun p => liftO (asSeq p.1) >>= fun ds => .ok (ds, p.2)) := ap rfl
@[simp] theorem iR1_ap : iR1 a (⟨k0, b0⟩ : En) = (a (⟨k0, b0⟩ : En) >>= fun p => liftO (asI p.1) >>= fun n => if rgOk n = true then .ok (rgD 0 n.toNat, p.2) else .bad) := ap rfl
@[simp] theorem iR2_ap : iR2 a b (⟨k0, b0⟩ : En) = (a (⟨k0, b0⟩ : En) >>= fun p => b p.2 >>= fun q => liftO (asI p.1) >>= fun i => liftO (asI q.1) >>= fun j => if rgOk i = true ∧ rgOk j = true then .ok (rgD i (j - i).toNat, q.2) else .bad) := ap rfl
@[simp] theorem iEnu_ap : iEnu a (⟨k0, b0⟩ : En) = (a (⟨k0, b0⟩ : En) >>= fun p => liftO (asSeq p.1) >>= fun ds => .ok (enumD 0 ds, p.2)) := ap rfl
@[simp] theorem sFor_ap : sFor N g S (⟨k0, b0⟩ : En) = (N (⟨k0, b0⟩ : En) >>= fun q => sLoop g S q.1 q.2) := ap rfl
@[simp] theorem nComp_ap {own : List Nat} : nComp own N g t a (⟨k0, b0⟩ : En) = (N (⟨k0, b0⟩ : En) >>= fun q => if ownOk q.2 own = true then noEx (cLoop own g t a q.1 (q.2.wipe own) []) >>= fun r => .ok (r.1, r.2.back q.2 own) else .bad) := ap rfl
@[simp] theorem noEx_ok {α : Type} (x : α) : noEx (Rs.ok x) = .ok x := ap rfl
@[simp] theorem eCall_ap {F : FnS} : eCall n F As (⟨k0, b0⟩ : En) = (As (⟨k0, b0⟩ : En) >>= fun p => if p.1.length = n then toRs (F p.1 (0, 0)) (fun _ => p.2) else .bad) := ap rfl
@[simp] theorem eCallB_ap {F : FnS} : eCallB n i F As (⟨k0, b0⟩ : En) = (match k0[i]? with
  | some .bx => As (⟨k0, b0⟩ : En) >>= fun p => if p.1.length = n then toRs (F p.1 p.2.bx) (fun b => { p.2 with bx := b }) else .bad
  | _ => .bad) := ap rfl
@[simp] theorem eCallK_ap {F : FnS} {js : List Nat} : eCallK n js F As (⟨k0, b0⟩ : En) = (As (⟨k0, b0⟩ : En) >>= fun p => if p.1.length = n ∧ js.length = n then toRs (F (put PyData.none js p.1) (0, 0)) (fun _ => p.2) else .bad) := ap rfl
@[simp] theorem toRs_ok {d : D} {bx : Int × Int} {f : (Int × Int) → En} : toRs (.ok d bx) f = .ok (d, f bx) := ap rfl
@[simp] theorem toRs_nw {d : List D} {bx : Int × Int} {f : (Int × Int) → En} : toRs (.nw d bx) f = .ok (.list d, f bx) := ap rfl
@[simp] theorem evP_nil : evP [] (⟨k0, b0⟩ : En) = .ok ([], (⟨k0, b0⟩ : En)) := ap rfl
@[simp] theorem evP_fr {ll : List PIt} : evP (.fr a :: ll) (⟨k0, b0⟩ : En) = (a (⟨k0, b0⟩ : En) >>= fun p => evP ll p.2 >>= fun q => .ok (.fz p.1 :: q.1, q.2)) := ap rfl
@[simp] theorem evP_nw {ll : List PIt} : evP (.nw N :: ll) (⟨k0, b0⟩ : En) = (N (⟨k0, b0⟩ : En) >>= fun p => evP ll p.2 >>= fun q => .ok (.ow p.1 :: q.1, q.2)) := ap rfl
@[simp] theorem sPar_ap {is : List Nat} {ll : List PIt} : sPar is ll (⟨k0, b0⟩ : En) = (evP ll (⟨k0, b0⟩ : En) >>= fun q => if q.1.length = is.length then .ok (.nx (putAll is q.1 q.2)) else .bad) := ap rfl
@[simp] theorem putAll_nil {ss : List Sl} : putAll [] ss en = en := ap rfl
@[simp] theorem putAll_cons {is : List Nat} {s : Sl} {ss : List Sl} : putAll (i :: is) (s :: ss) (⟨k0, b0⟩ : En) = putAll is ss ((⟨k0, b0⟩ : En).put i s) := ap rfl
@[simp] theorem sUnp_ap : sUnp g a (⟨k0, b0⟩ : En) = (a (⟨k0, b0⟩ : En) >>= fun p => liftO (g p.1 p.2) >>= fun e => .ok (.nx e)) := ap rfl
@[simp] theorem eBx_ap {c : Int} : eBx i c (⟨k0, b0⟩ : En) = (match k0[i]? with
  | some .bx => liftO (bxGet (⟨k0, b0⟩ : En).bx c) >>= fun z => .ok (.int z, (⟨k0, b0⟩ : En))
  | _ => .bad) := ap rfl
@[simp] theorem sBx_ap {c : Int} : sBx i c a (⟨k0, b0⟩ : En) = (a (⟨k0, b0⟩ : En) >>= fun p => match p.2.sl[i]? with
  | some .bx => liftO ((asI p.1).bind fun v => bxSet p.2.bx v c) >>= fun b => .ok (.nx { p.2 with bx := b })
  | _ => .bad) := ap rfl
@[simp] theorem eSqLen_ap : eSqLen i (⟨k0, b0⟩ : En) = (match k0[i]? with
  | some (.sq ns) => .ok (.int ns.length, (⟨k0, b0⟩ : En))
  | _ => .bad) := ap rfl
@[simp] theorem eSqIx_ap : eSqIx i a (⟨k0, b0⟩ : En) = (match k0[i]? with
  | some (.sq ns) => a (⟨k0, b0⟩ : En) >>= fun p => liftO ((asI p.1).bind fun k => L2.atI ns k) >>= fun z => .ok (.int z, p.2)
  | _ => .bad) := ap rfl
variable {x y : Int} {d e : D} {ds es : List D} {z w : Str} {p q : Bool} {bb : Int × Int}
@[simp] theorem bxGet0 : bxGet bb 0 = some bb.1 := ap rfl
@[simp] theorem bxGet1 : bxGet bb 1 = some bb.2 := ap rfl
@[simp] theorem bxSet0 : bxSet bb x 0 = some (x, bb.2) := ap rfl
@[simp] theorem bxSet1 : bxSet bb x 1 = some (bb.1, x) := ap rfl
@[simp] theorem asI_int : asI (.int x) = some x := ap rfl
@[simp] theorem asB_bool : asB (.bool p) = some p := ap rfl
@[simp] theorem asS_str : asS (.str z) = some z := ap rfl
@[simp] theorem asStr_str : asStr (.str z) = some () := ap rfl
@[simp] theorem asSeq_list : asSeq (.list ds) = some ds := ap rfl
@[simp] theorem asSeq_tuple : asSeq (.tuple ds) = some ds := ap rfl
@[simp] theorem dAdd_ii : dAdd (.int x) (.int y) = some (.int (x + y)) := ap rfl
@[simp] theorem dAdd_ss : dAdd (.str z) (.str w) = if z.length + w.length ≤ sizeLine then some (.str (z ++ w)) else none := ap rfl
@[simp] theorem dAdd_ll : dAdd (.list ds) (.list es) = if ds.length + es.length ≤ sizeLine then some (.list (ds ++ es)) else none := ap rfl
@[simp] theorem dAdd_tt : dAdd (.tuple ds) (.tuple es) = if ds.length + es.length ≤ sizeLine then some (.tuple (ds ++ es)) else none := ap rfl
@[simp] theorem dSub_ii : dSub (.int x) (.int y) = some (.int (x - y)) := ap rfl
@[simp] theorem dMod_ii : dMod (.int x) (.int y) = if cMod x y = true then some (.int (x % y)) else none := ap rfl
@[simp] theorem dDiv_ii : dDiv (.int x) (.int y) = if cDiv x y = true then some (.int (x / y)) else none := ap rfl
@[simp] theorem dPow_ii : dPow (.int x) (.int y) = if cPow x y = true then some (.int (x ^ y.toNat)) else none := ap rfl
@[simp] theorem dMul_ii : dMul (.int x) (.int y) = if cMul x y = true then some (.int (x * y)) else none := ap rfl
@[simp] theorem dNeg_i : dNeg (.int x) = some (.int (-x)) := ap rfl
@[simp] theorem dEq_ii : dEq (.int x) (.int y) = some (.bool (x == y)) := ap rfl
@[simp] theorem dNe_ii : dNe (.int x) (.int y) = some (.bool (!(x == y))) := ap rfl
@[simp] theorem dEq_ss : dEq (.str z) (.str w) = some (.bool (z == w)) := ap rfl
@[simp] theorem dNe_ss : dNe (.str z) (.str w) = some (.bool (!(z == w))) := ap rfl
theorem dEq_sh (h : SeqAt.shaped d = true) (h' : SeqAt.shaped e = true) : dEq d e = some (.bool (PyData.eqv d e)) := by
  cases d <;> cases e <;> first | (simp [dEq, h, h']; done) | (simp [dEq, PyData.eqv]; done)
theorem dNe_sh (h : SeqAt.shaped d = true) (h' : SeqAt.shaped e = true) : dNe d e = some (.bool (!PyData.eqv d e)) := by
  cases d <;> cases e <;> first | (simp [dNe, h, h']; done) | (simp [dNe, PyData.eqv]; done)
@[simp] theorem dLt_ii : dLt (.int x) (.int y) = some (.bool (decide (x < y))) := ap rfl
@[simp] theorem dGt_ii : dGt (.int x) (.int y) = some (.bool (decide (y < x))) := ap rfl
@[simp] theorem dLe_ii : dLe (.int x) (.int y) = some (.bool (decide (x ≤ y))) := ap rfl
@[simp] theorem dGe_ii : dGe (.int x) (.int y) = some (.bool (decide (y ≤ x))) := ap rfl
@[simp] theorem dIx_l : dIx (.list ds) (.int x) = L2.atI ds x := ap rfl
@[simp] theorem dIx_t : dIx (.tuple ds) (.int x) = L2.atI ds x := ap rfl
section
variable {α : Type} {x0 x1 x2 x3 x4 : α} {l : List α}
@[simp] theorem atI0 : L2.atI (x0 :: l) 0 = some x0 := by simp [L2.atI, ixN]
@[simp] theorem atI1 : L2.atI (x0 :: x1 :: l) 1 = some x1 := by
  have h : (1 : Int) < ((l.length : Int) + 1 + 1) := by omega
  simp [L2.atI, ixN, h]
@[simp] theorem atI2 : L2.atI (x0 :: x1 :: x2 :: l) 2 = some x2 := by
  have h : (2 : Int) < ((l.length : Int) + 1 + 1 + 1) := by omega
  simp [L2.atI, ixN, h]
@[simp] theorem atI3 : L2.atI (x0 :: x1 :: x2 :: x3 :: l) 3 = some x3 := by
  have h : (3 : Int) < ((l.length : Int) + 1 + 1 + 1 + 1) := by omega
  simp [L2.atI, ixN, h]
@[simp] theorem atI4 : L2.atI (x0 :: x1 :: x2 :: x3 :: x4 :: l) 4 = some x4 := by
  have h : (4 : Int) < ((l.length : Int) + 1 + 1 + 1 + 1 + 1) := by omega
  simp [L2.atI, ixN, h]
end
@[simp] theorem dSl_l {lo hi : Option Int} : dSl (.list ds) lo hi = some (.list (cutD ds lo hi)) := ap rfl
@[simp] theorem dSl_t {lo hi : Option Int} : dSl (.tuple ds) lo hi = some (.tuple (cutD ds lo hi)) := ap rfl
@[simp] theorem dLen_l : dLen [.list ds] = some (.int ds.length) := ap rfl
@[simp] theorem dLen_t : dLen [.tuple ds] = some (.int ds.length) := ap rfl
@[simp] theorem dInt_i : dInt [.int x] = some (.int x) := ap rfl
@[simp] theorem dAbs_i : dAbs [.int x] = some (.int (if x < 0 then -x else x)) := ap rfl
@[simp] theorem dStr_i : dStr [.int x] = if x.natAbs.log2 < 1920 then some (.str (toString x)) else none := ap rfl
@[simp] theorem dStr_s : dStr [.str z] = some (.str z) := ap rfl
@[simp] theorem mkT_ap : mkT ds = if ds.length ≤ sizeLine then some (.tuple ds) else none := ap rfl
@[simp] theorem mkL_ap : mkL ds = if ds.length ≤ sizeLine then some (.list ds) else none := ap rfl
@[simp] theorem nwL_ap : nwL ds = if ds.length ≤ sizeLine then some ds else none := ap rfl
@[simp] theorem cMul_r (h1 : -(2 ^ 64) < y) (h2 : y < 2 ^ 64) : cMul x y = true := by unfold cMul; rw [decide_eq_true h1, decide_eq_true h2]; simp
@[simp] theorem cMul_l (h1 : -(2 ^ 64) < x) (h2 : x < 2 ^ 64) : cMul x y = true := by unfold cMul; rw [decide_eq_true h1, decide_eq_true h2]; simp
@[simp] theorem log2_9000 {n : Nat} (h : n < 2 ^ 60) : n.log2 < 9000 := by
  by_cases h2 : n = 0
  · subst h2; decide
  · have := (Nat.log2_lt h2).mpr h
    omega
@[simp] theorem log2_1920 {n : Nat} (h : n < 2 ^ 60) : n.log2 < 1920 := by
  by_cases h2 : n = 0
  · subst h2; decide
  · have := (Nat.log2_lt h2).mpr h
    omega
@[simp] theorem cMod_ap : cMod x y = decide (0 < y) := ap rfl
@[simp] theorem cDiv_ap : cDiv x y = (decide (0 < y) && decide (y.natAbs.log2 < 9000)) := ap rfl
@[simp] theorem cPow_ap : cPow x y = (decide (0 ≤ y) && decide (y ≤ 1000000) && decide (x.natAbs < 2 ^ 64)) := ap rfl
@[simp] theorem finF_rt : finF (.ok (.rt d en)) = .ok d en.bx := ap rfl
@[simp] theorem finF_rn : finF (.ok (.rn ds en)) = .nw ds en.bx := ap rfl
@[simp] theorem finF_nx : finF (.ok (.nx en)) = .ok .none en.bx := ap rfl
@[simp] theorem dIsN_n : dIsN d .none = some (.bool (match d with | .none => true | _ => false)) := by cases d <;> rfl
@[simp] theorem dNotN_n : dNotN d .none = some (.bool (match d with | .none => false | _ => true)) := by cases d <;> rfl
@[simp] theorem dList_l : dList [.list ds] = some (.list ds) := ap rfl
@[simp] theorem dList_t : dList [.tuple ds] = some (.list ds) := ap rfl
@[simp] theorem dTuple_l : dTuple [.list ds] = some (.tuple ds) := ap rfl
@[simp] theorem dTuple_t : dTuple [.tuple ds] = some (.tuple ds) := ap rfl
@[simp] theorem nList_l : nList [.list ds] = some ds := ap rfl
@[simp] theorem nList_t : nList [.tuple ds] = some ds := ap rfl
end
theorem runF_eq {bx : Bool} {m : Nat} {A : DSt} {ds : List D} {b : Int × Int} : runF bx m A ds b = finF (A (enF bx m ds b)) := ap rfl
end DL

namespace DL
open PySem L2
/-! ### loops and comprehensions, read -/
section
variable {k0 k1 : List Sl} {b0 b1 : Int × Int} {i v : Nat} {vs own : List Nat} {s : Sl} {k : List Sl}
@[simp] theorem wipe_nil : (⟨k0, b0⟩ : En).wipe [] = ⟨k0, b0⟩ := ap rfl
@[simp] theorem wipe_cons : (⟨k0, b0⟩ : En).wipe (v :: vs) = ((⟨k0, b0⟩ : En).wipe vs).put v .no := ap rfl
@[simp] theorem back_nil : (⟨k0, b0⟩ : En).back ⟨k1, b1⟩ [] = ⟨k0, b0⟩ := ap rfl
@[simp] theorem back_cons : (⟨k0, b0⟩ : En).back ⟨k1, b1⟩ (v :: vs) = ((⟨k0, b0⟩ : En).back ⟨k1, b1⟩ vs).put v (k1.getD v .no) := ap rfl
def ownS (k : List Sl) (own : List Nat) : Bool := own.all fun i => match k[i]? with | some (.ow _) => false | some .bx => false | _ => true
@[simp] theorem ownOk_ap : ownOk (⟨k0, b0⟩ : En) own = ownS k0 own := ap rfl
@[simp] theorem ownS_nil : ownS k0 [] = true := ap rfl
@[simp] theorem ownS_cons : ownS k0 (v :: vs) = ((match k0[v]? with | some (.ow _) => false | some .bx => false | _ => true) && ownS k0 vs) := ap rfl
/-- a loop: the invariant holds behind it -/
theorem loop_inv {g : DGt} {S : DSt} (I : En → Prop) : ∀ {ds : List D} {en : En}, I en → (∀ d ∈ ds, ∀ e, I e → ∃ e1, g d e = some e1 ∧ ∃ e2, (S e1 = .ok (.nx e2) ∨ S e1 = .ok (.ct e2)) ∧ I e2) → ∃ e2, sLoop g S ds en = .ok (.nx e2) ∧ I e2
  | [], en, h0, _ => ⟨en, rfl, h0⟩
  | d :: ds, en, h0, hs => by
    obtain ⟨e1, h1, e2, h2, h3⟩ := hs d List.mem_cons_self en h0
    obtain ⟨e3, h4, h5⟩ := loop_inv I (ds := ds) h3 fun d' hd => hs d' (List.mem_cons_of_mem _ hd)
    refine ⟨e3, ?_, h5⟩
    rcases h2 with h2 | h2 <;> simp [sLoop, h1, h2, h4]
theorem loop_invN {g : DGt} {S : DSt} : ∀ {ds : List D} (I : Nat → En → Prop) {en : En}, I 0 en → (∀ k d, ds[k]? = some d → ∀ e, I k e → ∃ e1, g d e = some e1 ∧ ∃ e2, (S e1 = .ok (.nx e2) ∨ S e1 = .ok (.ct e2)) ∧ I (k + 1) e2) → ∃ e2, sLoop g S ds en = .ok (.nx e2) ∧ I ds.length e2
  | [], I, en, h0, _ => ⟨en, rfl, h0⟩
  | d :: ds, I, en, h0, hs => by
    obtain ⟨e1, h1, e2, h2, h3⟩ := hs 0 d rfl en h0
    obtain ⟨e3, h4, h5⟩ := loop_invN (fun k => I (k + 1)) (ds := ds) h3 fun k d' hd e he => hs (k + 1) d' (by simpa using hd) e he
    refine ⟨e3, ?_, h5⟩
    rcases h2 with h2 | h2 <;> simp [sLoop, h1, h2, h4]
/-- a loop whose end is known turn by turn -/
theorem loop_fold {σ : Type} {g : DGt} {S : DSt} (st : σ → En) (f : σ → D → σ) : ∀ {ds : List D} {z : σ}, (∀ d ∈ ds, ∀ z, ∃ e1, g d (st z) = some e1 ∧ (S e1 = .ok (.nx (st (f z d))) ∨ S e1 = .ok (.ct (st (f z d))))) → sLoop g S ds (st z) = .ok (.nx (st (ds.foldl f z)))
  | [], z, _ => rfl
  | d :: ds, z, hs => by
    obtain ⟨e1, h1, h2⟩ := hs d List.mem_cons_self z
    have ih := loop_fold st f (ds := ds) (z := f z d) fun d' hd => hs d' (List.mem_cons_of_mem _ hd)
    rcases h2 with h2 | h2 <;> simp [sLoop, h1, h2, ih]
/-- a comprehension of draws -/
theorem comp_inv {own : List Nat} {g : DGt} {t : DTt} {A : DEn} {k0 : List Sl} (Pv : D → Prop) : ∀ {ds acc : List D} {b : Int × Int}, (∀ d ∈ ds, ∀ b, ∃ k1, g d ⟨k0, b⟩ = some ⟨k1, b⟩ ∧ (∀ b, (⟨k1, b⟩ : En).wipe own = ⟨k0, b⟩) ∧ ∃ p b1, t ⟨k1, b⟩ = .ok (p, ⟨k1, b1⟩) ∧
      (p = true → ∃ v b2, A ⟨k1, b1⟩ = .ok (v, ⟨k1, b2⟩) ∧ Pv v)) → acc.length + ds.length ≤ sizeLine →
    ∃ zs b', cLoop own g t A ds ⟨k0, b⟩ acc = .ok (acc ++ zs, ⟨k0, b'⟩) ∧ (∀ z ∈ zs, Pv z) ∧ zs.length ≤ ds.length
  | [], acc, b, _, _ => ⟨[], b, by simp [cLoop], by simp, Nat.le_refl _⟩
  | d :: ds, acc, b, h, hl => by
    obtain ⟨k1, h1, hw, p, b1, h2, h3⟩ := h d List.mem_cons_self b
    rw [List.length_cons] at hl
    have ih := fun acc b => comp_inv (acc := acc) (b := b) Pv (fun d' hd => h d' (List.mem_cons_of_mem _ hd))
    by_cases c : p = true
    · obtain ⟨v, b2, h4, h5⟩ := h3 c
      obtain ⟨zs, b', e, e1, e2⟩ := ih (acc ++ [v]) b2 (by rw [List.length_append, List.length_singleton]; omega)
      refine ⟨v :: zs, b', ?_, fun z hz => (List.mem_cons.mp hz).elim (fun q => by rw [q]; exact h5) (e1 z), by rw [List.length_cons, List.length_cons]; omega⟩
      have hlt : acc.length < sizeLine := by omega
      simp [cLoop, h1, h2, c, h4, hw, e, hlt]
    · obtain ⟨zs, b', e, e1, e2⟩ := ih acc b1 (by omega)
      refine ⟨zs, b', ?_, e1, by rw [List.length_cons]; omega⟩
      simp [cLoop, h1, h2, c, hw, e]
/-- the same where every turn gives an item -/
theorem comp_invT {own : List Nat} {g : DGt} {A : DEn} {k0 : List Sl} (Pv : D → Prop) : ∀ {ds acc : List D} {b : Int × Int}, (∀ d ∈ ds, ∀ b, ∃ k1, g d ⟨k0, b⟩ = some ⟨k1, b⟩ ∧ (∀ b, (⟨k1, b⟩ : En).wipe own = ⟨k0, b⟩) ∧ ∃ v b2, A ⟨k1, b⟩ = .ok (v, ⟨k1, b2⟩) ∧ Pv v) → acc.length + ds.length ≤ sizeLine →
    ∃ zs b', cLoop own g tTrue A ds ⟨k0, b⟩ acc = .ok (acc ++ zs, ⟨k0, b'⟩) ∧ (∀ z ∈ zs, Pv z) ∧ zs.length = ds.length
  | [], acc, b, _, _ => ⟨[], b, by simp [cLoop], by simp, rfl⟩
  | d :: ds, acc, b, h, hl => by
    obtain ⟨k1, h1, hw, v, b2, h4, h5⟩ := h d List.mem_cons_self b
    rw [List.length_cons] at hl
    obtain ⟨zs, b', e, e1, e2⟩ := comp_invT (acc := acc ++ [v]) (b := b2) Pv (fun d' hd => h d' (List.mem_cons_of_mem _ hd)) (by rw [List.length_append, List.length_singleton]; omega)
    refine ⟨v :: zs, b', ?_, fun z hz => (List.mem_cons.mp hz).elim (fun q => by rw [q]; exact h5) (e1 z), by rw [List.length_cons, List.length_cons]; omega⟩
    have hlt : acc.length < sizeLine := by omega
    simp [cLoop, h1, h4, hw, e, hlt]
/-- a comprehension of known values -/
theorem comp_map {own : List Nat} {g : DGt} {t : DTt} {A : DEn} {k0 : List Sl} {b : Int × Int} (p : D → Bool) (f : D → D) : ∀ {ds acc : List D}, (∀ d ∈ ds, ∃ k1, g d ⟨k0, b⟩ = some ⟨k1, b⟩ ∧ (⟨k1, b⟩ : En).wipe own = ⟨k0, b⟩ ∧ t ⟨k1, b⟩ = .ok (p d, ⟨k1, b⟩) ∧
      (p d = true → A ⟨k1, b⟩ = .ok (f d, ⟨k1, b⟩))) → acc.length + ds.length ≤ sizeLine → cLoop own g t A ds ⟨k0, b⟩ acc = .ok (acc ++ (ds.filter p).map f, ⟨k0, b⟩)
  | [], acc, _, _ => by simp [cLoop]
  | d :: ds, acc, h, hl => by
    obtain ⟨k1, h1, hw, h2, h3⟩ := h d List.mem_cons_self
    rw [List.length_cons] at hl
    have ih := fun acc => comp_map (acc := acc) p f (fun d' hd => h d' (List.mem_cons_of_mem _ hd))
    by_cases c : p d = true
    · have e := ih (acc ++ [f d]) (by rw [List.length_append, List.length_singleton]; omega)
      have hlt : acc.length < sizeLine := by omega
      simp [cLoop, h1, h2, c, h3 c, hw, e, hlt]
    · have e := ih acc (by omega)
      simp [cLoop, h1, h2, c, hw, e]
theorem comp_mapT {own : List Nat} {g : DGt} {A : DEn} {k0 : List Sl} {b : Int × Int} (f : D → D) {ds acc : List D} (h : ∀ d ∈ ds, ∃ k1, g d ⟨k0, b⟩ = some ⟨k1, b⟩ ∧ (⟨k1, b⟩ : En).wipe own = ⟨k0, b⟩ ∧ A ⟨k1, b⟩ = .ok (f d, ⟨k1, b⟩)) (hl : acc.length + ds.length ≤ sizeLine) :
    cLoop own g tTrue A ds ⟨k0, b⟩ acc = .ok (acc ++ ds.map f, ⟨k0, b⟩) := by
  have e := comp_map (t := tTrue) (fun _ => true) f (ds := ds) (acc := acc) (b := b) (k0 := k0) (own := own) (g := g) (A := A) (fun d hd => by
    obtain ⟨k1, h1, h2, h3⟩ := h d hd
    exact ⟨k1, h1, h2, rfl, fun _ => h3⟩) hl
  rw [e, List.filter_eq_self.mpr fun _ _ => rfl]
theorem rg_mem {n : Nat} {d : D} (h : d ∈ rgD 0 n) : ∃ i : Nat, i < n ∧ d = .int (i : Nat) := by
  unfold rgD at h
  obtain ⟨i, hi, e⟩ := List.mem_map.mp h
  exact ⟨i, List.mem_range.mp hi, by rw [← e, Int.zero_add]⟩
theorem rg_len {lo : Int} {n : Nat} : (rgD lo n).length = n := by unfold rgD; rw [List.length_map, List.length_range]
theorem atI_ok {α : Type} {xs : List α} {i : Int} (h0 : 0 ≤ i) (h1 : i < xs.length) : L2.atI xs i = xs[i.toNat]? := by
  simp [L2.atI, ixN, h0, h1]
theorem atI_natE {α : Type} {xs : List α} {i : Nat} : L2.atI xs (i : Nat) = xs[i]? := by
  by_cases h : i < xs.length
  · rw [atI_ok (by omega) (by omega)]
    rfl
  · rw [List.getElem?_eq_none (by omega)]
    simp [L2.atI, ixN, h]
theorem atI_some {α : Type} {xs : List α} {i : Int} (h0 : 0 ≤ i) (h1 : i < xs.length) : ∃ x, L2.atI xs i = some x ∧ x ∈ xs := by
  have hj : i.toNat < xs.length := by omega
  exact ⟨xs[i.toNat], by rw [atI_ok h0 h1, List.getElem?_eq_getElem hj], List.getElem_mem _⟩
theorem size_small {n : Nat} (h : n ≤ 1000) : n ≤ sizeLine := Nat.le_trans h (by decide)
end
end DL

namespace DL
open PySem L2
/-! ### texts -/
def tx (i : Int) : Str := toString i
theorem join_nil {s : Str} : Txt.join s [] = "" := rfl
theorem join_one {s a : Str} : Txt.join s [a] = a := rfl
theorem join_eq {s : Str} {l : List Str} : Txt.join s l = Str.join s l := StrLaws.glued_eq_join s l
theorem join_two {s a b : Str} {l : List Str} : Txt.join s (a :: b :: l) = a ++ s ++ Txt.join s (b :: l) := by rw [join_eq, join_eq]; rfl
theorem join_len {s : Str} {l : List Str} {c k n : Nat} (h : ∀ y ∈ l, y.length ≤ k) (hc : l.length ≤ c) (hs : s.length ≤ n) : (l.map (·.length)).sum + l.length * s.length ≤ c * (k + n) ∧ (Txt.join s l).length ≤ c * (k + n) := by
  have h1 : (l.map (·.length)).sum ≤ l.length * k := by
    clear hc
    induction l with
    | nil => exact Nat.zero_le _
    | cons x r ih =>
      rw [List.map_cons, List.sum_cons, List.length_cons, Nat.succ_mul]
      have a1 := ih fun y hy => h y (List.mem_cons_of_mem _ hy)
      have a2 := h x List.mem_cons_self
      omega
  have h2 : l.length * s.length ≤ l.length * n := Nat.mul_le_mul_left _ hs
  have h3 : l.length * (k + n) ≤ c * (k + n) := Nat.mul_le_mul_right _ hc
  rw [Nat.mul_add] at h3
  have h4 := StrLaws.join_length_le s l
  rw [← join_eq] at h4
  omega
theorem all_strs : ∀ ys : List Str, allO asS (ys.map .str) = some ys
  | [] => rfl
  | y :: ys => by
    have ih := all_strs ys
    show ((asS (.str y)).bind fun a => (allO asS (ys.map .str)).map fun r => a :: r) = _
    rw [ih]
    rfl
theorem joinD {s : Str} {ys : List Str} (h : (ys.map (·.length)).sum + ys.length * s.length ≤ 16777216) : dJoin (.str s) [.list (ys.map .str)] = some (.str (Txt.join s ys)) := by
  simp only [dJoin]
  rw [all_strs]
  exact if_pos h
theorem joinD' {s : Str} {ys : List Str} {ds : List D} (e : ds = ys.map .str) (h : (ys.map (·.length)).sum + ys.length * s.length ≤ 16777216) : dJoin (.str s) [.list ds] = some (.str (Txt.join s ys)) := by
  rw [e]; exact joinD h
/-- data that str shows -/
inductive Texts : List D → List Str → Prop
  | nil : Texts [] []
  | cons {d : D} {y : Str} {ds : List D} {ys : List Str} : dStr [d] = some (.str y) → Texts ds ys → Texts (d :: ds) (y :: ys)
theorem Texts.map {ds : List D} {ys : List Str} (h : Texts ds ys) : (ds.map fun d => (dStr [d]).getD .none) = ys.map .str := by
  induction h with
  | nil => rfl
  | cons h _ ih => rw [List.map_cons, List.map_cons, ih, h]; rfl
theorem Texts.each {ds : List D} {ys : List Str} (h : Texts ds ys) : ∀ d ∈ ds, ∃ y, dStr [d] = some (.str y) := by
  induction h with
  | nil => intro d hd; cases hd
  | cons h _ ih => exact fun d hd => (List.mem_cons.mp hd).elim (fun q => by rw [q]; exact ⟨_, h⟩) (ih d)
theorem Texts.len {ds : List D} {ys : List Str} (h : Texts ds ys) : ds.length = ys.length := by
  induction h with
  | nil => rfl
  | cons _ _ ih => rw [List.length_cons, List.length_cons, ih]
theorem texts_of {α : Type} {f : α → D} {g : α → Str} : ∀ {l : List α}, (∀ a ∈ l, dStr [f a] = some (.str (g a))) → Texts (l.map f) (l.map g)
  | [], _ => .nil
  | a :: l, h => .cons (h a List.mem_cons_self) (texts_of fun b hb => h b (List.mem_cons_of_mem _ hb))
theorem dStr_tx {i : Int} (h : i.natAbs < 2 ^ 60) : dStr [.int i] = some (.str (tx i)) := by
  simp [h, tx]
theorem list_of {α : Type} {f : α → D} {P : α → Prop} {ds : List D} (h : ∀ d ∈ ds, ∃ a, d = f a ∧ P a) : ∃ l : List α, ds = l.map f ∧ ∀ a ∈ l, P a := by
  induction ds with
  | nil => exact ⟨[], rfl, by simp⟩
  | cons d ds ih =>
    obtain ⟨i, rfl, hi⟩ := h d List.mem_cons_self
    obtain ⟨ns, e, hn⟩ := ih fun d' hd => h d' (List.mem_cons_of_mem _ hd)
    exact ⟨i :: ns, by rw [e]; rfl, fun n hm => (List.mem_cons.mp hm).elim (fun q => by rw [q]; exact hi) (hn n)⟩
theorem tx_len {i : Int} (h0 : 0 ≤ i) (h : i < 1000) : (tx i).length ≤ 3 := by
  obtain ⟨n, rfl⟩ : ∃ n : Nat, i = n := ⟨i.toNat, by omega⟩
  have h1 : n < 1000 := by omega
  have key : ∀ n : Fin 1000, (tx ((n : Nat) : Int)).length ≤ 3 := by decide +kernel
  exact key ⟨n, h1⟩
theorem tx_pos {i : Int} (h0 : 0 ≤ i) (h : i < 1000) : 1 ≤ (tx i).length := by
  obtain ⟨n, rfl⟩ : ∃ n : Nat, i = n := ⟨i.toNat, by omega⟩
  have h1 : n < 1000 := by omega
  have key : ∀ n : Fin 1000, 1 ≤ (tx ((n : Nat) : Int)).length := by decide +kernel
  exact key ⟨n, h1⟩
/-! ### sorting -/
theorem srt_int (l : List Int) : srtOk (l.map .int) = true := by
  simp [srtOk, PySem.W.alike, noTuple, PyData.depth]
theorem srt_str (l : List Str) : srtOk (l.map .str) = true := by
  simp [srtOk, PySem.W.alike, noTuple, PyData.depth]
theorem srt_pair (l : List (Int × Int)) : srtOk (l.map fun p => .tuple [.int p.1, .int p.2]) = true := by
  simp [srtOk, PySem.W.alike, PySem.W.alikeAll, nonEmptyT, PyData.depth, PyData.depthAll]
def iLe (a b : Int) : Bool := dle (.int a) (.int b)
theorem sorted_map {α : Type} {f : α → D} {r : α → α → Bool} (h : ∀ a b, r a b = dle (f a) (f b)) (l : List α) (ok : srtOk (l.map f) = true) : dSorted [.list (l.map f)] = some (.list ((l.mergeSort r).map f)) := by
  have e : dSorted [.list (l.map f)] = if srtOk (l.map f) = true then some (.list ((l.map f).mergeSort dle)) else none := rfl
  rw [e, if_pos ok, List.map_mergeSort fun a _ b _ => h a b]
theorem sorted_mapM {α : Type} {f : α → D} {r : α → α → Bool} (l : List α) (h : ∀ a ∈ l, ∀ b ∈ l, r a b = dle (f a) (f b)) (ok : srtOk (l.map f) = true) : dSorted [.list (l.map f)] = some (.list ((l.mergeSort r).map f)) := by
  have e : dSorted [.list (l.map f)] = if srtOk (l.map f) = true then some (.list ((l.map f).mergeSort dle)) else none := rfl
  rw [e, if_pos ok, List.map_mergeSort h]
theorem sort_int (l : List Int) : dSorted [.list (l.map .int)] = some (.list ((l.mergeSort iLe).map .int)) := sorted_map (fun _ _ => rfl) l (srt_int l)
def pLe (a b : Int × Int) : Bool := dle (.tuple [.int a.1, .int a.2]) (.tuple [.int b.1, .int b.2])
theorem sort_pair (l : List (Int × Int)) : dSorted [.list (l.map fun p => .tuple [.int p.1, .int p.2])] = some (.list ((l.mergeSort pLe).map fun p => .tuple [.int p.1, .int p.2])) := sorted_map (fun _ _ => rfl) l (srt_pair l)
/-! ### over typed lists -/
theorem comp_mapA {α : Type} {own : List Nat} {g : DGt} {t : DTt} {A : DEn} {k0 : List Sl} {b : Int × Int} (e : α → D) (p : α → Bool) (f : α → D) : ∀ {l : List α} {acc : List D}, (∀ a ∈ l, ∃ k1, g (e a) ⟨k0, b⟩ = some ⟨k1, b⟩ ∧ (⟨k1, b⟩ : En).wipe own = ⟨k0, b⟩ ∧ t ⟨k1, b⟩ = .ok (p a, ⟨k1, b⟩) ∧
      (p a = true → A ⟨k1, b⟩ = .ok (f a, ⟨k1, b⟩))) → acc.length + l.length ≤ sizeLine → cLoop own g t A (l.map e) ⟨k0, b⟩ acc = .ok (acc ++ (l.filter p).map f, ⟨k0, b⟩)
  | [], acc, _, _ => by simp [cLoop]
  | d :: ds, acc, h, hl => by
    obtain ⟨k1, h1, hw, h2, h3⟩ := h d List.mem_cons_self
    rw [List.length_cons] at hl
    have ih := fun acc => comp_mapA (acc := acc) e p f (fun d' hd => h d' (List.mem_cons_of_mem _ hd))
    by_cases c : p d = true
    · have e := ih (acc ++ [f d]) (by rw [List.length_append, List.length_singleton]; omega)
      have hlt : acc.length < sizeLine := by omega
      simp [cLoop, h1, h2, c, h3 c, hw, e, hlt]
    · have e := ih acc (by omega)
      simp [cLoop, h1, h2, c, hw, e]
theorem comp_mapL {α : Type} {own : List Nat} {g : DGt} {t : DTt} {A : DEn} {k0 : List Sl} {b : Int × Int} (e : α → D) (p : α → Bool) (f : α → D) {l : List α} (hl : l.length ≤ 1000) (h : ∀ a ∈ l, ∃ k1, g (e a) ⟨k0, b⟩ = some ⟨k1, b⟩ ∧ (⟨k1, b⟩ : En).wipe own = ⟨k0, b⟩ ∧ t ⟨k1, b⟩ = .ok (p a, ⟨k1, b⟩) ∧
      (p a = true → A ⟨k1, b⟩ = .ok (f a, ⟨k1, b⟩))) : cLoop own g t A (l.map e) ⟨k0, b⟩ [] = .ok ((l.filter p).map f, ⟨k0, b⟩) := comp_mapA (acc := []) e p f h (by rw [List.length_nil, Nat.zero_add]; exact size_small hl)
theorem comp_mapLT {α : Type} {own : List Nat} {g : DGt} {A : DEn} {k0 : List Sl} {b : Int × Int} (e : α → D) (f : α → D) {l : List α} (hl : l.length ≤ 1000) (h : ∀ a ∈ l, ∃ k1, g (e a) ⟨k0, b⟩ = some ⟨k1, b⟩ ∧ (⟨k1, b⟩ : En).wipe own = ⟨k0, b⟩ ∧ A ⟨k1, b⟩ = .ok (f a, ⟨k1, b⟩)) :
    cLoop own g tTrue A (l.map e) ⟨k0, b⟩ [] = .ok (l.map f, ⟨k0, b⟩) := by
  have z := comp_mapL (own := own) (g := g) (t := tTrue) (A := A) (k0 := k0) (b := b) e (fun _ => true) f hl fun a ha => by
    obtain ⟨k1, h1, h2, h3⟩ := h a ha
    exact ⟨k1, h1, h2, rfl, fun _ => h3⟩
  rw [z, List.filter_eq_self.mpr fun _ _ => rfl]
theorem loop_foldL {α σ : Type} {g : DGt} {S : DSt} (e : α → D) (st : σ → En) (f : σ → α → σ) : ∀ {l : List α} {z : σ}, (∀ a ∈ l, ∀ z, ∃ e1, g (e a) (st z) = some e1 ∧ S e1 = .ok (.nx (st (f z a)))) → sLoop g S (l.map e) (st z) = .ok (.nx (st (l.foldl f z)))
  | [], z, _ => rfl
  | d :: ds, z, hs => by
    obtain ⟨e1, h1, h2⟩ := hs d List.mem_cons_self z
    have ih := loop_foldL e st f (l := ds) (z := f z d) fun d' hd => hs d' (List.mem_cons_of_mem _ hd)
    simp [sLoop, h1, h2, ih]
theorem rg_map {n : Nat} : rgD 0 n = (List.range n).map fun i => .int (i : Nat) := by
  unfold rgD
  simp
end DL

namespace Lw
open PySem L2 PySem.Spec PyProof.Rows DL
/-! ### the text by places -/
def top (i : Nat) : Stmt := PySem.Challenge.pw_outsoonest_k70_whole_houses_drawn.main.body.getD i (.Pass ⟨0, 0, 0, 0⟩)
abbrev s__law_box : Stmt := top 18
abbrev s__law_clear : Stmt := top 24
abbrev s__law_word : Stmt := top 25
abbrev s__law_drawn : Stmt := top 26
abbrev s__law_take : Stmt := top 19
abbrev s__law_pick : Stmt := top 20
abbrev s__law_house : Stmt := top 22
abbrev s__law_people : Stmt := top 27
abbrev s_is_place : Stmt := top 2
abbrev s_room_sign : Stmt := top 14
abbrev s_with_sign : Stmt := top 12
abbrev s_room_line : Stmt := top 15
abbrev s_step_word : Stmt := top 13
abbrev s_drawn : Stmt := top 16
abbrev s_law : Stmt := top 28
def CS : Str → Option (Value × Str) := fun _ => none
structure Tx (mg : Str → Option Value) : Prop where
  z_range : mg "range" = none
  z_len : mg "len" = none
  z_tuple : mg "tuple" = none
  z_repr : mg "repr" = none
  z_int : mg "int" = none
  z_abs : mg "abs" = none
  z_str : mg "str" = none
  z_sorted : mg "sorted" = none
  z_enumerate : mg "enumerate" = none
  z_OUT_SIGN : ∃ t, mg "OUT_SIGN" = some (.str ">" t)
  z_LOST : ∃ t, mg "LOST" = some (.str "lost" t)
  z_HERE : ∃ t, mg "HERE" = some (.str "here" t)
  z_WAY_OUT : ∃ t, mg "WAY_OUT" = some (.int 1 t)
  z_INSIDE_SIGN : ∃ t, mg "INSIDE_SIGN" = some (.str "." t)
  z_SMOKE_SIGN : ∃ t, mg "SMOKE_SIGN" = some (.str "~" t)
  z_NOTHING_SIGN : ∃ t, mg "NOTHING_SIGN" = some (.str "-" t)
  z_STAND : ∃ t, mg "STAND" = some (.str "stand" t)
  z_STAND_SIGN : ∃ t, mg "STAND_SIGN" = some (.str "s" t)
/-! ### _law_box -/
def B__law_box : DSt := (sSeq (sAsg 2 (eBin dAdd (eBin dMul (eC (.int 7411)) (eVar 1)) (eC (.int 1039)))) (sSeq (sIf (tV (eBin dLt (eVar 1) (eSqLen 0))) (sAsg 2 (eCl dAbs (aCons (eCl dInt (aCons (eSqIx 0 (eVar 1)) aNil)) aNil))) (sIf (tV (eBin dGt (eSqLen 0) (eC (.int 0)))) (sAsg 2 (eBin dAdd (eVar 2) (eBin dMul (eBin dMod (eCl dInt (aCons (eCl dAbs (aCons (eCl dInt (aCons (eSqIx 0 (eBin dMod (eCl dInt (aCons (eVar 1) aNil)) (eSqLen 0))) aNil)) aNil)) aNil)) (eC (.int 2147483587))) (eC (.int 50461))))) sNx)) (sSeq (sAsg 3 (eIf (tV (eBin dGe (eVar 2) (eBin dPow (eC (.int 10)) (eC (.int 18))))) (eVar 2) (eC (.int 0)))) (sRetO (nCl nwL (aCons (eVar 3) (aCons (eBin dAdd (eBin dMod (eCl dInt (aCons (eBin dAdd (eBin dMul (eBin dMod (eCl dInt (aCons (eVar 2) aNil)) (eC (.int 2147483587))) (eC (.int 69761))) (eBin dMul (eC (.int 1039)) (eVar 1))) aNil)) (eC (.int 2147483587))) (eC (.int 1))) aNil)))))))
def F__law_box : List Int → Int → Int × Int := boxF B__law_box 2
theorem sc__law_box : FnScope ["_law_script", "_law_k", "_law_cell", "_law_great"] ["_law_script", "_law_k"] (defScope s__law_box) := ⟨rfl, rfl, rfl, by decide +kernel, rfl, by decide +kernel, by decide +kernel⟩
theorem b__law_box {P : Program} {w : World} {K : Fg} {mg : Str → Option Value} {base : Heap} {f : Addr} {cdv : Value} {Ar : Around} {outer : List Env} {s : Shared} {H : Hp} {E : XK} {O : AS} {W : WX} (T : Tx mg) 
    (hr : Room 0 (Ar.deeper (envOfC "_law_box" (defScope s__law_box) s.heap.objs.size f cdv))) (hgu : Ar.guards = some []) (tk : L2.Takes (cxOf (L2.CX P w) P w K mg base ["_law_script", "_law_k", "_law_cell", "_law_great"] "_law_box" (defScope s__law_box) f cdv Ar outer s H E) W) : DSs (cxOf (L2.CX P w) P w K mg base ["_law_script", "_law_k", "_law_cell", "_law_great"] "_law_box" (defScope s__law_box) f cdv Ar outer s H E) ⟨K, O, false, CS⟩ W (defBody s__law_box) B__law_box :=
  have c : Cn (cxOf (L2.CX P w) P w K mg base ["_law_script", "_law_k", "_law_cell", "_law_great"] "_law_box" (defScope s__law_box) f cdv Ar outer s H E) ⟨K, O, false, CS⟩ W 0 := ⟨rfl, hr, hgu, tk, rfl, sc__law_box.nd⟩
  (ds_cons (s_asg c 2 (v_add c (v_mul c de_int (v_var 1)) de_int)) (ds_cons (ds_if (w_lt c (v_var 1) (de_sqLen 0 c.K rfl (.inl rfl) rfl T.z_len (by decide +kernel))) (ds_one (s_asg c 2 (v_abs c T.z_abs (da_cons (v_int c T.z_int (da_cons (de_sqIx 0 c.K rfl (.inl rfl) (v_var 1) (by intro _ _; rfl)) da_nil)) da_nil)))) (ds_one (ds_if (w_gt c (de_sqLen 0 c.K rfl (.inl rfl) rfl T.z_len (by decide +kernel)) de_int) (ds_one (s_asg c 2 (v_add c (v_var 2) (v_mul c (v_mod c (v_int c T.z_int (da_cons (v_abs c T.z_abs (da_cons (v_int c T.z_int (da_cons (de_sqIx 0 c.K rfl (.inl rfl) (v_mod c (v_int c T.z_int (da_cons (v_var 1) da_nil)) (de_sqLen 0 c.K rfl (.inl rfl) rfl T.z_len (by decide +kernel))) (by intro _ _; rfl)) da_nil)) da_nil)) da_nil)) de_int) de_int)))) ds_nil))) (ds_cons (s_asg c 3 (de_if (w_ge c (v_var 2) (v_pow c de_int de_int)) (v_var 2) de_int)) (ds_one (ds_retO (dn_lst (da_cons (v_var 3) (da_cons (v_add c (v_mod c (v_int c T.z_int (da_cons (v_add c (v_mul c (v_mod c (v_int c T.z_int (da_cons (v_var 2) da_nil)) de_int) de_int) (v_mul c de_int (v_var 1))) da_nil)) de_int) de_int) da_nil))))))))
theorem ok__law_box {P : Program} {w : World} {K : Fg} {mg : Str → Option Value} {base : Heap} {f : Addr} {fd : FuncData} (tot : ∀ (ns : List Int) (k : Int), 0 ≤ k → ∃ g s en, B__law_box ⟨.sq ns :: .fz (.int k) :: List.replicate 2 .no, (0, 0)⟩ = .ok (.rn [.int g, .int s] en)) (T : Tx mg)  (F : Fun K "_law_box" "_law_box" s__law_box f fd) : FnG P w K mg base 1 f fd ["_law_script", "_law_k"] (spBx K F__law_box) :=
  fn_box CS F sc__law_box rfl tot fun cdv Ar outer s H E O W hr hg tk => b__law_box T hr hg tk
/-! ### _law_clear -/
def B__law_clear : DSt := (sRet (eOr (eBin dIsN (eBin dIx (eBin dIx (eVar 0) (eC (.int 2))) (eVar 1)) (eC .none)) (eBin dLt (eVar 2) (eBin dIx (eBin dIx (eVar 0) (eC (.int 2))) (eVar 1)))))
def F__law_clear : FnS := runF false 3 B__law_clear
theorem sc__law_clear : FnScope ["_law_house_here", "_law_room", "_law_beat"] ["_law_house_here", "_law_room", "_law_beat"] (defScope s__law_clear) := ⟨rfl, rfl, rfl, by decide +kernel, rfl, by decide +kernel, by decide +kernel⟩
theorem b__law_clear {P : Program} {w : World} {K : Fg} {mg : Str → Option Value} {base : Heap} {f : Addr} {cdv : Value} {Ar : Around} {outer : List Env} {s : Shared} {H : Hp} {E : XK} {O : AS} {W : WX} (T : Tx mg) 
    (hr : Room 0 (Ar.deeper (envOfC "_law_clear" (defScope s__law_clear) s.heap.objs.size f cdv))) (hgu : Ar.guards = some []) (tk : L2.Takes (cxOf (L2.CX P w) P w K mg base ["_law_house_here", "_law_room", "_law_beat"] "_law_clear" (defScope s__law_clear) f cdv Ar outer s H E) W) : DSs (cxOf (L2.CX P w) P w K mg base ["_law_house_here", "_law_room", "_law_beat"] "_law_clear" (defScope s__law_clear) f cdv Ar outer s H E) ⟨K, O, false, CS⟩ W (defBody s__law_clear) B__law_clear :=
  have c : Cn (cxOf (L2.CX P w) P w K mg base ["_law_house_here", "_law_room", "_law_beat"] "_law_clear" (defScope s__law_clear) f cdv Ar outer s H E) ⟨K, O, false, CS⟩ W 0 := ⟨rfl, hr, hgu, tk, rfl, sc__law_clear.nd⟩
  (ds_one (ds_ret (de_or (v_isn c (v_ix c (v_ix c (v_var 0) de_int) (v_var 1)) de_non) (de_one (v_lt c (v_var 2) (v_ix c (v_ix c (v_var 0) de_int) (v_var 1)))))))
theorem ok__law_clear {P : Program} {w : World} {K : Fg} {mg : Str → Option Value} {base : Heap} {f : Addr} {fd : FuncData} (T : Tx mg)  (F : Fun K "_law_clear" "_law_clear" s__law_clear f fd) : FnG P w K mg base 1 f fd ["_law_house_here", "_law_room", "_law_beat"] (spF K CS false 3 F__law_clear) :=
  fn_data F sc__law_clear rfl fun cdv Ar outer s H E O W hr hg tk => b__law_clear T hr hg tk
/-! ### _law_word -/
def B__law_word : DSt := (sRet (eIf (tV (eBin dIsN (eVar 0) (eC .none))) (eC (.str "-")) (eIf (tV (eBin dEq (eVar 0) (eC (.str "stand")))) (eC (.str "s")) (eCl dStr (aCons (eVar 0) aNil)))))
def F__law_word : FnS := runF false 1 B__law_word
theorem sc__law_word : FnScope ["_law_step"] ["_law_step"] (defScope s__law_word) := ⟨rfl, rfl, rfl, by decide +kernel, rfl, by decide +kernel, by decide +kernel⟩
theorem b__law_word {P : Program} {w : World} {K : Fg} {mg : Str → Option Value} {base : Heap} {f : Addr} {cdv : Value} {Ar : Around} {outer : List Env} {s : Shared} {H : Hp} {E : XK} {O : AS} {W : WX} (T : Tx mg) 
    (hr : Room 0 (Ar.deeper (envOfC "_law_word" (defScope s__law_word) s.heap.objs.size f cdv))) (hgu : Ar.guards = some []) (tk : L2.Takes (cxOf (L2.CX P w) P w K mg base ["_law_step"] "_law_word" (defScope s__law_word) f cdv Ar outer s H E) W) : DSs (cxOf (L2.CX P w) P w K mg base ["_law_step"] "_law_word" (defScope s__law_word) f cdv Ar outer s H E) ⟨K, O, false, CS⟩ W (defBody s__law_word) B__law_word :=
  have c : Cn (cxOf (L2.CX P w) P w K mg base ["_law_step"] "_law_word" (defScope s__law_word) f cdv Ar outer s H E) ⟨K, O, false, CS⟩ W 0 := ⟨rfl, hr, hgu, tk, rfl, sc__law_word.nd⟩
  (ds_one (ds_ret (de_if (w_isn c (v_var 0) de_non) de_str (de_if (w_eq c (v_var 0) de_str) de_str (v_str c T.z_str (da_cons (v_var 0) da_nil))))))
theorem ok__law_word {P : Program} {w : World} {K : Fg} {mg : Str → Option Value} {base : Heap} {f : Addr} {fd : FuncData} (T : Tx mg)  (F : Fun K "_law_word" "_law_word" s__law_word f fd) : FnG P w K mg base 1 f fd ["_law_step"] (spF K CS false 1 F__law_word) :=
  fn_data F sc__law_word rfl fun cdv Ar outer s H E O W hr hg tk => b__law_word T hr hg tk
/-! ### _law_drawn -/
def L__law_drawn_0 : DSt := (sIf (tAnd (tV (eBin dEq (eVar 13) (eVar 7))) (tV (eBin dEq (eVar 12) (eC (.str "lost"))))) (sAsg 11 (eBin dAdd (eVar 11) (eC (.int 1)))) (sIf (tAnd (tV (eBin dEq (eVar 13) (eVar 7))) (tV (eBin dLe (eVar 14) (eVar 1)))) (sApp 9 (eCl dStr (aCons (eVar 15) aNil))) (sIf (tV (eBin dEq (eVar 13) (eVar 7))) (sApp 10 (eCl mkT (aCons (eVar 14) (aCons (eVar 15) aNil)))) sNx)))
def A__law_drawn_0 : DEn := (eBin dAdd (eBin dAdd (eCl dStr (aCons (eVar 14) aNil)) (eC (.str ":"))) (eCl dStr (aCons (eVar 15) aNil)))
def L__law_drawn_1 : DSt := (sSeq (sAsg 8 (eIf (tV (eBin dEq (eBin dIx (eBin dIx (eVar 3) (eC (.int 0))) (eVar 7)) (eC (.int 1)))) (eC (.str ">")) (eIf (tV (eCall 3 F__law_clear (aCons (eVar 3) (aCons (eVar 7) (aCons (eVar 1) aNil))))) (eC (.str ".")) (eC (.str "~"))))) (sSeq (sPar [9, 10, 11] [.nw (nCl nwL aNil), .nw (nCl nwL aNil), .fr (eC (.int 0))]) (sSeq (sFor (iSeq (eVar 4)) (gTup 4 (gCons (gN 12) (gCons (gN 13) (gCons (gN 14) (gCons (gN 15) gNil))))) L__law_drawn_0) (sSeq (sAsg 16 (eM1 dJoin (eC (.str ",")) (eN (nComp [14, 15] (iSeq (eCl dSorted (aCons (eVar 10) aNil))) (gTup 2 (gCons (gN 14) (gCons (gN 15) gNil))) tTrue A__law_drawn_0)))) (sApp 6 (eM1 dJoin (eC (.str " ")) (eCl mkL (aCons (eCl dStr (aCons (eVar 7) aNil)) (aCons (eVar 8) (aCons (eIf (tV (eBin dNe (eVar 9) (eCl mkL aNil))) (eM1 dJoin (eC (.str "")) (eCl dSorted (aCons (eVar 9) aNil))) (eC (.str "-"))) (aCons (eIf (tV (eBin dNe (eVar 16) (eC (.str "")))) (eVar 16) (eC (.str "-"))) (aCons (eCl dStr (aCons (eVar 11) aNil)) aNil))))))))))))
def L__law_drawn_2 : DSt := (sSeq (sUnp (gTup 5 (gCons (gN 18) (gCons (gN 19) (gCons (gN 20) (gCons (gN 21) (gCons (gN 22) gNil)))))) (eBin dIx (eBin dIx (eVar 3) (eC (.int 1))) (eVar 17))) (sSeq (sAsg 12 (eIf (tOr (tV (eBin dIn (eVar 1) (eVar 22))) (tV (eBin dEq (eVar 21) (eC (.int 0))))) (eC (.str "shut")) (eC (.str "open")))) (sApp 6 (eBin dAdd (eBin dAdd (eBin dAdd (eBin dAdd (eBin dAdd (eBin dAdd (eBin dAdd (eBin dAdd (eBin dAdd (eBin dAdd (eCl dStr (aCons (eVar 17) aNil)) (eC (.str " "))) (eCl dStr (aCons (eVar 18) aNil))) (eC (.str ">"))) (eCl dStr (aCons (eVar 19) aNil))) (eC (.str " "))) (eCl dStr (aCons (eVar 20) aNil))) (eC (.str " "))) (eCl dStr (aCons (eVar 21) aNil))) (eC (.str " "))) (eVar 12)))))
def A__law_drawn_1 : DEn := (eCall 1 F__law_word (aCons (eVar 23) aNil))
def B__law_drawn : DSt := (sSeq (sUnp (gTup 5 (gCons (gN 1) (gCons (gN 2) (gCons (gN 3) (gCons (gN 4) (gCons (gN 5) gNil)))))) (eVar 0)) (sSeq (sOwn 6 (nCl nwL (aCons (eBin dAdd (eBin dAdd (eBin dAdd (eC (.str "beat ")) (eCl dStr (aCons (eVar 1) aNil))) (eC (.str " of "))) (eCl dStr (aCons (eVar 2) aNil))) aNil))) (sSeq (sFor (iR1 (eCl dLen (aCons (eBin dIx (eVar 3) (eC (.int 0))) aNil))) (gN 7) L__law_drawn_1) (sSeq (sFor (iR1 (eCl dLen (aCons (eBin dIx (eVar 3) (eC (.int 1))) aNil))) (gN 17) L__law_drawn_2) (sRet (eM1 dJoin (eC (.str "\n")) (eBin dAdd (eVar 6) (eCl mkL (aCons (eBin dAdd (eC (.str "told ")) (eIf (tV (eBin dNe (eVar 5) (eCl mkT aNil))) (eM1 dJoin (eC (.str " ")) (eN (nComp [23] (iSeq (eVar 5)) (gN 23) tTrue A__law_drawn_1))) (eC (.str "-")))) aNil)))))))))
def F__law_drawn : FnS := runF false 24 B__law_drawn
theorem sc__law_drawn : FnScope ["_law_state", "_law_now", "_law_end", "_law_house_here", "_law_people_here", "_law_told", "_law_lines", "_law_room", "_law_sign", "_law_there", "_law_coming", "_law_lost", "_law_word_here", "_law_place", "_law_beat", "_law_urgency", "_law_comes", "_law_number", "_law_tail", "_law_head", "_law_length", "_law_width", "_law_shut", "_law_step"] ["_law_state"] (defScope s__law_drawn) := ⟨rfl, rfl, rfl, by decide +kernel, rfl, by decide +kernel, by decide +kernel⟩
theorem b__law_drawn {P : Program} {w : World} {K : Fg} {mg : Str → Option Value} {base : Heap} {f : Addr} {cdv : Value} {Ar : Around} {outer : List Env} {s : Shared} {H : Hp} {E : XK} {O : AS} {W : WX} (T : Tx mg) (C__law_clear : Callee P w K mg base 1 "_law_clear" ["_law_house_here", "_law_room", "_law_beat"] (spF K CS false 3 F__law_clear)) (C__law_word : Callee P w K mg base 1 "_law_word" ["_law_step"] (spF K CS false 1 F__law_word))
    (hr : Room 1 (Ar.deeper (envOfC "_law_drawn" (defScope s__law_drawn) s.heap.objs.size f cdv))) (hgu : Ar.guards = some []) (tk : L2.Takes (cxOf (L2.CX P w) P w K mg base ["_law_state", "_law_now", "_law_end", "_law_house_here", "_law_people_here", "_law_told", "_law_lines", "_law_room", "_law_sign", "_law_there", "_law_coming", "_law_lost", "_law_word_here", "_law_place", "_law_beat", "_law_urgency", "_law_comes", "_law_number", "_law_tail", "_law_head", "_law_length", "_law_width", "_law_shut", "_law_step"] "_law_drawn" (defScope s__law_drawn) f cdv Ar outer s H E) W) : DSs (cxOf (L2.CX P w) P w K mg base ["_law_state", "_law_now", "_law_end", "_law_house_here", "_law_people_here", "_law_told", "_law_lines", "_law_room", "_law_sign", "_law_there", "_law_coming", "_law_lost", "_law_word_here", "_law_place", "_law_beat", "_law_urgency", "_law_comes", "_law_number", "_law_tail", "_law_head", "_law_length", "_law_width", "_law_shut", "_law_step"] "_law_drawn" (defScope s__law_drawn) f cdv Ar outer s H E) ⟨K, O, false, CS⟩ W (defBody s__law_drawn) B__law_drawn :=
  have c : Cn (cxOf (L2.CX P w) P w K mg base ["_law_state", "_law_now", "_law_end", "_law_house_here", "_law_people_here", "_law_told", "_law_lines", "_law_room", "_law_sign", "_law_there", "_law_coming", "_law_lost", "_law_word_here", "_law_place", "_law_beat", "_law_urgency", "_law_comes", "_law_number", "_law_tail", "_law_head", "_law_length", "_law_width", "_law_shut", "_law_step"] "_law_drawn" (defScope s__law_drawn) f cdv Ar outer s H E) ⟨K, O, false, CS⟩ W 1 := ⟨rfl, hr, hgu, tk, rfl, sc__law_drawn.nd⟩
  (ds_cons (ds_unp (v_var 0) (dg_tup c.K c.calm (dgs_cons (g_name c 1) (dgs_cons (g_name c 2) (dgs_cons (g_name c 3) (dgs_cons (g_name c 4) (dgs_cons (g_name c 5) dgs_nil))))))) (ds_cons (s_own c 6 (dn_lst (da_cons (v_add c (v_add c (v_add c de_str (v_str c T.z_str (da_cons (v_var 1) da_nil))) de_str) (v_str c T.z_str (da_cons (v_var 2) da_nil))) da_nil))) (ds_cons (ds_for (passes_of rfl) c.calm (di_r1 rfl T.z_range (v_len c T.z_len (da_cons (v_ix c (v_var 3) de_int) da_nil))) (g_name c 7) (ds_cons (s_asg c 8 (de_if (w_eq c (v_ix c (v_ix c (v_var 3) de_int) (v_var 7)) de_int) de_str (de_if (dt_val (v_call c C__law_clear (da_cons (v_var 3) (da_cons (v_var 7) (da_cons (v_var 1) da_nil))))) de_str de_str))) (ds_cons (ds_par3 9 10 11 c.calm c.nd rfl rfl rfl (by decide) (by decide) (by decide) rfl rfl rfl (dp_nw (fun O => (dn_lst da_nil)) (dp_nw (fun O => (dn_lst da_nil)) (dp_fr (fun O => de_int) dp_nil))) rfl) (ds_cons (ds_for (passes_of rfl) c.calm (di_seq c.K (v_var 4)) (dg_tup c.K c.calm (dgs_cons (g_name c 12) (dgs_cons (g_name c 13) (dgs_cons (g_name c 14) (dgs_cons (g_name c 15) dgs_nil))))) (ds_one (ds_if (dt_bool (dw_and (w_eq c (v_var 13) (v_var 7)) (dw_and1 (w_eq c (v_var 12) de_str)))) (ds_one (s_asg c 11 (v_add c (v_var 11) de_int))) (ds_one (ds_if (dt_bool (dw_and (w_eq c (v_var 13) (v_var 7)) (dw_and1 (w_le c (v_var 14) (v_var 1))))) (ds_one (s_app 9 (v_str c T.z_str (da_cons (v_var 15) da_nil)))) (ds_one (ds_if (w_eq c (v_var 13) (v_var 7)) (ds_one (s_app 10 (de_tup (da_cons (v_var 14) (da_cons (v_var 15) da_nil))))) ds_nil))))))) (ds_cons (s_asg c 16 (de_join c.K de_str (de_new (dn_comp [("_law_beat", 14), ("_law_urgency", 15)] c.calm c.nd (di_seq c.K (v_sorted c T.z_sorted (da_cons (v_var 10) da_nil))) (blkOk_by (by kernel_rfl)) (by decide) ⟨fun O s H C cl fp => (dg_tup (c.blk O s H _ _ fp).K (c.blk O s H _ _ fp).calm (dgs_cons (g_name (c.blk O s H _ _ fp) 14) (dgs_cons (g_name (c.blk O s H _ _ fp) 15) dgs_nil))), fun O s H C cl fp => dts_nil, fun O s H C cl fp => (v_add (c.blk O s H _ _ fp) (v_add (c.blk O s H _ _ fp) (v_str (c.blk O s H _ _ fp) T.z_str (da_cons (v_var 14) da_nil)) de_str) (v_str (c.blk O s H _ _ fp) T.z_str (da_cons (v_var 15) da_nil)))⟩)))) (ds_one (s_app 6 (de_join c.K de_str (de_lst (da_cons (v_str c T.z_str (da_cons (v_var 7) da_nil)) (da_cons (v_var 8) (da_cons (de_if (w_ne c (v_var 9) (de_lst da_nil)) (de_join c.K de_str (v_sorted c T.z_sorted (da_cons (v_var 9) da_nil))) de_str) (da_cons (de_if (w_ne c (v_var 16) de_str) (v_var 16) de_str) (da_cons (v_str c T.z_str (da_cons (v_var 11) da_nil)) da_nil)))))))))))))) (ds_cons (ds_for (passes_of rfl) c.calm (di_r1 rfl T.z_range (v_len c T.z_len (da_cons (v_ix c (v_var 3) de_int) da_nil))) (g_name c 17) (ds_cons (ds_unp (v_ix c (v_ix c (v_var 3) de_int) (v_var 17)) (dg_tup c.K c.calm (dgs_cons (g_name c 18) (dgs_cons (g_name c 19) (dgs_cons (g_name c 20) (dgs_cons (g_name c 21) (dgs_cons (g_name c 22) dgs_nil))))))) (ds_cons (s_asg c 12 (de_if (dt_bool (dw_or (w_in c (v_var 1) (v_var 22)) (dw_or1 (w_eq c (v_var 21) de_int)))) de_str de_str)) (ds_one (s_app 6 (v_add c (v_add c (v_add c (v_add c (v_add c (v_add c (v_add c (v_add c (v_add c (v_add c (v_str c T.z_str (da_cons (v_var 17) da_nil)) de_str) (v_str c T.z_str (da_cons (v_var 18) da_nil))) de_str) (v_str c T.z_str (da_cons (v_var 19) da_nil))) de_str) (v_str c T.z_str (da_cons (v_var 20) da_nil))) de_str) (v_str c T.z_str (da_cons (v_var 21) da_nil))) de_str) (v_var 12))))))) (ds_one (ds_ret (de_join c.K de_str (v_add c (v_var 6) (de_lst (da_cons (v_add c de_str (de_if (w_ne c (v_var 5) (de_tup da_nil)) (de_join c.K de_str (de_new (dn_comp [("_law_step", 23)] c.calm c.nd (di_seq c.K (v_var 5)) (blkOk_by (by kernel_rfl)) (by decide) ⟨fun O s H C cl fp => (g_name (c.blk O s H _ _ fp) 23), fun O s H C cl fp => dts_nil, fun O s H C cl fp => (v_call (c.blk O s H _ _ fp) C__law_word (da_cons (v_var 23) da_nil))⟩))) de_str)) da_nil))))))))))
theorem ok__law_drawn {P : Program} {w : World} {K : Fg} {mg : Str → Option Value} {base : Heap} {f : Addr} {fd : FuncData} (T : Tx mg) (C__law_clear : Callee P w K mg base 1 "_law_clear" ["_law_house_here", "_law_room", "_law_beat"] (spF K CS false 3 F__law_clear)) (C__law_word : Callee P w K mg base 1 "_law_word" ["_law_step"] (spF K CS false 1 F__law_word)) (F : Fun K "_law_drawn" "_law_drawn" s__law_drawn f fd) : FnG P w K mg base 2 f fd ["_law_state"] (spF K CS false 1 F__law_drawn) :=
  fn_data F sc__law_drawn rfl fun cdv Ar outer s H E O W hr hg tk => b__law_drawn T C__law_clear C__law_word hr hg tk
/-! ### _law_take -/
def B__law_take : DSt := (sSeq (sIf (tV (eBin dGt (eBx 0 0) (eC (.int 0)))) (sSeq (sAsg 2 (eBin dMod (eCl dInt (aCons (eBx 0 0) aNil)) (eVar 1))) (sSeq (sBx 0 0 (eBin dDiv (eBx 0 0) (eVar 1))) (sRet (eVar 2)))) sNx) (sSeq (sAsg 3 (eBin dMod (eCl dInt (aCons (eBin dAdd (eBin dMul (eBx 0 1) (eC (.int 40692))) (eC (.int 79))) aNil)) (eC (.int 2147483399)))) (sSeq (sBx 0 1 (eBin dAdd (eBin dMod (eCl dInt (aCons (eBin dAdd (eBin dMul (eVar 3) (eC (.int 39373))) (eC (.int 31))) aNil)) (eC (.int 2147483587))) (eC (.int 1)))) (sRet (eBin dMod (eCl dInt (aCons (eBin dDiv (eBin dAdd (eBin dMul (eVar 3) (eC (.int 2147483629))) (eBx 0 1)) (eC (.int 8167))) aNil)) (eVar 1))))))
def F__law_take : FnS := runF true 4 B__law_take
theorem sc__law_take : FnScope ["_law_box_here", "_law_many", "_law_digit", "_law_raw"] ["_law_box_here", "_law_many"] (defScope s__law_take) := ⟨rfl, rfl, rfl, by decide +kernel, rfl, by decide +kernel, by decide +kernel⟩
theorem b__law_take {P : Program} {w : World} {K : Fg} {mg : Str → Option Value} {base : Heap} {f : Addr} {cdv : Value} {Ar : Around} {outer : List Env} {s : Shared} {H : Hp} {E : XK} {O : AS} {W : WX} (T : Tx mg) 
    (hr : Room 0 (Ar.deeper (envOfC "_law_take" (defScope s__law_take) s.heap.objs.size f cdv))) (hgu : Ar.guards = some []) (tk : L2.Takes (cxOf (L2.CX P w) P w K mg base ["_law_box_here", "_law_many", "_law_digit", "_law_raw"] "_law_take" (defScope s__law_take) f cdv Ar outer s H E) W) : DSs (cxOf (L2.CX P w) P w K mg base ["_law_box_here", "_law_many", "_law_digit", "_law_raw"] "_law_take" (defScope s__law_take) f cdv Ar outer s H E) ⟨K, O, false, CS⟩ W (defBody s__law_take) B__law_take :=
  have c : Cn (cxOf (L2.CX P w) P w K mg base ["_law_box_here", "_law_many", "_law_digit", "_law_raw"] "_law_take" (defScope s__law_take) f cdv Ar outer s H E) ⟨K, O, false, CS⟩ W 0 := ⟨rfl, hr, hgu, tk, rfl, sc__law_take.nd⟩
  (ds_cons (ds_if (w_gt c (v_bx 0 (.inl rfl)) de_int) (ds_cons (s_asg c 2 (v_mod c (v_int c T.z_int (da_cons (v_bx 0 (.inl rfl)) da_nil)) (v_var 1))) (ds_cons (ds_bx 0 (.inl rfl) rfl (.inl rfl) (v_div c (v_bx 0 (.inl rfl)) (v_var 1))) (ds_one (ds_ret (v_var 2))))) ds_nil) (ds_cons (s_asg c 3 (v_mod c (v_int c T.z_int (da_cons (v_add c (v_mul c (v_bx 0 (.inr rfl)) de_int) de_int) da_nil)) de_int)) (ds_cons (ds_bx 0 (.inr rfl) rfl (.inl rfl) (v_add c (v_mod c (v_int c T.z_int (da_cons (v_add c (v_mul c (v_var 3) de_int) de_int) da_nil)) de_int) de_int)) (ds_one (ds_ret (v_mod c (v_int c T.z_int (da_cons (v_div c (v_add c (v_mul c (v_var 3) de_int) (v_bx 0 (.inr rfl))) de_int) da_nil)) (v_var 1)))))))
theorem ok__law_take {P : Program} {w : World} {K : Fg} {mg : Str → Option Value} {base : Heap} {f : Addr} {fd : FuncData} (T : Tx mg)  (F : Fun K "_law_take" "_law_take" s__law_take f fd) : FnG P w K mg base 1 f fd ["_law_box_here", "_law_many"] (spF K CS true 1 F__law_take) :=
  fn_data F sc__law_take rfl fun cdv Ar outer s H E O W hr hg tk => b__law_take T hr hg tk
/-! ### _law_pick -/
def B__law_pick : DSt := (sRet (eBin dIx (eVar 1) (eCallB 1 0 F__law_take (aCons (eCl dLen (aCons (eVar 1) aNil)) aNil))))
def F__law_pick : FnS := runF true 2 B__law_pick
theorem sc__law_pick : FnScope ["_law_box_here", "_law_some"] ["_law_box_here", "_law_some"] (defScope s__law_pick) := ⟨rfl, rfl, rfl, by decide +kernel, rfl, by decide +kernel, by decide +kernel⟩
theorem b__law_pick {P : Program} {w : World} {K : Fg} {mg : Str → Option Value} {base : Heap} {f : Addr} {cdv : Value} {Ar : Around} {outer : List Env} {s : Shared} {H : Hp} {E : XK} {O : AS} {W : WX} (T : Tx mg) (C__law_take : Callee P w K mg base 1 "_law_take" ["_law_box_here", "_law_many"] (spF K CS true 1 F__law_take))
    (hr : Room 1 (Ar.deeper (envOfC "_law_pick" (defScope s__law_pick) s.heap.objs.size f cdv))) (hgu : Ar.guards = some []) (tk : L2.Takes (cxOf (L2.CX P w) P w K mg base ["_law_box_here", "_law_some"] "_law_pick" (defScope s__law_pick) f cdv Ar outer s H E) W) : DSs (cxOf (L2.CX P w) P w K mg base ["_law_box_here", "_law_some"] "_law_pick" (defScope s__law_pick) f cdv Ar outer s H E) ⟨K, O, false, CS⟩ W (defBody s__law_pick) B__law_pick :=
  have c : Cn (cxOf (L2.CX P w) P w K mg base ["_law_box_here", "_law_some"] "_law_pick" (defScope s__law_pick) f cdv Ar outer s H E) ⟨K, O, false, CS⟩ W 1 := ⟨rfl, hr, hgu, tk, rfl, sc__law_pick.nd⟩
  (ds_one (ds_ret (v_ix c (v_var 1) (v_callX c 0 C__law_take (da_cons (v_len c T.z_len (da_cons (v_var 1) da_nil)) da_nil)))))
theorem ok__law_pick {P : Program} {w : World} {K : Fg} {mg : Str → Option Value} {base : Heap} {f : Addr} {fd : FuncData} (T : Tx mg) (C__law_take : Callee P w K mg base 1 "_law_take" ["_law_box_here", "_law_many"] (spF K CS true 1 F__law_take)) (F : Fun K "_law_pick" "_law_pick" s__law_pick f fd) : FnG P w K mg base 2 f fd ["_law_box_here", "_law_some"] (spF K CS true 1 F__law_pick) :=
  fn_data F sc__law_pick rfl fun cdv Ar outer s H E O W hr hg tk => b__law_pick T C__law_take hr hg tk
/-! ### _law_house -/
def A__law_house_0 : DEn := (eCallB 1 0 F__law_pick (aCons (eCl mkL (aCons (eC (.int 0)) (aCons (eC (.int 0)) (aCons (eC (.int 0)) (aCons (eC (.int 1)) aNil))))) aNil))
def A__law_house_1 : DEn := (eVar 2)
def T__law_house_1 : DTt := (tV (eBin dEq (eBin dIx (eVar 1) (eVar 2)) (eC (.int 0))))
def A__law_house_2 : DEn := (eVar 2)
def T__law_house_2 : DTt := (tV (eBin dNe (eVar 2) (eVar 6)))
def A__law_house_3 : DEn := (eVar 9)
def T__law_house_3 : DTt := (tV (eBin dEq (eCallB 1 0 F__law_take (aCons (eC (.int 5)) aNil)) (eC (.int 0))))
def L__law_house_0 : DSt := (sSeq (sAsg 6 (eCallB 1 0 F__law_pick (aCons (eVar 3) aNil))) (sSeq (sAsg 7 (eCallB 1 0 F__law_pick (aCons (eN (nComp [2] (iR1 (eCl dLen (aCons (eVar 1) aNil))) (gN 2) T__law_house_2 A__law_house_2)) aNil))) (sSeq (sAsg 8 (eN (nComp [9] (iR1 (eC (.int 10))) (gN 9) T__law_house_3 A__law_house_3))) (sApp 4 (eCl mkT (aCons (eVar 6) (aCons (eVar 7) (aCons (eCallB 1 0 F__law_pick (aCons (eCl mkL (aCons (eC (.int 1)) (aCons (eC (.int 1)) (aCons (eC (.int 2)) (aCons (eC (.int 3)) aNil))))) aNil)) (aCons (eCallB 1 0 F__law_pick (aCons (eCl mkL (aCons (eC (.int 0)) (aCons (eC (.int 1)) (aCons (eC (.int 1)) (aCons (eC (.int 2)) (aCons (eC (.int 9)) aNil)))))) aNil)) (aCons (eCl dTuple (aCons (eVar 8) aNil)) aNil))))))))))
def A__law_house_4 : DEn := (eIf (tV (eBin dEq (eVar 2) (eC (.int 0)))) (eCallB 1 0 F__law_pick (aCons (eCl mkL (aCons (eC .none) (aCons (eC .none) (aCons (eCallB 1 0 F__law_take (aCons (eC (.int 12)) aNil)) aNil)))) aNil)) (eC .none))
def B__law_house : DSt := (sSeq (sAsg 1 (eBin dAdd (eN (nComp [2] (iR1 (eBin dAdd (eC (.int 1)) (eCallB 1 0 F__law_take (aCons (eC (.int 4)) aNil)))) (gN 2) tTrue A__law_house_0)) (eCl mkL (aCons (eCallB 1 0 F__law_pick (aCons (eCl mkL (aCons (eC (.int 1)) (aCons (eC (.int 1)) (aCons (eC (.int 1)) (aCons (eC (.int 0)) aNil))))) aNil)) aNil)))) (sSeq (sPar [3, 4] [.fr (eN (nComp [2] (iR1 (eCl dLen (aCons (eVar 1) aNil))) (gN 2) T__law_house_1 A__law_house_1)), .nw (nCl nwL aNil)]) (sSeq (sFor (iR1 (eIf (tAnd (tV (eBin dNe (eVar 3) (eCl mkL aNil))) (tV (eBin dGt (eCl dLen (aCons (eVar 1) aNil)) (eC (.int 1))))) (eCallB 1 0 F__law_take (aCons (eC (.int 8)) aNil)) (eC (.int 0)))) (gN 5) L__law_house_0) (sSeq (sAsg 10 (eN (nComp [2] (iSeq (eVar 1)) (gN 2) tTrue A__law_house_4))) (sRet (eCl mkT (aCons (eCl dTuple (aCons (eVar 1) aNil)) (aCons (eCl dTuple (aCons (eVar 4) aNil)) (aCons (eCl dTuple (aCons (eVar 10) aNil)) aNil)))))))))
def F__law_house : FnS := runF true 11 B__law_house
theorem sc__law_house : FnScope ["_law_box_here", "_law_rooms", "_law_room", "_law_inside", "_law_passages", "_law_turn", "_law_tail", "_law_head", "_law_shut", "_law_beat", "_law_smoke"] ["_law_box_here"] (defScope s__law_house) := ⟨rfl, rfl, rfl, by decide +kernel, rfl, by decide +kernel, by decide +kernel⟩
theorem b__law_house {P : Program} {w : World} {K : Fg} {mg : Str → Option Value} {base : Heap} {f : Addr} {cdv : Value} {Ar : Around} {outer : List Env} {s : Shared} {H : Hp} {E : XK} {O : AS} {W : WX} (T : Tx mg) (C__law_pick : Callee P w K mg base 2 "_law_pick" ["_law_box_here", "_law_some"] (spF K CS true 1 F__law_pick)) (C__law_take : Callee P w K mg base 1 "_law_take" ["_law_box_here", "_law_many"] (spF K CS true 1 F__law_take))
    (hr : Room 2 (Ar.deeper (envOfC "_law_house" (defScope s__law_house) s.heap.objs.size f cdv))) (hgu : Ar.guards = some []) (tk : L2.Takes (cxOf (L2.CX P w) P w K mg base ["_law_box_here", "_law_rooms", "_law_room", "_law_inside", "_law_passages", "_law_turn", "_law_tail", "_law_head", "_law_shut", "_law_beat", "_law_smoke"] "_law_house" (defScope s__law_house) f cdv Ar outer s H E) W) : DSs (cxOf (L2.CX P w) P w K mg base ["_law_box_here", "_law_rooms", "_law_room", "_law_inside", "_law_passages", "_law_turn", "_law_tail", "_law_head", "_law_shut", "_law_beat", "_law_smoke"] "_law_house" (defScope s__law_house) f cdv Ar outer s H E) ⟨K, O, false, CS⟩ W (defBody s__law_house) B__law_house :=
  have c : Cn (cxOf (L2.CX P w) P w K mg base ["_law_box_here", "_law_rooms", "_law_room", "_law_inside", "_law_passages", "_law_turn", "_law_tail", "_law_head", "_law_shut", "_law_beat", "_law_smoke"] "_law_house" (defScope s__law_house) f cdv Ar outer s H E) ⟨K, O, false, CS⟩ W 2 := ⟨rfl, hr, hgu, tk, rfl, sc__law_house.nd⟩
  (ds_cons (s_asg c 1 (v_add c (de_new (dn_comp [("_law_room", 2)] c.calm c.nd (di_r1 rfl T.z_range (v_add c de_int (v_callX c 0 C__law_take (da_cons de_int da_nil)))) (blkOk_by (by kernel_rfl)) (by decide) ⟨fun O s H C cl fp => (g_name (c.blk O s H _ _ fp) 2), fun O s H C cl fp => dts_nil, fun O s H C cl fp => (v_callX (c.blk O s H _ _ fp) 0 C__law_pick (da_cons (de_lst (da_cons de_int (da_cons de_int (da_cons de_int (da_cons de_int da_nil))))) da_nil))⟩)) (de_lst (da_cons (v_callX c 0 C__law_pick (da_cons (de_lst (da_cons de_int (da_cons de_int (da_cons de_int (da_cons de_int da_nil))))) da_nil)) da_nil)))) (ds_cons (ds_par2 3 4 c.calm c.nd rfl rfl (by decide) rfl rfl (dp_fr (fun O => (de_new (dn_comp [("_law_room", 2)] (c.wo O).calm (c.wo O).nd (di_r1 rfl T.z_range (v_len (c.wo O) T.z_len (da_cons (v_var 1) da_nil))) (blkOk_by (by kernel_rfl)) (by decide) ⟨fun O s H C cl fp => (g_name ((c.wo O).blk O s H _ _ fp) 2), fun O s H C cl fp => (dts_one (w_eq ((c.wo O).blk O s H _ _ fp) (v_ix ((c.wo O).blk O s H _ _ fp) (v_var 1) (v_var 2)) de_int)), fun O s H C cl fp => (v_var 2)⟩))) (dp_nw (fun O => (dn_lst da_nil)) dp_nil)) rfl) (ds_cons (ds_for (passes_of rfl) c.calm (di_r1 rfl T.z_range (de_if (dt_bool (dw_and (w_ne c (v_var 3) (de_lst da_nil)) (dw_and1 (w_gt c (v_len c T.z_len (da_cons (v_var 1) da_nil)) de_int)))) (v_callX c 0 C__law_take (da_cons de_int da_nil)) de_int)) (g_name c 5) (ds_cons (s_asg c 6 (v_callX c 0 C__law_pick (da_cons (v_var 3) da_nil))) (ds_cons (s_asg c 7 (v_callX c 0 C__law_pick (da_cons (de_new (dn_comp [("_law_room", 2)] c.calm c.nd (di_r1 rfl T.z_range (v_len c T.z_len (da_cons (v_var 1) da_nil))) (blkOk_by (by kernel_rfl)) (by decide) ⟨fun O s H C cl fp => (g_name (c.blk O s H _ _ fp) 2), fun O s H C cl fp => (dts_one (w_ne (c.blk O s H _ _ fp) (v_var 2) (v_var 6))), fun O s H C cl fp => (v_var 2)⟩)) da_nil))) (ds_cons (ds_asgLc [("_law_beat", 9)] 8 c.calm c.nd rfl rfl (sw_true rfl rfl rfl (by decide +kernel)) (di_r1 rfl T.z_range de_int) (blkOk_by (by kernel_rfl)) (by decide) ⟨fun O s H C cl fp => (g_name (c.blk O s H _ _ fp) 9), fun O s H C cl fp => (dts_one (w_eq (c.blk O s H _ _ fp) (v_callX (c.blk O s H _ _ fp) 0 C__law_take (da_cons de_int da_nil)) de_int)), fun O s H C cl fp => (v_var 9)⟩) (ds_one (s_app 4 (de_tup (da_cons (v_var 6) (da_cons (v_var 7) (da_cons (v_callX c 0 C__law_pick (da_cons (de_lst (da_cons de_int (da_cons de_int (da_cons de_int (da_cons de_int da_nil))))) da_nil)) (da_cons (v_callX c 0 C__law_pick (da_cons (de_lst (da_cons de_int (da_cons de_int (da_cons de_int (da_cons de_int (da_cons de_int da_nil)))))) da_nil)) (da_cons (v_tuple c T.z_tuple (da_cons (v_var 8) da_nil)) da_nil)))))))))))) (ds_cons (ds_asgLc [("_law_room", 2)] 10 c.calm c.nd rfl rfl (sw_true rfl rfl rfl (by decide +kernel)) (di_seq c.K (v_var 1)) (blkOk_by (by kernel_rfl)) (by decide) ⟨fun O s H C cl fp => (g_name (c.blk O s H _ _ fp) 2), fun O s H C cl fp => dts_nil, fun O s H C cl fp => (de_if (w_eq (c.blk O s H _ _ fp) (v_var 2) de_int) (v_callX (c.blk O s H _ _ fp) 0 C__law_pick (da_cons (de_lst (da_cons de_non (da_cons de_non (da_cons (v_callX (c.blk O s H _ _ fp) 0 C__law_take (da_cons de_int da_nil)) da_nil)))) da_nil)) de_non)⟩) (ds_one (ds_ret (de_tup (da_cons (v_tuple c T.z_tuple (da_cons (v_var 1) da_nil)) (da_cons (v_tuple c T.z_tuple (da_cons (v_var 4) da_nil)) (da_cons (v_tuple c T.z_tuple (da_cons (v_var 10) da_nil)) da_nil))))))))))
theorem ok__law_house {P : Program} {w : World} {K : Fg} {mg : Str → Option Value} {base : Heap} {f : Addr} {fd : FuncData} (T : Tx mg) (C__law_pick : Callee P w K mg base 2 "_law_pick" ["_law_box_here", "_law_some"] (spF K CS true 1 F__law_pick)) (C__law_take : Callee P w K mg base 1 "_law_take" ["_law_box_here", "_law_many"] (spF K CS true 1 F__law_take)) (F : Fun K "_law_house" "_law_house" s__law_house f fd) : FnG P w K mg base 3 f fd ["_law_box_here"] (spF K CS true 0 F__law_house) :=
  fn_data F sc__law_house rfl fun cdv Ar outer s H E O W hr hg tk => b__law_house T C__law_pick C__law_take hr hg tk
/-! ### _law_people -/
def L__law_people_0 : DSt := (sSeq (sPar [5, 6] [.fr (eCallB 1 0 F__law_take (aCons (eCl dLen (aCons (eBin dIx (eVar 1) (eC (.int 0))) aNil)) aNil)), .fr (eCallB 1 0 F__law_take (aCons (eC (.int 10)) aNil))]) (sIf (tAnd (tV (eBin dEq (eBin dIx (eBin dIx (eVar 1) (eC (.int 0))) (eVar 5)) (eC (.int 1)))) (tV (eBin dGt (eCallB 1 0 F__law_take (aCons (eC (.int 3)) aNil)) (eC (.int 0))))) (sApp 3 (eCl mkT (aCons (eC (.str "out")) (aCons (eVar 5) (aCons (eCallB 1 0 F__law_take (aCons (eBin dAdd (eVar 2) (eC (.int 1))) aNil)) (aCons (eVar 6) aNil)))))) (sIf (tAnd (tV (eBin dEq (eBin dIx (eBin dIx (eVar 1) (eC (.int 0))) (eVar 5)) (eC (.int 0)))) (tV (eBin dEq (eCallB 1 0 F__law_take (aCons (eC (.int 4)) aNil)) (eC (.int 0))))) (sApp 3 (eCl mkT (aCons (eC (.str "lost")) (aCons (eVar 5) (aCons (eCallB 1 0 F__law_take (aCons (eBin dAdd (eVar 2) (eC (.int 3))) aNil)) (aCons (eVar 6) aNil)))))) (sSeq (sAsg 7 (eBin dAdd (eVar 2) (eCallB 1 0 F__law_pick (aCons (eCl mkL (aCons (eC (.int 0)) (aCons (eC (.int 0)) (aCons (eC (.int 1)) (aCons (eC (.int 2)) (aCons (eC (.int 9)) aNil)))))) aNil)))) (sSeq (sIf (tV (eBin dEq (eBin dIx (eBin dIx (eVar 1) (eC (.int 0))) (eVar 5)) (eC (.int 1)))) (sAsg 8 (eIf (tV (eBin dEq (eVar 7) (eVar 2))) (eC (.str "out")) (eC (.str "here")))) (sAsg 8 (eIf (tV (eCall 3 F__law_clear (aCons (eVar 1) (aCons (eVar 5) (aCons (eVar 7) aNil))))) (eC (.str "here")) (eC (.str "lost"))))) (sApp 3 (eCl mkT (aCons (eVar 8) (aCons (eVar 5) (aCons (eVar 7) (aCons (eVar 6) aNil)))))))))))
def B__law_people : DSt := (sSeq (sOwn 3 (nCl nwL aNil)) (sSeq (sFor (iR1 (eCallB 1 0 F__law_take (aCons (eC (.int 8)) aNil))) (gN 4) L__law_people_0) (sRet (eCl dTuple (aCons (eVar 3) aNil)))))
def F__law_people : FnS := runF true 9 B__law_people
theorem sc__law_people : FnScope ["_law_box_here", "_law_house_here", "_law_now", "_law_found", "_law_turn", "_law_room", "_law_urgency", "_law_beat", "_law_word_here"] ["_law_box_here", "_law_house_here", "_law_now"] (defScope s__law_people) := ⟨rfl, rfl, rfl, by decide +kernel, rfl, by decide +kernel, by decide +kernel⟩
theorem b__law_people {P : Program} {w : World} {K : Fg} {mg : Str → Option Value} {base : Heap} {f : Addr} {cdv : Value} {Ar : Around} {outer : List Env} {s : Shared} {H : Hp} {E : XK} {O : AS} {W : WX} (T : Tx mg) (C__law_clear : Callee P w K mg base 1 "_law_clear" ["_law_house_here", "_law_room", "_law_beat"] (spF K CS false 3 F__law_clear)) (C__law_pick : Callee P w K mg base 2 "_law_pick" ["_law_box_here", "_law_some"] (spF K CS true 1 F__law_pick)) (C__law_take : Callee P w K mg base 1 "_law_take" ["_law_box_here", "_law_many"] (spF K CS true 1 F__law_take))
    (hr : Room 2 (Ar.deeper (envOfC "_law_people" (defScope s__law_people) s.heap.objs.size f cdv))) (hgu : Ar.guards = some []) (tk : L2.Takes (cxOf (L2.CX P w) P w K mg base ["_law_box_here", "_law_house_here", "_law_now", "_law_found", "_law_turn", "_law_room", "_law_urgency", "_law_beat", "_law_word_here"] "_law_people" (defScope s__law_people) f cdv Ar outer s H E) W) : DSs (cxOf (L2.CX P w) P w K mg base ["_law_box_here", "_law_house_here", "_law_now", "_law_found", "_law_turn", "_law_room", "_law_urgency", "_law_beat", "_law_word_here"] "_law_people" (defScope s__law_people) f cdv Ar outer s H E) ⟨K, O, false, CS⟩ W (defBody s__law_people) B__law_people :=
  have c : Cn (cxOf (L2.CX P w) P w K mg base ["_law_box_here", "_law_house_here", "_law_now", "_law_found", "_law_turn", "_law_room", "_law_urgency", "_law_beat", "_law_word_here"] "_law_people" (defScope s__law_people) f cdv Ar outer s H E) ⟨K, O, false, CS⟩ W 2 := ⟨rfl, hr, hgu, tk, rfl, sc__law_people.nd⟩
  (ds_cons (s_own c 3 (dn_lst da_nil)) (ds_cons (ds_for (passes_of rfl) c.calm (di_r1 rfl T.z_range (v_callX c 0 C__law_take (da_cons de_int da_nil))) (g_name c 4) (ds_cons (ds_par2 5 6 c.calm c.nd rfl rfl (by decide) rfl rfl (dp_fr (fun O => (v_callX (c.wo O) 0 C__law_take (da_cons (v_len (c.wo O) T.z_len (da_cons (v_ix (c.wo O) (v_var 1) de_int) da_nil)) da_nil))) (dp_fr (fun O => (v_callX (c.wo O) 0 C__law_take (da_cons de_int da_nil))) dp_nil)) rfl) (ds_one (ds_if (dt_bool (dw_and (w_eq c (v_ix c (v_ix c (v_var 1) de_int) (v_var 5)) de_int) (dw_and1 (w_gt c (v_callX c 0 C__law_take (da_cons de_int da_nil)) de_int)))) (ds_one (s_app 3 (de_tup (da_cons de_str (da_cons (v_var 5) (da_cons (v_callX c 0 C__law_take (da_cons (v_add c (v_var 2) de_int) da_nil)) (da_cons (v_var 6) da_nil))))))) (ds_one (ds_if (dt_bool (dw_and (w_eq c (v_ix c (v_ix c (v_var 1) de_int) (v_var 5)) de_int) (dw_and1 (w_eq c (v_callX c 0 C__law_take (da_cons de_int da_nil)) de_int)))) (ds_one (s_app 3 (de_tup (da_cons de_str (da_cons (v_var 5) (da_cons (v_callX c 0 C__law_take (da_cons (v_add c (v_var 2) de_int) da_nil)) (da_cons (v_var 6) da_nil))))))) (ds_cons (s_asg c 7 (v_add c (v_var 2) (v_callX c 0 C__law_pick (da_cons (de_lst (da_cons de_int (da_cons de_int (da_cons de_int (da_cons de_int (da_cons de_int da_nil)))))) da_nil)))) (ds_cons (ds_if (w_eq c (v_ix c (v_ix c (v_var 1) de_int) (v_var 5)) de_int) (ds_one (s_asg c 8 (de_if (w_eq c (v_var 7) (v_var 2)) de_str de_str))) (ds_one (s_asg c 8 (de_if (dt_val (v_call c C__law_clear (da_cons (v_var 1) (da_cons (v_var 5) (da_cons (v_var 7) da_nil))))) de_str de_str)))) (ds_one (s_app 3 (de_tup (da_cons (v_var 8) (da_cons (v_var 5) (da_cons (v_var 7) (da_cons (v_var 6) da_nil))))))))))))))) (ds_one (ds_ret (v_tuple c T.z_tuple (da_cons (v_var 3) da_nil))))))
theorem ok__law_people {P : Program} {w : World} {K : Fg} {mg : Str → Option Value} {base : Heap} {f : Addr} {fd : FuncData} (T : Tx mg) (C__law_clear : Callee P w K mg base 1 "_law_clear" ["_law_house_here", "_law_room", "_law_beat"] (spF K CS false 3 F__law_clear)) (C__law_pick : Callee P w K mg base 2 "_law_pick" ["_law_box_here", "_law_some"] (spF K CS true 1 F__law_pick)) (C__law_take : Callee P w K mg base 1 "_law_take" ["_law_box_here", "_law_many"] (spF K CS true 1 F__law_take)) (F : Fun K "_law_people" "_law_people" s__law_people f fd) : FnG P w K mg base 3 f fd ["_law_box_here", "_law_house_here", "_law_now"] (spF K CS true 2 F__law_people) :=
  fn_data F sc__law_people rfl fun cdv Ar outer s H E O W hr hg tk => b__law_people T C__law_clear C__law_pick C__law_take hr hg tk
/-! ### is_place -/
def B_is_place : DSt := (sRet (eOr (eBin dIsN (eBin dIx (eBin dIx (eVar 0) (eC (.int 2))) (eVar 1)) (eC .none)) (eBin dLt (eVar 2) (eBin dIx (eBin dIx (eVar 0) (eC (.int 2))) (eVar 1)))))
def F_is_place : FnS := runF false 3 B_is_place
theorem sc_is_place : FnScope ["house", "room", "beat"] ["house", "room", "beat"] (defScope s_is_place) := ⟨rfl, rfl, rfl, by decide +kernel, rfl, by decide +kernel, by decide +kernel⟩
theorem b_is_place {P : Program} {w : World} {K : Fg} {mg : Str → Option Value} {base : Heap} {f : Addr} {cdv : Value} {Ar : Around} {outer : List Env} {s : Shared} {H : Hp} {E : XK} {O : AS} {W : WX} (T : Tx mg) 
    (hr : Room 0 (Ar.deeper (envOfC "is_place" (defScope s_is_place) s.heap.objs.size f cdv))) (hgu : Ar.guards = some []) (tk : L2.Takes (cxOf (L2.CX P w) P w K mg base ["house", "room", "beat"] "is_place" (defScope s_is_place) f cdv Ar outer s H E) W) : DSs (cxOf (L2.CX P w) P w K mg base ["house", "room", "beat"] "is_place" (defScope s_is_place) f cdv Ar outer s H E) ⟨K, O, false, CS⟩ W (defBody s_is_place) B_is_place :=
  have c : Cn (cxOf (L2.CX P w) P w K mg base ["house", "room", "beat"] "is_place" (defScope s_is_place) f cdv Ar outer s H E) ⟨K, O, false, CS⟩ W 0 := ⟨rfl, hr, hgu, tk, rfl, sc_is_place.nd⟩
  (ds_one (ds_ret (de_or (v_isn c (v_ix c (v_ix c (v_var 0) de_int) (v_var 1)) de_non) (de_one (v_lt c (v_var 2) (v_ix c (v_ix c (v_var 0) de_int) (v_var 1)))))))
theorem ok_is_place {P : Program} {w : World} {K : Fg} {mg : Str → Option Value} {base : Heap} {f : Addr} {fd : FuncData} (T : Tx mg)  (F : Fun K "is_place" "is_place" s_is_place f fd) : FnG P w K mg base 1 f fd ["house", "room", "beat"] (spF K CS false 3 F_is_place) :=
  fn_data F sc_is_place rfl fun cdv Ar outer s H E O W hr hg tk => b_is_place T hr hg tk
/-! ### room_sign -/
def B_room_sign : DSt := (sSeq (sIf (tV (eBin dEq (eBin dIx (eBin dIx (eVar 0) (eC (.int 0))) (eVar 1)) (eC (.int 1)))) (sRet (eC (.str ">"))) sNx) (sRet (eIf (tV (eCall 3 F_is_place (aCons (eVar 0) (aCons (eVar 1) (aCons (eVar 2) aNil))))) (eC (.str ".")) (eC (.str "~")))))
def F_room_sign : FnS := runF false 3 B_room_sign
theorem sc_room_sign : FnScope ["house", "room", "beat"] ["house", "room", "beat"] (defScope s_room_sign) := ⟨rfl, rfl, rfl, by decide +kernel, rfl, by decide +kernel, by decide +kernel⟩
theorem b_room_sign {P : Program} {w : World} {K : Fg} {mg : Str → Option Value} {base : Heap} {f : Addr} {cdv : Value} {Ar : Around} {outer : List Env} {s : Shared} {H : Hp} {E : XK} {O : AS} {W : WX} (T : Tx mg) (C_is_place : Callee P w K mg base 1 "is_place" ["house", "room", "beat"] (spF K CS false 3 F_is_place))
    (hr : Room 1 (Ar.deeper (envOfC "room_sign" (defScope s_room_sign) s.heap.objs.size f cdv))) (hgu : Ar.guards = some []) (tk : L2.Takes (cxOf (L2.CX P w) P w K mg base ["house", "room", "beat"] "room_sign" (defScope s_room_sign) f cdv Ar outer s H E) W) : DSs (cxOf (L2.CX P w) P w K mg base ["house", "room", "beat"] "room_sign" (defScope s_room_sign) f cdv Ar outer s H E) ⟨K, O, false, CS⟩ W (defBody s_room_sign) B_room_sign :=
  have c : Cn (cxOf (L2.CX P w) P w K mg base ["house", "room", "beat"] "room_sign" (defScope s_room_sign) f cdv Ar outer s H E) ⟨K, O, false, CS⟩ W 1 := ⟨rfl, hr, hgu, tk, rfl, sc_room_sign.nd⟩
  (ds_cons (ds_if (w_eq c (v_ix c (v_ix c (v_var 0) de_int) (v_var 1)) (v_gint c T.z_WAY_OUT)) (ds_one (ds_ret (v_gstr c T.z_OUT_SIGN))) ds_nil) (ds_one (ds_ret (de_if (dt_val (v_call c C_is_place (da_cons (v_var 0) (da_cons (v_var 1) (da_cons (v_var 2) da_nil))))) (v_gstr c T.z_INSIDE_SIGN) (v_gstr c T.z_SMOKE_SIGN)))))
theorem ok_room_sign {P : Program} {w : World} {K : Fg} {mg : Str → Option Value} {base : Heap} {f : Addr} {fd : FuncData} (T : Tx mg) (C_is_place : Callee P w K mg base 1 "is_place" ["house", "room", "beat"] (spF K CS false 3 F_is_place)) (F : Fun K "room_sign" "room_sign" s_room_sign f fd) : FnG P w K mg base 2 f fd ["house", "room", "beat"] (spF K CS false 3 F_room_sign) :=
  fn_data F sc_room_sign rfl fun cdv Ar outer s H E O W hr hg tk => b_room_sign T C_is_place hr hg tk
/-! ### with_sign -/
def A_with_sign_0 : DEn := (eCl dStr (aCons (eVar 2) aNil))
def B_with_sign : DSt := (sRet (eIf (tV (eBin dGt (eCl dLen (aCons (eVar 0) aNil)) (eC (.int 0)))) (eM1 dJoin (eVar 1) (eN (nComp [2] (iSeq (eVar 0)) (gN 2) tTrue A_with_sign_0))) (eC (.str "-"))))
def F_with_sign : FnS := runF false 3 B_with_sign
theorem sc_with_sign : FnScope ["some", "sign", "one"] ["some", "sign"] (defScope s_with_sign) := ⟨rfl, rfl, rfl, by decide +kernel, rfl, by decide +kernel, by decide +kernel⟩
theorem b_with_sign {P : Program} {w : World} {K : Fg} {mg : Str → Option Value} {base : Heap} {f : Addr} {cdv : Value} {Ar : Around} {outer : List Env} {s : Shared} {H : Hp} {E : XK} {O : AS} {W : WX} (T : Tx mg) 
    (hr : Room 0 (Ar.deeper (envOfC "with_sign" (defScope s_with_sign) s.heap.objs.size f cdv))) (hgu : Ar.guards = some []) (tk : L2.Takes (cxOf (L2.CX P w) P w K mg base ["some", "sign", "one"] "with_sign" (defScope s_with_sign) f cdv Ar outer s H E) W) : DSs (cxOf (L2.CX P w) P w K mg base ["some", "sign", "one"] "with_sign" (defScope s_with_sign) f cdv Ar outer s H E) ⟨K, O, false, CS⟩ W (defBody s_with_sign) B_with_sign :=
  have c : Cn (cxOf (L2.CX P w) P w K mg base ["some", "sign", "one"] "with_sign" (defScope s_with_sign) f cdv Ar outer s H E) ⟨K, O, false, CS⟩ W 0 := ⟨rfl, hr, hgu, tk, rfl, sc_with_sign.nd⟩
  (ds_one (ds_ret (de_if (w_gt c (v_len c T.z_len (da_cons (v_var 0) da_nil)) de_int) (de_join c.K (v_var 1) (de_new (dn_comp [("one", 2)] c.calm c.nd (di_seq c.K (v_var 0)) (blkOk_by (by kernel_rfl)) (by decide) ⟨fun O s H C cl fp => (g_name (c.blk O s H _ _ fp) 2), fun O s H C cl fp => dts_nil, fun O s H C cl fp => (v_str (c.blk O s H _ _ fp) T.z_str (da_cons (v_var 2) da_nil))⟩))) (v_gstr c T.z_NOTHING_SIGN))))
theorem ok_with_sign {P : Program} {w : World} {K : Fg} {mg : Str → Option Value} {base : Heap} {f : Addr} {fd : FuncData} (T : Tx mg)  (F : Fun K "with_sign" "with_sign" s_with_sign f fd) : FnG P w K mg base 1 f fd ["some", "sign"] (spF K CS false 2 F_with_sign) :=
  fn_data F sc_with_sign rfl fun cdv Ar outer s H E O W hr hg tk => b_with_sign T hr hg tk
/-! ### room_line -/
def A_room_line_0 : DEn := (eBin dIx (eVar 8) (eC (.int 3)))
def T_room_line_0 : DTt := (tAnd (tV (eBin dEq (eBin dIx (eVar 8) (eC (.int 1))) (eVar 1))) (tAnd (tV (eBin dNe (eBin dIx (eVar 8) (eC (.int 0))) (eC (.str "lost")))) (tV (eBin dLe (eBin dIx (eVar 8) (eC (.int 2))) (eVar 2)))))
def A_room_line_1 : DEn := (eSl (eVar 8) (oSo (eC (.int 2))) oNo)
def T_room_line_1 : DTt := (tAnd (tV (eBin dEq (eBin dIx (eVar 8) (eC (.int 1))) (eVar 1))) (tAnd (tV (eBin dEq (eBin dIx (eVar 8) (eC (.int 0))) (eC (.str "here")))) (tV (eBin dGt (eBin dIx (eVar 8) (eC (.int 2))) (eVar 2)))))
def A_room_line_2 : DEn := (eVar 8)
def T_room_line_2 : DTt := (tAnd (tV (eBin dEq (eBin dIx (eVar 8) (eC (.int 1))) (eVar 1))) (tV (eBin dEq (eBin dIx (eVar 8) (eC (.int 0))) (eC (.str "lost")))))
def A_room_line_3 : DEn := (eCall 2 F_with_sign (aCons (eVar 12) (aCons (eC (.str ":")) aNil)))
def B_room_line : DSt := (sSeq (sUnp (gTup 5 (gCons (gN 2) (gCons (gN 3) (gCons (gN 4) (gCons (gN 5) (gCons (gN 6) gNil)))))) (eVar 0)) (sSeq (sAsg 7 (eCl dSorted (aCons (eN (nComp [8] (iSeq (eVar 5)) (gN 8) T_room_line_0 A_room_line_0)) aNil))) (sSeq (sAsg 9 (eCl dSorted (aCons (eN (nComp [8] (iSeq (eVar 5)) (gN 8) T_room_line_1 A_room_line_1)) aNil))) (sSeq (sAsg 10 (eCl dLen (aCons (eN (nComp [8] (iSeq (eVar 5)) (gN 8) T_room_line_2 A_room_line_2)) aNil))) (sSeq (sAsg 11 (eCl mkL (aCons (eCl dStr (aCons (eVar 1) aNil)) (aCons (eCall 3 F_room_sign (aCons (eVar 4) (aCons (eVar 1) (aCons (eVar 2) aNil)))) (aCons (eCall 2 F_with_sign (aCons (eVar 7) (aCons (eC (.str "")) aNil))) aNil))))) (sRet (eM1 dJoin (eC (.str " ")) (eBin dAdd (eVar 11) (eCl mkL (aCons (eCall 2 F_with_sign (aCons (eN (nComp [12] (iSeq (eVar 9)) (gN 12) tTrue A_room_line_3)) (aCons (eC (.str ",")) aNil))) (aCons (eCl dStr (aCons (eVar 10) aNil)) aNil)))))))))))
def F_room_line : FnS := runF false 13 B_room_line
theorem sc_room_line : FnScope ["state", "room", "now", "end", "house", "people", "told", "there", "entry", "coming", "lost", "words", "one"] ["state", "room"] (defScope s_room_line) := ⟨rfl, rfl, rfl, by decide +kernel, rfl, by decide +kernel, by decide +kernel⟩
theorem b_room_line {P : Program} {w : World} {K : Fg} {mg : Str → Option Value} {base : Heap} {f : Addr} {cdv : Value} {Ar : Around} {outer : List Env} {s : Shared} {H : Hp} {E : XK} {O : AS} {W : WX} (T : Tx mg) (C_room_sign : Callee P w K mg base 2 "room_sign" ["house", "room", "beat"] (spF K CS false 3 F_room_sign)) (C_with_sign : Callee P w K mg base 1 "with_sign" ["some", "sign"] (spF K CS false 2 F_with_sign))
    (hr : Room 2 (Ar.deeper (envOfC "room_line" (defScope s_room_line) s.heap.objs.size f cdv))) (hgu : Ar.guards = some []) (tk : L2.Takes (cxOf (L2.CX P w) P w K mg base ["state", "room", "now", "end", "house", "people", "told", "there", "entry", "coming", "lost", "words", "one"] "room_line" (defScope s_room_line) f cdv Ar outer s H E) W) : DSs (cxOf (L2.CX P w) P w K mg base ["state", "room", "now", "end", "house", "people", "told", "there", "entry", "coming", "lost", "words", "one"] "room_line" (defScope s_room_line) f cdv Ar outer s H E) ⟨K, O, false, CS⟩ W (defBody s_room_line) B_room_line :=
  have c : Cn (cxOf (L2.CX P w) P w K mg base ["state", "room", "now", "end", "house", "people", "told", "there", "entry", "coming", "lost", "words", "one"] "room_line" (defScope s_room_line) f cdv Ar outer s H E) ⟨K, O, false, CS⟩ W 2 := ⟨rfl, hr, hgu, tk, rfl, sc_room_line.nd⟩
  (ds_cons (ds_unp (v_var 0) (dg_tup c.K c.calm (dgs_cons (g_name c 2) (dgs_cons (g_name c 3) (dgs_cons (g_name c 4) (dgs_cons (g_name c 5) (dgs_cons (g_name c 6) dgs_nil))))))) (ds_cons (s_asg c 7 (v_sorted c T.z_sorted (da_cons (de_new (dn_comp [("entry", 8)] c.calm c.nd (di_seq c.K (v_var 5)) (blkOk_by (by kernel_rfl)) (by decide) ⟨fun O s H C cl fp => (g_name (c.blk O s H _ _ fp) 8), fun O s H C cl fp => (dts_one (dt_bool (dw_and (w_eq (c.blk O s H _ _ fp) (v_ix (c.blk O s H _ _ fp) (v_var 8) de_int) (v_var 1)) (dw_and (w_ne (c.blk O s H _ _ fp) (v_ix (c.blk O s H _ _ fp) (v_var 8) de_int) (v_gstr (c.blk O s H _ _ fp) T.z_LOST)) (dw_and1 (w_le (c.blk O s H _ _ fp) (v_ix (c.blk O s H _ _ fp) (v_var 8) de_int) (v_var 2))))))), fun O s H C cl fp => (v_ix (c.blk O s H _ _ fp) (v_var 8) de_int)⟩)) da_nil))) (ds_cons (s_asg c 9 (v_sorted c T.z_sorted (da_cons (de_new (dn_comp [("entry", 8)] c.calm c.nd (di_seq c.K (v_var 5)) (blkOk_by (by kernel_rfl)) (by decide) ⟨fun O s H C cl fp => (g_name (c.blk O s H _ _ fp) 8), fun O s H C cl fp => (dts_one (dt_bool (dw_and (w_eq (c.blk O s H _ _ fp) (v_ix (c.blk O s H _ _ fp) (v_var 8) de_int) (v_var 1)) (dw_and (w_eq (c.blk O s H _ _ fp) (v_ix (c.blk O s H _ _ fp) (v_var 8) de_int) (v_gstr (c.blk O s H _ _ fp) T.z_HERE)) (dw_and1 (w_gt (c.blk O s H _ _ fp) (v_ix (c.blk O s H _ _ fp) (v_var 8) de_int) (v_var 2))))))), fun O s H C cl fp => (de_sl (c.blk O s H _ _ fp).K (v_var 8) (do_so de_int) do_no)⟩)) da_nil))) (ds_cons (s_asg c 10 (v_len c T.z_len (da_cons (de_new (dn_comp [("entry", 8)] c.calm c.nd (di_seq c.K (v_var 5)) (blkOk_by (by kernel_rfl)) (by decide) ⟨fun O s H C cl fp => (g_name (c.blk O s H _ _ fp) 8), fun O s H C cl fp => (dts_one (dt_bool (dw_and (w_eq (c.blk O s H _ _ fp) (v_ix (c.blk O s H _ _ fp) (v_var 8) de_int) (v_var 1)) (dw_and1 (w_eq (c.blk O s H _ _ fp) (v_ix (c.blk O s H _ _ fp) (v_var 8) de_int) (v_gstr (c.blk O s H _ _ fp) T.z_LOST)))))), fun O s H C cl fp => (v_var 8)⟩)) da_nil))) (ds_cons (s_asg c 11 (de_lst (da_cons (v_str c T.z_str (da_cons (v_var 1) da_nil)) (da_cons (v_call c C_room_sign (da_cons (v_var 4) (da_cons (v_var 1) (da_cons (v_var 2) da_nil)))) (da_cons (v_call c C_with_sign (da_cons (v_var 7) (da_cons de_str da_nil))) da_nil))))) (ds_one (ds_ret (de_join c.K de_str (v_add c (v_var 11) (de_lst (da_cons (v_call c C_with_sign (da_cons (de_new (dn_comp [("one", 12)] c.calm c.nd (di_seq c.K (v_var 9)) (blkOk_by (by kernel_rfl)) (by decide) ⟨fun O s H C cl fp => (g_name (c.blk O s H _ _ fp) 12), fun O s H C cl fp => dts_nil, fun O s H C cl fp => (v_call (c.blk O s H _ _ fp) C_with_sign (da_cons (v_var 12) (da_cons de_str da_nil)))⟩)) (da_cons de_str da_nil))) (da_cons (v_str c T.z_str (da_cons (v_var 10) da_nil)) da_nil))))))))))))
theorem ok_room_line {P : Program} {w : World} {K : Fg} {mg : Str → Option Value} {base : Heap} {f : Addr} {fd : FuncData} (T : Tx mg) (C_room_sign : Callee P w K mg base 2 "room_sign" ["house", "room", "beat"] (spF K CS false 3 F_room_sign)) (C_with_sign : Callee P w K mg base 1 "with_sign" ["some", "sign"] (spF K CS false 2 F_with_sign)) (F : Fun K "room_line" "room_line" s_room_line f fd) : FnG P w K mg base 3 f fd ["state", "room"] (spF K CS false 2 F_room_line) :=
  fn_data F sc_room_line rfl fun cdv Ar outer s H E O W hr hg tk => b_room_line T C_room_sign C_with_sign hr hg tk
/-! ### step_word -/
def B_step_word : DSt := (sRet (eIf (tV (eBin dIsN (eVar 0) (eC .none))) (eC (.str "-")) (eIf (tV (eBin dEq (eVar 0) (eC (.str "stand")))) (eC (.str "s")) (eCl dStr (aCons (eVar 0) aNil)))))
def F_step_word : FnS := runF false 1 B_step_word
theorem sc_step_word : FnScope ["step"] ["step"] (defScope s_step_word) := ⟨rfl, rfl, rfl, by decide +kernel, rfl, by decide +kernel, by decide +kernel⟩
theorem b_step_word {P : Program} {w : World} {K : Fg} {mg : Str → Option Value} {base : Heap} {f : Addr} {cdv : Value} {Ar : Around} {outer : List Env} {s : Shared} {H : Hp} {E : XK} {O : AS} {W : WX} (T : Tx mg) 
    (hr : Room 0 (Ar.deeper (envOfC "step_word" (defScope s_step_word) s.heap.objs.size f cdv))) (hgu : Ar.guards = some []) (tk : L2.Takes (cxOf (L2.CX P w) P w K mg base ["step"] "step_word" (defScope s_step_word) f cdv Ar outer s H E) W) : DSs (cxOf (L2.CX P w) P w K mg base ["step"] "step_word" (defScope s_step_word) f cdv Ar outer s H E) ⟨K, O, false, CS⟩ W (defBody s_step_word) B_step_word :=
  have c : Cn (cxOf (L2.CX P w) P w K mg base ["step"] "step_word" (defScope s_step_word) f cdv Ar outer s H E) ⟨K, O, false, CS⟩ W 0 := ⟨rfl, hr, hgu, tk, rfl, sc_step_word.nd⟩
  (ds_one (ds_ret (de_if (w_isn c (v_var 0) de_non) (v_gstr c T.z_NOTHING_SIGN) (de_if (w_eq c (v_var 0) (v_gstr c T.z_STAND)) (v_gstr c T.z_STAND_SIGN) (v_str c T.z_str (da_cons (v_var 0) da_nil))))))
theorem ok_step_word {P : Program} {w : World} {K : Fg} {mg : Str → Option Value} {base : Heap} {f : Addr} {fd : FuncData} (T : Tx mg)  (F : Fun K "step_word" "step_word" s_step_word f fd) : FnG P w K mg base 1 f fd ["step"] (spF K CS false 1 F_step_word) :=
  fn_data F sc_step_word rfl fun cdv Ar outer s H E O W hr hg tk => b_step_word T hr hg tk
/-! ### drawn -/
def A_drawn_0 : DEn := (eCall 2 F_room_line (aCons (eVar 0) (aCons (eVar 7) aNil)))
def L_drawn_0 : DSt := (sSeq (sAsg 14 (eIf (tOr (tV (eBin dIn (eVar 1) (eVar 13))) (tV (eBin dEq (eVar 12) (eC (.int 0))))) (eC (.str "shut")) (eC (.str "open")))) (sApp 6 (eM1 dJoin (eC (.str " ")) (eCl mkL (aCons (eCl dStr (aCons (eVar 8) aNil)) (aCons (eBin dAdd (eBin dAdd (eCl dStr (aCons (eVar 9) aNil)) (eC (.str ">"))) (eCl dStr (aCons (eVar 10) aNil))) (aCons (eCl dStr (aCons (eVar 11) aNil)) (aCons (eCl dStr (aCons (eVar 12) aNil)) (aCons (eVar 14) aNil)))))))))
def A_drawn_1 : DEn := (eCall 1 F_step_word (aCons (eVar 15) aNil))
def B_drawn : DSt := (sSeq (sUnp (gTup 5 (gCons (gN 1) (gCons (gN 2) (gCons (gN 3) (gCons (gN 4) (gCons (gN 5) gNil)))))) (eVar 0)) (sSeq (sOwn 6 (nCat (eCl mkL (aCons (eBin dAdd (eBin dAdd (eBin dAdd (eC (.str "beat ")) (eCl dStr (aCons (eVar 1) aNil))) (eC (.str " of "))) (eCl dStr (aCons (eVar 2) aNil))) aNil)) (eN (nComp [7] (iR1 (eCl dLen (aCons (eBin dIx (eVar 3) (eC (.int 0))) aNil))) (gN 7) tTrue A_drawn_0)))) (sSeq (sFor (iEnu (eBin dIx (eVar 3) (eC (.int 1)))) (gTup 2 (gCons (gN 8) (gCons (gTup 5 (gCons (gN 9) (gCons (gN 10) (gCons (gN 11) (gCons (gN 12) (gCons (gN 13) gNil)))))) gNil))) L_drawn_0) (sRet (eM1 dJoin (eC (.str "\n")) (eBin dAdd (eVar 6) (eCl mkL (aCons (eBin dAdd (eC (.str "told ")) (eCall 2 F_with_sign (aCons (eN (nComp [15] (iSeq (eVar 5)) (gN 15) tTrue A_drawn_1)) (aCons (eC (.str " ")) aNil)))) aNil))))))))
def F_drawn : FnS := runF false 16 B_drawn
theorem sc_drawn : FnScope ["state", "now", "end", "house", "people", "told", "lines", "room", "number", "tail", "head", "length", "width", "shut", "word", "step"] ["state"] (defScope s_drawn) := ⟨rfl, rfl, rfl, by decide +kernel, rfl, by decide +kernel, by decide +kernel⟩
theorem b_drawn {P : Program} {w : World} {K : Fg} {mg : Str → Option Value} {base : Heap} {f : Addr} {cdv : Value} {Ar : Around} {outer : List Env} {s : Shared} {H : Hp} {E : XK} {O : AS} {W : WX} (T : Tx mg) (C_room_line : Callee P w K mg base 3 "room_line" ["state", "room"] (spF K CS false 2 F_room_line)) (C_step_word : Callee P w K mg base 1 "step_word" ["step"] (spF K CS false 1 F_step_word)) (C_with_sign : Callee P w K mg base 1 "with_sign" ["some", "sign"] (spF K CS false 2 F_with_sign))
    (hr : Room 3 (Ar.deeper (envOfC "drawn" (defScope s_drawn) s.heap.objs.size f cdv))) (hgu : Ar.guards = some []) (tk : L2.Takes (cxOf (L2.CX P w) P w K mg base ["state", "now", "end", "house", "people", "told", "lines", "room", "number", "tail", "head", "length", "width", "shut", "word", "step"] "drawn" (defScope s_drawn) f cdv Ar outer s H E) W) : DSs (cxOf (L2.CX P w) P w K mg base ["state", "now", "end", "house", "people", "told", "lines", "room", "number", "tail", "head", "length", "width", "shut", "word", "step"] "drawn" (defScope s_drawn) f cdv Ar outer s H E) ⟨K, O, false, CS⟩ W (defBody s_drawn) B_drawn :=
  have c : Cn (cxOf (L2.CX P w) P w K mg base ["state", "now", "end", "house", "people", "told", "lines", "room", "number", "tail", "head", "length", "width", "shut", "word", "step"] "drawn" (defScope s_drawn) f cdv Ar outer s H E) ⟨K, O, false, CS⟩ W 3 := ⟨rfl, hr, hgu, tk, rfl, sc_drawn.nd⟩
  (ds_cons (ds_unp (v_var 0) (dg_tup c.K c.calm (dgs_cons (g_name c 1) (dgs_cons (g_name c 2) (dgs_cons (g_name c 3) (dgs_cons (g_name c 4) (dgs_cons (g_name c 5) dgs_nil))))))) (ds_cons (s_own c 6 (dn_cat c.K (de_lst (da_cons (v_add c (v_add c (v_add c de_str (v_str c T.z_str (da_cons (v_var 1) da_nil))) de_str) (v_str c T.z_str (da_cons (v_var 2) da_nil))) da_nil)) (de_new (dn_comp [("room", 7)] c.calm c.nd (di_r1 rfl T.z_range (v_len c T.z_len (da_cons (v_ix c (v_var 3) de_int) da_nil))) (blkOk_by (by kernel_rfl)) (by decide) ⟨fun O s H C cl fp => (g_name (c.blk O s H _ _ fp) 7), fun O s H C cl fp => dts_nil, fun O s H C cl fp => (v_call (c.blk O s H _ _ fp) C_room_line (da_cons (v_var 0) (da_cons (v_var 7) da_nil)))⟩)))) (ds_cons (ds_for (passes_of rfl) c.calm (di_enum c.K rfl T.z_enumerate (v_ix c (v_var 3) de_int)) (dg_tup c.K c.calm (dgs_cons (g_name c 8) (dgs_cons (dg_tup c.K c.calm (dgs_cons (g_name c 9) (dgs_cons (g_name c 10) (dgs_cons (g_name c 11) (dgs_cons (g_name c 12) (dgs_cons (g_name c 13) dgs_nil)))))) dgs_nil))) (ds_cons (s_asg c 14 (de_if (dt_bool (dw_or (w_in c (v_var 1) (v_var 13)) (dw_or1 (w_eq c (v_var 12) de_int)))) de_str de_str)) (ds_one (s_app 6 (de_join c.K de_str (de_lst (da_cons (v_str c T.z_str (da_cons (v_var 8) da_nil)) (da_cons (v_add c (v_add c (v_str c T.z_str (da_cons (v_var 9) da_nil)) (v_gstr c T.z_OUT_SIGN)) (v_str c T.z_str (da_cons (v_var 10) da_nil))) (da_cons (v_str c T.z_str (da_cons (v_var 11) da_nil)) (da_cons (v_str c T.z_str (da_cons (v_var 12) da_nil)) (da_cons (v_var 14) da_nil))))))))))) (ds_one (ds_ret (de_join c.K de_str (v_add c (v_var 6) (de_lst (da_cons (v_add c de_str (v_call c C_with_sign (da_cons (de_new (dn_comp [("step", 15)] c.calm c.nd (di_seq c.K (v_var 5)) (blkOk_by (by kernel_rfl)) (by decide) ⟨fun O s H C cl fp => (g_name (c.blk O s H _ _ fp) 15), fun O s H C cl fp => dts_nil, fun O s H C cl fp => (v_call (c.blk O s H _ _ fp) C_step_word (da_cons (v_var 15) da_nil))⟩)) (da_cons de_str da_nil)))) da_nil)))))))))
theorem ok_drawn {P : Program} {w : World} {K : Fg} {mg : Str → Option Value} {base : Heap} {f : Addr} {fd : FuncData} (T : Tx mg) (C_room_line : Callee P w K mg base 3 "room_line" ["state", "room"] (spF K CS false 2 F_room_line)) (C_step_word : Callee P w K mg base 1 "step_word" ["step"] (spF K CS false 1 F_step_word)) (C_with_sign : Callee P w K mg base 1 "with_sign" ["some", "sign"] (spF K CS false 2 F_with_sign)) (F : Fun K "drawn" "drawn" s_drawn f fd) : FnG P w K mg base 4 f fd ["state"] (spF K CS false 1 F_drawn) :=
  fn_data F sc_drawn rfl fun cdv Ar outer s H E O W hr hg tk => b_drawn T C_room_line C_step_word C_with_sign hr hg tk
/-! ### law -/
def A_law_0 : DEn := (eVar 12)
def T_law_0 : DTt := (tV (eBin dEq (eBin dIx (eBin dIx (eBin dIx (eVar 3) (eC (.int 1))) (eVar 12)) (eC (.int 0))) (eVar 8)))
def L_law_0 : DSt := (sSeq (sAsg 11 (eBin dAdd (eCl mkL (aCons (eC .none) (aCons (eC (.str "stand")) aNil))) (eN (nComp [12] (iR1 (eCl dLen (aCons (eBin dIx (eVar 3) (eC (.int 1))) aNil))) (gN 12) T_law_0 A_law_0)))) (sApp 6 (eIf (tAnd (tV (eBin dEq (eVar 7) (eC (.str "here")))) (tV (eBin dEq (eVar 9) (eVar 4)))) (eCallB 1 2 F__law_pick (aCons (eVar 11) aNil)) (eC .none))))
def L_law_1 : DSt := (sSeq (sBox 2 0 F__law_box (eVar 1)) (sSeq (sPar [3, 4] [.fr (eCallB 0 2 F__law_house aNil), .fr (eCallB 1 2 F__law_pick (aCons (eCl mkL (aCons (eC (.int 0)) (aCons (eC (.int 1)) (aCons (eC (.int 4)) (aCons (eCallB 1 2 F__law_take (aCons (eC (.int 12)) aNil)) aNil))))) aNil))]) (sSeq (sAsg 5 (eCallB 2 2 F__law_people (aCons (eVar 3) (aCons (eVar 4) aNil)))) (sSeq (sOwn 6 (nCl nwL aNil)) (sSeq (sFor (iSeq (eVar 5)) (gTup 4 (gCons (gN 7) (gCons (gN 8) (gCons (gN 9) (gCons (gN 10) gNil))))) L_law_0) (sSeq (sAsg 13 (eCl mkT (aCons (eVar 4) (aCons (eBin dAdd (eVar 4) (eCallB 1 2 F__law_take (aCons (eC (.int 40)) aNil))) (aCons (eVar 3) (aCons (eVar 5) (aCons (eCl dTuple (aCons (eVar 6) aNil)) aNil))))))) (sIf (tV (eBin dNe (eCl dRepr (aCons (eCl mkL (aCons (eCall 1 F_drawn (aCons (eVar 13) aNil)) (aCons (eCallK 1 [0] F_drawn (aCons (eVar 13) aNil)) aNil))) aNil)) (eCl dRepr (aCons (eBin dMul (eCl mkL (aCons (eCall 1 F__law_drawn (aCons (eVar 13) aNil)) aNil)) (eC (.int 2))) aNil)))) (sRet (eC (.bool false))) sNx)))))))
def B_law : DSt := (sSeq (sFor (iR1 (eC (.int 5))) (gN 1) L_law_1) (sRet (eC (.bool true))))
theorem sc_law : FnScope ["_law_script", "_law_k", "_law_box_here", "_law_house_here", "_law_now", "_law_people_here", "_law_told", "_law_word_here", "_law_room", "_law_beat", "_law_urgency", "_law_some", "_law_at", "_law_state"] ["_law_script"] (defScope s_law) := ⟨rfl, rfl, rfl, by decide +kernel, rfl, by decide +kernel, by decide +kernel⟩
theorem b_law {P : Program} {w : World} {K : Fg} {mg : Str → Option Value} {base : Heap} {f : Addr} {cdv : Value} {Ar : Around} {outer : List Env} {s : Shared} {H : Hp} {E : XK} {O : AS} {W : WX} (T : Tx mg) (C_drawn_state : CalleeK P w K mg base 4 "drawn" ["state"] ["state"] [0] (spF K CS false 1 F_drawn)) (C__law_box : Callee P w K mg base 1 "_law_box" ["_law_script", "_law_k"] (spBx K F__law_box)) (C__law_drawn : Callee P w K mg base 2 "_law_drawn" ["_law_state"] (spF K CS false 1 F__law_drawn)) (C__law_house : Callee P w K mg base 3 "_law_house" ["_law_box_here"] (spF K CS true 0 F__law_house)) (C__law_people : Callee P w K mg base 3 "_law_people" ["_law_box_here", "_law_house_here", "_law_now"] (spF K CS true 2 F__law_people)) (C__law_pick : Callee P w K mg base 2 "_law_pick" ["_law_box_here", "_law_some"] (spF K CS true 1 F__law_pick)) (C__law_take : Callee P w K mg base 1 "_law_take" ["_law_box_here", "_law_many"] (spF K CS true 1 F__law_take)) (C_drawn : Callee P w K mg base 4 "drawn" ["state"] (spF K CS false 1 F_drawn))
    (hr : Room 4 (Ar.deeper (envOfC "law" (defScope s_law) s.heap.objs.size f cdv))) (hgu : Ar.guards = some []) (tk : L2.Takes (cxOf (L2.CX P w) P w K mg base ["_law_script", "_law_k", "_law_box_here", "_law_house_here", "_law_now", "_law_people_here", "_law_told", "_law_word_here", "_law_room", "_law_beat", "_law_urgency", "_law_some", "_law_at", "_law_state"] "law" (defScope s_law) f cdv Ar outer s H E) W) : DSs (cxOf (L2.CX P w) P w K mg base ["_law_script", "_law_k", "_law_box_here", "_law_house_here", "_law_now", "_law_people_here", "_law_told", "_law_word_here", "_law_room", "_law_beat", "_law_urgency", "_law_some", "_law_at", "_law_state"] "law" (defScope s_law) f cdv Ar outer s H E) ⟨K, O, true, CS⟩ W (defBody s_law) B_law :=
  have c : Cn (cxOf (L2.CX P w) P w K mg base ["_law_script", "_law_k", "_law_box_here", "_law_house_here", "_law_now", "_law_people_here", "_law_told", "_law_word_here", "_law_room", "_law_beat", "_law_urgency", "_law_some", "_law_at", "_law_state"] "law" (defScope s_law) f cdv Ar outer s H E) ⟨K, O, true, CS⟩ W 4 := ⟨rfl, hr, hgu, tk, rfl, sc_law.nd⟩
  (ds_cons (ds_for (passes_of rfl) c.calm (di_r1 rfl T.z_range de_int) (g_name c 1) (ds_cons (v_box c 2 0 rfl C__law_box (v_var 1)) (ds_cons (ds_parT c.calm (dp_fr (fun O => (v_callX (c.wo O) 2 C__law_house da_nil)) (dp_fr (fun O => (v_callX (c.wo O) 2 C__law_pick (da_cons (de_lst (da_cons de_int (da_cons de_int (da_cons de_int (da_cons (v_callX (c.wo O) 2 C__law_take (da_cons de_int da_nil)) da_nil))))) da_nil))) dp_nil)) (n_cons c 3 (n_cons c 4 ng_nil)) (by decide)) (ds_cons (s_asg c 5 (v_callX c 2 C__law_people (da_cons (v_var 3) (da_cons (v_var 4) da_nil)))) (ds_cons (s_own c 6 (dn_lst da_nil)) (ds_cons (ds_for (passes_of rfl) c.calm (di_seq c.K (v_var 5)) (dg_tup c.K c.calm (dgs_cons (g_name c 7) (dgs_cons (g_name c 8) (dgs_cons (g_name c 9) (dgs_cons (g_name c 10) dgs_nil))))) (ds_cons (s_asg c 11 (v_add c (de_lst (da_cons de_non (da_cons de_str da_nil))) (de_new (dn_comp [("_law_at", 12)] c.calm c.nd (di_r1 rfl T.z_range (v_len c T.z_len (da_cons (v_ix c (v_var 3) de_int) da_nil))) (blkOk_by (by kernel_rfl)) (by decide) ⟨fun O s H C cl fp => (g_name (c.blk O s H _ _ fp) 12), fun O s H C cl fp => (dts_one (w_eq (c.blk O s H _ _ fp) (v_ix (c.blk O s H _ _ fp) (v_ix (c.blk O s H _ _ fp) (v_ix (c.blk O s H _ _ fp) (v_var 3) de_int) (v_var 12)) de_int) (v_var 8))), fun O s H C cl fp => (v_var 12)⟩)))) (ds_one (s_app 6 (de_if (dt_bool (dw_and (w_eq c (v_var 7) de_str) (dw_and1 (w_eq c (v_var 9) (v_var 4))))) (v_callX c 2 C__law_pick (da_cons (v_var 11) da_nil)) de_non))))) (ds_cons (s_asg c 13 (de_tup (da_cons (v_var 4) (da_cons (v_add c (v_var 4) (v_callX c 2 C__law_take (da_cons de_int da_nil))) (da_cons (v_var 3) (da_cons (v_var 5) (da_cons (v_tuple c T.z_tuple (da_cons (v_var 6) da_nil)) da_nil))))))) (ds_one (ds_if (w_ne c (v_repr c T.z_repr (da_cons (de_lst (da_cons (v_call c C_drawn (da_cons (v_var 13) da_nil)) (da_cons (v_callK c C_drawn_state (dk_cons (v_var 13) dk_nil)) da_nil))) da_nil)) (v_repr c T.z_repr (da_cons (v_mul c (de_lst (da_cons (v_call c C__law_drawn (da_cons (v_var 13) da_nil)) da_nil)) de_int) da_nil))) (ds_one (ds_ret de_bl)) ds_nil))))))))) (ds_one (ds_ret de_bl)))
theorem ok_law {P : Program} {w : World} {K : Fg} {mg : Str → Option Value} {base : Heap} {f : Addr} {fd : FuncData} (tot : ∀ ns : List Int, ns.length ≤ 63 → Post (fun o => ∃ en, o = Out.rt (.bool true) en) (fun _ _ _ => False) (B_law ⟨.sq ns :: List.replicate 13 .no, (0, 0)⟩)) (T : Tx mg) (C_drawn_state : CalleeK P w K mg base 4 "drawn" ["state"] ["state"] [0] (spF K CS false 1 F_drawn)) (C__law_box : Callee P w K mg base 1 "_law_box" ["_law_script", "_law_k"] (spBx K F__law_box)) (C__law_drawn : Callee P w K mg base 2 "_law_drawn" ["_law_state"] (spF K CS false 1 F__law_drawn)) (C__law_house : Callee P w K mg base 3 "_law_house" ["_law_box_here"] (spF K CS true 0 F__law_house)) (C__law_people : Callee P w K mg base 3 "_law_people" ["_law_box_here", "_law_house_here", "_law_now"] (spF K CS true 2 F__law_people)) (C__law_pick : Callee P w K mg base 2 "_law_pick" ["_law_box_here", "_law_some"] (spF K CS true 1 F__law_pick)) (C__law_take : Callee P w K mg base 1 "_law_take" ["_law_box_here", "_law_many"] (spF K CS true 1 F__law_take)) (C_drawn : Callee P w K mg base 4 "drawn" ["state"] (spF K CS false 1 F_drawn)) (F : Fun K "law" "law" s_law f fd) : FnG P w K mg base 5 f fd ["_law_script"] (spLaw K 63) :=
  fn_law CS F sc_law rfl tot fun cdv Ar outer s H E W hr hg tk => b_law T C_drawn_state C__law_box C__law_drawn C__law_house C__law_people C__law_pick C__law_take C_drawn hr hg tk
/-! ### the assembly -/
theorem all_mk {l : PySem.W.OpenLaw} {w : World} {K : Fg} {h : Heap} {mg : Str → Option Value} {fa : Addr} {f0 : Addr} {od0 an0 : Option Addr} {sl0 : Array (Option Value)} {oc0 kV0 dc0 pm0 cd0 ct0 : Value} {f1 : Addr} {od1 an1 : Option Addr} {sl1 : Array (Option Value)} {oc1 kV1 dc1 pm1 cd1 ct1 : Value} {f2 : Addr} {od2 an2 : Option Addr} {sl2 : Array (Option Value)} {oc2 kV2 dc2 pm2 cd2 ct2 : Value} {f3 : Addr} {od3 an3 : Option Addr} {sl3 : Array (Option Value)} {oc3 kV3 dc3 pm3 cd3 ct3 : Value} {f4 : Addr} {od4 an4 : Option Addr} {sl4 : Array (Option Value)} {oc4 kV4 dc4 pm4 cd4 ct4 : Value} {f5 : Addr} {od5 an5 : Option Addr} {sl5 : Array (Option Value)} {oc5 kV5 dc5 pm5 cd5 ct5 : Value} {f6 : Addr} {od6 an6 : Option Addr} {sl6 : Array (Option Value)} {oc6 kV6 dc6 pm6 cd6 ct6 : Value} {f7 : Addr} {od7 an7 : Option Addr} {sl7 : Array (Option Value)} {oc7 kV7 dc7 pm7 cd7 ct7 : Value} {f8 : Addr} {od8 an8 : Option Addr} {sl8 : Array (Option Value)} {oc8 kV8 dc8 pm8 cd8 ct8 : Value} {f9 : Addr} {od9 an9 : Option Addr} {sl9 : Array (Option Value)} {oc9 kV9 dc9 pm9 cd9 ct9 : Value} {f10 : Addr} {od10 an10 : Option Addr} {sl10 : Array (Option Value)} {oc10 kV10 dc10 pm10 cd10 ct10 : Value} {f11 : Addr} {od11 an11 : Option Addr} {sl11 : Array (Option Value)} {oc11 kV11 dc11 pm11 cd11 ct11 : Value} {f12 : Addr} {od12 an12 : Option Addr} {sl12 : Array (Option Value)} {oc12 kV12 dc12 pm12 cd12 ct12 : Value} {f13 : Addr} {od13 an13 : Option Addr} {sl13 : Array (Option Value)} {oc13 kV13 dc13 pm13 cd13 ct13 : Value} {f14 : Addr} {od14 an14 : Option Addr} {sl14 : Array (Option Value)} {oc14 kV14 dc14 pm14 cd14 ct14 : Value} {t9 : Tok} {t10 : Tok} {t11 : Tok} {t12 : Tok} {t13 : Tok} {t14 : Tok} {t15 : Tok} {t16 : Tok} {t17 : Tok} (boxTot : ∀ (ns : List Int) (k : Int), 0 ≤ k → ∃ g s en, B__law_box ⟨.sq ns :: .fz (.int k) :: List.replicate 2 .no, (0, 0)⟩ = .ok (.rn [.int g, .int s] en)) (lawTot : ∀ ns : List Int, ns.length ≤ 63 → Post (fun o => ∃ en, o = Out.rt (.bool true) en) (fun _ _ _ => False) (B_law ⟨.sq ns :: List.replicate 13 .no, (0, 0)⟩)) (X : K.In h) (G : h.Ns mainGlobals mg) (hfa : mg "law" = some (.ref fa))
    (a0 : PySem.W.nsIn K mainGlobals "_law_box" = some (some (.ref f0))) (l0 : K.lookup f0 = some ⟨oc0, od0, .func (PySem.W.fnOf "_law_box" "_law_box" (defArgs s__law_box) (defBody s__law_box) (defScope s__law_box) .none kV0 dc0 pm0 an0 cd0 ct0), sl0⟩) (c0 : PySem.W.codeIn K cd0 "_law_box" = true) (k0 : PySem.W.keepIn K (.ref f0) = true)
    (a1 : PySem.W.nsIn K mainGlobals "_law_clear" = some (some (.ref f1))) (l1 : K.lookup f1 = some ⟨oc1, od1, .func (PySem.W.fnOf "_law_clear" "_law_clear" (defArgs s__law_clear) (defBody s__law_clear) (defScope s__law_clear) .none kV1 dc1 pm1 an1 cd1 ct1), sl1⟩) (c1 : PySem.W.codeIn K cd1 "_law_clear" = true) (k1 : PySem.W.keepIn K (.ref f1) = true)
    (a2 : PySem.W.nsIn K mainGlobals "_law_word" = some (some (.ref f2))) (l2 : K.lookup f2 = some ⟨oc2, od2, .func (PySem.W.fnOf "_law_word" "_law_word" (defArgs s__law_word) (defBody s__law_word) (defScope s__law_word) .none kV2 dc2 pm2 an2 cd2 ct2), sl2⟩) (c2 : PySem.W.codeIn K cd2 "_law_word" = true) (k2 : PySem.W.keepIn K (.ref f2) = true)
    (a3 : PySem.W.nsIn K mainGlobals "_law_drawn" = some (some (.ref f3))) (l3 : K.lookup f3 = some ⟨oc3, od3, .func (PySem.W.fnOf "_law_drawn" "_law_drawn" (defArgs s__law_drawn) (defBody s__law_drawn) (defScope s__law_drawn) .none kV3 dc3 pm3 an3 cd3 ct3), sl3⟩) (c3 : PySem.W.codeIn K cd3 "_law_drawn" = true) (k3 : PySem.W.keepIn K (.ref f3) = true)
    (a4 : PySem.W.nsIn K mainGlobals "_law_take" = some (some (.ref f4))) (l4 : K.lookup f4 = some ⟨oc4, od4, .func (PySem.W.fnOf "_law_take" "_law_take" (defArgs s__law_take) (defBody s__law_take) (defScope s__law_take) .none kV4 dc4 pm4 an4 cd4 ct4), sl4⟩) (c4 : PySem.W.codeIn K cd4 "_law_take" = true) (k4 : PySem.W.keepIn K (.ref f4) = true)
    (a5 : PySem.W.nsIn K mainGlobals "_law_pick" = some (some (.ref f5))) (l5 : K.lookup f5 = some ⟨oc5, od5, .func (PySem.W.fnOf "_law_pick" "_law_pick" (defArgs s__law_pick) (defBody s__law_pick) (defScope s__law_pick) .none kV5 dc5 pm5 an5 cd5 ct5), sl5⟩) (c5 : PySem.W.codeIn K cd5 "_law_pick" = true) (k5 : PySem.W.keepIn K (.ref f5) = true)
    (a6 : PySem.W.nsIn K mainGlobals "_law_house" = some (some (.ref f6))) (l6 : K.lookup f6 = some ⟨oc6, od6, .func (PySem.W.fnOf "_law_house" "_law_house" (defArgs s__law_house) (defBody s__law_house) (defScope s__law_house) .none kV6 dc6 pm6 an6 cd6 ct6), sl6⟩) (c6 : PySem.W.codeIn K cd6 "_law_house" = true) (k6 : PySem.W.keepIn K (.ref f6) = true)
    (a7 : PySem.W.nsIn K mainGlobals "_law_people" = some (some (.ref f7))) (l7 : K.lookup f7 = some ⟨oc7, od7, .func (PySem.W.fnOf "_law_people" "_law_people" (defArgs s__law_people) (defBody s__law_people) (defScope s__law_people) .none kV7 dc7 pm7 an7 cd7 ct7), sl7⟩) (c7 : PySem.W.codeIn K cd7 "_law_people" = true) (k7 : PySem.W.keepIn K (.ref f7) = true)
    (a8 : PySem.W.nsIn K mainGlobals "is_place" = some (some (.ref f8))) (l8 : K.lookup f8 = some ⟨oc8, od8, .func (PySem.W.fnOf "is_place" "is_place" (defArgs s_is_place) (defBody s_is_place) (defScope s_is_place) .none kV8 dc8 pm8 an8 cd8 ct8), sl8⟩) (c8 : PySem.W.codeIn K cd8 "is_place" = true) (k8 : PySem.W.keepIn K (.ref f8) = true)
    (a9 : PySem.W.nsIn K mainGlobals "room_sign" = some (some (.ref f9))) (l9 : K.lookup f9 = some ⟨oc9, od9, .func (PySem.W.fnOf "room_sign" "room_sign" (defArgs s_room_sign) (defBody s_room_sign) (defScope s_room_sign) .none kV9 dc9 pm9 an9 cd9 ct9), sl9⟩) (c9 : PySem.W.codeIn K cd9 "room_sign" = true) (k9 : PySem.W.keepIn K (.ref f9) = true)
    (a10 : PySem.W.nsIn K mainGlobals "with_sign" = some (some (.ref f10))) (l10 : K.lookup f10 = some ⟨oc10, od10, .func (PySem.W.fnOf "with_sign" "with_sign" (defArgs s_with_sign) (defBody s_with_sign) (defScope s_with_sign) .none kV10 dc10 pm10 an10 cd10 ct10), sl10⟩) (c10 : PySem.W.codeIn K cd10 "with_sign" = true) (k10 : PySem.W.keepIn K (.ref f10) = true)
    (a11 : PySem.W.nsIn K mainGlobals "room_line" = some (some (.ref f11))) (l11 : K.lookup f11 = some ⟨oc11, od11, .func (PySem.W.fnOf "room_line" "room_line" (defArgs s_room_line) (defBody s_room_line) (defScope s_room_line) .none kV11 dc11 pm11 an11 cd11 ct11), sl11⟩) (c11 : PySem.W.codeIn K cd11 "room_line" = true) (k11 : PySem.W.keepIn K (.ref f11) = true)
    (a12 : PySem.W.nsIn K mainGlobals "step_word" = some (some (.ref f12))) (l12 : K.lookup f12 = some ⟨oc12, od12, .func (PySem.W.fnOf "step_word" "step_word" (defArgs s_step_word) (defBody s_step_word) (defScope s_step_word) .none kV12 dc12 pm12 an12 cd12 ct12), sl12⟩) (c12 : PySem.W.codeIn K cd12 "step_word" = true) (k12 : PySem.W.keepIn K (.ref f12) = true)
    (a13 : PySem.W.nsIn K mainGlobals "drawn" = some (some (.ref f13))) (l13 : K.lookup f13 = some ⟨oc13, od13, .func (PySem.W.fnOf "drawn" "drawn" (defArgs s_drawn) (defBody s_drawn) (defScope s_drawn) .none kV13 dc13 pm13 an13 cd13 ct13), sl13⟩) (c13 : PySem.W.codeIn K cd13 "drawn" = true) (k13 : PySem.W.keepIn K (.ref f13) = true)
    (a14 : PySem.W.nsIn K mainGlobals "law" = some (some (.ref f14))) (l14 : K.lookup f14 = some ⟨oc14, od14, .func (PySem.W.fnOf "law" "law" (defArgs s_law) (defBody s_law) (defScope s_law) .none kV14 dc14 pm14 an14 cd14 ct14), sl14⟩) (c14 : PySem.W.codeIn K cd14 "law" = true) (k14 : PySem.W.keepIn K (.ref f14) = true)
    (z0 : PySem.W.nsIn K mainGlobals "range" = some none)
    (z1 : PySem.W.nsIn K mainGlobals "len" = some none)
    (z2 : PySem.W.nsIn K mainGlobals "tuple" = some none)
    (z3 : PySem.W.nsIn K mainGlobals "repr" = some none)
    (z4 : PySem.W.nsIn K mainGlobals "int" = some none)
    (z5 : PySem.W.nsIn K mainGlobals "abs" = some none)
    (z6 : PySem.W.nsIn K mainGlobals "str" = some none)
    (z7 : PySem.W.nsIn K mainGlobals "sorted" = some none)
    (z8 : PySem.W.nsIn K mainGlobals "enumerate" = some none)
    (z9 : PySem.W.nsIn K mainGlobals "OUT_SIGN" = some (some (.str ">" t9)))
    (z10 : PySem.W.nsIn K mainGlobals "LOST" = some (some (.str "lost" t10)))
    (z11 : PySem.W.nsIn K mainGlobals "HERE" = some (some (.str "here" t11)))
    (z12 : PySem.W.nsIn K mainGlobals "WAY_OUT" = some (some (.int 1 t12)))
    (z13 : PySem.W.nsIn K mainGlobals "INSIDE_SIGN" = some (some (.str "." t13)))
    (z14 : PySem.W.nsIn K mainGlobals "SMOKE_SIGN" = some (some (.str "~" t14)))
    (z15 : PySem.W.nsIn K mainGlobals "NOTHING_SIGN" = some (some (.str "-" t15)))
    (z16 : PySem.W.nsIn K mainGlobals "STAND" = some (some (.str "stand" t16)))
    (z17 : PySem.W.nsIn K mainGlobals "STAND_SIGN" = some (some (.str "s" t17))) :
    ∃ fd : FuncData, (∀ (s : Shared) (v : Value), BindsTo s fd ⟨[v], []⟩ [("_law_script", v)]) ∧ ∀ base : Heap, K.In base → base.Ns mainGlobals mg → FnG l.prog w K mg base 5 fa fd ["_law_script"] (spLaw K 63) := by
  have e := hfa.symm.trans (PySem.W.mg_of X G a14)
  cases e
  have T : Tx mg := ⟨PySem.W.mg_none_of X G z0, PySem.W.mg_none_of X G z1, PySem.W.mg_none_of X G z2, PySem.W.mg_none_of X G z3, PySem.W.mg_none_of X G z4, PySem.W.mg_none_of X G z5, PySem.W.mg_none_of X G z6, PySem.W.mg_none_of X G z7, PySem.W.mg_none_of X G z8, ⟨t9, PySem.W.mg_of X G z9⟩, ⟨t10, PySem.W.mg_of X G z10⟩, ⟨t11, PySem.W.mg_of X G z11⟩, ⟨t12, PySem.W.mg_of X G z12⟩, ⟨t13, PySem.W.mg_of X G z13⟩, ⟨t14, PySem.W.mg_of X G z14⟩, ⟨t15, PySem.W.mg_of X G z15⟩, ⟨t16, PySem.W.mg_of X G z16⟩, ⟨t17, PySem.W.mg_of X G z17⟩⟩
  have U0 := fun_mk (st := s__law_box) l0 c0 k0
  have U1 := fun_mk (st := s__law_clear) l1 c1 k1
  have U2 := fun_mk (st := s__law_word) l2 c2 k2
  have U3 := fun_mk (st := s__law_drawn) l3 c3 k3
  have U4 := fun_mk (st := s__law_take) l4 c4 k4
  have U5 := fun_mk (st := s__law_pick) l5 c5 k5
  have U6 := fun_mk (st := s__law_house) l6 c6 k6
  have U7 := fun_mk (st := s__law_people) l7 c7 k7
  have U8 := fun_mk (st := s_is_place) l8 c8 k8
  have U9 := fun_mk (st := s_room_sign) l9 c9 k9
  have U10 := fun_mk (st := s_with_sign) l10 c10 k10
  have U11 := fun_mk (st := s_room_line) l11 c11 k11
  have U12 := fun_mk (st := s_step_word) l12 c12 k12
  have U13 := fun_mk (st := s_drawn) l13 c13 k13
  have U14 := fun_mk (st := s_law) l14 c14 k14
  refine ⟨PySem.W.fnOf "law" "law" (defArgs s_law) (defBody s_law) (defScope s_law) .none kV14 dc14 pm14 an14 cd14 ct14, fun s v => .of_eq rfl, fun base _ _ => ?_⟩
  have ok0 := ok__law_box (P := l.prog) (w := w) (base := base) boxTot T U0
  have b0 := U0.binds (ps := ["_law_script", "_law_k"]) fun _ _ _ _ _ _ us hl => match us, hl with | [_, _], _ => rfl
  have C__law_box : Callee _ _ _ _ base _ "_law_box" _ _ := ⟨f0, _, PySem.W.mg_of X G a0, k0, b0, ok0⟩
  have ok1 := ok__law_clear (P := l.prog) (w := w) (base := base) T U1
  have b1 := U1.binds (ps := ["_law_house_here", "_law_room", "_law_beat"]) fun _ _ _ _ _ _ us hl => match us, hl with | [_, _, _], _ => rfl
  have C__law_clear : Callee _ _ _ _ base _ "_law_clear" _ _ := ⟨f1, _, PySem.W.mg_of X G a1, k1, b1, ok1⟩
  have ok2 := ok__law_word (P := l.prog) (w := w) (base := base) T U2
  have b2 := U2.binds (ps := ["_law_step"]) fun _ _ _ _ _ _ us hl => match us, hl with | [_], _ => rfl
  have C__law_word : Callee _ _ _ _ base _ "_law_word" _ _ := ⟨f2, _, PySem.W.mg_of X G a2, k2, b2, ok2⟩
  have ok3 := ok__law_drawn (P := l.prog) (w := w) (base := base) T C__law_clear C__law_word U3
  have b3 := U3.binds (ps := ["_law_state"]) fun _ _ _ _ _ _ us hl => match us, hl with | [_], _ => rfl
  have C__law_drawn : Callee _ _ _ _ base _ "_law_drawn" _ _ := ⟨f3, _, PySem.W.mg_of X G a3, k3, b3, ok3⟩
  have ok4 := ok__law_take (P := l.prog) (w := w) (base := base) T U4
  have b4 := U4.binds (ps := ["_law_box_here", "_law_many"]) fun _ _ _ _ _ _ us hl => match us, hl with | [_, _], _ => rfl
  have C__law_take : Callee _ _ _ _ base _ "_law_take" _ _ := ⟨f4, _, PySem.W.mg_of X G a4, k4, b4, ok4⟩
  have ok5 := ok__law_pick (P := l.prog) (w := w) (base := base) T C__law_take U5
  have b5 := U5.binds (ps := ["_law_box_here", "_law_some"]) fun _ _ _ _ _ _ us hl => match us, hl with | [_, _], _ => rfl
  have C__law_pick : Callee _ _ _ _ base _ "_law_pick" _ _ := ⟨f5, _, PySem.W.mg_of X G a5, k5, b5, ok5⟩
  have ok6 := ok__law_house (P := l.prog) (w := w) (base := base) T C__law_pick C__law_take U6
  have b6 := U6.binds (ps := ["_law_box_here"]) fun _ _ _ _ _ _ us hl => match us, hl with | [_], _ => rfl
  have C__law_house : Callee _ _ _ _ base _ "_law_house" _ _ := ⟨f6, _, PySem.W.mg_of X G a6, k6, b6, ok6⟩
  have ok7 := ok__law_people (P := l.prog) (w := w) (base := base) T C__law_clear C__law_pick C__law_take U7
  have b7 := U7.binds (ps := ["_law_box_here", "_law_house_here", "_law_now"]) fun _ _ _ _ _ _ us hl => match us, hl with | [_, _, _], _ => rfl
  have C__law_people : Callee _ _ _ _ base _ "_law_people" _ _ := ⟨f7, _, PySem.W.mg_of X G a7, k7, b7, ok7⟩
  have ok8 := ok_is_place (P := l.prog) (w := w) (base := base) T U8
  have b8 := U8.binds (ps := ["house", "room", "beat"]) fun _ _ _ _ _ _ us hl => match us, hl with | [_, _, _], _ => rfl
  have C_is_place : Callee _ _ _ _ base _ "is_place" _ _ := ⟨f8, _, PySem.W.mg_of X G a8, k8, b8, ok8⟩
  have ok9 := ok_room_sign (P := l.prog) (w := w) (base := base) T C_is_place U9
  have b9 := U9.binds (ps := ["house", "room", "beat"]) fun _ _ _ _ _ _ us hl => match us, hl with | [_, _, _], _ => rfl
  have C_room_sign : Callee _ _ _ _ base _ "room_sign" _ _ := ⟨f9, _, PySem.W.mg_of X G a9, k9, b9, ok9⟩
  have ok10 := ok_with_sign (P := l.prog) (w := w) (base := base) T U10
  have b10 := U10.binds (ps := ["some", "sign"]) fun _ _ _ _ _ _ us hl => match us, hl with | [_, _], _ => rfl
  have C_with_sign : Callee _ _ _ _ base _ "with_sign" _ _ := ⟨f10, _, PySem.W.mg_of X G a10, k10, b10, ok10⟩
  have ok11 := ok_room_line (P := l.prog) (w := w) (base := base) T C_room_sign C_with_sign U11
  have b11 := U11.binds (ps := ["state", "room"]) fun _ _ _ _ _ _ us hl => match us, hl with | [_, _], _ => rfl
  have C_room_line : Callee _ _ _ _ base _ "room_line" _ _ := ⟨f11, _, PySem.W.mg_of X G a11, k11, b11, ok11⟩
  have ok12 := ok_step_word (P := l.prog) (w := w) (base := base) T U12
  have b12 := U12.binds (ps := ["step"]) fun _ _ _ _ _ _ us hl => match us, hl with | [_], _ => rfl
  have C_step_word : Callee _ _ _ _ base _ "step_word" _ _ := ⟨f12, _, PySem.W.mg_of X G a12, k12, b12, ok12⟩
  have ok13 := ok_drawn (P := l.prog) (w := w) (base := base) T C_room_line C_step_word C_with_sign U13
  have b13 := U13.binds (ps := ["state"]) fun _ _ _ _ _ _ us hl => match us, hl with | [_], _ => rfl
  have C_drawn : Callee _ _ _ _ base _ "drawn" _ _ := ⟨f13, _, PySem.W.mg_of X G a13, k13, b13, ok13⟩
  have C_drawn_state : CalleeK _ _ _ _ base _ "drawn" _ ["state"] [0] _ := ⟨f13, _, PySem.W.mg_of X G a13, k13, U13.bindsK fun _ _ _ _ _ _ us hl => match us, hl with | [_], _ => rfl, ok13⟩
  exact ok_law lawTot T C_drawn_state C__law_box C__law_drawn C__law_house C__law_people C__law_pick C__law_take C_drawn U14
end Lw

namespace Lw
open PySem L2 PySem.Spec DL
theorem log_small {n : Int} (h0 : 0 < n) (h : n < 2 ^ 60) : n.natAbs.log2 < 9000 := by
  have h1 : n.natAbs < 2 ^ 60 := by omega
  have h2 : n.natAbs ≠ 0 := by omega
  have := (Nat.log2_lt h2).mpr h1
  omega
theorem take_ok (n : Int) (b : Int × Int) (h : 0 < n) (hn : n < 2 ^ 60) : ∃ d b', F__law_take [.int n] b = .ok (.int d) b' ∧ 0 ≤ d ∧ d < n := by
  have hl := log_small h hn
  have p1 : ∀ x : Int, 0 ≤ x % n := fun x => Int.emod_nonneg _ (by omega)
  have p2 : ∀ x : Int, x % n < n := fun x => Int.emod_lt_of_pos _ h
  by_cases c : 0 < b.1
  · refine ⟨b.1 % n, (b.1 / n, b.2), ?_, p1 _, p2 _⟩
    simp only [F__law_take, runF_eq, enF, B__law_take]
    simp [c, h, hl]
  · simp only [F__law_take, runF_eq, enF, B__law_take]
    simp [c, h, hl]
    exact ⟨p1 _, p2 _⟩
theorem pick_ok (ds : List D) (b : Int × Int) (h : ds ≠ []) (hn : ds.length < 1000) : ∃ d b', F__law_pick [.list ds] b = .ok d b' ∧ d ∈ ds := by
  have h0 : 0 < ds.length := List.length_pos_iff.mpr h
  obtain ⟨d, b', e, h1, h2⟩ := take_ok (ds.length : Int) b (by omega) (by omega)
  have hj : d.toNat < ds.length := by omega
  have hi : ixN ds.length d = some d.toNat := by simp [ixN, h1, h2]
  refine ⟨ds[d.toNat], b', ?_, List.getElem_mem _⟩
  simp only [F__law_pick, runF_eq, enF, B__law_pick]
  simp [e, L2.atI, hi, hj]
end Lw

namespace Lw
open PySem L2 PySem.Spec DL

theorem boxTot (ns : List Int) (k : Int) (hk : 0 ≤ k) : ∃ g s en, B__law_box ⟨.sq ns :: .fz (.int k) :: List.replicate 2 .no, (0, 0)⟩ = .ok (.rn [.int g, .int s] en) := by
  simp only [B__law_box, List.replicate]
  have hz : (2 : Nat) ≤ sizeLine := by decide
  have hk0 : ¬ k < 0 := by omega
  by_cases c : k < ns.length
  · obtain ⟨x, e, _⟩ := atI_some hk c
    simp [c, e]
    generalize (if x < 0 then -x else x) = y
    by_cases c2 : (1000000000000000000 : Int) ≤ y <;> simp [c2, hz]
  · by_cases c1 : ns = []
    · subst c1
      by_cases c2 : (1000000000000000000 : Int) ≤ 7411 * k + 1039 <;> simp [hk0, c2, hz]
    · have h0 : 0 < ns.length := List.length_pos_iff.mpr c1
      obtain ⟨x, e, _⟩ := atI_some (xs := ns) (i := k % ns.length) (Int.emod_nonneg _ (by omega)) (Int.emod_lt_of_pos _ (by omega))
      simp [c, c1, h0, e]
      generalize (if x < 0 then -x else x) = y
      by_cases c2 : (1000000000000000000 : Int) ≤ 7411 * k + 1039 + y % 2147483587 * 50461 <;> simp [c2, hz]
end Lw

namespace Lw
open PySem L2 PySem.Spec DL
def IsPass (n : Nat) (d : D) : Prop := ∃ (t h l w : Int) (sh : List Int), d = .tuple [.int t, .int h, .int l, .int w, .tuple (sh.map .int)] ∧ 0 ≤ t ∧ t < n ∧ 0 ≤ h ∧ h < n ∧ 0 ≤ l ∧ l ≤ 9 ∧ 0 ≤ w ∧ w ≤ 9 ∧ sh.length ≤ 10
abbrev hD (rs : List Int) (ps sm : List D) : D := .tuple [.tuple (rs.map .int), .tuple ps, .tuple sm]
structure House (rs : List Int) (ps sm : List D) : Prop where
  r1 : 1 ≤ rs.length
  r5 : rs.length ≤ 5
  r01 : ∀ r ∈ rs, r = 0 ∨ r = 1
  p8 : ps.length ≤ 8
  pp : ∀ p ∈ ps, IsPass rs.length p
  sl : sm.length = rs.length
  ss : ∀ s ∈ sm, s = .none ∨ ∃ x : Int, s = .int x
theorem ints_of {ds : List D} {P : Int → Prop} (h : ∀ d ∈ ds, ∃ i, d = .int i ∧ P i) : ∃ ns : List Int, ds = ns.map .int ∧ ∀ n ∈ ns, P n := by
  induction ds with
  | nil => exact ⟨[], rfl, by simp⟩
  | cons d ds ih =>
    obtain ⟨i, rfl, hi⟩ := h d List.mem_cons_self
    obtain ⟨ns, e, hn⟩ := ih fun d' hd => h d' (List.mem_cons_of_mem _ hd)
    exact ⟨i :: ns, by rw [e]; rfl, fun n hm => (List.mem_cons.mp hm).elim (fun q => by rw [q]; exact hi) (hn n)⟩
theorem shaped_ints (ns : List Int) : SeqAt.shaped (.list (ns.map .int)) = true := by
  have h1 : PyData.canLayAll0 (ns.map .int) = true := by
    induction ns with
    | nil => rfl
    | cons n ns ih => simp [PyData.canLayAll0, PyData.canLay0, ih]
  have h2 : PyData.depthAll (ns.map .int) = 0 := by
    induction ns with
    | nil => rfl
    | cons n ns ih => simp [PyData.depthAll, PyData.depth, ih (by simpa [PyData.canLayAll0, PyData.canLay0] using h1)]
  simp [SeqAt.shaped, PyData.canLay0, PyData.depth, h1, h2]
theorem ne_nil (ns : List Int) : dNe (.list (ns.map .int)) (.list []) = some (.bool (!ns.isEmpty)) := by
  rw [dNe_sh (shaped_ints ns) (show SeqAt.shaped (.list []) = true from shaped_ints [])]
  cases ns <;> simp [PyData.eqv, PyData.eqvAll]
theorem rg_ok {i : Int} (h0 : 0 ≤ i) (h : i ≤ 1000) : rgOk i = true := by
  simp [rgOk]; omega
theorem mem_map_int {ns : List Int} {d : D} (h : d ∈ ns.map PyData.int) : ∃ i, d = .int i ∧ i ∈ ns := by
  obtain ⟨i, hi, e⟩ := List.mem_map.mp h
  exact ⟨i, e.symm, hi⟩
/-- one passage drawn -/
theorem turn_ok (rs ins : List Int) (a5 a6 a7 a8 : Sl) (ps : List D) (b : Int × Int) (hr1 : 2 ≤ rs.length) (hr : rs.length ≤ 5) (hi : ins ≠ []) (hin : ∀ i ∈ ins, 0 ≤ i ∧ i < rs.length) (hil : ins.length ≤ 5) (hp : ps.length ≤ 100) :
    ∃ p c6 c7 c8 b', L__law_house_0 ⟨[.bx, .fz (.list (rs.map .int)), .no, .fz (.list (ins.map .int)), .ow ps, a5, a6, a7, a8, .no, .no], b⟩ = .ok (.nx ⟨[.bx, .fz (.list (rs.map .int)), .no, .fz (.list (ins.map .int)), .ow (ps ++ [p]), a5, c6, c7, c8, .no, .no], b'⟩) ∧ IsPass rs.length p := by
  obtain ⟨t, b1, e1, h1⟩ := pick_ok (ins.map .int) b (by simpa using hi) (by rw [List.length_map]; omega)
  obtain ⟨t, rfl, ht⟩ := mem_map_int h1
  obtain ⟨t0, t1⟩ := hin t ht
  have e2 : cLoop [2] (gN 2) T__law_house_2 A__law_house_2 (rgD 0 rs.length) ⟨[.bx, .fz (.list (rs.map .int)), .no, .fz (.list (ins.map .int)), .ow ps, a5, .fz (.int t), a7, a8, .no, .no], b1⟩ [] = .ok ([] ++ ((rgD 0 rs.length).filter fun d => match d with | .int i => !(i == t) | _ => false).map id, ⟨[.bx, .fz (.list (rs.map .int)), .no, .fz (.list (ins.map .int)), .ow ps, a5, .fz (.int t), a7, a8, .no, .no], b1⟩) := by
    refine comp_map _ _ (fun d hd => ?_) (by rw [rg_len]; exact size_small (by simp only [List.length_nil]; omega))
    obtain ⟨i, hi, rfl⟩ := rg_mem hd
    exact ⟨_, rfl, by simp, by simp [T__law_house_2], fun _ => by simp [A__law_house_2]⟩
  have hmem : ∀ d ∈ (rgD 0 rs.length).filter (fun d => match d with | .int i => !(i == t) | _ => false), ∃ i : Int, d = .int i ∧ (0 ≤ i ∧ i < rs.length) := fun d hd => by
    obtain ⟨i, hi, rfl⟩ := rg_mem (List.mem_filter.mp hd).1
    exact ⟨_, rfl, by omega, by omega⟩
  have hne : (rgD 0 rs.length).filter (fun d => match d with | .int i => !(i == t) | _ => false) ≠ [] := by
    intro z
    have key : ∀ i : Nat, i < rs.length → (i : Int) = t := fun i hi => by
      have m : PyData.int (i : Nat) ∈ rgD 0 rs.length := List.mem_map.mpr ⟨i, List.mem_range.mpr hi, by simp⟩
      by_cases c : (i : Int) = t
      · exact c
      · have : PyData.int (i : Nat) ∈ ([] : List D) := by rw [← z]; exact List.mem_filter.mpr ⟨m, by simp [c]⟩
        cases this
    have := key 0 (by omega)
    have := key 1 (by omega)
    omega
  have hlen : ((rgD 0 rs.length).filter (fun d => match d with | .int i => !(i == t) | _ => false)).length ≤ 5 := Nat.le_trans (List.length_filter_le _ _) (by rw [rg_len]; exact hr)
  rw [List.nil_append, List.map_id] at e2
  generalize (rgD 0 rs.length).filter (fun d => match d with | .int i => !(i == t) | _ => false) = oth at *
  obtain ⟨h, b2, e3, h3⟩ := pick_ok oth b1 hne (by omega)
  obtain ⟨h, rfl, h0, h1'⟩ := hmem h h3
  obtain ⟨sh, b3, e4, p4, l4⟩ := comp_inv (own := [9]) (g := gN 9) (t := T__law_house_3) (A := A__law_house_3) (k0 := [.bx, .fz (.list (rs.map .int)), .no, .fz (.list (ins.map .int)), .ow ps, a5, .fz (.int t), .fz (.int h), a8, .no, .no]) (fun d => ∃ i, d = .int i ∧ True) (ds := rgD 0 10) (acc := []) (b := b2) (fun d hd b => by
    obtain ⟨i, hi, rfl⟩ := rg_mem hd
    obtain ⟨v, b', e, _⟩ := take_ok 5 b (by omega) (by omega)
    exact ⟨_, rfl, fun b => by simp, v == 0, b', by simp [T__law_house_3, e], fun _ => ⟨_, _, by simp [A__law_house_3]; exact ⟨rfl, rfl⟩, _, rfl, trivial⟩⟩) (by rw [rg_len]; exact size_small (by decide))
  rw [rg_len] at l4
  obtain ⟨shi, rfl, _⟩ := ints_of p4
  rw [List.length_map] at l4
  obtain ⟨l, b4, e5, h5⟩ := pick_ok [.int 1, .int 1, .int 2, .int 3] b3 (by simp) (by decide)
  obtain ⟨l, rfl, l0, l9⟩ : ∃ i : Int, l = .int i ∧ 0 ≤ i ∧ i ≤ 9 := by
    simp at h5
    rcases h5 with rfl | rfl | rfl <;> exact ⟨_, rfl, by omega, by omega⟩
  obtain ⟨w, b5, e6, h6⟩ := pick_ok [.int 0, .int 1, .int 1, .int 2, .int 9] b4 (by simp) (by decide)
  obtain ⟨w, rfl, w0, w9⟩ : ∃ i : Int, w = .int i ∧ 0 ≤ i ∧ i ≤ 9 := by
    simp at h6
    rcases h6 with rfl | rfl | rfl | rfl <;> exact ⟨_, rfl, by omega, by omega⟩
  have hz : ps.length < sizeLine := Nat.lt_of_le_of_lt hp (by decide)
  refine ⟨_, .fz (.int t), .fz (.int h), .fz (.list (shi.map .int)), b5, ?_, ⟨t, h, l, w, shi, rfl, t0, t1, h0, h1', l0, l9, w0, w9, l4⟩⟩
  have r1 : rgOk rs.length = true := rg_ok (by omega) (by omega)
  have r10 : rgOk 10 = true := rg_ok (by omega) (by omega)
  simp only [L__law_house_0]
  simp [e1, e2, e3, e4, e5, e6, r1, r10, size_small, hz]
theorem house_ok (b : Int × Int) : ∃ rs ps sm b', F__law_house [] b = .ok (hD rs ps sm) b' ∧ House rs ps sm := by
  obtain ⟨n, b1, e1, n0, n4⟩ := take_ok 4 b (by omega) (by omega)
  obtain ⟨z1, b2, e2, p2, l2⟩ := comp_invT (own := [2]) (g := gN 2) (A := A__law_house_0) (k0 := [.bx, .no, .no, .no, .no, .no, .no, .no, .no, .no, .no]) (fun d => ∃ i, d = .int i ∧ (i = 0 ∨ i = 1)) (ds := rgD 0 (1 + n).toNat) (acc := []) (b := b1) (fun d hd b => by
    obtain ⟨v, b', e, hv⟩ := pick_ok [.int 0, .int 0, .int 0, .int 1] b (by simp) (by decide)
    refine ⟨_, rfl, fun b => by simp, v, b', ?_, ?_⟩
    · simp [A__law_house_0, size_small, e]
    · simp at hv
      rcases hv with rfl | rfl <;> exact ⟨_, rfl, by omega⟩) (by rw [rg_len]; exact size_small (by simp only [List.length_nil]; omega))
  obtain ⟨r2, b3, e3, h3⟩ := pick_ok [.int 1, .int 1, .int 1, .int 0] b2 (by simp) (by decide)
  obtain ⟨r2, rfl, r2h⟩ : ∃ i : Int, r2 = .int i ∧ (i = 0 ∨ i = 1) := by
    simp at h3
    rcases h3 with rfl | rfl <;> exact ⟨_, rfl, by omega⟩
  obtain ⟨r1, rfl, h1⟩ := ints_of p2
  rw [rg_len, List.length_map] at l2
  obtain ⟨rs, hrs⟩ : ∃ rs, rs = r1 ++ [r2] := ⟨_, rfl⟩
  have hmap : r1.map PyData.int ++ [.int r2] = rs.map .int := by rw [hrs, List.map_append]; rfl
  have hlen : rs.length = r1.length + 1 := by rw [hrs]; simp
  have hrs01 : ∀ r ∈ rs, r = 0 ∨ r = 1 := fun r hr => by
    rw [hrs] at hr
    rcases List.mem_append.mp hr with h | h
    · exact h1 r h
    · rw [List.mem_singleton.mp h]; exact r2h
  have n0' : rgOk (1 + n) = true := rg_ok (by omega) (by omega)
  have sz : r1.length + 1 ≤ sizeLine := size_small (by omega)
  have szr : rs.length ≤ sizeLine := size_small (by omega)
  have rr : rgOk rs.length = true := rg_ok (by omega) (by omega)
  -- the rooms inside
  have e4 : cLoop [2] (gN 2) T__law_house_1 A__law_house_1 (rgD 0 rs.length) ⟨[.bx, .fz (.list (rs.map .int)), .no, .no, .no, .no, .no, .no, .no, .no, .no], b3⟩ [] = .ok ([] ++ ((rgD 0 rs.length).filter fun d => match d with | .int i => (match rs[i.toNat]? with | some r => r == 0 | none => false) | _ => false).map id, ⟨[.bx, .fz (.list (rs.map .int)), .no, .no, .no, .no, .no, .no, .no, .no, .no], b3⟩) := by
    refine comp_map _ _ (fun d hd => ?_) (by rw [rg_len]; exact size_small (by simp only [List.length_nil]; omega))
    obtain ⟨i, hi, rfl⟩ := rg_mem hd
    have hg : (rs.map PyData.int)[i]? = some (.int rs[i]) := by rw [List.getElem?_map, List.getElem?_eq_getElem hi]; rfl
    exact ⟨_, rfl, by simp, by simp [T__law_house_1, L2.atI_nat hg, hi], fun _ => by simp [A__law_house_1]⟩
  rw [List.nil_append, List.map_id] at e4
  obtain ⟨insd, hins⟩ : ∃ insd, insd = (rgD 0 rs.length).filter fun d => match d with | .int i => (match rs[i.toNat]? with | some r => r == 0 | none => false) | _ => false := ⟨_, rfl⟩
  rw [← hins] at e4
  obtain ⟨ins, rfl, hin⟩ : ∃ ns : List Int, insd = ns.map .int ∧ ∀ i ∈ ns, 0 ≤ i ∧ i < rs.length := ints_of fun d hd => by
    rw [hins] at hd
    obtain ⟨i, hi, rfl⟩ := rg_mem (List.mem_filter.mp hd).1
    exact ⟨_, rfl, by omega, by omega⟩
  have hil : ins.length ≤ 5 := by
    have := congrArg List.length hins
    rw [List.length_map] at this
    rw [this]
    exact Nat.le_trans (List.length_filter_le _ _) (by rw [rg_len]; omega)
  -- the passages
  have loop : ∃ a5 a6 a7 a8 ps b', sFor (iR1 (eIf (tAnd (tV (eBin dNe (eVar 3) (eCl mkL aNil))) (tV (eBin dGt (eCl dLen (aCons (eVar 1) aNil)) (eC (.int 1))))) (eCallB 1 0 F__law_take (aCons (eC (.int 8)) aNil)) (eC (.int 0)))) (gN 5) L__law_house_0
      ⟨[.bx, .fz (.list (rs.map .int)), .no, .fz (.list (ins.map .int)), .ow [], .no, .no, .no, .no, .no, .no], b3⟩ = .ok (.nx ⟨[.bx, .fz (.list (rs.map .int)), .no, .fz (.list (ins.map .int)), .ow ps, a5, a6, a7, a8, .no, .no], b'⟩) ∧ ps.length ≤ 8 ∧ ∀ p ∈ ps, IsPass rs.length p := by
    have g1 : (1 : Int) < rs.length := by omega
    have z0 : rgOk 0 = true := rg_ok (by omega) (by omega)
    by_cases c : ins = []
    · subst c
      refine ⟨.no, .no, .no, .no, [], b3, ?_, by simp, by simp⟩
      have nn := ne_nil []
      simp only [List.map_nil] at nn
      simp [nn, z0, rgD, sLoop, size_small]
    · obtain ⟨m, b4, e5, m0, m8⟩ := take_ok 8 b3 (by omega) (by omega)
      have zm : rgOk m = true := rg_ok m0 (by omega)
      obtain ⟨e2', h1', h2'⟩ := loop_invN (g := gN 5) (S := L__law_house_0) (ds := rgD 0 m.toNat) (fun k en => ∃ a5 a6 a7 a8 ps b', en = ⟨[.bx, .fz (.list (rs.map .int)), .no, .fz (.list (ins.map .int)), .ow ps, a5, a6, a7, a8, .no, .no], b'⟩ ∧ ps.length = k ∧ ∀ p ∈ ps, IsPass rs.length p)
        (en := ⟨[.bx, .fz (.list (rs.map .int)), .no, .fz (.list (ins.map .int)), .ow [], .no, .no, .no, .no, .no, .no], b4⟩) ⟨_, _, _, _, [], _, rfl, rfl, by simp⟩ (fun k d hd e ⟨a5, a6, a7, a8, ps, b', he, hl, hp⟩ => by
          subst he
          have hk : k < m.toNat := by
            have := (List.getElem?_eq_some_iff.mp hd).1
            rwa [rg_len] at this
          obtain ⟨p, c6, c7, c8, b', t1, t2⟩ := turn_ok rs ins (.fz d) a6 a7 a8 ps b' (by omega) (by omega) c hin hil (by omega)
          refine ⟨_, rfl, _, .inl ?_, (.fz d), c6, c7, c8, ps ++ [p], b', rfl, by rw [List.length_append, hl]; rfl, fun q hq => ?_⟩
          · simpa using t1
          · rcases List.mem_append.mp hq with z | z
            · exact hp q z
            · rw [List.mem_singleton.mp z]; exact t2)
      obtain ⟨a5, a6, a7, a8, ps, b', he, hl, hp⟩ := h2'
      subst he
      refine ⟨a5, a6, a7, a8, ps, b', ?_, by rw [hl, rg_len]; omega, hp⟩
      simp [ne_nil, zm, c, e5, g1, h1', size_small]
  obtain ⟨a5, a6, a7, a8, ps, b5, e6, ps8, hps⟩ := loop
  -- the smoke
  obtain ⟨sm, b6, e7, hsm, lsm⟩ := comp_invT (own := [2]) (g := gN 2) (A := A__law_house_4) (k0 := [.bx, .fz (.list (rs.map .int)), .no, .fz (.list (ins.map .int)), .ow ps, a5, a6, a7, a8, .no, .no]) (fun s => s = .none ∨ ∃ x : Int, s = .int x) (ds := rs.map .int) (acc := []) (b := b5) (fun d hd b => by
    obtain ⟨r, rfl, hr⟩ := mem_map_int hd
    by_cases c : r = 0
    · subst c
      obtain ⟨x, b1, e, _⟩ := take_ok 12 b (by omega) (by omega)
      obtain ⟨v, b2, e', hv⟩ := pick_ok [.none, .none, .int x] b1 (by simp) (by simp)
      refine ⟨_, rfl, fun b => by simp, v, b2, ?_, ?_⟩
      · simp [A__law_house_4, e, e', size_small]
      · simp at hv
        rcases hv with rfl | rfl
        · exact .inl rfl
        · exact .inr ⟨x, rfl⟩
    · exact ⟨_, rfl, fun b => by simp, .none, b, by simp [A__law_house_4, c], .inl rfl⟩) (by rw [List.length_map]; exact size_small (by simp only [List.length_nil]; omega))
  refine ⟨rs, ps, sm, b6, ?_, ⟨by omega, by omega, hrs01, ps8, hps, by rw [lsm, List.length_map], hsm⟩⟩
  simp only [F__law_house, runF_eq, enF, B__law_house]
  simp [-sFor_ap, e1, e2, e3, e4, e6, e7, n0', size_small, sz, hmap, szr, rr]
end Lw

namespace Lw
open PySem L2 PySem.Spec DL
def clr (s : D) (beat : Int) : Bool := match s with
  | .none => true
  | .int x => decide (beat < x)
  | _ => false
theorem hD0 {rs : List Int} {ps sm : List D} : L2.atI [PyData.tuple (rs.map .int), .tuple ps, .tuple sm] 0 = some (.tuple (rs.map .int)) := rfl
theorem hD1 {rs : List Int} {ps sm : List D} : L2.atI [PyData.tuple (rs.map .int), .tuple ps, .tuple sm] 1 = some (.tuple ps) := rfl
theorem hD2 {rs : List Int} {ps sm : List D} : L2.atI [PyData.tuple (rs.map .int), .tuple ps, .tuple sm] 2 = some (.tuple sm) := rfl
theorem clear_ok {rs : List Int} {ps sm : List D} (h : House rs ps sm) {r : Nat} (hr : r < rs.length) (beat : Int) (b : Int × Int) : F__law_clear [hD rs ps sm, .int r, .int beat] b = .ok (.bool (clr (sm[r]'(by rw [h.sl]; exact hr)) beat)) b := by
  have hs : sm[r]? = some (sm[r]'(by rw [h.sl]; exact hr)) := List.getElem?_eq_getElem (by rw [h.sl]; exact hr)
  simp only [F__law_clear, runF_eq, enF, B__law_clear]
  generalize hx : sm[r]'(by rw [h.sl]; exact hr) = x at hs ⊢
  rcases h.ss _ (List.getElem_mem (by rw [h.sl]; exact hr : r < sm.length)) with e | ⟨y, e⟩
  · rw [hx] at e
    subst e
    simp [hD2, L2.atI_nat hs, clr]
  · rw [hx] at e
    subst e
    simp [hD2, L2.atI_nat hs, clr]
def IsPerson (n : Nat) (now : Int) (p : D) : Prop := ∃ (w : Str) (r b u : Int), p = .tuple [.str w, .int r, .int b, .int u] ∧ ((w = "out" ∧ b ≤ now) ∨ w = "lost" ∨ w = "here") ∧ 0 ≤ r ∧ r < n ∧ 0 ≤ b ∧ b ≤ 100 ∧ 0 ≤ u ∧ u ≤ 9
theorem person_ok {rs : List Int} {ps sm : List D} (h : House rs ps sm) (now : Int) (n0 : 0 ≤ now) (n20 : now ≤ 20) (a4 a5 a6 a7 a8 : Sl) (qs : List D) (b : Int × Int) (hp : qs.length ≤ 100) :
    ∃ p c5 c6 c7 c8 b', L__law_people_0 ⟨[.bx, .fz (hD rs ps sm), .fz (.int now), .ow qs, a4, a5, a6, a7, a8], b⟩ = .ok (.nx ⟨[.bx, .fz (hD rs ps sm), .fz (.int now), .ow (qs ++ [p]), a4, c5, c6, c7, c8], b'⟩) ∧ IsPerson rs.length now p := by
  have hz : qs.length < sizeLine := Nat.lt_of_le_of_lt hp (by decide)
  have r1 := h.r1
  have r5 := h.r5
  obtain ⟨r, b1, e1, r0, rn⟩ := take_ok rs.length b (by omega) (by omega)
  obtain ⟨u, b2, e2, u0, u9⟩ := take_ok 10 b1 (by omega) (by omega)
  obtain ⟨r, rfl⟩ : ∃ k : Nat, r = (k : Int) := ⟨r.toNat, by omega⟩
  have rl : r < rs.length := by omega
  have hg : L2.atI (rs.map PyData.int) (r : Int) = some (.int rs[r]) := L2.atI_nat (by rw [List.getElem?_map, List.getElem?_eq_getElem rl]; rfl)
  have hc := fun beat b => clear_ok h rl beat b
  have r01 := h.r01 _ (List.getElem_mem rl)
  obtain ⟨t3, b3, e3, t30, t33⟩ := take_ok 3 b2 (by omega) (by omega)
  obtain ⟨t4, b4, e4, t40, t44⟩ := take_ok 4 b2 (by omega) (by omega)
  obtain ⟨x1, b5, e5, x10, x11⟩ := take_ok (now + 1) b3 (by omega) (by omega)
  obtain ⟨x2, b6, e6, x20, x21⟩ := take_ok (now + 3) b4 (by omega) (by omega)
  have late : ∀ bb : Int × Int, ∃ v b', F__law_pick [.list [.int 0, .int 0, .int 1, .int 2, .int 9]] bb = .ok (.int v) b' ∧ 0 ≤ v ∧ v ≤ 9 := fun bb => by
    obtain ⟨w, b', e, hw⟩ := pick_ok [.int 0, .int 0, .int 1, .int 2, .int 9] bb (by simp) (by decide)
    simp at hw
    rcases hw with rfl | rfl | rfl | rfl <;> exact ⟨_, b', e, by omega, by omega⟩
  simp only [L__law_people_0]
  rcases r01 with c1 | c1
  · by_cases c4 : t4 = 0
    · refine ⟨_, .fz (.int r), .fz (.int u), a7, a8, b6, ?_, "lost", r, x2, u, rfl, .inr (.inl rfl), by omega, by omega, by omega, by omega, by omega, by omega⟩
      simp [hD0, e1, e2, hg, c1, e4, c4, e6, hz, size_small]
    · obtain ⟨v, b7, e7, v0, v9⟩ := late b4
      have hc := hc (now + v) (0, 0)
      cases cc : clr (sm[r]'(by rw [h.sl]; exact rl)) (now + v)
      · rw [cc] at hc
        refine ⟨_, .fz (.int r), .fz (.int u), .fz (.int (now + v)), .fz (.str "lost"), b7, ?_, "lost", r, now + v, u, rfl, .inr (.inl rfl), by omega, by omega, by omega, by omega, by omega, by omega⟩
        simp [hD0, e1, e2, hg, c1, e4, c4, e7, hz, hc, size_small]
      · rw [cc] at hc
        refine ⟨_, .fz (.int r), .fz (.int u), .fz (.int (now + v)), .fz (.str "here"), b7, ?_, "here", r, now + v, u, rfl, .inr (.inr rfl), by omega, by omega, by omega, by omega, by omega, by omega⟩
        simp [hD0, e1, e2, hg, c1, e4, c4, e7, hz, hc, size_small]
  · by_cases c3 : 0 < t3
    · refine ⟨_, .fz (.int r), .fz (.int u), a7, a8, b5, ?_, "out", r, x1, u, rfl, .inl ⟨rfl, by omega⟩, by omega, by omega, by omega, by omega, by omega, by omega⟩
      simp [hD0, e1, e2, hg, c1, e3, c3, e5, hz, size_small]
    · obtain ⟨v, b7, e7, v0, v9⟩ := late b3
      by_cases c5 : v = 0
      · refine ⟨_, .fz (.int r), .fz (.int u), .fz (.int (now + v)), .fz (.str "out"), b7, ?_, "out", r, now + v, u, rfl, .inl ⟨rfl, by omega⟩, by omega, by omega, by omega, by omega, by omega, by omega⟩
        simp [hD0, e1, e2, hg, c1, e3, c3, e7, hz, c5, size_small]
      · refine ⟨_, .fz (.int r), .fz (.int u), .fz (.int (now + v)), .fz (.str "here"), b7, ?_, "here", r, now + v, u, rfl, .inr (.inr rfl), by omega, by omega, by omega, by omega, by omega, by omega⟩
        have c6 : ¬ now + v = now := by omega
        simp [hD0, e1, e2, hg, c1, e3, c3, e7, hz, c5, c6, size_small]
theorem people_ok {rs : List Int} {ps sm : List D} (h : House rs ps sm) (now : Int) (n0 : 0 ≤ now) (n20 : now ≤ 20) (b : Int × Int) :
    ∃ qs b', F__law_people [hD rs ps sm, .int now] b = .ok (.tuple qs) b' ∧ qs.length ≤ 8 ∧ ∀ p ∈ qs, IsPerson rs.length now p := by
  obtain ⟨m, b1, e1, m0, m8⟩ := take_ok 8 b (by omega) (by omega)
  obtain ⟨e2, h1, h2⟩ := loop_invN (g := gN 4) (S := L__law_people_0) (ds := rgD 0 m.toNat) (fun k en => ∃ a4 a5 a6 a7 a8 qs b', en = ⟨[.bx, .fz (hD rs ps sm), .fz (.int now), .ow qs, a4, a5, a6, a7, a8], b'⟩ ∧ qs.length = k ∧ ∀ p ∈ qs, IsPerson rs.length now p)
    (en := ⟨[.bx, .fz (hD rs ps sm), .fz (.int now), .ow [], .no, .no, .no, .no, .no], b1⟩) ⟨_, _, _, _, _, [], _, rfl, rfl, by simp⟩ (fun k d hd e ⟨a4, a5, a6, a7, a8, qs, b', he, hl, hp⟩ => by
      subst he
      have hk : k < m.toNat := by
        have := (List.getElem?_eq_some_iff.mp hd).1
        rwa [rg_len] at this
      obtain ⟨p, c5, c6, c7, c8, b', t1, t2⟩ := person_ok h now n0 n20 (.fz d) a5 a6 a7 a8 qs b' (by omega)
      refine ⟨_, rfl, _, .inl t1, .fz d, c5, c6, c7, c8, qs ++ [p], b', rfl, by rw [List.length_append, hl]; rfl, fun q hq => ?_⟩
      rcases List.mem_append.mp hq with z | z
      · exact hp q z
      · rw [List.mem_singleton.mp z]; exact t2)
  obtain ⟨a4, a5, a6, a7, a8, qs, b', he, hl, hp⟩ := h2
  subst he
  rw [rg_len] at hl
  refine ⟨qs, b', ?_, by omega, hp⟩
  have zm : rgOk m = true := rg_ok m0 (by omega)
  have zq : qs.length ≤ sizeLine := size_small (by omega)
  simp only [F__law_people, runF_eq, enF, B__law_people]
  simp [e1, h1, zm, zq, size_small]
end Lw

namespace Lw
open PySem L2 PySem.Spec DL
def ws (ys : List Str) (s : Str) : Str := if ys.isEmpty = true then "-" else Txt.join s ys
theorem with_sign_ok {ds : List D} {ys : List Str} {s : Str} (h : Texts ds ys) (hb : (ys.map (·.length)).sum + ys.length * s.length ≤ 16777216) (hl : ys.length ≤ 1000) (b : Int × Int) {d : D} (hd : d = .list ds ∨ d = .tuple ds) : F_with_sign [d, .str s] b = .ok (.str (ws ys s)) b := by
  have e1 : cLoop [2] (gN 2) tTrue A_with_sign_0 ds ⟨[.fz d, .fz (.str s), .no], b⟩ [] = .ok ([] ++ ds.map (fun d => (dStr [d]).getD .none), ⟨[.fz d, .fz (.str s), .no], b⟩) := by
    refine comp_mapT _ (fun x hx => ?_) (by rw [h.len]; exact size_small (by simp only [List.length_nil]; omega))
    obtain ⟨y, e⟩ := h.each x hx
    exact ⟨_, rfl, by simp, by simp [A_with_sign_0, e]⟩
  rw [h.map, List.nil_append] at e1
  have hn := h.len
  simp only [F_with_sign, runF_eq, enF, B_with_sign]
  have hj := joinD' rfl hb
  by_cases c : ys = []
  · subst c
    rcases hd with rfl | rfl <;> simp [hn, ws]
  · have hp : 0 < ds.length := by rw [hn]; exact List.length_pos_iff.mpr c
    have hp' : (0 : Int) < ds.length := by omega
    have c' : ys.isEmpty = false := by simpa using c
    rcases hd with rfl | rfl <;> simp [hp, hp', e1, ws, hj, c, c']
end Lw

namespace Lw
open PySem L2 PySem.Spec DL
abbrev Pn := Str × Int × Int × Int
def pnD (p : Pn) : D := .tuple [.str p.1, .int p.2.1, .int p.2.2.1, .int p.2.2.2]
def OkP (n : Nat) (now : Int) (p : Pn) : Prop := ((p.1 = "out" ∧ p.2.2.1 ≤ now) ∨ p.1 = "lost" ∨ p.1 = "here") ∧ 0 ≤ p.2.1 ∧ p.2.1 < n ∧ 0 ≤ p.2.2.1 ∧ p.2.2.1 ≤ 100 ∧ 0 ≤ p.2.2.2 ∧ p.2.2.2 ≤ 9
def thereP (room now : Int) (p : Pn) : Bool := p.2.1 == room && (!(p.1 == "lost") && decide (p.2.2.1 ≤ now))
def comeP (room now : Int) (p : Pn) : Bool := p.2.1 == room && (p.1 == "here" && decide (now < p.2.2.1))
def lostP (room : Int) (p : Pn) : Bool := p.2.1 == room && p.1 == "lost"
def thereL (pl : List Pn) (room now : Int) : List Int := (pl.filter (thereP room now)).map (·.2.2.2)
def comeL (pl : List Pn) (room now : Int) : List (Int × Int) := (pl.filter (comeP room now)).map fun p => p.2.2
def lostN (pl : List Pn) (room : Int) : Nat := (pl.filter (lostP room)).length
def signT (r : Int) (s : D) (now : Int) : Str := if r = 1 then ">" else if clr s now = true then "." else "~"
def bu (p : Int × Int) : Str := tx p.1 ++ ":" ++ tx p.2
def lineW (pl : List Pn) (r : Int) (s : D) (room now : Int) : List Str := [tx room, signT r s now, ws (((thereL pl room now).mergeSort iLe).map tx) "", ws (((comeL pl room now).mergeSort pLe).map bu) ",", tx (lostN pl room)]
def lineT (pl : List Pn) (r : Int) (s : D) (room now : Int) : Str := Txt.join " " (lineW pl r s room now)
abbrev stD (now fin : Int) (rs : List Int) (ps sm : List D) (pl : List Pn) (told : D) : D := .tuple [.int now, .int fin, hD rs ps sm, .tuple (pl.map pnD), told]
theorem ws_len {ys : List Str} {s : Str} {c k n : Nat} (h : ∀ y ∈ ys, y.length ≤ k) (hc : ys.length ≤ c) (hs : s.length ≤ n) : (ws ys s).length ≤ c * (k + n) + 1 := by
  unfold ws
  split
  · exact Nat.le_add_left _ _
  · exact Nat.le_succ_of_le (join_len h hc hs).2
theorem place_ok {rs : List Int} {ps sm : List D} (h : House rs ps sm) {r : Nat} (hr : r < rs.length) (beat : Int) (b : Int × Int) : F_is_place [hD rs ps sm, .int r, .int beat] b = .ok (.bool (clr (sm[r]'(by rw [h.sl]; exact hr)) beat)) b := by
  have hs : sm[r]? = some (sm[r]'(by rw [h.sl]; exact hr)) := List.getElem?_eq_getElem (by rw [h.sl]; exact hr)
  simp only [F_is_place, runF_eq, enF, B_is_place]
  generalize hx : sm[r]'(by rw [h.sl]; exact hr) = x at hs ⊢
  rcases h.ss _ (List.getElem_mem (by rw [h.sl]; exact hr : r < sm.length)) with e | ⟨y, e⟩
  · rw [hx] at e
    subst e
    simp [hD2, L2.atI_nat hs, clr]
  · rw [hx] at e
    subst e
    simp [hD2, L2.atI_nat hs, clr]
theorem sign_ok {rs : List Int} {ps sm : List D} (h : House rs ps sm) {r : Nat} (hr : r < rs.length) (now : Int) (b : Int × Int) : F_room_sign [hD rs ps sm, .int r, .int now] b = .ok (.str (signT rs[r] (sm[r]'(by rw [h.sl]; exact hr)) now)) b := by
  have hg : L2.atI (rs.map PyData.int) (r : Int) = some (.int rs[r]) := L2.atI_nat (by rw [List.getElem?_map, List.getElem?_eq_getElem hr]; rfl)
  have hp := place_ok h hr now (0, 0)
  simp only [F_room_sign, runF_eq, enF, B_room_sign]
  by_cases c : rs[r] = 1
  · simp [hD0, hg, c, signT]
  · cases cc : clr (sm[r]'(by rw [h.sl]; exact hr)) now <;> (rw [cc] at hp; simp [hD0, hg, c, signT, hp, cc])
theorem room_line_ok {rs : List Int} {ps sm : List D} (h : House rs ps sm) {now fin : Int} {pl : List Pn} {told : D} (hp : ∀ p ∈ pl, OkP rs.length now p) (hl : pl.length ≤ 8) {r : Nat} (hr : r < rs.length) (b : Int × Int) :
    F_room_line [stD now fin rs ps sm pl told, .int r] b = .ok (.str (lineT pl rs[r] (sm[r]'(by rw [h.sl]; exact hr)) r now)) b := by
  obtain ⟨st, hst⟩ : ∃ st, st = stD now fin rs ps sm pl told := ⟨_, rfl⟩
  have c0 := comp_mapL (own := [8]) (g := gN 8) (t := T_room_line_0) (A := A_room_line_0) (k0 := [.fz st, .fz (.int r), .fz (.int now), .fz (.int fin), .fz (hD rs ps sm), .fz (.tuple (pl.map pnD)), .fz told, .no, .no, .no, .no, .no, .no]) (b := b) pnD (thereP r now) (fun p => .int p.2.2.2) (l := pl) (by omega) (fun p hp => by
    refine ⟨_, rfl, by simp, ?_, fun _ => ?_⟩
    · by_cases d1 : p.2.1 = (r : Int)
      · by_cases d2 : p.1 = "lost"
        · simp [T_room_line_0, pnD, d1, d2, thereP]
        · simp [T_room_line_0, pnD, d1, d2, thereP]
      · simp [T_room_line_0, pnD, d1, thereP]
    · simp [A_room_line_0, pnD])
  obtain ⟨T, hT⟩ : ∃ T, T = thereL pl r now := ⟨_, rfl⟩
  obtain ⟨C, hC⟩ : ∃ C, C = comeL pl r now := ⟨_, rfl⟩
  have lT : T.length ≤ 8 := by rw [hT]; unfold thereL; rw [List.length_map]; exact Nat.le_trans (List.length_filter_le _ _) hl
  have lC : C.length ≤ 8 := by rw [hC]; unfold comeL; rw [List.length_map]; exact Nat.le_trans (List.length_filter_le _ _) hl
  have lN : lostN pl r ≤ 8 := Nat.le_trans (List.length_filter_le _ _) hl
  have bT : ∀ u ∈ T, 0 ≤ u ∧ u ≤ 9 := fun u hu => by
    rw [hT] at hu
    obtain ⟨p, hm, e⟩ := List.mem_map.mp hu
    have := hp p (List.mem_filter.mp hm).1
    rw [← e]; exact ⟨this.2.2.2.2.2.1, this.2.2.2.2.2.2⟩
  have bC : ∀ u ∈ C, (0 ≤ u.1 ∧ u.1 ≤ 100) ∧ 0 ≤ u.2 ∧ u.2 ≤ 9 := fun u hu => by
    rw [hC] at hu
    obtain ⟨p, hm, e⟩ := List.mem_map.mp hu
    have := hp p (List.mem_filter.mp hm).1
    rw [← e]; exact ⟨⟨this.2.2.2.1, this.2.2.2.2.1⟩, this.2.2.2.2.2.1, this.2.2.2.2.2.2⟩
  have eT : (pl.filter (thereP r now)).map (fun p => PyData.int p.2.2.2) = T.map .int := by rw [hT]; unfold thereL; rw [List.map_map]; rfl
  rw [eT] at c0
  have s0 := sort_int T
  have c1 := comp_mapL (own := [8]) (g := gN 8) (t := T_room_line_1) (A := A_room_line_1) (k0 := [.fz st, .fz (.int r), .fz (.int now), .fz (.int fin), .fz (hD rs ps sm), .fz (.tuple (pl.map pnD)), .fz told, .fz (.list ((T.mergeSort iLe).map .int)), .no, .no, .no, .no, .no]) (b := b) pnD (comeP r now) (fun p => .tuple [.int p.2.2.1, .int p.2.2.2]) (l := pl) (by omega) (fun p hp => by
    refine ⟨_, rfl, by simp, ?_, fun _ => ?_⟩
    · by_cases d1 : p.2.1 = (r : Int)
      · by_cases d2 : p.1 = "here"
        · simp [T_room_line_1, pnD, d1, d2, comeP]
        · simp [T_room_line_1, pnD, d1, d2, comeP]
      · simp [T_room_line_1, pnD, d1, comeP]
    · have cut : ∀ a b c d : D, cutD [a, b, c, d] (some 2) none = [c, d] := fun _ _ _ _ => rfl
      simp [A_room_line_1, pnD, cut])
  have eC : (pl.filter (comeP r now)).map (fun p => PyData.tuple [.int p.2.2.1, .int p.2.2.2]) = C.map fun p => .tuple [.int p.1, .int p.2] := by rw [hC]; unfold comeL; rw [List.map_map]; rfl
  rw [eC] at c1
  have s1 := sort_pair C
  have c2 := comp_mapL (own := [8]) (g := gN 8) (t := T_room_line_2) (A := A_room_line_2) (k0 := [.fz st, .fz (.int r), .fz (.int now), .fz (.int fin), .fz (hD rs ps sm), .fz (.tuple (pl.map pnD)), .fz told, .fz (.list ((T.mergeSort iLe).map .int)), .no, .fz (.list ((C.mergeSort pLe).map fun p => .tuple [.int p.1, .int p.2])), .no, .no, .no]) (b := b) pnD (lostP r) pnD (l := pl) (by omega) (fun p hp => by
    refine ⟨_, rfl, by simp, ?_, fun _ => ?_⟩
    · by_cases d1 : p.2.1 = (r : Int)
      · simp [T_room_line_2, pnD, d1, lostP]
      · simp [T_room_line_2, pnD, d1, lostP]
    · simp [A_room_line_2, pnD])
  -- the words
  have tT : Texts ((T.mergeSort iLe).map .int) ((T.mergeSort iLe).map tx) := texts_of fun u hu => dStr_tx (by have := bT u (List.mem_mergeSort.mp hu); omega)
  have hT1 : ∀ y ∈ (T.mergeSort iLe).map tx, y.length ≤ 3 := fun y hy => by
    obtain ⟨u, hu, e⟩ := List.mem_map.mp hy
    have := bT u (List.mem_mergeSort.mp hu)
    rw [← e]; exact tx_len (by omega) (by omega)
  have hT2 : ((T.mergeSort iLe).map tx).length ≤ 8 := by rw [List.length_map, List.length_mergeSort]; exact lT
  have w0 := with_sign_ok (s := "") tT (Nat.le_trans (join_len hT1 hT2 (n := 1) (by decide)).1 (by decide)) (by omega) (0, 0) (.inl rfl)
  have c3 := comp_mapLT (own := [12]) (g := gN 12) (A := A_room_line_3) (k0 := [.fz st, .fz (.int r), .fz (.int now), .fz (.int fin), .fz (hD rs ps sm), .fz (.tuple (pl.map pnD)), .fz told, .fz (.list ((T.mergeSort iLe).map .int)), .no, .fz (.list ((C.mergeSort pLe).map fun p => .tuple [.int p.1, .int p.2])), .fz (.int (lostN pl r)), .fz (.list [.str (tx r), .str (signT rs[r] (sm[r]'(by rw [h.sl]; exact hr)) now), .str (ws ((T.mergeSort iLe).map tx) "")]), .no]) (b := b) (fun p : Int × Int => PyData.tuple [.int p.1, .int p.2]) (fun p => .str (bu p)) (l := C.mergeSort pLe) (by rw [List.length_mergeSort]; omega) (fun p hp => by
    have hb := bC p (List.mem_mergeSort.mp hp)
    have tp : Texts [PyData.int p.1, .int p.2] [tx p.1, tx p.2] := .cons (dStr_tx (by omega)) (.cons (dStr_tx (by omega)) .nil)
    have l1 := tx_len hb.1.1 (by omega)
    have l2 := tx_len hb.2.1 (by omega)
    have w := with_sign_ok (s := ":") tp (by simp; have z : Str.length ":" = 1 := by decide
                                             omega) (by simp) (0, 0) (.inr rfl)
    have e : ws [tx p.1, tx p.2] ":" = bu p := by simp [ws, join_two, join_one, bu]
    rw [e] at w
    exact ⟨_, rfl, by simp, by simp [A_room_line_3, w]⟩)
  have hC1 : ∀ y ∈ (C.mergeSort pLe).map bu, y.length ≤ 7 := fun y hy => by
    obtain ⟨u, hu, e⟩ := List.mem_map.mp hy
    have hb := bC u (List.mem_mergeSort.mp hu)
    have l1 := tx_len hb.1.1 (by omega)
    have l2 := tx_len hb.2.1 (by omega)
    rw [← e]
    unfold bu
    rw [Str.length_append, Str.length_append]
    have z : Str.length ":" = 1 := by decide
    omega
  have hC2 : ((C.mergeSort pLe).map bu).length ≤ 8 := by rw [List.length_map, List.length_mergeSort]; exact lC
  have tC : Texts ((C.mergeSort pLe).map fun p => .str (bu p)) ((C.mergeSort pLe).map bu) := texts_of fun u hu => rfl
  have w1 := with_sign_ok (s := ",") tC (Nat.le_trans (join_len hC1 hC2 (n := 1) (by decide)).1 (by decide)) (by omega) (0, 0) (.inl rfl)
  have sg := sign_ok h hr now (0, 0)
  have rr : r < 1000 := by have := h.r5; omega
  have dr : dStr [.int (r : Int)] = some (.str (tx r)) := dStr_tx (by omega)
  have dn : dStr [.int (lostN pl r : Nat)] = some (.str (tx (lostN pl r))) := dStr_tx (by omega)
  have sl : (signT rs[r] (sm[r]'(by rw [h.sl]; exact hr)) now).length ≤ 1 := by
    unfold signT
    split
    · decide
    · split <;> decide
  have jj : dJoin (.str " ") [.list [.str (tx r), .str (signT rs[r] (sm[r]'(by rw [h.sl]; exact hr)) now), .str (ws ((T.mergeSort iLe).map tx) ""), .str (ws ((C.mergeSort pLe).map bu) ","), .str (tx (lostN pl r))]] = some (.str (lineT pl rs[r] (sm[r]'(by rw [h.sl]; exact hr)) r now)) := by
    have a1 := tx_len (i := r) (by omega) (by omega)
    have a2 := tx_len (i := lostN pl r) (by omega) (by omega)
    have a3 := ws_len hT1 hT2 (s := "") (n := 1) (by decide)
    have a4 := ws_len hC1 hC2 (s := ",") (n := 1) (by decide)
    refine joinD' (by rw [hT, hC]; rfl) ?_
    refine Nat.le_trans (join_len (l := lineW pl rs[r] (sm[r]'(by rw [h.sl]; exact hr)) r now) (k := 100) (c := 5) (n := 1) (fun y hy => ?_) (Nat.le_refl 5) (by decide)).1 (by decide)
    unfold lineW at hy
    rw [← hT, ← hC] at hy
    simp only [List.mem_cons, List.not_mem_nil, or_false] at hy
    rcases hy with rfl | rfl | rfl | rfl | rfl <;> omega
  simp only [F_room_line, runF_eq, enF, B_room_line]
  rw [hst] at c0 c1 c2 c3
  have eN : (pl.filter (lostP r)).length = lostN pl r := rfl
  simp [c0, c1, c2, c3, eN, s0, s1, sg, w0, w1, dr, dn, jj, size_small]
end Lw

namespace Lw
open PySem L2 PySem.Spec DL
def prD (p : Int × Int) : D := .tuple [.int p.1, .int p.2]
/-- the places of the law's own drawing within a room's turn -/
def ST (st ho pe to : D) (now fin : Int) (li : List D) (room : Nat) (sg : Str) (t : List Str) (c : List (Int × Int)) (n : Int) (x12 x13 x14 x15 : Sl) (r : List Sl) (b : Int × Int) : En :=
  ⟨.fz st :: .fz (.int now) :: .fz (.int fin) :: .fz ho :: .fz pe :: .fz to :: .ow li :: .fz (.int room) :: .fz (.str sg) :: .ow (t.map .str) :: .ow (c.map prD) :: .fz (.int n) :: x12 :: x13 :: x14 :: x15 :: r, b⟩
def NF (x : Sl) : Prop := x = .no ∨ ∃ d, x = .fz d
theorem turns_ok {st ho pe to : D} {now fin : Int} {li : List D} {room : Nat} {sg : Str} {m : Nat} {r : List Sl} {b : Int × Int} : ∀ (pl : List Pn), (∀ p ∈ pl, OkP m now p) → ∀ (t : List Str) (c : List (Int × Int)) (n : Int) (x12 x13 x14 x15 : Sl), NF x14 → NF x15 → t.length + pl.length ≤ 1000 → c.length + pl.length ≤ 1000 →
    ∃ y12 y13 y14 y15, (NF y14 ∧ NF y15) ∧ sLoop (gTup 4 (gCons (gN 12) (gCons (gN 13) (gCons (gN 14) (gCons (gN 15) gNil))))) L__law_drawn_0 (pl.map pnD) (ST st ho pe to now fin li room sg t c n x12 x13 x14 x15 r b) =
      .ok (.nx (ST st ho pe to now fin li room sg (t ++ (thereL pl room now).map tx) (c ++ comeL pl room now) (n + lostN pl room) y12 y13 y14 y15 r b))
  | [], _, t, c, n, x12, x13, x14, x15, f1, f2, _, _ => ⟨x12, x13, x14, x15, ⟨f1, f2⟩, by simp [sLoop, thereL, comeL, lostN]⟩
  | p :: pl, ok, t, c, n, x12, x13, x14, x15, f1, f2, ht, hc => by
    have okp := ok p List.mem_cons_self
    rw [List.length_cons] at ht hc
    have ih := turns_ok (st := st) (ho := ho) (pe := pe) (to := to) (now := now) (fin := fin) (li := li) (room := room) (sg := sg) (r := r) (b := b) pl (fun q hq => ok q (List.mem_cons_of_mem _ hq))
    obtain ⟨w, pr, bt, u⟩ := p
    obtain ⟨hw, p0, pn, b0, b1, u0, u9⟩ := okp
    have e : gTup 4 (gCons (gN 12) (gCons (gN 13) (gCons (gN 14) (gCons (gN 15) gNil)))) (pnD (w, pr, bt, u)) (ST st ho pe to now fin li room sg t c n x12 x13 x14 x15 r b) = some (ST st ho pe to now fin li room sg t c n (.fz (.str w)) (.fz (.int pr)) (.fz (.int bt)) (.fz (.int u)) r b) := by
      simp [pnD, ST]
    have zt : t.length < sizeLine := Nat.lt_of_le_of_lt (by omega : t.length ≤ 1000) (by decide)
    have zc : c.length < sizeLine := Nat.lt_of_le_of_lt (by omega : c.length ≤ 1000) (by decide)
    have du : dStr [.int u] = some (.str (tx u)) := dStr_tx (by simp at u0 u9; omega)
    by_cases c1 : pr = (room : Int)
    · by_cases c2 : w = "lost"
      · obtain ⟨y1, y2, y3, y4, nf, h⟩ := ih t c (n + 1) (.fz (.str w)) (.fz (.int pr)) (.fz (.int bt)) (.fz (.int u)) (.inr ⟨_, rfl⟩) (.inr ⟨_, rfl⟩) (by omega) (by omega)
        refine ⟨y1, y2, y3, y4, nf, ?_⟩
        have s : L__law_drawn_0 (ST st ho pe to now fin li room sg t c n (.fz (.str w)) (.fz (.int pr)) (.fz (.int bt)) (.fz (.int u)) r b) = .ok (.nx (ST st ho pe to now fin li room sg t c (n + 1) (.fz (.str w)) (.fz (.int pr)) (.fz (.int bt)) (.fz (.int u)) r b)) := by
          simp [L__law_drawn_0, ST, c1, c2]
        have n1 : thereL ((w, pr, bt, u) :: pl) room now = thereL pl room now := by simp [thereL, thereP, c2]
        have n2 : comeL ((w, pr, bt, u) :: pl) room now = comeL pl room now := by
          have : ¬ Str.ofString "lost" = Str.ofString "here" := by decide
          simp [comeL, comeP, c2, this]
        have n3 : (lostN ((w, pr, bt, u) :: pl) room : Int) = 1 + lostN pl room := by simp [lostN, lostP, c1, c2]; omega
        rw [n1, n2, n3, ← Int.add_assoc]
        simp [sLoop, e, s, h]
      · by_cases c3 : bt ≤ now
        · obtain ⟨y1, y2, y3, y4, nf, h⟩ := ih (t ++ [tx u]) c n (.fz (.str w)) (.fz (.int pr)) (.fz (.int bt)) (.fz (.int u)) (.inr ⟨_, rfl⟩) (.inr ⟨_, rfl⟩) (by rw [List.length_append, List.length_singleton]; omega) (by omega)
          refine ⟨y1, y2, y3, y4, nf, ?_⟩
          have s : L__law_drawn_0 (ST st ho pe to now fin li room sg t c n (.fz (.str w)) (.fz (.int pr)) (.fz (.int bt)) (.fz (.int u)) r b) = .ok (.nx (ST st ho pe to now fin li room sg (t ++ [tx u]) c n (.fz (.str w)) (.fz (.int pr)) (.fz (.int bt)) (.fz (.int u)) r b)) := by
            simp [L__law_drawn_0, ST, c1, c2, c3, zt, du]
          have n1 : thereL ((w, pr, bt, u) :: pl) room now = u :: thereL pl room now := by simp [thereL, thereP, c1, c2, c3]
          have n2 : comeL ((w, pr, bt, u) :: pl) room now = comeL pl room now := by
            have : ¬ now < bt := by omega
            simp [comeL, comeP, this]
          have n3 : lostN ((w, pr, bt, u) :: pl) room = lostN pl room := by simp [lostN, lostP, c2]
          rw [n1, n2, n3, List.map_cons (f := tx), List.append_cons t]
          simp [sLoop, e, s, h]
        · obtain ⟨y1, y2, y3, y4, nf, h⟩ := ih t (c ++ [(bt, u)]) n (.fz (.str w)) (.fz (.int pr)) (.fz (.int bt)) (.fz (.int u)) (.inr ⟨_, rfl⟩) (.inr ⟨_, rfl⟩) (by omega) (by rw [List.length_append, List.length_singleton]; omega)
          refine ⟨y1, y2, y3, y4, nf, ?_⟩
          have c4 : w = "here" := by
            rcases hw with ⟨_, z⟩ | z | z
            · exact absurd z c3
            · exact absurd z c2
            · exact z
          have s : L__law_drawn_0 (ST st ho pe to now fin li room sg t c n (.fz (.str w)) (.fz (.int pr)) (.fz (.int bt)) (.fz (.int u)) r b) = .ok (.nx (ST st ho pe to now fin li room sg t (c ++ [(bt, u)]) n (.fz (.str w)) (.fz (.int pr)) (.fz (.int bt)) (.fz (.int u)) r b)) := by
            simp [L__law_drawn_0, ST, c1, c2, c3, zc, prD, size_small]
          have n1 : thereL ((w, pr, bt, u) :: pl) room now = thereL pl room now := by simp [thereL, thereP, c3]
          have n2 : comeL ((w, pr, bt, u) :: pl) room now = (bt, u) :: comeL pl room now := by
            have : now < bt := by omega
            simp [comeL, comeP, c1, c4, this]
          have n3 : lostN ((w, pr, bt, u) :: pl) room = lostN pl room := by simp [lostN, lostP, c2]
          rw [n1, n2, n3, List.append_cons c]
          simp [sLoop, e, s, h]
    · obtain ⟨y1, y2, y3, y4, nf, h⟩ := ih t c n (.fz (.str w)) (.fz (.int pr)) (.fz (.int bt)) (.fz (.int u)) (.inr ⟨_, rfl⟩) (.inr ⟨_, rfl⟩) (by omega) (by omega)
      refine ⟨y1, y2, y3, y4, nf, ?_⟩
      have s : L__law_drawn_0 (ST st ho pe to now fin li room sg t c n (.fz (.str w)) (.fz (.int pr)) (.fz (.int bt)) (.fz (.int u)) r b) = .ok (.nx (ST st ho pe to now fin li room sg t c n (.fz (.str w)) (.fz (.int pr)) (.fz (.int bt)) (.fz (.int u)) r b)) := by
        simp [L__law_drawn_0, ST, c1]
      have n1 : thereL ((w, pr, bt, u) :: pl) room now = thereL pl room now := by simp [thereL, thereP, c1]
      have n2 : comeL ((w, pr, bt, u) :: pl) room now = comeL pl room now := by simp [comeL, comeP, c1]
      have n3 : lostN ((w, pr, bt, u) :: pl) room = lostN pl room := by simp [lostN, lostP, c1]
      rw [n1, n2, n3]
      simp [sLoop, e, s, h]
end Lw

namespace Lw
open PySem L2 PySem.Spec DL
theorem shaped_of {ds : List D} (h : ∀ d ∈ ds, d.canLay0 = true ∧ d.depth = 0) : SeqAt.shaped (.list ds) = true ∧ SeqAt.shaped (.tuple ds) = true := by
  have h1 : PyData.canLayAll0 ds = true := by
    induction ds with
    | nil => rfl
    | cons n ns ih => simp [PyData.canLayAll0, (h n List.mem_cons_self).1, ih fun d hd => h d (List.mem_cons_of_mem _ hd)]
  have h2 : PyData.depthAll ds = 0 := by
    clear h1
    induction ds with
    | nil => rfl
    | cons n ns ih => simp [PyData.depthAll, (h n List.mem_cons_self).2, ih fun d hd => h d (List.mem_cons_of_mem _ hd)]
  constructor <;> simp [SeqAt.shaped, PyData.canLay0, PyData.depth, h1, h2]
theorem ne_nilL {ds : List D} (h : ∀ d ∈ ds, d.canLay0 = true ∧ d.depth = 0) : dNe (.list ds) (.list []) = some (.bool (!ds.isEmpty)) := by
  rw [dNe_sh (shaped_of h).1 (shaped_of (ds := []) (by simp)).1]
  cases ds <;> simp [PyData.eqv, PyData.eqvAll]
theorem ne_nilT {ds : List D} (h : ∀ d ∈ ds, d.canLay0 = true ∧ d.depth = 0) : dNe (.tuple ds) (.tuple []) = some (.bool (!ds.isEmpty)) := by
  rw [dNe_sh (shaped_of h).2 (shaped_of (ds := []) (by simp)).2]
  cases ds <;> simp [PyData.eqv, PyData.eqvAll]
theorem dig_ok {u : Int} (h0 : 0 ≤ u) (h9 : u ≤ 9) : (PyData.str (tx u)).canLay0 = true := by
  obtain ⟨n, rfl⟩ : ∃ n : Nat, u = n := ⟨u.toNat, by omega⟩
  have key : ∀ n : Fin 10, PyData.strOk (tx ((n : Nat) : Int)) = true := by decide +kernel
  have k := key ⟨n, by omega⟩
  simpa [PyData.canLay0] using k
theorem dig_le {a b : Int} (a0 : 0 ≤ a) (a9 : a ≤ 9) (b0 : 0 ≤ b) (b9 : b ≤ 9) : iLe a b = dle (.str (tx a)) (.str (tx b)) := by
  obtain ⟨n, rfl⟩ : ∃ n : Nat, a = n := ⟨a.toNat, by omega⟩
  obtain ⟨m, rfl⟩ : ∃ n : Nat, b = n := ⟨b.toNat, by omega⟩
  have key : ∀ n m : Fin 10, iLe ((n : Nat) : Int) ((m : Nat) : Int) = dle (.str (tx ((n : Nat) : Int))) (.str (tx ((m : Nat) : Int))) := by decide +kernel
  exact key ⟨n, by omega⟩ ⟨m, by omega⟩
theorem join_pos {s a : Str} {l : List Str} : a.length ≤ (Txt.join s (a :: l)).length := by
  cases l with
  | nil => rw [join_one]; exact Nat.le_refl _
  | cons b l => rw [join_two, Str.length_append, Str.length_append]; omega
theorem join_empty {s : Str} {l : List Str} (h : ∀ y ∈ l, 1 ≤ y.length) : (Txt.join s l == "") = l.isEmpty := by
  cases l with
  | nil => rfl
  | cons a l =>
    have h1 := h a List.mem_cons_self
    have h2 : a.length ≤ (Txt.join s (a :: l)).length := join_pos
    have : ¬ Txt.join s (a :: l) = "" := fun z => by
      rw [z] at h2
      have : Str.length "" = 0 := by decide
      omega
    simpa using this
theorem same_empty {α : Type} {l m : List α} (h : l.length = m.length) : l.isEmpty = m.isEmpty := by
  cases l <;> cases m <;> simp at h ⊢
theorem room_turn {rs : List Int} {ps sm : List D} (h : House rs ps sm) {now fin : Int} {st to : D} {pl : List Pn} (hp : ∀ p ∈ pl, OkP rs.length now p) (hl : pl.length ≤ 8) {r : Nat} (hr : r < rs.length) (b : Int × Int) (li : List D) (hli : li.length ≤ 1000)
    (x8 x9 x10 x11 x12 x13 x14 x15 x16 x17 x18 x19 x20 x21 x22 x23 : Sl) (f1 : NF x14) (f2 : NF x15) :
    ∃ y8 y9 y10 y11 y12 y13 y14 y15 y16, (NF y14 ∧ NF y15) ∧ L__law_drawn_1 ⟨[.fz st, .fz (.int now), .fz (.int fin), .fz (hD rs ps sm), .fz (.tuple (pl.map pnD)), .fz to, .ow li, .fz (.int r), x8, x9, x10, x11, x12, x13, x14, x15, x16, x17, x18, x19, x20, x21, x22, x23], b⟩ =
      .ok (.nx ⟨[.fz st, .fz (.int now), .fz (.int fin), .fz (hD rs ps sm), .fz (.tuple (pl.map pnD)), .fz to, .ow (li ++ [.str (lineT pl rs[r] (sm[r]'(by rw [h.sl]; exact hr)) r now)]), .fz (.int r), y8, y9, y10, y11, y12, y13, y14, y15, y16, x17, x18, x19, x20, x21, x22, x23], b⟩) := by
  have hg : L2.atI (rs.map PyData.int) (r : Int) = some (.int rs[r]) := L2.atI_nat (by rw [List.getElem?_map, List.getElem?_eq_getElem hr]; rfl)
  have hc := clear_ok h hr now (0, 0)
  obtain ⟨sg, hsg⟩ : ∃ sg, sg = signT rs[r] (sm[r]'(by rw [h.sl]; exact hr)) now := ⟨_, rfl⟩
  obtain ⟨y12, y13, y14, y15, ⟨g1, g2⟩, tr⟩ := turns_ok (st := st) (ho := hD rs ps sm) (pe := .tuple (pl.map pnD)) (to := to) (now := now) (fin := fin) (li := li) (room := r) (sg := sg) (m := rs.length) (r := [x16, x17, x18, x19, x20, x21, x22, x23]) (b := b) pl hp [] [] 0 x12 x13 x14 x15 f1 f2 (by rw [List.length_nil]; omega) (by rw [List.length_nil]; omega)
  obtain ⟨T, hT⟩ : ∃ T, T = thereL pl r now := ⟨_, rfl⟩
  obtain ⟨C, hC⟩ : ∃ C, C = comeL pl r now := ⟨_, rfl⟩
  have lT : T.length ≤ 8 := by rw [hT]; unfold thereL; rw [List.length_map]; exact Nat.le_trans (List.length_filter_le _ _) hl
  have lC : C.length ≤ 8 := by rw [hC]; unfold comeL; rw [List.length_map]; exact Nat.le_trans (List.length_filter_le _ _) hl
  have lN : lostN pl r ≤ 8 := Nat.le_trans (List.length_filter_le _ _) hl
  have bT : ∀ u ∈ T, 0 ≤ u ∧ u ≤ 9 := fun u hu => by
    rw [hT] at hu
    obtain ⟨p, hm, e⟩ := List.mem_map.mp hu
    have := hp p (List.mem_filter.mp hm).1
    rw [← e]; exact ⟨this.2.2.2.2.2.1, this.2.2.2.2.2.2⟩
  have bC : ∀ u ∈ C, (0 ≤ u.1 ∧ u.1 ≤ 100) ∧ 0 ≤ u.2 ∧ u.2 ≤ 9 := fun u hu => by
    rw [hC] at hu
    obtain ⟨p, hm, e⟩ := List.mem_map.mp hu
    have := hp p (List.mem_filter.mp hm).1
    rw [← e]; exact ⟨⟨this.2.2.2.1, this.2.2.2.2.1⟩, this.2.2.2.2.2.1, this.2.2.2.2.2.2⟩
  rw [← hT, ← hC, List.nil_append, List.nil_append, Int.zero_add] at tr
  simp only [ST, List.map_nil] at tr
  have s1 : dSorted [.list (C.map prD)] = some (.list ((C.mergeSort pLe).map prD)) := sort_pair C
  have c1 := comp_mapLT (own := [14, 15]) (g := gTup 2 (gCons (gN 14) (gCons (gN 15) gNil))) (A := A__law_drawn_0) (k0 := [.fz st, .fz (.int now), .fz (.int fin), .fz (hD rs ps sm), .fz (.tuple (pl.map pnD)), .fz to, .ow li, .fz (.int r), .fz (.str sg), .ow ((T.map tx).map .str), .fz (.list (C.map prD)), .fz (.int (lostN pl r)), y12, y13, .no, .no, x16, x17, x18, x19, x20, x21, x22, x23]) (b := b) prD (fun p => .str (bu p)) (l := C.mergeSort pLe) (by rw [List.length_mergeSort]; omega) (fun p hp => by
    have hb := bC p (List.mem_mergeSort.mp hp)
    have l1 := tx_len hb.1.1 (by omega)
    have l2 := tx_len hb.2.1 (by omega)
    have z : Str.length ":" = 1 := by decide
    have d1 : dStr [.int p.1] = some (.str (tx p.1)) := dStr_tx (by omega)
    have d2 : dStr [.int p.2] = some (.str (tx p.2)) := dStr_tx (by omega)
    have q1 : (tx p.1).length + Str.length ":" ≤ sizeLine := size_small (by omega)
    have q2 : (tx p.1 ++ ":").length + (tx p.2).length ≤ sizeLine := size_small (by rw [Str.length_append]; omega)
    exact ⟨_, rfl, by simp [prD], by simp [A__law_drawn_0, prD, d1, d2, q1, q2, bu]⟩)
  have hC1 : ∀ y ∈ (C.mergeSort pLe).map bu, 1 ≤ y.length ∧ y.length ≤ 7 := fun y hy => by
    obtain ⟨u, hu, e⟩ := List.mem_map.mp hy
    have hb := bC u (List.mem_mergeSort.mp hu)
    have l1 := tx_len hb.1.1 (by omega)
    have l2 := tx_len hb.2.1 (by omega)
    rw [← e]
    unfold bu
    rw [Str.length_append, Str.length_append]
    have z : Str.length ":" = 1 := by decide
    omega
  have hC2 : ((C.mergeSort pLe).map bu).length ≤ 8 := by rw [List.length_map, List.length_mergeSort]; exact lC
  have jC : dJoin (.str ",") [.list ((C.mergeSort pLe).map fun p => .str (bu p))] = some (.str (Txt.join "," ((C.mergeSort pLe).map bu))) := joinD' (by rw [List.map_map]; rfl) (Nat.le_trans (join_len (fun y hy => (hC1 y hy).2) hC2 (n := 1) (by decide)).1 (by decide))
  have ejC := join_empty (s := ",") (l := (C.mergeSort pLe).map bu) fun y hy => (hC1 y hy).1
  have s2 : dSorted [.list ((T.map tx).map .str)] = some (.list (((T.mergeSort iLe).map tx).map .str)) := by
    have z := sorted_mapM (f := fun u => PyData.str (tx u)) (r := iLe) T (fun a ha b hb => dig_le (bT a ha).1 (bT a ha).2 (bT b hb).1 (bT b hb).2) (by have := srt_str (T.map tx); rwa [List.map_map] at this)
    rw [List.map_map, List.map_map]
    exact z
  have hT1 : ∀ y ∈ (T.mergeSort iLe).map tx, y.length ≤ 3 := fun y hy => by
    obtain ⟨u, hu, e⟩ := List.mem_map.mp hy
    have := bT u (List.mem_mergeSort.mp hu)
    rw [← e]; exact tx_len (by omega) (by omega)
  have hT2 : ((T.mergeSort iLe).map tx).length ≤ 8 := by rw [List.length_map, List.length_mergeSort]; exact lT
  have jT : dJoin (.str "") [.list (((T.mergeSort iLe).map tx).map .str)] = some (.str (Txt.join "" ((T.mergeSort iLe).map tx))) := joinD' rfl (Nat.le_trans (join_len hT1 hT2 (n := 1) (by decide)).1 (by decide))
  have nT : dNe (.list ((T.map tx).map .str)) (.list []) = some (.bool (!T.isEmpty)) := by
    rw [ne_nilL fun d hd => ?_]
    · cases T <;> rfl
    · obtain ⟨y, hy, e⟩ := List.mem_map.mp hd
      obtain ⟨u, hu, e2⟩ := List.mem_map.mp hy
      rw [← e, ← e2]
      exact ⟨dig_ok (bT u hu).1 (bT u hu).2, rfl⟩
  have iT : (T.mergeSort iLe).isEmpty = T.isEmpty := same_empty (List.length_mergeSort T)
  have iC : (C.mergeSort pLe).isEmpty = C.isEmpty := same_empty (List.length_mergeSort C)
  have dr : dStr [.int (r : Int)] = some (.str (tx r)) := dStr_tx (by have := h.r5; omega)
  have dn : dStr [.int (lostN pl r : Nat)] = some (.str (tx (lostN pl r))) := dStr_tx (by omega)
  have jj : dJoin (.str " ") [.list [.str (tx r), .str sg, .str (ws ((T.mergeSort iLe).map tx) ""), .str (ws ((C.mergeSort pLe).map bu) ","), .str (tx (lostN pl r))]] = some (.str (lineT pl rs[r] (sm[r]'(by rw [h.sl]; exact hr)) r now)) := by
    rw [hsg, hT, hC]
    have a1 := tx_len (i := r) (by omega) (by have := h.r5; omega)
    have a2 := tx_len (i := lostN pl r) (by omega) (by omega)
    have a3 := ws_len hT1 hT2 (s := "") (n := 1) (by decide)
    have a4 := ws_len (fun y hy => (hC1 y hy).2) hC2 (s := ",") (n := 1) (by decide)
    have sl : (signT rs[r] (sm[r]'(by rw [h.sl]; exact hr)) now).length ≤ 1 := by
      unfold signT
      split
      · decide
      · split <;> decide
    refine joinD' (by rfl) ?_
    refine Nat.le_trans (join_len (l := lineW pl rs[r] (sm[r]'(by rw [h.sl]; exact hr)) r now) (k := 100) (c := 5) (n := 1) (fun y hy => ?_) (Nat.le_refl 5) (by decide)).1 (by decide)
    unfold lineW at hy
    rw [← hT, ← hC] at hy
    simp only [List.mem_cons, List.not_mem_nil, or_false] at hy
    rcases hy with rfl | rfl | rfl | rfl | rfl <;> omega
  have zl : li.length < sizeLine := Nat.lt_of_le_of_lt hli (by decide)
  have e0 : sAsg 8 (eIf (tV (eBin dEq (eBin dIx (eBin dIx (eVar 3) (eC (.int 0))) (eVar 7)) (eC (.int 1)))) (eC (.str ">")) (eIf (tV (eCall 3 F__law_clear (aCons (eVar 3) (aCons (eVar 7) (aCons (eVar 1) aNil))))) (eC (.str ".")) (eC (.str "~"))))
      ⟨[.fz st, .fz (.int now), .fz (.int fin), .fz (hD rs ps sm), .fz (.tuple (pl.map pnD)), .fz to, .ow li, .fz (.int r), x8, x9, x10, x11, x12, x13, x14, x15, x16, x17, x18, x19, x20, x21, x22, x23], b⟩ =
      .ok (.nx ⟨[.fz st, .fz (.int now), .fz (.int fin), .fz (hD rs ps sm), .fz (.tuple (pl.map pnD)), .fz to, .ow li, .fz (.int r), .fz (.str sg), x9, x10, x11, x12, x13, x14, x15, x16, x17, x18, x19, x20, x21, x22, x23], b⟩) := by
    rw [hsg]
    by_cases c : rs[r] = 1
    · simp [hg, c, signT]
    · cases cc : clr (sm[r]'(by rw [h.sl]; exact hr)) now <;> (rw [cc] at hc; simp [hg, c, signT, hc, cc])
  refine ⟨.fz (.str sg), .fz (.list ((T.map tx).map .str)), .fz (.list (C.map prD)), .fz (.int (lostN pl r)), y12, y13, y14, y15, .fz (.str (Txt.join "," ((C.mergeSort pLe).map bu))), ⟨g1, g2⟩, ?_⟩
  simp only [L__law_drawn_1, sSeq_ap, e0, bind_ok]
  rcases g1 with rfl | ⟨d1, rfl⟩ <;> rcases g2 with rfl | ⟨d2, rfl⟩ <;> cases hTe : T.isEmpty <;> cases hCe : C.isEmpty <;>
    (simp only [ws, List.isEmpty_map, iT, iC, hTe, hCe, Bool.false_eq_true, if_true, if_false] at jj ejC nT
     simp [-List.map_map, tr, s1, s2, c1, jC, ejC, jT, nT, dr, dn, jj, zl, size_small])
end Lw

namespace Lw
open PySem L2 PySem.Spec DL
/-- a text of at most k plain letters -/
def Gd (k : Nat) (y : Str) : Prop := y.length ≤ k ∧ ∀ c ∈ y.cps.toList, c < 16 ^ 8
theorem gd_app {j k : Nat} {x y : Str} (a : Gd j x) (b : Gd k y) : Gd (j + k) (x ++ y) := by
  refine ⟨by rw [Str.length_append]; exact Nat.add_le_add a.1 b.1, fun c hc => ?_⟩
  have e : (x ++ y).cps = x.cps ++ y.cps := rfl
  rw [e, Array.toList_append, List.mem_append] at hc
  exact hc.elim (a.2 c) (b.2 c)
theorem gd_mono {j k : Nat} {x : Str} (a : Gd j x) (h : j ≤ k) : Gd k x := ⟨Nat.le_trans a.1 h, a.2⟩
theorem gd_join {k n c : Nat} {s : Str} {l : List Str} (h : ∀ y ∈ l, Gd k y) (hc : l.length ≤ c) (hs : Gd n s) : Gd (c * (k + n)) (Txt.join s l) := by
  refine ⟨(join_len (fun y hy => (h y hy).1) hc hs.1).2, ?_⟩
  clear hc
  induction l with
  | nil => intro c hc; cases hc
  | cons a l ih =>
    cases l with
    | nil => rw [join_one]; exact (h a List.mem_cons_self).2
    | cons b l =>
      rw [join_two]
      exact (gd_app (gd_app (h a List.mem_cons_self) hs) (k := (Txt.join s (b :: l)).length) ⟨Nat.le_refl _, ih fun y hy => h y (List.mem_cons_of_mem _ hy)⟩).2
theorem gd_tx {i : Int} (h0 : 0 ≤ i) (h : i < 1000) : Gd 3 (tx i) := by
  refine ⟨tx_len h0 h, ?_⟩
  obtain ⟨n, rfl⟩ : ∃ n : Nat, i = n := ⟨i.toNat, by omega⟩
  have key : ∀ n : Fin 1000, ((tx ((n : Nat) : Int)).cps.toList.all fun c => decide (c < 16 ^ 8)) = true := by decide +kernel
  have k := key ⟨n, by omega⟩
  exact fun c hc => of_decide_eq_true (List.all_eq_true.mp k c hc)
theorem gd_lit {k : Nat} {x : Str} (h : (decide (x.length ≤ k) && x.cps.toList.all fun c => decide (c < 16 ^ 8)) = true) : Gd k x := by
  rw [Bool.and_eq_true] at h
  exact ⟨of_decide_eq_true h.1, fun c hc => of_decide_eq_true (List.all_eq_true.mp h.2 c hc)⟩
theorem gd_ws {k n c : Nat} {s : Str} {l : List Str} (h : ∀ y ∈ l, Gd k y) (hc : l.length ≤ c) (hs : Gd n s) : Gd (c * (k + n) + 1) (ws l s) := by
  unfold ws
  split
  · exact gd_mono (gd_lit (k := 1) (by decide +kernel)) (by omega)
  · exact gd_mono (gd_join h hc hs) (by omega)
theorem gd_sign {r : Int} {s : D} {now : Int} : Gd 1 (signT r s now) := by
  unfold signT
  split
  · exact gd_lit (by decide +kernel)
  · split <;> exact gd_lit (by decide +kernel)
theorem gd_line {n : Nat} {pl : List Pn} {r : Int} {s : D} {room : Nat} {now : Int} (hp : ∀ p ∈ pl, OkP n now p) (hl : pl.length ≤ 8) (hr : room < 1000) : Gd 505 (lineT pl r s room now) := by
  have lT : ((thereL pl room now).mergeSort iLe).length ≤ 8 := by rw [List.length_mergeSort]; unfold thereL; rw [List.length_map]; exact Nat.le_trans (List.length_filter_le _ _) hl
  have lC : ((comeL pl room now).mergeSort pLe).length ≤ 8 := by rw [List.length_mergeSort]; unfold comeL; rw [List.length_map]; exact Nat.le_trans (List.length_filter_le _ _) hl
  have lN : lostN pl room ≤ 8 := Nat.le_trans (List.length_filter_le _ _) hl
  have a1 : Gd 3 (tx (room : Int)) := gd_tx (by omega) (by omega)
  have a3 : Gd 3 (tx (lostN pl room : Nat)) := gd_tx (by omega) (by omega)
  have a4 : Gd (8 * (3 + 1) + 1) (ws (((thereL pl room now).mergeSort iLe).map tx) "") := gd_ws (fun y hy => by
    obtain ⟨u, hu, e⟩ := List.mem_map.mp hy
    obtain ⟨p, hm, e2⟩ := List.mem_map.mp (List.mem_mergeSort.mp hu)
    have := hp p (List.mem_filter.mp hm).1
    rw [← e, ← e2]; exact gd_tx this.2.2.2.2.2.1 (by have := this.2.2.2.2.2.2; omega)) (by rw [List.length_map]; exact lT) (gd_lit (by decide +kernel))
  have a5 : Gd (8 * (7 + 1) + 1) (ws (((comeL pl room now).mergeSort pLe).map bu) ",") := gd_ws (fun y hy => by
    obtain ⟨u, hu, e⟩ := List.mem_map.mp hy
    obtain ⟨p, hm, e2⟩ := List.mem_map.mp (List.mem_mergeSort.mp hu)
    have := hp p (List.mem_filter.mp hm).1
    rw [← e, ← e2]
    exact gd_app (gd_app (gd_tx this.2.2.2.1 (by have := this.2.2.2.2.1; omega)) (gd_lit (k := 1) (by decide +kernel))) (gd_tx this.2.2.2.2.2.1 (by have := this.2.2.2.2.2.2; omega))) (by rw [List.length_map]; exact lC) (gd_lit (by decide +kernel))
  refine gd_mono (gd_join (k := 100) (c := 5) (n := 1) (fun y hy => ?_) (Nat.le_refl 5) (gd_lit (by decide +kernel))) (by decide)
  unfold lineW at hy
  simp only [List.mem_cons, List.not_mem_nil, or_false] at hy
  rcases hy with rfl | rfl | rfl | rfl | rfl
  · exact gd_mono a1 (by omega)
  · exact gd_mono gd_sign (by omega)
  · exact gd_mono a4 (by omega)
  · exact gd_mono a5 (by omega)
  · exact gd_mono a3 (by omega)
/-! ### the passages -/
abbrev Pa := Int × Int × Int × Int × List Int
def paD (p : Pa) : D := .tuple [.int p.1, .int p.2.1, .int p.2.2.1, .int p.2.2.2.1, .tuple (p.2.2.2.2.map .int)]
def OkA (p : Pa) : Prop := (0 ≤ p.1 ∧ p.1 < 1000) ∧ (0 ≤ p.2.1 ∧ p.2.1 < 1000) ∧ (0 ≤ p.2.2.1 ∧ p.2.2.1 < 1000) ∧ (0 ≤ p.2.2.2.1 ∧ p.2.2.2.1 < 1000) ∧ p.2.2.2.2.length ≤ 10
def wordT (now : Int) (p : Pa) : Str := if (p.2.2.2.2.any (· == now) || p.2.2.2.1 == 0) = true then "shut" else "open"
def passT (now : Int) (i : Nat) (p : Pa) : Str := Txt.join " " [tx i, tx p.1 ++ ">" ++ tx p.2.1, tx p.2.2.1, tx p.2.2.2.1, wordT now p]
def passL (now : Int) : Nat → List Pa → List Str
  | _, [] => []
  | i, p :: l => passT now i p :: passL now (i + 1) l
theorem flat_ints (l : List Int) : (l.map PyData.int).all flatD = true := by
  induction l with
  | nil => rfl
  | cons a l ih => rw [List.map_cons, List.all_cons, ih]; rfl
theorem in_ints (n : Int) (l : List Int) : dIn (.int n) (.tuple (l.map .int)) = some (.bool (l.any (· == n))) := by
  have e : dIn (.int n) (.tuple (l.map .int)) = dInSeq false (.int n) (l.map .int) := rfl
  rw [e]
  unfold dInSeq
  rw [if_pos ⟨rfl, flat_ints l⟩]
  simp [List.any_map, Function.comp_def, PyData.eqv]
theorem gd_word {now : Int} {p : Pa} : Gd 4 (wordT now p) := by
  unfold wordT
  split <;> exact gd_lit (by decide +kernel)
theorem pass_gd {now : Int} {i : Nat} {p : Pa} (ok : OkA p) (hi : i < 1000) : Gd 100 (passT now i p) ∧ dJoin (.str " ") [.list [.str (tx i), .str (tx p.1 ++ ">" ++ tx p.2.1), .str (tx p.2.2.1), .str (tx p.2.2.2.1), .str (wordT now p)]] = some (.str (passT now i p)) := by
  have a1 : Gd 3 (tx (i : Int)) := gd_tx (by omega) (by omega)
  have a2 : Gd 7 (tx p.1 ++ ">" ++ tx p.2.1) := gd_app (gd_app (gd_tx ok.1.1 ok.1.2) (gd_lit (k := 1) (by decide +kernel))) (gd_tx ok.2.1.1 ok.2.1.2)
  have a3 := gd_tx ok.2.2.1.1 ok.2.2.1.2
  have a4 := gd_tx ok.2.2.2.1.1 ok.2.2.2.1.2
  have al : ∀ y ∈ [tx i, tx p.1 ++ ">" ++ tx p.2.1, tx p.2.2.1, tx p.2.2.2.1, wordT now p], Gd 7 y := fun y hy => by
    simp only [List.mem_cons, List.not_mem_nil, or_false] at hy
    rcases hy with rfl | rfl | rfl | rfl | rfl
    · exact gd_mono a1 (by omega)
    · exact a2
    · exact gd_mono a3 (by omega)
    · exact gd_mono a4 (by omega)
    · exact gd_mono gd_word (by omega)
  have s1 : Gd 1 (" " : Str) := gd_lit (by decide +kernel)
  exact ⟨gd_mono (gd_join al (Nat.le_refl 5) s1) (by decide), joinD' (by rfl) (Nat.le_trans (join_len (fun y hy => (al y hy).1) (Nat.le_refl 5) s1.1).1 (by decide))⟩
end Lw

namespace Lw
open PySem L2 PySem.Spec DL
theorem prog_pass {st ho pe to : D} {now fin : Int} : ∀ (pa : List Pa) (i : Nat) (li : List D) (x7 x8 x9 x10 x11 x12 x13 x14 x15 : Sl) (b : Int × Int), (∀ p ∈ pa, OkA p) → i + pa.length ≤ 100 → li.length + pa.length ≤ 1000 →
    ∃ y8 y9 y10 y11 y12 y13 y14, sLoop (gTup 2 (gCons (gN 8) (gCons (gTup 5 (gCons (gN 9) (gCons (gN 10) (gCons (gN 11) (gCons (gN 12) (gCons (gN 13) gNil)))))) gNil))) L_drawn_0 (enumD i (pa.map paD)) ⟨[.fz st, .fz (.int now), .fz (.int fin), .fz ho, .fz pe, .fz to, .ow li, x7, x8, x9, x10, x11, x12, x13, x14, x15], b⟩ =
      .ok (.nx ⟨[.fz st, .fz (.int now), .fz (.int fin), .fz ho, .fz pe, .fz to, .ow (li ++ (passL now i pa).map .str), x7, y8, y9, y10, y11, y12, y13, y14, x15], b⟩)
  | [], i, li, x7, x8, x9, x10, x11, x12, x13, x14, x15, b, _, _, _ => ⟨x8, x9, x10, x11, x12, x13, x14, by simp [sLoop, enumD, passL]⟩
  | p :: pa, i, li, x7, x8, x9, x10, x11, x12, x13, x14, x15, b, ok, hi, hl => by
    have okp := ok p List.mem_cons_self
    rw [List.length_cons] at hi hl
    obtain ⟨g, j⟩ := pass_gd (now := now) (i := i) okp (by omega)
    obtain ⟨y8, y9, y10, y11, y12, y13, y14, ih⟩ := prog_pass (st := st) (ho := ho) (pe := pe) (to := to) (now := now) (fin := fin) pa (i + 1) (li ++ [.str (passT now i p)]) x7 (.fz (.int i)) (.fz (.int p.1)) (.fz (.int p.2.1)) (.fz (.int p.2.2.1)) (.fz (.int p.2.2.2.1)) (.fz (.tuple (p.2.2.2.2.map .int))) (.fz (.str (wordT now p))) x15 b (fun q hq => ok q (List.mem_cons_of_mem _ hq)) (by omega) (by rw [List.length_append, List.length_singleton]; omega)
    refine ⟨y8, y9, y10, y11, y12, y13, y14, ?_⟩
    have zl : li.length < sizeLine := Nat.lt_of_le_of_lt (by omega : li.length ≤ 1000) (by decide)
    have di : dStr [.int (i : Int)] = some (.str (tx i)) := dStr_tx (by omega)
    have d1 := dStr_tx (i := p.1) (by have := okp.1; omega)
    have d2 := dStr_tx (i := p.2.1) (by have := okp.2.1; omega)
    have d3 := dStr_tx (i := p.2.2.1) (by have := okp.2.2.1; omega)
    have d4 := dStr_tx (i := p.2.2.2.1) (by have := okp.2.2.2.1; omega)
    have l1 := tx_len okp.1.1 okp.1.2
    have l2 := tx_len okp.2.1.1 okp.2.1.2
    have z : Str.length ">" = 1 := by decide
    have q1 : (tx p.1).length + Str.length ">" ≤ sizeLine := size_small (by omega)
    have q2 : (tx p.1 ++ ">").length + (tx p.2.1).length ≤ sizeLine := size_small (by rw [Str.length_append]; omega)
    have hin := in_ints now p.2.2.2.2
    have e1 : passL now i (p :: pa) = passT now i p :: passL now (i + 1) pa := rfl
    rw [e1, List.map_cons (f := PyData.str), List.append_cons li]
    have hw : ∀ w, wordT now p = w → wordT now p = w := fun _ h => h
    have turn : L_drawn_0 ⟨[.fz st, .fz (.int now), .fz (.int fin), .fz ho, .fz pe, .fz to, .ow li, x7, .fz (.int i), .fz (.int p.1), .fz (.int p.2.1), .fz (.int p.2.2.1), .fz (.int p.2.2.2.1), .fz (.tuple (p.2.2.2.2.map .int)), x14, x15], b⟩ =
        .ok (.nx ⟨[.fz st, .fz (.int now), .fz (.int fin), .fz ho, .fz pe, .fz to, .ow (li ++ [.str (passT now i p)]), x7, .fz (.int i), .fz (.int p.1), .fz (.int p.2.1), .fz (.int p.2.2.1), .fz (.int p.2.2.2.1), .fz (.tuple (p.2.2.2.2.map .int)), .fz (.str (wordT now p)), x15], b⟩) := by
      cases c1 : p.2.2.2.2.any (· == now)
      · rw [c1] at hin
        by_cases c2 : p.2.2.2.1 = 0
        · have w : wordT now p = "shut" := by simp [wordT, c1, c2]
          rw [w] at j ⊢
          rw [c2] at j d4
          simp [L_drawn_0, hin, c2, di, d1, d2, d3, d4, q1, q2, j, zl, size_small]
        · have w : wordT now p = "open" := by simp [wordT, c1, c2]
          rw [w] at j ⊢
          simp [L_drawn_0, hin, c2, di, d1, d2, d3, d4, q1, q2, j, zl, size_small]
      · rw [c1] at hin
        have w : wordT now p = "shut" := by simp [wordT, c1]
        rw [w] at j ⊢
        simp [L_drawn_0, hin, di, d1, d2, d3, d4, q1, q2, j, zl, size_small]
    have e2 : enumD i (List.map paD (p :: pa)) = .tuple [.int (i : Nat), paD p] :: enumD (i + 1) (pa.map paD) := rfl
    rw [e2]
    simp [sLoop, paD, turn]
    simpa [paD] using ih
theorem passL_get {now : Int} : ∀ {pa : List Pa} {i k : Nat}, (passL now i pa)[k]? = pa[k]?.map (fun p => passT now (i + k) p)
  | [], _, _ => by simp [passL]
  | p :: pa, i, 0 => by simp [passL]
  | p :: pa, i, k + 1 => by
    simp only [passL, List.getElem?_cons_succ]
    rw [passL_get (pa := pa), Nat.add_right_comm, Nat.add_assoc i k 1]
theorem passL_len {now : Int} : ∀ {pa : List Pa} {i : Nat}, (passL now i pa).length = pa.length
  | [], _ => rfl
  | p :: pa, i => by rw [passL, List.length_cons, List.length_cons, passL_len]
theorem law_pass {rs : List Int} {sm : List D} {st pe to : D} {now fin : Int} {pa : List Pa} (ok : ∀ p ∈ pa, OkA p) (hl : pa.length ≤ 100) {li : List D} (hli : li.length ≤ 500) {x7 x8 x9 x10 x11 x12 x13 x14 x15 x16 x17 x18 x19 x20 x21 x22 x23 : Sl} {b : Int × Int} :
    ∃ y12 y17 y18 y19 y20 y21 y22, sLoop (gN 17) L__law_drawn_2 (rgD 0 pa.length) ⟨[.fz st, .fz (.int now), .fz (.int fin), .fz (hD rs (pa.map paD) sm), .fz pe, .fz to, .ow li, x7, x8, x9, x10, x11, x12, x13, x14, x15, x16, x17, x18, x19, x20, x21, x22, x23], b⟩ =
      .ok (.nx ⟨[.fz st, .fz (.int now), .fz (.int fin), .fz (hD rs (pa.map paD) sm), .fz pe, .fz to, .ow (li ++ (passL now 0 pa).map .str), x7, x8, x9, x10, x11, y12, x13, x14, x15, x16, y17, y18, y19, y20, y21, y22, x23], b⟩) := by
  obtain ⟨e2, h1, y12, y17, y18, y19, y20, y21, y22, h2⟩ := loop_invN (g := gN 17) (S := L__law_drawn_2) (ds := rgD 0 pa.length) (fun k en => ∃ y12 y17 y18 y19 y20 y21 y22, en = ⟨[.fz st, .fz (.int now), .fz (.int fin), .fz (hD rs (pa.map paD) sm), .fz pe, .fz to, .ow (li ++ ((passL now 0 pa).take k).map .str), x7, x8, x9, x10, x11, y12, x13, x14, x15, x16, y17, y18, y19, y20, y21, y22, x23], b⟩)
    (en := ⟨[.fz st, .fz (.int now), .fz (.int fin), .fz (hD rs (pa.map paD) sm), .fz pe, .fz to, .ow li, x7, x8, x9, x10, x11, x12, x13, x14, x15, x16, x17, x18, x19, x20, x21, x22, x23], b⟩) ⟨x12, x17, x18, x19, x20, x21, x22, by simp⟩ (fun k d hd e ⟨y12, y17, y18, y19, y20, y21, y22, he⟩ => by
      subst he
      obtain ⟨hk, hd⟩ := List.getElem?_eq_some_iff.mp hd
      rw [rg_len] at hk
      have hd : d = .int (k : Nat) := by rw [← hd]; simp [rgD]
      subst hd
      obtain ⟨p, hpk⟩ : ∃ p, pa[k]? = some p := ⟨_, List.getElem?_eq_getElem hk⟩
      have okp := ok p (List.mem_of_getElem? hpk)
      have hg : L2.atI (pa.map paD) (k : Int) = some (paD p) := L2.atI_nat (by rw [List.getElem?_map, hpk]; rfl)
      obtain ⟨g, j⟩ := pass_gd (now := now) (i := k) okp (by omega)
      have ht : (passL now 0 pa).take (k + 1) = (passL now 0 pa).take k ++ [passT now k p] := by
        rw [List.take_add_one, passL_get, hpk, Nat.zero_add]
        rfl
      obtain ⟨M, hM⟩ : ∃ M, M = li ++ ((passL now 0 pa).take k).map PyData.str := ⟨_, rfl⟩
      have lM : M.length ≤ 600 := by
        rw [hM, List.length_append, List.length_map, List.length_take]
        omega
      have zl : M.length < sizeLine := Nat.lt_of_le_of_lt lM (by decide)
      rw [ht, List.map_append, ← List.append_assoc, ← hM]
      have di : dStr [.int (k : Int)] = some (.str (tx k)) := dStr_tx (by omega)
      have d1 := dStr_tx (i := p.1) (by have := okp.1; omega)
      have d2 := dStr_tx (i := p.2.1) (by have := okp.2.1; omega)
      have d3 := dStr_tx (i := p.2.2.1) (by have := okp.2.2.1; omega)
      have d4 := dStr_tx (i := p.2.2.2.1) (by have := okp.2.2.2.1; omega)
      have hin := in_ints now p.2.2.2.2
      have g0 : Gd 3 (tx (k : Int)) := gd_tx (by omega) (by omega)
      have g1 := gd_tx okp.1.1 okp.1.2
      have g2 := gd_tx okp.2.1.1 okp.2.1.2
      have g3 := gd_tx okp.2.2.1.1 okp.2.2.1.2
      have g4 := gd_tx okp.2.2.2.1.1 okp.2.2.2.1.2
      have gs : Gd 1 (" " : Str) := gd_lit (by decide +kernel)
      have gm : Gd 1 (">" : Str) := gd_lit (by decide +kernel)
      have gw : Gd 4 (wordT now p) := gd_word
      have c1 := gd_app g0 gs
      have q1 := size_small (Nat.le_trans (Nat.add_le_add g0.1 gs.1) (by decide))
      have c2 := gd_app c1 g1
      have q2 := size_small (Nat.le_trans (Nat.add_le_add c1.1 g1.1) (by decide))
      have c3 := gd_app c2 gm
      have q3 := size_small (Nat.le_trans (Nat.add_le_add c2.1 gm.1) (by decide))
      have c4 := gd_app c3 g2
      have q4 := size_small (Nat.le_trans (Nat.add_le_add c3.1 g2.1) (by decide))
      have c5 := gd_app c4 gs
      have q5 := size_small (Nat.le_trans (Nat.add_le_add c4.1 gs.1) (by decide))
      have c6 := gd_app c5 g3
      have q6 := size_small (Nat.le_trans (Nat.add_le_add c5.1 g3.1) (by decide))
      have c7 := gd_app c6 gs
      have q7 := size_small (Nat.le_trans (Nat.add_le_add c6.1 gs.1) (by decide))
      have c8 := gd_app c7 g4
      have q8 := size_small (Nat.le_trans (Nat.add_le_add c7.1 g4.1) (by decide))
      have c9 := gd_app c8 gs
      have q9 := size_small (Nat.le_trans (Nat.add_le_add c8.1 gs.1) (by decide))
      have c10 := gd_app c9 gw
      have q10 := size_small (Nat.le_trans (Nat.add_le_add c9.1 gw.1) (by decide))
      have ep : tx (k : Int) ++ " " ++ tx p.1 ++ ">" ++ tx p.2.1 ++ " " ++ tx p.2.2.1 ++ " " ++ tx p.2.2.2.1 ++ " " ++ wordT now p = passT now k p := by
        unfold passT
        simp only [join_two, join_one, Str.append_assoc]
      rw [← ep]
      refine ⟨_, rfl, ⟨[.fz st, .fz (.int now), .fz (.int fin), .fz (hD rs (pa.map paD) sm), .fz pe, .fz to, .ow (M ++ [.str (tx (k : Int) ++ " " ++ tx p.1 ++ ">" ++ tx p.2.1 ++ " " ++ tx p.2.2.1 ++ " " ++ tx p.2.2.2.1 ++ " " ++ wordT now p)]), x7, x8, x9, x10, x11, .fz (.str (wordT now p)), x13, x14, x15, x16, .fz (.int k), .fz (.int p.1), .fz (.int p.2.1), .fz (.int p.2.2.1), .fz (.int p.2.2.2.1), .fz (.tuple (p.2.2.2.2.map .int)), x23], b⟩, .inl ?_, .fz (.str (wordT now p)), .fz (.int k), .fz (.int p.1), .fz (.int p.2.1), .fz (.int p.2.2.1), .fz (.int p.2.2.2.1), .fz (.tuple (p.2.2.2.2.map .int)), rfl⟩
      cases f1 : p.2.2.2.2.any (· == now)
      · rw [f1] at hin
        by_cases f2 : p.2.2.2.1 = 0
        · have w : wordT now p = "shut" := by simp [wordT, f1, f2]
          rw [w] at q10 ⊢
          rw [f2] at d4 q8 q9 q10
          simp [L__law_drawn_2, hg, paD, hin, f2, di, d1, d2, d3, d4, q1, q2, q3, q4, q5, q6, q7, q8, q9, q10, zl]
        · have w : wordT now p = "open" := by simp [wordT, f1, f2]
          rw [w] at q10 ⊢
          simp [L__law_drawn_2, hg, paD, hin, f2, di, d1, d2, d3, d4, q1, q2, q3, q4, q5, q6, q7, q8, q9, q10, zl]
      · rw [f1] at hin
        have w : wordT now p = "shut" := by simp [wordT, f1]
        rw [w] at q10 ⊢
        simp [L__law_drawn_2, hg, paD, hin, di, d1, d2, d3, d4, q1, q2, q3, q4, q5, q6, q7, q8, q9, q10, zl])
  refine ⟨y12, y17, y18, y19, y20, y21, y22, ?_⟩
  rw [h1, h2, rg_len, List.take_of_length_le (by rw [passL_len]; exact Nat.le_refl _)]
end Lw

namespace Lw
open PySem L2 PySem.Spec DL
/-! ### what was told -/
def OkT (d : D) : Prop := d = .none ∨ d = .str "stand" ∨ ∃ i : Int, d = .int i ∧ 0 ≤ i ∧ i < 1000
def stepT (d : D) : Str := match d with
  | .none => "-"
  | .int i => tx i
  | _ => "s"
theorem ne_stand (i : Int) : dEq (.int i) (.str "stand") = some (.bool false) := by
  rw [dEq_sh (shaped_int i) (show SeqAt.shaped (.str "stand") = true by decide +kernel)]
  simp [PyData.eqv]
theorem step_word_ok {d : D} (h : OkT d) (b : Int × Int) : F_step_word [d] b = .ok (.str (stepT d)) b := by
  simp only [F_step_word, runF_eq, enF, B_step_word]
  rcases h with rfl | rfl | ⟨i, rfl, h0, h1⟩
  · simp [stepT]
  · simp [stepT]
  · have di := dStr_tx (i := i) (by omega)
    simp [stepT, ne_stand, di]
theorem law_word_ok {d : D} (h : OkT d) (b : Int × Int) : F__law_word [d] b = .ok (.str (stepT d)) b := by
  simp only [F__law_word, runF_eq, enF, B__law_word]
  rcases h with rfl | rfl | ⟨i, rfl, h0, h1⟩
  · simp [stepT]
  · simp [stepT]
  · have di := dStr_tx (i := i) (by omega)
    simp [stepT, ne_stand, di]
theorem gd_step {d : D} (h : OkT d) : Gd 3 (stepT d) := by
  rcases h with rfl | rfl | ⟨i, rfl, h0, h1⟩
  · exact gd_lit (by decide +kernel)
  · exact gd_lit (by decide +kernel)
  · exact gd_tx h0 h1
def toldT (td : List D) : Str := "told " ++ ws (td.map stepT) " "
theorem gd_told {td : List D} (h : ∀ d ∈ td, OkT d) (hl : td.length ≤ 8) : Gd 40 (toldT td) ∧ Gd 33 (ws (td.map stepT) " ") := by
  have g : Gd 33 (ws (td.map stepT) " ") := gd_ws (c := 8) (k := 3) (n := 1) (fun y hy => by
    obtain ⟨d, hd, e⟩ := List.mem_map.mp hy
    rw [← e]; exact gd_step (h d hd)) (by rw [List.length_map]; exact hl) (gd_lit (by decide +kernel))
  exact ⟨gd_mono (gd_app (gd_lit (k := 5) (by decide +kernel)) g) (by omega), g⟩
def headT (now fin : Int) : Str := "beat " ++ tx now ++ " of " ++ tx fin
def LT (rs : List Int) (sm : List D) (pl : List Pn) (now : Int) (i : Nat) : Str := lineT pl (rs.getD i 0) (sm.getD i .none) i now
/-- all the lines -/
def allL (now fin : Int) (rs : List Int) (sm : List D) (pl : List Pn) (pa : List Pa) (td : List D) : List Str := headT now fin :: (List.range rs.length).map (LT rs sm pl now) ++ passL now 0 pa ++ [toldT td]
structure Ok (now fin : Int) (rs : List Int) (sm : List D) (pl : List Pn) (pa : List Pa) (td : List D) : Prop where
  ho : House rs (pa.map paD) sm
  pe : ∀ p ∈ pl, OkP rs.length now p
  p8 : pl.length ≤ 8
  oa : ∀ p ∈ pa, OkA p
  a8 : pa.length ≤ 8
  ot : ∀ d ∈ td, OkT d
  t8 : td.length ≤ 8
  n0 : 0 ≤ now
  n1 : now < 1000
  f0 : 0 ≤ fin
  f1 : fin < 1000
variable {now fin : Int} {rs : List Int} {sm : List D} {pl : List Pn} {pa : List Pa} {td : List D}
theorem gd_all (k : Ok now fin rs sm pl pa td) : (∀ y ∈ allL now fin rs sm pl pa td, Gd 600 y) ∧ (allL now fin rs sm pl pa td).length ≤ 15 := by
  have r5 := k.ho.r5
  refine ⟨fun y hy => ?_, ?_⟩
  · unfold allL at hy
    simp only [List.mem_append, List.mem_cons, List.not_mem_nil, or_false] at hy
    rcases hy with ((rfl | hy) | hy) | rfl
    · exact gd_mono (gd_app (gd_app (gd_app (gd_lit (k := 5) (by decide +kernel)) (gd_tx k.n0 k.n1)) (gd_lit (k := 4) (by decide +kernel))) (gd_tx k.f0 k.f1)) (by omega)
    · obtain ⟨i, hi, e⟩ := List.mem_map.mp hy
      have := List.mem_range.mp hi
      rw [← e]
      exact gd_mono (gd_line k.pe k.p8 (by omega)) (by omega)
    · obtain ⟨i, hi, e⟩ := List.mem_iff_getElem.mp hy
      rw [passL_len] at hi
      have a8 := k.a8
      have := passL_get (now := now) (pa := pa) (i := 0) (k := i)
      rw [List.getElem?_eq_getElem (by rw [passL_len]; exact hi), List.getElem?_eq_getElem hi, e] at this
      rw [Option.some.inj this]
      exact gd_mono (pass_gd (k.oa _ (List.getElem_mem hi)) (by omega)).1 (by omega)
    · exact gd_mono (gd_told k.ot k.t8).1 (by omega)
  · unfold allL
    have a8 := k.a8
    simp [passL_len]
    omega
theorem LT_eq (k : Ok now fin rs sm pl pa td) {i : Nat} (hi : i < rs.length) : lineT pl rs[i] (sm[i]'(by rw [k.ho.sl]; exact hi)) i now = LT rs sm pl now i := by
  have hs : i < sm.length := by rw [k.ho.sl]; exact hi
  unfold LT
  rw [List.getD_eq_getElem?_getD, List.getD_eq_getElem?_getD, List.getElem?_eq_getElem hi, List.getElem?_eq_getElem hs]
  rfl
theorem drawn_ok (k : Ok now fin rs sm pl pa td) (b : Int × Int) : F_drawn [stD now fin rs (pa.map paD) sm pl (.tuple td)] b = .ok (.str (Txt.join "\n" (allL now fin rs sm pl pa td))) b := by
  have r5 := k.ho.r5
  have a8 := k.a8
  obtain ⟨st, hst⟩ : ∃ st, st = stD now fin rs (pa.map paD) sm pl (.tuple td) := ⟨_, rfl⟩
  have c0 := comp_mapLT (own := [7]) (g := gN 7) (A := A_drawn_0) (k0 := [.fz st, .fz (.int now), .fz (.int fin), .fz (hD rs (pa.map paD) sm), .fz (.tuple (pl.map pnD)), .fz (.tuple td), .no, .no, .no, .no, .no, .no, .no, .no, .no, .no]) (b := b) (fun i : Nat => PyData.int (i : Nat)) (fun i => .str (LT rs sm pl now i)) (l := List.range rs.length) (by rw [List.length_range]; omega) (fun i hi => by
    have hi := List.mem_range.mp hi
    have z := room_line_ok k.ho (fin := fin) (told := .tuple td) k.pe k.p8 hi (0, 0)
    rw [← hst, LT_eq k hi] at z
    exact ⟨_, rfl, by simp, by simp [A_drawn_0, z]⟩)
  rw [← rg_map] at c0
  obtain ⟨y8, y9, y10, y11, y12, y13, y14, lp⟩ := prog_pass (st := st) (ho := hD rs (pa.map paD) sm) (pe := .tuple (pl.map pnD)) (to := .tuple td) (now := now) (fin := fin) pa 0 (.str (headT now fin) :: (List.range rs.length).map fun i => .str (LT rs sm pl now i)) .no .no .no .no .no .no .no .no .no b k.oa (by omega) (by simp; omega)
  have c1 := comp_mapLT (own := [15]) (g := gN 15) (A := A_drawn_1) (k0 := [.fz st, .fz (.int now), .fz (.int fin), .fz (hD rs (pa.map paD) sm), .fz (.tuple (pl.map pnD)), .fz (.tuple td), .fz (.list ((.str (headT now fin) :: (List.range rs.length).map fun i => .str (LT rs sm pl now i)) ++ (passL now 0 pa).map .str)), .no, y8, y9, y10, y11, y12, y13, y14, .no]) (b := b) id (fun d => .str (stepT d)) (l := td) (by have := k.t8; omega) (fun d hd => by
    have z := step_word_ok (k.ot d hd) (0, 0)
    exact ⟨_, rfl, by simp, by simp [A_drawn_1, z]⟩)
  rw [List.map_id] at c1
  have tt : Texts (td.map fun d => .str (stepT d)) (td.map stepT) := texts_of fun d _ => rfl
  have gt := gd_told k.ot k.t8
  have w := with_sign_ok (s := " ") tt (Nat.le_trans (join_len (k := 3) (c := 8) (n := 1) (fun y hy => by
    obtain ⟨d, hd, e⟩ := List.mem_map.mp hy
    rw [← e]; exact (gd_step (k.ot d hd)).1) (by rw [List.length_map]; exact k.t8) (by decide)).1 (by decide)) (by rw [List.length_map]; have := k.t8; omega) (0, 0) (.inl rfl)
  have g := gd_all k
  have jj : dJoin (.str "\n") [.list ((.str (headT now fin) :: (List.range rs.length).map fun i => .str (LT rs sm pl now i)) ++ (passL now 0 pa).map .str ++ [.str (toldT td)])] = some (.str (Txt.join "\n" (allL now fin rs sm pl pa td))) := by
    refine joinD' ?_ (Nat.le_trans (join_len (fun y hy => (g.1 y hy).1) g.2 (n := 1) (by decide)).1 (by decide))
    unfold allL
    simp
  have dn := dStr_tx (i := now) (by have := k.n0; have := k.n1; omega)
  have df := dStr_tx (i := fin) (by have := k.f0; have := k.f1; omega)
  have q1 := size_small (Nat.le_trans (Nat.add_le_add (gd_lit (k := 5) (x := "beat ") (by decide +kernel)).1 (gd_tx k.n0 k.n1).1) (by decide))
  have q2 := size_small (Nat.le_trans (Nat.add_le_add (gd_app (gd_lit (k := 5) (x := "beat ") (by decide +kernel)) (gd_tx k.n0 k.n1)).1 (gd_lit (k := 4) (x := " of ") (by decide +kernel)).1) (by decide))
  have q3 := size_small (Nat.le_trans (Nat.add_le_add (gd_app (gd_app (gd_lit (k := 5) (x := "beat ") (by decide +kernel)) (gd_tx k.n0 k.n1)) (gd_lit (k := 4) (x := " of ") (by decide +kernel))).1 (gd_tx k.f0 k.f1).1) (by decide))
  have q4 := size_small (Nat.le_trans (Nat.add_le_add (gd_lit (k := 5) (x := "told ") (by decide +kernel)).1 gt.2.1) (by decide))
  have hh : "beat " ++ tx now ++ " of " ++ tx fin = headT now fin := rfl
  have ht : "told " ++ ws (td.map stepT) " " = toldT td := rfl
  simp only [F_drawn, runF_eq, enF, B_drawn]
  rw [hst] at c0 c1 lp
  simp only [List.cons_append, List.append_assoc] at lp c1 jj
  have z1 : 1 + rs.length ≤ sizeLine := size_small (by omega)
  have z2 : rgOk rs.length = true := by simp [rgOk]; omega
  have z3 : rs.length + pa.length + 1 + 1 ≤ sizeLine := size_small (by omega)
  simp [c0, lp, c1, w, dn, df, q1, q2, q3, q4, hh, ht, jj, z1, z2, z3, passL_len, size_small]
theorem law_rooms (k : Ok now fin rs sm pl pa td) {st : D} {b : Int × Int} : ∃ y7 y8 y9 y10 y11 y12 y13 y14 y15 y16, sLoop (gN 7) L__law_drawn_1 (rgD 0 rs.length) ⟨[.fz st, .fz (.int now), .fz (.int fin), .fz (hD rs (pa.map paD) sm), .fz (.tuple (pl.map pnD)), .fz (.tuple td), .ow [.str (headT now fin)], .no, .no, .no, .no, .no, .no, .no, .no, .no, .no, .no, .no, .no, .no, .no, .no, .no], b⟩ =
    .ok (.nx ⟨[.fz st, .fz (.int now), .fz (.int fin), .fz (hD rs (pa.map paD) sm), .fz (.tuple (pl.map pnD)), .fz (.tuple td), .ow (.str (headT now fin) :: (List.range rs.length).map fun i => .str (LT rs sm pl now i)), y7, y8, y9, y10, y11, y12, y13, y14, y15, y16, .no, .no, .no, .no, .no, .no, .no], b⟩) := by
  have r5 := k.ho.r5
  obtain ⟨e2, h1, y7, y8, y9, y10, y11, y12, y13, y14, y15, y16, f1, f2, h2⟩ := loop_invN (g := gN 7) (S := L__law_drawn_1) (ds := rgD 0 rs.length) (fun i en => ∃ y7 y8 y9 y10 y11 y12 y13 y14 y15 y16, NF y14 ∧ NF y15 ∧ en = ⟨[.fz st, .fz (.int now), .fz (.int fin), .fz (hD rs (pa.map paD) sm), .fz (.tuple (pl.map pnD)), .fz (.tuple td), .ow (.str (headT now fin) :: (List.range i).map fun i => .str (LT rs sm pl now i)), y7, y8, y9, y10, y11, y12, y13, y14, y15, y16, .no, .no, .no, .no, .no, .no, .no], b⟩)
    (en := ⟨[.fz st, .fz (.int now), .fz (.int fin), .fz (hD rs (pa.map paD) sm), .fz (.tuple (pl.map pnD)), .fz (.tuple td), .ow [.str (headT now fin)], .no, .no, .no, .no, .no, .no, .no, .no, .no, .no, .no, .no, .no, .no, .no, .no, .no], b⟩) ⟨.no, .no, .no, .no, .no, .no, .no, .no, .no, .no, .inl rfl, .inl rfl, rfl⟩ (fun i d hd e ⟨y7, y8, y9, y10, y11, y12, y13, y14, y15, y16, f1, f2, he⟩ => by
      subst he
      obtain ⟨hk, hd⟩ := List.getElem?_eq_some_iff.mp hd
      rw [rg_len] at hk
      have hd : d = .int (i : Nat) := by rw [← hd]; simp [rgD]
      subst hd
      obtain ⟨z8, z9, z10, z11, z12, z13, z14, z15, z16, ⟨g1, g2⟩, t⟩ := room_turn k.ho (fin := fin) (st := st) (to := .tuple td) k.pe k.p8 hk b (.str (headT now fin) :: (List.range i).map fun i => .str (LT rs sm pl now i)) (by simp; omega) y8 y9 y10 y11 y12 y13 y14 y15 y16 .no .no .no .no .no .no .no f1 f2
      rw [LT_eq k hk] at t
      refine ⟨_, rfl, _, .inl (by simpa using t), .fz (.int i), z8, z9, z10, z11, z12, z13, z14, z15, z16, g1, g2, ?_⟩
      rw [List.range_succ, List.map_append]
      rfl)
  exact ⟨y7, y8, y9, y10, y11, y12, y13, y14, y15, y16, by rw [h1, h2, rg_len]⟩
theorem law_drawn_ok (k : Ok now fin rs sm pl pa td) (b : Int × Int) : F__law_drawn [stD now fin rs (pa.map paD) sm pl (.tuple td)] b = .ok (.str (Txt.join "\n" (allL now fin rs sm pl pa td))) b := by
  have r5 := k.ho.r5
  have a8 := k.a8
  obtain ⟨st, hst⟩ : ∃ st, st = stD now fin rs (pa.map paD) sm pl (.tuple td) := ⟨_, rfl⟩
  obtain ⟨y7, y8, y9, y10, y11, y12, y13, y14, y15, y16, lr⟩ := law_rooms k (st := st) (b := b)
  obtain ⟨w12, w17, w18, w19, w20, w21, w22, lp⟩ := law_pass (rs := rs) (sm := sm) (st := st) (pe := .tuple (pl.map pnD)) (to := .tuple td) (now := now) (fin := fin) (pa := pa) k.oa (by omega) (li := .str (headT now fin) :: (List.range rs.length).map fun i => .str (LT rs sm pl now i)) (by simp; omega) (x7 := y7) (x8 := y8) (x9 := y9) (x10 := y10) (x11 := y11) (x12 := y12) (x13 := y13) (x14 := y14) (x15 := y15) (x16 := y16) (x17 := .no) (x18 := .no) (x19 := .no) (x20 := .no) (x21 := .no) (x22 := .no) (x23 := .no) (b := b)
  have c1 := comp_mapLT (own := [23]) (g := gN 23) (A := A__law_drawn_1) (k0 := [.fz st, .fz (.int now), .fz (.int fin), .fz (hD rs (pa.map paD) sm), .fz (.tuple (pl.map pnD)), .fz (.tuple td), .fz (.list ((.str (headT now fin) :: (List.range rs.length).map fun i => .str (LT rs sm pl now i)) ++ (passL now 0 pa).map .str)), y7, y8, y9, y10, y11, w12, y13, y14, y15, y16, w17, w18, w19, w20, w21, w22, .no]) (b := b) id (fun d => .str (stepT d)) (l := td) (by have := k.t8; omega) (fun d hd => by
    have z := law_word_ok (k.ot d hd) (0, 0)
    exact ⟨_, rfl, by simp, by simp [A__law_drawn_1, z]⟩)
  rw [List.map_id] at c1
  have gt := gd_told k.ot k.t8
  have g := gd_all k
  have jw : dJoin (.str " ") [.list (td.map fun d => .str (stepT d))] = some (.str (Txt.join " " (td.map stepT))) := joinD' (by rw [List.map_map]; rfl) (Nat.le_trans (join_len (k := 3) (c := 8) (n := 1) (fun y hy => by
    obtain ⟨d, hd, e⟩ := List.mem_map.mp hy
    rw [← e]; exact (gd_step (k.ot d hd)).1) (by rw [List.length_map]; exact k.t8) (by decide)).1 (by decide))
  have jj : dJoin (.str "\n") [.list ((.str (headT now fin) :: (List.range rs.length).map fun i => .str (LT rs sm pl now i)) ++ (passL now 0 pa).map .str ++ [.str (toldT td)])] = some (.str (Txt.join "\n" (allL now fin rs sm pl pa td))) := by
    refine joinD' ?_ (Nat.le_trans (join_len (fun y hy => (g.1 y hy).1) g.2 (n := 1) (by decide)).1 (by decide))
    unfold allL
    simp
  have dn := dStr_tx (i := now) (by have := k.n0; have := k.n1; omega)
  have df := dStr_tx (i := fin) (by have := k.f0; have := k.f1; omega)
  have q1 := size_small (Nat.le_trans (Nat.add_le_add (gd_lit (k := 5) (x := "beat ") (by decide +kernel)).1 (gd_tx k.n0 k.n1).1) (by decide))
  have q2 := size_small (Nat.le_trans (Nat.add_le_add (gd_app (gd_lit (k := 5) (x := "beat ") (by decide +kernel)) (gd_tx k.n0 k.n1)).1 (gd_lit (k := 4) (x := " of ") (by decide +kernel)).1) (by decide))
  have q3 := size_small (Nat.le_trans (Nat.add_le_add (gd_app (gd_app (gd_lit (k := 5) (x := "beat ") (by decide +kernel)) (gd_tx k.n0 k.n1)) (gd_lit (k := 4) (x := " of ") (by decide +kernel))).1 (gd_tx k.f0 k.f1).1) (by decide))
  have q4 := size_small (Nat.le_trans (Nat.add_le_add (gd_lit (k := 5) (x := "told ") (by decide +kernel)).1 gt.2.1) (by decide))
  have hh : "beat " ++ tx now ++ " of " ++ tx fin = headT now fin := rfl
  have ht : "told " ++ ws (td.map stepT) " " = toldT td := rfl
  have nt := ne_nilT (ds := td) fun d hd => by
    rcases k.ot d hd with rfl | rfl | ⟨i, rfl, _⟩
    · exact ⟨rfl, rfl⟩
    · exact ⟨by decide +kernel, rfl⟩
    · exact ⟨rfl, rfl⟩
  simp only [F__law_drawn, runF_eq, enF, B__law_drawn]
  rw [hst] at c1 lr lp
  simp only [List.cons_append, List.append_assoc] at lp c1 jj
  have z1 : 1 + rs.length ≤ sizeLine := size_small (by omega)
  have z2 : rgOk rs.length = true := by simp [rgOk]; omega
  have z4 : rgOk pa.length = true := by simp [rgOk]; omega
  have z3 : rs.length + pa.length + 1 + 1 ≤ sizeLine := size_small (by omega)
  cases c : td.isEmpty
  · rw [c] at nt
    have e : ws (td.map stepT) " " = Txt.join " " (td.map stepT) := by simp [ws, c]
    rw [e] at q4 ht
    simp [lr, lp, c1, jw, nt, dn, df, q1, q2, q3, q4, hh, ht, jj, z1, z2, z3, z4, passL_len, size_small]
  · rw [c] at nt
    have e : ws (td.map stepT) " " = "-" := by simp [ws, c]
    rw [e] at q4 ht
    simp [lr, lp, c1, jw, nt, dn, df, q1, q2, q3, q4, hh, ht, jj, z1, z2, z3, z4, passL_len, size_small]
end Lw

namespace Lw
open PySem L2 PySem.Spec DL
theorem nf_bx {x : Sl} (h : NF x) : isBx x = false := by
  rcases h with rfl | ⟨d, rfl⟩ <;> rfl
theorem told_turn {ns : List Int} {kk now : Int} {rs : List Int} {sm : List D} {pa : List Pa} {x1 x5 : Sl} (ha : pa.length ≤ 8) {n : Nat} {p : Pn} (okp : OkP n now p) {td : List D} (hl : td.length ≤ 100) {x7 x8 x9 x10 x11 x13 : Sl} {b : Int × Int} :
    ∃ t y11 b', L_law_0 ⟨[.sq ns, x1, .bx, .fz (hD rs (pa.map paD) sm), .fz (.int now), x5, .ow td, .fz (.str p.1), .fz (.int p.2.1), .fz (.int p.2.2.1), .fz (.int p.2.2.2), x11, .no, x13], b⟩ =
      .ok (.nx ⟨[.sq ns, x1, .bx, .fz (hD rs (pa.map paD) sm), .fz (.int now), x5, .ow (td ++ [t]), .fz (.str p.1), .fz (.int p.2.1), .fz (.int p.2.2.1), .fz (.int p.2.2.2), y11, .no, x13], b'⟩) ∧ OkT t ∧ NF y11 := by
  have c0 := comp_mapL (own := [12]) (g := gN 12) (t := T_law_0) (A := A_law_0) (k0 := [.sq ns, x1, .bx, .fz (hD rs (pa.map paD) sm), .fz (.int now), x5, .ow td, .fz (.str p.1), .fz (.int p.2.1), .fz (.int p.2.2.1), .fz (.int p.2.2.2), x11, .no, x13]) (b := b) (fun i : Nat => PyData.int (i : Nat)) (fun i => match pa[i]? with | some q => q.1 == p.2.1 | none => false) (fun i => .int (i : Nat)) (l := List.range pa.length) (by rw [List.length_range]; omega) (fun i hi => by
    have hi := List.mem_range.mp hi
    have hg : L2.atI (pa.map paD) (i : Int) = some (paD pa[i]) := L2.atI_nat (by rw [List.getElem?_map, List.getElem?_eq_getElem hi]; rfl)
    exact ⟨_, rfl, by simp, by simp [T_law_0, hg, hi, paD], fun _ => by simp [A_law_0]⟩)
  rw [← rg_map] at c0
  obtain ⟨C, hC⟩ : ∃ C, C = ((List.range pa.length).filter fun i => match pa[i]? with | some q => q.1 == p.2.1 | none => false).map fun i => PyData.int (i : Nat) := ⟨_, rfl⟩
  rw [← hC] at c0
  have lC : C.length ≤ 8 := by
    rw [hC, List.length_map]
    exact Nat.le_trans (List.length_filter_le _ _) (by rw [List.length_range]; exact ha)
  have hCi : ∀ d ∈ C, OkT d := fun d hd => by
    rw [hC] at hd
    obtain ⟨i, hi, e⟩ := List.mem_map.mp hd
    have := List.mem_range.mp (List.mem_filter.mp hi).1
    exact .inr (.inr ⟨i, e.symm, by omega, by omega⟩)
  have zr : rgOk pa.length = true := by simp [rgOk]; omega
  have zs : 2 + C.length ≤ sizeLine := size_small (by omega)
  have zl : td.length < sizeLine := Nat.lt_of_le_of_lt (by omega : td.length ≤ 1000) (by decide)
  obtain ⟨t, b1, e1, ht⟩ := pick_ok (.none :: .str "stand" :: C) b (by simp) (by simp; omega)
  have okt : OkT t := by
    rcases List.mem_cons.mp ht with rfl | ht
    · exact .inl rfl
    · rcases List.mem_cons.mp ht with rfl | ht
      · exact .inr (.inl rfl)
      · exact hCi t ht
  by_cases c1 : p.1 = "here"
  · by_cases c2 : p.2.2.1 = now
    · refine ⟨t, .fz (.list (.none :: .str "stand" :: C)), b1, ?_, okt, .inr ⟨_, rfl⟩⟩
      simp only [c1, c2] at c0
      simp [L_law_0, c0, zr, zs, c1, c2, e1, zl, size_small]
    · refine ⟨.none, .fz (.list (.none :: .str "stand" :: C)), b, ?_, .inl rfl, .inr ⟨_, rfl⟩⟩
      simp only [c1] at c0
      simp [L_law_0, c0, zr, zs, c1, c2, zl, size_small]
  · refine ⟨.none, .fz (.list (.none :: .str "stand" :: C)), b, ?_, .inl rfl, .inr ⟨_, rfl⟩⟩
    simp [L_law_0, c0, zr, zs, c1, zl, size_small]
theorem told_turns {ns : List Int} {now : Int} {rs : List Int} {sm : List D} {pa : List Pa} {x1 x5 : Sl} (ha : pa.length ≤ 8) {n : Nat} {x13 : Sl} : ∀ (pl : List Pn), (∀ p ∈ pl, OkP n now p) → ∀ (td : List D), td.length + pl.length ≤ 100 → (∀ d ∈ td, OkT d) → ∀ (x7 x8 x9 x10 x11 : Sl) (b : Int × Int), NF x7 → NF x8 → NF x9 → NF x10 → NF x11 →
    ∃ td' y7 y8 y9 y10 y11 b', (NF y7 ∧ NF y8 ∧ NF y9 ∧ NF y10 ∧ NF y11) ∧ (∀ d ∈ td', OkT d) ∧ td'.length = td.length + pl.length ∧ sLoop (gTup 4 (gCons (gN 7) (gCons (gN 8) (gCons (gN 9) (gCons (gN 10) gNil))))) L_law_0 (pl.map pnD) ⟨[.sq ns, x1, .bx, .fz (hD rs (pa.map paD) sm), .fz (.int now), x5, .ow td, x7, x8, x9, x10, x11, .no, x13], b⟩ =
      .ok (.nx ⟨[.sq ns, x1, .bx, .fz (hD rs (pa.map paD) sm), .fz (.int now), x5, .ow td', y7, y8, y9, y10, y11, .no, x13], b'⟩)
  | [], _, td, _, ok, x7, x8, x9, x10, x11, b, h7, h8, h9, h10, h11 => ⟨td, x7, x8, x9, x10, x11, b, ⟨h7, h8, h9, h10, h11⟩, ok, rfl, rfl⟩
  | p :: pl, okp, td, hl, ok, x7, x8, x9, x10, x11, b, h7, h8, h9, h10, h11 => by
    rw [List.length_cons] at hl
    obtain ⟨t, y11, b1, e, okt, g11⟩ := told_turn (ns := ns) (kk := 0) (rs := rs) (sm := sm) (x1 := x1) (x5 := x5) (x7 := x7) (x8 := x8) (x9 := x9) (x10 := x10) (x11 := x11) (x13 := x13) (b := b) ha (okp p List.mem_cons_self) (td := td) (by omega)
    obtain ⟨td', y7, y8, y9, y10, z11, b', g, okd, ld, ih⟩ := told_turns (ns := ns) (rs := rs) (sm := sm) (x1 := x1) (x5 := x5) ha (x13 := x13) pl (fun q hq => okp q (List.mem_cons_of_mem _ hq)) (td ++ [t]) (by rw [List.length_append, List.length_singleton]; omega) (fun d hd => (List.mem_append.mp hd).elim (ok d) fun z => by rw [List.mem_singleton.mp z]; exact okt) (.fz (.str p.1)) (.fz (.int p.2.1)) (.fz (.int p.2.2.1)) (.fz (.int p.2.2.2)) y11 b1 (.inr ⟨_, rfl⟩) (.inr ⟨_, rfl⟩) (.inr ⟨_, rfl⟩) (.inr ⟨_, rfl⟩) g11
    refine ⟨td', y7, y8, y9, y10, z11, b', g, okd, by rw [ld, List.length_append, List.length_singleton, List.length_cons]; omega, ?_⟩
    simp [sLoop, pnD, e]
    exact ih
theorem repr_two {t : Str} {k : Nat} (h : Gd k t) (hk : k ≤ 20000) : dRepr [.list [.str t, .str t]] = some (.str (PyData.shown (.list [.str t, .str t]))) := by
  have l := StrLaws.reprText_len t h.2
  have h1 := h.1
  have ok : reprOk (.list [.str t, .str t]) = true := by
    have e : PyData.shown (.list [.str t, .str t]) = listText [reprText t, reprText t] := by simp [PyData.shown, PyData.shownAll]
    have len : (listText [reprText t, reprText t]).length ≤ sizeLine := by
      have e2 : listText [reprText t, reprText t] = "[" ++ "" ++ reprText t ++ ", " ++ reprText t ++ "]" := rfl
      rw [e2]
      simp only [Str.length_append]
      have a1 : Str.length "[" = 1 := by decide
      have a2 : Str.length "" = 0 := by decide
      have a3 : Str.length ", " = 2 := by decide
      have a4 : Str.length "]" = 1 := by decide
      exact Nat.le_trans (show _ ≤ 500000 by omega) (by decide)
    unfold reprOk
    rw [e]
    simp [PyData.showable, PyData.showableAll, PyData.hasDict, PyData.hasDictAll, PyData.depth, PyData.depthAll, len]
  show (if reprOk _ = true then _ else _) = _
  rw [if_pos ok]
end Lw

namespace Lw
open PySem L2 PySem.Spec DL
theorem box_ap {i s : Nat} {F : List Int → Int → Int × Int} {k : Int} {sl : List Sl} {b : Int × Int} {ns : List Int} {j : Nat} (h : sl[s]? = some (.sq ns)) (hj : sl[j]? = some (.fz (.int k))) (h0 : 0 ≤ k) (hb : (sl.set i .no).all (fun s => !isBx s) = true) :
    sBox i s F (eVar j) ⟨sl, b⟩ = .ok (.nx ⟨sl.set i .bx, F ns k⟩) := by
  unfold sBox
  simp [h, hj, boxK, h0]
  simpa using hb
theorem law_turn {ns : List Int} {k : Nat} {x2 x3 x4 x5 x6 x7 x8 x9 x10 x11 x13 : Sl} {b : Int × Int} (h3 : NF x3) (h4 : NF x4) (h5 : NF x5) (h6 : NF x6) (h7 : NF x7) (h8 : NF x8) (h9 : NF x9) (h10 : NF x10) (h11 : NF x11) (h13 : NF x13) :
    ∃ y3 y4 y5 y6 y7 y8 y9 y10 y11 y13 b', (NF y3 ∧ NF y4 ∧ NF y5 ∧ NF y6 ∧ NF y7 ∧ NF y8 ∧ NF y9 ∧ NF y10 ∧ NF y11 ∧ NF y13) ∧ L_law_1 ⟨[.sq ns, .fz (.int k), x2, x3, x4, x5, x6, x7, x8, x9, x10, x11, .no, x13], b⟩ = .ok (.nx ⟨[.sq ns, .fz (.int k), .bx, y3, y4, y5, y6, y7, y8, y9, y10, y11, .no, y13], b'⟩) := by
  obtain ⟨b0, hb0⟩ : ∃ b0, b0 = F__law_box ns k := ⟨_, rfl⟩
  have e0 : sBox 2 0 F__law_box (eVar 1) ⟨[.sq ns, .fz (.int k), x2, x3, x4, x5, x6, x7, x8, x9, x10, x11, .no, x13], b⟩ = .ok (.nx ⟨[.sq ns, .fz (.int k), .bx, x3, x4, x5, x6, x7, x8, x9, x10, x11, .no, x13], b0⟩) := by
    rw [box_ap (ns := ns) (k := k) rfl rfl (by omega) (by simp [nf_bx h3, nf_bx h4, nf_bx h5, nf_bx h6, nf_bx h7, nf_bx h8, nf_bx h9, nf_bx h10, nf_bx h11, nf_bx h13]; exact ⟨rfl, rfl, rfl⟩), hb0]
    rfl
  obtain ⟨rs, ps, sm, b1, e1, ho⟩ := house_ok b0
  obtain ⟨x, b2, e2, x0, x12⟩ := take_ok 12 b1 (by omega) (by omega)
  obtain ⟨nowd, b3, e3, hn⟩ := pick_ok [.int 0, .int 1, .int 4, .int x] b2 (by simp) (by simp)
  obtain ⟨now, rfl, n0, n20⟩ : ∃ now : Int, nowd = .int now ∧ 0 ≤ now ∧ now ≤ 20 := by
    simp at hn
    rcases hn with rfl | rfl | rfl | rfl <;> exact ⟨_, rfl, by omega, by omega⟩
  obtain ⟨pa, rfl, oa⟩ : ∃ pa : List Pa, ps = pa.map paD ∧ ∀ p ∈ pa, OkA p := list_of fun d hd => by
    obtain ⟨t, h, l, w, sh, rfl, a1, a2, a3, a4, a5, a6, a7, a8, a9⟩ := ho.pp d hd
    have r5 := ho.r5
    exact ⟨(t, h, l, w, sh), rfl, ⟨a1, by simp; omega⟩, ⟨a3, by simp; omega⟩, ⟨a5, by simp; omega⟩, ⟨a7, by simp; omega⟩, a9⟩
  obtain ⟨qs, b4, e4, q8, hq⟩ := people_ok ho now n0 n20 b3
  obtain ⟨pl, rfl, op⟩ : ∃ pl : List Pn, qs = pl.map pnD ∧ ∀ p ∈ pl, OkP rs.length now p := list_of fun d hd => by
    obtain ⟨w, r, bt, u, rfl, a⟩ := hq d hd
    exact ⟨(w, r, bt, u), rfl, a⟩
  rw [List.length_map] at q8
  have a8 := ho.p8
  rw [List.length_map] at a8
  obtain ⟨td, y7, y8, y9, y10, y11, b5, ⟨g7, g8, g9, g10, g11⟩, ot, lt, e5⟩ := told_turns (ns := ns) (now := now) (rs := rs) (sm := sm) (pa := pa) (x1 := .fz (.int k)) (x5 := .fz (.tuple (pl.map pnD))) (x13 := x13) a8 pl op [] (by rw [List.length_nil]; omega) (by simp) x7 x8 x9 x10 x11 b4 h7 h8 h9 h10 h11
  rw [List.length_nil, Nat.zero_add] at lt
  obtain ⟨f, b6, e6, f0, f40⟩ := take_ok 40 b5 (by omega) (by omega)
  have ok : Ok now (now + f) rs sm pl pa td := ⟨ho, op, q8, oa, a8, ot, by omega, n0, by omega, by omega, by omega⟩
  have d1 := drawn_ok ok (0, 0)
  have d2 := law_drawn_ok ok (0, 0)
  have gt := gd_all ok
  have g : Gd (15 * (600 + 1)) (Txt.join "\n" (allL now (now + f) rs sm pl pa td)) := gd_join gt.1 gt.2 (gd_lit (by decide +kernel))
  have rp := repr_two g (by decide)
  refine ⟨.fz (hD rs (pa.map paD) sm), .fz (.int now), .fz (.tuple (pl.map pnD)), .fz (.list td), y7, y8, y9, y10, y11, .fz (stD now (now + f) rs (pa.map paD) sm pl (.tuple td)), b6, ⟨.inr ⟨_, rfl⟩, .inr ⟨_, rfl⟩, .inr ⟨_, rfl⟩, .inr ⟨_, rfl⟩, g7, g8, g9, g10, g11, .inr ⟨_, rfl⟩⟩, ?_⟩
  have z1 : (2 : Int) < 2 ^ 63 := by decide
  have z2 : (1 : Nat) * 2 ≤ sizeLine := by decide
  have mul : ∀ d : D, dMul (.list [d]) (.int 2) = some (.list [d, d]) := fun d => by
    have e : dMul (.list [d]) (.int 2) = if 0 ≤ (2 : Int) ∧ (2 : Int) < 2 ^ 63 ∧ [d].length * (2 : Int).toNat ≤ sizeLine then some (.list (List.replicate (2 : Int).toNat [d]).flatten) else none := rfl
    rw [e, if_pos ⟨by decide, by decide, by show 1 * 2 ≤ sizeLine; decide⟩]
    rfl
  simp only [L_law_1, sSeq_ap, e0, bind_ok]
  simp [e1, e2, e3, e4, e5, e6, d1, d2, rp, mul, put, size_small]
theorem lawTot (ns : List Int) (_ : ns.length ≤ 63) : Post (fun o => ∃ en, o = Out.rt (.bool true) en) (fun _ _ _ => False) (B_law ⟨.sq ns :: List.replicate 13 .no, (0, 0)⟩) := by
  have z5 : rgOk 5 = true := by decide
  obtain ⟨e, h1, _⟩ := loop_inv (g := gN 1) (S := L_law_1) (ds := rgD 0 5) (fun en => ∃ x1 x2 x3 x4 x5 x6 x7 x8 x9 x10 x11 x13 b, (NF x3 ∧ NF x4 ∧ NF x5 ∧ NF x6 ∧ NF x7 ∧ NF x8 ∧ NF x9 ∧ NF x10 ∧ NF x11 ∧ NF x13) ∧ en = ⟨[.sq ns, x1, x2, x3, x4, x5, x6, x7, x8, x9, x10, x11, .no, x13], b⟩)
    (en := ⟨.sq ns :: List.replicate 13 .no, (0, 0)⟩) ⟨_, _, _, _, _, _, _, _, _, _, _, _, _, ⟨.inl rfl, .inl rfl, .inl rfl, .inl rfl, .inl rfl, .inl rfl, .inl rfl, .inl rfl, .inl rfl, .inl rfl⟩, rfl⟩ (fun d hd en ⟨x1, x2, x3, x4, x5, x6, x7, x8, x9, x10, x11, x13, b, ⟨h3, h4, h5, h6, h7, h8, h9, h10, h11, h13⟩, he⟩ => by
      subst he
      obtain ⟨i, _, rfl⟩ := rg_mem hd
      obtain ⟨y3, y4, y5, y6, y7, y8, y9, y10, y11, y13, b', g, t⟩ := law_turn (ns := ns) (k := i) (x2 := x2) (b := b) h3 h4 h5 h6 h7 h8 h9 h10 h11 h13
      exact ⟨_, rfl, _, .inl t, _, _, _, _, _, _, _, _, _, _, _, _, _, g, rfl⟩)
  simp only [B_law]
  obtain ⟨sl, b⟩ := e
  simp only [List.replicate] at h1
  simp [z5, h1, Post]
end Lw

open PySem PySem.W PyProof.Rows in
set_option maxRecDepth 100000 in
set_option maxHeartbeats 0 in
theorem PySem.Challenge.cw_outsoonest_k70_whole_houses_drawn_holds : PySem.Challenge.rw_outsoonest_k70_whole_houses_drawn.Holds := by
  w_on; o_law; k_head; (case hw => w_witness2)
  k_fill
  refine DL.walk_dl (l := PySem.Challenge.rw_outsoonest_k70_whole_houses_drawn) (k := 5) (x := "_law_script") rfl (by decide) rfl ⟨rfl, by decide, by decide⟩ (fun w h Y => PySem.W.kIn_of Y) ?F
  case F =>
    intro w mg fa h KX G hmg
    refine' Lw.all_mk Lw.boxTot Lw.lawTot KX G hmg ?a0 ?l0 ?c0 ?k0 ?a1 ?l1 ?c1 ?k1 ?a2 ?l2 ?c2 ?k2 ?a3 ?l3 ?c3 ?k3 ?a4 ?l4 ?c4 ?k4 ?a5 ?l5 ?c5 ?k5 ?a6 ?l6 ?c6 ?k6 ?a7 ?l7 ?c7 ?k7 ?a8 ?l8 ?c8 ?k8 ?a9 ?l9 ?c9 ?k9 ?a10 ?l10 ?c10 ?k10 ?a11 ?l11 ?c11 ?k11 ?a12 ?l12 ?c12 ?k12 ?a13 ?l13 ?c13 ?k13 ?a14 ?l14 ?c14 ?k14 ?z0 ?z1 ?z2 ?z3 ?z4 ?z5 ?z6 ?z7 ?z8 ?z9 ?z10 ?z11 ?z12 ?z13 ?z14 ?z15 ?z16 ?z17
    (case a0 => k_is)
    (case l0 => k_is)
    (case c0 => k_is)
    (case k0 => k_is)
    (case a1 => k_is)
    (case l1 => k_is)
    (case c1 => k_is)
    (case k1 => k_is)
    (case a2 => k_is)
    (case l2 => k_is)
    (case c2 => k_is)
    (case k2 => k_is)
    (case a3 => k_is)
    (case l3 => k_is)
    (case c3 => k_is)
    (case k3 => k_is)
    (case a4 => k_is)
    (case l4 => k_is)
    (case c4 => k_is)
    (case k4 => k_is)
    (case a5 => k_is)
    (case l5 => k_is)
    (case c5 => k_is)
    (case k5 => k_is)
    (case a6 => k_is)
    (case l6 => k_is)
    (case c6 => k_is)
    (case k6 => k_is)
    (case a7 => k_is)
    (case l7 => k_is)
    (case c7 => k_is)
    (case k7 => k_is)
    (case a8 => k_is)
    (case l8 => k_is)
    (case c8 => k_is)
    (case k8 => k_is)
    (case a9 => k_is)
    (case l9 => k_is)
    (case c9 => k_is)
    (case k9 => k_is)
    (case a10 => k_is)
    (case l10 => k_is)
    (case c10 => k_is)
    (case k10 => k_is)
    (case a11 => k_is)
    (case l11 => k_is)
    (case c11 => k_is)
    (case k11 => k_is)
    (case a12 => k_is)
    (case l12 => k_is)
    (case c12 => k_is)
    (case k12 => k_is)
    (case a13 => k_is)
    (case l13 => k_is)
    (case c13 => k_is)
    (case k13 => k_is)
    (case a14 => k_is)
    (case l14 => k_is)
    (case c14 => k_is)
    (case k14 => k_is)
    (case z0 => k_is)
    (case z1 => k_is)
    (case z2 => k_is)
    (case z3 => k_is)
    (case z4 => k_is)
    (case z5 => k_is)
    (case z6 => k_is)
    (case z7 => k_is)
    (case z8 => k_is)
    (case z9 => k_is)
    (case z10 => k_is)
    (case z11 => k_is)
    (case z12 => k_is)
    (case z13 => k_is)
    (case z14 => k_is)
    (case z15 => k_is)
    (case z16 => k_is)
    (case z17 => k_is)
#print axioms PySem.Challenge.cw_outsoonest_k70_whole_houses_drawn_holds
