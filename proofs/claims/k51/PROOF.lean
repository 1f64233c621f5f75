import PyProof.Rows.All
import Wide.All
import OpenK.AllK
import Wide.FinOn
import HandS.ForMost
import HandS.ForExc
import HandS.IsInst
import HandS.Conv
import HandS.Walk
import HandS.Zip
import HandS.Wide
import HandS.CallSlots
import HandS.Lambda
import KE.DataEq
import HandS.TupAny
import HandS.Deep
import KE.SortData
import KE.DataMinMax
import KE.DataCmp
import HandS.SortInts
import HandS.TupMul
import HandS.RaiseMore
import HandS.Dict
import HandS.WordsDict
import HandS.TupLen
import KE.GoesEnum
import HandS.TryOnly
import HandS.WordsExc
import HandS.ExcCtx
import HandS.ExcOwn
import HandS.Style
import KE.KExcSuper
import HandS.SetFor
import HandS.Strs
import HandS.ExcInit
import HandS.ExcSuper
import HandS.ExcInitHot
import HandS.SuiteRaise
import HandS.ExcField
import HandS.ExcIs
import HandS.DictComp
import HandS.Ends
import HandS.EndTab
import PySem.Challenge.RW_outsoonest_k51_what_is_no_floor
set_option Elab.async false
set_option linter.all false
set_option maxRecDepth 100000
set_option maxHeartbeats 4000000
namespace DL
open PySem L2

abbrev Fg := PySem.W.Frag
abbrev AS := Addr → Prop
abbrev D := PyData

/-! ### how a value reads as data, away from the addresses of O -/
def LsAt (H : Hp) (O : AS) (a : Addr) (xs : List V) : Prop := H a = some (.lst xs) ∧ ¬ O a
def TpAt (K : Fg) (H : Hp) (O : AS) (a : Addr) (xs : List V) : Prop := H a = some (.tup xs) ∧ ¬ O a
/-- dicts: the entries; a dict whose keys are tuples is told by a first entry of its own -/
def kD : L2.Key → D
  | .inl i => .int i
  | .inr x => .str x
def ksD (ks : List L2.Key) : D := .tuple (ks.map kD)
abbrev Es := List (D × D)
def dcD : Bool → Es → D
  | false, es => .dict es
  | true, es => .dict ((.none, .none) :: es)
mutual
inductive RD (K : Fg) (H : Hp) (O : AS) : V → D → Prop
  | non : RD K H O .non .none
  | bl (b : Bool) : RD K H O (.bl b) (.bool b)
  | int (i : Int) : RD K H O (.int i) (.int i)
  | str (x : Str) : RD K H O (.str x) (.str x)
  | lst {a : Addr} {xs : List V} {ds : List D} : LsAt H O a xs → xs.length ≤ sizeLine → RDs K H O xs ds → RD K H O (.ref a) (.list ds)
  | tup {a : Addr} {xs : List V} {ds : List D} : TpAt K H O a xs → xs.length ≤ sizeLine → RDs K H O xs ds → RD K H O (.ref a) (.tuple ds)
  | dck {a : Addr} {kvs : List (L2.Key × V)} {ds : List D} : H a = some (.dK kvs) → ¬ O a → kvs.length ≤ sizeLine → RDs K H O (kvs.map (·.2)) ds → RD K H O (.ref a) (.dict ((kvs.map fun p => kD p.1).zip ds))
  | dct {a : Addr} {kvs : List (List L2.Key × V)} {ds : List D} : H a = some (.dT kvs) → ¬ O a → kvs.length ≤ sizeLine → RDs K H O (kvs.map (·.2)) ds → RD K H O (.ref a) (.dict ((.none, .none) :: (kvs.map fun p => ksD p.1).zip ds))
inductive RDs (K : Fg) (H : Hp) (O : AS) : List V → List D → Prop
  | nil : RDs K H O [] []
  | cons {v : V} {vs : List V} {d : D} {ds : List D} : RD K H O v d → RDs K H O vs ds → RDs K H O (v :: vs) (d :: ds)
end
section
variable {K : Fg} {H H' : Hp} {O O' : AS}
theorem not_grow {a : Addr} {u : HO} (h : H a = some u) (n : ¬ O a) (grow : ∀ a, O' a → O a ∨ H a = none) : ¬ O' a := fun q => by
  rcases grow a q with z | z
  · exact n z
  · rw [z] at h; cases h
theorem LsAt.mono {a : Addr} {xs : List V} (h : LsAt H O a xs) (keep : ∀ a o, H a = some o → ¬ O a → H' a = some o) (grow : ∀ a, O' a → O a ∨ H a = none) : LsAt H' O' a xs := ⟨keep _ _ h.1 h.2, not_grow h.1 h.2 grow⟩
theorem TpAt.mono {a : Addr} {xs : List V} (h : TpAt K H O a xs) (keep : ∀ a o, H a = some o → ¬ O a → H' a = some o) (grow : ∀ a, O' a → O a ∨ H a = none) : TpAt K H' O' a xs := by
  exact ⟨keep _ _ h.1 h.2, not_grow h.1 h.2 grow⟩
mutual
theorem RD.mono (keep : ∀ a o, H a = some o → ¬ O a → H' a = some o) (grow : ∀ a, O' a → O a ∨ H a = none) : ∀ {v : V} {d : D}, RD K H O v d → RD K H' O' v d
  | _, _, .non => .non
  | _, _, .bl b => .bl b
  | _, _, .int i => .int i
  | _, _, .str x => .str x
  | _, _, .lst h l r => .lst (h.mono keep grow) l (RDs.mono keep grow r)
  | _, _, .tup h l r => .tup (h.mono keep grow) l (RDs.mono keep grow r)
  | _, _, .dck h n l r => .dck (keep _ _ h n) (not_grow h n grow) l (RDs.mono keep grow r)
  | _, _, .dct h n l r => .dct (keep _ _ h n) (not_grow h n grow) l (RDs.mono keep grow r)
theorem RDs.mono (keep : ∀ a o, H a = some o → ¬ O a → H' a = some o) (grow : ∀ a, O' a → O a ∨ H a = none) : ∀ {v : List V} {d : List D}, RDs K H O v d → RDs K H' O' v d
  | _, _, .nil => .nil
  | _, _, .cons h r => .cons (RD.mono keep grow h) (RDs.mono keep grow r)
end
theorem LsAt.sq {a : Addr} {xs : List V} (h : LsAt H O a xs) : SqL K H a xs := .inl (.inl h.1)
theorem TpAt.sq {a : Addr} {xs : List V} (h : TpAt K H O a xs) : SqT K H a xs := by
  exact .inl (.inl h.1)
mutual
theorem RD.dp : ∀ {v : V} {d : D}, d.plain = true → RD K H O v d → Dp K H v d
  | _, _, _, .non => .non
  | _, _, _, .bl b => .bl b
  | _, _, _, .int i => .int i
  | _, _, _, .str x => .str x
  | _, _, p, .lst h l r => .lst h.sq (RDs.dp p r)
  | _, _, p, .tup h l r => .tup h.sq (RDs.dp p r)
theorem RDs.dp : ∀ {v : List V} {d : List D}, PyData.plainAll d = true → RDs K H O v d → DpAll K H v d
  | _, _, _, .nil => .nil
  | _, _, p, .cons h r => .cons (RD.dp (Bool.and_eq_true_iff.mp p).1 h) (RDs.dp (Bool.and_eq_true_iff.mp p).2 r)
end
theorem RDs.length : ∀ {vs : List V} {ds : List D}, RDs K H O vs ds → vs.length = ds.length
  | _, _, .nil => rfl
  | _, _, .cons _ r => by rw [List.length_cons, List.length_cons, RDs.length r]
theorem RDs.get : ∀ {vs : List V} {ds : List D} {i : Nat} {d : D}, RDs K H O vs ds → ds[i]? = some d → ∃ v, vs[i]? = some v ∧ RD K H O v d
  | _, _, _, _, .nil, e => by simp at e
  | _, _, 0, _, .cons h _, e => by
    have e' := Option.some.inj (by simpa using e)
    subst e'
    exact ⟨_, rfl, h⟩
  | _, _, i + 1, d, .cons _ r, e => by
    obtain ⟨v, h1, h2⟩ := RDs.get (i := i) (d := d) r (by simpa using e)
    exact ⟨v, by simpa using h1, h2⟩
theorem RDs.get' : ∀ {vs : List V} {ds : List D} {i : Nat} {v : V}, RDs K H O vs ds → vs[i]? = some v → ∃ d, ds[i]? = some d ∧ RD K H O v d
  | _, _, _, _, .nil, e => by simp at e
  | _, _, 0, _, .cons h _, e => by
    have e' := Option.some.inj (by simpa using e)
    subst e'
    exact ⟨_, rfl, h⟩
  | _, _, i + 1, d, .cons _ r, e => by
    obtain ⟨v, h1, h2⟩ := RDs.get' (i := i) (v := d) r (by simpa using e)
    exact ⟨v, by simpa using h1, h2⟩
theorem RDs.append : ∀ {vs ws : List V} {ds es : List D}, RDs K H O vs ds → RDs K H O ws es → RDs K H O (vs ++ ws) (ds ++ es)
  | _, _, _, _, .nil, s => s
  | _, _, _, _, .cons h r, s => .cons h (RDs.append r s)
theorem RDs.take : ∀ {vs : List V} {ds : List D} (n : Nat), RDs K H O vs ds → RDs K H O (vs.take n) (ds.take n)
  | _, _, 0, _ => .nil
  | _, _, _ + 1, .nil => .nil
  | _, _, n + 1, .cons h r => .cons h (RDs.take n r)
theorem RDs.drop : ∀ {vs : List V} {ds : List D} (n : Nat), RDs K H O vs ds → RDs K H O (vs.drop n) (ds.drop n)
  | _, _, 0, r => r
  | _, _, _ + 1, .nil => .nil
  | _, _, n + 1, .cons _ r => RDs.drop n r
theorem RDs.set {v : V} {d : D} (h : RD K H O v d) : ∀ {vs : List V} {ds : List D} (n : Nat), RDs K H O vs ds → RDs K H O (vs.set n v) (ds.set n d)
  | _, _, _, .nil => .nil
  | _, _, 0, .cons _ r => .cons h r
  | _, _, n + 1, .cons g r => .cons g (RDs.set h n r)
theorem RDs.one {v : V} {d : D} (h : RD K H O v d) : RDs K H O [v] [d] := .cons h .nil
end

/-! ### what a piece of code comes to -/
inductive Sl where
  | no
  | fz (d : D)
  | ow (ds : List D)
  | od (t : Bool) (es : Es)
  | bx
  | sq (ns : List Int)
  | er (c : Str) (d : D)
  | fu (x : Str)
structure En where
  sl : List Sl
  bx : Int × Int
inductive Rs (α : Type) where
  | ok (a : α)
  | ex (c : Str) (d : D) (en : En)
  | bad
@[reducible] def Rs.bind {α β : Type} (x : Rs α) (f : α → Rs β) : Rs β := match x with
  | .ok a => f a
  | .ex c d en => .ex c d en
  | .bad => .bad
instance : Monad Rs where
  pure := Rs.ok
  bind := Rs.bind
theorem ok_bind {α β : Type} (a : α) (f : α → Rs β) : (Rs.ok a >>= f) = f a := rfl
theorem bad_bind {α β : Type} (f : α → Rs β) : ((Rs.bad : Rs α) >>= f) = Rs.bad := rfl
theorem ex_bind {α β : Type} (c : Str) (d : D) (en : En) (f : α → Rs β) : ((Rs.ex c d en : Rs α) >>= f) = Rs.ex c d en := rfl
def Post {α : Type} (P : α → Prop) (E : Str → D → En → Prop) : Rs α → Prop
  | .ok a => P a
  | .ex c d en => E c d en
  | .bad => False
theorem post_bind {α β : Type} {P : β → Prop} {E : Str → D → En → Prop} {x : Rs α} {f : α → Rs β} : Post P E (x >>= f) ↔ Post (fun a => Post P E (f a)) E x := by
  cases x <;> exact Iff.rfl
theorem Post.imp {α : Type} {P P' : α → Prop} {E E' : Str → D → En → Prop} {x : Rs α} (h : Post P E x) (hp : ∀ a, P a → P' a) (he : ∀ c d en, E c d en → E' c d en) : Post P' E' x := by
  cases x with
  | ok a => exact hp a h
  | ex c d en => exact he c d en h
  | bad => exact h
abbrev DEn := En → Rs (D × En)
abbrev DTt := En → Rs (Bool × En)
abbrev DAs := En → Rs (List D × En)
inductive Out where
  | nx (en : En)
  | rt (d : D) (en : En)
  | rn (ds : List D) (en : En)
  | bk (en : En)
  | ct (en : En)
abbrev DSt := En → Rs Out

/-! ### the ghost of a body: the written part, what callers own, whether a box is made here; the classes of errors -/
structure Gh where
  K : Fg
  Out : AS
  top : Bool
  /-- of an error's class: its value, the name of its field -/
  cls : Str → Option (Value × Str)
  /-- the tables of code objects, with the names of what is made there -/
  T : List (Addr × Str)
  /-- the error at hand, within an except suite -/
  hot : Option (Addr × Value × Option Addr)
abbrev gh (K : Fg) (O : AS) (top : Bool) (cls : Str → Option (Value × Str)) (T : List (Addr × Str)) : Gh := ⟨K, O, top, cls, T, none⟩
/-- the tables are there, and this body may write them -/
def TOk (T : List (Addr × Str)) (H : Hp) (M : AS) : Prop := ∀ q ∈ T, M q.1 ∧ LamX.TabS H q.1 q.2
theorem tabS_keep {H H' : Hp} {P : Addr} {q : Str} (t : LamX.TabS H P q) (k : ∀ a o, H a = some o → (∀ xs, o ≠ .lst xs) → H' a = some o) : LamX.TabS H' P q := by
  obtain ⟨ps, h1, h2, h3⟩ := t
  refine ⟨ps, k _ _ h1 (fun _ z => nomatch z), h2, fun pos cv hc => ?_⟩
  obtain ⟨c, e1, e2⟩ := h3 pos cv hc
  exact ⟨c, e1, k _ _ e2 fun xs z => by unfold LamX.CodeO at z; cases z⟩
theorem tabS_at {H : Hp} {P : Addr} {q : Str} (t : LamX.TabS H P q) : ∃ ps, H P = some (.tbl ps) := let ⟨ps, h, _⟩ := t; ⟨ps, h⟩
theorem TOk.ne {T : List (Addr × Str)} {H : Hp} {M : AS} {p : Addr} {o : HO} (t : TOk T H M) (h : H p = some o) (n : ∀ ps, o ≠ .tbl ps) : ∀ q ∈ T, q.1 ≠ p := fun q hq z => by
  obtain ⟨ps, e⟩ := tabS_at (t q hq).2
  rw [z, h] at e
  exact n ps (Option.some.inj e)
theorem TOk.ext {T : List (Addr × Str)} {H H' : Hp} {M M' : AS} (t : TOk T H M) (e : ∀ a o, H a = some o → H' a = some o) (m : ∀ q ∈ T, M q.1 → M' q.1) : TOk T H' M' := fun q hq => ⟨m q hq (t q hq).1, (t q hq).2.ext e⟩
theorem TOk.write {T : List (Addr × Str)} {H : Hp} {M M' : AS} {p : Addr} {xs : List V} {o : HO} (t : TOk T H M) (h : H p = some (.lst xs)) (m : ∀ q ∈ T, M q.1 → M' q.1) : TOk T (upd H p o) M' := fun q hq => ⟨m q hq (t q hq).1, tabS_keep (t q hq).2 fun a u ha n => by rw [upd_ne fun z => by rw [z, h] at ha; exact n xs (Option.some.inj ha).symm]; exact ha⟩
def av (G : Gh) (M : AS) : AS := fun a => M a ∨ G.Out a
/-- the law's own script: a list of whole numbers that may be any object there is -/
def SqOk (K : Fg) (H : Hp) (O : AS) (a : Addr) (ns : List Int) : Prop := (Rd H a (.lst (ns.map V.int)) ∧ ¬ O a) ∨ ((∀ H' : Hp, SqL K H' a (ns.map V.int)))
theorem SqOk.sq {K : Fg} {H : Hp} {O : AS} {a : Addr} {ns : List Int} (h : SqOk K H O a ns) : SqL K H a (ns.map V.int) := h.elim (fun z => .inl z.1) fun z => z H
theorem SqOk.mono {K : Fg} {H H' : Hp} {O O' : AS} {a : Addr} {ns : List Int} (h : SqOk K H O a ns) (keep : ∀ a o, H a = some o → ¬ O a → H' a = some o) (grow : ∀ a, O' a → O a ∨ H a = none) : SqOk K H' O' a ns := by
  rcases h with ⟨h | ⟨o, h⟩, n⟩ | h
  · exact .inl ⟨.inl (keep _ _ h n), not_grow h n grow⟩
  · exact .inl ⟨.inr ⟨o, keep _ _ h n⟩, not_grow h n grow⟩
  · exact .inr h
def OdAt (K : Fg) (H : Hp) (O : AS) (p : Addr) : Bool → Es → Prop
  | false, es => ∃ (kvs : List (L2.Key × V)) (ds : List D), H p = some (.dK kvs) ∧ kvs.length ≤ sizeLine ∧ RDs K H O (kvs.map (·.2)) ds ∧ es = (kvs.map fun p => kD p.1).zip ds
  | true, es => ∃ (kvs : List (List L2.Key × V)) (ds : List D), H p = some (.dT kvs) ∧ kvs.length ≤ sizeLine ∧ RDs K H O (kvs.map (·.2)) ds ∧ es = (kvs.map fun p => ksD p.1).zip ds
theorem OdAt.mono {K : Fg} {H H' : Hp} {O O' : AS} {p : Addr} {t : Bool} {es : Es} (h : OdAt K H O p t es) (k : ∀ o, H p = some o → H' p = some o) (keep : ∀ a o, H a = some o → ¬ O a → H' a = some o) (grow : ∀ a, O' a → O a ∨ H a = none) : OdAt K H' O' p t es := by
  cases t with
  | false => obtain ⟨kvs, ds, h1, h2, h3, h4⟩ := h; exact ⟨kvs, ds, k _ h1, h2, h3.mono keep grow, h4⟩
  | true => obtain ⟨kvs, ds, h1, h2, h3, h4⟩ := h; exact ⟨kvs, ds, k _ h1, h2, h3.mono keep grow, h4⟩
theorem OdAt.at_ {K : Fg} {H : Hp} {O : AS} {p : Addr} {t : Bool} {es : Es} (h : OdAt K H O p t es) : ∃ u, H p = some u ∧ (∀ xs, u ≠ .lst xs) ∧ (∀ ps, u ≠ .tbl ps) ∧ ∀ φ, u ≠ .ext φ := by
  cases t with
  | false => obtain ⟨kvs, ds, h1, _⟩ := h; exact ⟨_, h1, fun _ z => (nomatch z), fun _ z => (nomatch z), fun _ z => (nomatch z)⟩
  | true => obtain ⟨kvs, ds, h1, _⟩ := h; exact ⟨_, h1, fun _ z => (nomatch z), fun _ z => (nomatch z), fun _ z => (nomatch z)⟩
theorem OdAt.nlst {K : Fg} {H : Hp} {O : AS} {p : Addr} {t : Bool} {es : Es} {xs : List V} (h : OdAt K H O p t es) : H p ≠ some (.lst xs) := fun z => by
  obtain ⟨u, h1, h2, _⟩ := h.at_
  rw [z] at h1
  exact h2 xs (Option.some.inj h1).symm
theorem OdAt.rd {K : Fg} {H : Hp} {O : AS} {p : Addr} {t : Bool} {es : Es} (h : OdAt K H O p t es) (n : ¬ O p) : RD K H O (.ref p) (dcD t es) := by
  cases t with
  | false => obtain ⟨kvs, ds, h1, h2, h3, rfl⟩ := h; exact .dck h1 n h2 h3
  | true => obtain ⟨kvs, ds, h1, h2, h3, rfl⟩ := h; exact .dct h1 n h2 h3
def SlOk (G : Gh) (σ : L2.St) (H : Hp) (M : AS) (B : Option Addr) (i : Nat) : Sl → Prop
  | .no => True
  | .fz d => ∃ v, σ[i]? = some (some v) ∧ RD G.K H (av G M) v d
  | .ow ds => ∃ p xs, σ[i]? = some (some (.ref p)) ∧ M p ∧ H p = some (.lst xs) ∧ xs.length ≤ sizeLine ∧ RDs G.K H (av G M) xs ds
  | .od t es => ∃ p, σ[i]? = some (some (.ref p)) ∧ M p ∧ OdAt G.K H (av G M) p t es
  | .bx => ∃ p, B = some p ∧ σ[i]? = some (some (.ref p))
  | .sq ns => ∃ a, σ[i]? = some (some (.ref a)) ∧ SqOk G.K H (av G M) a ns
  | .er c d => ∃ a cls dd f b fs v, G.hot = some (a, cls, dd) ∧ σ[i]? = some (some (.ref a)) ∧ G.cls c = some (cls, f) ∧ dd = some b ∧ H b = some (.xd fs) ∧ ¬ av G M b ∧ fs.lookup f = some v ∧ RD G.K H (av G M) v d
  | .fu x => ∃ f, σ[i]? = some (some (.ref f)) ∧ PySem.W.nsIn G.K mainGlobals x = some (some (.ref f))
/-- slots that own what they name -/
def isO : Sl → Bool
  | .ow _ => true
  | .od _ _ => true
  | _ => false
def slD : Sl → D
  | .ow ds => .list ds
  | .od t es => dcD t es
  | _ => .none
structure Rel (G : Gh) (en : En) (σ : L2.St) (H : Hp) (M : AS) (B : Option Addr) : Prop where
  len : σ.length = en.sl.length
  slot : ∀ i s, en.sl[i]? = some s → SlOk G σ H M B i s
  injo : ∀ (i j : Nat) (p : Addr) (s s' : Sl), i ≠ j → en.sl[i]? = some s → en.sl[j]? = some s' → isO s = true → isO s' = true → σ[i]? = some (some (V.ref p)) → σ[j]? = some (some (V.ref p)) → False
  box : ∀ p, B = some p → M p ∧ H p = some (.lst [.int en.bx.1, .int en.bx.2])
  bne : ∀ (p : Addr) (i : Nat) (ds : List D), B = some p → en.sl[i]? = some (Sl.ow ds) → σ[i]? = some (some (V.ref p)) → False
  out : ∀ a, G.Out a → H a ≠ none ∧ ¬ M a
  mh : ∀ a, M a → H a ≠ none
  tab : TOk G.T H M
theorem Rel.inj {G : Gh} {en : En} {σ : L2.St} {H : Hp} {M : AS} {B : Option Addr} (r : Rel G en σ H M B) (i j : Nat) (p : Addr) (ds es : List D) (n : i ≠ j) (h1 : en.sl[i]? = some (Sl.ow ds)) (h2 : en.sl[j]? = some (Sl.ow es)) (h3 : σ[i]? = some (some (V.ref p))) (h4 : σ[j]? = some (some (V.ref p))) : False := r.injo i j p _ _ n h1 h2 rfl rfl h3 h4
theorem Rel.owns {G : Gh} {en : En} {σ : L2.St} {H : Hp} {M : AS} {B : Option Addr} {i : Nat} {s : Sl} (r : Rel G en σ H M B) (h : en.sl[i]? = some s) (o : isO s = true) : ∃ p u, σ[i]? = some (some (.ref p)) ∧ M p ∧ H p = some u ∧ (∀ ps, u ≠ .tbl ps) ∧ B ≠ some p := by
  have q := r.slot i s h
  cases s with
  | ow ds =>
    obtain ⟨p, xs, h1, h2, h3, _⟩ := q
    exact ⟨p, _, h1, h2, h3, fun _ z => (nomatch z), fun z => r.bne p i ds z h h1⟩
  | od t es =>
    obtain ⟨p, h1, h2, h3⟩ := q
    obtain ⟨u, h4, h5, h6, _⟩ := h3.at_
    exact ⟨p, u, h1, h2, h4, h6, fun z => h3.nlst (r.box p z).2⟩
  | no => cases o
  | fz d => cases o
  | sq ns => cases o
  | fu x => cases o
  | bx => cases o
  | er c d => cases o
structure Step (H : Hp) (M : AS) (H' : Hp) (M' : AS) : Prop where
  keep : ∀ a o, H a = some o → ¬ M a → H' a = some o
  grow : ∀ a, M' a → M a ∨ H a = none
theorem Step.refl {H : Hp} {M : AS} : Step H M H M := ⟨fun _ _ h _ => h, fun _ h => .inl h⟩
theorem Step.trans {H H1 H2 : Hp} {M M1 M2 : AS} (a : Step H M H1 M1) (b : Step H1 M1 H2 M2) : Step H M H2 M2 := by
  refine ⟨fun c o h n => b.keep c o (a.keep c o h n) fun q => ?_, fun c h => ?_⟩
  · rcases a.grow c q with z | z
    · exact n z
    · rw [h] at z; cases z
  · rcases b.grow c h with z | z
    · exact a.grow c z
    · by_cases hm : M c
      · exact .inl hm
      · cases e : H c with
        | none => exact .inr rfl
        | some o =>
          rw [a.keep c o e hm] at z
          cases z
theorem Step.ext {H H' : Hp} {M : AS} (e : ∀ a o, H a = some o → H' a = some o) : Step H M H' M := ⟨fun a o h _ => e a o h, fun _ h => .inl h⟩
theorem Step.akeep {G : Gh} {H H' : Hp} {M M' : AS} (s : Step H M H' M') : ∀ a o, H a = some o → ¬ av G M a → H' a = some o := fun a o h n => s.keep a o h fun q => n (.inl q)
theorem Step.agrow {G : Gh} {H H' : Hp} {M M' : AS} (s : Step H M H' M') : ∀ a, av G M' a → av G M a ∨ H a = none := fun a h => by
  rcases h with h | h
  · rcases s.grow a h with z | z
    · exact .inl (.inl z)
    · exact .inr z
  · exact .inl (.inr h)
theorem RD.step {G : Gh} {H H' : Hp} {M M' : AS} {v : V} {d : D} (r : RD G.K H (av G M) v d) (s : Step H M H' M') : RD G.K H' (av G M') v d := r.mono s.akeep s.agrow
theorem SqOk.step {G : Gh} {H H' : Hp} {M M' : AS} {a : Addr} {ns : List Int} (r : SqOk G.K H (av G M) a ns) (s : Step H M H' M') : SqOk G.K H' (av G M') a ns := r.mono s.akeep s.agrow
theorem RDs.step {G : Gh} {H H' : Hp} {M M' : AS} {v : List V} {d : List D} (r : RDs G.K H (av G M) v d) (s : Step H M H' M') : RDs G.K H' (av G M') v d := r.mono s.akeep s.agrow
theorem OdAt.step {G : Gh} {H H' : Hp} {M M' : AS} {p : Addr} {t : Bool} {es : Es} (h : OdAt G.K H (av G M) p t es) (s : Step H M H' M') (k : ∀ o, H p = some o → H' p = some o) : OdAt G.K H' (av G M') p t es := h.mono k s.akeep s.agrow
theorem erOk_step {G : Gh} {σ : L2.St} {H H' : Hp} {M M' : AS} {B B' : Option Addr} {i : Nat} {c : Str} {d : D} (q : SlOk G σ H M B i (.er c d)) (s : Step H M H' M') : SlOk G σ H' M' B' i (.er c d) := by
  obtain ⟨a, cls, dd, f, b, fs, v, h0, h1, h2, h3, h4, h5, h6, h7⟩ := q
  exact ⟨a, cls, dd, f, b, fs, v, h0, h1, h2, h3, s.keep b _ h4 fun z => h5 (.inl z), not_grow h4 h5 s.agrow, h6, h7.step s⟩
theorem erOk_σ {G : Gh} {σ σ' : L2.St} {H : Hp} {M : AS} {B B' : Option Addr} {i : Nat} {c : Str} {d : D} (q : SlOk G σ H M B i (.er c d)) (s : σ'[i]? = σ[i]?) : SlOk G σ' H M B' i (.er c d) := by
  obtain ⟨a, cls, dd, f, b, fs, v, h0, h1, h2, h3, h4, h5, h6, h7⟩ := q
  exact ⟨a, cls, dd, f, b, fs, v, h0, by rw [s]; exact h1, h2, h3, h4, h5, h6, h7⟩
abbrev Ext (H H' : Hp) : Prop := ∀ a o, H a = some o → H' a = some o
theorem ext_new {H : Hp} {p : Addr} {o : HO} (h : H p = none) : Ext H (upd H p o) := fun a u e => by
  rw [upd_ne (ne_of_none e h)]; exact e
theorem RD.ext {K : Fg} {O : AS} {H H' : Hp} {v : V} {d : D} (r : RD K H O v d) (e : Ext H H') : RD K H' O v d := r.mono (fun a o h _ => e a o h) fun _ h => .inl h
theorem RDs.ext {K : Fg} {O : AS} {H H' : Hp} {v : List V} {d : List D} (r : RDs K H O v d) (e : Ext H H') : RDs K H' O v d := r.mono (fun a o h _ => e a o h) fun _ h => .inl h
theorem out_step {G : Gh} {H H' : Hp} {M M' : AS} (out : ∀ a, G.Out a → H a ≠ none ∧ ¬ M a) (s : Step H M H' M') : ∀ a, G.Out a → H' a ≠ none ∧ ¬ M' a := fun a h => by
  obtain ⟨h1, h2⟩ := out a h
  cases e : H a with
  | none => exact absurd e h1
  | some o =>
    refine ⟨fun q => ?_, fun q => ?_⟩
    · rw [s.keep a o e h2] at q
      cases q
    rcases s.grow a q with z | z
    · exact h2 z
    · rw [e] at z; cases z
theorem Rel.ext {G : Gh} {en : En} {σ : L2.St} {H H' : Hp} {M : AS} {B : Option Addr} (r : Rel G en σ H M B) (e : Ext H H') : Rel G en σ H' M B := by
  have st : Step H M H' M := Step.ext e
  refine ⟨r.len, fun i s h => ?_, r.injo, fun p h => ⟨(r.box p h).1, e _ _ (r.box p h).2⟩, r.bne, out_step r.out st, fun a h q => ?_, r.tab.ext e fun _ _ z => z⟩
  rotate_left
  · cases z : H a with
    | none => exact r.mh a h z
    | some o => rw [e a o z] at q; cases q
  have q := r.slot i s h
  cases s with
  | no => trivial
  | fz d => obtain ⟨v, h1, h2⟩ := q; exact ⟨v, h1, h2.step st⟩
  | sq ns => obtain ⟨v, h1, h2⟩ := q; exact ⟨v, h1, h2.step st⟩
  | fu x => exact q
  | ow ds => obtain ⟨p, xs, h1, h2, h3, h4, h5⟩ := q; exact ⟨p, xs, h1, h2, e _ _ h3, h4, h5.step st⟩
  | od t es => obtain ⟨p, h1, h2, h3⟩ := q; exact ⟨p, h1, h2, h3.step st (e _)⟩
  | bx => exact q
  | er c d => exact erOk_step q st
theorem Rel.avh {G : Gh} {en : En} {σ : L2.St} {H : Hp} {M : AS} {B : Option Addr} (r : Rel G en σ H M B) : ∀ a, av G M a → H a ≠ none := fun a h => h.elim (r.mh a) fun q => (r.out a q).1
/-- an error that flies: its class, its own dict with the field -/
def XO (G : Gh) (H : Hp) (M : AS) (cls : Value) (dd : Option Addr) (c : Str) (d : D) : Prop :=
  ∃ (f : Str) (a : Addr) (fs : List (Str × V)) (v : V), G.cls c = some (cls, f) ∧ dd = some a ∧ H a = some (.xd fs) ∧ ¬ av G M a ∧ fs.lookup f = some v ∧ RD G.K H (av G M) v d
/-- what is wished for where an error leaves -/
def EW (G : Gh) (W : WX) (σ : L2.St) (H : Hp) (M : AS) (B : Option Addr) (c : Str) (d : D) (en : En) : Prop :=
  ∀ cls dd H' M', Rel G en σ H' M' B → Step H M H' M' → XO G H' M' cls dd c d → W cls dd σ H'
theorem EW.step {G : Gh} {W : WX} {σ : L2.St} {H H1 : Hp} {M M1 : AS} {B : Option Addr} {c : Str} {d : D} {en : En} (h : EW G W σ H M B c d en) (s : Step H M H1 M1) : EW G W σ H1 M1 B c d en :=
  fun cls dd H' M' r s' x => h cls dd H' M' r (s.trans s') x
def tE (G : Gh) (W : WX) (A : DEn) : TE := fun σ H Q => ∃ en M B, Rel G en σ H M B ∧
  Post (fun p => ∀ v H' M', Rel G p.2 σ H' M' B → Step H M H' M' → RD G.K H' (av G M') v p.1 → Q v H') (EW G W σ H M B) (A en)
def tT (G : Gh) (W : WX) (A : DTt) : TT := fun σ H Q => ∃ en M B, Rel G en σ H M B ∧
  Post (fun p => ∀ H' M', Rel G p.2 σ H' M' B → Step H M H' M' → Q p.1 H') (EW G W σ H M B) (A en)
def tA (G : Gh) (W : WX) (A : DAs) : TA := fun σ H Q => ∃ en M B, Rel G en σ H M B ∧
  Post (fun p => ∀ vs H' M', Rel G p.2 σ H' M' B → Step H M H' M' → RDs G.K H' (av G M') vs p.1 → Q vs H') (EW G W σ H M B) (A en)
structure OwnV (G : Gh) (en : En) (σ : L2.St) (H : Hp) (M : AS) (B : Option Addr) (p : Addr) (ys : List V) (zs : List D) : Prop where
  own : M p
  at_ : H p = some (.lst ys)
  len : ys.length ≤ sizeLine
  rds : RDs G.K H (av G M) ys zs
  ne : ∀ (i : Nat) (ds : List D), en.sl[i]? = some (Sl.ow ds) → σ[i]? = some (some (V.ref p)) → False
  nb : B ≠ some p
def OutOk (G : Gh) (Ds : Ends) (H : Hp) (M : AS) (B : Option Addr) : Out → Prop
  | .nx en => ∀ σ' H' M' B', Rel G en σ' H' M' B' → Step H M H' M' → (G.top = false → B' = B) → Ds.nx σ' H'
  | .rt d en => ∀ v σ' H' M' B', Rel G en σ' H' M' B' → Step H M H' M' → (G.top = false → B' = B) → RD G.K H' (av G M') v d → Ds.rt v H'
  | .rn ds en => ∀ p ys σ' H' M' B', Rel G en σ' H' M' B' → Step H M H' M' → (G.top = false → B' = B) → OwnV G en σ' H' M' B' p ys ds → Ds.rt (.ref p) H'
  | .bk en => ∀ σ' H' M' B', Rel G en σ' H' M' B' → Step H M H' M' → (G.top = false → B' = B) → Ds.bk σ' H'
  | .ct en => ∀ σ' H' M' B', Rel G en σ' H' M' B' → Step H M H' M' → (G.top = false → B' = B) → Ds.ct σ' H'
def EWS (G : Gh) (W : WX) (H : Hp) (M : AS) (B : Option Addr) (c : Str) (d : D) (en : En) : Prop :=
  ∀ cls dd σ' H' M' B', Rel G en σ' H' M' B' → Step H M H' M' → (G.top = false → B' = B) → XO G H' M' cls dd c d → W cls dd σ' H'
def tS (G : Gh) (W : WX) (A : DSt) : TS := fun Ds σ H => ∃ en M B, Rel G en σ H M B ∧ Post (OutOk G Ds H M B) (EWS G W H M B) (A en)

structure DE (X : Cx) (G : Gh) (W : WX) (e : Expr) (A : DEn) : Prop where pe : PE X e (tE G W A)
structure DT (X : Cx) (G : Gh) (W : WX) (e : Expr) (A : DTt) : Prop where pt : PT X e (tT G W A)
structure DW (X : Cx) (G : Gh) (W : WX) (e : Expr) (A : DTt) : Prop where pw : PW X e (tT G W A)
structure DA (X : Cx) (G : Gh) (W : WX) (es : List Expr) (A : DAs) : Prop where pa : PA X es (tA G W A)
structure DS (X : Cx) (G : Gh) (W : WX) (st : Stmt) (A : DSt) : Prop where ps : PS X st (tS G W A)
structure DSs (X : Cx) (G : Gh) (W : WX) (st : List Stmt) (A : DSt) : Prop where pss : PSs X st (tS G W A)
theorem pe_imp {X : Cx} {e : Expr} {t t' : TE} (h : PE X e t) (i : ∀ σ H Q, t' σ H Q → t σ H Q) : PE X e t' := ⟨fun pins s σ H Q I q => h.run pins s σ H Q I (i σ H Q q)⟩
theorem pt_imp {X : Cx} {e : Expr} {t t' : TT} (h : PT X e t) (i : ∀ σ H Q, t' σ H Q → t σ H Q) : PT X e t' := ⟨fun pins s σ H Q I q => h.run pins s σ H Q I (i σ H Q q)⟩
theorem pw_imp {X : Cx} {e : Expr} {t t' : TT} (h : PW X e t) (i : ∀ σ H Q, t' σ H Q → t σ H Q) : PW X e t' := ⟨fun wh pins s σ H Q I q => h.run wh pins s σ H Q I (i σ H Q q)⟩
theorem pa_imp {X : Cx} {e : List Expr} {t t' : TA} (h : PA X e t) (i : ∀ σ H Q, t' σ H Q → t σ H Q) : PA X e t' := ⟨fun pos pins s σ H Q I q => h.run pos pins s σ H Q I (i σ H Q q)⟩
theorem ps_imp {X : Cx} {e : Stmt} {t t' : TS} (h : PS X e t) (i : ∀ Q σ H, t' Q σ H → t Q σ H) : PS X e t' := ⟨fun pins s σ H Q I q => h.run pins s σ H Q I (i Q σ H q)⟩
theorem pss_imp {X : Cx} {e : List Stmt} {t t' : TS} (h : PSs X e t) (i : ∀ Q σ H, t' Q σ H → t Q σ H) : PSs X e t' := ⟨fun pins s σ H Q I q => h.run pins s σ H Q I (i Q σ H q)⟩
end DL

namespace DL
open PySem L2

/-! ### names -/
def liftO {α : Type} : Option α → Rs α
  | some a => .ok a
  | none => .bad
theorem post_lift {α β : Type} {P : β → Prop} {E : Str → D → En → Prop} {o : Option α} {g : α → Rs β} : Post P E (liftO o >>= g) ↔ ∃ z, o = some z ∧ Post P E (g z) := by
  cases o with
  | none => exact ⟨fun h => h.elim, fun ⟨_, h, _⟩ => nomatch h⟩
  | some a => exact ⟨fun h => ⟨a, rfl, h⟩, fun ⟨z, h, q⟩ => by cases h; exact q⟩
def eVar (i : Nat) : DEn := fun en => match en.sl[i]? with
  | some (.fz d) => .ok (d, en)
  | some (.ow ds) => .ok (.list ds, { en with sl := en.sl.set i (.fz (.list ds)) })
  | some (.od t es) => .ok (dcD t es, { en with sl := en.sl.set i (.fz (dcD t es)) })
  | _ => .bad
/-- what is owned is let go: from now on it stands -/
theorem Rel.letGo {G : Gh} {en : En} {σ : L2.St} {H : Hp} {M : AS} {B : Option Addr} {i : Nat} {s : Sl} (r : Rel G en σ H M B) (h : en.sl[i]? = some s) (o : isO s = true) :
    ∃ M' p, σ[i]? = some (some (V.ref p)) ∧ Rel G { en with sl := en.sl.set i (.fz (slD s)) } σ H M' B ∧ Step H M H M' ∧ RD G.K H (av G M') (.ref p) (slD s) := by
  have hi : i < en.sl.length := (List.getElem?_eq_some_iff.mp h).1
  obtain ⟨p', u, h1, h2, h3, hu, hB⟩ := r.owns h o
  have st : Step H M H (fun a => M a ∧ a ≠ p') := ⟨fun _ _ h _ => h, fun a h => .inl h.1⟩
  have nO : ¬ av G (fun a => M a ∧ a ≠ p') p' := fun q => by
    rcases q with q | q
    · exact q.2 rfl
    · exact (r.out p' q).2 h2
  have rd : RD G.K H (av G fun a => M a ∧ a ≠ p') (.ref p') (slD s) := by
    have q := r.slot i s h
    cases s with
    | ow ds =>
      obtain ⟨p, xs, q1, q2, q3, q4, q5⟩ := q
      rw [h1] at q1
      cases q1
      exact .lst ⟨q3, nO⟩ q4 (q5.step st)
    | od t es =>
      obtain ⟨p, q1, q2, q3⟩ := q
      rw [h1] at q1
      cases q1
      exact (q3.step st fun _ z => z).rd nO
    | no => cases o
    | fz d => cases o
    | sq ns => cases o
    | fu x => cases o
    | bx => cases o
    | er c d => cases o
  have same : ({ en with sl := en.sl.set i (Sl.fz (slD s)) } : En).sl[i]? = some (.fz (slD s)) := List.getElem?_set_self hi
  have other : ∀ {j : Nat}, j ≠ i → ({ en with sl := en.sl.set i (Sl.fz (slD s)) } : En).sl[j]? = en.sl[j]? := fun {j} c => List.getElem?_set_ne (Ne.symm c)
  have own : ∀ {j : Nat} {s' : Sl}, ({ en with sl := en.sl.set i (Sl.fz (slD s)) } : En).sl[j]? = some s' → isO s' = true → j ≠ i := fun {j s'} hj o' z => by
    subst z
    rw [same] at hj
    cases hj
    cases o'
  refine ⟨fun a => M a ∧ a ≠ p', p', h1, ⟨by rw [r.len]; simp, fun j s' hj => ?_, fun j k p s1 s2 hne hj hk o1 o2 => ?_, fun p hb => ⟨⟨(r.box p hb).1, fun q => ?_⟩, (r.box p hb).2⟩, fun p j ds hb hj => ?_, out_step r.out st, fun a h => r.mh a h.1, fun q hq => ⟨⟨(r.tab q hq).1, r.tab.ne h3 hu q hq⟩, (r.tab q hq).2⟩⟩, st, rd⟩
  · by_cases hji : j = i
    · subst hji
      rw [same] at hj
      cases hj
      exact ⟨_, h1, rd⟩
    · rw [other hji] at hj
      have q := r.slot j s' hj
      cases s' with
      | no => trivial
      | fz d => obtain ⟨v, q1, q2⟩ := q; exact ⟨v, q1, q2.step st⟩
      | sq ns => obtain ⟨v, q1, q2⟩ := q; exact ⟨v, q1, q2.step st⟩
      | fu x => exact q
      | ow es =>
        obtain ⟨p, ys, q1, q2, q3, q4, q5⟩ := q
        refine ⟨p, ys, q1, ⟨q2, fun z => ?_⟩, q3, q4, q5.step st⟩
        subst z
        exact r.injo j i p _ _ hji hj h rfl o q1 h1
      | od t es =>
        obtain ⟨p, q1, q2, q3⟩ := q
        refine ⟨p, q1, ⟨q2, fun z => ?_⟩, q3.step st fun _ z => z⟩
        subst z
        exact r.injo j i p _ _ hji hj h rfl o q1 h1
      | bx => exact q
      | er c d => exact erOk_step q st
  · have cj := own hj o1
    have ck := own hk o2
    rw [other cj] at hj
    rw [other ck] at hk
    exact r.injo j k p _ _ hne hj hk o1 o2
  · subst q
    exact hB hb
  · have cj := own hj rfl
    rw [other cj] at hj
    exact r.bne p j ds hb hj
theorem Rel.freeze {G : Gh} {en : En} {σ : L2.St} {H : Hp} {M : AS} {B : Option Addr} {i : Nat} {ds : List D} {p : Addr} (r : Rel G en σ H M B) (h : en.sl[i]? = some (Sl.ow ds)) (hp : σ[i]? = some (some (V.ref p))) :
    ∃ M', Rel G { en with sl := en.sl.set i (.fz (.list ds)) } σ H M' B ∧ Step H M H M' ∧ RD G.K H (av G M') (.ref p) (.list ds) := by
  obtain ⟨M', q, h1, h2, h3, h4⟩ := r.letGo h rfl
  rw [hp] at h1
  cases h1
  exact ⟨M', h2, h3, h4⟩

section
variable {X : Cx} {G : Gh} {W : WX} {pos : Pos}
theorem eVar_post {σ : L2.St} {H : Hp} {M : AS} {B : Option Addr} {en : En} {i : Nat} {P : D × En → Prop} {E : Str → D → En → Prop} (r : Rel G en σ H M B) (m : Post P E (eVar i en)) :
    ∃ v d en' M', σ[i]? = some (some v) ∧ P (d, en') ∧ Rel G en' σ H M' B ∧ Step H M H M' ∧ RD G.K H (av G M') v d := by
  unfold eVar at m
  cases e : en.sl[i]? with
  | none => rw [e] at m; exact m.elim
  | some s =>
    rw [e] at m
    cases s with
    | no => exact m.elim
    | sq ns => exact m.elim
    | fu x => exact m.elim
    | bx => exact m.elim
    | er c d => exact m.elim
    | fz d =>
      obtain ⟨v, h1, h2⟩ := r.slot i _ e
      exact ⟨v, d, en, M, h1, m, r, .refl, h2⟩
    | ow ds =>
      obtain ⟨p, xs, h1, h2, h3, h4, h5⟩ := r.slot i _ e
      obtain ⟨M', r', st, rd⟩ := r.freeze e h1
      exact ⟨_, _, _, M', h1, m, r', st, rd⟩
    | od t es =>
      obtain ⟨M', p, h1, r', st, rd⟩ := r.letGo e rfl
      exact ⟨_, _, _, M', h1, m, r', st, rd⟩
theorem de_var (i : Nat) {x : Str} (hN : X.N[i]? = some x) (hv : Vis X.env.scope x) (hd : (x == ("__debug__" : Str)) = false := by decide) (hcd : (x == ("__classdict__" : Str)) = false := by decide) : DE X G W (.Name x pos) (eVar i) :=
  ⟨pe_imp (pe_var hN hv hd hcd) fun σ H Q ⟨en, M, B, r, m⟩ => by
    obtain ⟨v, d, en', M', h1, h2, h3, h4, h5⟩ := eVar_post r m
    exact ⟨v, h1, h2 v H M' h3 h4 h5⟩⟩
/-! ### constants -/
def eC (d : D) : DEn := fun en => .ok (d, en)
theorem de_tC {e : Expr} {v : V} {d : D} (h : PE X e (tC v)) (hd : ∀ K H O, RD K H O v d) : DE X G W e (eC d) :=
  ⟨pe_imp h fun σ H Q ⟨en, M, B, r, m⟩ => m v H M r .refl (hd _ _ _)⟩
theorem de_int {i : Int} {j} : DE X G W (.Constant (.int i) j pos) (eC (.int i)) := de_tC pe_int fun _ _ _ => .int i
theorem de_bl {b : Bool} {j} : DE X G W (.Constant (.bool b) j pos) (eC (.bool b)) := de_tC pe_bl fun _ _ _ => .bl b
theorem de_non {j} : DE X G W (.Constant .none j pos) (eC .none) := de_tC pe_non fun _ _ _ => .non
theorem de_str {x : Str} {j} : DE X G W (.Constant (.str x) j pos) (eC (.str x)) := de_tC pe_str fun _ _ _ => .str x
theorem de_gint {x : Str} {i : Int} {t : Tok} (hg : Gl X x) (hm : X.mg x = some (.int i t)) (hd : (x == ("__debug__" : Str)) = false := by decide) : DE X G W (.Name x pos) (eC (.int i)) := de_tC (v := .int i) (pe_glob hg hm ⟨t, rfl⟩ hd) fun _ _ _ => .int i
theorem de_gstr {x : Str} {z : Str} {t : Tok} (hg : Gl X x) (hm : X.mg x = some (.str z t)) (hd : (x == ("__debug__" : Str)) = false := by decide) : DE X G W (.Name x pos) (eC (.str z)) := de_tC (v := .str z) (pe_glob hg hm ⟨t, rfl⟩ hd) fun _ _ _ => .str z
/-! ### operators -/
def OpS (G : Gh) (r : R2) (f : D → D → Option D) : Prop := ∀ (H : Hp) (O : AS) (x y : V) (d e z : D) (Q : VK), (∀ a, O a → H a ≠ none) → RD G.K H O x d → RD G.K H O y e → f d e = some z →
  (∀ v H', Ext H H' → RD G.K H' O v z → Q v H') → r x y H Q
def UnS (G : Gh) (r : V → Hp → VK → Prop) (f : D → Option D) : Prop := ∀ (H : Hp) (O : AS) (x : V) (d z : D) (Q : VK), (∀ a, O a → H a ≠ none) → RD G.K H O x d → f d = some z →
  (∀ v H', Ext H H' → RD G.K H' O v z → Q v H') → r x H Q
def ClS (G : Gh) (r : List V → Hp → VK → Prop) (f : List D → Option D) : Prop := ∀ (H : Hp) (O : AS) (xs : List V) (ds : List D) (z : D) (Q : VK), (∀ a, O a → H a ≠ none) → RDs G.K H O xs ds → f ds = some z →
  (∀ v H', Ext H H' → RD G.K H' O v z → Q v H') → r xs H Q
def eBin (f : D → D → Option D) (a b : DEn) : DEn := fun en => a en >>= fun p => b p.2 >>= fun q => liftO (f p.1 q.1) >>= fun z => .ok (z, q.2)
def eUn (f : D → Option D) (a : DEn) : DEn := fun en => a en >>= fun p => liftO (f p.1) >>= fun z => .ok (z, p.2)
def eCl (f : List D → Option D) (a : DAs) : DEn := fun en => a en >>= fun p => liftO (f p.1) >>= fun z => .ok (z, p.2)
variable {a b c : Expr} {A B C : DEn}
theorem op_tr {r : R2} {f : D → D → Option D} (hs : OpS G r f) : ∀ σ H Q, tE G W (eBin f A B) σ H Q → tOp r (tE G W A) (tE G W B) σ H Q := fun σ H Q ⟨en, M, Bx, rel, m⟩ =>
  ⟨en, M, Bx, rel, Post.imp (post_bind.mp m) (fun p mp v H1 M1 rel1 st1 rd1 => ⟨p.2, M1, Bx, rel1, Post.imp (post_bind.mp mp) (fun q mq w H2 M2 rel2 st2 rd2 => by
    obtain ⟨z, hz, mz⟩ := post_lift.mp mq
    exact hs H2 _ v w p.1 q.1 z Q rel2.avh (rd1.step st2) rd2 hz fun u H' ext rd => mz u H' M2 (rel2.ext ext) ((st1.trans st2).trans (.ext ext)) rd) fun c d en h => h.step st1⟩) fun _ _ _ h => h⟩
theorem un_tr {r : V → Hp → VK → Prop} {f : D → Option D} (hs : UnS G r f) : ∀ σ H Q, tE G W (eUn f A) σ H Q → tUn r (tE G W A) σ H Q := fun σ H Q ⟨en, M, Bx, rel, m⟩ =>
  ⟨en, M, Bx, rel, Post.imp (post_bind.mp m) (fun p mp v H1 M1 rel1 st1 rd1 => by
    obtain ⟨z, hz, mz⟩ := post_lift.mp mp
    exact hs H1 _ v p.1 z Q rel1.avh rd1 hz fun u H' ext rd => mz u H' M1 (rel1.ext ext) (st1.trans (.ext ext)) rd) fun _ _ _ h => h⟩
theorem cl_tr {r : List V → Hp → VK → Prop} {f : List D → Option D} {As : DAs} (hs : ClS G r f) : ∀ σ H Q, tE G W (eCl f As) σ H Q → tCB r (tA G W As) σ H Q := fun σ H Q ⟨en, M, Bx, rel, m⟩ =>
  ⟨en, M, Bx, rel, Post.imp (post_bind.mp m) (fun p mp v H1 M1 rel1 st1 rd1 => by
    obtain ⟨z, hz, mz⟩ := post_lift.mp mp
    exact hs H1 _ v p.1 z Q rel1.avh rd1 hz fun u H' ext rd => mz u H' M1 (rel1.ext ext) (st1.trans (.ext ext)) rd) fun _ _ _ h => h⟩
theorem de_op {op : Operator} {r : R2} {f : D → D → Option D} (ho : OpR X (binaryOp op) r) (hs : OpS G r f) (ha : DE X G W a A) (hb : DE X G W b B) : DE X G W (.BinOp a op b pos) (eBin f A B) :=
  ⟨pe_imp (pe_op ho ha.pe hb.pe) (op_tr hs)⟩
theorem de_un {op : UnaryOp} {r : V → Hp → VK → Prop} {f : D → Option D} (ho : UnR X (unaryOp op) r) (hs : UnS G r f) (ha : DE X G W a A) : DE X G W (.UnaryOp op a pos) (eUn f A) :=
  ⟨pe_imp (pe_un ho ha.pe) (un_tr hs)⟩
theorem de_cmp {op : CmpOp} {r : R2} {f : D → D → Option D} (ho : OpR X (compareOp op) r) (hs : OpS G r f) (ha : DE X G W a A) (hb : DE X G W b B) (hm : behindInMarks op b = false) : DE X G W (.Compare a [op] [b] pos) (eBin f A B) :=
  ⟨pe_imp (pe_cmpR ho ha.pe hb.pe hm) (op_tr hs)⟩
/-! ### tests -/
def asB : D → Option Bool
  | .bool b => some b
  | _ => none
def tV (a : DEn) : DTt := fun en => a en >>= fun p => liftO (asB p.1) >>= fun b => .ok (b, p.2)
theorem asB_rd {K : Fg} {H : Hp} {O : AS} {v : V} {d : D} {b : Bool} (r : RD K H O v d) (h : asB d = some b) : v = .bl b := by
  cases r <;> simp [asB] at h
  subst h; rfl
theorem tv_tr : ∀ σ H Q, tT G W (tV A) σ H Q → tB (tE G W A) σ H Q := fun σ H Q ⟨en, M, Bx, rel, m⟩ =>
  ⟨en, M, Bx, rel, Post.imp (post_bind.mp m) (fun p mp v H1 M1 rel1 st1 rd1 => by
    obtain ⟨z, hz, mz⟩ := post_lift.mp mp
    exact ⟨z, asB_rd rd1 hz, mz H1 M1 rel1 st1⟩) fun _ _ _ h => h⟩
theorem dt_val {e : Expr} (h : DE X G W e A) (he : ∀ whole, isTrue e X.env whole = (do let v ← whole; standAt e.pos; holding [v] (truthy v)) := by intro _; rfl) : DT X G W e (tV A) := ⟨pt_imp (pt_val h.pe he) tv_tr⟩
theorem dt_cmp {op : CmpOp} {r : R2} {f : D → D → Option D} (ho : OpR X (compareOp op) r) (hs : OpS G r f) (ha : DE X G W a A) (hb : DE X G W b B) (hm : behindInMarks op b = false) : DT X G W (.Compare a [op] [b] pos) (tV (eBin f A B)) := by
  refine ⟨pt_imp (pt_cmpR ho ha.pe hb.pe hm) fun σ H Q h => ?_⟩
  have h := tv_tr σ H Q h
  exact op_tr (r := r) hs σ H _ h
variable {rest : List Expr} {TA TB : DTt}
def tAnd (a b : DTt) : DTt := fun en => a en >>= fun p => if p.1 = true then b p.2 else .ok (false, p.2)
def tOr (a b : DTt) : DTt := fun en => a en >>= fun p => if p.1 = true then .ok (true, p.2) else b p.2
def tNot (a : DTt) : DTt := fun en => a en >>= fun p => .ok (!p.1, p.2)
theorem dw_and1 (h : DT X G W a TA) : DW X G W (.BoolOp .And [a] pos) TA := ⟨pw_and1 h.pt⟩
theorem dw_or1 (h : DT X G W a TA) : DW X G W (.BoolOp .Or [a] pos) TA := ⟨pw_or1 h.pt⟩
theorem dw_and (h : DT X G W a TA) (hr : DW X G W (.BoolOp .And (b :: rest) pos) TB) : DW X G W (.BoolOp .And (a :: b :: rest) pos) (tAnd TA TB) :=
  ⟨pw_imp (pw_and h.pt hr.pw) fun σ H Q ⟨en, M, Bx, rel, m⟩ => ⟨en, M, Bx, rel, Post.imp (post_bind.mp m) (fun p mp H1 M1 rel1 st1 => by
    by_cases c : p.1 = true
    · rw [if_pos c] at mp ⊢
      exact ⟨p.2, M1, Bx, rel1, Post.imp mp (fun q mq H2 M2 rel2 st2 => mq H2 M2 rel2 (st1.trans st2)) fun _ _ _ h => h.step st1⟩
    · rw [if_neg c] at mp ⊢
      exact mp H1 M1 rel1 st1) fun _ _ _ h => h⟩⟩
theorem dw_or (h : DT X G W a TA) (hr : DW X G W (.BoolOp .Or (b :: rest) pos) TB) : DW X G W (.BoolOp .Or (a :: b :: rest) pos) (tOr TA TB) :=
  ⟨pw_imp (pw_or h.pt hr.pw) fun σ H Q ⟨en, M, Bx, rel, m⟩ => ⟨en, M, Bx, rel, Post.imp (post_bind.mp m) (fun p mp H1 M1 rel1 st1 => by
    by_cases c : p.1 = true
    · rw [if_pos c] at mp ⊢
      exact mp H1 M1 rel1 st1
    · rw [if_neg c] at mp ⊢
      exact ⟨p.2, M1, Bx, rel1, Post.imp mp (fun q mq H2 M2 rel2 st2 => mq H2 M2 rel2 (st1.trans st2)) fun _ _ _ h => h.step st1⟩) fun _ _ _ h => h⟩⟩
theorem dt_bool {e : Expr} (h : DW X G W e TA) : DT X G W e TA := ⟨h.pw.pt⟩
theorem dt_not (h : DT X G W a TA) : DT X G W (.UnaryOp .Not a pos) (tNot TA) :=
  ⟨pt_imp (pt_not h.pt) fun σ H Q ⟨en, M, Bx, rel, m⟩ => ⟨en, M, Bx, rel, Post.imp (post_bind.mp m) (fun p mp H1 M1 rel1 st1 => mp H1 M1 rel1 st1) fun _ _ _ h => h⟩⟩
/-! ### and, or, not as values of bools; a if t else b -/
def eAnd (a b : DEn) : DEn := fun en => a en >>= fun p => liftO (asB p.1) >>= fun c => if c = true then b p.2 else .ok (.bool false, p.2)
def eOr (a b : DEn) : DEn := fun en => a en >>= fun p => liftO (asB p.1) >>= fun c => if c = true then .ok (.bool true, p.2) else b p.2
def eNot (a : DEn) : DEn := fun en => a en >>= fun p => liftO (asB p.1) >>= fun c => .ok (.bool (!c), p.2)
theorem de_one {op : BoolOp} (h : DE X G W a A) : DE X G W (.BoolOp op [a] pos) A := ⟨pe_one h.pe⟩
theorem de_and (h : DE X G W a A) (hr : DE X G W (.BoolOp .And (b :: rest) pos) B) : DE X G W (.BoolOp .And (a :: b :: rest) pos) (eAnd A B) :=
  ⟨pe_imp (pe_and h.pe hr.pe) fun σ H Q ⟨en, M, Bx, rel, m⟩ => ⟨en, M, Bx, rel, Post.imp (post_bind.mp m) (fun p mp v H1 M1 rel1 st1 rd1 => by
    obtain ⟨c, hc, mc⟩ := post_lift.mp mp
    refine ⟨c, asB_rd rd1 hc, ?_⟩
    by_cases c' : c = true
    · rw [if_pos c'] at mc ⊢
      exact ⟨p.2, M1, Bx, rel1, Post.imp mc (fun q mq w H2 M2 rel2 st2 rd2 => mq w H2 M2 rel2 (st1.trans st2) rd2) fun _ _ _ h => h.step st1⟩
    · rw [if_neg c'] at mc ⊢
      exact mc _ H1 M1 rel1 st1 (.bl false)) fun _ _ _ h => h⟩⟩
theorem de_or (h : DE X G W a A) (hr : DE X G W (.BoolOp .Or (b :: rest) pos) B) : DE X G W (.BoolOp .Or (a :: b :: rest) pos) (eOr A B) :=
  ⟨pe_imp (pe_or h.pe hr.pe) fun σ H Q ⟨en, M, Bx, rel, m⟩ => ⟨en, M, Bx, rel, Post.imp (post_bind.mp m) (fun p mp v H1 M1 rel1 st1 rd1 => by
    obtain ⟨c, hc, mc⟩ := post_lift.mp mp
    refine ⟨c, asB_rd rd1 hc, ?_⟩
    by_cases c' : c = true
    · rw [if_pos c'] at mc ⊢
      exact mc _ H1 M1 rel1 st1 (.bl true)
    · rw [if_neg c'] at mc ⊢
      exact ⟨p.2, M1, Bx, rel1, Post.imp mc (fun q mq w H2 M2 rel2 st2 rd2 => mq w H2 M2 rel2 (st1.trans st2) rd2) fun _ _ _ h => h.step st1⟩) fun _ _ _ h => h⟩⟩
theorem de_not (h : DE X G W a A) : DE X G W (.UnaryOp .Not a pos) (eNot A) :=
  ⟨pe_imp (pe_not h.pe) fun σ H Q ⟨en, M, Bx, rel, m⟩ => ⟨en, M, Bx, rel, Post.imp (post_bind.mp m) (fun p mp v H1 M1 rel1 st1 rd1 => by
    obtain ⟨c, hc, mc⟩ := post_lift.mp mp
    exact ⟨c, asB_rd rd1 hc, mc _ H1 M1 rel1 st1 (.bl _)⟩) fun _ _ _ h => h⟩⟩
def eIf (t : DTt) (a b : DEn) : DEn := fun en => t en >>= fun p => if p.1 = true then a p.2 else b p.2
theorem de_if (h : DT X G W c TA) (ha : DE X G W a A) (hb : DE X G W b B) : DE X G W (.IfExp c a b pos) (eIf TA A B) :=
  ⟨pe_imp (pe_ifExp h.pt ha.pe hb.pe) fun σ H Q ⟨en, M, Bx, rel, m⟩ => ⟨en, M, Bx, rel, Post.imp (post_bind.mp m) (fun p mp H1 M1 rel1 st1 => by
    by_cases c' : p.1 = true
    · rw [if_pos c'] at mp ⊢
      exact ⟨p.2, M1, Bx, rel1, Post.imp mp (fun q mq w H2 M2 rel2 st2 rd2 => mq w H2 M2 rel2 (st1.trans st2) rd2) fun _ _ _ h => h.step st1⟩
    · rw [if_neg c'] at mp ⊢
      exact ⟨p.2, M1, Bx, rel1, Post.imp mp (fun q mq w H2 M2 rel2 st2 rd2 => mq w H2 M2 rel2 (st1.trans st2) rd2) fun _ _ _ h => h.step st1⟩) fun _ _ _ h => h⟩⟩
/-! ### arguments, displays -/
def aNil : DAs := fun en => .ok ([], en)
def aCons (a : DEn) (r : DAs) : DAs := fun en => a en >>= fun p => r p.2 >>= fun q => .ok (p.1 :: q.1, q.2)
variable {es : List Expr} {As : DAs}
theorem da_nil : DA X G W [] aNil := ⟨pa_imp pa_nil fun σ H Q ⟨en, M, Bx, rel, m⟩ => m [] H M rel .refl .nil⟩
theorem da_cons (ha : DE X G W a A) (hr : DA X G W es As) (hs : starEach (a :: es) X.env = (false, eval a X.env) :: starEach es X.env := by rfl) : DA X G W (a :: es) (aCons A As) :=
  ⟨pa_imp (pa_cons ha.pe hr.pa hs) fun σ H Q ⟨en, M, Bx, rel, m⟩ => ⟨en, M, Bx, rel, Post.imp (post_bind.mp m) (fun p mp v H1 M1 rel1 st1 rd1 =>
    ⟨p.2, M1, Bx, rel1, Post.imp (post_bind.mp mp) (fun q mq ws H2 M2 rel2 st2 rd2 => mq _ H2 M2 rel2 (st1.trans st2) (.cons (rd1.step st2) rd2)) fun _ _ _ h => h.step st1⟩) fun _ _ _ h => h⟩⟩
def mkT (ds : List D) : Option D := if ds.length ≤ sizeLine then some (.tuple ds) else none
def mkL (ds : List D) : Option D := if ds.length ≤ sizeLine then some (.list ds) else none
theorem new_tup {K : Fg} {H : Hp} {O : AS} {xs : List V} {ds : List D} {p : Addr} (hO : ∀ a, O a → H a ≠ none) (r : RDs K H O xs ds) (hl : xs.length ≤ sizeLine) (hp : H p = none) : RD K (upd H p (.tup xs)) O (.ref p) (.tuple ds) :=
  .tup ⟨upd_same, fun q => hO p q hp⟩ hl (r.ext (ext_new hp))
theorem new_lst {K : Fg} {H : Hp} {O : AS} {xs : List V} {ds : List D} {p : Addr} (hO : ∀ a, O a → H a ≠ none) (r : RDs K H O xs ds) (hl : xs.length ≤ sizeLine) (hp : H p = none) : RD K (upd H p (.lst xs)) O (.ref p) (.list ds) :=
  .lst ⟨upd_same, fun q => hO p q hp⟩ hl (r.ext (ext_new hp))
theorem de_tup {k : Nat} (h : DA X G W es As) : DE X G W (.Tuple es k pos) (eCl mkT As) :=
  ⟨pe_imp (pe_tup h.pa) fun σ H Q q => cl_tr (r := fun xs H1 Q => xs.length ≤ sizeLine ∧ ∀ p, H1 p = none → Q (.ref p) (upd H1 p (.tup xs))) (fun H O xs ds z Q hO rd hz hq => by
    unfold mkT at hz
    split at hz
    · rename_i hl
      cases hz
      have hl' : xs.length ≤ sizeLine := by rw [rd.length]; exact hl
      exact ⟨hl', fun p hp => hq _ _ (ext_new hp) (new_tup hO rd hl' hp)⟩
    · cases hz) σ H Q q⟩
theorem de_lst (h : DA X G W es As) : DE X G W (.List es pos) (eCl mkL As) :=
  ⟨pe_imp (pe_lst h.pa) fun σ H Q q => cl_tr (r := fun xs H1 Q => xs.length ≤ sizeLine ∧ ∀ p, H1 p = none → Q (.ref p) (upd H1 p (.lst xs))) (fun H O xs ds z Q hO rd hz hq => by
    unfold mkL at hz
    split at hz
    · rename_i hl
      cases hz
      have hl' : xs.length ≤ sizeLine := by rw [rd.length]; exact hl
      exact ⟨hl', fun p hp => hq _ _ (ext_new hp) (new_lst hO rd hl' hp)⟩
    · cases hz) σ H Q q⟩
/-! ### calls of built-ins -/
theorem de_callB {id : String} {x : Str} {p : Pos} {r : List V → Hp → VK → Prop} {f : List D → Option D} (hc : CallR X (.builtin id) r) (hs : ClS G r f) (hg : Gl X x) (hm : X.mg x = none) (hv : bootBuiltins x = some (.builtin id)) (ha : DA X G W (a :: es) As)
    (hn : x ≠ "__name__" := by decide) (hdb : (x == ("__debug__" : Str)) = false := by decide) (he : starEach (a :: es) X.env = (false, eval a X.env) :: starEach es X.env := by rfl) (hpl : (backTo pos (starEach es X.env)).any (·.1) = false := by rfl) :
    DE X G W (.Call (.Name x p) (a :: es) [] pos) (eCl f As) := ⟨pe_imp (pe_callB hc hg hm hv ha.pa hn hdb he hpl) (cl_tr hs)⟩
theorem de_callTy {T : String} {x : Str} {p : Pos} {r : List V → Hp → VK → Prop} {f : List D → Option D} (hc : CallR X (.type T) r) (hs : ClS G r f) (hg : Gl X x) (hm : X.mg x = none) (hv : bootBuiltins x = some (.type T)) (ha : DA X G W (a :: es) As)
    (hn : x ≠ "__name__" := by decide) (hdb : (x == ("__debug__" : Str)) = false := by decide) (he : starEach (a :: es) X.env = (false, eval a X.env) :: starEach es X.env := by rfl) (hpl : (backTo pos (starEach es X.env)).any (·.1) = false := by rfl) :
    DE X G W (.Call (.Name x p) (a :: es) [] pos) (eCl f As) := ⟨pe_imp (pe_callTy hc hg hm hv ha.pa hn hdb he hpl) (cl_tr hs)⟩
end
end DL

namespace DL
open PySem L2

/-! ### plain data -/
theorem depth64 {A : Around} {d e : D} (hu : A.units + 64 < cLine) (h : d.depth ≤ 64) : A.units + min d.depth e.depth < cLine := by omega
section
variable {X : Cx} {G : Gh}
/-! ### + - * // % ** and - x -/
def rInt2 (C : Int → Int → Prop) (g : Int → Int → Int) : R2 := rI C fun i j => .int (g i j)
def dAdd : D → D → Option D
  | .int i, .int j => some (.int (i + j))
  | .str x, .str y => if x.length + y.length ≤ sizeLine then some (.str (x ++ y)) else none
  | .list xs, .list ys => if xs.length + ys.length ≤ sizeLine then some (.list (xs ++ ys)) else none
  | .tuple xs, .tuple ys => if xs.length + ys.length ≤ sizeLine then some (.tuple (xs ++ ys)) else none
  | _, _ => none
def rAddA (K : Fg) : R2 := fun x y H Q => (rI0 fun i j => .int (i + j)) x y H Q ∨ (∃ i j, x = .str i ∧ y = .str j ∧ i.length + j.length ≤ sizeLine ∧ Q (.str (i ++ j)) H) ∨ rCat x y H Q ∨ rCatA K x y H Q
theorem op_addA : OpR X (binaryOp .Add) (rAddA X.K) := OpR.or op_add (OpR.or op_add_str (OpR.or op_cat op_catA))
theorem ops_add : OpS G (rAddA G.K) dAdd := by
  intro H O x y d e z Q hO rx ry hz hq
  cases rx with
  | int i =>
    cases ry with
    | int j =>
      cases hz
      exact .inl ⟨i, j, rfl, rfl, hq _ _ (fun _ _ h => h) (.int _)⟩
    | _ => cases hz
  | str a =>
    cases ry with
    | str b =>
      simp only [dAdd] at hz
      split at hz
      · rename_i hl
        cases hz
        exact .inr (.inl ⟨a, b, rfl, rfl, hl, hq _ _ (fun _ _ h => h) (.str _)⟩)
      · cases hz
    | _ => cases hz
  | @lst a xs ds h1 h2 h3 =>
    cases ry with
    | @lst b ys es k1 k2 k3 =>
      simp only [dAdd] at hz
      split at hz
      · rename_i hl
        cases hz
        have hl' : xs.length + ys.length ≤ sizeLine := by rw [← h3.length, ← k3.length] at hl; exact hl
        exact .inr (.inr (.inl ⟨_, _, _, _, rfl, rfl, h1.1, k1.1, hl', fun p hp => hq _ _ (ext_new hp) (new_lst hO (h3.append k3) (by rw [List.length_append]; exact hl') hp)⟩))
      · cases hz
    | _ => cases hz
  | @tup a xs ds h1 h2 h3 =>
    cases ry with
    | @tup b ys es k1 k2 k3 =>
      simp only [dAdd] at hz
      split at hz
      · rename_i hl
        cases hz
        have hl' : xs.length + ys.length ≤ sizeLine := by rw [← h3.length, ← k3.length] at hl; exact hl
        refine .inr (.inr (.inr ⟨_, _, _, _, rfl, rfl, h1.sq, k1.sq, hl', fun z1 => ?_, fun z1 z2 => ?_, fun _ _ p hp => hq _ _ (ext_new hp) (new_tup hO (h3.append k3) (by rw [List.length_append]; exact hl') hp)⟩))
        · subst z1
          cases h3
          exact hq _ _ (fun _ _ h => h) (.tup k1 k2 k3)
        · subst z2
          cases k3
          rw [List.append_nil] at hq
          exact hq _ _ (fun _ _ h => h) (.tup h1 h2 h3)
      · cases hz
    | _ => cases hz
  | _ => cases ry <;> cases hz
/-- two ints in, an int out, under a test -/
def dII (C : Int → Int → Bool) (g : Int → Int → Int) : D → D → Option D
  | .int i, .int j => if C i j = true then some (.int (g i j)) else none
  | _, _ => none
theorem ops_II {C : Int → Int → Prop} {c : Int → Int → Bool} {g : Int → Int → Int} (hc : ∀ i j, c i j = true → C i j) : OpS G (rI C fun i j => .int (g i j)) (dII c g) := by
  intro H O x y d e z Q hO rx ry hz hq
  cases rx with
  | int i =>
    cases ry with
    | int j =>
      simp only [dII] at hz
      split at hz
      · rename_i h
        cases hz
        exact ⟨i, j, rfl, rfl, hc i j h, hq _ _ (fun _ _ h => h) (.int _)⟩
      · cases hz
    | _ => cases hz
  | _ => cases ry <;> cases hz
def dSub : D → D → Option D := dII (fun _ _ => true) fun i j => i - j
theorem op_subA : OpR X (binaryOp .Sub) (rI (fun _ _ => True) fun i j => .int (i - j)) := fun pins s σ H x y v u Q I rx ry ⟨i, j, h1, h2, _, q⟩ => op_sub pins s σ H x y v u Q I rx ry ⟨i, j, h1, h2, q⟩
theorem ops_sub : OpS G (rI (fun _ _ => True) fun i j => .int (i - j)) dSub := ops_II fun _ _ _ => trivial
def cMod (_ j : Int) : Bool := decide (0 < j)
def dMod : D → D → Option D := dII cMod fun i j => i % j
theorem ops_mod : OpS G (rI (fun _ j => 0 < j) fun i j => .int (i % j)) dMod := ops_II fun _ _ h => of_decide_eq_true h
def cDiv (_ j : Int) : Bool := decide (0 < j) && decide (j.natAbs.log2 < 9000)
def dDiv : D → D → Option D := dII cDiv fun i j => i / j
theorem ops_div : OpS G (rI CDivW fun i j => .int (i / j)) dDiv := ops_II fun i j h => by
  unfold cDiv at h
  rw [Bool.and_eq_true] at h
  exact ⟨of_decide_eq_true h.1, of_decide_eq_true h.2⟩
def cPow (i j : Int) : Bool := decide (0 ≤ j) && decide (j ≤ 1000000) && decide (i.natAbs < 2 ^ 64)
def dPow : D → D → Option D := dII cPow fun i j => i ^ j.toNat
theorem ops_pow : OpS G (rI CPow fun i j => .int (i ^ j.toNat)) dPow := ops_II fun i j h => by
  unfold cPow at h
  rw [Bool.and_eq_true, Bool.and_eq_true] at h
  exact ⟨of_decide_eq_true h.1.1, of_decide_eq_true h.1.2, of_decide_eq_true h.2⟩
/-- * of ints; a list or a tuple times an int -/
def cMul (i j : Int) : Bool := (decide (-(2 ^ 64) < i) && decide (i < 2 ^ 64)) || ((decide (-(2 ^ 64) < j) && decide (j < 2 ^ 64)) || decide (i.natAbs.log2 + j.natAbs.log2 < 1000000))
def dMul : D → D → Option D
  | .int i, .int j => if cMul i j = true then some (.int (i * j)) else none
  | .list xs, .int k => if 0 ≤ k ∧ k < 2 ^ 63 ∧ xs.length * k.toNat ≤ sizeLine then some (.list (List.replicate k.toNat xs).flatten) else none
  | .tuple xs, .int k => if xs ≠ [] ∧ 2 ≤ k ∧ k ≤ 1000 ∧ xs.length ≤ 1000 then some (.tuple (List.replicate k.toNat xs).flatten) else none
  | _, _ => none
def rMulA (K : Fg) : R2 := fun x y H Q => (rI CMul fun i j => .int (i * j)) x y H Q ∨ (rI CMulW fun i j => .int (i * j)) x y H Q ∨ rRep x y H Q ∨ rRepT K x y H Q
theorem op_mulA : OpR X (binaryOp .Mult) (rMulA X.K) := OpR.or op_mul (OpR.or op_mulW (OpR.or op_rep op_repT))
theorem RDs.rep {K : Fg} {H : Hp} {O : AS} {xs : List V} {ds : List D} (h : RDs K H O xs ds) : ∀ k : Nat, RDs K H O (List.replicate k xs).flatten (List.replicate k ds).flatten
  | 0 => .nil
  | k + 1 => by
    rw [List.replicate_succ, List.replicate_succ, List.flatten_cons, List.flatten_cons]
    exact h.append (RDs.rep h k)
theorem ops_mul : OpS G (rMulA G.K) dMul := by
  intro H O x y d e z Q hO rx ry hz hq
  cases rx with
  | int i =>
    cases ry with
    | int j =>
      simp only [dMul] at hz
      split at hz
      · rename_i h
        cases hz
        unfold cMul at h
        rw [Bool.or_eq_true, Bool.or_eq_true, Bool.and_eq_true, Bool.and_eq_true] at h
        rcases h with h | h | h
        · exact .inl ⟨i, j, rfl, rfl, .inl ⟨of_decide_eq_true h.1, of_decide_eq_true h.2⟩, hq _ _ (fun _ _ h => h) (.int _)⟩
        · exact .inl ⟨i, j, rfl, rfl, .inr ⟨of_decide_eq_true h.1, of_decide_eq_true h.2⟩, hq _ _ (fun _ _ h => h) (.int _)⟩
        · exact .inr (.inl ⟨i, j, rfl, rfl, (show i.natAbs.log2 + j.natAbs.log2 < 1000000 from of_decide_eq_true h), hq _ _ (fun _ _ h => h) (.int _)⟩)
      · cases hz
    | _ => cases hz
  | @lst a xs ds h1 h2 h3 =>
    cases ry with
    | int k =>
      simp only [dMul] at hz
      split at hz
      · rename_i h
        cases hz
        have hl' : xs.length * k.toNat ≤ sizeLine := by have := h.2.2; rw [← h3.length] at this; exact this
        exact .inr (.inr (.inl ⟨_, k, _, rfl, rfl, h1.1, by omega, h.2.1, hl', fun p hp => hq _ _ (ext_new hp) (new_lst hO (h3.rep _) (by rw [PyProof.Rows.lm_len_rep_flat, Nat.mul_comm]; exact hl') hp)⟩))
      · cases hz
    | _ => cases hz
  | @tup a xs ds h1 h2 h3 =>
    cases ry with
    | int k =>
      simp only [dMul] at hz
      split at hz
      · rename_i h
        cases hz
        have hl : xs.length ≤ 1000 := by rw [h3.length]; exact h.2.2.2
        refine .inr (.inr (.inr ⟨_, k, _, rfl, rfl, h1.sq, fun q => h.1 ?_, h.2.1, h.2.2.1, hl, fun p hp => hq _ _ (ext_new hp) (new_tup hO (h3.rep _) ?_ hp)⟩))
        · subst q
          cases h3
          rfl
        · rw [PyProof.Rows.lm_len_rep_flat]
          have h5 : k.toNat ≤ 1000 := by have := h.2.2.1; omega
          have := Nat.mul_le_mul h5 hl
          have e : sizeLine = 16777216 := sizeLine_eq
          omega
      · cases hz
    | _ => cases hz
  | _ => cases ry <;> cases hz
def dNeg : D → Option D
  | .int i => some (.int (-i))
  | _ => none
theorem uns_neg : UnS G (rU fun i => .int (-i)) dNeg := by
  intro H O x d z Q hO rx hz hq
  cases rx with
  | int i => cases hz; exact ⟨i, rfl, hq _ _ (fun _ _ h => h) (.int _)⟩
  | _ => cases hz
/-! ### == != < <= > >= is None, in -/
def dEq : D → D → Option D
  | .int i, .int j => some (.bool (i == j))
  | .str i, .str j => some (.bool (i == j))
  | d, e => if SeqAt.shaped d = true ∧ SeqAt.shaped e = true then some (.bool (PyData.eqv d e)) else none
def dNe : D → D → Option D
  | .int i, .int j => some (.bool (!(i == j)))
  | .str i, .str j => some (.bool (!(i == j)))
  | d, e => if SeqAt.shaped d = true ∧ SeqAt.shaped e = true then some (.bool (!PyData.eqv d e)) else none
theorem shaped_int (i : Int) : SeqAt.shaped (.int i) = true := by
  simp [SeqAt.shaped, PyData.canLay0, PyData.depth]
def rEqA (K : Fg) : R2 := fun x y H Q => rEqD K x y H Q ∨ rEq x y H Q
def rNeA (K : Fg) : R2 := fun x y H Q => rNeD K x y H Q ∨ rNe x y H Q
theorem op_eqA {X : Cx} (hu : X.A.units + 64 < cLine) : OpR X (compareOp .Eq) (rEqA X.K) := OpR.or (op_eqD hu) op_eq
theorem op_neA {X : Cx} (hu : X.A.units + 64 < cLine) : OpR X (compareOp .NotEq) (rNeA X.K) := OpR.or (op_neD hu) op_ne
theorem decS {i j : Str} : decide (V.str i = V.str j) = (i == j) := by
  rw [Bool.eq_iff_iff]
  simp
theorem plain_shaped {d : D} (h : SeqAt.shaped d = true) : d.plain = true := PyData.plain_of_canLay0 d (SeqAt.canLay_of_shaped h)
theorem ops_eq : OpS G (rEqA G.K) dEq := by
  intro H O x y d e z Q hO rx ry hz hq
  have gen : (SeqAt.shaped d = true ∧ SeqAt.shaped e = true) → z = .bool (PyData.eqv d e) → rEqA G.K x y H Q := fun h hz => .inl ⟨d, e, rx.dp (plain_shaped h.1), ry.dp (plain_shaped h.2), h.1, h.2, hq _ _ (fun _ _ h => h) (by rw [hz]; exact .bl _)⟩
  unfold dEq at hz
  split at hz
  · cases hz
    exact gen ⟨shaped_int _, shaped_int _⟩ (by simp [PyData.eqv])
  · cases hz
    cases rx
    cases ry
    exact .inr ⟨rfl, hq _ _ (fun _ _ h => h) (by rw [decS]; exact .bl _)⟩
  · split at hz
    · rename_i h
      cases hz
      exact gen h rfl
    · cases hz
theorem ops_ne : OpS G (rNeA G.K) dNe := by
  intro H O x y d e z Q hO rx ry hz hq
  have gen : (SeqAt.shaped d = true ∧ SeqAt.shaped e = true) → z = .bool (!PyData.eqv d e) → rNeA G.K x y H Q := fun h hz => .inl ⟨d, e, rx.dp (plain_shaped h.1), ry.dp (plain_shaped h.2), h.1, h.2, hq _ _ (fun _ _ h => h) (by rw [hz]; exact .bl _)⟩
  unfold dNe at hz
  split at hz
  · cases hz
    exact gen ⟨shaped_int _, shaped_int _⟩ (by simp [PyData.eqv])
  · cases hz
    cases rx
    cases ry
    exact .inr ⟨rfl, hq _ _ (fun _ _ h => h) (by rw [decS]; exact .bl _)⟩
  · split at hz
    · rename_i h
      cases hz
      exact gen h rfl
    · cases hz
/-- an order of alike data -/
def cmpOk (d e : D) : Bool := PySem.W.alike d e && (decide (d.depth ≤ 64) && !(match d with | .none => true | _ => false))
theorem cmpOk_of {d e : D} (h : cmpOk d e = true) : PySem.W.alike d e = true ∧ d.depth ≤ 64 ∧ d ≠ .none := by
  unfold cmpOk at h
  rw [Bool.and_eq_true, Bool.and_eq_true] at h
  refine ⟨h.1, of_decide_eq_true h.2.1, fun q => ?_⟩
  subst q
  exact absurd h.2.2 (by decide)
def dOrd (g : D → D → Bool) (gi : Int → Int → Bool) : D → D → Option D
  | .int i, .int j => some (.bool (gi i j))
  | d, e => if cmpOk d e = true ∧ d.plain = true ∧ e.plain = true then some (.bool (g d e)) else none
def rOrd (K : Fg) (g : D → D → Bool) : R2 := fun x y H Q => ∃ d e, Dp K H x d ∧ Dp K H y e ∧ cmpOk d e = true ∧ Q (.bl (g d e)) H
theorem cmpOk_int (i j : Int) : cmpOk (.int i) (.int j) = true := by simp [cmpOk, PySem.W.alike, PyData.depth]
theorem ops_ord {g : D → D → Bool} {gi : Int → Int → Bool} (h : ∀ i j, g (.int i) (.int j) = gi i j) : OpS G (rOrd G.K g) (dOrd g gi) := by
  intro H O x y d e z Q hO rx ry hz hq
  unfold dOrd at hz
  split at hz
  · cases hz
    exact ⟨_, _, rx.dp rfl, ry.dp rfl, cmpOk_int _ _, hq _ _ (fun _ _ h => h) (by rw [h]; exact .bl _)⟩
  · split at hz
    · rename_i hc
      cases hz
      exact ⟨_, _, rx.dp hc.2.1, ry.dp hc.2.2, hc.1, hq _ _ (fun _ _ h => h) (.bl _)⟩
    · cases hz
def dLt : D → D → Option D := dOrd (fun d e => PySem.W.dataLt d e) fun i j => decide (i < j)
def dGt : D → D → Option D := dOrd (fun d e => PySem.W.dataLt e d) fun i j => decide (j < i)
def dLe : D → D → Option D := dOrd (fun d e => !PySem.W.dataLt e d) fun i j => decide (i ≤ j)
def dGe : D → D → Option D := dOrd (fun d e => !PySem.W.dataLt d e) fun i j => decide (j ≤ i)
theorem nlt_le (i j : Int) : (!decide (j < i)) = decide (i ≤ j) := by
  by_cases h : j < i
  · rw [decide_eq_true h, decide_eq_false (by omega)]; rfl
  · rw [decide_eq_false h, decide_eq_true (by omega)]; rfl
theorem ops_lt : OpS G (rOrd G.K fun d e => PySem.W.dataLt d e) dLt := ops_ord fun i j => PySem.W.dataLt_int i j
theorem ops_gt : OpS G (rOrd G.K fun d e => PySem.W.dataLt e d) dGt := ops_ord fun i j => PySem.W.dataLt_int j i
theorem ops_le : OpS G (rOrd G.K fun d e => !PySem.W.dataLt e d) dLe := ops_ord fun i j => by rw [PySem.W.dataLt_int]; exact nlt_le i j
theorem ops_ge : OpS G (rOrd G.K fun d e => !PySem.W.dataLt d e) dGe := ops_ord fun i j => by rw [PySem.W.dataLt_int]; exact nlt_le j i
theorem op_ltO (hu : X.A.units + 64 < cLine) : OpR X (compareOp .Lt) (rOrd X.K fun d e => PySem.W.dataLt d e) := by
  intro pins s σ H x y v u Q I rx ry h
  obtain ⟨d, e, hd, he, hc, q⟩ := h
  obtain ⟨as, r1⟩ := Dp.reads I d x v hd rx
  obtain ⟨bs, r2⟩ := Dp.reads I e y u he ry
  obtain ⟨c1, c2, c3⟩ := cmpOk_of hc
  exact PySem.W.lt_data r1 r2 c1 c3 (depth64 hu c2) (fin_bl I q rfl)
theorem op_gtO (hu : X.A.units + 64 < cLine) : OpR X (compareOp .Gt) (rOrd X.K fun d e => PySem.W.dataLt e d) := by
  intro pins s σ H x y v u Q I rx ry h
  obtain ⟨d, e, hd, he, hc, q⟩ := h
  obtain ⟨as, r1⟩ := Dp.reads I d x v hd rx
  obtain ⟨bs, r2⟩ := Dp.reads I e y u he ry
  obtain ⟨c1, c2, c3⟩ := cmpOk_of hc
  exact PySem.W.gt_data r1 r2 c1 c3 (depth64 hu c2) (fin_bl I q rfl)
theorem op_leO (hu : X.A.units + 64 < cLine) : OpR X (compareOp .LtE) (rOrd X.K fun d e => !PySem.W.dataLt e d) := by
  intro pins s σ H x y v u Q I rx ry h
  obtain ⟨d, e, hd, he, hc, q⟩ := h
  obtain ⟨as, r1⟩ := Dp.reads I d x v hd rx
  obtain ⟨bs, r2⟩ := Dp.reads I e y u he ry
  obtain ⟨c1, c2, c3⟩ := cmpOk_of hc
  exact PySem.W.le_data r1 r2 c1 c3 (depth64 hu c2) (fin_bl I q rfl)
theorem op_geO (hu : X.A.units + 64 < cLine) : OpR X (compareOp .GtE) (rOrd X.K fun d e => !PySem.W.dataLt d e) := by
  intro pins s σ H x y v u Q I rx ry h
  obtain ⟨d, e, hd, he, hc, q⟩ := h
  obtain ⟨as, r1⟩ := Dp.reads I d x v hd rx
  obtain ⟨bs, r2⟩ := Dp.reads I e y u he ry
  obtain ⟨c1, c2, c3⟩ := cmpOk_of hc
  exact PySem.W.ge_data r1 r2 c1 c3 (depth64 hu c2) (fin_bl I q rfl)
/-- is None, is not None -/
def dIsN (d e : D) : Option D := match e with
  | .none => some (.bool (match d with | .none => true | _ => false))
  | _ => none
def dNotN (d e : D) : Option D := match e with
  | .none => some (.bool (match d with | .none => false | _ => true))
  | _ => none
theorem ops_isN : OpS G (fun x y H Q => y = .non ∧ Q (.bl (decide (x = .non))) H) dIsN := by
  intro H O x y d e z Q hO rx ry hz hq
  cases ry <;> simp only [dIsN, reduceCtorEq, Option.some.injEq] at hz
  subst hz
  refine ⟨rfl, hq _ _ (fun _ _ h => h) ?_⟩
  cases rx <;> exact .bl _
theorem ops_notN : OpS G (fun x y H Q => y = .non ∧ Q (.bl (!decide (x = .non))) H) dNotN := by
  intro H O x y d e z Q hO rx ry hz hq
  cases ry <;> simp only [dNotN, reduceCtorEq, Option.some.injEq] at hz
  subst hz
  refine ⟨rfl, hq _ _ (fun _ _ h => h) ?_⟩
  cases rx <;> exact .bl _
/-- x in xs, of flat things -/
def flatD : D → Bool
  | .none => true
  | .bool _ => true
  | .int _ => true
  | .str _ => true
  | _ => false
end
end DL

namespace DL
open PySem L2
section
variable {X : Cx} {G : Gh} {W : WX} {pos : Pos} {a b : Expr} {es : List Expr} {A B : DEn} {As : DAs}
/-! ### x in xs -/
theorem flat_rd {K : Fg} {H : Hp} {O : AS} {v : V} {d : D} (r : RD K H O v d) (f : flatD d = true) : flatV v = true := by
  cases r <;> first | rfl | cases f
theorem eqV_eqv {K : Fg} {H : Hp} {O : AS} {v w : V} {d e : D} (r : RD K H O v d) (q : RD K H O w e) (f : flatD d = true) (g : flatD e = true) : eqV v w = PyData.eqv d e := by
  cases r <;> cases q <;> first | rfl | cases f | cases g | simp [eqV, PyData.eqv]
theorem flat_all {K : Fg} {H : Hp} {O : AS} : ∀ {vs : List V} {ds : List D}, RDs K H O vs ds → ds.all flatD = true → vs.all flatV = true
  | _, _, .nil, _ => rfl
  | _, _, .cons h r, f => by
    rw [List.all_cons, Bool.and_eq_true] at f ⊢
    exact ⟨flat_rd h f.1, flat_all r f.2⟩
theorem inV_eqv {K : Fg} {H : Hp} {O : AS} {v : V} {d : D} (q : RD K H O v d) (g : flatD d = true) : ∀ {vs : List V} {ds : List D}, RDs K H O vs ds → ds.all flatD = true → inV v vs = ds.any fun y => PyData.eqv y d
  | _, _, .nil, _ => rfl
  | _, _, .cons h r, f => by
    rw [List.all_cons, Bool.and_eq_true] at f
    have ih := inV_eqv q g r f.2
    unfold inV at ih ⊢
    rw [List.any_cons, List.any_cons, ih, eqV_eqv h q f.1 g]
/-! ### dicts: what stands at a key -/
def look (es : Es) (k : D) : Option D := (es.find? fun p => PyData.eqv p.1 k).map (·.2)
def isKD : D → Bool
  | .int _ => true
  | .str _ => true
  | _ => false
def isTD : D → Bool
  | .tuple ds => ds.all isKD
  | _ => false
def keyOk (t : Bool) (k : D) : Bool := if t = true then isTD k else isKD k
def unDc : D → Option (Bool × Es)
  | .dict ((.none, _) :: es) => some (true, es)
  | .dict es => some (false, es)
  | _ => none
def dGet (d k : D) : Option (Option D) := match unDc d with
  | some (t, es) => if keyOk t k = true then some (look es k) else none
  | none => none
theorem eqv_kD : ∀ a b : L2.Key, PyData.eqv (kD a) (kD b) = decide (a = b)
  | .inl i, .inl j => by rw [Bool.eq_iff_iff]; simp [kD, PyData.eqv]
  | .inr i, .inr j => by rw [Bool.eq_iff_iff]; simp [kD, PyData.eqv]
  | .inl i, .inr j => by simp [kD, PyData.eqv]
  | .inr i, .inl j => by simp [kD, PyData.eqv]
theorem eqv_ksD (a b : List L2.Key) : PyData.eqv (ksD a) (ksD b) = decide (a = b) := by
  show PyData.eqvAll (a.map kD) (b.map kD) = _
  induction a generalizing b with
  | nil => cases b <;> simp [PyData.eqvAll]
  | cons x xs ih =>
    cases b with
    | nil => simp [PyData.eqvAll]
    | cons y ys =>
      rw [List.map_cons, List.map_cons, PyData.eqvAll, eqv_kD, ih, Bool.eq_iff_iff]
      simp
theorem look_zip {κ : Type} [DecidableEq κ] {f : κ → D} (hf : ∀ a b, PyData.eqv (f a) (f b) = decide (a = b)) {K : Fg} {H : Hp} {O : AS} (k : κ) : ∀ {kvs : List (κ × V)} {ds : List D}, RDs K H O (kvs.map (·.2)) ds →
    match valV kvs k with
    | some v => ∃ d, look ((kvs.map fun p => f p.1).zip ds) (f k) = some d ∧ RD K H O v d
    | none => look ((kvs.map fun p => f p.1).zip ds) (f k) = none
  | [], _, .nil => rfl
  | p :: kvs, _, .cons (d := d) (ds := ds) h r => by
    by_cases c : p.1 = k
    · rw [valV_pos c]
      refine ⟨d, ?_, h⟩
      show ((((f p.1, d) :: (kvs.map fun p => f p.1).zip ds).find? fun p => PyData.eqv p.1 (f k)).map (·.2)) = some d
      rw [List.find?_cons_of_pos (by rw [hf]; exact decide_eq_true c)]
      rfl
    · rw [valV_neg c]
      have e : look (((p :: kvs).map fun p => f p.1).zip (d :: ds)) (f k) = look ((kvs.map fun p => f p.1).zip ds) (f k) := by
        show ((((f p.1, d) :: (kvs.map fun p => f p.1).zip ds).find? fun p => PyData.eqv p.1 (f k)).map (·.2)) = _
        rw [List.find?_cons_of_neg (by rw [hf]; simpa using c)]
        rfl
      rw [e]
      exact look_zip hf k r
theorem key_rd {K : Fg} {H : Hp} {O : AS} {y : V} {k : D} (r : RD K H O y k) (h : isKD k = true) : ∃ q, y = kV q ∧ k = kD q := by
  cases r with
  | int i => exact ⟨.inl i, rfl, rfl⟩
  | str x => exact ⟨.inr x, rfl, rfl⟩
  | _ => cases h
theorem keys_rd {K : Fg} {H : Hp} {O : AS} : ∀ {ys : List V} {ks : List D}, RDs K H O ys ks → ks.all isKD = true → ∃ qs : List L2.Key, ys = qs.map kV ∧ ks = qs.map kD
  | _, _, .nil, _ => ⟨[], rfl, rfl⟩
  | _, _, .cons h r, e => by
    rw [List.all_cons, Bool.and_eq_true] at e
    obtain ⟨q, rfl, rfl⟩ := key_rd h e.1
    obtain ⟨qs, rfl, rfl⟩ := keys_rd r e.2
    exact ⟨q :: qs, rfl, rfl⟩
theorem keyT_rd {K : Fg} {H : Hp} {O : AS} {y : V} {k : D} (r : RD K H O y k) (h : isTD k = true) : ∃ (b : Addr) (qs : List L2.Key), y = .ref b ∧ H b = some (.tup (qs.map kV)) ∧ k = ksD qs := by
  cases r with
  | tup h1 h2 h3 =>
    obtain ⟨qs, rfl, rfl⟩ := keys_rd h3 h
    exact ⟨_, qs, rfl, h1.1, rfl⟩
  | _ => cases h
theorem od_get {K : Fg} {H : Hp} {O : AS} {p : Addr} {t : Bool} {es : Es} {y : V} {k : D} (h : OdAt K H O p t es) (ry : RD K H O y k) (ho : keyOk t k = true) :
    IsD H p ∧ ∃ ov, DGet H p y ov ∧ match ov with
      | some v => ∃ d, look es k = some d ∧ RD K H O v d
      | none => look es k = none := by
  cases t with
  | false =>
    obtain ⟨kvs, ds, h1, h2, h3, rfl⟩ := h
    obtain ⟨q, rfl, rfl⟩ := key_rd ry ho
    exact ⟨.inl ⟨_, .inl h1⟩, _, .inl ⟨kvs, q, .inl h1, rfl, rfl⟩, look_zip eqv_kD q h3⟩
  | true =>
    obtain ⟨kvs, ds, h1, h2, h3, rfl⟩ := h
    obtain ⟨b, qs, rfl, hb, rfl⟩ := keyT_rd ry ho
    exact ⟨.inr ⟨_, .inl h1⟩, _, .inr ⟨kvs, qs, b, .inl h1, rfl, hb, rfl⟩, look_zip eqv_ksD qs h3⟩
theorem undc_od {K : Fg} {H : Hp} {O : AS} {p : Addr} {t : Bool} {es : Es} (h : OdAt K H O p t es) : unDc (dcD t es) = some (t, es) := by
  cases t with
  | true => rfl
  | false =>
    obtain ⟨kvs, ds, h1, h2, h3, rfl⟩ := h
    cases kvs with
    | nil => rfl
    | cons q kvs =>
      cases h3 with
      | cons a b =>
        obtain ⟨k, v⟩ := q
        cases k <;> rfl
/-- what may be read at x: it stands, or it is owned -/
inductive RX (K : Fg) (H : Hp) (O : AS) : V → D → Prop
  | rd {v : V} {d : D} : RD K H O v d → RX K H O v d
  | lst {a : Addr} {xs : List V} {ds : List D} : H a = some (.lst xs) → xs.length ≤ sizeLine → RDs K H O xs ds → RX K H O (.ref a) (.list ds)
  | od {a : Addr} {t : Bool} {es : Es} : OdAt K H O a t es → RX K H O (.ref a) (dcD t es)
theorem RD.od {K : Fg} {H : Hp} {O : AS} {v : V} {es : Es} (r : RD K H O v (.dict es)) : ∃ a t es', v = .ref a ∧ OdAt K H O a t es' ∧ PyData.dict es = dcD t es' := by
  cases r with
  | dck h1 h2 h3 h4 => exact ⟨_, false, _, rfl, ⟨_, _, h1, h3, h4, rfl⟩, rfl⟩
  | dct h1 h2 h3 h4 => exact ⟨_, true, _, rfl, ⟨_, _, h1, h3, h4, rfl⟩, rfl⟩
theorem RX.dcs {K : Fg} {H : Hp} {O : AS} {v : V} {d : D} (r : RX K H O v d) (h : (unDc d).isSome = true) : ∃ a t es, v = .ref a ∧ OdAt K H O a t es ∧ unDc d = some (t, es) := by
  cases r with
  | rd r =>
    cases d with
    | dict es =>
      obtain ⟨a, t, es', e1, e2, e3⟩ := r.od
      exact ⟨a, t, es', e1, e2, by rw [e3]; exact undc_od e2⟩
    | _ => cases h
  | lst => cases h
  | od o => exact ⟨_, _, _, rfl, o, undc_od o⟩
theorem dget_rx {K : Fg} {H : Hp} {O : AS} {x y : V} {d k : D} {o : Option D} (r : RX K H O x d) (ry : RD K H O y k) (h : dGet d k = some o) : ∃ a ov, x = .ref a ∧ IsD H a ∧ DGet H a y ov ∧ (match ov with
    | some v => ∃ e, o = some e ∧ RD K H O v e
    | none => o = none) := by
  unfold dGet at h
  have hs : (unDc d).isSome = true := by
    cases e : unDc d with
    | none => rw [e] at h; cases h
    | some _ => rfl
  obtain ⟨a, t, es, rfl, od, e⟩ := r.dcs hs
  rw [e] at h
  dsimp only at h
  split at h
  · rename_i ho
    cases h
    obtain ⟨z, ov, g, m⟩ := od_get od ry ho
    refine ⟨a, ov, rfl, z, g, ?_⟩
    cases ov with
    | none => exact m
    | some v => exact m
  · cases h
def OpX (G : Gh) (r : R2) (f : D → D → Option D) : Prop := ∀ (H : Hp) (O : AS) (x y : V) (d e z : D) (Q : VK), (∀ a, O a → H a ≠ none) → RX G.K H O x d → RD G.K H O y e → f d e = some z →
  (∀ v H', Ext H H' → RD G.K H' O v z → Q v H') → r x y H Q
def OpY (G : Gh) (r : R2) (f : D → D → Option D) : Prop := ∀ (H : Hp) (O : AS) (x y : V) (d e z : D) (Q : VK), (∀ a, O a → H a ≠ none) → RD G.K H O x d → RX G.K H O y e → f d e = some z →
  (∀ v H', Ext H H' → RD G.K H' O v z → Q v H') → r x y H Q
theorem OpX.s {r : R2} {f : D → D → Option D} (h : OpX G r f) : OpS G r f := fun H O x y d e z Q a b => h H O x y d e z Q a (.rd b)
theorem OpY.s {r : R2} {f : D → D → Option D} (h : OpY G r f) : OpS G r f := fun H O x y d e z Q a b c => h H O x y d e z Q a b (.rd c)
/-- items without a dict within, not too deep -/
def deepOk (d : D) (ds : List D) : Bool := d.plain && (PyData.plainAll ds && decide (d.depth ≤ 60))
def dInSeq (neg : Bool) (d : D) (ds : List D) : Option D := if (flatD d = true ∧ ds.all flatD = true) ∨ deepOk d ds = true then some (.bool (if neg = true then !ds.any fun y => PyData.eqv y d else ds.any fun y => PyData.eqv y d)) else none
def dInN (neg : Bool) : D → D → Option D
  | d, .list ds => dInSeq neg d ds
  | d, .tuple ds => dInSeq neg d ds
  | d, .dict es => (dGet (.dict es) d).map fun o => .bool (if neg = true then !o.isSome else o.isSome)
  | _, _ => none
/-- x in xs, items of any depth -/
def rInW (K : Fg) (neg : Bool) : R2 := fun x y H Q => ∃ d ds, Dp K H x d ∧ (Dp K H y (.list ds) ∨ Dp K H y (.tuple ds)) ∧ d.plain = true ∧ PyData.plainAll ds = true ∧ d.depth ≤ 60 ∧ Q (.bl (if neg = true then !ds.any fun z => PyData.eqv z d else ds.any fun z => PyData.eqv z d)) H
def rInDc (neg : Bool) : R2 := fun y x H Q => ∃ a o, x = .ref a ∧ DGet H a y o ∧ Q (.bl (if neg = true then !o.isSome else o.isSome)) H
def rInA (K : Fg) (neg : Bool) : R2 := fun x y H Q => (rIn K neg x y H Q ∨ rInW K neg x y H Q) ∨ rInDc neg x y H Q
theorem roomIn {d : D} {ds : List D} (h : d.depth ≤ 60) (hu : X.A.units + 64 < cLine) : X.A.units + 1 + min (PyData.depthAll ds) d.depth < cLine := by
  have h2 : min (PyData.depthAll ds) d.depth ≤ d.depth := Nat.min_le_right _ _
  omega
theorem op_inW (hu : X.A.units + 64 < cLine) : OpR X (compareOp .In) (rInW X.K false) := by
  intro pins s σ H x y v u Q I rx ry ⟨d, ds, hd, he, pd, pds, dd, q⟩
  obtain ⟨as, r1⟩ := Dp.reads I d x v hd rx
  rcases he with he | he
  · obtain ⟨bs, r2⟩ := Dp.reads I (.list ds) y u he ry
    exact SeqAt.in_list_data r2 r1 pds pd (roomIn dd hu) ⟨.bl _, H, I, rfl, q⟩
  · obtain ⟨bs, r2⟩ := Dp.reads I (.tuple ds) y u he ry
    exact SeqAt.in_tuple_data r2 r1 pds pd (roomIn dd hu) ⟨.bl _, H, I, rfl, q⟩
theorem op_ninW (hu : X.A.units + 64 < cLine) : OpR X (compareOp .NotIn) (rInW X.K true) := by
  intro pins s σ H x y v u Q I rx ry ⟨d, ds, hd, he, pd, pds, dd, q⟩
  obtain ⟨as, r1⟩ := Dp.reads I d x v hd rx
  rcases he with he | he
  · obtain ⟨bs, r2⟩ := Dp.reads I (.list ds) y u he ry
    exact SeqAt.notIn_list_data r2 r1 pds pd (roomIn dd hu) ⟨.bl _, H, I, rfl, q⟩
  · obtain ⟨bs, r2⟩ := Dp.reads I (.tuple ds) y u he ry
    exact SeqAt.notIn_tuple_data r2 r1 pds pd (roomIn dd hu) ⟨.bl _, H, I, rfl, q⟩
theorem op_inDc (hu : X.A.units + 64 < cLine) : OpR X (compareOp .In) (rInDc false) := by
  intro pins s σ H y x u v Q I ry rx ⟨a, o, e, g, q⟩
  subst e
  obtain rfl : v = Value.ref a := rx
  exact d_in (by omega) I g ry fun s3 I3 => ⟨.bl _, H, I3, rfl, q⟩
theorem op_ninDc (hu : X.A.units + 64 < cLine) : OpR X (compareOp .NotIn) (rInDc true) := by
  intro pins s σ H y x u v Q I ry rx ⟨a, o, e, g, q⟩
  subst e
  obtain rfl : v = Value.ref a := rx
  exact d_notIn (by omega) I g ry fun s3 I3 => ⟨.bl _, H, I3, rfl, q⟩
theorem op_inA (hu : X.A.units + 64 < cLine) : OpR X (compareOp .In) (rInA X.K false) := OpR.or (OpR.or op_in_seq (op_inW hu)) (op_inDc hu)
theorem op_ninA (hu : X.A.units + 64 < cLine) : OpR X (compareOp .NotIn) (rInA X.K true) := OpR.or (OpR.or op_notIn_seq (op_ninW hu)) (op_ninDc hu)
theorem opy_in (neg : Bool) : OpY G (rInA G.K neg) (dInN neg) := by
  intro H O x y d e z Q hO rx ry hz hq
  have fin : ∀ {p : Addr} {vs : List V} {ds : List D}, RDs G.K H O vs ds → (SqL G.K H p vs ∧ (PyData.plainAll ds = true → Dp G.K H (.ref p) (.list ds)) ∨ SqT G.K H p vs ∧ (PyData.plainAll ds = true → Dp G.K H (.ref p) (.tuple ds))) → dInSeq neg d ds = some z → rInA G.K neg x (.ref p) H Q := fun {p vs ds} r hs hz => by
    unfold dInSeq at hz
    split at hz
    · rename_i h
      cases hz
      rcases h with h | h
      · refine .inl (.inl ⟨p, vs, rfl, hs.imp (·.1) (·.1), flat_rd rx h.1, flat_all r h.2, hq _ _ (fun _ _ h => h) ?_⟩)
        rw [inV_eqv rx h.1 r h.2]
        exact .bl _
      · unfold deepOk at h
        rw [Bool.and_eq_true, Bool.and_eq_true, decide_eq_true_eq] at h
        exact .inl (.inr ⟨d, ds, rx.dp h.1, hs.imp (·.2 h.2.1) (·.2 h.2.1), h.1, h.2.1, h.2.2, hq _ _ (fun _ _ h => h) (.bl _)⟩)
    · cases hz
  have dc : ∀ {es : Es}, e = .dict es → rInA G.K neg x y H Q := fun {es} he => by
    subst he
    have hz : (dGet (.dict es) d).map (fun o => PyData.bool (if neg = true then !o.isSome else o.isSome)) = some z := hz
    cases g : dGet (.dict es) d with
    | none => rw [g] at hz; cases hz
    | some o =>
      rw [g] at hz
      cases hz
      obtain ⟨a, ov, rfl, _, g2, m⟩ := dget_rx ry rx g
      have eo : ov.isSome = o.isSome := by
        cases ov with
        | none => rw [show o = none from m]; rfl
        | some v => obtain ⟨w, e2, _⟩ := m; rw [e2]; rfl
      exact .inr ⟨a, ov, rfl, g2, hq _ _ (fun _ _ h => h) (by rw [eo]; exact .bl _)⟩
  cases ry with
  | rd ry =>
    cases e with
    | list ds =>
      cases ry with
      | lst h1 h2 h3 => exact fin h3 (.inl ⟨h1.sq, fun p => .lst h1.sq (h3.dp p)⟩) hz
    | tuple ds =>
      cases ry with
      | tup h1 h2 h3 => exact fin h3 (.inr ⟨h1.sq, fun p => .tup h1.sq (h3.dp p)⟩) hz
    | dict es => exact dc rfl
    | _ => cases hz
  | lst h1 h2 h3 => exact fin h3 (.inl ⟨.inl (.inl h1), fun p => .lst (.inl (.inl h1)) (h3.dp p)⟩) hz
  | @od a t es o =>
    cases t with
    | false => exact dc rfl
    | true => exact dc rfl
theorem ops_in (neg : Bool) : OpS G (rInA G.K neg) (dInN neg) := (opy_in neg).s
def dIn : D → D → Option D := dInN false
def dNotIn : D → D → Option D := dInN true
/-! ### xs[i], xs[a:b] -/
def dIx : D → D → Option D
  | .list ds, .int i => atI ds i
  | .tuple ds, .int i => atI ds i
  | .str z, .int i => if z.length ≤ sizeLine then (atI z.cps.toList i).map fun c => .str ⟨#[c]⟩ else none
  | .dict es, k => (dGet (.dict es) k).join
  | _, _ => none
theorem RDs.atI {K : Fg} {H : Hp} {O : AS} {vs : List V} {ds : List D} {i : Int} {d : D} (r : RDs K H O vs ds) (h : L2.atI ds i = some d) : ∃ v, L2.atI vs i = some v ∧ RD K H O v d := by
  unfold L2.atI at h ⊢
  rw [r.length]
  cases e : ixN ds.length i with
  | none => rw [e] at h; cases h
  | some j =>
    rw [e] at h
    obtain ⟨v, h1, h2⟩ := r.get h
    exact ⟨v, h1, h2⟩
def rIxDc : R2 := fun x y H Q => ∃ a v, x = .ref a ∧ DGet H a y (some v) ∧ Q v H
def rIxA (K : Fg) : R2 := fun x y H Q => rIx K x y H Q ∨ rIxDc x y H Q
theorem ix_dc (hu : X.A.units + 64 < cLine) : IxR X rIxDc := by
  intro value slice pins s σ H x y v u Q I rx ry ⟨a, z, e, g, q⟩ hs
  subst e
  obtain rfl : v = Value.ref a := rx
  exact PyProof.Rows.tail_any (dict_typeIs I g) PySem.F.slot_dict_getitem.lookup (d_getItem (by omega) I g ry fun w s' I' rw' => ⟨z, H, I', rw', q⟩) hs
theorem ix_A (hu : X.A.units + 64 < cLine) : IxR X (rIxA X.K) := ix_seq.or (ix_dc hu)
theorem opx_ix : OpX G (rIxA G.K) dIx := by
  intro H O x y d e z Q hO rx ry hz hq
  have dc : ∀ {es : Es}, d = .dict es → rIxA G.K x y H Q := fun {es} he => by
    subst he
    have hz : (dGet (.dict es) e).join = some z := hz
    cases g : dGet (.dict es) e with
    | none => rw [g] at hz; cases hz
    | some o =>
      rw [g] at hz
      obtain ⟨a, ov, rfl, _, g2, m⟩ := dget_rx rx ry g
      cases ov with
      | none => rw [show o = none from m] at hz; cases hz
      | some v =>
        obtain ⟨w, e2, r2⟩ := m
        rw [e2] at hz
        cases hz
        exact .inr ⟨a, v, rfl, g2, hq _ _ (fun _ _ h => h) r2⟩
  have ls : ∀ {a : Addr} {xs : List V} {ds : List D}, x = .ref a → d = .list ds → SqL G.K H a xs → RDs G.K H O xs ds → rIxA G.K x y H Q := fun {a xs ds} ex ed hs r => by
    subst ex ed
    cases ry with
    | int i =>
      obtain ⟨v, e1, e2⟩ := r.atI hz
      exact .inl (.inl ⟨_, _, i, v, rfl, rfl, hs, e1, hq _ _ (fun _ _ h => h) e2⟩)
    | _ => cases hz
  cases rx with
  | rd rx =>
    cases d with
    | list ds =>
      cases rx with
      | lst h1 h2 h3 => exact ls rfl rfl h1.sq h3
    | tuple ds =>
      cases rx with
      | tup h1 h2 h3 =>
        cases ry with
        | int i =>
          obtain ⟨v, e1, e2⟩ := h3.atI hz
          exact .inl (.inr (.inl ⟨_, _, i, v, rfl, rfl, h1.sq, e1, hq _ _ (fun _ _ h => h) e2⟩))
        | _ => cases hz
    | str z0 =>
      cases rx
      cases ry with
      | int i =>
        simp only [dIx] at hz
        split at hz
        · rename_i hl
          cases e : L2.atI z0.cps.toList i with
          | none => rw [e] at hz; cases hz
          | some c =>
            rw [e] at hz
            cases hz
            exact .inl (.inr (.inr ⟨z0, i, c, rfl, rfl, hl, e, hq _ _ (fun _ _ h => h) (.str _)⟩))
        · cases hz
      | _ => cases hz
    | dict es => exact dc rfl
    | _ => cases hz
  | lst h1 h2 h3 => exact ls rfl rfl (.inl (.inl h1)) h3
  | @od a t es o => cases t <;> exact dc rfl
theorem ops_ix : OpS G (rIxA G.K) dIx := opx_ix.s
theorem de_ix (ha : DE X G W a A) (hb : DE X G W b B) (hK : G.K = X.K) (hu : X.A.units + 64 < cLine) (hs : PlainIx b) : DE X G W (.Subscript a b pos) (eBin dIx A B) := ⟨pe_imp (pe_ix (r := rIxA G.K) (by rw [hK]; exact ix_A hu) ha.pe hb.pe hs) (op_tr ops_ix)⟩
/-- a slice's bound -/
abbrev DPo := En → Rs (Option Int × En)
def oNo : DPo := fun en => .ok (none, en)
def asI : D → Option Int
  | .int i => some i
  | _ => none
def oSo (a : DEn) : DPo := fun en => a en >>= fun p => liftO (asI p.1) >>= fun i => .ok (some i, p.2)
def tO (G : Gh) (W : WX) (A : DPo) : TO := fun σ H Q => ∃ en M B, Rel G en σ H M B ∧
  Post (fun p => ∀ H' M', Rel G p.2 σ H' M' B → Step H M H' M' → Q p.1 H') (EW G W σ H M B) (A en)
structure DO (X : Cx) (G : Gh) (W : WX) (e : Option Expr) (A : DPo) : Prop where po : PO X e (tO G W A)
theorem po_imp {e : Option Expr} {t t' : TO} (h : PO X e t) (i : ∀ σ H Q, t' σ H Q → t σ H Q) : PO X e t' := by
  refine ⟨fun pins s σ H Q I q => ?_⟩
  exact h.run pins s σ H Q I (i σ H Q q)
theorem do_no : DO X G W none oNo := ⟨po_imp po_none fun σ H Q ⟨en, M, Bx, rel, m⟩ => m H M rel .refl⟩
theorem asI_rd {K : Fg} {H : Hp} {O : AS} {v : V} {d : D} {i : Int} (r : RD K H O v d) (h : asI d = some i) : v = .int i := by
  cases r <;> simp [asI] at h
  subst h; rfl
theorem do_so (ha : DE X G W a A) : DO X G W (some a) (oSo A) := ⟨po_imp (po_some ha.pe) fun σ H Q ⟨en, M, Bx, rel, m⟩ =>
  ⟨en, M, Bx, rel, Post.imp (post_bind.mp m) (fun p mp v H1 M1 rel1 st1 rd1 => by
    obtain ⟨i, hi, mi⟩ := post_lift.mp mp
    exact ⟨i, asI_rd rd1 hi, mi H1 M1 rel1 st1⟩) fun _ _ _ h => h⟩⟩
def cutD (ds : List D) (lo hi : Option Int) : List D := (ds.drop (HT.sIx ds.length 0 lo)).take (HT.sIx ds.length ds.length hi - HT.sIx ds.length 0 lo)
def dSl : D → Option Int → Option Int → Option D
  | .list ds, lo, hi => some (.list (cutD ds lo hi))
  | .tuple ds, lo, hi => some (.tuple (cutD ds lo hi))
  | .str z, lo, hi => if z.length ≤ sizeLine then some (.str (cutS z lo hi)) else none
  | _, _, _ => none
theorem RDs.cut {K : Fg} {H : Hp} {O : AS} {vs : List V} {ds : List D} (r : RDs K H O vs ds) (lo hi : Option Int) : RDs K H O (cutV vs lo hi) (cutD ds lo hi) := by
  unfold cutV cutD
  rw [r.length]
  exact (r.drop _).take _
def eSl (a : DEn) (l h : DPo) : DEn := fun en => a en >>= fun p => l p.2 >>= fun q => h q.2 >>= fun r => liftO (dSl p.1 q.1 r.1) >>= fun z => .ok (z, r.2)
def rSlU (K : Fg) : V → Option Int → Option Int → Hp → VK → Prop := fun x lo hi H Q => rSlL K x lo hi H Q ∨ rSlA K x lo hi H Q ∨ rSlS x lo hi H Q
theorem sl_any : SlR X (rSlU X.K) := SlR.or sl_list (SlR.or sl_tupA sl_str)
theorem sls {H : Hp} {O : AS} {x : V} {d z : D} {lo hi : Option Int} {Q : VK} (hO : ∀ a, O a → H a ≠ none) (rx : RD G.K H O x d) (hz : dSl d lo hi = some z) (hq : ∀ v H', Ext H H' → RD G.K H' O v z → Q v H') : rSlU G.K x lo hi H Q := by
  cases rx with
  | lst h1 h2 h3 =>
    cases hz
    exact .inl ⟨_, _, rfl, h1.sq, fun p hp => hq _ _ (ext_new hp) (new_lst hO (h3.cut lo hi) (Nat.le_trans (cutV_length _ _ _) h2) hp)⟩
  | @tup p0 xs ds h1 h2 h3 =>
    cases hz
    refine .inr (.inl ⟨_, _, rfl, h1.sq, fun w => ?_, fun _ p hp => hq _ _ (ext_new hp) (new_tup hO (h3.cut lo hi) (Nat.le_trans (cutV_length _ _ _) h2) hp)⟩)
    have e : cutD ds lo hi = ds := by
      unfold cutD
      rw [← h3.length, w.1, w.2, List.drop_zero, Nat.sub_zero, h3.length, List.take_length]
    rw [e] at hq
    exact hq _ _ (fun _ _ h => h) (.tup h1 h2 h3)
  | str z0 =>
    simp only [dSl] at hz
    split at hz
    · rename_i hl
      cases hz
      exact .inr (.inr ⟨z0, rfl, hl, hq _ _ (fun _ _ h => h) (.str _)⟩)
    · cases hz
  | _ => cases hz
theorem de_sl {l h : Option Expr} {L Hh : DPo} {p2 : Pos} (hK : G.K = X.K) (ha : DE X G W a A) (hl : DO X G W l L) (hh : DO X G W h Hh) : DE X G W (.Subscript a (.Slice l h none p2) pos) (eSl A L Hh) := by
  refine ⟨pe_imp (pe_slice (r := rSlU X.K) sl_any ha.pe hl.po hh.po) fun σ H Q ⟨en, M, Bx, rel, m⟩ => ?_⟩
  rw [← hK]
  exact ⟨en, M, Bx, rel, Post.imp (post_bind.mp m) (fun p mp v H1 M1 rel1 st1 rd1 => ⟨p.2, M1, Bx, rel1, Post.imp (post_bind.mp mp) (fun q mq H2 M2 rel2 st2 => ⟨q.2, M2, Bx, rel2, Post.imp (post_bind.mp mq) (fun r mr H3 M3 rel3 st3 => by
    obtain ⟨z, hz, mz⟩ := post_lift.mp mr
    exact sls rel3.avh ((rd1.step st2).step st3) hz fun u H' ext rd => mz u H' M3 (rel3.ext ext) (((st1.trans st2).trans st3).trans (.ext ext)) rd) fun _ _ _ h => (h.step st1).step st2⟩) fun _ _ _ h => h.step st1⟩) fun _ _ _ h => h⟩
/-! ### built-ins of one argument and more -/
def dLen : List D → Option D
  | [.list ds] => some (.int ds.length)
  | [.tuple ds] => some (.int ds.length)
  | [.str z] => if z.length ≤ sizeLine then some (.int z.length) else none
  | [.dict es] => (unDc (.dict es)).map fun p => .int p.2.length
  | _ => none
def rLenA0 (K : Fg) : List V → Hp → VK → Prop := fun xs H Q => (∃ p ys, xs = [.ref p] ∧ (SqL K H p ys ∨ SqT K H p ys) ∧ Q (.int ys.length) H) ∨ ∃ z, xs = [.str z] ∧ z.length ≤ sizeLine ∧ Q (.int z.length) H
theorem cr_lenA0 : CallR X (.builtin "len") (rLenA0 X.K) := CallR.or call_len_seq call_len_str
def rLenK : List V → Hp → VK → Prop := fun xs H Q => ∃ a kvs, xs = [V.ref a] ∧ H a = some (.dK kvs) ∧ Q (.int kvs.length) H
def rLenA (K : Fg) : List V → Hp → VK → Prop := fun xs H Q => rLenA0 K xs H Q ∨ rLenK xs H Q ∨ rLenT xs H Q
theorem cr_lenA : CallR X (.builtin "len") (rLenA X.K) := CallR.or cr_lenA0 (CallR.or call_lenD call_len_dT)
theorem one_of {K : Fg} {H : Hp} {O : AS} {xs : List V} {d : D} (r : RDs K H O xs [d]) : ∃ x, xs = [x] ∧ RD K H O x d := by
  cases r with
  | cons h t => cases t; exact ⟨_, rfl, h⟩
theorem two_of {K : Fg} {H : Hp} {O : AS} {xs : List V} {d e : D} (r : RDs K H O xs [d, e]) : ∃ x y, xs = [x, y] ∧ RD K H O x d ∧ RD K H O y e := by
  cases r with
  | cons h t =>
    obtain ⟨y, rfl, q⟩ := one_of t
    exact ⟨_, y, rfl, h, q⟩
theorem rx_len {x : V} {d z : D} {H : Hp} {O : AS} {Q : VK} (rx : RX G.K H O x d) (hz : dLen [d] = some z) (hq : ∀ v H', Ext H H' → RD G.K H' O v z → Q v H') : rLenA G.K [x] H Q := by
  have dc : ∀ {es : Es}, d = .dict es → rLenA G.K [x] H Q := fun {es} he => by
    subst he
    have hz : (unDc (.dict es)).map (fun p => PyData.int p.2.length) = some z := hz
    have hs : (unDc (.dict es)).isSome = true := by
      cases e : unDc (.dict es) with
      | none => rw [e] at hz; cases hz
      | some _ => rfl
    obtain ⟨a, t, es', rfl, od, e⟩ := rx.dcs hs
    rw [e] at hz
    cases hz
    cases t with
    | false =>
      obtain ⟨kvs, ds, h1, h2, h3, rfl⟩ := od
      have l := h3.length
      rw [List.length_map] at l
      exact .inr (.inl ⟨a, kvs, rfl, h1, hq _ _ (fun _ _ h => h) (by simp [← l]; exact .int _)⟩)
    | true =>
      obtain ⟨kvs, ds, h1, h2, h3, rfl⟩ := od
      have l := h3.length
      rw [List.length_map] at l
      exact .inr (.inr ⟨a, kvs, rfl, h1, hq _ _ (fun _ _ h => h) (by simp [← l]; exact .int _)⟩)
  cases rx with
  | rd rx =>
    cases d with
    | list ds =>
      cases hz
      cases rx with
      | lst h1 h2 h3 => exact .inl (.inl ⟨_, _, rfl, .inl h1.sq, hq _ _ (fun _ _ h => h) (by rw [h3.length]; exact .int _)⟩)
    | tuple ds =>
      cases hz
      cases rx with
      | tup h1 h2 h3 => exact .inl (.inl ⟨_, _, rfl, .inr h1.sq, hq _ _ (fun _ _ h => h) (by rw [h3.length]; exact .int _)⟩)
    | str s =>
      simp only [dLen] at hz
      split at hz
      · rename_i hl
        cases hz
        cases rx
        exact .inl (.inr ⟨_, rfl, hl, hq _ _ (fun _ _ h => h) (.int _)⟩)
      · cases hz
    | dict es => exact dc rfl
    | _ => cases hz
  | lst h1 h2 h3 =>
    cases hz
    exact .inl (.inl ⟨_, _, rfl, .inl (.inl (.inl h1)), hq _ _ (fun _ _ h => h) (by rw [h3.length]; exact .int _)⟩)
  | @od a t es o => cases t <;> exact dc rfl
theorem cls_len : ClS G (rLenA G.K) dLen := by
  intro H O xs ds z Q hO r hz hq
  have one : ∃ d, ds = [d] := by
    rcases ds with _ | ⟨d, _ | ⟨d2, r2⟩⟩
    · cases hz
    · exact ⟨d, rfl⟩
    · exact absurd hz (by simp [dLen])
  obtain ⟨d, rfl⟩ := one
  obtain ⟨x, rfl, rx⟩ := one_of r
  exact rx_len (.rd rx) hz hq
def dList : List D → Option D
  | [.list ds] => some (.list ds)
  | [.tuple ds] => some (.list ds)
  | _ => none
theorem cls_list : ClS G (fun xs H Q => ∃ p ys, xs = [.ref p] ∧ (SqL G.K H p ys ∨ SqT G.K H p ys) ∧ ∀ l, H l = none → Q (.ref l) (upd H l (.lst ys))) dList := by
  intro H O xs ds z Q hO r hz hq
  unfold dList at hz
  split at hz
  · obtain ⟨x, rfl, rx⟩ := one_of r
    cases hz
    cases rx with
    | lst h1 h2 h3 => exact ⟨_, _, rfl, .inl h1.sq, fun l hl => hq _ _ (ext_new hl) (new_lst hO h3 h2 hl)⟩
  · obtain ⟨x, rfl, rx⟩ := one_of r
    cases hz
    cases rx with
    | tup h1 h2 h3 => exact ⟨_, _, rfl, .inr h1.sq, fun l hl => hq _ _ (ext_new hl) (new_lst hO h3 h2 hl)⟩
  · cases hz
def dTuple : List D → Option D
  | [.list ds] => some (.tuple ds)
  | [.tuple ds] => some (.tuple ds)
  | _ => none
theorem cls_tuple : ClS G (fun xs H Q => ∃ p ys, xs = [.ref p] ∧ ((SqL G.K H p ys ∧ ∀ l, H l = none → Q (.ref l) (upd H l (.tup ys))) ∨ (SqT G.K H p ys ∧ Q (.ref p) H))) dTuple := by
  intro H O xs ds z Q hO r hz hq
  unfold dTuple at hz
  split at hz
  · obtain ⟨x, rfl, rx⟩ := one_of r
    cases hz
    cases rx with
    | lst h1 h2 h3 => exact ⟨_, _, rfl, .inl ⟨h1.sq, fun l hl => hq _ _ (ext_new hl) (new_tup hO h3 h2 hl)⟩⟩
  · obtain ⟨x, rfl, rx⟩ := one_of r
    cases hz
    cases rx with
    | tup h1 h2 h3 => exact ⟨_, _, rfl, .inr ⟨h1.sq, hq _ _ (fun _ _ h => h) (.tup h1 h2 h3)⟩⟩
  · cases hz
def dInt : List D → Option D
  | [.int i] => some (.int i)
  | [.bool b] => some (.int (if b then 1 else 0))
  | _ => none
theorem cls_int : ClS G (fun xs H Q => (∃ i, xs = [.int i] ∧ Q (.int i) H) ∨ ∃ k, xs = [.bl k] ∧ Q (.int (if k then 1 else 0)) H) dInt := by
  intro H O xs ds z Q hO r hz hq
  unfold dInt at hz
  split at hz
  · obtain ⟨x, rfl, rx⟩ := one_of r
    cases hz
    cases rx
    exact .inl ⟨_, rfl, hq _ _ (fun _ _ h => h) (.int _)⟩
  · obtain ⟨x, rfl, rx⟩ := one_of r
    cases hz
    cases rx
    exact .inr ⟨_, rfl, hq _ _ (fun _ _ h => h) (.int _)⟩
  · cases hz
def dAbs : List D → Option D
  | [.int i] => some (.int (if i < 0 then -i else i))
  | _ => none
theorem cls_abs : ClS G (fun xs H Q => ∃ i, xs = [.int i] ∧ Q (.int (if i < 0 then -i else i)) H) dAbs := by
  intro H O xs ds z Q hO r hz hq
  unfold dAbs at hz
  split at hz
  · obtain ⟨x, rfl, rx⟩ := one_of r
    cases hz
    cases rx
    exact ⟨_, rfl, hq _ _ (fun _ _ h => h) (.int _)⟩
  · cases hz
def dStr : List D → Option D
  | [.int i] => if i.natAbs.log2 < 1920 then some (.str (toString i)) else none
  | [.str z] => some (.str z)
  | _ => none
def rStrA : List V → Hp → VK → Prop := fun xs H Q => (∃ i, xs = [.int i] ∧ i.natAbs.log2 < 1920 ∧ Q (.str (toString i)) H) ∨ ∃ a, xs = [.str a] ∧ Q (.str a) H
theorem cr_strA : CallR X (.type "str") rStrA := CallR.or call_str_int SkE.call_str_str
theorem cls_str : ClS G rStrA dStr := by
  intro H O xs ds z Q hO r hz hq
  unfold dStr at hz
  split at hz
  · obtain ⟨x, rfl, rx⟩ := one_of r
    split at hz
    · rename_i hl
      cases hz
      cases rx
      exact .inl ⟨_, rfl, hl, hq _ _ (fun _ _ h => h) (.str _)⟩
    · cases hz
  · obtain ⟨x, rfl, rx⟩ := one_of r
    cases hz
    cases rx
    exact .inr ⟨_, rfl, hq _ _ (fun _ _ h => h) (.str _)⟩
  · cases hz
/-! ### lists of one kind -/
def allO {α : Type} (f : D → Option α) : List D → Option (List α)
  | [] => some []
  | d :: ds => (f d).bind fun a => (allO f ds).map fun r => a :: r
def asS : D → Option Str
  | .str z => some z
  | _ => none
theorem asS_rd {K : Fg} {H : Hp} {O : AS} {v : V} {d : D} {i : Str} (r : RD K H O v d) (h : asS d = some i) : v = .str i := by
  cases r <;> simp [asS] at h
  subst h; rfl
theorem allO_rd {α : Type} {f : D → Option α} {g : α → V} (hf : ∀ {K : Fg} {H : Hp} {O : AS} {v : V} {d : D} {x : α}, RD K H O v d → f d = some x → v = g x) {K : Fg} {H : Hp} {O : AS} :
    ∀ {vs : List V} {ds : List D} {as : List α}, RDs K H O vs ds → allO f ds = some as → vs = as.map g
  | _, _, _, .nil, h => by cases h; rfl
  | _, d :: ds, _, .cons h r, e => by
    unfold allO at e
    cases e1 : f d with
    | none => rw [e1] at e; cases e
    | some x =>
      rw [e1] at e
      cases e2 : allO f ds with
      | none => rw [e2] at e; cases e
      | some l =>
        rw [e2] at e
        cases e
        rw [hf h e1, allO_rd hf r e2]
        rfl
def dOfL {α : Type} (f : D → Option α) (g : List α → Option D) : List D → Option D
  | [.list ds] => (allO f ds).bind g
  | _ => none
theorem ofL_rd {α : Type} {f : D → Option α} {h : α → V} (hf : ∀ {K : Fg} {H : Hp} {O : AS} {v : V} {d : D} {x : α}, RD K H O v d → f d = some x → v = h x) {g : List α → Option D} {K : Fg} {H : Hp} {O : AS} {xs : List V} {ds : List D} {z : D}
    (r : RDs K H O xs ds) (e : dOfL f g ds = some z) : ∃ p as, xs = [.ref p] ∧ SqL K H p (as.map h) ∧ g as = some z := by
  unfold dOfL at e
  split at e
  · rename_i ds'
    obtain ⟨x, rfl, rx⟩ := one_of r
    cases rx with
    | lst h1 h2 h3 =>
      cases e1 : allO f ds' with
      | none => rw [e1] at e; cases e
      | some l =>
        rw [e1] at e
        have q := allO_rd hf h3 e1
        subst q
        exact ⟨_, l, rfl, h1.sq, e⟩
  · cases e
def dSum : List D → Option D := dOfL asI fun ns => some (.int ns.sum)
theorem cls_sum : ClS G (rSum G.K) dSum := by
  intro H O xs ds z Q hO r hz hq
  obtain ⟨p, as, rfl, hs, e⟩ := ofL_rd (h := V.int) asI_rd r hz
  cases e
  exact ⟨p, as, rfl, hs, hq _ _ (fun _ _ h => h) (.int _)⟩
def dAll : List D → Option D := dOfL asB fun bs => some (.bool (bs.all id))
theorem cls_all : ClS G (rAll G.K) dAll := by
  intro H O xs ds z Q hO r hz hq
  obtain ⟨p, as, rfl, hs, e⟩ := ofL_rd (h := V.bl) asB_rd r hz
  cases e
  exact ⟨p, as, rfl, hs, hq _ _ (fun _ _ h => h) (.bl _)⟩
def dAny : List D → Option D := dOfL asB fun bs => some (.bool (bs.any id))
theorem cls_any : ClS G (rAny G.K) dAny := by
  intro H O xs ds z Q hO r hz hq
  obtain ⟨p, as, rfl, hs, e⟩ := ofL_rd (h := V.bl) asB_rd r hz
  cases e
  exact ⟨p, as, rfl, hs, hq _ _ (fun _ _ h => h) (.bl _)⟩
/-! ### sep.join(texts), s.split(sep) -/
def dJoin : D → List D → Option D
  | .str a, [.list ds] => (allO asS ds).bind fun ys => if (ys.map (·.length)).sum + ys.length * a.length ≤ 16777216 then some (.str (Txt.join a ys)) else none
  | .str a, [.tuple ds] => (allO asS ds).bind fun ys => if (ys.map (·.length)).sum + ys.length * a.length ≤ 16777216 then some (.str (Txt.join a ys)) else none
  | _, _ => none
def asStr : D → Option Unit
  | .str _ => some ()
  | _ => none
def eM1 (f : D → List D → Option D) (o a : DEn) : DEn := fun en => o en >>= fun p => liftO (asStr p.1) >>= fun _ => a p.2 >>= fun q => liftO (f p.1 [q.1]) >>= fun z => .ok (z, q.2)
def MtS (G : Gh) (r : V → List V → Hp → VK → Prop) (f : D → List D → Option D) : Prop := ∀ (H : Hp) (O : AS) (x : V) (xs : List V) (d z : D) (ds : List D) (Q : VK), (∀ a, O a → H a ≠ none) → RD G.K H O x d → RDs G.K H O xs ds → f d ds = some z →
  (∀ v H', Ext H H' → RD G.K H' O v z → Q v H') → r x xs H Q
theorem m1_tr {r : V → List V → Hp → VK → Prop} {f : D → List D → Option D} (hs : MtS G r f) : ∀ σ H Q, tE G W (eM1 f A B) σ H Q → tM1 r (tE G W A) (tE G W B) σ H Q := fun σ H Q ⟨en, M, Bx, rel, m⟩ =>
  ⟨en, M, Bx, rel, Post.imp (post_bind.mp m) (fun p mp v H1 M1 rel1 st1 rd1 => by
    obtain ⟨u, hu, mu⟩ := post_lift.mp mp
    refine ⟨?_, p.2, M1, Bx, rel1, Post.imp (post_bind.mp mu) (fun q mq w H2 M2 rel2 st2 rd2 => ?_) fun _ _ _ h => h.step st1⟩
    · generalize hd : p.1 = d at rd1 hu
      cases rd1 <;> first | exact ⟨_, rfl⟩ | cases hu
    · obtain ⟨z, hz, mz⟩ := post_lift.mp mq
      exact hs H2 _ v [w] p.1 z [q.1] Q rel2.avh (rd1.step st2) (.one rd2) hz fun u H' ext rd => mz u H' M2 (rel2.ext ext) ((st1.trans st2).trans (.ext ext)) rd) fun _ _ _ h => h⟩
def rJoin (K : Fg) : V → List V → Hp → VK → Prop := fun x xs H Q => ∃ a p, ∃ ys : List Str, x = .str a ∧ xs = [.ref p] ∧ (SqL K H p (ys.map V.str) ∨ SqT K H p (ys.map V.str)) ∧
  (ys.map (·.length)).sum + ys.length * a.length ≤ 16777216 ∧ Q (.str (Txt.join a ys)) H
theorem mts_join : MtS G (rJoin G.K) dJoin := by
  intro H O x xs d z ds Q hO rx r hz hq
  unfold dJoin at hz
  split at hz
  · rename_i a ds'
    obtain ⟨y, rfl, ry⟩ := one_of r
    cases rx
    cases ry with
    | lst h1 h2 h3 =>
      cases e1 : allO asS ds' with
      | none => rw [e1] at hz; cases hz
      | some l =>
        rw [e1] at hz
        simp only [Option.bind_some] at hz
        split at hz
        · rename_i hl
          cases hz
          have q := allO_rd (g := V.str) asS_rd h3 e1
          subst q
          exact ⟨a, _, l, rfl, rfl, .inl h1.sq, hl, hq _ _ (fun _ _ h => h) (.str _)⟩
        · cases hz
  · rename_i a ds'
    obtain ⟨y, rfl, ry⟩ := one_of r
    cases rx
    cases ry with
    | tup h1 h2 h3 =>
      cases e1 : allO asS ds' with
      | none => rw [e1] at hz; cases hz
      | some l =>
        rw [e1] at hz
        simp only [Option.bind_some] at hz
        split at hz
        · rename_i hl
          cases hz
          have q := allO_rd (g := V.str) asS_rd h3 e1
          subst q
          exact ⟨a, _, l, rfl, rfl, .inr h1.sq, hl, hq _ _ (fun _ _ h => h) (.str _)⟩
        · cases hz
  · cases hz
theorem de_join {apos : Pos} (hK : G.K = X.K) (ho : DE X G W a A) (he : DE X G W b B) (hs : starEach [b] X.env = [(false, eval b X.env)] := by rfl) (hbase : attributeBase a "join" X.env (eval a X.env) = eval a X.env := by rfl) (hline : (apos.endLine == pos.line) = true := by rfl) :
    DE X G W (.Call (.Attribute a "join" apos) [b] [] pos) (eM1 dJoin A B) := by
  refine ⟨pe_imp (pe_join ho.pe he.pe hs hbase hline) fun σ H Q h => ?_⟩
  have q := m1_tr (G := G) mts_join σ H Q h
  rw [hK] at q
  exact q
end
end DL

namespace DL
open PySem L2
section
variable {X : Cx} {G : Gh} {W : WX} {pos : Pos} {a b : Expr} {es : List Expr} {A B : DEn} {As : DAs}
/-! ### sorted, min, max of alike data -/
def dle (a b : D) : Bool := !PySem.W.dataLt b a
theorem dle_eq : PySem.W.dataLe false (id : D → D) = dle := rfl
def nonEmptyT : D → Bool
  | .tuple (_ :: _) => true
  | _ => false
def noTuple : D → Bool
  | .none => false
  | .tuple _ => false
  | _ => true
def srtOk (ds : List D) : Bool := (ds.all fun d => ds.all fun e => PySem.W.alike d e) && ((ds.all nonEmptyT || ds.all noTuple) && ds.all fun d => decide (d.depth ≤ 32))
mutual
theorem plain_alike : ∀ d : D, PySem.W.alike d d = true → d.plain = true
  | .none, _ => rfl
  | .bool _, _ => rfl
  | .int _, _ => rfl
  | .str _, _ => rfl
  | .list xs, h => plains_alike xs h
  | .tuple xs, h => plains_alike xs h
  | .dict _, h => nomatch h
theorem plains_alike : ∀ xs : List D, PySem.W.alikeAll xs xs = true → PyData.plainAll xs = true
  | [], _ => rfl
  | x :: xs, h => Bool.and_eq_true_iff.mpr ⟨plain_alike x (Bool.and_eq_true_iff.mp h).1, plains_alike xs (Bool.and_eq_true_iff.mp h).2⟩
end
theorem plainAll_of : ∀ {xs : List D}, (∀ d ∈ xs, d.plain = true) → PyData.plainAll xs = true
  | [], _ => rfl
  | x :: xs, h => Bool.and_eq_true_iff.mpr ⟨h x List.mem_cons_self, plainAll_of fun d hd => h d (List.mem_cons_of_mem _ hd)⟩
theorem plain_srt {ds : List D} (h : srtOk ds = true) : PyData.plainAll ds = true := plainAll_of fun d hd => by
  have := (Bool.and_eq_true_iff.mp h).1
  exact plain_alike d (List.all_eq_true.mp (List.all_eq_true.mp this d hd) d hd)
mutual
theorem plain_noDict : ∀ d : D, d.hasDict = false → d.plain = true
  | .none, _ => rfl
  | .bool _, _ => rfl
  | .int _, _ => rfl
  | .str _, _ => rfl
  | .list xs, h => plains_noDict xs (by simpa only [PyData.hasDict] using h)
  | .tuple xs, h => plains_noDict xs (by simpa only [PyData.hasDict] using h)
  | .dict _, h => absurd h (by simp [PyData.hasDict])
theorem plains_noDict : ∀ xs : List D, PyData.hasDictAll xs = false → PyData.plainAll xs = true
  | [], _ => rfl
  | x :: xs, h => by
    simp only [PyData.hasDictAll, Bool.or_eq_false_iff] at h
    exact Bool.and_eq_true_iff.mpr ⟨plain_noDict x h.1, plains_noDict xs h.2⟩
end
def dSorted : List D → Option D
  | [.list ds] => if srtOk ds = true then some (.list (ds.mergeSort dle)) else none
  | _ => none
theorem srtOk_of {ds : List D} (h : srtOk ds = true) : PySem.W.AllAlike ds ∧ PySem.W.Sortable ds ∧ ∀ d ∈ ds, d.depth ≤ 32 := by
  unfold srtOk at h
  rw [Bool.and_eq_true, Bool.and_eq_true, Bool.or_eq_true, List.all_eq_true, List.all_eq_true, List.all_eq_true, List.all_eq_true] at h
  refine ⟨fun d hd e he => List.all_eq_true.mp (h.1 d hd) e he, ?_, fun d hd => of_decide_eq_true (h.2.2 d hd)⟩
  rcases h.2.1 with q | q
  · refine .inl fun d hd => ?_
    have := q d hd
    cases d with
    | tuple xs =>
      cases xs with
      | nil => cases this
      | cons x r => exact ⟨x, r, rfl⟩
    | _ => cases this
  · refine .inr fun d hd => ⟨fun z => ?_, fun xs z => ?_⟩
    · have := q d hd
      subst z
      exact absurd this (by simp [noTuple])
    · have := q d hd
      subst z
      exact absurd this (by simp [noTuple])
/-- the i-th value with the i-th datum -/
def Both (xs : List V) (ds : List D) (y : V) (d : D) : Prop := ∃ i : Nat, xs[i]? = some y ∧ ds[i]? = some d
def rSortedD (K : Fg) : List V → Hp → VK → Prop := fun vs H Q => ∃ (a : Addr) (xs : List V) (ds : List D), vs = [V.ref a] ∧ SqL K H a xs ∧ DpAll K H xs ds ∧ srtOk ds = true ∧ xs.length ≤ sizeLine ∧
  ∀ (ys : List V) (p : Addr), PySem.W.EachIs (Both xs ds) ys (ds.mergeSort dle) → ys.length = xs.length → H p = none → Q (.ref p) (upd H p (.lst ys))
theorem dpAll_length {K : Fg} {H : Hp} : ∀ {xs : List V} {ds : List D}, DpAll K H xs ds → xs.length = ds.length
  | _, _, .nil => rfl
  | _, _, .cons _ r => by rw [List.length_cons, List.length_cons, dpAll_length r]
theorem dpAll_get {K : Fg} {H : Hp} : ∀ {xs : List V} {ds : List D} {i : Nat} {d : D}, DpAll K H xs ds → ds[i]? = some d → ∃ v, xs[i]? = some v ∧ Dp K H v d
  | _, _, _, _, .nil, e => by simp at e
  | _, _, 0, _, .cons h _, e => by
    have e' := Option.some.inj (by simpa using e)
    subst e'
    exact ⟨_, rfl, h⟩
  | _, _, i + 1, d, .cons _ r, e => by
    obtain ⟨v, h1, h2⟩ := dpAll_get (i := i) (d := d) r (by simpa using e)
    exact ⟨v, by simpa using h1, h2⟩
theorem each_of_ix {α β : Type} {R : α → β → Prop} : ∀ {as : List α} {bs : List β}, as.length = bs.length → (∀ (i : Nat) a b, as[i]? = some a → bs[i]? = some b → R a b) → PySem.W.EachIs R as bs
  | [], [], _, _ => .nil
  | [], _ :: _, h, _ => by simp at h
  | _ :: _, [], h, _ => by simp at h
  | a :: as, b :: bs, h, f => .cons (f 0 a b rfl rfl) (each_of_ix (by simpa using h) fun i x y h1 h2 => f (i + 1) x y (by simpa using h1) (by simpa using h2))
theorem each_map_fst {α β γ : Type} {R : α → β → Prop} {S : γ → β → Prop} {T : γ → α → Prop} (f : ∀ a b, R a b → ∃ c, T c a ∧ S c b) : ∀ {as : List α} {bs : List β}, PySem.W.EachIs R as bs → ∃ cs, PySem.W.EachIs T cs as ∧ PySem.W.EachIs S cs bs
  | _, _, .nil => ⟨[], .nil, .nil⟩
  | _, _, .cons h r => by
    obtain ⟨c, h1, h2⟩ := f _ _ h
    obtain ⟨cs, h3, h4⟩ := each_map_fst f r
    exact ⟨c :: cs, .cons h1 h3, .cons h2 h4⟩
theorem vals_each : ∀ {ys : List V} {us : List Value}, PySem.W.EachIs RelV ys us → Vals ys us
  | _, _, .nil => .nil
  | _, _, .cons h r => .cons h (vals_each r)
theorem cr_sortedD (hu : X.A.units + 64 < cLine) : CallR X (.builtin "sorted") (rSortedD X.K) := by
  intro pins s σ H vs us Q I r h
  obtain ⟨a, xs, ds, rfl, hs, hd, hk, hx, q⟩ := h
  obtain ⟨its, rv, hl, hz⟩ := I.list hs
  rw [Vals.ref1 r]
  obtain ⟨k1, k2, k3⟩ := srtOk_of hk
  have len1 := rv.length
  have len2 := dpAll_length hd
  have ev : PySem.W.EachIs (fun v d => ∃ y, RelV y v ∧ Both xs ds y d) its ds := each_of_ix (by omega) fun i v d h1 h2 => by
    obtain ⟨y, h3, h4⟩ := dpAll_get hd h2
    obtain ⟨u, h5, h6⟩ := rv.get h3
    rw [h1] at h5
    cases h5
    exact ⟨y, h6, i, h3, h2⟩
  have er : PySem.W.EachIs (fun v d => ∃ as, Reads s.heap v d as) its ds := each_of_ix (by omega) fun i v d h1 h2 => by
    obtain ⟨y, h3, h4⟩ := dpAll_get hd h2
    obtain ⟨u, h5, h6⟩ := rv.get h3
    rw [h1] at h5
    cases h5
    exact Dp.reads I d y _ h4 h6
  refine PySem.W.sorted_data (β := D) (enc := id) hl.isList ev er (by rw [List.map_id]; exact k1) (by rw [List.map_id]; exact k2) (by omega) (fun d hm => ?_) fun out ho he => ?_
  · have := k3 d hm
    show X.A.units + 2 + d.depth < cLine
    omega
  · obtain ⟨ys, e1, e2⟩ := each_map_fst (T := fun y v => RelV y v) (S := Both xs ds) (fun v d ⟨y, h1, h2⟩ => ⟨y, h1, h2⟩) he
    obtain ⟨ep, he'⟩ := PyProof.Rows.sortedAll_at s.heap its out.toArray
    have vy : Vals ys out := vals_each e1
    have ly : ys.length = xs.length := by rw [vy.length, ho]; omega
    refine ⟨.ref _, upd H (s.heap.objs.size + 1) (.lst ys), I.laid (t' := s.toks) (fun _ _ => PyProof.Rows.sortedAll_old) (Nat.le_succ _) ⟨by omega, out, ep, vy, he'⟩, rfl, q ys _ e2 ly (I.hok.fresh (Nat.le_succ _))⟩
theorem RDs.both {K : Fg} {H : Hp} {O : AS} {xs : List V} {ds : List D} (r : RDs K H O xs ds) : ∀ {ys : List V} {es : List D}, PySem.W.EachIs (Both xs ds) ys es → RDs K H O ys es
  | _, _, .nil => .nil
  | _, _, .cons ⟨i, h1, h2⟩ t => by
    obtain ⟨v, h3, h4⟩ := r.get h2
    rw [h1] at h3
    cases h3
    exact .cons h4 (RDs.both r t)
theorem cls_sorted : ClS G (rSortedD G.K) dSorted := by
  intro H O xs ds z Q hO r hz hq
  unfold dSorted at hz
  split at hz
  · obtain ⟨x, rfl, rx⟩ := one_of r
    split at hz
    · rename_i hk
      cases hz
      cases rx with
      | lst h1 h2 h3 =>
        refine ⟨_, _, _, rfl, h1.sq, h3.dp (plain_srt hk), hk, h2, fun ys p he hl hp => hq _ _ (ext_new hp) (new_lst hO (h3.both he) (by omega) hp)⟩
    · cases hz
  · cases hz
/-- min, max of a list -/
def mmOk (ds : List D) : Bool := (ds.all fun d => ds.all fun e => PySem.W.alike d e) && ((ds.all fun d => match d with | .none => false | _ => true) && decide (PyData.depthAll ds ≤ 60))
theorem plain_mm {ds : List D} (h : mmOk ds = true) : PyData.plainAll ds = true := plainAll_of fun d hd => by
  have := (Bool.and_eq_true_iff.mp h).1
  exact plain_alike d (List.all_eq_true.mp (List.all_eq_true.mp this d hd) d hd)
def dMinL : List D → Option D
  | [.list (d :: ds)] => if mmOk (d :: ds) = true then some (PySem.W.minD d ds) else none
  | [.int i, .int j] => some (.int (if j < i then j else i))
  | _ => none
def dMaxL : List D → Option D
  | [.list (d :: ds)] => if mmOk (d :: ds) = true then some (PySem.W.maxD d ds) else none
  | [.int i, .int j] => some (.int (if j > i then j else i))
  | _ => none
theorem mmOk_of {ds : List D} (h : mmOk ds = true) : PySem.W.AlikeAll ds ∧ PyData.depthAll ds ≤ 60 := by
  unfold mmOk at h
  rw [Bool.and_eq_true, Bool.and_eq_true, List.all_eq_true, List.all_eq_true] at h
  refine ⟨⟨fun d hd e he => List.all_eq_true.mp (h.1 d hd) e he, fun d hd z => ?_⟩, of_decide_eq_true h.2.2⟩
  have := h.2.1 d hd
  subst z
  exact absurd this (by simp)
def rBest (K : Fg) (best : D → List D → D) : List V → Hp → VK → Prop := fun vs H Q => ∃ (a : Addr) (xs : List V) (d : D) (ds : List D), vs = [V.ref a] ∧ SqL K H a xs ∧ DpAll K H xs (d :: ds) ∧ mmOk (d :: ds) = true ∧
  ∀ (i : Nat) (y : V), xs[i]? = some y → (d :: ds)[i]? = some (best d ds) → Q y H
theorem alike_mem {d : D} {ds : List D} (h : PySem.W.AlikeAll (d :: ds)) : ∀ (best : D), best ∈ d :: ds → ∀ e ∈ d :: ds, PySem.W.alike e best = true := fun b hb e he => h.1 e he b hb
theorem minD_mem (x : D) : ∀ xs : List D, PySem.W.minD x xs ∈ x :: xs := by
  intro xs
  induction xs generalizing x with
  | nil => exact List.mem_cons_self
  | cons y ys ih =>
    show List.foldl _ (if PySem.W.dataLt y x then y else x) ys ∈ _
    have := ih (if PySem.W.dataLt y x then y else x)
    unfold PySem.W.minD at this
    rcases List.mem_cons.mp this with e | m
    · rw [e]
      split
      · exact List.mem_cons_of_mem _ List.mem_cons_self
      · exact List.mem_cons_self
    · exact List.mem_cons_of_mem _ (List.mem_cons_of_mem _ m)
theorem maxD_mem (x : D) : ∀ xs : List D, PySem.W.maxD x xs ∈ x :: xs := by
  intro xs
  induction xs generalizing x with
  | nil => exact List.mem_cons_self
  | cons y ys ih =>
    show List.foldl _ (if PySem.W.dataLt x y then y else x) ys ∈ _
    have := ih (if PySem.W.dataLt x y then y else x)
    unfold PySem.W.maxD at this
    rcases List.mem_cons.mp this with e | m
    · rw [e]
      split
      · exact List.mem_cons_of_mem _ List.mem_cons_self
      · exact List.mem_cons_self
    · exact List.mem_cons_of_mem _ (List.mem_cons_of_mem _ m)
theorem best_end {pins : List (Addr × Obj)} {s : Shared} {σ : L2.St} {H : Hp} {Q : VK} {xs : List V} {d : D} {ds : List D} {its : List Value} {best : D} {v : Value} {h' : Heap} {tk : Nat} {bs : List Addr} {i : Nat} (I : Inv X pins σ H s) (hd : DpAll X.K H xs (d :: ds)) (ha : PySem.W.AlikeAll (d :: ds)) (hm : best ∈ d :: ds)
    (rv : Vals xs its) (hv : its.toArray[i]? = some v) (rd : Reads h' v best bs) (hk : ∀ b o, s.heap.get? b = some o → h'.get? b = some o)
    (q : ∀ (i : Nat) (y : V), xs[i]? = some y → (d :: ds)[i]? = some best → Q y H) : EP X pins σ Q v { s with heap := h', toks := tk } := by
  have hv' : its[i]? = some v := by simpa using hv
  have hi : i < its.length := (List.getElem?_eq_some_iff.mp hv').1
  have len1 := rv.length
  have len2 := dpAll_length hd
  obtain ⟨e, he⟩ : ∃ e, (d :: ds)[i]? = some e := ⟨(d :: ds)[i]'(by omega), List.getElem?_eq_getElem _⟩
  obtain ⟨y, h3, h4⟩ := dpAll_get hd he
  obtain ⟨u, h5, h6⟩ := rv.get h3
  rw [hv'] at h5
  cases h5
  have I' : Inv X pins σ H { s with heap := h', toks := tk } := I.kept hk
  obtain ⟨as, r2⟩ := Dp.reads I' e y v h4 h6
  have ee : e = best := PySem.W.alike_unique e best v as bs (ha.1 e (List.mem_of_getElem? he) best hm) r2 rd
  subst ee
  exact ⟨y, H, I', h6, q i y h3 he⟩
theorem dp_readsAll {pins : List (Addr × Obj)} {s : Shared} {σ : L2.St} {H : Hp} {xs : List V} {ds : List D} {its : List Value} (I : Inv X pins σ H s) (hd : DpAll X.K H xs ds) (rv : Vals xs its) : ∃ as, ReadsAll s.heap its.toArray.toList ds as := by
  obtain ⟨as, r⟩ := Dp.readsAll I ds xs its hd rv
  exact ⟨as, by simpa using r⟩
theorem cr_minD (hc : X.calm = true) (hu : X.A.units + 64 < cLine) : CallR X (.builtin "min") (rBest X.K PySem.W.minD) := by
  intro pins s σ H vs us Q I r h
  obtain ⟨a, xs, d, ds, rfl, hs, hd, hk, q⟩ := h
  obtain ⟨its, rv, hl, hz⟩ := I.list hs
  rw [Vals.ref1 r]
  obtain ⟨k1, k2⟩ := mmOk_of hk
  obtain ⟨as, ra⟩ := dp_readsAll I hd rv
  exact PySem.W.min_list_data (I.ok.hd hc) hl.isList ra k1 (by omega) fun i v h' tk bs hv rd hk' => best_end I hd k1 (minD_mem d ds) rv hv rd hk' q
theorem cr_maxD (hc : X.calm = true) (hu : X.A.units + 64 < cLine) : CallR X (.builtin "max") (rBest X.K PySem.W.maxD) := by
  intro pins s σ H vs us Q I r h
  obtain ⟨a, xs, d, ds, rfl, hs, hd, hk, q⟩ := h
  obtain ⟨its, rv, hl, hz⟩ := I.list hs
  rw [Vals.ref1 r]
  obtain ⟨k1, k2⟩ := mmOk_of hk
  obtain ⟨as, ra⟩ := dp_readsAll I hd rv
  exact PySem.W.max_list_data (I.ok.hd hc) hl.isList ra k1 (by omega) fun i v h' tk bs hv rd hk' => best_end I hd k1 (maxD_mem d ds) rv hv rd hk' q
def rMinA (K : Fg) : List V → Hp → VK → Prop := fun xs H Q => rBest K PySem.W.minD xs H Q ∨ ∃ i j, xs = [.int i, .int j] ∧ Q (.int (if j < i then j else i)) H
def rMaxA (K : Fg) : List V → Hp → VK → Prop := fun xs H Q => rBest K PySem.W.maxD xs H Q ∨ ∃ i j, xs = [.int i, .int j] ∧ Q (.int (if j > i then j else i)) H
theorem cr_minA (hc : X.calm = true) (hu : X.A.units + 64 < cLine) : CallR X (.builtin "min") (rMinA X.K) := CallR.or (cr_minD hc hu) (call_min2 hc)
theorem cr_maxA (hc : X.calm = true) (hu : X.A.units + 64 < cLine) : CallR X (.builtin "max") (rMaxA X.K) := CallR.or (cr_maxD hc hu) (call_max2 hc)
theorem best_rd {K : Fg} {H : Hp} {O : AS} {xs : List V} {d : D} {ds : List D} {best : D → List D → D} {Q : VK} {a : Addr} (h1 : LsAt H O a xs) (h3 : RDs K H O xs (d :: ds)) (hk : mmOk (d :: ds) = true) (hq : ∀ v H', Ext H H' → RD K H' O v (best d ds) → Q v H') : rBest K best [.ref a] H Q :=
  ⟨a, xs, d, ds, rfl, h1.sq, h3.dp (plain_mm hk), hk, fun i y e1 e2 => by
    obtain ⟨v, h5, h6⟩ := h3.get e2
    rw [e1] at h5
    cases h5
    exact hq _ _ (fun _ _ h => h) h6⟩
theorem cls_min : ClS G (rMinA G.K) dMinL := by
  intro H O xs ds z Q hO r hz hq
  unfold dMinL at hz
  split at hz
  · obtain ⟨x, rfl, rx⟩ := one_of r
    split at hz
    · rename_i hk
      cases hz
      cases rx with
      | lst h1 h2 h3 => exact .inl (best_rd h1 h3 hk hq)
    · cases hz
  · obtain ⟨x, y, rfl, rx, ry⟩ := two_of r
    cases hz
    cases rx
    cases ry
    exact .inr ⟨_, _, rfl, hq _ _ (fun _ _ h => h) (.int _)⟩
  · cases hz
theorem cls_max : ClS G (rMaxA G.K) dMaxL := by
  intro H O xs ds z Q hO r hz hq
  unfold dMaxL at hz
  split at hz
  · obtain ⟨x, rfl, rx⟩ := one_of r
    split at hz
    · rename_i hk
      cases hz
      cases rx with
      | lst h1 h2 h3 => exact .inl (best_rd h1 h3 hk hq)
    · cases hz
  · obtain ⟨x, y, rfl, rx, ry⟩ := two_of r
    cases hz
    cases rx
    cases ry
    exact .inr ⟨_, _, rfl, hq _ _ (fun _ _ h => h) (.int _)⟩
  · cases hz
/-! ### repr -/
def reprOk (d : D) : Bool := d.showable && (!d.hasDict && (decide (d.depth ≤ 60) && decide (d.shown.length ≤ sizeLine)))
def dRepr : List D → Option D
  | [d] => if reprOk d = true then some (.str d.shown) else none
  | _ => none
def rRepr (K : Fg) : List V → Hp → VK → Prop := fun vs H Q => ∃ (x : V) (d : D), vs = [x] ∧ Dp K H x d ∧ reprOk d = true ∧ Q (.str d.shown) H
theorem reprOk_of {d : D} (h : reprOk d = true) : d.showable = true ∧ d.hasDict = false ∧ d.depth ≤ 60 ∧ d.shown.length ≤ sizeLine := by
  unfold reprOk at h
  rw [Bool.and_eq_true, Bool.and_eq_true, Bool.and_eq_true, Bool.not_eq_true'] at h
  exact ⟨h.1, h.2.1, of_decide_eq_true h.2.2.1, of_decide_eq_true h.2.2.2⟩
theorem cr_repr (hg : X.A.guards = some []) (hu : X.A.units + 64 < cLine) : CallR X (.builtin "repr") (rRepr X.K) := by
  intro pins s σ H vs us Q I r h
  obtain ⟨x, d, rfl, hd, hk, q⟩ := h
  obtain ⟨u, rfl, ru⟩ := vals1 r
  obtain ⟨k1, k2, k3, k4⟩ := reprOk_of hk
  have big : ∀ {a : Addr}, u = .ref a → wpAny (model X.prog X.w) X.A (call (.builtin "repr") [u]) (EP X pins σ Q) X.xe s := fun {a} e => by
    subst e
    obtain ⟨as, rd⟩ := Dp.reads I d x _ hd ru
    refine repr_of_reads' rd k1 (PyData.noDict_hsm k2) hg (by omega) (fun _ _ e => e) (fun h' u tk hk' => ?_) k4
    exact ⟨.str d.shown, H, I.kept hk', ⟨_, rfl⟩, q⟩
  cases hd with
  | non =>
    cases (show u = Value.none from ru)
    exact PySem.P.repr_of_none ⟨.str _, H, I.tok _, ⟨_, rfl⟩, q⟩
  | bl b =>
    cases (show u = Value.bool b from ru)
    exact PySem.P.repr_of_bool ⟨.str _, H, I.tok _, ⟨_, rfl⟩, by simpa [PyData.shown] using q⟩
  | int i =>
    obtain ⟨t, e⟩ := (show ∃ t, u = Value.int i t from ru)
    cases e
    exact PySem.P.repr_of_int (by simpa [PyData.showable] using k1) ⟨.str _, H, I.tok _, ⟨_, rfl⟩, q⟩
  | str z =>
    obtain ⟨t, e⟩ := (show ∃ t, u = Value.str z t from ru)
    cases e
    exact PySem.P.repr_of_str (hsz := by simpa [PyData.shown] using k4) ⟨.str _, H, I.tok _, ⟨_, rfl⟩, by simpa [PyData.shown] using q⟩
  | lst h1 h2 => exact big ru
  | tup h1 h2 => exact big ru
theorem cls_repr : ClS G (rRepr G.K) dRepr := by
  intro H O xs ds z Q hO r hz hq
  unfold dRepr at hz
  split at hz
  · obtain ⟨x, rfl, rx⟩ := one_of r
    split at hz
    · rename_i hk
      cases hz
      exact ⟨x, _, rfl, rx.dp (plain_noDict _ (reprOk_of hk).2.1), hk, hq _ _ (fun _ _ h => h) (.str _)⟩
    · cases hz
  · cases hz
/-! ### isinstance -/
def tyName : D → String
  | .none => "NoneType"
  | .bool _ => "bool"
  | .int _ => "int"
  | .str _ => "str"
  | .list _ => "list"
  | .tuple _ => "tuple"
  | .dict _ => "dict"
inductive Kd | int | bool | str | list | tuple
def Kd.nm : Kd → String
  | .int => "int" | .bool => "bool" | .str => "str" | .list => "list" | .tuple => "tuple"
def isK : D → Kd → Bool
  | .bool _, .bool => true
  | .bool _, .int => true
  | .int _, .int => true
  | .str _, .str => true
  | .list _, .list => true
  | .tuple _, .tuple => true
  | _, _ => false
theorem kitN (k : Kd) : kitB "NoneType" k.nm = some (isK .none k) := by cases k <;> decide +kernel
theorem kitBo (k : Kd) : kitB "bool" k.nm = some (isK (.bool true) k) := by cases k <;> decide +kernel
theorem kitI (k : Kd) : kitB "int" k.nm = some (isK (.int 0) k) := by cases k <;> decide +kernel
theorem kitS (k : Kd) : kitB "str" k.nm = some (isK (.str Str.empty) k) := by cases k <;> decide +kernel
theorem kitL (k : Kd) : kitB "list" k.nm = some (isK (.list []) k) := by cases k <;> decide +kernel
theorem kitT (k : Kd) : kitB "tuple" k.nm = some (isK (.tuple []) k) := by cases k <;> decide +kernel
theorem kitDi (k : Kd) : kitB "dict" k.nm = some (isK (.dict []) k) := by cases k <;> decide +kernel
theorem kit_isK {K : Fg} {H : Hp} {O : AS} {v : V} {d : D} (r : RD K H O v d) (k : Kd) : PySem.W.kitOne K (.type (tyName d)) (.type k.nm) = some (isK d k) := by
  cases r with
  | non => exact kit_ty (kitN k)
  | bl b => exact kit_ty ((kitBo k).trans (by cases k <;> rfl))
  | int i => exact kit_ty ((kitI k).trans (by cases k <;> rfl))
  | str x => exact kit_ty ((kitS k).trans (by cases k <;> rfl))
  | lst _ _ _ => exact kit_ty ((kitL k).trans (by cases k <;> rfl))
  | tup _ _ _ => exact kit_ty ((kitT k).trans (by cases k <;> rfl))
  | dck _ _ _ _ => exact kit_ty ((kitDi k).trans (by cases k <;> rfl))
  | dct _ _ _ _ => exact kit_ty ((kitDi k).trans (by cases k <;> rfl))
theorem tyX_rd {K : Fg} {H : Hp} {O : AS} {v : V} {d : D} (r : RD K H O v d) : TyX K H v (.type (tyName d)) := by
  cases r with
  | non => exact .base .non
  | bl b => exact .base (.bl b)
  | int i => exact .base (.int i)
  | str x => exact .base (.str x)
  | lst h1 h2 h3 => exact .base (.lst h1.1)
  | tup h1 h2 h3 =>
    exact .base (.tup h1.1)
  | dck h1 _ _ _ => exact .base (.dK h1)
  | dct h1 _ _ _ => exact .base (.dT h1)
def dIsi (ks : List Kd) (d : D) : Option D := some (.bool (ks.any (isK d)))
theorem kit_any {K : Fg} {H : Hp} {O : AS} {v : V} {d : D} (r : RD K H O v d) : ∀ ks : List Kd, PySem.W.kitAny K (.type (tyName d)) (ks.map fun k => .type k.nm) = some (ks.any (isK d))
  | [] => kitAny_nil
  | k :: ks => kitAny_cons (kit_isK r k) (fun e => by rw [kit_any r ks, List.any_cons, e, Bool.false_or]) fun e => by rw [List.any_cons, e, Bool.true_or]
theorem isi_tr (k : Kd) : ∀ σ H Q, tE G W (eUn (dIsi [k]) A) σ H Q → tCB (rIsi G.K) (L2.tCons (tE G W A) (L2.tCons (tC (.ty k.nm)) L2.tNil)) σ H Q := fun σ H Q ⟨en, M, Bx, rel, m⟩ =>
  ⟨en, M, Bx, rel, Post.imp (post_bind.mp m) (fun p mp v H1 M1 rel1 st1 rd1 => by
    obtain ⟨z, hz, mz⟩ := post_lift.mp mp
    cases hz
    exact ⟨v, .ty k.nm, _, _, isK p.1 k, rfl, .ty _, tyX_rd rd1, kit_isK rd1 k, mz _ H1 M1 rel1 st1 (by
      show RD _ _ _ _ (.bool ([k].any (isK p.1)))
      rw [List.any_cons, List.any_nil, Bool.or_false]
      exact .bl _)⟩) fun _ _ _ h => h⟩
theorem de_isi (k : Kd) {tx : Str} {p p2 : Pos} (hK : G.K = X.K) (hg : Gl X "isinstance") (hm : X.mg "isinstance" = none) (ha : DE X G W a A) (hg2 : Gl X tx) (hm2 : X.mg tx = none) (hv2 : bootBuiltins tx = some (.type k.nm)) (hn2 : tx ≠ "__name__" := by decide) (hd2 : (tx == ("__debug__" : Str)) = false := by decide)
    (he : starEach [a, .Name tx p2] X.env = (false, eval a X.env) :: starEach [.Name tx p2] X.env := by rfl) (he2 : starEach [.Name tx p2] X.env = (false, eval (.Name tx p2) X.env) :: starEach [] X.env := by rfl) (hpl : (backTo pos (starEach [.Name tx p2] X.env)).any (·.1) = false := by rfl) :
    DE X G W (.Call (.Name "isinstance" p) [a, .Name tx p2] [] pos) (eUn (dIsi [k]) A) := by
  refine ⟨pe_imp (pe_callB call_isi hg hm (by decide +kernel) (pa_cons ha.pe (pa_cons (pe_bltn hg2 hm2 hv2 (v := .ty k.nm) rfl hn2 hd2) pa_nil he2) he) (by decide) (by decide) he hpl) fun σ H Q h => ?_⟩
  have q := isi_tr (G := G) k σ H Q h
  rw [hK] at q
  exact q
theorem isiT_tr (k k' : Kd) : ∀ σ H Q, tE G W (eUn (dIsi [k, k']) A) σ H Q → tCB (rIsiT G.K) (L2.tCons (tE G W A) (L2.tCons (tTup (L2.tCons (tC (.ty k.nm)) (L2.tCons (tC (.ty k'.nm)) L2.tNil))) L2.tNil)) σ H Q := fun σ H Q ⟨en, M, Bx, rel, m⟩ =>
  ⟨en, M, Bx, rel, Post.imp (post_bind.mp m) (fun p mp v H1 M1 rel1 st1 rd1 => by
    obtain ⟨z, hz, mz⟩ := post_lift.mp mp
    cases hz
    refine ⟨(by show 2 ≤ sizeLine; decide), fun t ht => ⟨v, t, [.ty k.nm, .ty k'.nm], _, [.type k.nm, .type k'.nm], ([k, k'].any (isK p.1)), rfl, upd_same, .cons (.ty _) (.cons (.ty _) .nil), tyX_rd (rd1.ext (ext_new ht)), kit_any rd1 [k, k'], mz _ _ M1 (rel1.ext (ext_new ht)) (st1.trans (.ext (ext_new ht))) (.bl _)⟩⟩) fun _ _ _ h => h⟩
theorem de_isiT (k k' : Kd) {tx ty : Str} {p p2 p3 p4 : Pos} {kk : Nat} (hK : G.K = X.K) (hg : Gl X "isinstance") (hm : X.mg "isinstance" = none) (ha : DE X G W a A) (hg2 : Gl X tx) (hm2 : X.mg tx = none) (hv2 : bootBuiltins tx = some (.type k.nm)) (hg3 : Gl X ty) (hm3 : X.mg ty = none) (hv3 : bootBuiltins ty = some (.type k'.nm))
    (hn2 : tx ≠ "__name__" := by decide) (hd2 : (tx == ("__debug__" : Str)) = false := by decide) (hn3 : ty ≠ "__name__" := by decide) (hd3 : (ty == ("__debug__" : Str)) = false := by decide)
    (h5 : starEach [.Name tx p2, .Name ty p3] X.env = (false, eval (.Name tx p2) X.env) :: starEach [.Name ty p3] X.env := by rfl) (h6 : starEach [.Name ty p3] X.env = (false, eval (.Name ty p3) X.env) :: starEach [] X.env := by rfl)
    (he : starEach [a, .Tuple [.Name tx p2, .Name ty p3] kk p4] X.env = (false, eval a X.env) :: starEach [.Tuple [.Name tx p2, .Name ty p3] kk p4] X.env := by rfl) (he2 : starEach [.Tuple [.Name tx p2, .Name ty p3] kk p4] X.env = (false, eval (.Tuple [.Name tx p2, .Name ty p3] kk p4) X.env) :: starEach [] X.env := by rfl)
    (hpl : (backTo pos (starEach [.Tuple [.Name tx p2, .Name ty p3] kk p4] X.env)).any (·.1) = false := by rfl) :
    DE X G W (.Call (.Name "isinstance" p) [a, .Tuple [.Name tx p2, .Name ty p3] kk p4] [] pos) (eUn (dIsi [k, k']) A) := by
  refine ⟨pe_imp (pe_callB call_isiT hg hm (by decide +kernel) (pa_cons ha.pe (pa_cons (pe_tup (pa_cons (pe_bltn hg2 hm2 hv2 (v := .ty k.nm) rfl hn2 hd2) (pa_cons (pe_bltn hg3 hm3 hv3 (v := .ty k'.nm) rfl hn3 hd3) pa_nil h6) h5)) pa_nil he2) he) (by decide) (by decide) he hpl) fun σ H Q h => ?_⟩
  have q := isiT_tr (G := G) k k' σ H Q h
  rw [hK] at q
  exact q
end
end DL

namespace DL
open PySem L2
/-! ### new lists, owned -/
abbrev DNl := En → Rs (List D × En)
def tN (G : Gh) (W : WX) (A : DNl) : TE := fun σ H Q => ∃ en M B, Rel G en σ H M B ∧
  Post (fun q => ∀ p ys H' M', Rel G q.2 σ H' M' B → Step H M H' M' → OwnV G q.2 σ H' M' B p ys q.1 → Q (.ref p) H') (EW G W σ H M B) (A en)
structure DN (X : Cx) (G : Gh) (W : WX) (e : Expr) (A : DNl) : Prop where pn : PE X e (tN G W A)
/-- a new list that nothing holds yet: it may be let stand -/
theorem OwnV.stand {G : Gh} {en : En} {σ : L2.St} {H : Hp} {M : AS} {B : Option Addr} {p : Addr} {ys : List V} {zs : List D} (o : OwnV G en σ H M B p ys zs) (r : Rel G en σ H M B) :
    Rel G en σ H (fun a => M a ∧ a ≠ p) B ∧ Step H M H (fun a => M a ∧ a ≠ p) ∧ RD G.K H (av G fun a => M a ∧ a ≠ p) (.ref p) (.list zs) := by
  have st : Step H M H (fun a => M a ∧ a ≠ p) := ⟨fun _ _ h _ => h, fun a h => .inl h.1⟩
  refine ⟨⟨r.len, fun j s hj => ?_, r.injo, fun q hb => ⟨⟨(r.box q hb).1, fun z => o.nb (by rw [← z]; exact hb)⟩, (r.box q hb).2⟩, r.bne, out_step r.out st, fun a h => r.mh a h.1, fun q hq => ⟨⟨(r.tab q hq).1, r.tab.ne o.at_ (fun _ z => nomatch z) q hq⟩, (r.tab q hq).2⟩⟩, st, .lst ⟨o.at_, fun q => ?_⟩ o.len (o.rds.step st)⟩
  · have q := r.slot j s hj
    cases s with
    | no => trivial
    | fz d => obtain ⟨v, q1, q2⟩ := q; exact ⟨v, q1, q2.step st⟩
    | sq ns => obtain ⟨v, q1, q2⟩ := q; exact ⟨v, q1, q2.step st⟩
    | fu x => exact q
    | ow es =>
      obtain ⟨p', xs, q1, q2, q3, q4, q5⟩ := q
      refine ⟨p', xs, q1, ⟨q2, fun z => ?_⟩, q3, q4, q5.step st⟩
      subst z
      exact o.ne j es hj q1
    | od t es =>
      obtain ⟨p', q1, q2, q3⟩ := q
      refine ⟨p', q1, ⟨q2, fun z => ?_⟩, q3.step st fun _ z => z⟩
      subst z
      exact q3.nlst o.at_
    | bx => exact q
    | er c d => exact erOk_step q st
  · rcases q with q | q
    · exact q.2 rfl
    · exact (r.out p q).2 o.own
section
variable {X : Cx} {G : Gh} {W : WX} {pos : Pos} {a b e : Expr} {es : List Expr} {A B : DEn} {As : DAs} {N : DNl}
def eN (N : DNl) : DEn := fun en => N en >>= fun q => .ok (.list q.1, q.2)
theorem de_new (h : DN X G W e N) : DE X G W e (eN N) := ⟨pe_imp h.pn fun σ H Q ⟨en, M, Bx, rel, m⟩ => ⟨en, M, Bx, rel, Post.imp (post_bind.mp m) (fun q mq p ys H1 M1 rel1 st1 o => by
  obtain ⟨r2, s2, rd⟩ := o.stand rel1
  exact mq _ H1 _ r2 (st1.trans s2) rd) fun _ _ _ h => h⟩⟩
/-- from a rule that lays a new list -/
theorem own_new {en : En} {σ : L2.St} {H : Hp} {M : AS} {Bx : Option Addr} {p : Addr} {ys : List V} {zs : List D} (r : Rel G en σ H M Bx) (hp : H p = none) (hl : ys.length ≤ sizeLine) (rd : RDs G.K H (av G M) ys zs) :
    Rel G en σ (upd H p (.lst ys)) (fun a => M a ∨ a = p) Bx ∧ Step H M (upd H p (.lst ys)) (fun a => M a ∨ a = p) ∧ OwnV G en σ (upd H p (.lst ys)) (fun a => M a ∨ a = p) Bx p ys zs := by
  have ex : Ext H (upd H p (.lst ys)) := ext_new hp
  have st : Step H M (upd H p (.lst ys)) (fun a => M a ∨ a = p) := ⟨fun a o h _ => ex a o h, fun a h => h.elim .inl fun q => .inr (by rw [q]; exact hp)⟩
  refine ⟨⟨r.len, fun j s hj => ?_, r.injo, fun q hb => ⟨.inl (r.box q hb).1, ex _ _ (r.box q hb).2⟩, r.bne, out_step r.out st, fun a h => ?_, r.tab.ext ex fun _ _ z => .inl z⟩, st, .inr rfl, upd_same, hl, rd.step st, fun i ds hi hs => ?_, fun hb => ?_⟩
  · have q := r.slot j s hj
    cases s with
    | no => trivial
    | fz d => obtain ⟨v, q1, q2⟩ := q; exact ⟨v, q1, q2.step st⟩
    | sq ns => obtain ⟨v, q1, q2⟩ := q; exact ⟨v, q1, q2.step st⟩
    | fu x => exact q
    | ow es => obtain ⟨p', xs, q1, q2, q3, q4, q5⟩ := q; exact ⟨p', xs, q1, .inl q2, ex _ _ q3, q4, q5.step st⟩
    | od t es => obtain ⟨p', q1, q2, q3⟩ := q; exact ⟨p', q1, .inl q2, q3.step st (ex _)⟩
    | bx => exact q
    | er c d => exact erOk_step q st
  · rcases h with h | h
    · cases e : H a with
      | none => exact absurd e (r.mh a h)
      | some o => rw [ex a o e]; exact fun z => nomatch z
    · subst h
      rw [upd_same]
      exact fun z => nomatch z
  · obtain ⟨p', xs, q1, q2, q3, q4, q5⟩ := r.slot i _ hi
    rw [hs] at q1
    cases q1
    rw [hp] at q3
    cases q3
  · have := (r.box p hb).2
    rw [hp] at this
    cases this
def NwS (G : Gh) (r : List V → Hp → VK → Prop) (f : List D → Option (List D)) : Prop := ∀ (H : Hp) (O : AS) (xs : List V) (ds zs : List D) (Q : VK), (∀ a, O a → H a ≠ none) → RDs G.K H O xs ds → f ds = some zs →
  (∀ p ys, H p = none → ys.length ≤ sizeLine → RDs G.K H O ys zs → Q (.ref p) (upd H p (.lst ys))) → r xs H Q
def nCl (f : List D → Option (List D)) (a : DAs) : DNl := fun en => a en >>= fun p => liftO (f p.1) >>= fun z => .ok (z, p.2)
theorem nw_tr {r : List V → Hp → VK → Prop} {f : List D → Option (List D)} (hs : NwS G r f) : ∀ σ H Q, tN G W (nCl f As) σ H Q → tCB r (tA G W As) σ H Q := fun σ H Q ⟨en, M, Bx, rel, m⟩ =>
  ⟨en, M, Bx, rel, Post.imp (post_bind.mp m) (fun p mp v H1 M1 rel1 st1 rd1 => by
    obtain ⟨z, hz, mz⟩ := post_lift.mp mp
    refine hs H1 _ v p.1 z Q rel1.avh rd1 hz fun q ys hq hl rd => ?_
    obtain ⟨r2, s2, o⟩ := own_new rel1 hq hl rd
    exact mz q ys _ _ r2 (st1.trans s2) o) fun _ _ _ h => h⟩
def nwL (ds : List D) : Option (List D) := if ds.length ≤ sizeLine then some ds else none
theorem dn_lst (h : DA X G W es As) : DN X G W (.List es pos) (nCl nwL As) :=
  ⟨pe_imp (pe_lst h.pa) fun σ H Q q => nw_tr (r := fun xs H1 Q => xs.length ≤ sizeLine ∧ ∀ p, H1 p = none → Q (.ref p) (upd H1 p (.lst xs))) (fun H O xs ds z Q hO rd hz hq => by
    unfold nwL at hz
    split at hz
    · rename_i hl
      cases hz
      have hl' : xs.length ≤ sizeLine := by rw [rd.length]; exact hl
      exact ⟨hl', fun p hp => hq _ _ hp hl' rd⟩
    · cases hz) σ H Q q⟩
def nList : List D → Option (List D)
  | [.list ds] => some ds
  | [.tuple ds] => some ds
  | _ => none
theorem nws_list : NwS G (fun xs H Q => ∃ p ys, xs = [.ref p] ∧ (SqL G.K H p ys ∨ SqT G.K H p ys) ∧ ∀ l, H l = none → Q (.ref l) (upd H l (.lst ys))) nList := by
  intro H O xs ds z Q hO r hz hq
  unfold nList at hz
  split at hz
  · obtain ⟨x, rfl, rx⟩ := one_of r
    cases hz
    cases rx with
    | lst h1 h2 h3 => exact ⟨_, _, rfl, .inl h1.sq, fun l hl => hq _ _ hl h2 h3⟩
  · obtain ⟨x, rfl, rx⟩ := one_of r
    cases hz
    cases rx with
    | tup h1 h2 h3 => exact ⟨_, _, rfl, .inr h1.sq, fun l hl => hq _ _ hl h2 h3⟩
  · cases hz
theorem dn_list {p : Pos} (hK : G.K = X.K) (hg : Gl X "list") (hm : X.mg "list" = none) (ha : DA X G W [a] As) (he : starEach [a] X.env = (false, eval a X.env) :: starEach [] X.env := by rfl) (hpl : (backTo pos (starEach [] X.env)).any (·.1) = false := by rfl) :
    DN X G W (.Call (.Name "list" p) [a] [] pos) (nCl nList As) := by
  refine ⟨pe_imp (pe_callTy call_list_of hg hm (by decide +kernel) ha.pa (by decide) (by decide) he hpl) fun σ H Q q => ?_⟩
  have z := nw_tr (G := G) nws_list σ H Q q
  rw [hK] at z
  exact z
/-- a list times a number -/
def nRep (a b : DEn) : DNl := fun en => a en >>= fun p => b p.2 >>= fun q => liftO (match p.1, q.1 with
  | .list xs, .int k => if 0 ≤ k ∧ k < 2 ^ 63 ∧ xs.length * k.toNat ≤ sizeLine then some (List.replicate k.toNat xs).flatten else none
  | _, _ => none) >>= fun z => .ok (z, q.2)
theorem dn_rep (ha : DE X G W a A) (hb : DE X G W b B) : DN X G W (.BinOp a .Mult b pos) (nRep A B) :=
  ⟨pe_imp (pe_op op_rep ha.pe hb.pe) fun σ H Q ⟨en, M, Bx, rel, m⟩ =>
    ⟨en, M, Bx, rel, Post.imp (post_bind.mp m) (fun p mp v H1 M1 rel1 st1 rd1 => ⟨p.2, M1, Bx, rel1, Post.imp (post_bind.mp mp) (fun q mq w H2 M2 rel2 st2 rd2 => by
      obtain ⟨z, hz, mz⟩ := post_lift.mp mq
      have rd1' := rd1.step st2
      generalize p.1 = d at rd1' hz
      generalize q.1 = e at rd2 hz
      split at hz
      · cases rd2
        cases rd1' with
        | lst h1 h2 h3 =>
          split at hz
          · rename_i h
            cases hz
            have hl' := h.2.2
            rw [← h3.length] at hl'
            refine ⟨_, _, _, rfl, rfl, h1.1, by omega, h.2.1, hl', fun x hx => ?_⟩
            obtain ⟨r3, s3, o⟩ := own_new rel2 hx (ys := (List.replicate _ _).flatten) (by rw [PyProof.Rows.lm_len_rep_flat, Nat.mul_comm]; exact hl') (h3.rep _)
            exact mz x _ _ _ r3 ((st1.trans st2).trans s3) o
          · cases hz
      · cases hz) fun c d en h => h.step st1⟩) fun _ _ _ h => h⟩⟩
/-- two lists put together anew -/
def nCat (a b : DEn) : DNl := fun en => a en >>= fun p => b p.2 >>= fun q => liftO (match p.1, q.1 with
  | .list xs, .list ys => if xs.length + ys.length ≤ sizeLine then some (xs ++ ys) else none
  | _, _ => none) >>= fun z => .ok (z, q.2)
theorem dn_cat (hK : G.K = X.K) (ha : DE X G W a A) (hb : DE X G W b B) : DN X G W (.BinOp a .Add b pos) (nCat A B) :=
  ⟨pe_imp (pe_op op_cat ha.pe hb.pe) fun σ H Q ⟨en, M, Bx, rel, m⟩ =>
    ⟨en, M, Bx, rel, Post.imp (post_bind.mp m) (fun p mp v H1 M1 rel1 st1 rd1 => ⟨p.2, M1, Bx, rel1, Post.imp (post_bind.mp mp) (fun q mq w H2 M2 rel2 st2 rd2 => by
      obtain ⟨z, hz, mz⟩ := post_lift.mp mq
      have rd1' := rd1.step st2
      generalize p.1 = d at rd1' hz
      generalize q.1 = e at rd2 hz
      split at hz
      · cases rd2 with
        | lst k1 k2 k3 => cases rd1' with
          | lst h1 h2 h3 =>
            split at hz
            · rename_i h
              cases hz
              have hl' := h
              rw [← h3.length, ← k3.length] at hl'
              refine ⟨_, _, _, _, rfl, rfl, h1.1, k1.1, hl', fun x hx => ?_⟩
              obtain ⟨r3, s3, o⟩ := own_new rel2 hx (by rw [List.length_append]; exact hl') (h3.append k3)
              exact mz x _ _ _ r3 ((st1.trans st2).trans s3) o
            · cases hz
      · cases hz) fun c d en h => h.step st1⟩) fun _ _ _ h => h⟩⟩
end
/-! ### statements -/
def Out.en : Out → En
  | .nx en => en
  | .rt _ en => en
  | .rn _ en => en
  | .bk en => en
  | .ct en => en
theorem OutOk.step {G : Gh} {Ds : Ends} {H H1 : Hp} {M M1 : AS} {B : Option Addr} {o : Out} (h : OutOk G Ds H M B o) (s : Step H M H1 M1) : OutOk G Ds H1 M1 B o := by
  cases o with
  | nx en => exact fun σ' H' M' B' r s' b => h σ' H' M' B' r (s.trans s') b
  | rt d en => exact fun v σ' H' M' B' r s' b => h v σ' H' M' B' r (s.trans s') b
  | rn d en => exact fun p v σ' H' M' B' r s' b => h p v σ' H' M' B' r (s.trans s') b
  | bk en => exact fun σ' H' M' B' r s' b => h σ' H' M' B' r (s.trans s') b
  | ct en => exact fun σ' H' M' B' r s' b => h σ' H' M' B' r (s.trans s') b
theorem OutOk.stepB {G : Gh} {Ds : Ends} {H H1 : Hp} {M M1 : AS} {B B1 : Option Addr} {o : Out} (h : OutOk G Ds H M B o) (s : Step H M H1 M1) (hb : G.top = false → B1 = B) : OutOk G Ds H1 M1 B1 o := by
  cases o with
  | nx en => exact fun σ' H' M' B' r s' b => h σ' H' M' B' r (s.trans s') fun t => (b t).trans (hb t)
  | rt d en => exact fun v σ' H' M' B' r s' b => h v σ' H' M' B' r (s.trans s') fun t => (b t).trans (hb t)
  | rn d en => exact fun p v σ' H' M' B' r s' b => h p v σ' H' M' B' r (s.trans s') fun t => (b t).trans (hb t)
  | bk en => exact fun σ' H' M' B' r s' b => h σ' H' M' B' r (s.trans s') fun t => (b t).trans (hb t)
  | ct en => exact fun σ' H' M' B' r s' b => h σ' H' M' B' r (s.trans s') fun t => (b t).trans (hb t)
theorem EWS.stepB {G : Gh} {W : WX} {H H1 : Hp} {M M1 : AS} {B B1 : Option Addr} {c : Str} {d : D} {en : En} (h : EWS G W H M B c d en) (s : Step H M H1 M1) (hb : G.top = false → B1 = B) : EWS G W H1 M1 B1 c d en :=
  fun cls dd σ' H' M' B' r s' b x => h cls dd σ' H' M' B' r (s.trans s') (fun t => (b t).trans (hb t)) x
theorem EWS.ew {G : Gh} {W : WX} {H : Hp} {M : AS} {B : Option Addr} {c : Str} {d : D} {en : En} (h : EWS G W H M B c d en) (σ : L2.St) : EW G W σ H M B c d en :=
  fun cls dd H' M' r s x => h cls dd σ H' M' B r s (fun _ => rfl) x
section
variable {X : Cx} {G : Gh} {W : WX} {pos : Pos} {a b e : Expr} {es : List Expr} {A B : DEn} {As : DAs} {st : Stmt} {rest : List Stmt} {S T : DSt} {TA : DTt} {N : DNl}
def sNx : DSt := fun en => .ok (.nx en)
def sSeq (s t : DSt) : DSt := fun en => s en >>= fun o => match o with
  | .nx en' => t en'
  | .rt d en' => .ok (.rt d en')
  | .rn d en' => .ok (.rn d en')
  | .bk en' => .ok (.bk en')
  | .ct en' => .ok (.ct en')
theorem ds_nil : DSs X G W [] sNx := ⟨pss_imp pss_nil fun Ds σ H ⟨en, M, Bx, rel, m⟩ => m σ H M Bx rel .refl fun _ => rfl⟩
theorem ds_one (h : DS X G W st S) : DSs X G W [st] S := ⟨pss_one h.ps⟩
theorem ds_cons (h : DS X G W st S) (hr : DSs X G W rest T) : DSs X G W (st :: rest) (sSeq S T) :=
  ⟨pss_imp (pss_cons h.ps hr.pss) fun Ds σ H ⟨en, M, Bx, rel, m⟩ => ⟨en, M, Bx, rel, Post.imp (post_bind.mp m) (fun o mo => by
    cases o with
    | nx en1 => exact fun σ1 H1 M1 B1 rel1 st1 b1 => ⟨en1, M1, B1, rel1, Post.imp mo (fun o2 m2 => m2.stepB st1 b1) fun _ _ _ h => h.stepB st1 b1⟩
    | rt d en1 => exact mo
    | rn d en1 => exact mo
    | bk en1 => exact mo
    | ct en1 => exact mo) fun _ _ _ h => h⟩⟩
def sPass : DSt := sNx
theorem ds_pass : DS X G W (.Pass pos) sPass := ⟨ps_imp ps_pass fun Ds σ H ⟨en, M, Bx, rel, m⟩ => m σ H M Bx rel .refl fun _ => rfl⟩
def sBrk : DSt := fun en => .ok (.bk en)
def sCnt : DSt := fun en => .ok (.ct en)
theorem ds_brk : DS X G W (.Break pos) sBrk := ⟨ps_imp ps_break fun Ds σ H ⟨en, M, Bx, rel, m⟩ => m σ H M Bx rel .refl fun _ => rfl⟩
theorem ds_cnt : DS X G W (.Continue pos) sCnt := ⟨ps_imp ps_continue fun Ds σ H ⟨en, M, Bx, rel, m⟩ => m σ H M Bx rel .refl fun _ => rfl⟩
theorem ds_doc {x : Str} {j : Nat} {p2 : Pos} : DS X G W (.Expr (.Constant (.str x) j pos) p2) sNx := ⟨ps_imp ps_doc fun Ds σ H ⟨en, M, Bx, rel, m⟩ => m σ H M Bx rel .refl fun _ => rfl⟩
def sExp (a : DEn) : DSt := fun en => a en >>= fun p => .ok (.nx p.2)
theorem ds_exp (h : DE X G W a A) (hs : swapsWith a none pos.line X.env = pure false := by rfl) : DS X G W (.Expr a pos) (sExp A) :=
  ⟨ps_imp (ps_expr h.pe hs) fun Ds σ H ⟨en, M, Bx, rel, m⟩ => ⟨en, M, Bx, rel, Post.imp (post_bind.mp m) (fun p mp v H1 M1 rel1 st1 rd1 => mp σ H1 M1 Bx rel1 st1 fun _ => rfl) fun _ _ _ h => h.ew σ⟩⟩
def sRet (a : DEn) : DSt := fun en => a en >>= fun p => .ok (.rt p.1 p.2)
theorem ds_ret (h : DE X G W a A) : DS X G W (.Return (some a) pos) (sRet A) :=
  ⟨ps_imp (ps_ret h.pe) fun Ds σ H ⟨en, M, Bx, rel, m⟩ => ⟨en, M, Bx, rel, Post.imp (post_bind.mp m) (fun p mp v H1 M1 rel1 st1 rd1 => mp v σ H1 M1 Bx rel1 st1 (fun _ => rfl) rd1) fun _ _ _ h => h.ew σ⟩⟩
/-- a new list handed back: nobody else has it -/
def sRetO (n : DNl) : DSt := fun en => n en >>= fun p => .ok (.rn p.1 p.2)
theorem ds_retO (h : DN X G W e N) : DS X G W (.Return (some e) pos) (sRetO N) :=
  ⟨ps_imp (ps_ret h.pn) fun Ds σ H ⟨en, M, Bx, rel, m⟩ => ⟨en, M, Bx, rel, Post.imp (post_bind.mp m) (fun q mq p ys H1 M1 rel1 st1 o => mq p ys σ H1 M1 Bx rel1 st1 (fun _ => rfl) o) fun _ _ _ h => h.ew σ⟩⟩
def sRetN : DSt := fun en => .ok (.rt .none en)
theorem ds_retN : DS X G W (.Return none pos) sRetN := ⟨ps_imp ps_retN fun Ds σ H ⟨en, M, Bx, rel, m⟩ => m .non σ H M Bx rel .refl (fun _ => rfl) .non⟩
def sIf (t : DTt) (a b : DSt) : DSt := fun en => t en >>= fun p => if p.1 = true then a p.2 else b p.2
theorem ds_if {xs ys : List Stmt} (h : DT X G W e TA) (ha : DSs X G W xs S) (hb : DSs X G W ys T) : DS X G W (.If e xs ys pos) (sIf TA S T) :=
  ⟨ps_imp (ps_if h.pt ha.pss hb.pss) fun Ds σ H ⟨en, M, Bx, rel, m⟩ => ⟨en, M, Bx, rel, Post.imp (post_bind.mp m) (fun p mp H1 M1 rel1 st1 => by
    by_cases c : p.1 = true
    · rw [if_pos c] at mp ⊢
      exact ⟨p.2, M1, Bx, rel1, Post.imp mp (fun o mo => mo.stepB st1 fun _ => rfl) fun _ _ _ h => h.stepB st1 fun _ => rfl⟩
    · rw [if_neg c] at mp ⊢
      exact ⟨p.2, M1, Bx, rel1, Post.imp mp (fun o mo => mo.stepB st1 fun _ => rfl) fun _ _ _ h => h.stepB st1 fun _ => rfl⟩) fun _ _ _ h => h.ew σ⟩⟩
/-! ### stores -/
def En.put (en : En) (i : Nat) (s : Sl) : En := { en with sl := en.sl.set i s }
theorem put_same {en : En} {i : Nat} {s : Sl} (h : i < en.sl.length) : (en.put i s).sl[i]? = some s := List.getElem?_set_self h
theorem put_ne {en : En} {i j : Nat} {s : Sl} (h : j ≠ i) : (en.put i s).sl[j]? = en.sl[j]? := List.getElem?_set_ne (Ne.symm h)
theorem put_out {en : En} {i : Nat} {s t : Sl} (h : (en.put i s).sl[i]? = some t) : t = s ∧ i < en.sl.length := by
  have hi : i < en.sl.length := by
    have := (List.getElem?_eq_some_iff.mp h).1
    simpa [En.put] using this
  rw [put_same hi] at h
  exact ⟨(Option.some.inj h).symm, hi⟩
/-- a datum stored at a name -/
theorem Rel.set {en : En} {σ : L2.St} {H : Hp} {M : AS} {Bx : Option Addr} {v : V} {d : D} {i : Nat} (r : Rel G en σ H M Bx) (rd : RD G.K H (av G M) v d) : Rel G (en.put i (.fz d)) (σ.set i (some v)) H M Bx := by
  refine ⟨by rw [List.length_set, r.len]; simp [En.put], fun j s hj => ?_, fun j k p s1 s2 hne hj hk o1 o2 h1 h2 => ?_, r.box, fun p j ds hb hj h1 => ?_, r.out, r.mh, r.tab⟩
  · by_cases c : j = i
    · subst c
      obtain ⟨e1, e2⟩ := put_out hj
      subst e1
      exact ⟨v, by rw [List.getElem?_set_self (by rw [r.len]; exact e2)], rd⟩
    · rw [put_ne c] at hj
      have q := r.slot j s hj
      have se : (σ.set i (some v))[j]? = σ[j]? := List.getElem?_set_ne (Ne.symm c)
      cases s with
      | no => trivial
      | fz d => obtain ⟨v, q1, q2⟩ := q; exact ⟨v, by rw [se]; exact q1, q2⟩
      | sq ns => obtain ⟨v, q1, q2⟩ := q; exact ⟨v, by rw [se]; exact q1, q2⟩
      | fu x => obtain ⟨v, q1, q2⟩ := q; exact ⟨v, by rw [se]; exact q1, q2⟩
      | ow es => obtain ⟨p', xs, q1, q2⟩ := q; exact ⟨p', xs, by rw [se]; exact q1, q2⟩
      | od t es => obtain ⟨p', q1, q2⟩ := q; exact ⟨p', by rw [se]; exact q1, q2⟩
      | bx => obtain ⟨p, q1, q2⟩ := q; exact ⟨p, q1, by rw [se]; exact q2⟩
      | er c d => exact erOk_σ q se
  · have cj : j ≠ i := fun z => by subst z; rw [(put_out hj).1] at o1; cases o1
    have ck : k ≠ i := fun z => by subst z; rw [(put_out hk).1] at o2; cases o2
    rw [put_ne cj] at hj
    rw [put_ne ck] at hk
    rw [List.getElem?_set_ne (Ne.symm cj)] at h1
    rw [List.getElem?_set_ne (Ne.symm ck)] at h2
    exact r.injo j k p s1 s2 hne hj hk o1 o2 h1 h2
  · have cj : j ≠ i := fun z => by subst z; cases (put_out hj).1
    rw [put_ne cj] at hj
    rw [List.getElem?_set_ne (Ne.symm cj)] at h1
    exact r.bne p j ds hb hj h1
theorem OwnV.neo {en : En} {σ : L2.St} {H : Hp} {M : AS} {Bx : Option Addr} {p : Addr} {ys : List V} {zs : List D} (o : OwnV G en σ H M Bx p ys zs) (r : Rel G en σ H M Bx) (i : Nat) {s : Sl} (h : en.sl[i]? = some s) (os : isO s = true) (hp : σ[i]? = some (some (.ref p))) : False := by
  cases s with
  | ow ds => exact o.ne i ds h hp
  | od t es =>
    obtain ⟨q, q1, q2, q3⟩ := r.slot i _ h
    rw [hp] at q1
    cases q1
    exact q3.nlst o.at_
  | no => cases os
  | fz d => cases os
  | sq ns => cases os
  | fu x => cases os
  | bx => cases os
  | er c d => cases os
theorem Rel.setOwn {en : En} {σ : L2.St} {H : Hp} {M : AS} {Bx : Option Addr} {p : Addr} {ys : List V} {zs : List D} {i : Nat} (r : Rel G en σ H M Bx) (o : OwnV G en σ H M Bx p ys zs) : Rel G (en.put i (.ow zs)) (σ.set i (some (.ref p))) H M Bx := by
  refine ⟨by rw [List.length_set, r.len]; simp [En.put], fun j s hj => ?_, fun j k q s1 s2 hne hj hk o1 o2 h1 h2 => ?_, r.box, fun q j ds hb hj h1 => ?_, r.out, r.mh, r.tab⟩
  · by_cases c : j = i
    · subst c
      obtain ⟨e1, e2⟩ := put_out hj
      subst e1
      exact ⟨p, ys, by rw [List.getElem?_set_self (by rw [r.len]; exact e2)], o.own, o.at_, o.len, o.rds⟩
    · rw [put_ne c] at hj
      have q := r.slot j s hj
      have se : (σ.set i (some (.ref p)))[j]? = σ[j]? := List.getElem?_set_ne (Ne.symm c)
      cases s with
      | no => trivial
      | fz d => obtain ⟨v, q1, q2⟩ := q; exact ⟨v, by rw [se]; exact q1, q2⟩
      | sq ns => obtain ⟨v, q1, q2⟩ := q; exact ⟨v, by rw [se]; exact q1, q2⟩
      | fu x => obtain ⟨v, q1, q2⟩ := q; exact ⟨v, by rw [se]; exact q1, q2⟩
      | ow es => obtain ⟨p', xs, q1, q2⟩ := q; exact ⟨p', xs, by rw [se]; exact q1, q2⟩
      | od t es => obtain ⟨p', q1, q2⟩ := q; exact ⟨p', by rw [se]; exact q1, q2⟩
      | bx => obtain ⟨p, q1, q2⟩ := q; exact ⟨p, q1, by rw [se]; exact q2⟩
      | er c d => exact erOk_σ q se
  · by_cases cj : j = i
    · subst cj
      obtain ⟨_, e2⟩ := put_out hj
      rw [List.getElem?_set_self (by rw [r.len]; exact e2)] at h1
      cases h1
      rw [put_ne (Ne.symm hne)] at hk
      rw [List.getElem?_set_ne hne] at h2
      exact o.neo r k hk o2 h2
    · rw [put_ne cj] at hj
      rw [List.getElem?_set_ne (Ne.symm cj)] at h1
      by_cases ck : k = i
      · subst ck
        obtain ⟨_, e2⟩ := put_out hk
        rw [List.getElem?_set_self (by rw [r.len]; exact e2)] at h2
        cases h2
        exact o.neo r j hj o1 h1
      · rw [put_ne ck] at hk
        rw [List.getElem?_set_ne (Ne.symm ck)] at h2
        exact r.injo j k q s1 s2 hne hj hk o1 o2 h1 h2
  · by_cases cj : j = i
    · subst cj
      obtain ⟨_, e2⟩ := put_out hj
      rw [List.getElem?_set_self (by rw [r.len]; exact e2)] at h1
      cases h1
      exact o.nb hb
    · rw [put_ne cj] at hj
      rw [List.getElem?_set_ne (Ne.symm cj)] at h1
      exact r.bne q j ds hb hj h1
def sAsg (i : Nat) (a : DEn) : DSt := fun en => a en >>= fun p => .ok (.nx (p.2.put i (.fz p.1)))
theorem ds_asg (i : Nat) {x : Str} {p2 : Pos} (hN : X.N.Nodup) (hi : X.N[i]? = some x) (hx : Loc X.env.scope x) (h : DE X G W e A) (hs : swapsWith e (some (.Name x p2)) pos.line X.env = pure false := by rfl) (hf : X.fn x = true ∨ X.env.scope.names.lookup x = some .local := by first | exact .inl rfl | exact .inr rfl | assumption) :
    DS X G W (.Assign [.Name x p2] e pos) (sAsg i A) :=
  ⟨ps_imp (ps_set hN hi hx h.pe hs hf) fun Ds σ H ⟨en, M, Bx, rel, m⟩ => ⟨en, M, Bx, rel, Post.imp (post_bind.mp m) (fun p mp v H1 M1 rel1 st1 rd1 => mp _ H1 M1 Bx (rel1.set rd1) st1 fun _ => rfl) fun _ _ _ h => h.ew σ⟩⟩
def sOwn (i : Nat) (n : DNl) : DSt := fun en => n en >>= fun p => .ok (.nx (p.2.put i (.ow p.1)))
theorem ds_own (i : Nat) {x : Str} {p2 : Pos} (hN : X.N.Nodup) (hi : X.N[i]? = some x) (hx : Loc X.env.scope x) (h : DN X G W e N) (hs : swapsWith e (some (.Name x p2)) pos.line X.env = pure false := by rfl) (hf : X.fn x = true ∨ X.env.scope.names.lookup x = some .local := by first | exact .inl rfl | exact .inr rfl | assumption) :
    DS X G W (.Assign [.Name x p2] e pos) (sOwn i N) :=
  ⟨ps_imp (ps_set hN hi hx h.pn hs hf) fun Ds σ H ⟨en, M, Bx, rel, m⟩ => ⟨en, M, Bx, rel, Post.imp (post_bind.mp m) (fun q mq p ys H1 M1 rel1 st1 o => mq _ H1 M1 Bx (rel1.setOwn o) st1 fun _ => rfl) fun _ _ _ h => h.ew σ⟩⟩
/-- an owned list written -/
theorem Rel.write {en : En} {σ : L2.St} {H : Hp} {M : AS} {Bx : Option Addr} {p : Addr} {i : Nat} {ds zs : List D} {ys : List V} (r : Rel G en σ H M Bx) (hi : en.sl[i]? = some (Sl.ow ds)) (hp : σ[i]? = some (some (V.ref p))) (hl : ys.length ≤ sizeLine) (rd : RDs G.K H (av G M) ys zs) :
    Rel G (en.put i (.ow zs)) σ (upd H p (.lst ys)) M Bx ∧ Step H M (upd H p (.lst ys)) M := by
  obtain ⟨p', xs, h1, h2, h3, h4, h5⟩ := r.slot i _ hi
  obtain rfl : p' = p := by
    rw [hp] at h1
    exact (V.ref.inj (Option.some.inj (Option.some.inj h1))).symm
  have st : Step H M (upd H p' (.lst ys)) M := ⟨fun a o h n => by rw [upd_ne (fun z => n (by rw [z]; exact h2))]; exact h, fun _ h => .inl h⟩
  refine ⟨⟨by rw [r.len]; simp [En.put], fun j s hj => ?_, fun j k q s1 s2 hne hj hk o1 o2 g1 g2 => ?_, fun q hb => ⟨(r.box q hb).1, ?_⟩, fun q j ds' hb hj g1 => ?_, out_step r.out st, fun a h => ?_, r.tab.write h3 fun _ _ z => z⟩, st⟩
  · by_cases c : j = i
    · subst c
      obtain ⟨e1, e2⟩ := put_out hj
      subst e1
      exact ⟨p', ys, hp, h2, upd_same, hl, rd.step st⟩
    · rw [put_ne c] at hj
      have q := r.slot j s hj
      cases s with
      | no => trivial
      | fz d => obtain ⟨v, q1, q2⟩ := q; exact ⟨v, q1, q2.step st⟩
      | sq ns => obtain ⟨v, q1, q2⟩ := q; exact ⟨v, q1, q2.step st⟩
      | fu x => exact q
      | ow es =>
        obtain ⟨p2, xs2, q1, q2, q3, q4, q5⟩ := q
        refine ⟨p2, xs2, q1, q2, ?_, q4, q5.step st⟩
        rw [upd_ne fun z => ?_]
        · exact q3
        · subst z
          exact r.inj j i p2 es ds c hj hi q1 hp
      | od t es =>
        obtain ⟨p2, q1, q2, q3⟩ := q
        refine ⟨p2, q1, q2, q3.step st fun o ho => ?_⟩
        rw [upd_ne fun z => ?_]
        · exact ho
        · subst z
          exact q3.nlst h3
      | bx => exact q
      | er c d => exact erOk_step q st
  · have fj : ∀ {j : Nat} {s' : Sl}, (en.put i (.ow zs)).sl[j]? = some s' → isO s' = true → ∃ s2, en.sl[j]? = some s2 ∧ isO s2 = true := fun {j s'} hj o => by
      by_cases c : j = i
      · subst c; exact ⟨_, hi, rfl⟩
      · rw [put_ne c] at hj; exact ⟨_, hj, o⟩
    obtain ⟨_, a1, b1⟩ := fj hj o1
    obtain ⟨_, a2, b2⟩ := fj hk o2
    exact r.injo j k q _ _ hne a1 a2 b1 b2 g1 g2
  · rw [upd_ne fun z => ?_]
    · exact (r.box q hb).2
    · subst z
      exact r.bne q i ds hb hi hp
  · by_cases c : j = i
    · subst c; exact r.bne q j ds hb hi g1
    · rw [put_ne c] at hj; exact r.bne q j ds' hb hj g1
  · by_cases c : a = p'
    · subst c; rw [upd_same]; exact fun z => nomatch z
    · rw [upd_ne c]; exact r.mh a h
def sApp (i : Nat) (a : DEn) : DSt := fun en => (match en.sl[i]? with | some (.ow _) => a en | _ => .bad) >>= fun p => match p.2.sl[i]? with
  | some (.ow ds) => if ds.length < sizeLine then .ok (.nx (p.2.put i (.ow (ds ++ [p.1])))) else .bad
  | _ => .bad
theorem ds_app (i : Nat) {x : Str} {p2 p3 p4 : Pos} (hN : X.N[i]? = some x) (hv : Vis X.env.scope x) (h : DE X G W e A) (hd : (x == ("__debug__" : Str)) = false := by decide) (hcd : (x == ("__classdict__" : Str)) = false := by decide)
    (hes : starEach [e] X.env = (false, eval e X.env) :: starEach [] X.env := by rfl) (hpl : (backTo p3 (starEach [] X.env)).any (·.1) = false := by rfl) (hline : (p2.endLine == p3.line) = true := by rfl) (hb : attributeBase (.Name x pos) "append" X.env (eval (.Name x pos) X.env) = eval (.Name x pos) X.env := by rfl)
    (hfew : ((backTo p3 (starEach [e] X.env)).all (fun x => !x.1) && ((backToKw p3 (keywordEach [] X.env)).all (fun x => x.1.isSome)) && decide ([e].length + ([] : List Keyword).length + (if ([] : List Keyword).isEmpty then 0 else 1) < 30)) = true := by rfl)
    (hsw : swapsWith (.Call (.Attribute (.Name x pos) "append" p2) [e] [] p3) none p4.line X.env = pure false := by rfl) :
    DS X G W (.Expr (.Call (.Attribute (.Name x pos) "append" p2) [e] [] p3) p4) (sApp i A) := by
  refine ⟨ps_imp (ps_expr (pe_bm PySem.F.plainAttrs_list PySem.F.slot_list_append PySem.F.type_list_append mt_append (pe_var hN hv hd hcd) (pa_cons h.pe pa_nil hes) hb hfew hline hes hpl) hsw) fun Ds σ H ⟨en, M, Bx, rel, m⟩ => ?_⟩
  have m := post_bind.mp m
  cases es : en.sl[i]? with
  | none => rw [es] at m; exact m.elim
  | some s =>
    rw [es] at m
    cases s with
    | ow ds0 =>
      obtain ⟨p, xs, h1, h2, h3, h4, h5⟩ := rel.slot i _ es
      refine ⟨_, h1, .inl ⟨rfl, _, .inl (.inl h3)⟩, en, M, Bx, rel, Post.imp m (fun q mq v H1 M1 rel1 st1 rd1 => ?_) fun _ _ _ h => h.ew σ⟩
      cases e1 : q.2.sl[i]? with
      | none => rw [e1] at mq; exact mq.elim
      | some s1 =>
        rw [e1] at mq
        cases s1 with
        | ow ds =>
          dsimp only at mq
          split at mq
          · rename_i hl
            obtain ⟨p', ys, g1, g2, g3, g4, g5⟩ := rel1.slot i _ e1
            rw [h1] at g1
            cases g1
            have hl' : ys.length < sizeLine := by rw [g5.length]; exact hl
            obtain ⟨r2, s2⟩ := rel1.write (ys := ys ++ [v]) (zs := ds ++ [q.1]) e1 h1 (by rw [List.length_append, List.length_singleton]; omega) (g5.append (.one rd1))
            exact ⟨p, ys, v, rfl, rfl, g3, hl', mq σ _ M1 Bx r2 (st1.trans s2) fun _ => rfl⟩
          · exact mq.elim
        | _ => exact mq.elim
    | _ => exact m.elim
/-- xs[i] = e of an owned list -/
def sStore (i : Nat) (a ix : DEn) : DSt := fun en => a en >>= fun p => (match p.2.sl[i]? with | some (.ow _) => ix p.2 | _ => .bad) >>= fun q => match q.2.sl[i]? with
  | some (.ow ds) => (liftO ((asI q.1).bind fun k => ixN ds.length k)) >>= fun j => .ok (.nx (q.2.put i (.ow (ds.set j p.1))))
  | _ => .bad
theorem ds_store (i : Nat) {x : Str} {p2 p3 : Pos} {ix : Expr} {I : DEn} (hN : X.N[i]? = some x) (hv : Vis X.env.scope x) (h : DE X G W e A) (hI : DE X G W ix I) (hd : (x == ("__debug__" : Str)) = false := by decide) (hcd : (x == ("__classdict__" : Str)) = false := by decide)
    (ha : ∀ v, assign (.Subscript (.Name x p2) ix p3) X.env v = (do
      let ov ← holding [v] (eval (.Name x p2) X.env)
      let iv ← holding [v, ov] (eval ix X.env)
      standAt p3
      holding [v, ov, iv] (setItem ov iv v)
      release [v, ov, iv] []) := by intro _; rfl) (hs : swapsWithSole [.Subscript (.Name x p2) ix p3] e pos.line X.env = pure false := by rfl) (hw : swappedStores [.Subscript (.Name x p2) ix p3] e X.env = pure none := by rfl)
    (h1 : (assignEach [.Subscript (.Name x p2) ix p3] X.env).map (·.2) = [assign (.Subscript (.Name x p2) ix p3) X.env] := by rfl) :
    DS X G W (.Assign [.Subscript (.Name x p2) ix p3] e pos) (sStore i A I) := by
  refine ⟨ps_imp (ps_asg h.pe (pg_sub (pe_var hN hv hd hcd) hI.pe set_list ha) hs hw h1) fun Ds σ H ⟨en, M, Bx, rel, m⟩ => ⟨en, M, Bx, rel, Post.imp (post_bind.mp m) (fun p mp v H1 M1 rel1 st1 rd1 => ?_) fun _ _ _ h => h.ew σ⟩⟩
  have mp := post_bind.mp mp
  cases es : p.2.sl[i]? with
  | none => rw [es] at mp; exact mp.elim
  | some s =>
    rw [es] at mp
    cases s with
    | ow ds0 =>
      obtain ⟨a0, xs, g1, g2, g3, g4, g5⟩ := rel1.slot i _ es
      refine ⟨_, g1, p.2, M1, Bx, rel1, Post.imp mp (fun q mq w H2 M2 rel2 st2 rd2 => ?_) fun _ _ _ h => (h.ew σ).step st1⟩
      cases e1 : q.2.sl[i]? with
      | none => rw [e1] at mq; exact mq.elim
      | some s1 =>
        rw [e1] at mq
        cases s1 with
        | ow ds =>
          obtain ⟨j, hj, mj⟩ := post_lift.mp mq
          obtain ⟨p', ys, k1, k2, k3, k4, k5⟩ := rel2.slot i _ e1
          rw [g1] at k1
          cases k1
          cases ei : asI q.1 with
          | none => rw [ei] at hj; cases hj
          | some k =>
            rw [ei] at hj
            obtain ⟨r3, s3⟩ := rel2.write (ys := ys.set j v) (zs := ds.set j p.1) e1 g1 (by rw [List.length_set]; exact k4) (k5.set (rd1.step st2) j)
            exact ⟨a0, ys, k, j, rfl, asI_rd rd2 ei, k3, by rw [k5.length]; exact hj, mj σ _ M2 Bx r3 ((st1.trans st2).trans s3) fun _ => rfl⟩
        | _ => exact mq.elim
    | _ => exact mp.elim
end
end DL

/-! enumerate(v) of a tuple: how it begins, its turns -/
namespace DL
open PySem L2
open PySem.Spec PyProof.Rows in
theorem meets_enum1 {v : Value} {o : Obj} {H : Heap → Prop} (Bg : Begins v o H) :
    Meets (Builtin.«enumerate.__new__» ⟨[.type "enumerate", v], []⟩) (fun _ R s => H s.heap ∧
      R (.ok (.ret (.ref (s.heap.push o).objs.size))) { s with heap := (s.heap.push o).push { cls := .type "enumerate", data := .fields #[.none, .bool false, .ref s.heap.objs.size, rawInt 0, .none, .none] } }) := by
  refine .of_wp fun prog w A R s h => ?_
  obtain ⟨hp, g, d, tk, os⟩ := s
  obtain ⟨h1, h2⟩ := h
  have hsub := sub_enumerate
  have start : ∀ {A' : Around} {E : Value → Shared → Prop} {Q : Value → Shared → Prop}, Q (.ref hp.objs.size) ⟨hp.push o, g, d, tk, os⟩ → wpAny (model prog w) A' (pyIter v) Q E ⟨hp, g, d, tk, os⟩ := fun q => Bg.iter prog w _ _ ⟨hp, g, d, tk, os⟩ _ h1 q
  wp_walk using start
  refine wpAny_stack_any fun st => wpAny_pure ?_
  split
  · rename_i c _ _ _ _ _
    cases (c == Value.type "enumerate") <;> (wp_walk using start; exact ⟨_, rfl, h2⟩)
  · wp_walk using start
    exact ⟨_, rfl, h2⟩
open PySem.Spec PyProof.Rows in
theorem enum_begin1 {prog : Program} {w : World} {A : Around} {E : Value → Shared → Prop} {s : Shared} {v : Value} {o : Obj} {H : Heap → Prop} {Q : Value → Shared → Prop} (Bg : Begins v o H) (h1 : H s.heap)
    (h : ∀ h', IsEnum h' (s.heap.objs.size + 1) s.heap.objs.size 0 .none → h'.get? s.heap.objs.size = some o → (∀ b o, s.heap.get? b = some o → h'.get? b = some o) → Q (.ref (s.heap.objs.size + 1)) { s with heap := h' }) :
    wpAny (model prog w) A (call (.type "enumerate") [v]) Q E s := by
  refine callType_new F.called_enumerate (by decide) (F.typeCall_enumerate_1 _) (F.newCall_enumerate_1 _) (fun obj => F.args_object_init_2 obj _) F.entry_enumerate_new (meets_enum1 Bg) ⟨h1, ?_⟩
  have hz : (s.heap.push o).objs.size = s.heap.objs.size + 1 := Heap.size_push ..
  show _ ∧ _
  rw [hz]
  have he := Heap.get?_push_size (s.heap.push o) (o := { cls := .type "enumerate", data := .fields #[.none, .bool false, .ref s.heap.objs.size, rawInt 0, .none, .none] }) rfl
  rw [hz] at he
  exact ⟨⟨_, he, rfl⟩, h _ he (Heap.get?_push_of_some _ (Heap.get?_push_size _ Bg.free)) fun b o x => Heap.get?_push_of_some _ (Heap.get?_push_of_some _ x)⟩
def Itet (K : Fg) (a : Addr) : It :=
  ⟨fun i H => ∃ (xs : List V) (x : V), SqT K H a xs ∧ xs[i]? = some x, fun i H v H' => ∃ T x, v = .ref T ∧ H T = none ∧ H' = upd H T (.tup [.int (i : Nat), x]) ∧ ∀ xs, SqT K H a xs → xs[i]? = some x, fun i H => ∃ xs : List V, SqT K H a xs ∧ xs.length ≤ i⟩
open PySem.Spec PyProof.Rows in
theorem turn_enumT {P : Program} {w : World} {K : Fg} {elts : List Expr} {kk : Nat} {tpos : Pos} (a e it : Addr) :
    Turn P w K (.Tuple elts kk tpos) (Itet K a) [e, it] e (fun i h => (∃ old, IsEnum h e it ((i : Nat) : Int) old) ∧ h.IsTupleIter it a i ∧ e ≠ it ∧ a ≠ it) where
  mem := List.mem_cons_self
  obj := fun i h st b hb => by
    obtain ⟨⟨old, he⟩, ⟨o, ho, hc, hd⟩, _⟩ := st
    rcases (by simpa using hb : b = e ∨ b = it) with z | z
    · subst z; exact ⟨_, he, fun v q => nomatch q⟩
    · subst z; exact ⟨o, ho, fun v q => by rw [hd] at q; cases q⟩
  keep := fun i h h' st k => let ⟨⟨old, he⟩, hi, hne⟩ := st; ⟨⟨old, k e List.mem_cons_self _ he⟩, hi.at fun o q => k it (by simp) o q, hne⟩
  item := by
    intro X hP hw hK hc i pins s σ H E I hf st hg
    subst hP hw hK
    obtain ⟨⟨old, he⟩, hit, hne, hna⟩ := st
    obtain ⟨xs, x, hq, hx⟩ := hg
    obtain ⟨its, rv, p, hz⟩ := I.tuple hq
    obtain ⟨u, hu, ru⟩ := rv.get hx
    have hT0 : s.heap.IsTuple a its.toArray := p
    have hel : e < s.heap.objs.size := Heap.lt_size he
    have hil : it < s.heap.objs.size := by obtain ⟨_, q, _⟩ := hit; exact Heap.lt_size q
    have hlt : i < its.toArray.size := by
      have := (List.getElem?_eq_some_iff.mp hu).1
      simpa using this
    have hae : a ≠ e := by
      intro z
      subst z
      obtain ⟨o, ho, hcl, _⟩ := hT0
      rw [he] at ho
      cases ho
      exact absurd (Value.type.inj hcl) (by decide)
    refine wpAny_pyNext_enum_itemD (Draws.tuple (A := X.A.in1) (I.ok.hd hc) it a hna its.toArray) he ⟨hit, hT0⟩ hlt hne (by simp; exact ⟨hne, Ne.symm hae⟩) fun y h' tk hy ho hst hT hsz hk => ?_
    obtain rfl : u = y := by
      have h2 : its.toArray[i]? = some u := by simpa using hu
      rw [h2] at hy
      exact Option.some.inj hy
    refine ⟨_, rfl, wpAny_letOwnedTupleGo_enum (s := { s with heap := h', toks := tk + 1 }) ho fun h'' he' sb => ?_⟩
    have hT2 : h''.get? s.heap.objs.size = some { cls := .type "tuple", data := .seq #[.int i tk, u] } := (sb.2 _ (Nat.ne_of_gt hel)).trans hT
    have new : ObjOk X.prog X.w (upd H s.heap.objs.size (.tup [.int (i : Nat), x])) h'' s.heap.objs.size (.tup [.int (i : Nat), x]) :=
      ⟨by show 2 ≤ sizeLine; decide, [.int i tk, u], .cons ⟨_, rfl⟩ (.cons ru .nil), ⟨_, hT2, rfl, _, rfl⟩⟩
    have I1 : Inv X pins σ (upd H s.heap.objs.size (.tup [.int (i : Nat), x])) { s with heap := h'', toks := tk + 1 } := by
      refine I.turnedNew (ch := [e, it]) (fun b ob hb q => ?_) hf (Nat.le_refl _) new
      have n1 : b ≠ e := fun z => hb (by simp [z])
      have n2 : b ≠ it := fun z => hb (by simp [z])
      exact (sb.2 b n1).trans (hk b ob n1 n2 q)
    refine ⟨.ref s.heap.objs.size, _, I1, rfl, ⟨_, x, rfl, I.hok.fresh (Nat.le_refl _), rfl, fun ys hy => by rw [I.tuple_inj hy hq]; exact hx⟩, ⟨⟨u, ?_⟩, hst.1.at fun o q => (sb.2 it (Ne.symm hne)).trans q, hne, hna⟩, fun b hb => ?_⟩
    · rw [show ((i + 1 : Nat) : Int) = (i : Int) + 1 by omega]
      exact he'
    · have hb' : b < s.heap.objs.size := by
        rcases (by simpa using hb : b = e ∨ b = it) with z | z
        · rw [z]; exact hel
        · rw [z]; exact hil
      rw [upd_ne (Nat.ne_of_lt hb')]
      exact (hf b hb).1
  done := by
    intro X hP hw hK hc i pins s σ H E I hf st hg
    subst hP hw hK
    obtain ⟨⟨old, he⟩, hit, hne, hna⟩ := st
    obtain ⟨xs, hq, hx⟩ := hg
    obtain ⟨its, rv, p, hz⟩ := I.tuple hq
    have hT0 : s.heap.IsTuple a its.toArray := p
    obtain ⟨f0, f1, f2, f3, f4, f5⟩ := hf it (by simp)
    have hl := rv.length
    have em : Draws X.prog X.w X.A.in1 it [it, a] 0 (fun _ _ => False) (fun _ h => h.IsTupleIter it a i ∧ h.IsTuple a its.toArray) :=
      { live := fun _ _ st => let ⟨o, ho, _⟩ := st.1; ⟨o, ho⟩
        frame := fun _ _ _ st hk => ⟨st.1.at fun o e => hk it (by simp) o e, st.2.at fun o e => hk a (by simp) o e⟩
        item := fun _ _ _ _ h _ _ => absurd h (Nat.not_lt_zero _)
        done := fun s Q E st hE => wpAny_nextOf_tuple_end (I.ok.hd hc) st.1 st.2 (by simp; omega) hE }
    exact wpAny_pyNext_enum_endD em he ⟨hit, hT0⟩ fun h' eb => ⟨rfl, I.turned (t' := s.toks) (fun b o hb q => eb b o hb q) f0 f1 f3 f4 f5⟩
  self := fun A i s Q E st h => let ⟨⟨_, he⟩, _⟩ := st; wpAny_pyIter_enum he h
def iEnumT (K : Fg) (ta : TA) : TI := fun σ H R => ta σ H fun vs H1 => ∃ a xs, vs = [.ref a] ∧ ((SqL K H1 a xs ∧ R (Ite K a) H1) ∨ (SqT K H1 a xs ∧ R (Itet K a) H1))
open PySem.Spec PyProof.Rows in
theorem pi_enumT {X : Cx} {e : Expr} {ta : TA} {p pos tpos : Pos} {elts : List Expr} {kk : Nat} (hg : Gl X "enumerate") (hm : X.mg "enumerate" = none) (ha : PA X [e] ta) (hs : starEach [e] X.env = [(false, eval e X.env)] := by rfl) :
    PI X (.Tuple elts kk tpos) (.Call (.Name "enumerate" p) [e] [] pos) (iEnumT X.K ta) := by
  refine ⟨fun pins s σ H R I h => ?_⟩
  refine Call_ (ld_blt I hg hm boot_enumerate (PyProof.Rows.callWith_type1 (thn (ha.run pos pins s σ H _ I h) fun us s1 ⟨vs, H1, I1, r1, q1⟩ => ?_) hs rfl))
  obtain ⟨a, xs, ex, q⟩ := q1
  subst ex
  obtain rfl := Vals.ref1 r1
  have near : ∀ b ∈ [s1.heap.objs.size + 1, s1.heap.objs.size], s1.heap.objs.size ≤ b := fun b hb => by
    rcases (by simpa using hb : b = s1.heap.objs.size + 1 ∨ b = s1.heap.objs.size) with z | z <;> omega
  rcases q with ⟨hq, q⟩ | ⟨hq, q⟩
  · obtain ⟨its, rv, p', hz⟩ := I1.list hq
    refine enum_begin1 (begins_list a its.toArray) p'.isList fun h' he hit hk => wpAny_pyIter_enum he ?_
    exact ⟨s1.heap.objs.size + 1, [s1.heap.objs.size + 1, s1.heap.objs.size], _, _, H1, rfl, I1.kept (t' := s1.toks) hk, turn_enum a (s1.heap.objs.size + 1) s1.heap.objs.size,
      ⟨⟨.none, he⟩, ⟨_, hit, rfl, rfl⟩, Nat.succ_ne_self _⟩, fun b hb => I1.fpOk (near b hb) (I1.hok.fresh (near b hb)), q⟩
  · obtain ⟨its, rv, p', hz⟩ := I1.tuple hq
    have hT0 : s1.heap.IsTuple a its.toArray := p'
    have hal : a < s1.heap.objs.size := by obtain ⟨_, q, _⟩ := hT0; exact Heap.lt_size q
    refine enum_begin1 (begins_tuple a its.toArray) hT0 fun h' he hit hk => wpAny_pyIter_enum he ?_
    exact ⟨s1.heap.objs.size + 1, [s1.heap.objs.size + 1, s1.heap.objs.size], _, _, H1, rfl, I1.kept (t' := s1.toks) hk, turn_enumT a (s1.heap.objs.size + 1) s1.heap.objs.size,
      ⟨⟨.none, he⟩, ⟨_, hit, rfl, rfl⟩, Nat.succ_ne_self _, Nat.ne_of_lt hal⟩, fun b hb => I1.fpOk (near b hb) (I1.hok.fresh (near b hb)), q⟩
theorem walk_enumT {K : Fg} {a : Addr} {xs : List V} : Walk (Itet K a) xs.length (fun H => SqT K H a xs) (YPair (fun i => some (.int (i : Nat))) (fun i => xs[i]?)) := by
  refine ⟨fun i _ hi q => ⟨xs, xs[i], q, by simp [hi]⟩, fun _ q => ⟨xs, q, Nat.le_refl _⟩, fun i H v H' _ q y => ?_⟩
  obtain ⟨T, x, h1, h2, h3, h4⟩ := y
  exact ⟨T, .int (i : Nat), x, h1, h2, h3, rfl, h4 xs q⟩
end DL

namespace DL
open PySem L2
/-! ### targets -/
abbrev DGt := D → En → Option En
/-- behind stores at the slots ts nothing else has changed -/
def Only (ts : List Nat) (σ σ' : L2.St) : Prop := ∀ vs : List Nat, (∀ i ∈ ts, i ∈ vs) → wipe σ' vs = wipe σ vs
theorem wipe_set {σ : L2.St} {i : Nat} {v : Option V} : ∀ {vs : List Nat}, i ∈ vs → wipe (σ.set i v) vs = wipe σ vs
  | [], h => nomatch h
  | w :: vs, h => by
    unfold wipe
    by_cases c : i ∈ vs
    · rw [wipe_set c]
    · have e : i = w := (List.mem_cons.mp h).elim id fun q => absurd q c
      subst e
      have comm : ∀ vs : List Nat, i ∉ vs → wipe (σ.set i v) vs = (wipe σ vs).set i v := by
        intro vs hn
        induction vs with
        | nil => rfl
        | cons u us ih =>
          have h1 : i ≠ u := fun z => hn (by rw [z]; exact List.mem_cons_self)
          show (wipe (σ.set i v) us).set u none = ((wipe σ us).set u none).set i v
          rw [ih fun z => hn (List.mem_cons_of_mem _ z), List.set_comm _ _ h1]
      rw [comm vs c, List.set_set]
def tG (G : Gh) (ts : List Nat) (g : DGt) : TG := fun v σ H Q => ∃ d en M B en', Rel G en σ H M B ∧ RD G.K H (av G M) v d ∧ g d en = some en' ∧ ∀ σ' H' M', Rel G en' σ' H' M' B → Step H M H' M' → Only ts σ σ' → Q σ' H'
abbrev DGts := List D → En → Option En
def tGs (G : Gh) (ts : List Nat) (g : DGts) : TGs := fun vs σ H Q => ∃ ds en M B en', Rel G en σ H M B ∧ RDs G.K H (av G M) vs ds ∧ g ds en = some en' ∧ ∀ σ' H' M', Rel G en' σ' H' M' B → Step H M H' M' → Only ts σ σ' → Q σ' H'
structure DG (X : Cx) (G : Gh) (tg : Expr) (ts : List Nat) (g : DGt) : Prop where pg : PG X tg (tG G ts g)
structure DGs (X : Cx) (G : Gh) (es : List Expr) (ts : List Nat) (g : DGts) : Prop where pgs : PGs X es (tGs G ts g)
theorem pg_imp {X : Cx} {e : Expr} {t t' : TG} (h : PG X e t) (i : ∀ v σ H Q, t' v σ H Q → t v σ H Q) : PG X e t' := ⟨fun pins s σ H v u Q I r q => h.run pins s σ H v u Q I r (i v σ H Q q)⟩
theorem pgs_imp {X : Cx} {e : List Expr} {t t' : TGs} (h : PGs X e t) (i : ∀ v σ H Q, t' v σ H Q → t v σ H Q) : PGs X e t' := ⟨fun pins s σ H v u Q I r q => h.run pins s σ H v u Q I r (i v σ H Q q)⟩
def gN (i : Nat) : DGt := fun d en => some (en.put i (.fz d))
def gNil : DGts := fun ds en => match ds with | [] => some en | _ => none
def gCons (g : DGt) (r : DGts) : DGts := fun ds en => match ds with | d :: t => (g d en).bind (r t) | [] => none
def gTup (n : Nat) (g : DGts) : DGt := fun d en => match d with | .tuple ds => if ds.length = n then g ds en else none | .list ds => if ds.length = n then g ds en else none | _ => none
theorem pg_or {X : Cx} {e : Expr} {t t' : TG} (h : PG X e t) (h' : PG X e t') : PG X e (fun v σ H Q => t v σ H Q ∨ t' v σ H Q) := ⟨fun pins s σ H v u Q I r q => q.elim (h.run pins s σ H v u Q I r) (h'.run pins s σ H v u Q I r)⟩
section
variable {X : Cx} {G : Gh} {W : WX} {pos : Pos}
theorem dg_name (i : Nat) {x : Str} (hN : X.N.Nodup) (hi : X.N[i]? = some x) (hx : Loc X.env.scope x) (hf : X.fn x = true ∨ X.env.scope.names.lookup x = some .local := by first | exact .inl rfl | exact .inr rfl | assumption) : DG X G (.Name x pos) [i] (gN i) :=
  ⟨pg_imp (pg_name hN hi hx hf) fun v σ H Q ⟨d, en, M, B, en', rel, rd, e, m⟩ => by
    cases e
    exact m _ H M (rel.set rd) .refl fun vs h => wipe_set (h i List.mem_cons_self)⟩
theorem dgs_nil : DGs X G [] [] gNil := ⟨pgs_imp pgs_nil fun v σ H Q ⟨ds, en, M, B, en', rel, rd, e, m⟩ => by
  cases rd with
  | nil => cases e; exact ⟨rfl, m σ H M rel .refl fun _ _ => rfl⟩
  | cons _ _ => cases e⟩
theorem dgs_cons {e : Expr} {es : List Expr} {g : DGt} {r : DGts} {ts us : List Nat} (h1 : DG X G e ts g) (h2 : DGs X G es us r) (hs : (assignEach (e :: es) X.env).map (·.2) = assign e X.env :: (assignEach es X.env).map (·.2) := by rfl) : DGs X G (e :: es) (ts ++ us) (gCons g r) :=
  ⟨pgs_imp (pgs_cons h1.pg h2.pgs hs) fun v σ H Q ⟨ds, en, M, B, en', rel, rd, e, m⟩ => by
    cases rd with
    | nil => cases e
    | @cons v0 vs d ds q t =>
      have e : (g d en).bind (r ds) = some en' := e
      cases e1 : g d en with
      | none => rw [e1] at e; cases e
      | some en1 =>
        rw [e1] at e
        exact ⟨_, _, rfl, _, en, M, B, en1, rel, q, e1, fun σ1 H1 M1 rel1 st1 o1 => ⟨_, en1, M1, B, en', rel1, t.step st1, e, fun σ2 H2 M2 rel2 st2 o2 => m σ2 H2 M2 rel2 (st1.trans st2) fun vs h => (o2 vs fun i hi => h i (List.mem_append_right _ hi)).trans (o1 vs fun i hi => h i (List.mem_append_left _ hi))⟩⟩⟩
theorem dg_tup {es : List Expr} {k : Nat} {g : DGts} {n : Nat} {ts : List Nat} (hK : G.K = X.K) (hc : X.calm = true) (h : DGs X G es ts g) (hn : (assignEach es X.env).length = n := by rfl) (hst : (assignEach es X.env).findIdx? (·.1) = none := by rfl) : DG X G (.Tuple es k pos) ts (gTup n g) := by
  refine ⟨pg_imp (pg_or (pg_tup hc h.pgs hn hst) (pg_lst hc h.pgs hn hst)) fun v σ H Q ⟨d, en, M, B, en', rel, rd, e, m⟩ => ?_⟩
  rw [← hK]
  unfold gTup at e
  cases rd with
  | tup h1 h2 h3 =>
    dsimp only at e
    split at e
    · rename_i hl
      exact .inl ⟨_, _, rfl, h1.sq, h3.length.trans hl, _, en, M, B, en', rel, h3, e, m⟩
    · cases e
  | lst h1 h2 h3 =>
    dsimp only at e
    split at e
    · rename_i hl
      exact .inr ⟨_, _, rfl, h1.sq, h3.length.trans hl, _, en, M, B, en', rel, h3, e, m⟩
    · cases e
  | _ => cases e
/-! ### what is walked -/
def ItOk (G : Gh) (J : It) (ds : List D) (H0 : Hp) (M0 : AS) : Prop := ∃ (Gd : Hp → Prop) (Y : Nat → Hp → V → Hp → Prop), Walk J ds.length Gd Y ∧ (∀ H M, Step H0 M0 H M → Gd H) ∧
  ∀ i H M x H', i < ds.length → Step H0 M0 H M → (∀ a, av G M a → H a ≠ none) → Y i H x H' → Ext H H' ∧ ∃ d, ds[i]? = some d ∧ RD G.K H' (av G M) x d
def tI (G : Gh) (W : WX) (A : DNl) : TI := fun σ H R => ∃ en M B, Rel G en σ H M B ∧ Post (fun q => ∀ J H' M', Rel G q.2 σ H' M' B → Step H M H' M' → ItOk G J q.1 H' M' → R J H') (EW G W σ H M B) (A en)
structure DI (X : Cx) (G : Gh) (W : WX) (tg iter : Expr) (A : DNl) : Prop where pi : PI X tg iter (tI G W A)
theorem pi_imp {X : Cx} {tg e : Expr} {t t' : TI} (h : PI X tg e t) (i : ∀ σ H R, t' σ H R → t σ H R) : PI X tg e t' := ⟨fun pins s σ H R I q => h.run pins s σ H R I (i σ H R q)⟩
theorem itOk_list {H : Hp} {M : AS} {a : Addr} {xs : List V} {ds : List D} (h1 : LsAt H (av G M) a xs) (h3 : RDs G.K H (av G M) xs ds) : ItOk G (Itl G.K a) ds H M := by
  refine ⟨_, _, h3.length ▸ walk_list (xs := xs), fun H' M' s => (h1.mono s.akeep s.agrow).sq, fun i H' M' x H'' hi s hO y => ?_⟩
  obtain ⟨rfl, hx⟩ := y
  obtain ⟨d, e1, e2⟩ := (h3.step s).get' hx
  exact ⟨fun _ _ h => h, d, e1, e2⟩
theorem itOk_tup {H : Hp} {M : AS} {a : Addr} {xs : List V} {ds : List D} (h1 : TpAt G.K H (av G M) a xs) (h3 : RDs G.K H (av G M) xs ds) : ItOk G (Itt G.K a) ds H M := by
  refine ⟨_, _, h3.length ▸ walk_tup (xs := xs), fun H' M' s => (h1.mono s.akeep s.agrow).sq, fun i H' M' x H'' hi s hO y => ?_⟩
  obtain ⟨rfl, hx⟩ := y
  obtain ⟨d, e1, e2⟩ := (h3.step s).get' hx
  exact ⟨fun _ _ h => h, d, e1, e2⟩
def asSeq : D → Option (List D)
  | .list ds => some ds
  | .tuple ds => some ds
  | _ => none
def iSeq (a : DEn) : DNl := fun en => a en >>= fun p => liftO (asSeq p.1) >>= fun ds => .ok (ds, p.2)
def iSeqT (K : Fg) (tl : TE) : TI := fun σ H R => tl σ H fun x H1 => ∃ a, x = .ref a ∧ (((∃ xs, SqL K H1 a xs) ∧ R (Itl K a) H1) ∨ ((∃ xs, SqT K H1 a xs) ∧ R (Itt K a) H1))
theorem pi_seq {tg l : Expr} {tl : TE} (hl : PE X l tl) : PI X tg l (iSeqT X.K tl) := by
  refine ⟨fun pins s σ H R I h => thn (hl.run pins s σ H _ I h) fun v s1 ⟨x, H1, I1, r1, a, e, q⟩ => ?_⟩
  subst e
  cases (show v = Value.ref a from r1)
  have near : ∀ b ∈ [s1.heap.objs.size], s1.heap.objs.size ≤ b := fun b hb => by rw [List.mem_singleton.mp hb]; exact Nat.le_refl _
  rcases q with ⟨⟨xs, hq⟩, q⟩ | ⟨⟨xs, hq⟩, q⟩
  · obtain ⟨its, rv, p, hz⟩ := I1.list hq
    exact wpAny_pyIter_list p.isList ⟨s1.heap.objs.size, [s1.heap.objs.size], _, _, H1, rfl, I1.kept (t' := s1.toks) (fun b o e => Heap.get?_push_of_some _ e), turn_list a _, ⟨_, Heap.get?_push_size _ rfl, rfl, rfl⟩, fun b hb => I1.fpOk (near b hb) (I1.hok.fresh (near b hb)), q⟩
  · obtain ⟨its, rv, p, hz⟩ := I1.tuple hq
    exact wpAny_pyIter_tuple (show s1.heap.IsTuple a its.toArray from p) ⟨s1.heap.objs.size, [s1.heap.objs.size], _, _, H1, rfl, I1.kept (t' := s1.toks) (fun b o e => Heap.get?_push_of_some _ e), turn_tuple a _, ⟨_, Heap.get?_push_size _ rfl, rfl, rfl⟩, fun b hb => I1.fpOk (near b hb) (I1.hok.fresh (near b hb)), q⟩
theorem di_seq {tg l : Expr} {A : DEn} (hK : G.K = X.K) (h : DE X G W l A) : DI X G W tg l (iSeq A) := by
  refine ⟨pi_imp (pi_seq h.pe) fun σ H R ⟨en, M, Bx, rel, m⟩ => ?_⟩
  rw [← hK]
  refine ⟨en, M, Bx, rel, Post.imp (post_bind.mp m) (fun p mp v H1 M1 rel1 st1 rd1 => ?_) fun _ _ _ h => h⟩
  obtain ⟨z, hz, mz⟩ := post_lift.mp mp
  generalize p.1 = d at rd1 hz
  cases rd1 with
  | lst h1 h2 h3 =>
    cases hz
    exact ⟨_, rfl, .inl ⟨⟨_, h1.sq⟩, mz _ H1 M1 rel1 st1 (itOk_list h1 h3)⟩⟩
  | tup h1 h2 h3 =>
    cases hz
    exact ⟨_, rfl, .inr ⟨⟨_, h1.sq⟩, mz _ H1 M1 rel1 st1 (itOk_tup h1 h3)⟩⟩
  | _ => cases hz
/-- range -/
def rgD (lo : Int) (n : Nat) : List D := (List.range n).map fun i => .int (lo + (i : Nat))
theorem itOk_range {H : Hp} {M : AS} {lo : Int} {n : Nat} : ItOk G (Itr lo n) (rgD lo n) H M := by
  have hl : (rgD lo n).length = n := by unfold rgD; rw [List.length_map, List.length_range]
  refine ⟨fun _ => True, _, by rw [hl]; exact walk_range, fun _ _ _ => trivial, fun i H' M' x H'' hi s hO y => ?_⟩
  obtain ⟨rfl, rfl⟩ := y
  rw [hl] at hi
  refine ⟨fun _ _ h => h, .int (lo + (i : Nat)), ?_, .int _⟩
  unfold rgD
  rw [List.getElem?_map, List.getElem?_range hi]
  rfl
def rgOk (i : Int) : Bool := decide (-(2 ^ 62) ≤ i) && decide (i < 2 ^ 62)
theorem rgOk_of {i : Int} (h : rgOk i = true) : -(2 ^ 62) ≤ i ∧ i < 2 ^ 62 := by
  unfold rgOk at h
  rw [Bool.and_eq_true] at h
  exact ⟨of_decide_eq_true h.1, of_decide_eq_true h.2⟩
def iR1 (a : DEn) : DNl := fun en => a en >>= fun p => liftO (asI p.1) >>= fun n => if rgOk n = true then .ok (rgD 0 n.toNat, p.2) else .bad
def iR2 (a b : DEn) : DNl := fun en => a en >>= fun p => b p.2 >>= fun q => liftO (asI p.1) >>= fun i => liftO (asI q.1) >>= fun j => if rgOk i = true ∧ rgOk j = true then .ok (rgD i (j - i).toNat, q.2) else .bad
theorem di_r1 {tg a : Expr} {A : DEn} {p : Pos} (hg : Gl X "range") (hm : X.mg "range" = none) (h : DE X G W a A) (hs : starEach [a] X.env = (false, eval a X.env) :: starEach [] X.env := by rfl) (hs2 : starEach [a] X.env = [(false, eval a X.env)] := by rfl) :
    DI X G W tg (.Call (.Name "range" p) [a] [] pos) (iR1 A) := by
  refine ⟨pi_imp (pi_range1 hg hm (pa_cons h.pe pa_nil hs) hs2) fun σ H R ⟨en, M, Bx, rel, m⟩ => ⟨en, M, Bx, rel, Post.imp (post_bind.mp m) (fun p mp v H1 M1 rel1 st1 rd1 => ?_) fun _ _ _ h => h⟩⟩
  obtain ⟨n, hn, mz⟩ := post_lift.mp mp
  split at mz
  · rename_i hr
    obtain ⟨h1, h2⟩ := rgOk_of hr
    exact ⟨n, by rw [asI_rd rd1 hn], h1, h2, mz _ H1 M1 rel1 st1 itOk_range⟩
  · exact mz.elim
theorem di_r2 {tg a b : Expr} {A B : DEn} {p : Pos} (hg : Gl X "range") (hm : X.mg "range" = none) (h : DE X G W a A) (h' : DE X G W b B) (hs : starEach [a, b] X.env = (false, eval a X.env) :: starEach [b] X.env := by rfl) (hs2 : starEach [b] X.env = (false, eval b X.env) :: starEach [] X.env := by rfl)
    (hs3 : starEach [a, b] X.env = [(false, eval a X.env), (false, eval b X.env)] := by rfl) (hs4 : starEach [b] X.env = [(false, eval b X.env)] := by rfl) :
    DI X G W tg (.Call (.Name "range" p) [a, b] [] pos) (iR2 A B) := by
  refine ⟨pi_imp (pi_range2 hg hm (pa_cons h.pe (pa_cons h'.pe pa_nil hs2) hs) hs3 hs4) fun σ H R ⟨en, M, Bx, rel, m⟩ => ⟨en, M, Bx, rel, Post.imp (post_bind.mp m) (fun p mp v H1 M1 rel1 st1 rd1 =>
    ⟨p.2, M1, Bx, rel1, Post.imp (post_bind.mp mp) (fun q mq w H2 M2 rel2 st2 rd2 => ?_) fun _ _ _ h => h.step st1⟩) fun _ _ _ h => h⟩⟩
  obtain ⟨i, hi, mi⟩ := post_lift.mp mq
  obtain ⟨j, hj, mj⟩ := post_lift.mp mi
  split at mj
  · rename_i hr
    obtain ⟨h1, h2⟩ := rgOk_of hr.1
    obtain ⟨h3, h4⟩ := rgOk_of hr.2
    exact ⟨i, j, by rw [asI_rd rd1 hi, asI_rd rd2 hj], ⟨h1, h2, h3, h4⟩, mj _ H2 M2 rel2 (st1.trans st2) itOk_range⟩
  · exact mj.elim
/-- enumerate -/
def enumD (k : Nat) : List D → List D
  | [] => []
  | d :: ds => .tuple [.int (k : Nat), d] :: enumD (k + 1) ds
theorem enumD_get : ∀ (ds : List D) (k i : Nat), (enumD k ds)[i]? = ds[i]?.map fun d => .tuple [.int ((k + i : Nat) : Int), d]
  | [], _, _ => by simp [enumD]
  | d :: ds, k, 0 => by simp [enumD]
  | d :: ds, k, i + 1 => by
    unfold enumD
    rw [List.getElem?_cons_succ, enumD_get ds (k + 1) i, List.getElem?_cons_succ, show k + 1 + i = k + (i + 1) by omega]
theorem enumD_length : ∀ (ds : List D) (k : Nat), (enumD k ds).length = ds.length
  | [], _ => rfl
  | d :: ds, k => by unfold enumD; rw [List.length_cons, List.length_cons, enumD_length ds (k + 1)]
theorem itOk_enum {J : It} {H : Hp} {M : AS} {xs : List V} {ds : List D} {Gd : Hp → Prop} (w : Walk J xs.length Gd (YPair (fun i => some (.int (i : Nat))) (fun i => xs[i]?))) (hG : ∀ H' M', Step H M H' M' → Gd H') (h3 : RDs G.K H (av G M) xs ds) : ItOk G J (enumD 0 ds) H M := by
  refine ⟨Gd, _, by rw [enumD_length, ← h3.length]; exact w, hG, fun i H' M' x H'' hi s hO y => ?_⟩
  obtain ⟨T, a, b, rfl, hT, rfl, ha, hb⟩ := y
  cases ha
  obtain ⟨d, e1, e2⟩ := (h3.step s).get' hb
  refine ⟨ext_new hT, .tuple [.int (i : Nat), d], ?_, new_tup hO (.cons (.int _) (.one e2)) (by show 2 ≤ sizeLine; decide) hT⟩
  rw [enumD_get, e1, Nat.zero_add]
  rfl
def iEnu (a : DEn) : DNl := fun en => a en >>= fun p => liftO (asSeq p.1) >>= fun ds => .ok (enumD 0 ds, p.2)
theorem di_enum {a : Expr} {A : DEn} {p tpos : Pos} {elts : List Expr} {kk : Nat} (hK : G.K = X.K) (hg : Gl X "enumerate") (hm : X.mg "enumerate" = none) (h : DE X G W a A) (hs : starEach [a] X.env = (false, eval a X.env) :: starEach [] X.env := by rfl) (hs2 : starEach [a] X.env = [(false, eval a X.env)] := by rfl) :
    DI X G W (.Tuple elts kk tpos) (.Call (.Name "enumerate" p) [a] [] pos) (iEnu A) := by
  refine ⟨pi_imp (pi_enumT hg hm (pa_cons h.pe pa_nil hs) hs2) fun σ H R ⟨en, M, Bx, rel, m⟩ => ?_⟩
  rw [← hK]
  refine ⟨en, M, Bx, rel, Post.imp (post_bind.mp m) (fun p mp v H1 M1 rel1 st1 rd1 => ?_) fun _ _ _ h => h⟩
  obtain ⟨z, hz, mz⟩ := post_lift.mp mp
  generalize p.1 = d at rd1 hz
  cases rd1 with
  | lst h1 h2 h3 =>
    cases hz
    exact ⟨_, _, rfl, .inl ⟨h1.sq, mz _ H1 M1 rel1 st1 (itOk_enum walk_enum (fun H' M' s => (h1.mono s.akeep s.agrow).sq) h3)⟩⟩
  | tup h1 h2 h3 =>
    cases hz
    exact ⟨_, _, rfl, .inr ⟨h1.sq, mz _ H1 M1 rel1 st1 (itOk_enum walk_enumT (fun H' M' s => (h1.mono s.akeep s.agrow).sq) h3)⟩⟩
  | _ => cases hz
/-! ### for -/
def sLoop (g : DGt) (S : DSt) : List D → En → Rs Out
  | [], en => .ok (.nx en)
  | d :: ds, en => liftO (g d en) >>= fun en1 => S en1 >>= fun o => match o with
    | .nx en2 => sLoop g S ds en2
    | .ct en2 => sLoop g S ds en2
    | .bk en2 => .ok (.nx en2)
    | .rt v en2 => .ok (.rt v en2)
    | .rn v en2 => .ok (.rn v en2)
def sFor (it : DNl) (g : DGt) (S : DSt) : DSt := fun en => it en >>= fun q => sLoop g S q.1 q.2
theorem ds_for {tg iter : Expr} {body : List Stmt} {IA : DNl} {g : DGt} {S : DSt} (hp : PassesOwn (model X.prog X.w) X.A X.env X.xe) (hc : X.calm = true) {ts : List Nat} (hi : DI X G W tg iter IA) (hg : DG X G tg ts g) (hb : DSs X G W body S)
    (hs : ∀ x, foldedSetIterable iter X.env x = pure x := by intro _; rfl) : DS X G W (.For tg iter body [] pos) (sFor IA g S) := by
  refine ⟨ps_imp (ps_for hp hc hi.pi hg.pg hb.pss hs) fun Ds σ H ⟨en, M, B, rel, m⟩ => ⟨en, M, B, rel, Post.imp (post_bind.mp m) (fun q mq J H1 M1 rel1 st1 it => ?_) fun _ _ _ h => h.ew σ⟩⟩
  obtain ⟨Gd, Y, w, hG, hY⟩ := it
  have m0 : Post (OutOk G Ds H1 M1 B) (EWS G W H1 M1 B) (sLoop g S (q.1.drop 0) q.2) := by
    rw [List.drop_zero]
    exact Post.imp mq (fun o (ho : OutOk G Ds H M B o) => ho.stepB st1 fun _ => rfl) fun _ _ _ h => EWS.stepB h st1 fun _ => rfl
  refine for_it w (fun i σ' H' => ∃ en' M' B', Rel G en' σ' H' M' B' ∧ Step H1 M1 H' M' ∧ (G.top = false → B' = B) ∧ Post (OutOk G Ds H1 M1 B) (EWS G W H1 M1 B) (sLoop g S (q.1.drop i) en'))
    ⟨q.2, M1, B, rel1, .refl, fun _ => rfl, m0⟩
    (fun i σ' H' _ ⟨en', M', B', r, s, _⟩ => hG H' M' s) (fun i x σ' H' H'' hlt ⟨en', M', B', r, s, hb', mm⟩ y => ?_) (fun σ' H' ⟨en', M', B', r, s, hb', mm⟩ => ?_)
  · obtain ⟨ex, d, hd, rd⟩ := hY i H' M' x H'' hlt s r.avh y
    have hdr : q.1.drop i = d :: q.1.drop (i + 1) := by
      rw [List.drop_eq_getElem_cons hlt]
      rw [List.getElem?_eq_getElem hlt] at hd
      rw [Option.some.inj hd]
    rw [hdr] at mm
    obtain ⟨en1, e1, mm⟩ := post_lift.mp mm
    have se : Step H' M' H'' M' := .ext ex
    refine ⟨d, en', M', B', en1, r.ext ex, rd, e1, fun σ2 H2 M2 rel2 st2 _ => ?_⟩
    have s2 : Step H1 M1 H2 M2 := (s.trans se).trans st2
    refine ⟨en1, M2, B', rel2, Post.imp (post_bind.mp mm) (fun o mo => ?_) fun c dd en2 h => h.stepB s2 hb'⟩
    cases o with
    | nx en2 => exact fun σ3 H3 M3 B3 r3 st3 hb3 => ⟨en2, M3, B3, r3, s2.trans st3, fun t => (hb3 t).trans (hb' t), mo⟩
    | ct en2 => exact fun σ3 H3 M3 B3 r3 st3 hb3 => ⟨en2, M3, B3, r3, s2.trans st3, fun t => (hb3 t).trans (hb' t), mo⟩
    | bk en2 => exact fun σ3 H3 M3 B3 r3 st3 hb3 => mo σ3 H3 M3 B3 r3 (s2.trans st3) fun t => (hb3 t).trans (hb' t)
    | rn v en2 => exact fun p u σ3 H3 M3 B3 r3 st3 hb3 o3 => mo p u σ3 H3 M3 B3 r3 (s2.trans st3) (fun t => (hb3 t).trans (hb' t)) o3
    | rt v en2 => exact fun u σ3 H3 M3 B3 r3 st3 hb3 rd3 => mo u σ3 H3 M3 B3 r3 (s2.trans st3) (fun t => (hb3 t).trans (hb' t)) rd3
  · rw [List.drop_length] at mm
    exact mm σ' H' M' B' r s hb'
end
end DL

namespace DL
open PySem L2
/-! ### list comprehensions -/
def En.wipe (en : En) : List Nat → En
  | [] => en
  | v :: vs => (en.wipe vs).put v .no
def En.back (en orig : En) : List Nat → En
  | [] => en
  | v :: vs => (en.back orig vs).put v (orig.sl.getD v .no)
def ownOk (en : En) (own : List Nat) : Bool := own.all fun i => match en.sl[i]? with | some (.ow _) => false | some (.od _ _) => false | some .bx => false | _ => true
def noEx {α : Type} : Rs α → Rs α
  | .ok a => .ok a
  | _ => .bad
theorem post_noEx {α : Type} {P : α → Prop} {E : Str → D → En → Prop} {x : Rs α} (h : Post P E (noEx x)) : Post P (fun _ _ _ => False) x := by
  cases x with
  | ok a => exact h
  | ex c d en => exact h
  | bad => exact h
theorem post_noEx' {α β : Type} {P : β → Prop} {E : Str → D → En → Prop} {x : Rs α} {f : α → β} (h : Post P E (noEx x >>= fun r => .ok (f r))) : Post (fun r => P (f r)) (fun _ _ _ => False) x := by
  cases x with
  | ok a => exact h
  | ex c d en => exact h
  | bad => exact h
theorem wipe_self {σ : L2.St} {i : Nat} : ∀ {vs : List Nat}, i ∈ vs → (wipe σ vs).set i none = wipe σ vs
  | w :: vs, h => by
    unfold wipe
    rcases List.mem_cons.mp h with e | h
    · subst e; rw [List.set_set]
    · by_cases c : i = w
      · subst c; rw [List.set_set]
      · rw [List.set_comm _ _ (Ne.symm c), wipe_self h]
theorem wipe_twice {σ : L2.St} : ∀ {vs ws : List Nat}, (∀ i ∈ vs, i ∈ ws) → wipe (wipe σ ws) vs = wipe σ ws
  | [], _, _ => rfl
  | v :: vs, ws, h => by
    show (wipe (wipe σ ws) vs).set v none = _
    rw [wipe_twice fun i hi => h i (List.mem_cons_of_mem _ hi)]
    exact wipe_self (h v List.mem_cons_self)
abbrev W0 : WX := fun _ _ _ _ => False
abbrev Gh.with (G : Gh) (O : AS) : Gh := { G with Out := O }
def tTrue : DTt := fun en => .ok (true, en)
structure DTs (X : Cx) (G : Gh) (W : WX) (ifs : List Expr) (t : DTt) : Prop where pts : PTs X ifs (tT G W t)
def cLoop (own : List Nat) (g : DGt) (t : DTt) (A : DEn) : List D → En → List D → Rs (List D × En)
  | [], en, acc => .ok (acc, en)
  | d :: ds, en, acc => liftO (g d en) >>= fun en1 => t en1 >>= fun p => if p.1 = true then A p.2 >>= fun q => (if acc.length < sizeLine then cLoop own g t A ds (q.2.wipe own) (acc ++ [q.1]) else .bad) else cLoop own g t A ds (p.2.wipe own) acc
def nComp (own : List Nat) (it : DNl) (g : DGt) (t : DTt) (A : DEn) : DNl := fun en => it en >>= fun q => if ownOk q.2 own = true then noEx (cLoop own g t A q.1 (q.2.wipe own) []) >>= fun r => .ok (r.1, r.2.back q.2 own) else .bad
section
variable {X : Cx} {G : Gh} {W : WX} {pos : Pos} {a b e : Expr}
theorem dts_nil : DTs X G W [] tTrue := ⟨⟨fun pins s σ H Q I ⟨en, M, B, rel, m⟩ => pts_nil.run pins s σ H Q I (m H M rel .refl)⟩⟩
theorem dts_one {t : DTt} (h : DT X G W e t) : DTs X G W [e] t := ⟨pts_one h.pt⟩
theorem Rel.drop {en : En} {σ : L2.St} {H : Hp} {M : AS} {B : Option Addr} (r : Rel G en σ H M B) (i : Nat) : Rel G (en.put i .no) (σ.set i none) H M B := by
  refine ⟨by rw [List.length_set, r.len]; simp [En.put], fun j s hj => ?_, fun j k p s1 s2 hne hj hk o1 o2 h1 h2 => ?_, r.box, fun p j ds hb hj h1 => ?_, r.out, r.mh, r.tab⟩
  · by_cases c : j = i
    · subst c
      obtain ⟨e1, e2⟩ := put_out hj
      subst e1
      trivial
    · rw [put_ne c] at hj
      have q := r.slot j s hj
      have se : (σ.set i none)[j]? = σ[j]? := List.getElem?_set_ne (Ne.symm c)
      cases s with
      | no => trivial
      | fz d => obtain ⟨v, q1, q2⟩ := q; exact ⟨v, by rw [se]; exact q1, q2⟩
      | sq ns => obtain ⟨v, q1, q2⟩ := q; exact ⟨v, by rw [se]; exact q1, q2⟩
      | fu x => obtain ⟨v, q1, q2⟩ := q; exact ⟨v, by rw [se]; exact q1, q2⟩
      | ow es => obtain ⟨p', xs, q1, q2⟩ := q; exact ⟨p', xs, by rw [se]; exact q1, q2⟩
      | od t es => obtain ⟨p', q1, q2⟩ := q; exact ⟨p', by rw [se]; exact q1, q2⟩
      | bx => obtain ⟨p, q1, q2⟩ := q; exact ⟨p, q1, by rw [se]; exact q2⟩
      | er c d => exact erOk_σ q se
  · have cj : j ≠ i := fun z => by subst z; rw [(put_out hj).1] at o1; cases o1
    have ck : k ≠ i := fun z => by subst z; rw [(put_out hk).1] at o2; cases o2
    rw [put_ne cj] at hj
    rw [put_ne ck] at hk
    rw [List.getElem?_set_ne (Ne.symm cj)] at h1
    rw [List.getElem?_set_ne (Ne.symm ck)] at h2
    exact r.injo j k p s1 s2 hne hj hk o1 o2 h1 h2
  · have cj : j ≠ i := fun z => by subst z; cases (put_out hj).1
    rw [put_ne cj] at hj
    rw [List.getElem?_set_ne (Ne.symm cj)] at h1
    exact r.bne p j ds hb hj h1
theorem Rel.wipe {en : En} {σ : L2.St} {H : Hp} {M : AS} {B : Option Addr} (r : Rel G en σ H M B) : ∀ own : List Nat, Rel G (en.wipe own) (L2.wipe σ own) H M B
  | [] => r
  | v :: vs => (Rel.wipe r vs).drop v
theorem back_at {en orig : En} {j : Nat} {s : Sl} : ∀ {own : List Nat}, (en.back orig own).sl[j]? = some s → (j ∈ own ∧ s = orig.sl.getD j .no) ∨ (j ∉ own ∧ en.sl[j]? = some s)
  | [], h => .inr ⟨by simp, h⟩
  | v :: vs, h => by
    unfold En.back at h
    by_cases c : j = v
    · subst c
      obtain ⟨e, _⟩ := put_out h
      exact .inl ⟨List.mem_cons_self, e⟩
    · rw [put_ne c] at h
      rcases back_at h with ⟨h1, h2⟩ | ⟨h1, h2⟩
      · exact .inl ⟨List.mem_cons_of_mem _ h1, h2⟩
      · exact .inr ⟨fun z => (List.mem_cons.mp z).elim c h1, h2⟩
theorem back_len {en orig : En} : ∀ own : List Nat, (en.back orig own).sl.length = en.sl.length
  | [] => rfl
  | v :: vs => by
    show ((en.back orig vs).sl.set v _).length = _
    rw [List.length_set, back_len vs]
theorem back_bx {en orig : En} : ∀ own : List Nat, (en.back orig own).bx = en.bx
  | [] => rfl
  | v :: vs => back_bx vs
/-- behind a block: the own names are as they were -/
theorem Rel.back {en en2 : En} {σ : L2.St} {H0 H : Hp} {M0 M : AS} {B : Option Addr} {own : List Nat} (r0 : Rel G en σ H0 M0 B) (ok : ownOk en own = true) (r : Rel G en2 (L2.wipe σ own) H M B) (st : Step H0 M0 H M) : Rel G (en2.back en own) σ H M B := by
  have okj : ∀ {j : Nat} {ds : List D}, j ∈ own → en.sl.getD j .no ≠ Sl.ow ds := fun {j ds} hj z => by
    have := List.all_eq_true.mp ok j hj
    rw [List.getD_eq_getElem?_getD] at z
    cases e1 : en.sl[j]? with
    | none => rw [e1] at z; cases z
    | some s =>
      rw [e1] at z this
      cases (show s = Sl.ow ds from z)
      exact absurd this (by simp)
  have oko : ∀ {j : Nat} {s : Sl}, j ∈ own → en.sl.getD j .no = s → isO s = true → False := fun {j s} hj z o => by
    have := List.all_eq_true.mp ok j hj
    rw [List.getD_eq_getElem?_getD] at z
    cases e1 : en.sl[j]? with
    | none => rw [e1] at z; subst z; cases o
    | some s' =>
      rw [e1] at z this
      cases (show s' = s from z)
      cases s with
      | ow ds => exact absurd this (by simp)
      | od t es => exact absurd this (by simp)
      | no => cases o
      | fz d => cases o
      | sq ns => cases o
      | fu x => cases o
      | bx => cases o
      | er c d => cases o
  have out : ∀ {j : Nat} {v : V}, j ∉ own → (L2.wipe σ own)[j]? = σ[j]? := fun {j v} hj => wipe_out hj
  refine ⟨?_, fun j s hj => ?_, fun j k p s1 s2 hne hj hk o1 o2 h1 h2 => ?_, fun p hp => by rw [back_bx]; exact r.box p hp, fun p j ds hb hj h1 => ?_, r.out, r.mh, r.tab⟩
  · rw [back_len, ← r.len, wipe_length]
  · rcases back_at hj with ⟨h1, h2⟩ | ⟨h1, h2⟩
    · subst h2
      have oj := List.all_eq_true.mp ok j h1
      rw [List.getD_eq_getElem?_getD]
      cases e1 : en.sl[j]? with
      | none => trivial
      | some s =>
        rw [e1] at oj
        have q := r0.slot j s e1
        cases s with
        | no => trivial
        | fz d => obtain ⟨v, q1, q2⟩ := q; exact ⟨v, q1, q2.step st⟩
        | sq ns => obtain ⟨v, q1, q2⟩ := q; exact ⟨v, q1, q2.step st⟩
        | fu x => exact q
        | ow es => exact absurd oj (by simp)
        | od t es => exact absurd oj (by simp)
        | bx => exact absurd oj (by simp)
        | er c d => exact erOk_step q st
    · have q := r.slot j s h2
      have se := wipe_out (σ := σ) h1
      cases s with
      | no => trivial
      | fz d => obtain ⟨v, q1, q2⟩ := q; exact ⟨v, by rw [← se]; exact q1, q2⟩
      | sq ns => obtain ⟨v, q1, q2⟩ := q; exact ⟨v, by rw [← se]; exact q1, q2⟩
      | fu x => obtain ⟨v, q1, q2⟩ := q; exact ⟨v, by rw [← se]; exact q1, q2⟩
      | ow es => obtain ⟨p', xs, q1, q2⟩ := q; exact ⟨p', xs, by rw [← se]; exact q1, q2⟩
      | od t es => obtain ⟨p', q1, q2⟩ := q; exact ⟨p', by rw [← se]; exact q1, q2⟩
      | bx => obtain ⟨p, q1, q2⟩ := q; exact ⟨p, q1, by rw [← se]; exact q2⟩
      | er c d => exact erOk_σ q se.symm
  · rcases back_at hj with ⟨a1, a2⟩ | ⟨a1, a2⟩
    · exact oko a1 a2.symm o1
    · rcases back_at hk with ⟨b1, b2⟩ | ⟨b1, b2⟩
      · exact oko b1 b2.symm o2
      · rw [← wipe_out a1] at h1
        rw [← wipe_out b1] at h2
        exact r.injo j k p s1 s2 hne a2 b2 o1 o2 h1 h2
  · rcases back_at hj with ⟨a1, a2⟩ | ⟨a1, a2⟩
    · exact okj a1 a2.symm
    · rw [← wipe_out a1] at h1
      exact r.bne p j ds hb a2 h1
/-- an address is shut off from a block, and given back -/
theorem Rel.shut {en : En} {σ : L2.St} {H : Hp} {M : AS} {B : Option Addr} {p : Addr} {o : HO} (r : Rel G en σ H M B) (hp : H p = none) : Rel (G.with fun a => G.Out a ∨ a = p) en σ (upd H p o) M B := by
  have ex : Ext H (upd H p o) := ext_new hp
  have mo : ∀ {v : V} {d : D}, RD G.K H (av G M) v d → RD G.K (upd H p o) (av (G.with fun a => G.Out a ∨ a = p) M) v d := fun h => h.mono (fun a o h _ => ex a o h) fun a h => by
    rcases h with h | h | h
    · exact .inl (.inl h)
    · exact .inl (.inr h)
    · exact .inr (by rw [h]; exact hp)
  have mq : ∀ {a : Addr} {ns : List Int}, SqOk G.K H (av G M) a ns → SqOk G.K (upd H p o) (av (G.with fun a => G.Out a ∨ a = p) M) a ns := fun h => h.mono (fun a o h _ => ex a o h) fun a h => by
    rcases h with h | h | h
    · exact .inl (.inl h)
    · exact .inl (.inr h)
    · exact .inr (by rw [h]; exact hp)
  have mos : ∀ {v : List V} {d : List D}, RDs G.K H (av G M) v d → RDs G.K (upd H p o) (av (G.with fun a => G.Out a ∨ a = p) M) v d := fun h => h.mono (fun a o h _ => ex a o h) fun a h => by
    rcases h with h | h | h
    · exact .inl (.inl h)
    · exact .inl (.inr h)
    · exact .inr (by rw [h]; exact hp)
  have nM : ¬ M p := fun z => r.mh p z hp
  refine ⟨r.len, fun j s hj => ?_, r.injo, fun q hb => ⟨(r.box q hb).1, ex _ _ (r.box q hb).2⟩, r.bne, fun a h => ?_, fun a h => ?_, r.tab.ext ex fun _ _ z => z⟩
  · have q := r.slot j s hj
    cases s with
    | no => trivial
    | fz d => obtain ⟨v, q1, q2⟩ := q; exact ⟨v, q1, mo q2⟩
    | sq ns => obtain ⟨v, q1, q2⟩ := q; exact ⟨v, q1, mq q2⟩
    | fu x => exact q
    | ow es => obtain ⟨p', xs, q1, q2, q3, q4, q5⟩ := q; exact ⟨p', xs, q1, q2, ex _ _ q3, q4, mos q5⟩
    | od t es =>
      obtain ⟨p', q1, q2, q3⟩ := q
      exact ⟨p', q1, q2, q3.mono (ex _) (fun a o h _ => ex a o h) fun a h => by
        rcases h with h | h | h
        · exact .inl (.inl h)
        · exact .inl (.inr h)
        · exact .inr (by rw [h]; exact hp)⟩
    | bx => exact q
    | er c d =>
      obtain ⟨a, cls, dd, f, b, fs, v, h0, h1, h2, h3, h4, h5, h6, h7⟩ := q
      exact ⟨a, cls, dd, f, b, fs, v, h0, h1, h2, h3, ex _ _ h4, fun z => z.elim (fun z => h5 (.inl z)) fun z => z.elim (fun z => h5 (.inr z)) fun z => (by rw [z, hp] at h4; cases h4), h6, mo h7⟩
  · rcases h with h | h
    · obtain ⟨h1, h2⟩ := r.out a h
      refine ⟨fun z => ?_, h2⟩
      cases e1 : H a with
      | none => exact h1 e1
      | some u => rw [ex a u e1] at z; cases z
    · subst h
      exact ⟨(fun z => by rw [upd_same] at z; cases z), nM⟩
  · cases e1 : H a with
    | none => exact absurd e1 (r.mh a h)
    | some u => rw [ex a u e1]; exact fun z => nomatch z
theorem av_open {M : AS} {p : Addr} (a : Addr) : av (G.with fun a => G.Out a ∨ a = p) M a ↔ av G (fun a => M a ∨ a = p) a := by
  constructor
  · rintro (h | h | h)
    · exact .inl (.inl h)
    · exact .inr h
    · exact .inl (.inr h)
  · rintro ((h | h) | h)
    · exact .inl h
    · exact .inr (.inr h)
    · exact .inr (.inl h)
theorem RD.opened {H : Hp} {M : AS} {p : Addr} {v : V} {d : D} (h : RD G.K H (av (G.with fun a => G.Out a ∨ a = p) M) v d) : RD G.K H (av G fun a => M a ∨ a = p) v d := h.mono (fun _ _ h _ => h) fun a q => .inl ((av_open a).mpr q)
theorem SqOk.opened {H : Hp} {M : AS} {p a : Addr} {ns : List Int} (h : SqOk G.K H (av (G.with fun a => G.Out a ∨ a = p) M) a ns) : SqOk G.K H (av G fun a => M a ∨ a = p) a ns := h.mono (fun _ _ h _ => h) fun a q => .inl ((av_open a).mpr q)
theorem RDs.opened {H : Hp} {M : AS} {p : Addr} {v : List V} {d : List D} (h : RDs G.K H (av (G.with fun a => G.Out a ∨ a = p) M) v d) : RDs G.K H (av G fun a => M a ∨ a = p) v d := h.mono (fun _ _ h _ => h) fun a q => .inl ((av_open a).mpr q)
theorem Rel.opened {en : En} {σ : L2.St} {H : Hp} {M : AS} {B : Option Addr} {p : Addr} (r : Rel (G.with fun a => G.Out a ∨ a = p) en σ H M B) (np : ¬ G.Out p) : Rel G en σ H (fun a => M a ∨ a = p) B := by
  refine ⟨r.len, fun j s hj => ?_, r.injo, fun q hb => ⟨.inl (r.box q hb).1, (r.box q hb).2⟩, r.bne, fun a h => ?_, fun a h => ?_, fun q hq => ⟨.inl (r.tab q hq).1, (r.tab q hq).2⟩⟩
  · have q := r.slot j s hj
    cases s with
    | no => trivial
    | fz d => obtain ⟨v, q1, q2⟩ := q; exact ⟨v, q1, q2.opened⟩
    | sq ns => obtain ⟨v, q1, q2⟩ := q; exact ⟨v, q1, q2.opened⟩
    | fu x => exact q
    | ow es => obtain ⟨p', xs, q1, q2, q3, q4, q5⟩ := q; exact ⟨p', xs, q1, .inl q2, q3, q4, q5.opened⟩
    | od t es => obtain ⟨p', q1, q2, q3⟩ := q; exact ⟨p', q1, .inl q2, q3.mono (fun _ h => h) (fun _ _ h _ => h) fun a q => .inl ((av_open a).mpr q)⟩
    | bx => exact q
    | er c d =>
      obtain ⟨a, cls, dd, f, b, fs, v, h0, h1, h2, h3, h4, h5, h6, h7⟩ := q
      exact ⟨a, cls, dd, f, b, fs, v, h0, h1, h2, h3, h4, fun z => h5 ((av_open b).mpr z), h6, h7.opened⟩
  · obtain ⟨h1, h2⟩ := r.out a (.inl h)
    exact ⟨h1, fun z => z.elim h2 fun q => np (by rw [← q]; exact h)⟩
  · rcases h with h | h
    · exact r.mh a h
    · subst h
      exact (r.out a (.inr rfl)).1
/-- the shut off list grows -/
theorem Rel.grown {en : En} {σ : L2.St} {H : Hp} {M : AS} {B : Option Addr} {p : Addr} {o : HO} {ys : List V} (r : Rel (G.with fun a => G.Out a ∨ a = p) en σ H M B) (hp : H p = some (.lst ys)) : Rel (G.with fun a => G.Out a ∨ a = p) en σ (upd H p o) M B := by
  have nM : ¬ M p := (r.out p (.inr rfl)).2
  have kp : ∀ a u, H a = some u → ¬ av (G.with fun a => G.Out a ∨ a = p) M a → upd H p o a = some u := fun a u h n => by
    rw [upd_ne fun z => n (.inr (.inr z))]
    exact h
  refine ⟨r.len, fun j s hj => ?_, r.injo, fun q hb => ⟨(r.box q hb).1, ?_⟩, r.bne, fun a h => ?_, fun a h => ?_, r.tab.write hp fun _ _ z => z⟩
  · have q := r.slot j s hj
    cases s with
    | no => trivial
    | fz d => obtain ⟨v, q1, q2⟩ := q; exact ⟨v, q1, q2.mono kp fun _ h => .inl h⟩
    | sq ns => obtain ⟨v, q1, q2⟩ := q; exact ⟨v, q1, q2.mono kp fun _ h => .inl h⟩
    | fu x => exact q
    | ow es =>
      obtain ⟨p', xs, q1, q2, q3, q4, q5⟩ := q
      exact ⟨p', xs, q1, q2, by rw [upd_ne fun z => nM (by rw [← z]; exact q2)]; exact q3, q4, q5.mono kp fun _ h => .inl h⟩
    | od t es =>
      obtain ⟨p', q1, q2, q3⟩ := q
      exact ⟨p', q1, q2, q3.mono (fun o ho => by rw [upd_ne fun z => nM (by rw [← z]; exact q2)]; exact ho) kp fun _ h => .inl h⟩
    | bx => exact q
    | er c d =>
      obtain ⟨a, cls, dd, f, b, fs, v, h0, h1, h2, h3, h4, h5, h6, h7⟩ := q
      exact ⟨a, cls, dd, f, b, fs, v, h0, h1, h2, h3, kp _ _ h4 h5, h5, h6, h7.mono kp fun _ h => .inl h⟩
  · rw [upd_ne fun z => nM (by rw [← z]; exact (r.box q hb).1)]
    exact (r.box q hb).2
  · refine ⟨?_, (r.out a h).2⟩
    by_cases c : a = p
    · subst c; rw [upd_same]; exact fun z => nomatch z
    · rw [upd_ne c]; exact (r.out a h).1
  · rw [upd_ne fun z => nM (by rw [← z]; exact h)]
    exact r.mh a h
theorem comp_tr {IA : DNl} {g : DGt} {t : DTt} {A : DEn} {ts own : List Nat} (hsub : ∀ i ∈ ts, i ∈ own) {wi : TI} {gg : TG} {tt : TT} {te : TE} (hwi : ∀ σ H R, tI G W IA σ H R → wi σ H R)
    (hg : ∀ O v σ H Q, tG (G.with O) ts g v σ H Q → gg v σ H Q) (ht : ∀ O σ H Q, tT (G.with O) W0 t σ H Q → tt σ H Q) (he : ∀ O σ H Q, tE (G.with O) W0 A σ H Q → te σ H Q) :
    ∀ σ H Q, tN G W (nComp own IA g t A) σ H Q → tLc wi gg tt te own σ H Q := fun σ H Q ⟨en, M, B, rel, m⟩ => by
  refine hwi σ H _ ⟨en, M, B, rel, Post.imp (post_bind.mp m) (fun q mq J H1 M1 rel1 st1 it p hp => ?_) fun _ _ _ h => h⟩
  obtain ⟨Gd, Y, w, hG, hY⟩ := it
  split at mq
  · rename_i hok
    have mq := post_noEx' mq
    obtain ⟨O', hO'⟩ : ∃ O' : AS, O' = fun a => G.Out a ∨ a = p := ⟨_, rfl⟩
    have npO : ¬ G.Out p := fun z => (rel1.out p z).1 hp
    refine lc_it w (fun i H' => ∃ en' M' ys acc, Rel (G.with O') en' (L2.wipe σ own) H' M' B ∧ Step H1 M1 H' (fun a => M' a ∨ a = p) ∧ H' p = some (.lst ys) ∧ ys.length ≤ sizeLine ∧ RDs G.K H' (av (G.with O') M') ys acc ∧
      Post (fun r => ∀ H2 M2 ys2, Rel (G.with O') r.2 (L2.wipe σ own) H2 M2 B → Step H1 M1 H2 (fun a => M2 a ∨ a = p) → H2 p = some (.lst ys2) → ys2.length ≤ sizeLine → RDs G.K H2 (av (G.with O') M2) ys2 r.1 → Q (.ref p) H2) (fun _ _ _ => False) (cLoop own g t A (q.1.drop i) en' acc))
      ⟨q.2.wipe own, M1, [], [], by rw [hO']; exact (rel1.wipe own).shut hp, ?_, upd_same, Nat.zero_le _, .nil, ?_⟩ (fun i H' _ ⟨en', M', ys, acc, r, s, _⟩ => hG H' _ s) (fun i x H' H'' hlt ⟨en', M', ys, acc, r, s, hat, hl, hr, mm⟩ y => ?_) (fun H' ⟨en', M', ys, acc, r, s, hat, hl, hr, mm⟩ => ?_)
    · exact ⟨fun a o h _ => ext_new hp a o h, fun a h => h.elim .inl fun z => .inr (by rw [z]; exact hp)⟩
    · rw [List.drop_zero]
      refine Post.imp mq (fun r mr H2 M2 ys2 r2 s2 h2 l2 d2 => ?_) fun _ _ _ h => h
      subst hO'
      have r3 := r2.opened npO
      refine mr p ys2 H2 _ (rel1.back hok r3 s2) (st1.trans s2) ⟨.inr rfl, h2, l2, d2.opened, fun j ds hj hs => ?_, fun hb => ?_⟩
      · rcases back_at hj with ⟨a1, a2⟩ | ⟨a1, a2⟩
        · have oj := List.all_eq_true.mp hok j a1
          rw [List.getD_eq_getElem?_getD] at a2
          cases e1 : q.2.sl[j]? with
          | none => rw [e1] at a2; cases a2
          | some s =>
            rw [e1] at a2 oj
            cases (show Sl.ow ds = s from a2)
            exact absurd oj (by simp)
        · obtain ⟨p', xs, g1, g2, _⟩ := r2.slot j _ a2
          rw [wipe_out a1, hs] at g1
          cases g1
          exact (r2.out p (.inr rfl)).2 g2
      · exact (r2.out p (.inr rfl)).2 (r2.box p hb).1
    · have avh : ∀ a, av G (fun a => M' a ∨ a = p) a → H' a ≠ none := fun a ha => r.avh a (by rw [hO']; exact (av_open a).mpr ha)
      obtain ⟨ex, d, hd, rd⟩ := hY i H' _ x H'' hlt s avh y
      have hdr : q.1.drop i = d :: q.1.drop (i + 1) := by
        rw [List.drop_eq_getElem_cons hlt]
        rw [List.getElem?_eq_getElem hlt] at hd
        rw [Option.some.inj hd]
      rw [hdr] at mm
      obtain ⟨en1, e1, mm⟩ := post_lift.mp mm
      have rd' : RD G.K H'' (av (G.with O') M') x d := rd.mono (fun _ _ h _ => h) fun a h => .inl (by rw [hO'] at h; exact (av_open a).mp h)
      refine hg O' _ _ _ _ ⟨d, en', M', B, en1, r.ext ex, rd', e1, fun σ2 H2 M2 rel2 st2 on2 => ⟨(on2 own hsub).trans (wipe_twice fun _ h => h), ?_⟩⟩
      have s2 : Step H1 M1 H2 (fun a => M2 a ∨ a = p) := by
        have sa : Step H' (fun a => M' a ∨ a = p) H2 (fun a => M2 a ∨ a = p) := ⟨fun a o h n => st2.keep a o (ex a o h) fun z => n (.inl z), fun a h => h.elim (fun z => (st2.grow a z).elim (fun z => .inl (.inl z)) fun z => by
          cases eh : H' a with
          | none => exact .inr rfl
          | some o => rw [ex a o eh] at z; cases z) fun z => .inl (.inr z)⟩
        exact s.trans sa
      have np1 : ¬ M' p := (r.out p (by rw [hO']; exact .inr rfl)).2
      have at2 : H2 p = some (.lst ys) := st2.keep p _ (ex p _ hat) np1
      have rd2 : RDs G.K H2 (av (G.with O') M2) ys acc := (hr.ext ex).step (G := G.with O') st2
      refine ht O' _ _ _ ⟨en1, M2, B, rel2, Post.imp (post_bind.mp mm) (fun tp mt H3 M3 rel3 st3 => ?_) fun c dd en2 h => h.elim⟩
      have np2 : ¬ M2 p := (rel2.out p (by rw [hO']; exact .inr rfl)).2
      have sb : ∀ {Ha Hb : Hp} {Ma Mb : AS}, Step Ha Ma Hb Mb → Step Ha (fun a => Ma a ∨ a = p) Hb (fun a => Mb a ∨ a = p) := fun s0 =>
        ⟨fun a o h n => s0.keep a o h fun z => n (.inl z), fun a h => h.elim (fun z => (s0.grow a z).elim (fun z => .inl (.inl z)) .inr) fun z => .inl (.inr z)⟩
      have s3 := s2.trans (sb st3)
      have at3 := st3.keep p _ at2 np2
      have rd3 : RDs G.K H3 (av (G.with O') M3) ys acc := rd2.step (G := G.with O') st3
      have w2 : L2.wipe σ2 own = L2.wipe σ own := by rw [on2 own hsub, wipe_twice fun _ h => h]
      by_cases c : tp.1 = true
      · rw [if_pos c] at mt
        show (if tp.1 = true then _ else _)
        rw [if_pos c]
        refine he O' _ _ _ ⟨tp.2, M3, B, rel3, Post.imp (post_bind.mp mt) (fun ep me v H4 M4 rel4 st4 rd4 => ?_) fun c dd en2 h => h.elim⟩
        have np3 : ¬ M3 p := (rel3.out p (by rw [hO']; exact .inr rfl)).2
        have at4 := st4.keep p _ at3 np3
        have rd4' : RDs G.K H4 (av (G.with O') M4) ys acc := rd3.step (G := G.with O') st4
        split at me
        · rename_i hlt2
          have hly : ys.length < sizeLine := by rw [hr.length]; exact hlt2
          refine ⟨ys, at4, hly, ep.2.wipe own, M4, ys ++ [v], acc ++ [ep.1], ?_, ?_, upd_same, by rw [List.length_append, List.length_singleton]; omega, ?_, me⟩
          · have r5 := rel4.wipe own
            rw [w2] at r5
            subst hO'
            exact r5.grown at4
          · have s4 := s3.trans (sb st4)
            refine ⟨fun a o h n => ?_, s4.grow⟩
            rw [upd_ne fun z => ?_]
            · exact s4.keep a o h n
            · subst z
              rw [hp] at h
              cases h
          · refine (rd4'.append (.one rd4)).mono (fun a o h n => ?_) fun _ h => .inl h
            rw [upd_ne fun z => n (.inr (by rw [hO']; exact .inr z))]
            exact h
        · exact me.elim
      · rw [if_neg c] at mt
        show (if tp.1 = true then _ else _)
        rw [if_neg c]
        have r5 := rel3.wipe own
        rw [w2] at r5
        exact ⟨tp.2.wipe own, M3, ys, acc, r5, s3, at3, hl, rd3, mt⟩
    · rw [List.drop_length] at mm
      exact mm H' M' ys r s hat hl hr
  · exact mq.elim
end
end DL

namespace DL
open PySem L2
section
variable {X : Cx} {G : Gh} {W : WX} {pos spos py : Pos} {elt tg iter : Expr} {ifs : List Expr} {scope : Scope} {own : List (Str × Nat)} {IA : DNl} {g : DGt} {t : DTt} {A : DEn} {ts : List Nat}
/-- what stands in the block, at any turn -/
structure Blk (X : Cx) (G : Gh) (scope : Scope) (tg : Expr) (ifs : List Expr) (elt : Expr) (ts : List Nat) (g : DGt) (t : DTt) (A : DEn) : Prop where
  dg : ∀ (O : AS) (s : Shared) (H : Hp) (C : Addr) (cl : List (Str × Addr)) (fp : List Addr), DG (X.blk s H scope (compEnvC scope cl C X.env) fp) (G.with O) tg ts g
  dt : ∀ (O : AS) (s : Shared) (H : Hp) (C : Addr) (cl : List (Str × Addr)) (fp : List Addr), DTs (X.blk s H scope (compEnvC scope cl C X.env) fp) (G.with O) W0 ifs t
  de : ∀ (O : AS) (s : Shared) (H : Hp) (C : Addr) (cl : List (Str × Addr)) (fp : List Addr), DE (X.blk s H scope (compEnvC scope cl C X.env) fp) (G.with O) W0 elt A
def tgU (G : Gh) (ts : List Nat) (g : DGt) : TG := fun v σ H Q => ∃ O, tG (G.with O) ts g v σ H Q
def ttU (G : Gh) (t : DTt) : TT := fun σ H Q => ∃ O, tT (G.with O) W0 t σ H Q
def teU (G : Gh) (A : DEn) : TE := fun σ H Q => ∃ O, tE (G.with O) W0 A σ H Q
theorem comp_pe (hc : X.calm = true) (hN : X.N.Nodup) (hi : DI X G W tg iter IA) (ok : BlkOk X.N X.env.scope scope own) (hsub : ∀ i ∈ ts, i ∈ own.map (·.2)) (b : Blk X G scope tg ifs elt ts g t A) (hs : ∀ x, foldedSetIterable iter X.env x = pure x := by intro _; rfl) :
    DN X G W (.ListComp elt [⟨tg, iter, ifs, 0⟩] scope pos) (nComp (own.map (·.2)) IA g t A) :=
  ⟨pe_imp (pe_lc (g := tgU G ts g) (tt := ttU G t) (te := teU G A) hc hN hi.pi ok
    (fun s H C cl fp => ⟨fun pins s' σ H' v u Q I r ⟨O, q⟩ => (b.dg O s H C cl fp).pg.run pins s' σ H' v u Q I r q⟩)
    (fun s H C cl fp => ⟨fun pins s' σ H' Q I ⟨O, q⟩ => (b.dt O s H C cl fp).pts.run pins s' σ H' Q I q⟩)
    (fun s H C cl fp => ⟨fun pins s' σ H' Q I ⟨O, q⟩ => (b.de O s H C cl fp).pe.run pins s' σ H' Q I q⟩) hs)
    (comp_tr hsub (fun _ _ _ q => q) (fun O _ _ _ _ q => ⟨O, q⟩) (fun O _ _ _ q => ⟨O, q⟩) (fun O _ _ _ q => ⟨O, q⟩))⟩
theorem comp_ps {i : Nat} {y : Str} (hc : X.calm = true) (hN : X.N.Nodup) (hy : X.N[i]? = some y) (hyl : X.env.scope.names.lookup y = some .local) (hsw : swapsWith (.ListComp elt [⟨tg, iter, ifs, 0⟩] scope pos) (some (.Name y py)) spos.line X.env = pure true)
    (hi : DI X G W tg iter IA) (ok : BlkOk X.N X.env.scope scope own) (hsub : ∀ i ∈ ts, i ∈ own.map (·.2)) (b : Blk X G scope tg ifs elt ts g t A) (hs : ∀ x, foldedSetIterable iter X.env x = pure x := by intro _; rfl) :
    PS X (.Assign [.Name y py] (.ListComp elt [⟨tg, iter, ifs, 0⟩] scope pos) spos) (tAsg (tN G W (nComp (own.map (·.2)) IA g t A)) (gName i)) :=
  ps_imp (ps_setLc (g := tgU G ts g) (tt := ttU G t) (te := teU G A) hc hN hy hyl hsw hi.pi ok
    (fun s H C cl fp => ⟨fun pins s' σ H' v u Q I r ⟨O, q⟩ => (b.dg O s H C cl fp).pg.run pins s' σ H' v u Q I r q⟩)
    (fun s H C cl fp => ⟨fun pins s' σ H' Q I ⟨O, q⟩ => (b.dt O s H C cl fp).pts.run pins s' σ H' Q I q⟩)
    (fun s H C cl fp => ⟨fun pins s' σ H' Q I ⟨O, q⟩ => (b.de O s H C cl fp).pe.run pins s' σ H' Q I q⟩) hs)
    (fun Ds σ H q => comp_tr hsub (fun _ _ _ q => q) (fun O _ _ _ _ q => ⟨O, q⟩) (fun O _ _ _ q => ⟨O, q⟩) (fun O _ _ _ q => ⟨O, q⟩) σ H _ q)
/-- as a new list -/
theorem dn_comp (own : List (Str × Nat)) (hc : X.calm = true) (hN : X.N.Nodup) (hi : DI X G W tg iter IA) (ok : BlkOk X.N X.env.scope scope own) (hsub : ∀ i ∈ ts, i ∈ own.map (·.2)) (b : Blk X G scope tg ifs elt ts g t A) (hs : ∀ x, foldedSetIterable iter X.env x = pure x := by intro _; rfl) :
    DN X G W (.ListComp elt [⟨tg, iter, ifs, 0⟩] scope pos) (nComp (own.map (·.2)) IA g t A) := comp_pe hc hN hi ok hsub b hs
/-- name = [..], the list the name's own -/
theorem ds_ownLc (own : List (Str × Nat)) (i : Nat) {y : Str} (hc : X.calm = true) (hN : X.N.Nodup) (hy : X.N[i]? = some y) (hyl : X.env.scope.names.lookup y = some .local) (hsw : swapsWith (.ListComp elt [⟨tg, iter, ifs, 0⟩] scope pos) (some (.Name y py)) spos.line X.env = pure true)
    (hi : DI X G W tg iter IA) (ok : BlkOk X.N X.env.scope scope own) (hsub : ∀ i ∈ ts, i ∈ own.map (·.2)) (b : Blk X G scope tg ifs elt ts g t A) (hs : ∀ x, foldedSetIterable iter X.env x = pure x := by intro _; rfl) :
    DS X G W (.Assign [.Name y py] (.ListComp elt [⟨tg, iter, ifs, 0⟩] scope pos) spos) (sOwn i (nComp (own.map (·.2)) IA g t A)) :=
  ⟨ps_imp (comp_ps hc hN hy hyl hsw hi ok hsub b hs) fun Ds σ H ⟨en, M, Bx, rel, m⟩ => ⟨en, M, Bx, rel, Post.imp (post_bind.mp m) (fun q mq p ys H1 M1 rel1 st1 o => mq _ H1 M1 Bx (rel1.setOwn o) st1 fun _ => rfl) fun _ _ _ h => h.ew σ⟩⟩
/-- name = [..], the list left to stand -/
theorem ds_asgLc (own : List (Str × Nat)) (i : Nat) {y : Str} (hc : X.calm = true) (hN : X.N.Nodup) (hy : X.N[i]? = some y) (hyl : X.env.scope.names.lookup y = some .local) (hsw : swapsWith (.ListComp elt [⟨tg, iter, ifs, 0⟩] scope pos) (some (.Name y py)) spos.line X.env = pure true)
    (hi : DI X G W tg iter IA) (ok : BlkOk X.N X.env.scope scope own) (hsub : ∀ i ∈ ts, i ∈ own.map (·.2)) (b : Blk X G scope tg ifs elt ts g t A) (hs : ∀ x, foldedSetIterable iter X.env x = pure x := by intro _; rfl) :
    DS X G W (.Assign [.Name y py] (.ListComp elt [⟨tg, iter, ifs, 0⟩] scope pos) spos) (sAsg i (eN (nComp (own.map (·.2)) IA g t A))) :=
  ⟨ps_imp (comp_ps hc hN hy hyl hsw hi ok hsub b hs) fun Ds σ H ⟨en, M, Bx, rel, m⟩ => ⟨en, M, Bx, rel, by
    unfold sAsg eN at m
    cases hn : nComp (own.map (·.2)) IA g t A en with
    | ok q =>
      rw [hn] at m
      intro p ys H1 M1 rel1 st1 o
      obtain ⟨r2, s2, rd⟩ := o.stand rel1
      exact m _ H1 _ Bx (r2.set rd) (st1.trans s2) fun _ => rfl
    | ex c d en2 => rw [hn] at m; exact EWS.ew m σ
    | bad => rw [hn] at m; exact m⟩⟩
end
end DL

namespace DL
open PySem L2 PySem.Spec PyProof.Rows
/-! ### a def as a function on data -/
inductive FR where
  | ok (d : D) (b : Int × Int)
  | nw (ds : List D) (b : Int × Int)
  | ex (c : Str) (d : D) (b : Int × Int)
  | bad
abbrev FnS := List D → Int × Int → FR
def PostF (P : D → Int × Int → Prop) (N : List D → Int × Int → Prop) (E : Str → D → Int × Int → Prop) : FR → Prop
  | .ok d b => P d b
  | .nw ds b => N ds b
  | .ex c d b => E c d b
  | .bad => False
/-- behind a def: all that stood there still stands, the box holds b -/
def Kept (T : List (Addr × Str)) (H : Hp) (B : Option Addr) (b : Int × Int) (H' : Hp) : Prop :=
  (∀ a o, H a = some o → B ≠ some a → (∀ q ∈ T, q.1 ≠ a) → H' a = some o) ∧ (∀ p, B = some p → H' p = some (.lst [.int b.1, .int b.2])) ∧ ∀ q ∈ T, LamX.TabS H' q.1 q.2
def XD (K : Fg) (cs : Str → Option (Value × Str)) (H : Hp) (O : AS) (cls : Value) (dd : Option Addr) (c : Str) (d : D) : Prop :=
  ∃ (f : Str) (a : Addr) (fs : List (Str × V)) (v : V), cs c = some (cls, f) ∧ dd = some a ∧ H a = some (.xd fs) ∧ ¬ O a ∧ fs.lookup f = some v ∧ RD K H O v d
def argsOf (B : Option Addr) (vs : List V) : List V := match B with | some p => .ref p :: vs | none => vs
/-- the promise of a def whose first parameter is the box (bx), with n more parameters -/
def spF (K : Fg) (cs : Str → Option (Value × Str)) (T : List (Addr × Str)) (bx : Bool) (n : Nat) (F : FnS) : Sp := fun us H Q E => ∃ (O : AS) (B : Option Addr) (b : Int × Int) (vs : List V) (ds : List D),
  us = argsOf B vs ∧ B.isSome = bx ∧ ds.length = n ∧ RDs K H O vs ds ∧ (∀ a, O a → H a ≠ none) ∧ (∀ p, B = some p → O p ∧ H p = some (.lst [.int b.1, .int b.2])) ∧ (∀ q ∈ T, O q.1 ∧ LamX.TabS H q.1 q.2) ∧
  PostF (fun d b' => ∀ v H', Kept T H B b' H' → RD K H' O v d → Q v H') (fun ds b' => ∀ p ys H', Kept T H B b' H' → H p = none → H' p = some (.lst ys) → ys.length ≤ sizeLine → RDs K H' O ys ds → Q (.ref p) H') (fun c d b' => ∀ cls dd H', Kept T H B b' H' → XD K cs H' O cls dd c d → E cls dd H') (F ds b)
structure FnC (cx : CXT) (P : Program) (w : World) (K : Fg) (mg : Str → Option Value) (base : Heap) (k : Nat) (f : Addr) (fd : FuncData) (ps : List Str) (sp : Sp) : Prop where
  len : ∀ vs H Q E, sp vs H Q E → vs.length = ps.length
  run : ∀ (A : Around) (outer : List Env) (s : Shared) (H : Hp) (args : Args) (us : List Value) (vs : List V) (Q : VK) (E : XK), Room k A → A.guards = some [] → Env0 P w K mg base A outer s H → BindsTo s fd args (ps.zip us) → Vals vs us → sp vs H Q E →
    codeAny (model P w) A (.call (.ref f) args) (CR cx outer P w H s Q E) s
/-- errors that leave it have no context; they may have one -/
abbrev FnG (P : Program) (w : World) := FnC (L2N.CX P w) P w
abbrev FnM (P : Program) (w : World) := FnC (L2.CX P w) P w
/-- the code object of the def at f -/
def CodeOf (K : Fg) (f : Addr) (cd : Value) : Prop := ∃ (oc : Value) (od : Option Addr) (fd : FuncData) (osl : Array (Option Value)), K.lookup f = some ⟨oc, od, .func fd, osl⟩ ∧ fd.code = cd
section
variable {cx : CXT} {P : Program} {w : World} {K : Fg} {mg : Str → Option Value} {base : Heap} {k : Nat} {f : Addr} {fd : FuncData} {ps : List Str} {sp : Sp}
theorem FnC.mono {j : Nat} (F : FnC cx P w K mg base j f fd ps sp) (h : j ≤ k) : FnC cx P w K mg base k f fd ps sp := ⟨F.len, fun A outer s H args us vs Q E hr => F.run A outer s H args us vs Q E (hr.mono h)⟩
/-- from the body -/
theorem fnG_of {x qual : Str} {st : Stmt} {N : List Str} (F : Fun K x qual st f fd) (S : FnScope N ps (defScope st)) (len : ∀ vs H Q E, sp vs H Q E → vs.length = ps.length)
    (body : ∀ (cdv : Value), CodeOf K f cdv → ∀ (A : Around) (outer : List Env) (s : Shared) (H : Hp) (vs : List V) (Q : VK) (E : XK), Room k (A.deeper (envOfC qual (defScope st) s.heap.objs.size f cdv)) → A.guards = some [] → sp vs H Q E →
      ∃ t, PSs (cxOf cx P w K mg base N qual (defScope st) f cdv A outer s H E) (defBody st) t ∧ t { nx := fun _ H' => Q .non H', rt := Q } (start N vs) H) : FnC cx P w K mg base (k + 1) f fd ps sp := by
  obtain ⟨oc, od, kV, doc, pm, an, cdv, ct, osl, rfl, lk, hcd⟩ := F.ex
  refine ⟨len, fun A outer s H args us vs Q E hr hgu e0 hb r hsp => ?_⟩
  have nl : vs.length = ps.length := len _ _ _ _ hsp
  obtain ⟨t, ht, hq⟩ := body cdv ⟨_, _, _, _, lk, rfl⟩ A outer s H vs Q E (hr.deeper _) hgu hsp
  have kin : K.In s.heap := e0.mod.kin.keeps fun a o z => (e0.bs a o z).1
  have kinds : ∀ y ∈ ps.zip us, (defScope st).names.lookup y.1 = some .local ∨ ((defScope st).names.lookup y.1 = some .cell ∧ ((cellsFrom (s.heap.objs.size + 1) (defScope st).names []).lookup y.1).isSome = true) := by
    rintro ⟨n, v⟩ hy
    exact (S.par n (List.of_mem_zip hy).1).imp id fun q => ⟨q, PySem.W.cellsFrom_some _ _ _ (.inl q)⟩
  refine codeAny_call_function hr.depth (kin _ _ lk) rfl S.co S.gen rfl (PySem.W.codeRec_of kin hcd) (hb _ _ _ _ ?_)
  refine wpAny_newFunctionEnv_cells S.kind kinds fun env he s1 x => ?_
  cases he
  refine ⟨(e0.mod.nolimit.keeps fun a o z => (e0.bs a o z).1).keeps x.toInCall.keep, codeAny_func ?_⟩
  refine wpAny_mono (ht.run [] s1 (start N vs) H _ (inv_start S hr.hd e0 nl r x) hq) (fun fl s' hs => ?_) fun _ _ hs => hs
  cases fl with
  | ret u => obtain ⟨v, _, H', J, rv, q⟩ := hs; exact ⟨v, H', J.os, J.bare, J.base, J.hok, rv, q⟩
  | next => obtain ⟨_, H', J, q⟩ := hs; exact ⟨V.non, H', J.os, J.bare, J.base, J.hok, rfl, q⟩
  | brk => obtain ⟨_, _, _, q⟩ := hs; exact q.elim
  | cont => obtain ⟨_, _, _, q⟩ := hs; exact q.elim
end
section
variable {cx : CXT} {X : Cx} {k : Nat} {f : Addr} {fd : FuncData} {ps ks : List Str} {sp : Sp} {E : L2.St → XK} {x : Str} {p pos : Pos} {e : Expr} {es : List Expr} {kws : List Keyword} {t : TA}
theorem run_fnG {args : Args} {pins : List (Addr × Obj)} {σ : L2.St} {H : Hp} {s : Shared} {Q : VK} {us : List Value} {vs : List V} (F : FnC cx X.prog X.w X.K X.mg X.base k f fd ps sp) (hr : Room k X.A) (hgu : X.A.guards = some []) (hx : PassesAt cx X σ (E σ))
    (I : Inv X pins σ H s) (hb : BindsTo s fd args (ps.zip us)) (r : Vals vs us) (h : sp vs H Q (E σ)) : wpAny (model X.prog X.w) X.A (call (.ref f) args.pos args.kw) (EP X pins σ Q) X.xe s := by
  refine wpAny_call (codeAny_mono (F.run X.A X.stack s H _ us vs Q (E σ) hr hgu I.env0 hb r h) fun r s' hq => ?_)
  match r, hq with
  | .error e, hq => exact hx pins H s e s' I hq
  | .ok (.ret u), hq => exact I.after hq
  | .ok .next, hq => exact hq.elim
  | .ok .brk, hq => exact hq.elim
  | .ok .cont, hq => exact hq.elim
theorem pe_callG (F : FnC cx X.prog X.w X.K X.mg X.base k f fd ps sp) (hr : Room k X.A) (hgu : X.A.guards = some []) (hg : Gl X x) (hm : X.mg x = some (.ref f)) (hk : PySem.W.keepIn X.K (.ref f) = true) (hb : Binds X.K fd ps []) (hx : ∀ σ, PassesAt cx X σ (E σ))
    (ha : PA X (e :: es) t) (hdb : (x == ("__debug__" : Str)) = false := by decide) (he : starEach (e :: es) X.env = (false, eval e X.env) :: starEach es X.env := by rfl) (hpl : (backTo pos (starEach es X.env)).any (·.1) = false := by rfl) :
    PE X (.Call (.Name x p) (e :: es) [] pos) (tCallSD sp [] E t) := by
  refine ⟨fun pins s σ H Q I h => wpAny_Call_Name_kw (ld_glob I hg hm ?_ hdb)⟩
  refine PySem.W.callWith_K (h₀ := X.base) I.ok.mod.kin hk (thn (ha.run pos pins s σ H _ I h) fun us s1 ⟨vs, H1, I1, r, q⟩ => ⟨I1.kIn, ?_⟩) he hpl
  have q : sp (vs ++ []) H1 Q (E σ) := q
  rw [List.append_nil] at q
  have nl : us.length = ps.length := by rw [← r.length]; exact F.len _ _ _ _ q
  have b := hb s1 us I1.kIn (by rw [List.append_nil]; exact nl)
  rw [List.append_nil] at b
  exact run_fnG (args := ⟨us, []⟩) F hr hgu (hx σ) I1 b r q
/-- the values of a call that names every parameter, put into the def's order by the places js -/
def put {α : Type} (z : α) (js : List Nat) (zs : List α) : List α := js.map fun j => zs.getD j z
theorem vals_at : ∀ {vs : List V} {us : List Value} (j : Nat), Vals vs us → RelV (vs.getD j .non) (us.getD j .none)
  | _, _, _, .nil => rfl
  | _, _, 0, .cons h _ => h
  | _, _, j + 1, .cons _ r => vals_at j r
theorem vals_put {vs : List V} {us : List Value} (h : Vals vs us) : ∀ js : List Nat, Vals (put V.non js vs) (put Value.none js us)
  | [] => .nil
  | j :: js => .cons (vals_at j h) (vals_put h js)
theorem rds_at {K : Fg} {H : Hp} {O : AS} : ∀ {vs : List V} {ds : List D} (j : Nat), RDs K H O vs ds → RD K H O (vs.getD j .non) (ds.getD j .none)
  | _, _, _, .nil => .non
  | _, _, 0, .cons h _ => h
  | _, _, j + 1, .cons _ r => rds_at j r
theorem rds_put {K : Fg} {H : Hp} {O : AS} {vs : List V} {ds : List D} (h : RDs K H O vs ds) : ∀ js : List Nat, RDs K H O (put V.non js vs) (put PyData.none js ds)
  | [] => .nil
  | j :: js => .cons (rds_at j h) (rds_put h js)
def BindsK (fd : FuncData) (ps ks : List Str) (js : List Nat) : Prop := ∀ ws : List Value, ws.length = ks.length → bindArgs fd ⟨[], ks.zip ws⟩ = pure (ps.zip (put Value.none js ws))
def tCallKw (sp : Sp) (js : List Nat) (n : Nat) (E : L2.St → XK) (t : TA) : TE := fun σ H Q => t σ H fun vs H1 => vs.length = n ∧ sp (put V.non js vs) H1 Q (E σ)
theorem pe_callGK (js : List Nat) (F : FnC cx X.prog X.w X.K X.mg X.base k f fd ps sp) (hr : Room k X.A) (hgu : X.A.guards = some []) (hg : Gl X x) (hm : X.mg x = some (.ref f)) (hk : PySem.W.keepIn X.K (.ref f) = true) (hb : BindsK fd ps ks js) (hx : ∀ σ, PassesAt cx X σ (E σ))
    (hkw : PK X kws t) (hall : (backToKw pos (keywordEach kws X.env)).all (·.1.isSome) = true := by rfl) (hks : (backToKw pos (keywordEach kws X.env)).filterMap (·.1) = ks := by rfl)
    (hdb : (x == ("__debug__" : Str)) = false := by decide) (hpl : ((backTo pos (starEach [] X.env)).any (·.1) || (backToKw pos (keywordEach kws X.env)).any (·.1.isNone)) = false := by rfl) :
    PE X (.Call (.Name x p) [] kws pos) (tCallKw sp js ks.length E t) := by
  refine ⟨fun pins s σ H Q I h => wpAny_Call_Name_kw (ld_glob I hg hm ?_ hdb)⟩
  refine PySem.W.callWith_KW0 (h₀ := X.base) I.ok.mod.kin hk hall (thn (hkw.run pos pins s σ H _ I h) fun ws s1 ⟨zs, H1, I1, r, nz, q⟩ => ⟨I1.kIn, ?_⟩) hpl
  rw [hks]
  exact run_fnG (args := ⟨[], ks.zip ws⟩) F hr hgu (hx σ) I1 (.of_eq (hb ws (by rw [← r.length]; exact nz))) (vals_put r js) q
end
end DL

namespace DL
open PySem L2 PySem.Spec PyProof.Rows
/-! ### a body as a function on data -/
def enF (bx : Bool) (m : Nat) (ds : List D) (b : Int × Int) : En := ⟨(if bx then [Sl.bx] else []) ++ (ds.map Sl.fz ++ List.replicate (m - (ds.length + if bx then 1 else 0)) Sl.no), b⟩
def finF : Rs Out → FR
  | .ok (.rt d en) => .ok d en.bx
  | .ok (.rn d en) => .nw d en.bx
  | .ok (.nx en) => .ok .none en.bx
  | .ok _ => .bad
  | .ex c d en => .ex c d en.bx
  | .bad => .bad
def runF (bx : Bool) (m : Nat) (A : DSt) : FnS := fun ds b => finF (A (enF bx m ds b))
theorem slots_at {K : Fg} {H : Hp} {O : AS} {r : Nat} : ∀ {vs : List V} {ds : List D} {i : Nat} {s : Sl}, RDs K H O vs ds → (ds.map Sl.fz ++ List.replicate r Sl.no)[i]? = some s →
    s = .no ∨ ∃ d v, s = .fz d ∧ (vs.map some ++ List.replicate r none)[i]? = some (some v) ∧ RD K H O v d
  | _, _, i, s, .nil, e => by
    simp only [List.map_nil, List.nil_append, List.getElem?_replicate] at e
    split at e
    · exact .inl (Option.some.inj e).symm
    · cases e
  | _, _, 0, s, .cons h _, e => by
    have e' : some (Sl.fz _) = some s := e
    cases e'
    exact .inr ⟨_, _, rfl, rfl, h⟩
  | _, _, i + 1, s, .cons _ q, e => slots_at (i := i) q (by simpa using e)
/-- what a body may write at its beginning: the box, the tables -/
def stM (B : Option Addr) (T : List (Addr × Str)) : AS := fun a => B = some a ∨ ∃ q ∈ T, q.1 = a
def stO (O : AS) (B : Option Addr) (T : List (Addr × Str)) : AS := fun a => O a ∧ ¬ stM B T a
theorem rel_start {K : Fg} {cs : Str → Option (Value × Str)} {T : List (Addr × Str)} {N : List Str} {H : Hp} {O : AS} {B : Option Addr} {b : Int × Int} {vs : List V} {ds : List D} (nd : (argsOf B vs).length ≤ N.length) (rd : RDs K H O vs ds) (oh : ∀ a, O a → H a ≠ none)
    (hb : ∀ p, B = some p → O p ∧ H p = some (.lst [.int b.1, .int b.2])) (ht : ∀ q ∈ T, O q.1 ∧ LamX.TabS H q.1 q.2) : Rel (gh K (stO O B T) false cs T) (enF B.isSome N.length ds b) (start N (argsOf B vs)) H (stM B T) B := by
  have ln := rd.length
  have mo : ∀ a, stM B T a → O a := fun a h => h.elim (fun z => (hb a z).1) fun ⟨q, hq, z⟩ => z ▸ (ht q hq).1
  have rd' : RDs K H (av (gh K (stO O B T) false cs T) (stM B T)) vs ds := rd.mono (fun _ _ h _ => h) fun a h => h.elim (fun z => .inl (mo a z)) fun z => .inl z.1
  have key : ∀ (i : Nat) (s : Sl), (enF B.isSome N.length ds b).sl[i]? = some s → s = .no ∨ (∃ d v, s = .fz d ∧ (start N (argsOf B vs))[i]? = some (some v) ∧ RD K H (av (gh K (stO O B T) false cs T) (stM B T)) v d) ∨
      (s = .bx ∧ ∃ p, B = some p ∧ (start N (argsOf B vs))[i]? = some (some (.ref p))) := fun i s hi => by
    cases B with
    | none =>
      have hi : (ds.map Sl.fz ++ List.replicate (N.length - ds.length) Sl.no)[i]? = some s := hi
      rw [← ln] at hi
      rcases slots_at rd' hi with e | ⟨d, v, e1, e2, e3⟩
      · exact .inl e
      · exact .inr (.inl ⟨d, v, e1, e2, e3⟩)
    | some p =>
      cases i with
      | zero =>
        have hi : some Sl.bx = some s := hi
        cases hi
        exact .inr (.inr ⟨rfl, p, rfl, rfl⟩)
      | succ i =>
        have hi : (ds.map Sl.fz ++ List.replicate (N.length - (ds.length + 1)) Sl.no)[i]? = some s := hi
        rw [← ln] at hi
        rcases slots_at rd' hi with e | ⟨d, v, e1, e2, e3⟩
        · exact .inl e
        · exact .inr (.inl ⟨d, v, e1, e2, e3⟩)
  have noO : ∀ {i : Nat} {s : Sl}, (enF B.isSome N.length ds b).sl[i]? = some s → isO s = true → False := fun {i s} h o => by
    rcases key i _ h with z | ⟨_, _, z, _⟩ | ⟨z, _⟩ <;> (rw [z] at o; cases o)
  have noW : ∀ {i : Nat} {es : List D}, (enF B.isSome N.length ds b).sl[i]? ≠ some (Sl.ow es) := fun {i es} h => by
    rcases key i _ h with z | ⟨_, _, z, _⟩ | ⟨z, _⟩ <;> cases z
  refine ⟨?_, fun i s hi => ?_, fun i j p s1 s2 _ h1 _ o1 _ _ _ => noO h1 o1, fun p hp => ⟨.inl hp, (hb p hp).2⟩, fun p i ds _ h _ => noW h, fun a h => ⟨oh a h.1, h.2⟩, fun a h => oh a (mo a h), fun q hq => ⟨.inr ⟨q, hq, rfl⟩, (ht q hq).2⟩⟩
  · cases B with
    | none =>
      have nd : vs.length ≤ N.length := nd
      show (vs.map some ++ List.replicate (N.length - vs.length) none).length = (ds.map Sl.fz ++ List.replicate (N.length - ds.length) Sl.no).length
      simp [ln]
    | some p =>
      have nd : vs.length + 1 ≤ N.length := nd
      show ((V.ref p :: vs).map some ++ List.replicate (N.length - (vs.length + 1)) none).length = (Sl.bx :: (ds.map Sl.fz ++ List.replicate (N.length - (ds.length + 1)) Sl.no)).length
      simp [ln]
  · rcases key i s hi with z | ⟨d, v, z, h1, h2⟩ | ⟨z, p, h1, h2⟩
    · subst z; trivial
    · subst z; exact ⟨v, h1, h2⟩
    · subst z; exact ⟨p, h1, h2⟩
section
variable {P : Program} {w : World} {K : Fg} {mg : Str → Option Value} {base : Heap} {k : Nat} {f : Addr} {fd : FuncData} {ps : List Str} {T : List (Addr × Str)}
theorem kept_of {G : Gh} {en : En} {σ : L2.St} {H H' : Hp} {M' : AS} {B : Option Addr} (r : Rel G en σ H' M' B) (s : Step H (stM B G.T) H' M') : Kept G.T H B en.bx H' :=
  ⟨fun a o h n nt => s.keep a o h fun z => z.elim n fun ⟨q, hq, z⟩ => nt q hq z, fun p hp => (r.box p hp).2, fun q hq => (r.tab q hq).2⟩
theorem out_of {K : Fg} {cs : Str → Option (Value × Str)} {O : AS} {en : En} {σ : L2.St} {H' : Hp} {M' : AS} {B : Option Addr} (r : Rel (gh K (stO O B T) false cs T) en σ H' M' B) (a : Addr) (h : O a) : av (gh K (stO O B T) false cs T) M' a := by
  by_cases c : stM B T a
  · exact .inl (c.elim (fun z => (r.box a z).1) fun ⟨q, hq, z⟩ => z ▸ (r.tab q hq).1)
  · exact .inr ⟨h, c⟩
theorem zn_sky {B : Heap} {l : List Env} {a : Addr} {cls : Value} {d : Option Addr} {L : Addr} {h : Heap} (x : Sky B l a (L2N.Zn cls d) L h) : Sky B l a (Zc cls d) L h := by
  have tr : ∀ {v : Value}, HandSPX.TracedZ h B a (L2N.Zn cls d) v → HandSPX.TracedZ h B a (Zc cls d) v := fun ⟨oe, vs, T, oT, ts, e1, e2, r⟩ => ⟨oe, vs, T, oT, ts, e1, e2.zc, r⟩
  rcases x with ⟨h1, h2, h3, oe, vs, h4, h5, h6⟩ | ⟨h1, h2, h3, h4⟩ | ⟨h1, h2, h3, h4⟩
  · exact .inl ⟨h1, h2, h3, oe, vs, h4, h5.zc, h6⟩
  · exact .inr (.inl ⟨h1, h2, h3, tr h4⟩)
  · exact .inr (.inr ⟨h1, h2, h3, tr h4⟩)
/-- who takes any error takes those without a context -/
theorem tkN {X : Cx} {W : WX} (t : L2.Takes X W) : L2N.Takes X W := fun u s' ⟨a, B, sI, pins, σ, H, cls, d, e, I, nb, up, sky, r⟩ => t u s' ⟨a, B, sI, pins, σ, H, cls, d, e, I, nb, up, zn_sky sky, r⟩
theorem fn_dataC {cx : CXT} (Tk : Cx → WX → Prop) (mk : ∀ (N : List Str) (qual : Str) (sc : Scope) (cdv : Value) (Ar : Around) (outer : List Env) (s : Shared) (H : Hp) (E : XK), Tk (cxOf cx P w K mg base N qual sc f cdv Ar outer s H E) (fun cls d _ H => E cls d H)) {cs : Str → Option (Value × Str)} {x qual : Str} {st : Stmt} {N : List Str} {bx : Bool} {n : Nat} {A : DSt} (F : Fun K x qual st f fd) (S : FnScope N ps (defScope st)) (hps : ps.length = n + if bx then 1 else 0)
    (body : ∀ (cdv : Value), CodeOf K f cdv → ∀ (Ar : Around) (outer : List Env) (s : Shared) (H : Hp) (E : XK) (O : AS) (W : WX), Room k (Ar.deeper (envOfC qual (defScope st) s.heap.objs.size f cdv)) → Ar.guards = some [] →
      Tk (cxOf cx P w K mg base N qual (defScope st) f cdv Ar outer s H E) W → DSs (cxOf cx P w K mg base N qual (defScope st) f cdv Ar outer s H E) (gh K O false cs T) W (defBody st) A) :
    FnC cx P w K mg base (k + 1) f fd ps (spF K cs T bx n (runF bx N.length A)) := by
  have hlen : ∀ {B : Option Addr} {vs : List V} {ds : List D} {H : Hp} {O : AS}, B.isSome = bx → ds.length = n → RDs K H O vs ds → (argsOf B vs).length = ps.length := fun {B vs ds H O} h1 h2 h3 => by
    rw [hps, ← h2, ← h3.length, ← h1]
    cases B <;> rfl
  have hpl : ps.length ≤ N.length := by have := congrArg List.length S.pre; rw [List.length_take] at this; omega
  refine fnG_of F S (fun vs H Q E ⟨O, B, b, vs', ds, e, h1, h2, h3, _⟩ => by rw [e]; exact hlen h1 h2 h3) fun cdv hco Ar outer s H vs Q E hr hg ⟨O, B, b, vs', ds, e, h1, h2, h3, h4, h5, ht, h6⟩ => ?_
  subst e h1
  refine ⟨_, (body cdv hco Ar outer s H E (stO O B T) (fun cls d _ H => E cls d H) hr hg (mk _ _ _ _ _ _ _ _ _)).pss, _, _, B, rel_start (by rw [hlen rfl h2 h3]; exact hpl) h3 h4 h5 ht, ?_⟩
  unfold runF at h6
  cases e : A (enF B.isSome N.length ds b) with
  | bad => rw [e] at h6; exact h6.elim
  | ex c d en =>
    rw [e] at h6
    intro cls dd σ' H' M' B' r st hB ⟨f', a, fs, v, x1, x2, x3, x4, x5, x6⟩
    cases hB rfl
    exact h6 cls dd H' (kept_of r st) ⟨f', a, fs, v, x1, x2, x3, fun z => x4 (out_of r a z), x5, x6.mono (fun _ _ h _ => h) fun a z => .inl (out_of r a z)⟩
  | ok o =>
    rw [e] at h6
    cases o with
    | bk en => exact h6.elim
    | ct en => exact h6.elim
    | nx en =>
      intro σ' H' M' B' r st hB
      cases hB rfl
      exact h6 .non H' (kept_of r st) .non
    | rn d en =>
      intro p ys σ' H' M' B' r st hB o
      cases hB rfl
      refine h6 p ys H' (kept_of r st) ?_ o.at_ o.len (o.rds.mono (fun _ _ h _ => h) fun a z => .inl (out_of r a z))
      exact (st.grow p o.own).elim (fun z => z.elim (fun z => absurd z o.nb) fun ⟨q, hq, z⟩ => absurd z (r.tab.ne o.at_ (fun _ z => nomatch z) q hq)) id
    | rt d en =>
      intro v σ' H' M' B' r st hB rd
      cases hB rfl
      exact h6 v H' (kept_of r st) (rd.mono (fun _ _ h _ => h) fun a z => .inl (out_of r a z))
theorem takN (N : List Str) (qual : Str) (sc : Scope) (cdv : Value) (Ar : Around) (outer : List Env) (s : Shared) (H : Hp) (E : XK) : L2N.Takes (cxOf (L2N.CX P w) P w K mg base N qual sc f cdv Ar outer s H E) (fun cls d _ H => E cls d H) := L2N.takes_of rfl rfl rfl rfl
theorem takM (N : List Str) (qual : Str) (sc : Scope) (cdv : Value) (Ar : Around) (outer : List Env) (s : Shared) (H : Hp) (E : XK) : L2.Takes (cxOf (L2.CX P w) P w K mg base N qual sc f cdv Ar outer s H E) (fun cls d _ H => E cls d H) := takes_of rfl rfl rfl rfl
end
/-! ### calls -/
/-- behind a call: all but the tables stands -/
theorem kept_some {T : List (Addr × Str)} {H H' : Hp} {B : Option Addr} {b : Int × Int} {a : Addr} (kp : Kept T H B b H') (h : H a ≠ none) : H' a ≠ none := by
  by_cases c : B = some a
  · rw [kp.2.1 a c]; exact fun z => nomatch z
  · by_cases t : ∃ q ∈ T, q.1 = a
    · obtain ⟨q, hq, z⟩ := t
      obtain ⟨ps, e⟩ := tabS_at (kp.2.2 q hq)
      rw [← z, e]; exact fun z => nomatch z
    · cases e : H a with
      | none => exact absurd e h
      | some o => rw [kp.1 a o e c fun q hq z => t ⟨q, hq, z⟩]; exact fun z => nomatch z
theorem Rel.called {G : Gh} {en en' : En} {σ : L2.St} {H H' : Hp} {M : AS} {B B1 : Option Addr} {b : Int × Int} (r : Rel G en σ H M B) (kp : Kept G.T H B1 b H') (he : en'.sl = en.sl) (h1 : B1 = none ∧ en'.bx = en.bx ∨ B1 = B ∧ en'.bx = b) : Rel G en' σ H' M B ∧ Step H M H' M := by
  have st : Step H M H' M := ⟨fun a o h n => kp.1 a o h (fun z => n (h1.elim (fun q => by rw [q.1] at z; cases z) fun q => (r.box a (by rw [← q.1]; exact z)).1)) fun q hq z => n (z ▸ (r.tab q hq).1), fun a h => .inl h⟩
  refine ⟨⟨by rw [he]; exact r.len, fun j s hj => ?_, fun i j p s1 s2 => by rw [he]; exact r.injo i j p s1 s2, fun p hp => ⟨(r.box p hp).1, ?_⟩, fun p i ds => by rw [he]; exact r.bne p i ds, out_step r.out st, fun a h => kept_some kp (r.mh a h), fun q hq => ⟨(r.tab q hq).1, kp.2.2 q hq⟩⟩, st⟩
  · rw [he] at hj
    have q := r.slot j s hj
    cases s with
    | no => trivial
    | fz d => obtain ⟨v, q1, q2⟩ := q; exact ⟨v, q1, q2.step st⟩
    | sq ns => obtain ⟨v, q1, q2⟩ := q; exact ⟨v, q1, q2.step st⟩
    | fu x => exact q
    | ow es =>
      obtain ⟨p', xs, q1, q2, q3, q4, q5⟩ := q
      refine ⟨p', xs, q1, q2, kp.1 _ _ q3 (fun z => ?_) (r.tab.ne q3 fun _ z => nomatch z), q4, q5.step st⟩
      rcases h1 with ⟨e, _⟩ | ⟨e, _⟩
      · rw [e] at z; cases z
      · rw [e] at z; exact r.bne _ j es z hj q1
    | od t es =>
      obtain ⟨p', q1, q2, q3⟩ := q
      refine ⟨p', q1, q2, q3.step st fun o ho => kp.1 _ _ ho (fun z => ?_) (r.tab.ne ho fun ps z => ?_)⟩
      · rcases h1 with ⟨e, _⟩ | ⟨e, _⟩
        · rw [e] at z; cases z
        · rw [e] at z; exact q3.nlst (r.box _ z).2
      · obtain ⟨u, u1, _, u2, _⟩ := q3.at_
        rw [u1] at ho
        cases ho
        exact u2 ps z
    | bx => exact q
    | er c d => exact erOk_step q st
  · rcases h1 with ⟨e, e2⟩ | ⟨e, e2⟩
    · rw [e2]
      exact kp.1 _ _ (r.box p hp).2 (fun z => by rw [e] at z; cases z) (r.tab.ne (r.box p hp).2 fun _ z => nomatch z)
    · rw [e2]
      exact kp.2.1 p (by rw [e]; exact hp)
theorem Rel.boxed {G : Gh} {en : En} {σ : L2.St} {H H' : Hp} {M : AS} {p : Addr} {b : Int × Int} (r : Rel G en σ H M (some p)) (kp : Kept G.T H (some p) b H') : Rel G { en with bx := b } σ H' M (some p) ∧ Step H M H' M := r.called kp rfl (.inr ⟨rfl, rfl⟩)
theorem Rel.stay {G : Gh} {en : En} {σ : L2.St} {H H' : Hp} {M : AS} {B : Option Addr} {b : Int × Int} (r : Rel G en σ H M B) (kp : Kept G.T H none b H') : Rel G en σ H' M B ∧ Step H M H' M := r.called kp rfl (.inl ⟨rfl, rfl⟩)
def toRs (r : FR) (en : (Int × Int) → En) : Rs (D × En) := match r with
  | .ok d b => .ok (d, en b)
  | .nw ds b => .ok (.list ds, en b)
  | .ex c d b => .ex c d (en b)
  | .bad => .bad
/-- f(..) of a def that takes no box -/
def eCall (n : Nat) (F : FnS) (As : DAs) : DEn := fun en => As en >>= fun p => if p.1.length = n then toRs (F p.1 (0, 0)) (fun _ => p.2) else .bad
/-- f(box, ..) -/
def eCallB (n i : Nat) (F : FnS) (As : DAs) : DEn := fun en => match en.sl[i]? with
  | some .bx => As en >>= fun p => if p.1.length = n then toRs (F p.1 p.2.bx) (fun b => { p.2 with bx := b }) else .bad
  | _ => .bad
/-- every parameter named -/
def eCallK (n : Nat) (js : List Nat) (F : FnS) (As : DAs) : DEn := fun en => As en >>= fun p => if p.1.length = n ∧ js.length = n then toRs (F (put PyData.none js p.1) (0, 0)) (fun _ => p.2) else .bad
section
variable {cx : CXT} {X : Cx} {G : Gh} {W : WX} {k n : Nat} {f : Addr} {fd : FuncData} {ps ks : List Str} {F : FnS} {x : Str} {p p2 pos : Pos} {e : Expr} {es : List Expr} {kws : List Keyword} {As : DAs}
theorem call_tr {σ : L2.St} {H H1 : Hp} {M M1 : AS} {B : Option Addr} {en1 : En} {vs : List V} {ds : List D} {Q : VK} (rel : Rel G en1 σ H1 M1 B) (st : Step H M H1 M1) (rd : RDs G.K H1 (av G M1) vs ds) (hn : ds.length = n)
    (m : Post (fun p => ∀ v H' M', Rel G p.2 σ H' M' B → Step H M H' M' → RD G.K H' (av G M') v p.1 → Q v H') (EW G W σ H M B) (toRs (F ds (0, 0)) fun _ => en1)) : spF G.K G.cls G.T false n F vs H1 Q (WE W σ) := by
  refine ⟨av G M1, none, (0, 0), vs, ds, rfl, rfl, hn, rd, rel.avh, (fun p hp => nomatch hp), (fun q hq => ⟨.inl (rel.tab q hq).1, (rel.tab q hq).2⟩), ?_⟩
  cases e : F ds (0, 0) with
  | bad => rw [e] at m; exact m.elim
  | ok d b =>
    rw [e] at m
    intro v H' kp r
    obtain ⟨r2, s2⟩ := rel.stay kp
    exact m v H' M1 r2 (st.trans s2) r
  | nw zs b =>
    rw [e] at m
    intro q ys H' kp hq hat hl r
    obtain ⟨r2, s2⟩ := rel.stay kp
    exact m (.ref q) H' M1 r2 (st.trans s2) (.lst ⟨hat, fun z => rel.avh q z hq⟩ hl r)
  | ex c d b =>
    rw [e] at m
    intro cls dd H' kp x
    obtain ⟨r2, s2⟩ := rel.stay kp
    exact m cls dd H' M1 r2 (st.trans s2) x
theorem callB_tr {σ : L2.St} {H H1 : Hp} {M M1 : AS} {q : Addr} {en1 : En} {vs : List V} {ds : List D} {Q : VK} (rel : Rel G en1 σ H1 M1 (some q)) (st : Step H M H1 M1) (rd : RDs G.K H1 (av G M1) vs ds) (hn : ds.length = n)
    (m : Post (fun p => ∀ v H' M', Rel G p.2 σ H' M' (some q) → Step H M H' M' → RD G.K H' (av G M') v p.1 → Q v H') (EW G W σ H M (some q)) (toRs (F ds en1.bx) fun b => { en1 with bx := b })) : spF G.K G.cls G.T true n F (.ref q :: vs) H1 Q (WE W σ) := by
  refine ⟨av G M1, some q, en1.bx, vs, ds, rfl, rfl, hn, rd, rel.avh, fun p hp => by cases hp; exact ⟨.inl (rel.box _ rfl).1, (rel.box _ rfl).2⟩, (fun q hq => ⟨.inl (rel.tab q hq).1, (rel.tab q hq).2⟩), ?_⟩
  cases e : F ds en1.bx with
  | bad => rw [e] at m; exact m.elim
  | ok d b =>
    rw [e] at m
    intro v H' kp r
    obtain ⟨r2, s2⟩ := rel.boxed kp
    exact m v H' M1 r2 (st.trans s2) r
  | nw zs b =>
    rw [e] at m
    intro q ys H' kp hq hat hl r
    obtain ⟨r2, s2⟩ := rel.boxed kp
    exact m (.ref q) H' M1 r2 (st.trans s2) (.lst ⟨hat, fun z => rel.avh q z hq⟩ hl r)
  | ex c d b =>
    rw [e] at m
    intro cls dd H' kp x
    obtain ⟨r2, s2⟩ := rel.boxed kp
    exact m cls dd H' M1 r2 (st.trans s2) x
theorem de_call (Fn : FnC cx X.prog X.w X.K X.mg X.base k f fd ps (spF X.K G.cls G.T false n F)) (hK : G.K = X.K) (tk : ∀ σ, PassesAt cx X σ (WE W σ)) (hr : Room k X.A) (hgu : X.A.guards = some []) (hm : X.mg x = some (.ref f)) (hk : PySem.W.keepIn X.K (.ref f) = true) (hb : Binds X.K fd ps []) (ha : DA X G W (e :: es) As)
    (hg : Gl X x := by rfl) (hdb : (x == ("__debug__" : Str)) = false := by decide) (he : starEach (e :: es) X.env = (false, eval e X.env) :: starEach es X.env := by rfl) (hpl : (backTo pos (starEach es X.env)).any (·.1) = false := by rfl) :
    DE X G W (.Call (.Name x p) (e :: es) [] pos) (eCall n F As) :=
  ⟨pe_imp (pe_callG Fn hr hgu hg hm hk hb tk ha.pa hdb he hpl) fun σ H Q ⟨en, M, B, rel, m⟩ => ⟨en, M, B, rel, Post.imp (post_bind.mp m) (fun q mq vs H1 M1 rel1 st1 rd => by
    split at mq
    · rename_i hn
      show spF X.K G.cls G.T false n F (vs ++ []) H1 Q (WE W σ)
      rw [List.append_nil, ← hK]
      exact call_tr rel1 st1 rd hn mq
    · exact mq.elim) fun _ _ _ h => h⟩⟩
theorem de_callX (i : Nat) {y : Str} (Fn : FnC cx X.prog X.w X.K X.mg X.base k f fd ps (spF X.K G.cls G.T true n F)) (hK : G.K = X.K) (tk : ∀ σ, PassesAt cx X σ (WE W σ)) (hr : Room k X.A) (hgu : X.A.guards = some []) (hm : X.mg x = some (.ref f)) (hk : PySem.W.keepIn X.K (.ref f) = true) (hb : Binds X.K fd ps [])
    (hN : X.N[i]? = some y) (hv : Vis X.env.scope y) (ha : DA X G W es As)
    (hg : Gl X x := by rfl) (hdb : (x == ("__debug__" : Str)) = false := by decide) (hd : (y == ("__debug__" : Str)) = false := by decide) (hcd : (y == ("__classdict__" : Str)) = false := by decide)
    (hst : starEach (.Name y p2 :: es) X.env = (false, eval (.Name y p2) X.env) :: starEach es X.env := by rfl) (hpl : (backTo pos (starEach es X.env)).any (·.1) = false := by rfl) :
    DE X G W (.Call (.Name x p) (.Name y p2 :: es) [] pos) (eCallB n i F As) :=
  ⟨pe_imp (pe_callG Fn hr hgu hg hm hk hb tk (pa_cons (pe_var hN hv hd hcd) ha.pa hst) hdb hst hpl) fun σ H Q ⟨en, M, B, rel, m⟩ => by
    unfold eCallB at m
    cases es : en.sl[i]? with
    | none => rw [es] at m; exact m.elim
    | some s =>
      rw [es] at m
      cases s with
      | no => exact m.elim
      | fz d => exact m.elim
      | ow ds => exact m.elim
      | od t es => exact m.elim
      | sq ns => exact m.elim
      | fu x => exact m.elim
      | er c d => exact m.elim
      | bx =>
        obtain ⟨q, e1, e2⟩ := rel.slot i _ es
        subst e1
        refine ⟨.ref q, e2, en, M, some q, rel, Post.imp (post_bind.mp m) (fun z mz vs H1 M1 rel1 st1 rd => ?_) fun _ _ _ h => h⟩
        split at mz
        · rename_i hn
          show spF X.K G.cls G.T true n F (.ref q :: (vs ++ [])) H1 Q (WE W σ)
          rw [List.append_nil, ← hK]
          exact callB_tr rel1 st1 rd hn mz
        · exact mz.elim⟩
theorem cons_tr {σ : L2.St} {H : Hp} {Q : List V → Hp → Prop} {A : DEn} (q : tA G W (aCons A As) σ H Q) : tCons (tE G W A) (tA G W As) σ H Q := by
  obtain ⟨en, M, Bx, rel, m⟩ := q
  exact ⟨en, M, Bx, rel, Post.imp (post_bind.mp m) (fun p mp v H1 M1 rel1 st1 rd1 =>
    ⟨p.2, M1, Bx, rel1, Post.imp (post_bind.mp mp) (fun q mq ws H2 M2 rel2 st2 rd2 => mq _ H2 M2 rel2 (st1.trans st2) (.cons (rd1.step st2) rd2)) fun _ _ _ h => h.step st1⟩) fun _ _ _ h => h⟩
structure DK (X : Cx) (G : Gh) (W : WX) (kws : List Keyword) (A : DAs) : Prop where pk : PK X kws (tA G W A)
theorem dk_nil : DK X G W [] aNil := ⟨⟨fun pos pins s σ H Q I ⟨en, M, B, r, m⟩ => pk_nil.run pos pins s σ H Q I (m [] H M r .refl .nil)⟩⟩
theorem dk_cons {A : DEn} {nm : Option Str} {kpos : Pos} (ha : DE X G W e A) (hr : DK X G W kws As) : DK X G W (⟨nm, e, kpos⟩ :: kws) (aCons A As) :=
  ⟨⟨fun pos pins s σ H Q I q => (pk_cons ha.pe hr.pk).run pos pins s σ H Q I (cons_tr q)⟩⟩
theorem de_callK (js : List Nat) (Fn : FnC cx X.prog X.w X.K X.mg X.base k f fd ps (spF X.K G.cls G.T false n F)) (hK : G.K = X.K) (tk : ∀ σ, PassesAt cx X σ (WE W σ)) (hr : Room k X.A) (hgu : X.A.guards = some []) (hm : X.mg x = some (.ref f)) (hk : PySem.W.keepIn X.K (.ref f) = true) (hb : BindsK fd ps ks js) (ha : DK X G W kws As)
    (hn : ks.length = n) (hg : Gl X x := by rfl) (hall : (backToKw pos (keywordEach kws X.env)).all (·.1.isSome) = true := by rfl) (hks : (backToKw pos (keywordEach kws X.env)).filterMap (·.1) = ks := by rfl) (hdb : (x == ("__debug__" : Str)) = false := by decide)
    (hpl : ((backTo pos (starEach [] X.env)).any (·.1) || (backToKw pos (keywordEach kws X.env)).any (·.1.isNone)) = false := by rfl) :
    DE X G W (.Call (.Name x p) [] kws pos) (eCallK n js F As) :=
  ⟨pe_imp (pe_callGK js Fn hr hgu hg hm hk hb tk ha.pk hall hks hdb hpl) fun σ H Q ⟨en, M, B, rel, m⟩ => ⟨en, M, B, rel, Post.imp (post_bind.mp m) (fun q mq vs H1 M1 rel1 st1 rd => by
    split at mq
    · rename_i hc
      refine ⟨by rw [rd.length, hn]; exact hc.1, ?_⟩
      rw [← hK]
      exact call_tr rel1 st1 (rds_put rd js) (by unfold put; rw [List.length_map]; exact hc.2) mq
    · exact mq.elim) fun _ _ _ h => h⟩⟩
end
end DL

namespace DL
open PySem L2 PySem.Spec PyProof.Rows
/-! ### a, b = x, y -/
inductive Its (G : Gh) (en : En) (σ : L2.St) (H : Hp) (M : AS) (B : Option Addr) : List V → List Sl → Prop
  | nil : Its G en σ H M B [] []
  | fr {v : V} {d : D} {vs : List V} {ss : List Sl} : RD G.K H (av G M) v d → Its G en σ H M B vs ss → Its G en σ H M B (v :: vs) (.fz d :: ss)
  | nw {p : Addr} {ys : List V} {zs : List D} {vs : List V} {ss : List Sl} : OwnV G en σ H M B p ys zs → (∀ (j : Nat) (es : List D), ss[j]? = some (Sl.ow es) → vs[j]? ≠ some (V.ref p)) → Its G en σ H M B vs ss → Its G en σ H M B (.ref p :: vs) (.ow zs :: ss)
inductive PIt where
  | fr (A : DEn)
  | nw (N : DNl)
def evP : List PIt → En → Rs (List Sl × En)
  | [], en => .ok ([], en)
  | .fr A :: r, en => A en >>= fun p => evP r p.2 >>= fun q => .ok (.fz p.1 :: q.1, q.2)
  | .nw A :: r, en => A en >>= fun p => evP r p.2 >>= fun q => .ok (.ow p.1 :: q.1, q.2)
def tP (G : Gh) (W : WX) (its : List PIt) : TA := fun σ H Q => ∃ en M B, Rel G en σ H M B ∧ Post (fun p => ∀ vs H' M', Rel G p.2 σ H' M' B → Step H M H' M' → Its G p.2 σ H' M' B vs p.1 → Q vs H') (EW G W σ H M B) (evP its en)
structure DP (X : Cx) (G : Gh) (W : WX) (es : List Expr) (its : List PIt) : Prop where pa : ∀ O, PA X es (tP (G.with O) W its)
theorem Its.length {G : Gh} {en : En} {σ : L2.St} {H : Hp} {M : AS} {B : Option Addr} : ∀ {vs : List V} {ss : List Sl}, Its G en σ H M B vs ss → vs.length = ss.length
  | _, _, .nil => rfl
  | _, _, .fr _ r => by rw [List.length_cons, List.length_cons, r.length]
  | _, _, .nw _ _ r => by rw [List.length_cons, List.length_cons, r.length]
section
variable {X : Cx} {G : Gh} {W : WX} {pos : Pos} {e : Expr} {es : List Expr} {A : DEn} {N : DNl} {its : List PIt}
theorem dp_nil : DP X G W [] [] := ⟨fun O => ⟨fun pos pins s σ H Q I ⟨en, M, B, r, m⟩ => pa_nil.run pos pins s σ H Q I (m [] H M r .refl .nil)⟩⟩
theorem dp_fr (h1 : ∀ O, DE X (G.with O) W e A) (h2 : DP X G W es its) (hs : starEach (e :: es) X.env = (false, eval e X.env) :: starEach es X.env := by rfl) : DP X G W (e :: es) (.fr A :: its) :=
  ⟨fun O => pa_imp (pa_cons (h1 O).pe (h2.pa O) hs) fun σ H Q ⟨en, M, B, rel, m⟩ => ⟨en, M, B, rel, Post.imp (post_bind.mp m) (fun p mp v H1 M1 rel1 st1 rd1 =>
    ⟨p.2, M1, B, rel1, Post.imp (post_bind.mp mp) (fun q mq ws H2 M2 rel2 st2 it => mq _ H2 M2 rel2 (st1.trans st2) (.fr (rd1.step st2) it)) fun _ _ _ h => h.step st1⟩) fun _ _ _ h => h⟩⟩
/-- a new list is shut off while the rest is worked out -/
theorem OwnV.shut {en : En} {σ : L2.St} {H : Hp} {M : AS} {B : Option Addr} {p : Addr} {ys : List V} {zs : List D} (o : OwnV G en σ H M B p ys zs) (r : Rel G en σ H M B) : Rel (G.with fun a => G.Out a ∨ a = p) en σ H (fun a => M a ∧ a ≠ p) B := by
  have av1 : ∀ a, av (G.with fun a => G.Out a ∨ a = p) (fun a => M a ∧ a ≠ p) a → av G M a ∨ H a = none := fun a h => by
    rcases h with h | h | h
    · exact .inl (.inl h.1)
    · exact .inl (.inr h)
    · exact .inl (.inl (by rw [h]; exact o.own))
  refine ⟨r.len, fun j s hj => ?_, r.injo, fun q hb => ⟨⟨(r.box q hb).1, fun z => o.nb (by rw [← z]; exact hb)⟩, (r.box q hb).2⟩, r.bne, fun a h => ?_, fun a h => r.mh a h.1, fun q hq => ⟨⟨(r.tab q hq).1, r.tab.ne o.at_ (fun _ z => nomatch z) q hq⟩, (r.tab q hq).2⟩⟩
  · have q := r.slot j s hj
    cases s with
    | no => trivial
    | fz d => obtain ⟨v, q1, q2⟩ := q; exact ⟨v, q1, q2.mono (fun _ _ h _ => h) av1⟩
    | sq ns => obtain ⟨v, q1, q2⟩ := q; exact ⟨v, q1, q2.mono (fun _ _ h _ => h) av1⟩
    | fu x => exact q
    | ow es =>
      obtain ⟨p', xs, q1, q2, q3, q4, q5⟩ := q
      refine ⟨p', xs, q1, ⟨q2, fun z => ?_⟩, q3, q4, q5.mono (fun _ _ h _ => h) av1⟩
      subst z
      exact o.ne j es hj q1
    | od t es =>
      obtain ⟨p', q1, q2, q3⟩ := q
      refine ⟨p', q1, ⟨q2, fun z => ?_⟩, q3.mono (fun _ h => h) (fun _ _ h _ => h) av1⟩
      subst z
      exact q3.nlst o.at_
    | bx => exact q
    | er c d =>
      obtain ⟨a, cls, dd, f, b, fs, v, h0, h1, h2, h3, h4, h5, h6, h7⟩ := q
      exact ⟨a, cls, dd, f, b, fs, v, h0, h1, h2, h3, h4, fun z => (av1 b z).elim h5 (fun z => by rw [z] at h4; cases h4), h6, h7.mono (fun _ _ h _ => h) av1⟩
  · rcases h with h | h
    · exact ⟨(r.out a h).1, fun z => (r.out a h).2 z.1⟩
    · subst h; exact ⟨r.mh _ o.own, fun z => z.2 rfl⟩
theorem Its.opened {en : En} {σ : L2.St} {H : Hp} {M : AS} {B : Option Addr} {p : Addr} (np : ¬ M p) : ∀ {vs : List V} {ss : List Sl}, Its (G.with fun a => G.Out a ∨ a = p) en σ H M B vs ss → Its G en σ H (fun a => M a ∨ a = p) B vs ss ∧ ∀ (j : Nat) (es : List D), ss[j]? = some (Sl.ow es) → vs[j]? ≠ some (V.ref p)
  | _, _, .nil => ⟨.nil, fun j es h => by cases h⟩
  | _, _, .fr rd r => ⟨.fr rd.opened (Its.opened np r).1, fun j es h => by
    cases j with
    | zero => cases h
    | succ j => exact (Its.opened np r).2 j es h⟩
  | _, _, .nw o d r => ⟨.nw ⟨.inl o.own, o.at_, o.len, o.rds.opened, o.ne, o.nb⟩ d (Its.opened np r).1, fun j es h => by
    cases j with
    | zero => intro z; cases z; exact np o.own
    | succ j => exact (Its.opened np r).2 j es h⟩
theorem dp_nw (h1 : ∀ O, DN X (G.with O) W e N) (h2 : DP X G W es its) (hs : starEach (e :: es) X.env = (false, eval e X.env) :: starEach es X.env := by rfl) : DP X G W (e :: es) (.nw N :: its) := by
  refine ⟨fun O => ⟨fun pos pins s σ H Q I ⟨en, M, B, rel, m⟩ => ?_⟩⟩
  refine (pa_cons (te := tN (G.with O) W N) (t := fun σ H Q => ∃ O', tP (G.with O') W its σ H Q) (h1 O).pn ⟨fun pos pins s σ H Q I ⟨O', q⟩ => (h2.pa O').run pos pins s σ H Q I q⟩ hs).run pos pins s σ H Q I ?_
  refine ⟨en, M, B, rel, Post.imp (post_bind.mp m) (fun p mp a ys H1 M1 rel1 st1 o => ?_) fun _ _ _ h => h⟩
  have npO : ¬ (G.with O).Out a := fun z => (rel1.out a z).2 o.own
  have sb : ∀ {H2 : Hp} {M2 : AS}, Step H1 (fun b => M1 b ∧ b ≠ a) H2 M2 → Step H1 M1 H2 (fun b => M2 b ∨ b = a) := fun s0 => ⟨fun b u h n => s0.keep b u h fun z => n z.1, fun b h => h.elim (fun z => (s0.grow b z).imp And.left id) fun z => .inl (by rw [z]; exact o.own)⟩
  refine ⟨fun b => (G.with O).Out b ∨ b = a, p.2, fun b => M1 b ∧ b ≠ a, B, o.shut rel1, Post.imp (post_bind.mp mp) (fun q mq ws H2 M2 rel2 st2 it => ?_) fun c d en2 h => ?_⟩
  · have np2 : ¬ M2 a := (rel2.out a (.inr rfl)).2
    have r3 := Rel.opened (G := G.with O) rel2 npO
    obtain ⟨i1, i2⟩ := Its.opened (G := G.with O) np2 it
    have hat : H2 a = some (.lst ys) := st2.keep a _ o.at_ fun z => z.2 rfl
    exact mq _ H2 _ r3 (st1.trans (sb st2)) (.nw ⟨.inr rfl, hat, o.len, o.rds.step (sb st2), fun i ds hi hs => by
      obtain ⟨p', xs, g1, g2, _⟩ := rel2.slot i _ hi
      rw [hs] at g1
      cases g1
      exact np2 g2, o.nb⟩ i2 i1)
  · intro cls dd H2 M2 rel2 st2 ⟨f, b, fs, v, x1, x2, x3, x4, x5, x6⟩
    exact h cls dd H2 _ (Rel.opened (G := G.with O) rel2 npO) (st1.trans (sb st2)) ⟨f, b, fs, v, x1, x2, x3, fun z => x4 ((av_open (G := G.with O) b).mpr z), x5, RD.opened (G := G.with O) x6⟩
def putAll : List Nat → List Sl → En → En
  | i :: is, s :: ss, en => putAll is ss (en.put i s)
  | _, _, en => en
def setAll : List Nat → List V → L2.St → L2.St
  | i :: is, v :: vs, σ => setAll is vs (σ.set i (some v))
  | _, _, σ => σ
theorem Its.stored {en : En} {σ : L2.St} {H : Hp} {M : AS} {B : Option Addr} {i : Nat} {s : Sl} {v : V} (hd : ∀ (es : List D), s ≠ Sl.ow es) : ∀ {vs : List V} {ss : List Sl}, Its G en σ H M B vs ss → Its G (en.put i s) (σ.set i (some v)) H M B vs ss
  | _, _, .nil => .nil
  | _, _, .fr rd r => .fr rd (Its.stored hd r)
  | _, _, .nw o d r => .nw ⟨o.own, o.at_, o.len, o.rds, fun j ds hj h1 => by
      by_cases c : j = i
      · subst c; exact hd _ (put_out hj).1.symm
      · rw [put_ne c] at hj
        rw [List.getElem?_set_ne (Ne.symm c)] at h1
        exact o.ne j ds hj h1, o.nb⟩ d (Its.stored hd r)
theorem Its.storedO {en : En} {σ : L2.St} {H : Hp} {M : AS} {B : Option Addr} {i : Nat} {s : Sl} {p : Addr} (hl : σ.length = en.sl.length) : ∀ {vs : List V} {ss : List Sl}, (∀ (j : Nat) (es : List D), ss[j]? = some (Sl.ow es) → vs[j]? ≠ some (V.ref p)) → Its G en σ H M B vs ss → Its G (en.put i s) (σ.set i (some (.ref p))) H M B vs ss
  | _, _, _, .nil => .nil
  | _, _, hd, .fr rd r => .fr rd (Its.storedO hl (fun j es h => hd (j + 1) es h) r)
  | _, _, hd, .nw o d r => .nw ⟨o.own, o.at_, o.len, o.rds, fun j ds hj h1 => by
      by_cases c : j = i
      · subst c
        rw [List.getElem?_set_self (by rw [hl]; exact (put_out hj).2)] at h1
        cases h1
        exact hd 0 _ rfl rfl
      · rw [put_ne c] at hj
        rw [List.getElem?_set_ne (Ne.symm c)] at h1
        exact o.ne j ds hj h1, o.nb⟩ d (Its.storedO hl (fun j es h => hd (j + 1) es h) r)
theorem its_store {H : Hp} {M : AS} {B : Option Addr} : ∀ {is : List Nat} {vs : List V} {ss : List Sl} {en : En} {σ : L2.St}, Rel G en σ H M B → Its G en σ H M B vs ss → Rel G (putAll is ss en) (setAll is vs σ) H M B
  | [], _, _, _, _, r, _ => r
  | _ :: _, _, _, _, _, r, .nil => r
  | i :: is, _, _, _, _, r, .fr rd q => its_store (is := is) (r.set rd) (q.stored fun _ z => by cases z)
  | i :: is, _, _, _, _, r, .nw o d q => its_store (is := is) (r.setOwn o) (q.storedO r.len d)
def sPar (is : List Nat) (its : List PIt) : DSt := fun en => evP its en >>= fun q => if q.1.length = is.length then .ok (.nx (putAll is q.1 q.2)) else .bad
theorem with_self (G : Gh) : G.with G.Out = G := rfl
theorem par_tr {its : List PIt} {is : List Nat} {σ : L2.St} {H : Hp} {Ds : Ends} (m : tS G W (sPar is its) Ds σ H) : tP G W its σ H fun vs H1 => vs.length = is.length ∧ Ds.nx (setAll is vs σ) H1 := by
  obtain ⟨en, M, B, rel, m⟩ := m
  refine ⟨en, M, B, rel, Post.imp (post_bind.mp m) (fun q mq vs H1 M1 rel1 st1 it => ?_) fun _ _ _ h => EWS.ew h σ⟩
  split at mq
  · rename_i hl
    exact ⟨it.length.trans hl, mq _ H1 M1 B (its_store rel1 it) st1 fun _ => rfl⟩
  · exact mq.elim
theorem tP_imp {σ : L2.St} {H : Hp} {Q Q' : List V → Hp → Prop} (i : ∀ vs H', Q vs H' → Q' vs H') (m : tP G W its σ H Q) : tP G W its σ H Q' := by
  obtain ⟨en, M, B, rel, m⟩ := m
  exact ⟨en, M, B, rel, Post.imp m (fun q mq vs H1 M1 r s it => i _ _ (mq vs H1 M1 r s it)) fun _ _ _ h => h⟩
theorem ds_par2 (i j : Nat) {x y : Str} {a b : Expr} {px py pt : Pos} {kt k2 pt2} (hc : X.calm = true) (hN : X.N.Nodup) (hi : X.N[i]? = some x) (hj : X.N[j]? = some y) (hij : i ≠ j) (hx : X.env.scope.names.lookup x = some .local) (hy : X.env.scope.names.lookup y = some .local)
    (h : DP X G W [a, b] its) (hw : swappedStores [.Tuple [.Name x px, .Name y py] kt pt] (.Tuple [a, b] k2 pt2) X.env = pure (some [x, y])) (hs : swapsWithSole [.Tuple [.Name x px, .Name y py] kt pt] (.Tuple [a, b] k2 pt2) pos.line X.env = pure false := by rfl) :
    DS X G W (.Assign [.Tuple [.Name x px, .Name y py] kt pt] (.Tuple [a, b] k2 pt2) pos) (sPar [i, j] its) :=
  ⟨ps_imp (ps_par hc hN hi hj hij hx hy (h.pa G.Out) hw hs) fun Ds σ H m => tP_imp (fun vs H1 ⟨hl, q⟩ => by
    match vs, hl with
    | [v, w], _ => exact ⟨v, w, rfl, q⟩) (par_tr m)⟩
theorem ds_par3 (i j l : Nat) {x y z : Str} {a b c : Expr} {px py pz pt : Pos} {kt k2 pt2} (hc : X.calm = true) (hN : X.N.Nodup) (hi : X.N[i]? = some x) (hj : X.N[j]? = some y) (hl : X.N[l]? = some z) (hij : i ≠ j) (hil : i ≠ l) (hjl : j ≠ l)
    (hx : X.env.scope.names.lookup x = some .local) (hy : X.env.scope.names.lookup y = some .local) (hz : X.env.scope.names.lookup z = some .local)
    (h : DP X G W [a, b, c] its) (hw : swappedStores [.Tuple [.Name x px, .Name y py, .Name z pz] kt pt] (.Tuple [a, b, c] k2 pt2) X.env = pure (some [x, y, z])) (hs : swapsWithSole [.Tuple [.Name x px, .Name y py, .Name z pz] kt pt] (.Tuple [a, b, c] k2 pt2) pos.line X.env = pure false := by rfl) :
    DS X G W (.Assign [.Tuple [.Name x px, .Name y py, .Name z pz] kt pt] (.Tuple [a, b, c] k2 pt2) pos) (sPar [i, j, l] its) :=
  ⟨ps_imp (ps_par3 hc hN hi hj hl hij hil hjl hx hy hz (h.pa G.Out) hw hs) fun Ds σ H m => tP_imp (fun vs H1 ⟨hl, q⟩ => by
    match vs, hl with
    | [u, v, w], _ => exact ⟨u, v, w, rfl, q⟩) (par_tr m)⟩
/-- the plain way: a tuple is made and taken apart -/
structure NG (X : Cx) (es : List Expr) (is : List Nat) : Prop where pgs : PGs X es fun vs σ H Q => vs.length = is.length ∧ Q (setAll is vs σ) H
theorem ng_nil : NG X [] [] := ⟨pgs_imp pgs_nil fun vs σ H Q ⟨hl, q⟩ => by
  match vs, hl with
  | [], _ => exact ⟨rfl, q⟩⟩
theorem ng_cons (i : Nat) {x : Str} {px : Pos} {is : List Nat} (hN : X.N.Nodup) (hi : X.N[i]? = some x) (hx : Loc X.env.scope x) (h : NG X es is) (hf : X.fn x = true ∨ X.env.scope.names.lookup x = some .local := by first | exact .inl rfl | exact .inr rfl | assumption)
    (hs : (assignEach (.Name x px :: es) X.env).map (·.2) = assign (.Name x px) X.env :: (assignEach es X.env).map (·.2) := by rfl) : NG X (.Name x px :: es) (i :: is) := ⟨pgs_imp (pgs_cons (pg_name hN hi hx hf) h.pgs hs) fun vs σ H Q ⟨hl, q⟩ => by
  match vs, hl with
  | v :: vs, hl => exact ⟨v, vs, rfl, Nat.succ.inj hl, q⟩⟩
theorem Its.ext {en : En} {σ : L2.St} {H H' : Hp} {M : AS} {B : Option Addr} (ex : Ext H H') : ∀ {vs : List V} {ss : List Sl}, Its G en σ H M B vs ss → Its G en σ H' M B vs ss
  | _, _, .nil => .nil
  | _, _, .fr rd r => .fr (rd.ext ex) (Its.ext ex r)
  | _, _, .nw o d r => .nw ⟨o.own, ex _ _ o.at_, o.len, o.rds.ext ex, o.ne, o.nb⟩ d (Its.ext ex r)
theorem ds_parT {ts : List Expr} {is : List Nat} {kt k2 : Nat} {pt pt2 : Pos} (hc : X.calm = true) (h : DP X G W es its) (g : NG X ts is) (hz : is.length ≤ 1000) (hn : (assignEach ts X.env).length = is.length := by rfl) (hst : (assignEach ts X.env).findIdx? (·.1) = none := by rfl)
    (hs : swapsWithSole [.Tuple ts kt pt] (.Tuple es k2 pt2) pos.line X.env = pure false := by rfl) (hw : swappedStores [.Tuple ts kt pt] (.Tuple es k2 pt2) X.env = pure none := by rfl) (h1 : (assignEach [.Tuple ts kt pt] X.env).map (·.2) = [assign (.Tuple ts kt pt) X.env] := by rfl) :
    DS X G W (.Assign [.Tuple ts kt pt] (.Tuple es k2 pt2) pos) (sPar is its) :=
  ⟨ps_imp (ps_asg (pe_tup (h.pa G.Out)) (pg_tup hc g.pgs hn hst) hs hw h1) fun Ds σ H ⟨en, M, B, rel, m⟩ => ⟨en, M, B, rel, Post.imp (post_bind.mp m) (fun q mq vs H1 M1 rel1 st1 it => by
    split at mq
    · rename_i hl
      refine ⟨by rw [it.length, hl]; exact Nat.le_trans hz (by decide), fun p hp => ⟨p, vs, rfl, .inl (.inl upd_same), it.length.trans hl, it.length.trans hl, ?_⟩⟩
      have ex : Ext H1 (upd H1 p (.tup vs)) := ext_new hp
      exact mq _ _ M1 B (its_store (rel1.ext ex) (it.ext ex)) (st1.trans (.ext ex)) fun _ => rfl
    · exact mq.elim) fun _ _ _ h => EWS.ew h σ⟩⟩
/-- a target and what it is given -/
def sUnp (g : DGt) (A : DEn) : DSt := fun en => A en >>= fun p => liftO (g p.1 p.2) >>= fun e => .ok (.nx e)
theorem ds_unp {tg : Expr} {ts : List Nat} {g : DGt} (h : DE X G W e A) (hg : DG X G tg ts g) (hs : swapsWithSole [tg] e pos.line X.env = pure false := by rfl) (hw : swappedStores [tg] e X.env = pure none := by rfl) (h1 : (assignEach [tg] X.env).map (·.2) = [assign tg X.env] := by rfl) :
    DS X G W (.Assign [tg] e pos) (sUnp g A) :=
  ⟨ps_imp (ps_asg h.pe hg.pg hs hw h1) fun Ds σ H ⟨en, M, B, rel, m⟩ => ⟨en, M, B, rel, Post.imp (post_bind.mp m) (fun q mq v H1 M1 rel1 st1 rd => by
    obtain ⟨e1, g1, mq⟩ := post_lift.mp mq
    exact ⟨q.1, q.2, M1, B, e1, rel1, rd, g1, fun σ2 H2 M2 rel2 st2 _ => mq σ2 H2 M2 B rel2 (st1.trans st2) fun _ => rfl⟩) fun _ _ _ h => EWS.ew h σ⟩⟩
end
end DL

namespace DL
open PySem L2 PySem.Spec PyProof.Rows
/-! ### the box -/
def bxGet (b : Int × Int) : Int → Option Int
  | 0 => some b.1
  | 1 => some b.2
  | _ => none
def bxSet (b : Int × Int) (v : Int) : Int → Option (Int × Int)
  | 0 => some (v, b.2)
  | 1 => some (b.1, v)
  | _ => none
/-- box[c] -/
def eBx (i : Nat) (c : Int) : DEn := fun en => match en.sl[i]? with
  | some .bx => liftO (bxGet en.bx c) >>= fun z => .ok (.int z, en)
  | _ => .bad
theorem bx_slot {α : Type} {P : α → Prop} {E : Str → D → En → Prop} {G : Gh} {en : En} {σ : L2.St} {H : Hp} {M : AS} {B : Option Addr} {i : Nat} {r : Rs α} (rel : Rel G en σ H M B) (m : Post P E (match en.sl[i]? with | some .bx => r | _ => .bad)) :
    ∃ p, B = some p ∧ σ[i]? = some (some (V.ref p)) ∧ M p ∧ H p = some (.lst [.int en.bx.1, .int en.bx.2]) ∧ Post P E r := by
  cases es : en.sl[i]? with
  | none => rw [es] at m; exact m.elim
  | some s =>
    rw [es] at m
    cases s with
    | bx => obtain ⟨p, h1, h2⟩ := rel.slot i _ es; exact ⟨p, h1, h2, (rel.box p h1).1, (rel.box p h1).2, m⟩
    | _ => exact m.elim
section
variable {X : Cx} {G : Gh} {W : WX} {pos p2 p3 p4 : Pos} {e : Expr} {es : List Expr} {A : DEn} {kk : Nat}
theorem de_bx (i : Nat) {c : Int} {y : Str} (hc : c = 0 ∨ c = 1) (hN : X.N[i]? = some y) (hv : Vis X.env.scope y) (hd : (y == ("__debug__" : Str)) = false := by decide) (hcd : (y == ("__classdict__" : Str)) = false := by decide) :
    DE X G W (.Subscript (.Name y p2) (.Constant (.int c) kk p3) pos) (eBx i c) :=
  ⟨pe_imp (pe_ix ix_seq (pe_var hN hv hd hcd) pe_int fun _ _ => rfl) fun σ H Q ⟨en, M, B, rel, m⟩ => by
    obtain ⟨p, h1, h2, h3, h4, m⟩ := bx_slot rel m
    obtain ⟨z, hz, m⟩ := post_lift.mp m
    rcases hc with rfl | rfl <;> cases hz
    · exact ⟨.ref p, h2, .inl ⟨p, _, _, _, rfl, rfl, .inl (.inl h4), rfl, m _ H M rel .refl (.int _)⟩⟩
    · exact ⟨.ref p, h2, .inl ⟨p, _, _, _, rfl, rfl, .inl (.inl h4), rfl, m _ H M rel .refl (.int _)⟩⟩⟩
/-- box[c] = e -/
def sBx (i : Nat) (c : Int) (A : DEn) : DSt := fun en => A en >>= fun p => match p.2.sl[i]? with
  | some .bx => liftO ((asI p.1).bind fun v => bxSet p.2.bx v c) >>= fun b => .ok (.nx { p.2 with bx := b })
  | _ => .bad
theorem ds_bx (i : Nat) {c : Int} {y : Str} (hc : c = 0 ∨ c = 1) (hN : X.N[i]? = some y) (hv : Vis X.env.scope y) (h : DE X G W e A) (hd : (y == ("__debug__" : Str)) = false := by decide) (hcd : (y == ("__classdict__" : Str)) = false := by decide)
    (ha : ∀ v, assign (.Subscript (.Name y p2) (.Constant (.int c) kk p3) p4) X.env v = (do
      let ov ← holding [v] (eval (.Name y p2) X.env)
      let iv ← holding [v, ov] (eval (.Constant (.int c) kk p3) X.env)
      standAt p4
      holding [v, ov, iv] (setItem ov iv v)
      release [v, ov, iv] []) := by intro _; rfl) (hs : swapsWithSole [.Subscript (.Name y p2) (.Constant (.int c) kk p3) p4] e pos.line X.env = pure false := by rfl) (hw : swappedStores [.Subscript (.Name y p2) (.Constant (.int c) kk p3) p4] e X.env = pure none := by rfl)
    (h1 : (assignEach [.Subscript (.Name y p2) (.Constant (.int c) kk p3) p4] X.env).map (·.2) = [assign (.Subscript (.Name y p2) (.Constant (.int c) kk p3) p4) X.env] := by rfl) :
    DS X G W (.Assign [.Subscript (.Name y p2) (.Constant (.int c) kk p3) p4] e pos) (sBx i c A) := by
  refine ⟨ps_imp (ps_asg h.pe (pg_sub (pe_var hN hv hd hcd) pe_int set_list ha) hs hw h1) fun Ds σ H ⟨en, M, Bx, rel, m⟩ => ⟨en, M, Bx, rel, Post.imp (post_bind.mp m) (fun p mp v H1 M1 rel1 st1 rd1 => ?_) fun _ _ _ h => h.ew σ⟩⟩
  obtain ⟨q, e1, e2, e3, e4, mp⟩ := bx_slot rel1 mp
  subst e1
  obtain ⟨b, hb, mp⟩ := post_lift.mp mp
  have key : ∀ (b : Int × Int), Post (OutOk G Ds H M (some q)) (EWS G W H M (some q)) (.ok (.nx { p.2 with bx := b })) → Ds.nx σ (upd H1 q (.lst [.int b.1, .int b.2])) := fun b mp => by
    have kp : Kept G.T H1 (some q) b (upd H1 q (.lst [.int b.1, .int b.2])) := ⟨fun a o h n _ => by rw [upd_ne fun z => n (by rw [z])]; exact h, fun p hp => by cases hp; exact upd_same, fun r hr => (TOk.write rel1.tab e4 (fun _ _ z => z) r hr).2⟩
    obtain ⟨r2, s2⟩ := rel1.boxed kp
    exact mp σ _ M1 (some q) r2 (st1.trans s2) fun _ => rfl
  obtain ⟨d, en1⟩ := p
  cases rd1 with
  | int z =>
    rcases hc with rfl | rfl <;> cases hb
    · exact ⟨.ref q, e2, q, _, _, 0, rfl, rfl, e4, rfl, key _ mp⟩
    · exact ⟨.ref q, e2, q, _, _, 1, rfl, rfl, e4, rfl, key _ mp⟩
  | _ => cases hb
/-! ### the script -/
def eSqLen (i : Nat) : DEn := fun en => match en.sl[i]? with
  | some (.sq ns) => .ok (.int ns.length, en)
  | _ => .bad
def eSqIx (i : Nat) (A : DEn) : DEn := fun en => match en.sl[i]? with
  | some (.sq ns) => A en >>= fun p => liftO ((asI p.1).bind fun k => L2.atI ns k) >>= fun z => .ok (.int z, p.2)
  | _ => .bad
theorem sq_slot {α : Type} {P : α → Prop} {E : Str → D → En → Prop} {G : Gh} {en : En} {σ : L2.St} {H : Hp} {M : AS} {B : Option Addr} {i : Nat} {r : List Int → Rs α} (rel : Rel G en σ H M B) (m : Post P E (match en.sl[i]? with | some (.sq ns) => r ns | _ => .bad)) :
    ∃ a ns, en.sl[i]? = some (.sq ns) ∧ σ[i]? = some (some (V.ref a)) ∧ SqOk G.K H (av G M) a ns ∧ Post P E (r ns) := by
  cases es : en.sl[i]? with
  | none => rw [es] at m; exact m.elim
  | some s =>
    rw [es] at m
    cases s with
    | sq ns => obtain ⟨a, h1, h2⟩ := rel.slot i _ es; exact ⟨a, ns, rfl, h1, h2, m⟩
    | _ => exact m.elim
theorem de_sqLen (i : Nat) {x y : Str} {p : Pos} (hK : G.K = X.K) (hN : X.N[i]? = some y) (hv : Vis X.env.scope y) (hg : Gl X x) (hm : X.mg x = none) (hb : bootBuiltins x = some (.builtin "len")) (hd : (y == ("__debug__" : Str)) = false := by decide) (hcd : (y == ("__classdict__" : Str)) = false := by decide)
    (hn : x ≠ "__name__" := by decide) (hdb : (x == ("__debug__" : Str)) = false := by decide) (he : starEach [.Name y p2] X.env = (false, eval (.Name y p2) X.env) :: starEach [] X.env := by rfl) (hpl : (backTo pos (starEach [] X.env)).any (·.1) = false := by rfl) :
    DE X G W (.Call (.Name x p) [.Name y p2] [] pos) (eSqLen i) :=
  ⟨pe_imp (pe_callB call_len_seq hg hm hb (pa_cons (pe_var hN hv hd hcd) pa_nil he) hn hdb he hpl) fun σ H Q ⟨en, M, B, rel, m⟩ => by
    obtain ⟨a, ns, h0, h1, h2, m⟩ := sq_slot (r := fun ns => Rs.ok (PyData.int ns.length, en)) rel m
    refine ⟨.ref a, h1, a, _, rfl, .inl (by rw [← hK]; exact h2.sq), ?_⟩
    rw [List.length_map]
    exact m _ H M rel .refl (.int _)⟩
theorem atI_map {ns : List Int} {i z : Int} (h : L2.atI ns i = some z) : L2.atI (ns.map V.int) i = some (.int z) := by
  unfold L2.atI at h ⊢
  rw [List.length_map]
  cases e : ixN ns.length i with
  | none => rw [e] at h; cases h
  | some j =>
    rw [e] at h
    have h : ns[j]? = some z := h
    show (ns.map V.int)[j]? = _
    rw [List.getElem?_map, h]
    rfl
theorem de_sqIx (i : Nat) {y : Str} {ix : Expr} (hK : G.K = X.K) (hN : X.N[i]? = some y) (hv : Vis X.env.scope y) (h : DE X G W ix A) (hs : PlainIx ix) (hd : (y == ("__debug__" : Str)) = false := by decide) (hcd : (y == ("__classdict__" : Str)) = false := by decide) :
    DE X G W (.Subscript (.Name y p2) ix pos) (eSqIx i A) :=
  ⟨pe_imp (pe_ix (r := rIx G.K) (by rw [hK]; exact ix_seq) (pe_var hN hv hd hcd) h.pe hs) fun σ H Q ⟨en, M, B, rel, m⟩ => by
    obtain ⟨a, ns, h0, h1, h2, m⟩ := sq_slot (r := fun ns => A en >>= fun p => liftO ((asI p.1).bind fun k => L2.atI ns k) >>= fun z => Rs.ok (PyData.int z, p.2)) rel m
    refine ⟨.ref a, h1, en, M, B, rel, Post.imp (post_bind.mp m) (fun p mp v H1 M1 rel1 st1 rd => ?_) fun _ _ _ h => h⟩
    obtain ⟨z, hz, mp⟩ := post_lift.mp mp
    obtain ⟨d, en1⟩ := p
    cases rd with
    | int k => exact .inl ⟨a, _, k, _, rfl, rfl, (h2.step st1).sq, atI_map hz, mp _ H1 M1 rel1 st1 (.int _)⟩
    | _ => cases hz⟩
/-! ### a new box -/
def isBx : Sl → Bool
  | .bx => true
  | _ => false
def boxF (A : DSt) (m : Nat) (ns : List Int) (k : Int) : Int × Int := match A ⟨.sq ns :: .fz (.int k) :: List.replicate m .no, (0, 0)⟩ with
  | .ok (.rn [.int g, .int s] _) => (g, s)
  | _ => (0, 0)
def spBx (K : Fg) (F : List Int → Int → Int × Int) : Sp := fun us H Q _ => ∃ (a : Addr) (ns : List Int) (k : Int) (O : AS), us = [.ref a, .int k] ∧ 0 ≤ k ∧ SqOk K H O a ns ∧ (∀ a, O a → H a ≠ none) ∧
  ∀ p H', Ext H H' → H p = none → H' p = some (.lst [.int (F ns k).1, .int (F ns k).2]) → Q (.ref p) H'
theorem rel_box {K : Fg} {cs : Str → Option (Value × Str)} {H : Hp} {O : AS} {a : Addr} {ns : List Int} {k : Int} {m : Nat} (sq : SqOk K H O a ns) (oh : ∀ a, O a → H a ≠ none) :
    Rel (gh K O false cs []) ⟨.sq ns :: .fz (.int k) :: List.replicate m .no, (0, 0)⟩ (some (.ref a) :: some (.int k) :: List.replicate m none) H (fun _ => False) none := by
  have key : ∀ (j : Nat) (s : Sl), (Sl.sq ns :: Sl.fz (.int k) :: List.replicate m Sl.no)[j]? = some s → (j = 0 ∧ s = .sq ns) ∨ (j = 1 ∧ s = .fz (.int k)) ∨ s = .no := fun j s h => by
    match j, h with
    | 0, h => cases h; exact .inl ⟨rfl, rfl⟩
    | 1, h => cases h; exact .inr (.inl ⟨rfl, rfl⟩)
    | j + 2, h =>
      have h : (List.replicate m Sl.no)[j]? = some s := h
      rw [List.getElem?_replicate] at h
      split at h
      · exact .inr (.inr (Option.some.inj h).symm)
      · cases h
  have now : ∀ {j : Nat} {ds : List D}, (Sl.sq ns :: Sl.fz (.int k) :: List.replicate m Sl.no)[j]? ≠ some (Sl.ow ds) := fun {j ds} h => by
    rcases key j _ h with ⟨_, z⟩ | ⟨_, z⟩ | z <;> cases z
  have nowO : ∀ {j : Nat} {s : Sl}, (Sl.sq ns :: Sl.fz (.int k) :: List.replicate m Sl.no)[j]? = some s → isO s = true → False := fun {j s} h o => by
    rcases key j _ h with ⟨_, z⟩ | ⟨_, z⟩ | z <;> (rw [z] at o; cases o)
  refine ⟨by simp, fun j s h => ?_, fun i j p s1 s2 _ h _ o _ _ _ => nowO h o, (fun p h => nomatch h), (fun p i ds h => nomatch h), fun a h => ⟨oh a h, fun z => z⟩, fun a h => h.elim, fun q hq => nomatch hq⟩
  rcases key j s h with ⟨e, z⟩ | ⟨e, z⟩ | z
  · subst e z; exact ⟨a, rfl, sq.mono (fun _ _ h _ => h) fun a h => .inl (Or.elim h (fun z => False.elim z) id)⟩
  · subst e z; exact ⟨_, rfl, .int _⟩
  · subst z; trivial
end
section
variable {P : Program} {w : World} {K : Fg} {mg : Str → Option Value} {base : Heap} {k : Nat} {f : Addr} {fd : FuncData} {x1 x2 : Str}
theorem fn_box {x qual : Str} {st : Stmt} {N : List Str} {m : Nat} {A : DSt} (cs : Str → Option (Value × Str)) (F : Fun K x qual st f fd) (S : FnScope N [x1, x2] (defScope st)) (hm : N.length = m + 2)
    (tot : ∀ (ns : List Int) (k : Int), 0 ≤ k → ∃ g s en, A ⟨.sq ns :: .fz (.int k) :: List.replicate m .no, (0, 0)⟩ = .ok (.rn [.int g, .int s] en))
    (body : ∀ (cdv : Value), CodeOf K f cdv → ∀ (Ar : Around) (outer : List Env) (s : Shared) (H : Hp) (E : XK) (O : AS) (W : WX), Room k (Ar.deeper (envOfC qual (defScope st) s.heap.objs.size f cdv)) → Ar.guards = some [] →
      L2N.Takes (cxOf (L2N.CX P w) P w K mg base N qual (defScope st) f cdv Ar outer s H E) W → DSs (cxOf (L2N.CX P w) P w K mg base N qual (defScope st) f cdv Ar outer s H E) (gh K O false cs []) W (defBody st) A) :
    FnG P w K mg base (k + 1) f fd [x1, x2] (spBx K (boxF A m)) := by
  refine fnG_of F S (fun vs H Q E ⟨a, ns, k, O, e, _⟩ => by rw [e]; rfl) fun cdv hco Ar outer s H vs Q E hr hg ⟨a, ns, k, O, e, h0, h1, h2, h3⟩ => ?_
  subst e
  obtain ⟨g, z, en, e⟩ := tot ns k h0
  have eb : boxF A m ns k = (g, z) := by unfold boxF; rw [e]
  rw [eb] at h3
  have es : L2.start N [V.ref a, V.int k] = some (.ref a) :: some (.int k) :: List.replicate m none := by
    unfold L2.start
    rw [hm]
    rfl
  rw [es]
  refine ⟨_, (body cdv hco Ar outer s H E O (fun cls d _ H => E cls d H) hr hg (takN _ _ _ _ _ _ _ _ _)).pss, _, _, none, rel_box h1 h2, ?_⟩
  rw [e]
  intro p ys σ' H' M' B' r st hB o
  have rds := o.rds
  cases rds with
  | cons r1 q1 => cases q1 with
    | cons r2 q2 => cases q2 with
      | nil =>
        cases r1
        cases r2
        exact h3 p H' (fun b o h => st.keep b o h fun z => z) ((st.grow p o.own).elim False.elim id) o.at_
end
section
variable {X : Cx} {G : Gh} {W : WX} {pos p p1 p2 p3 : Pos} {A : DEn} {ek : Expr} {k : Nat} {f : Addr} {fd : FuncData} {ps : List Str} {F : List Int → Int → Int × Int}
theorem Rel.newBox {en : En} {σ : L2.St} {H H' : Hp} {M : AS} {B : Option Addr} {i : Nat} {p : Addr} {b : Int × Int} (r : Rel G en σ H M B) (ex : Ext H H') (hp : H p = none) (hat : H' p = some (.lst [.int b.1, .int b.2])) (nb : (en.sl.set i .no).all (fun s => !isBx s) = true) :
    Rel G { en.put i .bx with bx := b } (σ.set i (some (.ref p))) H' (fun a => M a ∨ a = p) (some p) := by
  have st : Step H M H' (fun a => M a ∨ a = p) := ⟨fun a o h _ => ex a o h, fun a h => h.imp id fun z => by rw [z]; exact hp⟩
  have nobx : ∀ {j : Nat}, j ≠ i → en.sl[j]? ≠ some Sl.bx := fun {j} c h => by
    have m : Sl.bx ∈ en.sl.set i .no := List.mem_of_getElem? (i := j) (by rw [List.getElem?_set_ne (Ne.symm c)]; exact h)
    exact absurd (List.all_eq_true.mp nb _ m) (by decide)
  have oo : ∀ {j : Nat} {s : Sl}, (en.put i .bx).sl[j]? = some s → isO s = true → j ≠ i ∧ en.sl[j]? = some s := fun {j s} h o => by
    by_cases c : j = i
    · subst c; rw [(put_out h).1] at o; cases o
    · rw [put_ne c] at h; exact ⟨c, h⟩
  have ow : ∀ {j : Nat} {ds : List D}, (en.put i .bx).sl[j]? = some (Sl.ow ds) → j ≠ i ∧ en.sl[j]? = some (Sl.ow ds) := fun {j ds} h => by
    by_cases c : j = i
    · subst c; cases (put_out h).1
    · rw [put_ne c] at h; exact ⟨c, h⟩
  refine ⟨by rw [List.length_set, r.len]; simp [En.put], fun j s hj => ?_, fun j l q s1 s2 hne hj hl o1 o2 h1 h2 => ?_, fun q hq => by cases hq; exact ⟨.inr rfl, hat⟩, fun q j ds hq hj h1 => ?_, out_step r.out st, fun a h => ?_, r.tab.ext ex fun _ _ z => .inl z⟩
  · have hj : (en.put i .bx).sl[j]? = some s := hj
    by_cases c : j = i
    · subst c
      obtain ⟨e1, e2⟩ := put_out hj
      subst e1
      exact ⟨p, rfl, by rw [List.getElem?_set_self (by rw [r.len]; exact e2)]⟩
    · rw [put_ne c] at hj
      have q := r.slot j s hj
      have se : (σ.set i (some (.ref p)))[j]? = σ[j]? := List.getElem?_set_ne (Ne.symm c)
      cases s with
      | no => trivial
      | fz d => obtain ⟨v, q1, q2⟩ := q; exact ⟨v, by rw [se]; exact q1, q2.step st⟩
      | sq ns => obtain ⟨v, q1, q2⟩ := q; exact ⟨v, by rw [se]; exact q1, q2.step st⟩
      | fu x => obtain ⟨v, q1, q2⟩ := q; exact ⟨v, by rw [se]; exact q1, q2⟩
      | ow es => obtain ⟨p', xs, q1, q2, q3, q4, q5⟩ := q; exact ⟨p', xs, by rw [se]; exact q1, .inl q2, ex _ _ q3, q4, q5.step st⟩
      | od t es => obtain ⟨p', q1, q2, q3⟩ := q; exact ⟨p', by rw [se]; exact q1, .inl q2, q3.step st (ex _)⟩
      | bx => exact absurd hj (nobx c)
      | er c d => exact erOk_σ (B := B) (erOk_step q st) se
  · obtain ⟨c1, a1⟩ := oo hj o1
    obtain ⟨c2, a2⟩ := oo hl o2
    rw [List.getElem?_set_ne (Ne.symm c1)] at h1
    rw [List.getElem?_set_ne (Ne.symm c2)] at h2
    exact r.injo j l q s1 s2 hne a1 a2 o1 o2 h1 h2
  · cases hq
    obtain ⟨c1, a1⟩ := ow hj
    rw [List.getElem?_set_ne (Ne.symm c1)] at h1
    obtain ⟨p', xs, q1, q2, q3, _⟩ := r.slot j _ a1
    rw [h1] at q1
    cases q1
    rw [hp] at q3
    cases q3
  · rcases h with h | h
    · cases e : H a with
      | none => exact absurd e (r.mh a h)
      | some o => rw [ex a o e]; exact fun z => nomatch z
    · rw [h, hat]; exact fun z => nomatch z
/-- box = _law_box(script, k) -/
def boxK (i : Nat) (F : List Int → Int → Int × Int) (ns : List Int) (p : D × En) : Rs Out := match asI p.1 with
  | some k => if 0 ≤ k ∧ (p.2.sl.set i .no).all (fun s => !isBx s) = true then .ok (.nx { p.2.put i .bx with bx := F ns k }) else .bad
  | _ => .bad
def sBox (i s : Nat) (F : List Int → Int → Int × Int) (A : DEn) : DSt := fun en => match en.sl[s]? with
  | some (.sq ns) => A en >>= fun p => boxK i F ns p
  | _ => .bad
theorem ds_box (i s : Nat) {x y z : Str} (ht : G.top = true) (Fn : FnG X.prog X.w X.K X.mg X.base k f fd ps (spBx X.K F)) (hK : G.K = X.K) (tk : L2N.Takes X W) (hr : Room k X.A) (hgu : X.A.guards = some []) (hm : X.mg x = some (.ref f)) (hk : PySem.W.keepIn X.K (.ref f) = true) (hb : Binds X.K fd ps [])
    (nd : X.N.Nodup) (hN : X.N[s]? = some y) (hv : Vis X.env.scope y) (hi : X.N[i]? = some z) (hz : Loc X.env.scope z) (ha : DE X G W ek A)
    (hg : Gl X x := by rfl) (hdb : (x == ("__debug__" : Str)) = false := by decide) (hd : (y == ("__debug__" : Str)) = false := by decide) (hcd : (y == ("__classdict__" : Str)) = false := by decide)
    (hst2 : starEach [ek] X.env = (false, eval ek X.env) :: starEach [] X.env := by rfl) (hst : starEach [.Name y p2, ek] X.env = (false, eval (.Name y p2) X.env) :: starEach [ek] X.env := by rfl) (hpl : (backTo p3 (starEach [ek] X.env)).any (·.1) = false := by rfl)
    (hs : swapsWith (.Call (.Name x p) [.Name y p2, ek] [] p3) (some (.Name z p1)) pos.line X.env = pure false := by rfl) (hf : X.fn z = true ∨ X.env.scope.names.lookup z = some .local := by first | exact .inl rfl | exact .inr rfl | assumption) :
    DS X G W (.Assign [.Name z p1] (.Call (.Name x p) [.Name y p2, ek] [] p3) pos) (sBox i s F A) :=
  ⟨ps_imp (ps_set nd hi hz (pe_callG Fn hr hgu hg hm hk hb (L2N.passAt tk) (pa_cons (pe_var hN hv hd hcd) (pa_cons ha.pe pa_nil hst2) hst) hdb hst hpl) hs hf) fun Ds σ H ⟨en, M, B, rel, m⟩ => by
    obtain ⟨a, ns, h0, h1, h2, m⟩ := sq_slot (r := fun ns => A en >>= fun p => boxK i F ns p) rel m
    refine ⟨.ref a, h1, en, M, B, rel, Post.imp (post_bind.mp m) (fun q mq v H1 M1 rel1 st1 rd => ?_) fun _ _ _ h => h.ew σ⟩
    obtain ⟨d, en1⟩ := q
    cases rd with
    | int j =>
      have mq : Post _ _ (if 0 ≤ j ∧ (en1.sl.set i .no).all (fun s => !isBx s) = true then Rs.ok (Out.nx { en1.put i .bx with bx := F ns j }) else .bad) := mq
      split at mq
      · rename_i nb
        show spBx X.K F ([V.ref a, V.int j] ++ []) H1 (fun x H1 => gName i x σ H1 Ds.nx) (WE W σ)
        refine ⟨a, ns, j, av G M1, rfl, nb.1, by rw [← hK]; exact h2.step st1, rel1.avh, fun p H' ex hp hat => ?_⟩
        have st2 : Step H1 M1 H' (fun b => M1 b ∨ b = p) := ⟨fun a o h _ => ex a o h, fun a h => h.imp id fun z => by rw [z]; exact hp⟩
        exact mq _ H' _ (some p) (rel1.newBox ex hp hat nb.2) (st1.trans st2) fun t => by rw [ht] at t; cases t
      · exact mq.elim
    | _ => exact mq.elim⟩
end
end DL

namespace DL
open PySem L2 PySem.Spec PyProof.Rows
/-! ### a < b < c -/
def eChain (f g : D → D → Option D) (a b c : DEn) : DEn := fun en => a en >>= fun p => b p.2 >>= fun q => liftO (f p.1 q.1) >>= fun z => liftO (asB z) >>= fun k => if k = true then c q.2 >>= fun r => liftO (g q.1 r.1) >>= fun w => .ok (w, r.2) else .ok (.bool false, q.2)
section
variable {X : Cx} {G : Gh} {W : WX} {k : Nat} {pos : Pos} {a b c : Expr} {A B C : DEn}
theorem chain_tr {r r' : R2} {f g : D → D → Option D} (h : OpS G r f) (h' : OpS G r' g) : ∀ σ H Q, tE G W (eChain f g A B C) σ H Q → tChain r r' (tE G W A) (tE G W B) (tE G W C) σ H Q := fun σ H Q ⟨en, M, Bx, rel, m⟩ =>
  ⟨en, M, Bx, rel, Post.imp (post_bind.mp m) (fun p mp v H1 M1 rel1 st1 rd1 => ⟨p.2, M1, Bx, rel1, Post.imp (post_bind.mp mp) (fun q mq w H2 M2 rel2 st2 rd2 => by
    obtain ⟨z, hz, mz⟩ := post_lift.mp mq
    obtain ⟨k, hk, mk⟩ := post_lift.mp mz
    refine h H2 _ v w p.1 q.1 z _ rel2.avh (rd1.step st2) rd2 hz fun u H3 ex rd3 => ?_
    cases z with
    | bool k0 =>
      cases hk
      cases rd3
      refine ⟨k, rfl, ?_⟩
      have s3 := (st1.trans st2).trans (Step.ext (M := M2) ex)
      by_cases c : k = true
      · subst c
        exact ⟨q.2, M2, Bx, rel2.ext ex, Post.imp (post_bind.mp mk) (fun t mt w2 H4 M4 rel4 st4 rd4 => by
          obtain ⟨z2, hz2, mz2⟩ := post_lift.mp mt
          exact h' H4 _ w w2 q.1 t.1 z2 _ rel4.avh ((rd2.ext ex).step st4) rd4 hz2 fun u2 H5 ex5 rd5 => mz2 u2 H5 M4 (rel4.ext ex5) ((s3.trans st4).trans (.ext ex5)) rd5) fun _ _ _ h => h.step s3⟩
      · have c : k = false := by simpa using c
        subst c
        exact mk _ H3 M2 (rel2.ext ex) s3 (.bl false)
    | _ => cases hk) fun _ _ _ h => h.step st1⟩) fun _ _ _ h => h⟩
theorem de_chain {op op' : CmpOp} {r r' : R2} {f g : D → D → Option D} (ho : OpR X (compareOp op) r) (ho' : OpR X (compareOp op') r') (h : OpS G r f) (h' : OpS G r' g) (ha : DE X G W a A) (hb : DE X G W b B) (hc : DE X G W c C) (hm : lastMarks [op, op'] [b, c] = false := by with_unfolding_all rfl) :
    DE X G W (.Compare a [op, op'] [b, c] pos) (eChain f g A B C) := ⟨pe_imp (pe_chain ho ho' ha.pe hb.pe hc.pe hm) (chain_tr h h')⟩
theorem dt_chain {op op' : CmpOp} {r r' : R2} {f g : D → D → Option D} (ho : OpR X (compareOp op) r) (ho' : OpR X (compareOp op') r') (h : OpS G r f) (h' : OpS G r' g) (ha : DE X G W a A) (hb : DE X G W b B) (hc : DE X G W c C) (hm : lastMarks [op, op'] [b, c] = false := by with_unfolding_all rfl) :
    DT X G W (.Compare a [op, op'] [b, c] pos) (tV (eChain f g A B C)) := ⟨pt_imp (pt_chain ho ho' ha.pe hb.pe hc.pe hm) fun σ H Q m => chain_tr h h' σ H _ (tv_tr σ H Q m)⟩
/-! ### zip of two lists, of two tuples -/
def zipD (xs ys : List D) : List D := List.zipWith (fun a b => .tuple [a, b]) xs ys
def zipS : D → D → Option (List D)
  | .list xs, .list ys => some (zipD xs ys)
  | .tuple xs, .tuple ys => some (zipD xs ys)
  | _, _ => none
def iZip (a b : DEn) : DNl := fun en => a en >>= fun p => b p.2 >>= fun q => liftO (zipS p.1 q.1) >>= fun ds => .ok (ds, q.2)
theorem walk_zipT {K : Fg} {a b : Addr} {xs ys : List V} {n : Nat} (hn : n = min xs.length ys.length) : Walk (RZ.ItzT K a b) n (fun H => SqT K H a xs ∧ SqT K H b ys) (YPair (fun i => xs[i]?) (fun i => ys[i]?)) := by
  subst hn
  refine ⟨fun i _ hi q => ?_, fun _ q => ⟨xs, ys, q.1, q.2, by omega⟩, fun i H v H' _ q y => ?_⟩
  · have l1 : i < xs.length := by omega
    have l2 : i < ys.length := by omega
    exact ⟨xs, ys, xs[i], ys[i], q.1, q.2, List.getElem?_eq_getElem l1, List.getElem?_eq_getElem l2⟩
  · obtain ⟨T, x, z, h1, h2, h3, h4, h5⟩ := y
    exact ⟨T, x, z, h1, h2, h3, h4 xs q.1, h5 ys q.2⟩
theorem itOk_zip {J : It} {H : Hp} {M : AS} {xs ys : List V} {ds es : List D} {Gd : Hp → Prop} (w : Walk J (min xs.length ys.length) Gd (YPair (fun i => xs[i]?) (fun i => ys[i]?))) (hG : ∀ H' M', Step H M H' M' → Gd H') (h3 : RDs G.K H (av G M) xs ds) (h4 : RDs G.K H (av G M) ys es) : ItOk G J (zipD ds es) H M := by
  refine ⟨Gd, _, by unfold zipD; rw [List.length_zipWith, ← h3.length, ← h4.length]; exact w, hG, fun i H' M' x H'' hi s hO y => ?_⟩
  obtain ⟨T, a, b, rfl, hT, rfl, ha, hb⟩ := y
  obtain ⟨d, e1, e2⟩ := (h3.step s).get' ha
  obtain ⟨e, e3, e4⟩ := (h4.step s).get' hb
  refine ⟨ext_new hT, .tuple [d, e], ?_, new_tup hO (.cons e2 (.one e4)) (by show 2 ≤ sizeLine; decide) hT⟩
  unfold zipD
  rw [List.getElem?_zipWith, e1, e3]
theorem di_zip {p tpos : Pos} {elts : List Expr} {kk : Nat} (hK : G.K = X.K) (hg : Gl X "zip") (hm : X.mg "zip" = none) (ha : DE X G W a A) (hb : DE X G W b B) (hs : starEach [a, b] X.env = (false, eval a X.env) :: starEach [b] X.env := by rfl) (hs2 : starEach [b] X.env = (false, eval b X.env) :: starEach [] X.env := by rfl) (hpl : (backTo pos (starEach [b] X.env)).any (·.1) = false := by rfl) :
    DI X G W (.Tuple elts kk tpos) (.Call (.Name "zip" p) [a, b] [] pos) (iZip A B) := by
  refine ⟨pi_imp (RZ.pi_zipA hg hm (pa_cons ha.pe (pa_cons hb.pe pa_nil hs2) hs) hs hpl) fun σ H R ⟨en, M, Bx, rel, m⟩ => ?_⟩
  rw [← hK]
  refine ⟨en, M, Bx, rel, Post.imp (post_bind.mp m) (fun p mp v H1 M1 rel1 st1 rd1 => ⟨p.2, M1, Bx, rel1, Post.imp (post_bind.mp mp) (fun q mq w H2 M2 rel2 st2 rd2 => ?_) fun _ _ _ h => h.step st1⟩) fun _ _ _ h => h⟩
  obtain ⟨z, hz, mz⟩ := post_lift.mp mq
  have rd1' := rd1.step st2
  generalize p.1 = d at rd1' hz
  generalize q.1 = e at rd2 hz
  cases rd1' with
  | lst h1 h2 h3 => cases rd2 with
    | lst k1 k2 k3 =>
      cases hz
      exact ⟨_, _, _, _, rfl, .inl ⟨h1.sq, k1.sq, mz _ H2 M2 rel2 (st1.trans st2) (itOk_zip (walk_zip rfl) (fun H' M' s => ⟨(h1.mono s.akeep s.agrow).sq, (k1.mono s.akeep s.agrow).sq⟩) h3 k3)⟩⟩
    | _ => cases hz
  | tup h1 h2 h3 => cases rd2 with
    | tup k1 k2 k3 =>
      cases hz
      exact ⟨_, _, _, _, rfl, .inr ⟨h1.sq, k1.sq, mz _ H2 M2 rel2 (st1.trans st2) (itOk_zip (walk_zipT rfl) (fun H' M' s => ⟨(h1.mono s.akeep s.agrow).sq, (k1.mono s.akeep s.agrow).sq⟩) h3 k3)⟩⟩
    | _ => cases hz
  | _ => cases rd2 <;> cases hz
/-! ### tuple(range(n)), list(range(n)) -/
def rgFit (n : Int) : Bool := decide (n ≤ 16777216) && decide (0 ≤ n)
theorem rgFit_ok {n : Int} (h : rgFit n = true) : RgOk 0 n := by
  unfold rgFit at h
  rw [Bool.and_eq_true] at h
  exact .of_le (by omega) (of_decide_eq_true h.1) (by omega) (of_decide_eq_true h.2)
def eTupRg (a : DEn) : DEn := fun en => a en >>= fun p => liftO (asI p.1) >>= fun n => if rgFit n = true then .ok (.tuple (rgD 0 n.toNat), p.2) else .bad
def nLstRg (a : DEn) : DNl := fun en => a en >>= fun p => liftO (asI p.1) >>= fun n => if rgFit n = true then .ok (rgD 0 n.toNat, p.2) else .bad
theorem rds_ints {K : Fg} {H : Hp} {O : AS} : ∀ ns : List Int, RDs K H O (ns.map V.int) (ns.map PyData.int)
  | [] => .nil
  | n :: ns => .cons (.int n) (rds_ints ns)
theorem rgV_rd {K : Fg} {H : Hp} {O : AS} {n : Int} : RDs K H O (rgV 0 n) (rgD 0 n.toNat) := by
  have e1 : rgV 0 n = ((List.range n.toNat).map fun i => (0 : Int) + (i : Nat)).map V.int := by
    unfold rgV
    rw [List.map_map, Int.sub_zero]
    rfl
  have e2 : rgD 0 n.toNat = ((List.range n.toNat).map fun i => (0 : Int) + (i : Nat)).map PyData.int := by
    unfold rgD
    rw [List.map_map]
    rfl
  rw [e1, e2]
  exact rds_ints _
theorem rgV_len {n : Int} (h : rgFit n = true) : (rgV 0 n).length ≤ sizeLine := by
  rw [rgV_length]
  exact (rgFit_ok h).2.2.2.2
theorem de_tupRg {p p2 pos2 : Pos} (hc : X.calm = true) (hg : Gl X "tuple") (hm : X.mg "tuple" = none) (hg2 : Gl X "range") (hm2 : X.mg "range" = none) (ha : DE X G W a A) (n1 : starEach [a] X.env = (false, eval a X.env) :: starEach [] X.env := by rfl)
    (n2 : starEach [.Call (.Name "range" p2) [a] [] pos2] X.env = (false, eval (.Call (.Name "range" p2) [a] [] pos2) X.env) :: starEach [] X.env := by rfl) : DE X G W (.Call (.Name "tuple" p) [.Call (.Name "range" p2) [a] [] pos2] [] pos) (eTupRg A) :=
  ⟨pe_imp (pe_tupRg hc hg hm (prg_1 hg2 hm2 ha.pe n1) n2) fun σ H Q ⟨en, M, Bx, rel, m⟩ => ⟨en, M, Bx, rel, Post.imp (post_bind.mp m) (fun q mq v H1 M1 rel1 st1 rd1 => by
    obtain ⟨n, hn, mz⟩ := post_lift.mp mq
    split at mz
    · rename_i hf
      refine ⟨n, by rw [asI_rd rd1 hn], rgFit_ok hf, fun x hx => ?_⟩
      exact mz (.ref x) _ M1 (rel1.ext (ext_new hx)) (st1.trans (.ext (ext_new hx))) (new_tup rel1.avh rgV_rd (rgV_len hf) hx)
    · exact mz.elim) fun _ _ _ h => h⟩⟩
theorem dn_listRg {p p2 pos2 : Pos} (hc : X.calm = true) (hg : Gl X "list") (hm : X.mg "list" = none) (hg2 : Gl X "range") (hm2 : X.mg "range" = none) (ha : DE X G W a A) (n1 : starEach [a] X.env = (false, eval a X.env) :: starEach [] X.env := by rfl)
    (n2 : starEach [.Call (.Name "range" p2) [a] [] pos2] X.env = (false, eval (.Call (.Name "range" p2) [a] [] pos2) X.env) :: starEach [] X.env := by rfl) : DN X G W (.Call (.Name "list" p) [.Call (.Name "range" p2) [a] [] pos2] [] pos) (nLstRg A) :=
  ⟨pe_imp (pe_listRg hc hg hm (prg_1 hg2 hm2 ha.pe n1) n2) fun σ H Q ⟨en, M, Bx, rel, m⟩ => ⟨en, M, Bx, rel, Post.imp (post_bind.mp m) (fun q mq v H1 M1 rel1 st1 rd1 => by
    obtain ⟨n, hn, mz⟩ := post_lift.mp mq
    split at mz
    · rename_i hf
      refine ⟨n, by rw [asI_rd rd1 hn], rgFit_ok hf, fun x hx => ?_⟩
      obtain ⟨r3, s3, o⟩ := own_new rel1 hx (rgV_len hf) rgV_rd
      exact mz x _ _ _ r3 (st1.trans s3) o
    · exact mz.elim) fun _ _ _ h => h⟩⟩
end
end DL

namespace DL
open PySem L2 PySem.Spec PyProof.Rows
/-! ### xs[::s], s worked out to -1: the items backwards -/
section
variable {X : Cx} {G : Gh} {W : WX} {pos p3 : Pos} {a b : Expr} {A : DEn} {S : DPo}
def tBack (K : Fg) (ta : TE) (ts : TO) : TE := fun σ H Q => ta σ H fun x H1 => ts σ H1 fun o H2 => o = some (-1) ∧ ∃ l xs, x = .ref l ∧ SqL K H2 l xs ∧ ∀ p, H2 p = none → Q (.ref p) (upd H2 p (.lst xs.reverse))
theorem pe_back {ta : TE} {ts : TO} (ha : PE X a ta) (hs : PO X (some b) ts)
    : PE X (.Subscript a (.Slice none none (some b) p3) pos) (tBack X.K ta ts) := by
  constructor
  intro pins s σ H Q I m
  apply Subscript_
  refine thn (ha.run pins s σ H _ I m) fun v s1 ⟨x, H1, I1, rx, m1⟩ => ?_
  apply wpAny_Slice
  refine thn (po_none.run pins s1 σ H1 (fun o H' => o = none ∧ H' = H1) I1 ⟨rfl, rfl⟩) fun lo s2 ⟨_, _, I2, rlo, e1, e2⟩ => ?_
  cases e1
  cases e2
  refine thn (po_none.run pins s2 σ _ (fun o H' => o = none ∧ H' = H1) I2 ⟨rfl, rfl⟩) fun hi s3 ⟨_, _, I3, rhi, e1, e2⟩ => ?_
  cases e1
  cases e2
  refine thn (hs.run pins s3 σ _ _ I3 m1) fun st s4 ⟨_, H2, I4, rst, e1, l, xs, e2, sq, done⟩ => ?_
  cases e1
  cases e2
  cases rx
  have I5 : Inv X pins σ H2 { s4 with heap := s4.heap.push { cls := .type "slice", data := .fields #[lo, hi, st] } } := I4.kept (t' := s4.toks) fun _ _ z => Heap.get?_push_of_some _ z
  have new := Heap.IsSliceOf.new s4.heap lo hi st
  obtain ⟨its, rel, isl, small⟩ := I5.list sq
  have cnt := rel.length
  have few : its.toArray.size ≤ sizeLine := by rw [List.size_toArray, ← cnt]; exact small
  refine tail_any (ops := [.ref l, .ref s4.heap.objs.size]) isl.isList.typeIs PySem.slot_list_getitem.lookup ?_ (by with_unfolding_all rfl)
  apply wpAny_getItem_list_slice isl.isList new rlo rhi rst
  · decide
  · rw [PySem.W.krv_pick]
    have fit : xs.reverse.length ≤ sizeLine := by rw [List.length_reverse]; exact small
    exact ⟨.ref _, _, I5.laid (t' := s4.toks) (o := .lst xs.reverse) (fun _ _ z => Heap.get?_push_of_some _ z) (Nat.le_refl _) ⟨fit, _, 0, rel.reverse, Heap.get?_push_size _ rfl⟩, rfl, done _ (I5.hok.fresh (Nat.le_refl _))⟩
/-- the step must come to -1 -/
def nBack (a : DEn) (s : DPo) : DNl := fun en => a en >>= fun p => s p.2 >>= fun q => liftO (match p.1, q.1 with
  | .list xs, some (-1) => some xs.reverse
  | _, _ => none) >>= fun z => .ok (z, q.2)
theorem RDs.rev {K : Fg} {H : Hp} {O : AS} {vs : List V} {ds : List D} (h : RDs K H O vs ds) : RDs K H O vs.reverse ds.reverse := by
  match vs, ds, h with
  | [], [], .nil => exact .nil
  | v :: vs, d :: ds, .cons h r =>
    rw [List.reverse_cons, List.reverse_cons]
    exact (RDs.rev r).append (.one h)
theorem dn_back (hK : G.K = X.K) (ha : DE X G W a A) (hs : DO X G W (some b) S) : DN X G W (.Subscript a (.Slice none none (some b) p3) pos) (nBack A S) := by
  refine ⟨pe_imp (pe_back ha.pe hs.po) fun σ H Q ⟨en, M, Bx, rel, m⟩ => ?_⟩
  rw [← hK]
  refine ⟨en, M, Bx, rel, Post.imp (post_bind.mp m) (fun p mp v H1 M1 rel1 st1 rd1 => ⟨p.2, M1, Bx, rel1, Post.imp (post_bind.mp mp) (fun q mq H2 M2 rel2 st2 => ?_) fun _ _ _ h => h.step st1⟩) fun _ _ _ h => h⟩
  obtain ⟨z, hz, mz⟩ := post_lift.mp mq
  have rd2 := rd1.step st2
  generalize p.1 = d at rd2 hz
  split at hz
  · rename_i o xs e
    cases hz
    cases rd2 with
    | lst h1 h2 h3 =>
      refine ⟨e, _, _, rfl, h1.sq, fun x hx => ?_⟩
      obtain ⟨r3, s3, ow⟩ := own_new rel2 hx (by rw [List.length_reverse]; exact h2) h3.rev
      exact mz x _ _ _ r3 ((st1.trans st2).trans s3) ow
  · cases hz
end
end DL

namespace DL
open PySem PySem.W PySem.F
/-! ### KeyError as a base: its __new__ is LookupError's, its __init__ its own -/
abbrev keyMro : List Value := ["KeyError", "LookupError", "Exception", "BaseException", "object"].map Value.type
theorem keySup : KxsFacts "KeyError" "KeyError.__init__" := by
  constructor
  · show builtinType _ = _
    rw [builtinType_eq_fast]
    kernel_rfl
  · first
      | kernel_rfl
      | rfl
theorem keyInit : entryFor table "KeyError.__init__" = some Builtin.«BaseException.__init__» := by
  refine entryFor_alias (id' := "BaseException.__init__") ?_ ?_ ?_ ?_
  · rw [fastTable_eq_tree]; kernel_rfl
  · first | rfl | decide +kernel
  · decide +kernel
  · rw [fastTable_eq_tree]; kernel_rfl
end DL

namespace DL
open PySem L2 PySem.Spec PyProof.Rows
/-! ### set(xs), xs a list of whole numbers -/
/-- an empty set as set.__new__ leaves it -/
abbrev bare (w : World) : Obj := { cls := .type "set", dict := none, data := .set #[] 0 (.fresh 0 0 (!w.params.followText "set-order")) }
section
variable {P : Program} {w : World} {A : Around} {E : Value → Shared → Prop} {s : Shared}
/-- what filling the new set at S from the list at l comes to -/
theorem fill_list {l S : Addr} {vs : Array Value} {ns : List Int} {R : Result → Shared → Prop} (nh : A.handled = none) (isl : s.heap.IsList l vs) (nums : IntsAre vs.toList ns) (few : ns.length + 1 < scanBound) (hS : s.heap.get? S = some (bare w)) (ne : l ≠ S)
    (done : ∀ s' c, s'.gens = s.gens → s'.drawn = s.drawn → s'.os = s.os → (∀ b o, b ≠ S → s.heap.get? b = some o → s'.heap.get? b = some o) → c ≤ ns.length → SetR w s'.heap S (fun j => decide (j ∈ ns)) c → R (.ok (.ret .none)) s') :
    codeAny (model P w) A (.builtin "set.update.loop" ⟨[.ref S, .ref s.heap.objs.size], []⟩) R { s with heap := s.heap.push { cls := .type "list_iterator", data := .fields #[.ref l, .int 0 0] } } := by
  have size : vs.size = ns.length := by
    have q := nums.length
    simpa using q
  have lS : S < s.heap.objs.size := Heap.lt_size hS
  obtain ⟨o, ho, rest⟩ := id isl
  have ll : l < s.heap.objs.size := Heap.lt_size ho
  have item : ∀ (i : Nat) (v : Value), vs[i]? = some v → ∃ k t, ns[i]? = some k ∧ v = .int k t := fun i v h => by
    obtain ⟨hi, _⟩ := Array.getElem?_eq_some_iff.mp h
    rw [size] at hi
    obtain ⟨t, e⟩ := nums.int_at i v (by simpa using h)
    exact ⟨ns[i], t, List.getElem?_eq_getElem hi, by simpa [List.getD_eq_getElem?_getD, hi] using e⟩
  refine set_update_ints ((Walks.list (A := A.in1) (by simpa using nh) s.heap.objs.size l (Nat.ne_of_lt ll) vs).toS) S ?_ ns size few item vs.size 0 _ rfl (Nat.zero_le _) ?_ ⟨0, Nat.le_refl _, ?_⟩ ?_
  · simp [Nat.ne_of_lt lS, Ne.symm ne]
  · exact ⟨⟨_, Heap.get?_push_size _ rfl, rfl, rfl⟩, isl.push _⟩
  · exact setR_new_at (Heap.get?_push_of_some _ hS)
  · intro s2 c m hc hR
    rw [size] at hc
    refine done s2 c m.gens m.drawn m.os (fun b o hb e => m.heap b o ?_ (Heap.get?_push_of_some _ e)) hc hR
    have := Heap.lt_size e
    simp [hb, Nat.ne_of_lt this]
/-- set.__init__ with a list -/
theorem init_list {l S : Addr} {vs : Array Value} {ns : List Int} {Q : Fin → Shared → Prop} (nh : A.handled = none) (isl : s.heap.IsList l vs) (nums : IntsAre vs.toList ns) (few : ns.length + 1 < scanBound) (hS : s.heap.get? S = some (bare w)) (ne : l ≠ S)
    (done : ∀ s' c, s'.gens = s.gens → s'.drawn = s.drawn → s'.os = s.os → (∀ b o, b ≠ S → s.heap.get? b = some o → s'.heap.get? b = some o) → c ≤ ns.length → SetR w s'.heap S (fun j => decide (j ∈ ns)) c → Q (.done (.ret .none)) s') :
    wpAny (model P w) A (Builtin.«set.__init__» ⟨[.ref S, .ref l], []⟩) Q E s := by
  obtain ⟨⟨ocls, odict, odata, oslots⟩, ho, hcl, n, hd⟩ := id isl
  cases hcl
  cases hd
  have a1 := F.sub_list_set
  have a2 := F.sub_list_frozenset
  unfold Builtin.«set.__init__» noKeywords Builtin.Frozenset.updateFrom
  generalize hPI : pyIter = PI
  wp_walk
  subst hPI
  refine wpAny_pyIter_list isl (wpAny_bind (wpAny_runValue ?_))
  refine fill_list (by simpa using nh) isl nums few hS ne fun s2 c g d o k hc hR => ?_
  exact wpAny_pure (wpAny_pure (done s2 c g d o k hc hR))
/-- set(xs) -/
theorem set_list {l : Addr} {vs : Array Value} {ns : List Int} {Q : Value → Shared → Prop} (nh : A.handled = none) (isl : s.heap.IsList l vs) (nums : IntsAre vs.toList ns) (few : ns.length + 1 < scanBound)
    (done : ∀ h' tk c, (∀ b o, s.heap.get? b = some o → h'.get? b = some o) → c ≤ ns.length → SetR w h' s.heap.objs.size (fun j => decide (j ∈ ns)) c → Q (.ref s.heap.objs.size) { s with heap := h', toks := tk }) :
    wpAny (model P w) A (call (.type "set") [.ref l]) Q E s := by
  have b1 := F.called_set.notType
  have b2 := F.called_set.canCreate
  have b3 := F.typeCall_set_1 (.ref l)
  have b4 := F.called_set.made
  have b5 := F.called_set.sub
  obtain ⟨c, tl, b6⟩ := F.called_set.mro
  apply wpAny_call
  apply codeAny_of_tree
  show wpAny _ _ (callAny (.type "set") _) _ _ _
  apply wpAny_pure
  refine ⟨Code.quiet_builtin _ (by decide +kernel), codeAny_builtin F.entry_type_call ?_⟩
  rw [Around.under_plain (weight_type_call_type "set" [.ref l] []) rfl]
  repeat (any_goals (first | assumption | wp_step))
  have born := code_set_led1 (P := P) (w := w) (A := A.in1) (s := s) (E := fun _ _ => False) (.ref l) (Q₁ := fun v s1 => v = .ref s.heap.objs.size ∧ s1 = { s with heap := s.heap.push (bare w) }) ⟨rfl, rfl⟩
  refine codeAny_mono born fun r s1 hr => ?_
  match r, hr with
  | .error _, z => exact z.elim
  | .ok .next, z => exact z.elim
  | .ok .brk, z => exact z.elim
  | .ok .cont, z => exact z.elim
  | .ok (.ret v), ⟨e1, e2⟩ =>
    subst e1 e2
    have at_ : (s.heap.push (bare w)).get? s.heap.objs.size = some (bare w) := Heap.get?_push_size _ rfl
    have ty : Shared.TypeIs { s with heap := s.heap.push (bare w) } (.ref s.heap.objs.size) "set" := ⟨_, at_, rfl⟩
    have i1 := F.called_set.init.lookup
    have i2 := F.called_set.init.bind (.ref s.heap.objs.size)
    repeat (any_goals (first | assumption | wp_step))
    refine codeAny_mono (codeAny_call_builtin (R := wants (fun v s2 => v = .none ∧ ∃ h' tk c, s2 = { s with heap := h', toks := tk } ∧ (∀ b o, s.heap.get? b = some o → h'.get? b = some o) ∧ c ≤ ns.length ∧ SetR w h' s.heap.objs.size (fun j => decide (j ∈ ns)) c) fun _ _ => False)
      F.called_set.init.plain F.entry_set_init (check_set_init_1 ty ?_)) fun r2 s2 hr2 => ?_
    · have ll : l < s.heap.objs.size := by obtain ⟨o, ho, _⟩ := id isl; exact Heap.lt_size ho
      refine init_list (s := { s with heap := s.heap.push (bare w) }) (by simpa using nh) (isl.push _) nums few at_ (Nat.ne_of_lt ll) fun s3 c g d o k hc hR => ?_
      obtain ⟨h3, g3, d3, t3, o3⟩ := s3
      cases g
      cases d
      cases o
      exact ⟨rfl, h3, t3, c, rfl, fun b u e => k b u (Nat.ne_of_lt (Heap.lt_size e)) (Heap.get?_push_of_some _ e), hc, hR⟩
    · match r2, hr2 with
      | .error _, z => exact z.elim
      | .ok .next, z => exact z.elim
      | .ok .brk, z => exact z.elim
      | .ok .cont, z => exact z.elim
      | .ok (.ret v), ⟨e1, h3, t3, c, e2, k, hc, hR⟩ =>
        subst e1 e2
        repeat (any_goals (first | assumption | wp_step))
        exact done h3 t3 c k hc hR
end
end DL

namespace DL
open PySem L2 PySem.Spec PyProof.Rows
section
variable {X : Cx}
/-- set(xs) of a list or a tuple of whole numbers -/
def rSetI (K : Fg) (w : World) : List V → Hp → VK → Prop := fun xs H Q => ∃ (l : Addr) (ns : List Int), xs = [V.ref l] ∧ (SqL K H l (ns.map V.int) ∨ SqT K H l (ns.map V.int)) ∧ ns.length < 4000 ∧
  ∀ a c, H a = none → (∀ ms : List Int, ms.Nodup → (∀ j, j ∈ ms ↔ j ∈ ns) → c = ms.length) → Q (.ref a) (upd H a (SetO w a (fun j => decide (j ∈ ns)) c))
theorem cr_setI (hc : X.calm = true) : CallR X (.type "set") (rSetI X.K X.w) := by
  intro pins s σ H xs us Q I r h
  obtain ⟨l, ns, rfl, hs, few, q⟩ := h
  rw [Vals.ref1 r]
  have bound : ns.length + 1 < scanBound := by unfold scanBound; omega
  have fin : ∀ (h' : Heap) (tk c : Nat), (∀ b o, s.heap.get? b = some o → h'.get? b = some o) → c ≤ ns.length → SetR X.w h' s.heap.objs.size (fun j => decide (j ∈ ns)) c → EP X pins σ Q (.ref s.heap.objs.size) { s with heap := h', toks := tk } := fun h' tk c k hle R => by
    refine ⟨.ref _, _, I.laid (t' := tk) (o := SetO X.w s.heap.objs.size (fun j => decide (j ∈ ns)) c) k (Nat.le_refl _) (setO_new R), rfl, q _ c (I.hok.fresh (Nat.le_refl _)) fun ms nd mem => ?_⟩
    obtain ⟨_, es, _, _, _, _, _, _, nd2, key, _, _, rfl, _⟩ := R
    have pm := (List.perm_ext_iff_of_nodup nd2 nd).mpr fun j => by rw [← key, mem]; simp
    have := pm.length_eq
    simpa using this
  rcases hs with hs | hs
  · obtain ⟨its, rv, isl, _⟩ := I.list hs
    exact set_list (I.ok.hd hc) isl.isList (by simpa using RZ.intsAre_vals rv) bound fin
  · obtain ⟨its, rv, ist, _⟩ := I.tuple hs
    exact call_set_tupI ns (I.ok.hd hc) ist (by simpa using RZ.intsAre_vals rv) bound fun h' tk c R hle k => fin h' tk c k hle R
end
end DL

namespace DL
open PySem L2 PySem.Spec PyProof.Rows
/-! ### sorted(set(xs)) of whole numbers -/
def insI (k : Int) : List Int → List Int
  | [] => [k]
  | a :: l => if k < a then k :: a :: l else if k = a then a :: l else a :: insI k l
def srtSet (ns : List Int) : List Int := ns.foldr insI []
theorem insI_mem {k j : Int} : ∀ {l : List Int}, j ∈ insI k l ↔ j = k ∨ j ∈ l
  | [] => by simp [insI]
  | a :: l => by
    unfold insI
    have ih := insI_mem (k := k) (j := j) (l := l)
    split
    · simp
    · split
      · rename_i e; subst e; simp
      · simp only [List.mem_cons, ih]; exact or_left_comm
theorem insI_sorted {k : Int} : ∀ {l : List Int}, l.Pairwise (· < ·) → (insI k l).Pairwise (· < ·)
  | [], _ => by simp [insI]
  | a :: l, h => by
    unfold insI
    have h1 := List.pairwise_cons.mp h
    split
    · rename_i c
      exact List.pairwise_cons.mpr ⟨fun b hb => (List.mem_cons.mp hb).elim (fun e => by rw [e]; exact c) fun z => Int.lt_trans c (h1.1 b z), h⟩
    · split
      · exact h
      · rename_i c1 c2
        refine List.pairwise_cons.mpr ⟨fun b hb => ?_, insI_sorted h1.2⟩
        rcases insI_mem.mp hb with e | e
        · rw [e]; omega
        · exact h1.1 b e
theorem srtSet_sorted : ∀ ns : List Int, (srtSet ns).Pairwise (· < ·)
  | [] => .nil
  | n :: ns => insI_sorted (srtSet_sorted ns)
theorem srtSet_mem {j : Int} : ∀ {ns : List Int}, j ∈ srtSet ns ↔ j ∈ ns
  | [] => Iff.rfl
  | n :: ns => by
    rw [show srtSet (n :: ns) = insI n (srtSet ns) from rfl, insI_mem, srtSet_mem, List.mem_cons]
theorem sorted_unique : ∀ {l m : List Int}, l.Pairwise (· < ·) → m.Pairwise (· < ·) → (∀ j, j ∈ l ↔ j ∈ m) → l = m
  | [], [], _, _, _ => rfl
  | [], b :: m, _, _, h => absurd ((h b).mpr List.mem_cons_self) (by simp)
  | a :: l, [], _, _, h => absurd ((h a).mp List.mem_cons_self) (by simp)
  | a :: l, b :: m, hl, hm, h => by
    have l1 := List.pairwise_cons.mp hl
    have m1 := List.pairwise_cons.mp hm
    have e : a = b := by
      rcases List.mem_cons.mp ((h a).mp List.mem_cons_self) with z | z
      · exact z
      · rcases List.mem_cons.mp ((h b).mpr List.mem_cons_self) with y | y
        · exact y.symm
        · have := m1.1 a z; have := l1.1 b y; omega
    subst e
    rw [sorted_unique l1.2 m1.2 fun j => ⟨fun z => ?_, fun z => ?_⟩]
    · rcases List.mem_cons.mp ((h j).mp (List.mem_cons_of_mem _ z)) with y | y
      · have := l1.1 j z; omega
      · exact y
    · rcases List.mem_cons.mp ((h j).mpr (List.mem_cons_of_mem _ z)) with y | y
      · have := m1.1 j z; omega
      · exact y
def dSrtSet (d : D) : Option (List D) := (asSeq d).bind fun ds => (allO asI ds).bind fun ns => if ns.length < 4000 ∧ (srtSet ns).length < 64 then some ((srtSet ns).map .int) else none
def nSrtSet (a : DEn) : DNl := fun en => a en >>= fun p => liftO (dSrtSet p.1) >>= fun z => .ok (z, p.2)
theorem ints_all {K : Fg} {H : Hp} {O : AS} : ∀ {vs : List V} {ds : List D} {ns : List Int}, RDs K H O vs ds → allO asI ds = some ns → vs = ns.map V.int
  | _, _, _, .nil, e => by cases e; rfl
  | _, _, _, .cons (ds := ds) (d := d) h r, e => by
    have e : ((asI d).bind fun a => (allO asI ds).map fun r => a :: r) = some _ := e
    cases e1 : asI d with
    | none => rw [e1] at e; cases e
    | some i =>
      rw [e1] at e
      cases e2 : allO asI ds with
      | none => rw [e2] at e; cases e
      | some l =>
        rw [e2] at e
        cases e
        rw [asI_rd h e1, ints_all r e2]
        rfl
section
variable {X : Cx} {G : Gh} {W : WX} {pos p p2 pos2 : Pos} {a : Expr} {A : DEn}
theorem dn_srtSet (hK : G.K = X.K) (hc : X.calm = true) (hg : Gl X "sorted") (hm : X.mg "sorted" = none) (hg2 : Gl X "set") (hm2 : X.mg "set" = none) (ha : DE X G W a A) (n1 : starEach [a] X.env = (false, eval a X.env) :: starEach [] X.env := by rfl)
    (n2 : starEach [.Call (.Name "set" p2) [a] [] pos2] X.env = (false, eval (.Call (.Name "set" p2) [a] [] pos2) X.env) :: starEach [] X.env := by rfl) (h1 : (backTo pos2 (starEach [] X.env)).any (·.1) = false := by rfl) (h2 : (backTo pos (starEach [] X.env)).any (·.1) = false := by rfl) :
    DN X G W (.Call (.Name "sorted" p) [.Call (.Name "set" p2) [a] [] pos2] [] pos) (nSrtSet A) := by
  refine ⟨pe_imp (pe_callB (cr_sortedSet hc) hg hm (by decide +kernel) (pa_cons (pe_callTy (cr_setI hc) hg2 hm2 (by decide +kernel) (pa_cons ha.pe pa_nil n1) (by decide) (by decide) n1 h1) pa_nil n2) (by decide) (by decide) n2 h2) fun σ H Q ⟨en, M, Bx, rel, m⟩ => ⟨en, M, Bx, rel, Post.imp (post_bind.mp m) (fun q mq v H1 M1 rel1 st1 rd1 => ?_) fun _ _ _ h => h⟩⟩
  obtain ⟨z, hz, mz⟩ := post_lift.mp mq
  obtain ⟨ds, e1, hz⟩ := Option.bind_eq_some_iff.mp hz
  obtain ⟨ns, e2, hz⟩ := Option.bind_eq_some_iff.mp hz
  split at hz
  · rename_i few
    cases hz
    have go : ∀ l : Addr, v = .ref l → (SqL G.K H1 l (ns.map V.int) ∨ SqT G.K H1 l (ns.map V.int)) → rSetI X.K X.w [v] H1 fun y H2 => rSortedSet X.w [y] H2 Q := fun l ev hs => by
      subst ev
      rw [hK] at hs
      refine ⟨l, ns, rfl, hs, few.1, fun b c hb cnt => ⟨b, _, c, rfl, upd_same, by rw [cnt (srtSet ns) ((srtSet_sorted ns).imp fun h => Int.ne_of_lt h) fun j => srtSet_mem]; exact few.2, fun ms x hp hm hn hx => ?_⟩⟩
      have e : ms = srtSet ns := sorted_unique hp (srtSet_sorted ns) fun j => by rw [hm, srtSet_mem]; simp
      subst e
      have ex := ext_new (o := SetO X.w b (fun j => decide (j ∈ ns)) c) hb
      have r2 := rel1.ext ex
      obtain ⟨r3, s3, o⟩ := own_new r2 hx (by rw [List.length_map]; exact Nat.le_trans (Nat.le_of_lt few.2) (by decide)) (rds_ints (srtSet ns))
      exact mz x _ _ _ r3 ((st1.trans (.ext ex)).trans s3) o
    generalize q.1 = d at rd1 e1
    cases rd1 with
    | lst k1 k2 k3 => cases e1; exact go _ rfl (.inl (ints_all k3 e2 ▸ k1.sq))
    | tup k1 k2 k3 => cases e1; exact go _ rfl (.inr (ints_all k3 e2 ▸ k1.sq))
    | _ => cases e1
  · cases hz
end
end DL

namespace DL
open PySem L2 PySem.Spec PyProof.Rows
/-- what a body knows of its place -/
structure Cn (m : Bool) (X : Cx) (G : Gh) (W : WX) (k : Nat) : Prop where
  K : G.K = X.K
  rm : Room k X.A
  gu : X.A.guards = some []
  tk : L2N.Takes X W
  tm : m = true → L2.Takes X W
  calm : X.calm = true
  nd : X.N.Nodup
theorem Cn.u {X : Cx} {G : Gh} {W : WX} {m : Bool} {k : Nat} (c : Cn m X G W k) : X.A.units + 64 < cLine := c.rm.units
theorem Cn.wo {X : Cx} {G : Gh} {W : WX} {m : Bool} {k : Nat} (c : Cn m X G W k) (O : AS) : Cn m X (G.with O) W k := ⟨c.K, c.rm, c.gu, c.tk, c.tm, c.calm, c.nd⟩
theorem Cn.blk {X : Cx} {G : Gh} {W : WX} {m : Bool} {k : Nat} (c : Cn m X G W k) (O : AS) (s : Shared) (H : Hp) (scope : Scope) (env : Env) (fp : List Addr) : Cn m (X.blk s H scope env fp) (G.with O) W0 k := ⟨c.K, c.rm, c.gu, tkN takes0, fun _ => takes0, c.calm, c.nd⟩
/-- a def that may be called -/
structure CalleeC (cx : CXT) (P : Program) (w : World) (K : Fg) (mg : Str → Option Value) (base : Heap) (k : Nat) (x : Str) (ps : List Str) (sp : Sp) : Prop where
  ex : ∃ (f : Addr) (fd : FuncData), mg x = some (.ref f) ∧ PySem.W.keepIn K (.ref f) = true ∧ Binds K fd ps [] ∧ FnC cx P w K mg base k f fd ps sp
abbrev Callee (P : Program) (w : World) := CalleeC (L2N.CX P w) P w
abbrev CalleeM (P : Program) (w : World) := CalleeC (L2.CX P w) P w
theorem _root_.L2.Fun.bindsK {K : Fg} {x qual : Str} {st : Stmt} {f : Addr} {fd : FuncData} {ps ks : List Str} {js : List Nat} (F : Fun K x qual st f fd)
    (h : ∀ (kV doc pm : Value) (an : Option Addr) (cdv ct : Value) (ws : List Value), ws.length = ks.length → bindArgs (PySem.W.fnOf x qual (defArgs st) (defBody st) (defScope st) .none kV doc pm an cdv ct) ⟨[], ks.zip ws⟩ = pure (ps.zip (put Value.none js ws))) : BindsK fd ps ks js := by
  obtain ⟨oc, od, kV, doc, pm, an, cdv, ct, osl, e, lk, hcd⟩ := F.ex
  subst e
  exact fun ws hl => h kV doc pm an cdv ct ws hl
structure CalleeKC (cx : CXT) (P : Program) (w : World) (K : Fg) (mg : Str → Option Value) (base : Heap) (k : Nat) (x : Str) (ps ks : List Str) (js : List Nat) (sp : Sp) : Prop where
  ex : ∃ (f : Addr) (fd : FuncData), mg x = some (.ref f) ∧ PySem.W.keepIn K (.ref f) = true ∧ BindsK fd ps ks js ∧ FnC cx P w K mg base k f fd ps sp
abbrev CalleeK (P : Program) (w : World) := CalleeKC (L2N.CX P w) P w
abbrev CalleeKM (P : Program) (w : World) := CalleeKC (L2.CX P w) P w
section
variable {m : Bool} {X : Cx} {G : Gh} {W : WX} {k : Nat} {pos : Pos} {a b e : Expr} {es : List Expr} {A B : DEn} {As : DAs} {N : DNl}
theorem v_add (c : Cn m X G W k) (ha : DE X G W a A) (hb : DE X G W b B) : DE X G W (.BinOp a .Add b pos) (eBin dAdd A B) := de_op (r := rAddA G.K) (by rw [c.K]; exact op_addA) ops_add ha hb
theorem v_sub (c : Cn m X G W k) (ha : DE X G W a A) (hb : DE X G W b B) : DE X G W (.BinOp a .Sub b pos) (eBin dSub A B) := de_op op_subA ops_sub ha hb
theorem v_mul (c : Cn m X G W k) (ha : DE X G W a A) (hb : DE X G W b B) : DE X G W (.BinOp a .Mult b pos) (eBin dMul A B) := de_op (r := rMulA G.K) (by rw [c.K]; exact op_mulA) ops_mul ha hb
theorem v_mod (c : Cn m X G W k) (ha : DE X G W a A) (hb : DE X G W b B) : DE X G W (.BinOp a .Mod b pos) (eBin dMod A B) := de_op op_mod ops_mod ha hb
theorem v_div (c : Cn m X G W k) (ha : DE X G W a A) (hb : DE X G W b B) : DE X G W (.BinOp a .FloorDiv b pos) (eBin dDiv A B) := de_op op_fdivW ops_div ha hb
theorem v_pow (c : Cn m X G W k) (ha : DE X G W a A) (hb : DE X G W b B) : DE X G W (.BinOp a .Pow b pos) (eBin dPow A B) := de_op op_pow ops_pow ha hb
theorem v_eq (c : Cn m X G W k) (ha : DE X G W a A) (hb : DE X G W b B) (hm : behindInMarks .Eq b = false := by rfl) : DE X G W (.Compare a [.Eq] [b] pos) (eBin dEq A B) := de_cmp (r := rEqA G.K) (by rw [c.K]; exact op_eqA c.u) ops_eq ha hb hm
theorem w_eq (c : Cn m X G W k) (ha : DE X G W a A) (hb : DE X G W b B) (hm : behindInMarks .Eq b = false := by rfl) : DT X G W (.Compare a [.Eq] [b] pos) (tV (eBin dEq A B)) := dt_cmp (r := rEqA G.K) (by rw [c.K]; exact op_eqA c.u) ops_eq ha hb hm
theorem v_ne (c : Cn m X G W k) (ha : DE X G W a A) (hb : DE X G W b B) (hm : behindInMarks .NotEq b = false := by rfl) : DE X G W (.Compare a [.NotEq] [b] pos) (eBin dNe A B) := de_cmp (r := rNeA G.K) (by rw [c.K]; exact op_neA c.u) ops_ne ha hb hm
theorem w_ne (c : Cn m X G W k) (ha : DE X G W a A) (hb : DE X G W b B) (hm : behindInMarks .NotEq b = false := by rfl) : DT X G W (.Compare a [.NotEq] [b] pos) (tV (eBin dNe A B)) := dt_cmp (r := rNeA G.K) (by rw [c.K]; exact op_neA c.u) ops_ne ha hb hm
theorem v_lt (c : Cn m X G W k) (ha : DE X G W a A) (hb : DE X G W b B) (hm : behindInMarks .Lt b = false := by rfl) : DE X G W (.Compare a [.Lt] [b] pos) (eBin dLt A B) := de_cmp (r := rOrd G.K fun d e => PySem.W.dataLt d e) (by rw [c.K]; exact op_ltO c.u) ops_lt ha hb hm
theorem w_lt (c : Cn m X G W k) (ha : DE X G W a A) (hb : DE X G W b B) (hm : behindInMarks .Lt b = false := by rfl) : DT X G W (.Compare a [.Lt] [b] pos) (tV (eBin dLt A B)) := dt_cmp (r := rOrd G.K fun d e => PySem.W.dataLt d e) (by rw [c.K]; exact op_ltO c.u) ops_lt ha hb hm
theorem v_gt (c : Cn m X G W k) (ha : DE X G W a A) (hb : DE X G W b B) (hm : behindInMarks .Gt b = false := by rfl) : DE X G W (.Compare a [.Gt] [b] pos) (eBin dGt A B) := de_cmp (r := rOrd G.K fun d e => PySem.W.dataLt e d) (by rw [c.K]; exact op_gtO c.u) ops_gt ha hb hm
theorem w_gt (c : Cn m X G W k) (ha : DE X G W a A) (hb : DE X G W b B) (hm : behindInMarks .Gt b = false := by rfl) : DT X G W (.Compare a [.Gt] [b] pos) (tV (eBin dGt A B)) := dt_cmp (r := rOrd G.K fun d e => PySem.W.dataLt e d) (by rw [c.K]; exact op_gtO c.u) ops_gt ha hb hm
theorem v_le (c : Cn m X G W k) (ha : DE X G W a A) (hb : DE X G W b B) (hm : behindInMarks .LtE b = false := by rfl) : DE X G W (.Compare a [.LtE] [b] pos) (eBin dLe A B) := de_cmp (r := rOrd G.K fun d e => !PySem.W.dataLt e d) (by rw [c.K]; exact op_leO c.u) ops_le ha hb hm
theorem w_le (c : Cn m X G W k) (ha : DE X G W a A) (hb : DE X G W b B) (hm : behindInMarks .LtE b = false := by rfl) : DT X G W (.Compare a [.LtE] [b] pos) (tV (eBin dLe A B)) := dt_cmp (r := rOrd G.K fun d e => !PySem.W.dataLt e d) (by rw [c.K]; exact op_leO c.u) ops_le ha hb hm
theorem v_ge (c : Cn m X G W k) (ha : DE X G W a A) (hb : DE X G W b B) (hm : behindInMarks .GtE b = false := by rfl) : DE X G W (.Compare a [.GtE] [b] pos) (eBin dGe A B) := de_cmp (r := rOrd G.K fun d e => !PySem.W.dataLt d e) (by rw [c.K]; exact op_geO c.u) ops_ge ha hb hm
theorem w_ge (c : Cn m X G W k) (ha : DE X G W a A) (hb : DE X G W b B) (hm : behindInMarks .GtE b = false := by rfl) : DT X G W (.Compare a [.GtE] [b] pos) (tV (eBin dGe A B)) := dt_cmp (r := rOrd G.K fun d e => !PySem.W.dataLt d e) (by rw [c.K]; exact op_geO c.u) ops_ge ha hb hm
theorem v_isn (c : Cn m X G W k) (ha : DE X G W a A) (hb : DE X G W b B) (hm : behindInMarks .Is b = false := by rfl) : DE X G W (.Compare a [.Is] [b] pos) (eBin dIsN A B) := de_cmp op_isN ops_isN ha hb hm
theorem w_isn (c : Cn m X G W k) (ha : DE X G W a A) (hb : DE X G W b B) (hm : behindInMarks .Is b = false := by rfl) : DT X G W (.Compare a [.Is] [b] pos) (tV (eBin dIsN A B)) := dt_cmp op_isN ops_isN ha hb hm
theorem v_isnot (c : Cn m X G W k) (ha : DE X G W a A) (hb : DE X G W b B) (hm : behindInMarks .IsNot b = false := by rfl) : DE X G W (.Compare a [.IsNot] [b] pos) (eBin dNotN A B) := de_cmp op_notN ops_notN ha hb hm
theorem w_isnot (c : Cn m X G W k) (ha : DE X G W a A) (hb : DE X G W b B) (hm : behindInMarks .IsNot b = false := by rfl) : DT X G W (.Compare a [.IsNot] [b] pos) (tV (eBin dNotN A B)) := dt_cmp op_notN ops_notN ha hb hm
theorem v_in (c : Cn m X G W k) (ha : DE X G W a A) (hb : DE X G W b B) (hm : behindInMarks .In b = false := by rfl) : DE X G W (.Compare a [.In] [b] pos) (eBin dIn A B) := de_cmp (r := rInA G.K false) (by rw [c.K]; exact op_inA c.u) (ops_in false) ha hb hm
theorem w_in (c : Cn m X G W k) (ha : DE X G W a A) (hb : DE X G W b B) (hm : behindInMarks .In b = false := by rfl) : DT X G W (.Compare a [.In] [b] pos) (tV (eBin dIn A B)) := dt_cmp (r := rInA G.K false) (by rw [c.K]; exact op_inA c.u) (ops_in false) ha hb hm
theorem v_notin (c : Cn m X G W k) (ha : DE X G W a A) (hb : DE X G W b B) (hm : behindInMarks .NotIn b = false := by rfl) : DE X G W (.Compare a [.NotIn] [b] pos) (eBin dNotIn A B) := de_cmp (r := rInA G.K true) (by rw [c.K]; exact op_ninA c.u) (ops_in true) ha hb hm
theorem w_notin (c : Cn m X G W k) (ha : DE X G W a A) (hb : DE X G W b B) (hm : behindInMarks .NotIn b = false := by rfl) : DT X G W (.Compare a [.NotIn] [b] pos) (tV (eBin dNotIn A B)) := dt_cmp (r := rInA G.K true) (by rw [c.K]; exact op_ninA c.u) (ops_in true) ha hb hm
theorem v_ltlt (c : Cn m X G W k) {e : Expr} {C : DEn} (ha : DE X G W a A) (hb : DE X G W b B) (hc : DE X G W e C) (hm : lastMarks [.Lt, .Lt] [b, e] = false := by with_unfolding_all rfl) : DE X G W (.Compare a [.Lt, .Lt] [b, e] pos) (eChain dLt dLt A B C) := de_chain (r := rOrd G.K fun d e => PySem.W.dataLt d e) (r' := rOrd G.K fun d e => PySem.W.dataLt d e) (by rw [c.K]; exact op_ltO c.u) (by rw [c.K]; exact op_ltO c.u) ops_lt ops_lt ha hb hc hm
theorem w_ltlt (c : Cn m X G W k) {e : Expr} {C : DEn} (ha : DE X G W a A) (hb : DE X G W b B) (hc : DE X G W e C) (hm : lastMarks [.Lt, .Lt] [b, e] = false := by with_unfolding_all rfl) : DT X G W (.Compare a [.Lt, .Lt] [b, e] pos) (tV (eChain dLt dLt A B C)) := dt_chain (r := rOrd G.K fun d e => PySem.W.dataLt d e) (r' := rOrd G.K fun d e => PySem.W.dataLt d e) (by rw [c.K]; exact op_ltO c.u) (by rw [c.K]; exact op_ltO c.u) ops_lt ops_lt ha hb hc hm
theorem v_ltgt (c : Cn m X G W k) {e : Expr} {C : DEn} (ha : DE X G W a A) (hb : DE X G W b B) (hc : DE X G W e C) (hm : lastMarks [.Lt, .Gt] [b, e] = false := by with_unfolding_all rfl) : DE X G W (.Compare a [.Lt, .Gt] [b, e] pos) (eChain dLt dGt A B C) := de_chain (r := rOrd G.K fun d e => PySem.W.dataLt d e) (r' := rOrd G.K fun d e => PySem.W.dataLt e d) (by rw [c.K]; exact op_ltO c.u) (by rw [c.K]; exact op_gtO c.u) ops_lt ops_gt ha hb hc hm
theorem w_ltgt (c : Cn m X G W k) {e : Expr} {C : DEn} (ha : DE X G W a A) (hb : DE X G W b B) (hc : DE X G W e C) (hm : lastMarks [.Lt, .Gt] [b, e] = false := by with_unfolding_all rfl) : DT X G W (.Compare a [.Lt, .Gt] [b, e] pos) (tV (eChain dLt dGt A B C)) := dt_chain (r := rOrd G.K fun d e => PySem.W.dataLt d e) (r' := rOrd G.K fun d e => PySem.W.dataLt e d) (by rw [c.K]; exact op_ltO c.u) (by rw [c.K]; exact op_gtO c.u) ops_lt ops_gt ha hb hc hm
theorem v_ltle (c : Cn m X G W k) {e : Expr} {C : DEn} (ha : DE X G W a A) (hb : DE X G W b B) (hc : DE X G W e C) (hm : lastMarks [.Lt, .LtE] [b, e] = false := by with_unfolding_all rfl) : DE X G W (.Compare a [.Lt, .LtE] [b, e] pos) (eChain dLt dLe A B C) := de_chain (r := rOrd G.K fun d e => PySem.W.dataLt d e) (r' := rOrd G.K fun d e => !PySem.W.dataLt e d) (by rw [c.K]; exact op_ltO c.u) (by rw [c.K]; exact op_leO c.u) ops_lt ops_le ha hb hc hm
theorem w_ltle (c : Cn m X G W k) {e : Expr} {C : DEn} (ha : DE X G W a A) (hb : DE X G W b B) (hc : DE X G W e C) (hm : lastMarks [.Lt, .LtE] [b, e] = false := by with_unfolding_all rfl) : DT X G W (.Compare a [.Lt, .LtE] [b, e] pos) (tV (eChain dLt dLe A B C)) := dt_chain (r := rOrd G.K fun d e => PySem.W.dataLt d e) (r' := rOrd G.K fun d e => !PySem.W.dataLt e d) (by rw [c.K]; exact op_ltO c.u) (by rw [c.K]; exact op_leO c.u) ops_lt ops_le ha hb hc hm
theorem v_ltge (c : Cn m X G W k) {e : Expr} {C : DEn} (ha : DE X G W a A) (hb : DE X G W b B) (hc : DE X G W e C) (hm : lastMarks [.Lt, .GtE] [b, e] = false := by with_unfolding_all rfl) : DE X G W (.Compare a [.Lt, .GtE] [b, e] pos) (eChain dLt dGe A B C) := de_chain (r := rOrd G.K fun d e => PySem.W.dataLt d e) (r' := rOrd G.K fun d e => !PySem.W.dataLt d e) (by rw [c.K]; exact op_ltO c.u) (by rw [c.K]; exact op_geO c.u) ops_lt ops_ge ha hb hc hm
theorem w_ltge (c : Cn m X G W k) {e : Expr} {C : DEn} (ha : DE X G W a A) (hb : DE X G W b B) (hc : DE X G W e C) (hm : lastMarks [.Lt, .GtE] [b, e] = false := by with_unfolding_all rfl) : DT X G W (.Compare a [.Lt, .GtE] [b, e] pos) (tV (eChain dLt dGe A B C)) := dt_chain (r := rOrd G.K fun d e => PySem.W.dataLt d e) (r' := rOrd G.K fun d e => !PySem.W.dataLt d e) (by rw [c.K]; exact op_ltO c.u) (by rw [c.K]; exact op_geO c.u) ops_lt ops_ge ha hb hc hm
theorem v_gtlt (c : Cn m X G W k) {e : Expr} {C : DEn} (ha : DE X G W a A) (hb : DE X G W b B) (hc : DE X G W e C) (hm : lastMarks [.Gt, .Lt] [b, e] = false := by with_unfolding_all rfl) : DE X G W (.Compare a [.Gt, .Lt] [b, e] pos) (eChain dGt dLt A B C) := de_chain (r := rOrd G.K fun d e => PySem.W.dataLt e d) (r' := rOrd G.K fun d e => PySem.W.dataLt d e) (by rw [c.K]; exact op_gtO c.u) (by rw [c.K]; exact op_ltO c.u) ops_gt ops_lt ha hb hc hm
theorem w_gtlt (c : Cn m X G W k) {e : Expr} {C : DEn} (ha : DE X G W a A) (hb : DE X G W b B) (hc : DE X G W e C) (hm : lastMarks [.Gt, .Lt] [b, e] = false := by with_unfolding_all rfl) : DT X G W (.Compare a [.Gt, .Lt] [b, e] pos) (tV (eChain dGt dLt A B C)) := dt_chain (r := rOrd G.K fun d e => PySem.W.dataLt e d) (r' := rOrd G.K fun d e => PySem.W.dataLt d e) (by rw [c.K]; exact op_gtO c.u) (by rw [c.K]; exact op_ltO c.u) ops_gt ops_lt ha hb hc hm
theorem v_gtgt (c : Cn m X G W k) {e : Expr} {C : DEn} (ha : DE X G W a A) (hb : DE X G W b B) (hc : DE X G W e C) (hm : lastMarks [.Gt, .Gt] [b, e] = false := by with_unfolding_all rfl) : DE X G W (.Compare a [.Gt, .Gt] [b, e] pos) (eChain dGt dGt A B C) := de_chain (r := rOrd G.K fun d e => PySem.W.dataLt e d) (r' := rOrd G.K fun d e => PySem.W.dataLt e d) (by rw [c.K]; exact op_gtO c.u) (by rw [c.K]; exact op_gtO c.u) ops_gt ops_gt ha hb hc hm
theorem w_gtgt (c : Cn m X G W k) {e : Expr} {C : DEn} (ha : DE X G W a A) (hb : DE X G W b B) (hc : DE X G W e C) (hm : lastMarks [.Gt, .Gt] [b, e] = false := by with_unfolding_all rfl) : DT X G W (.Compare a [.Gt, .Gt] [b, e] pos) (tV (eChain dGt dGt A B C)) := dt_chain (r := rOrd G.K fun d e => PySem.W.dataLt e d) (r' := rOrd G.K fun d e => PySem.W.dataLt e d) (by rw [c.K]; exact op_gtO c.u) (by rw [c.K]; exact op_gtO c.u) ops_gt ops_gt ha hb hc hm
theorem v_gtle (c : Cn m X G W k) {e : Expr} {C : DEn} (ha : DE X G W a A) (hb : DE X G W b B) (hc : DE X G W e C) (hm : lastMarks [.Gt, .LtE] [b, e] = false := by with_unfolding_all rfl) : DE X G W (.Compare a [.Gt, .LtE] [b, e] pos) (eChain dGt dLe A B C) := de_chain (r := rOrd G.K fun d e => PySem.W.dataLt e d) (r' := rOrd G.K fun d e => !PySem.W.dataLt e d) (by rw [c.K]; exact op_gtO c.u) (by rw [c.K]; exact op_leO c.u) ops_gt ops_le ha hb hc hm
theorem w_gtle (c : Cn m X G W k) {e : Expr} {C : DEn} (ha : DE X G W a A) (hb : DE X G W b B) (hc : DE X G W e C) (hm : lastMarks [.Gt, .LtE] [b, e] = false := by with_unfolding_all rfl) : DT X G W (.Compare a [.Gt, .LtE] [b, e] pos) (tV (eChain dGt dLe A B C)) := dt_chain (r := rOrd G.K fun d e => PySem.W.dataLt e d) (r' := rOrd G.K fun d e => !PySem.W.dataLt e d) (by rw [c.K]; exact op_gtO c.u) (by rw [c.K]; exact op_leO c.u) ops_gt ops_le ha hb hc hm
theorem v_gtge (c : Cn m X G W k) {e : Expr} {C : DEn} (ha : DE X G W a A) (hb : DE X G W b B) (hc : DE X G W e C) (hm : lastMarks [.Gt, .GtE] [b, e] = false := by with_unfolding_all rfl) : DE X G W (.Compare a [.Gt, .GtE] [b, e] pos) (eChain dGt dGe A B C) := de_chain (r := rOrd G.K fun d e => PySem.W.dataLt e d) (r' := rOrd G.K fun d e => !PySem.W.dataLt d e) (by rw [c.K]; exact op_gtO c.u) (by rw [c.K]; exact op_geO c.u) ops_gt ops_ge ha hb hc hm
theorem w_gtge (c : Cn m X G W k) {e : Expr} {C : DEn} (ha : DE X G W a A) (hb : DE X G W b B) (hc : DE X G W e C) (hm : lastMarks [.Gt, .GtE] [b, e] = false := by with_unfolding_all rfl) : DT X G W (.Compare a [.Gt, .GtE] [b, e] pos) (tV (eChain dGt dGe A B C)) := dt_chain (r := rOrd G.K fun d e => PySem.W.dataLt e d) (r' := rOrd G.K fun d e => !PySem.W.dataLt d e) (by rw [c.K]; exact op_gtO c.u) (by rw [c.K]; exact op_geO c.u) ops_gt ops_ge ha hb hc hm
theorem v_lelt (c : Cn m X G W k) {e : Expr} {C : DEn} (ha : DE X G W a A) (hb : DE X G W b B) (hc : DE X G W e C) (hm : lastMarks [.LtE, .Lt] [b, e] = false := by with_unfolding_all rfl) : DE X G W (.Compare a [.LtE, .Lt] [b, e] pos) (eChain dLe dLt A B C) := de_chain (r := rOrd G.K fun d e => !PySem.W.dataLt e d) (r' := rOrd G.K fun d e => PySem.W.dataLt d e) (by rw [c.K]; exact op_leO c.u) (by rw [c.K]; exact op_ltO c.u) ops_le ops_lt ha hb hc hm
theorem w_lelt (c : Cn m X G W k) {e : Expr} {C : DEn} (ha : DE X G W a A) (hb : DE X G W b B) (hc : DE X G W e C) (hm : lastMarks [.LtE, .Lt] [b, e] = false := by with_unfolding_all rfl) : DT X G W (.Compare a [.LtE, .Lt] [b, e] pos) (tV (eChain dLe dLt A B C)) := dt_chain (r := rOrd G.K fun d e => !PySem.W.dataLt e d) (r' := rOrd G.K fun d e => PySem.W.dataLt d e) (by rw [c.K]; exact op_leO c.u) (by rw [c.K]; exact op_ltO c.u) ops_le ops_lt ha hb hc hm
theorem v_legt (c : Cn m X G W k) {e : Expr} {C : DEn} (ha : DE X G W a A) (hb : DE X G W b B) (hc : DE X G W e C) (hm : lastMarks [.LtE, .Gt] [b, e] = false := by with_unfolding_all rfl) : DE X G W (.Compare a [.LtE, .Gt] [b, e] pos) (eChain dLe dGt A B C) := de_chain (r := rOrd G.K fun d e => !PySem.W.dataLt e d) (r' := rOrd G.K fun d e => PySem.W.dataLt e d) (by rw [c.K]; exact op_leO c.u) (by rw [c.K]; exact op_gtO c.u) ops_le ops_gt ha hb hc hm
theorem w_legt (c : Cn m X G W k) {e : Expr} {C : DEn} (ha : DE X G W a A) (hb : DE X G W b B) (hc : DE X G W e C) (hm : lastMarks [.LtE, .Gt] [b, e] = false := by with_unfolding_all rfl) : DT X G W (.Compare a [.LtE, .Gt] [b, e] pos) (tV (eChain dLe dGt A B C)) := dt_chain (r := rOrd G.K fun d e => !PySem.W.dataLt e d) (r' := rOrd G.K fun d e => PySem.W.dataLt e d) (by rw [c.K]; exact op_leO c.u) (by rw [c.K]; exact op_gtO c.u) ops_le ops_gt ha hb hc hm
theorem v_lele (c : Cn m X G W k) {e : Expr} {C : DEn} (ha : DE X G W a A) (hb : DE X G W b B) (hc : DE X G W e C) (hm : lastMarks [.LtE, .LtE] [b, e] = false := by with_unfolding_all rfl) : DE X G W (.Compare a [.LtE, .LtE] [b, e] pos) (eChain dLe dLe A B C) := de_chain (r := rOrd G.K fun d e => !PySem.W.dataLt e d) (r' := rOrd G.K fun d e => !PySem.W.dataLt e d) (by rw [c.K]; exact op_leO c.u) (by rw [c.K]; exact op_leO c.u) ops_le ops_le ha hb hc hm
theorem w_lele (c : Cn m X G W k) {e : Expr} {C : DEn} (ha : DE X G W a A) (hb : DE X G W b B) (hc : DE X G W e C) (hm : lastMarks [.LtE, .LtE] [b, e] = false := by with_unfolding_all rfl) : DT X G W (.Compare a [.LtE, .LtE] [b, e] pos) (tV (eChain dLe dLe A B C)) := dt_chain (r := rOrd G.K fun d e => !PySem.W.dataLt e d) (r' := rOrd G.K fun d e => !PySem.W.dataLt e d) (by rw [c.K]; exact op_leO c.u) (by rw [c.K]; exact op_leO c.u) ops_le ops_le ha hb hc hm
theorem v_lege (c : Cn m X G W k) {e : Expr} {C : DEn} (ha : DE X G W a A) (hb : DE X G W b B) (hc : DE X G W e C) (hm : lastMarks [.LtE, .GtE] [b, e] = false := by with_unfolding_all rfl) : DE X G W (.Compare a [.LtE, .GtE] [b, e] pos) (eChain dLe dGe A B C) := de_chain (r := rOrd G.K fun d e => !PySem.W.dataLt e d) (r' := rOrd G.K fun d e => !PySem.W.dataLt d e) (by rw [c.K]; exact op_leO c.u) (by rw [c.K]; exact op_geO c.u) ops_le ops_ge ha hb hc hm
theorem w_lege (c : Cn m X G W k) {e : Expr} {C : DEn} (ha : DE X G W a A) (hb : DE X G W b B) (hc : DE X G W e C) (hm : lastMarks [.LtE, .GtE] [b, e] = false := by with_unfolding_all rfl) : DT X G W (.Compare a [.LtE, .GtE] [b, e] pos) (tV (eChain dLe dGe A B C)) := dt_chain (r := rOrd G.K fun d e => !PySem.W.dataLt e d) (r' := rOrd G.K fun d e => !PySem.W.dataLt d e) (by rw [c.K]; exact op_leO c.u) (by rw [c.K]; exact op_geO c.u) ops_le ops_ge ha hb hc hm
theorem v_gelt (c : Cn m X G W k) {e : Expr} {C : DEn} (ha : DE X G W a A) (hb : DE X G W b B) (hc : DE X G W e C) (hm : lastMarks [.GtE, .Lt] [b, e] = false := by with_unfolding_all rfl) : DE X G W (.Compare a [.GtE, .Lt] [b, e] pos) (eChain dGe dLt A B C) := de_chain (r := rOrd G.K fun d e => !PySem.W.dataLt d e) (r' := rOrd G.K fun d e => PySem.W.dataLt d e) (by rw [c.K]; exact op_geO c.u) (by rw [c.K]; exact op_ltO c.u) ops_ge ops_lt ha hb hc hm
theorem w_gelt (c : Cn m X G W k) {e : Expr} {C : DEn} (ha : DE X G W a A) (hb : DE X G W b B) (hc : DE X G W e C) (hm : lastMarks [.GtE, .Lt] [b, e] = false := by with_unfolding_all rfl) : DT X G W (.Compare a [.GtE, .Lt] [b, e] pos) (tV (eChain dGe dLt A B C)) := dt_chain (r := rOrd G.K fun d e => !PySem.W.dataLt d e) (r' := rOrd G.K fun d e => PySem.W.dataLt d e) (by rw [c.K]; exact op_geO c.u) (by rw [c.K]; exact op_ltO c.u) ops_ge ops_lt ha hb hc hm
theorem v_gegt (c : Cn m X G W k) {e : Expr} {C : DEn} (ha : DE X G W a A) (hb : DE X G W b B) (hc : DE X G W e C) (hm : lastMarks [.GtE, .Gt] [b, e] = false := by with_unfolding_all rfl) : DE X G W (.Compare a [.GtE, .Gt] [b, e] pos) (eChain dGe dGt A B C) := de_chain (r := rOrd G.K fun d e => !PySem.W.dataLt d e) (r' := rOrd G.K fun d e => PySem.W.dataLt e d) (by rw [c.K]; exact op_geO c.u) (by rw [c.K]; exact op_gtO c.u) ops_ge ops_gt ha hb hc hm
theorem w_gegt (c : Cn m X G W k) {e : Expr} {C : DEn} (ha : DE X G W a A) (hb : DE X G W b B) (hc : DE X G W e C) (hm : lastMarks [.GtE, .Gt] [b, e] = false := by with_unfolding_all rfl) : DT X G W (.Compare a [.GtE, .Gt] [b, e] pos) (tV (eChain dGe dGt A B C)) := dt_chain (r := rOrd G.K fun d e => !PySem.W.dataLt d e) (r' := rOrd G.K fun d e => PySem.W.dataLt e d) (by rw [c.K]; exact op_geO c.u) (by rw [c.K]; exact op_gtO c.u) ops_ge ops_gt ha hb hc hm
theorem v_gele (c : Cn m X G W k) {e : Expr} {C : DEn} (ha : DE X G W a A) (hb : DE X G W b B) (hc : DE X G W e C) (hm : lastMarks [.GtE, .LtE] [b, e] = false := by with_unfolding_all rfl) : DE X G W (.Compare a [.GtE, .LtE] [b, e] pos) (eChain dGe dLe A B C) := de_chain (r := rOrd G.K fun d e => !PySem.W.dataLt d e) (r' := rOrd G.K fun d e => !PySem.W.dataLt e d) (by rw [c.K]; exact op_geO c.u) (by rw [c.K]; exact op_leO c.u) ops_ge ops_le ha hb hc hm
theorem w_gele (c : Cn m X G W k) {e : Expr} {C : DEn} (ha : DE X G W a A) (hb : DE X G W b B) (hc : DE X G W e C) (hm : lastMarks [.GtE, .LtE] [b, e] = false := by with_unfolding_all rfl) : DT X G W (.Compare a [.GtE, .LtE] [b, e] pos) (tV (eChain dGe dLe A B C)) := dt_chain (r := rOrd G.K fun d e => !PySem.W.dataLt d e) (r' := rOrd G.K fun d e => !PySem.W.dataLt e d) (by rw [c.K]; exact op_geO c.u) (by rw [c.K]; exact op_leO c.u) ops_ge ops_le ha hb hc hm
theorem v_gege (c : Cn m X G W k) {e : Expr} {C : DEn} (ha : DE X G W a A) (hb : DE X G W b B) (hc : DE X G W e C) (hm : lastMarks [.GtE, .GtE] [b, e] = false := by with_unfolding_all rfl) : DE X G W (.Compare a [.GtE, .GtE] [b, e] pos) (eChain dGe dGe A B C) := de_chain (r := rOrd G.K fun d e => !PySem.W.dataLt d e) (r' := rOrd G.K fun d e => !PySem.W.dataLt d e) (by rw [c.K]; exact op_geO c.u) (by rw [c.K]; exact op_geO c.u) ops_ge ops_ge ha hb hc hm
theorem w_gege (c : Cn m X G W k) {e : Expr} {C : DEn} (ha : DE X G W a A) (hb : DE X G W b B) (hc : DE X G W e C) (hm : lastMarks [.GtE, .GtE] [b, e] = false := by with_unfolding_all rfl) : DT X G W (.Compare a [.GtE, .GtE] [b, e] pos) (tV (eChain dGe dGe A B C)) := dt_chain (r := rOrd G.K fun d e => !PySem.W.dataLt d e) (r' := rOrd G.K fun d e => !PySem.W.dataLt d e) (by rw [c.K]; exact op_geO c.u) (by rw [c.K]; exact op_geO c.u) ops_ge ops_ge ha hb hc hm
theorem v_neg (c : Cn m X G W k) (ha : DE X G W a A) : DE X G W (.UnaryOp .USub a pos) (eUn dNeg A) := de_un un_neg uns_neg ha
theorem v_len (c : Cn m X G W k) {p : Pos} (hm : X.mg "len" = none) (ha : DA X G W (a :: es) As) (hg : Gl X "len" := by rfl) (he : starEach (a :: es) X.env = (false, eval a X.env) :: starEach es X.env := by rfl) (hpl : (backTo pos (starEach es X.env)).any (·.1) = false := by rfl) :
    DE X G W (.Call (.Name "len" p) (a :: es) [] pos) (eCl dLen As) := de_callB (r := rLenA G.K) (by rw [c.K]; exact cr_lenA) cls_len hg hm (by decide +kernel) ha (by decide) (by decide) he hpl
theorem v_abs (c : Cn m X G W k) {p : Pos} (hm : X.mg "abs" = none) (ha : DA X G W (a :: es) As) (hg : Gl X "abs" := by rfl) (he : starEach (a :: es) X.env = (false, eval a X.env) :: starEach es X.env := by rfl) (hpl : (backTo pos (starEach es X.env)).any (·.1) = false := by rfl) :
    DE X G W (.Call (.Name "abs" p) (a :: es) [] pos) (eCl dAbs As) := de_callB (call_abs) cls_abs hg hm (by decide +kernel) ha (by decide) (by decide) he hpl
theorem v_sum (c : Cn m X G W k) {p : Pos} (hm : X.mg "sum" = none) (ha : DA X G W (a :: es) As) (hg : Gl X "sum" := by rfl) (he : starEach (a :: es) X.env = (false, eval a X.env) :: starEach es X.env := by rfl) (hpl : (backTo pos (starEach es X.env)).any (·.1) = false := by rfl) :
    DE X G W (.Call (.Name "sum" p) (a :: es) [] pos) (eCl dSum As) := de_callB (r := rSum G.K) (by rw [c.K]; exact cr_sum c.calm) cls_sum hg hm (by decide +kernel) ha (by decide) (by decide) he hpl
theorem v_all (c : Cn m X G W k) {p : Pos} (hm : X.mg "all" = none) (ha : DA X G W (a :: es) As) (hg : Gl X "all" := by rfl) (he : starEach (a :: es) X.env = (false, eval a X.env) :: starEach es X.env := by rfl) (hpl : (backTo pos (starEach es X.env)).any (·.1) = false := by rfl) :
    DE X G W (.Call (.Name "all" p) (a :: es) [] pos) (eCl dAll As) := de_callB (r := rAll G.K) (by rw [c.K]; exact cr_all c.calm) cls_all hg hm (by decide +kernel) ha (by decide) (by decide) he hpl
theorem v_any (c : Cn m X G W k) {p : Pos} (hm : X.mg "any" = none) (ha : DA X G W (a :: es) As) (hg : Gl X "any" := by rfl) (he : starEach (a :: es) X.env = (false, eval a X.env) :: starEach es X.env := by rfl) (hpl : (backTo pos (starEach es X.env)).any (·.1) = false := by rfl) :
    DE X G W (.Call (.Name "any" p) (a :: es) [] pos) (eCl dAny As) := de_callB (r := rAny G.K) (by rw [c.K]; exact cr_any c.calm) cls_any hg hm (by decide +kernel) ha (by decide) (by decide) he hpl
theorem v_sorted (c : Cn m X G W k) {p : Pos} (hm : X.mg "sorted" = none) (ha : DA X G W (a :: es) As) (hg : Gl X "sorted" := by rfl) (he : starEach (a :: es) X.env = (false, eval a X.env) :: starEach es X.env := by rfl) (hpl : (backTo pos (starEach es X.env)).any (·.1) = false := by rfl) :
    DE X G W (.Call (.Name "sorted" p) (a :: es) [] pos) (eCl dSorted As) := de_callB (r := rSortedD G.K) (by rw [c.K]; exact cr_sortedD c.u) cls_sorted hg hm (by decide +kernel) ha (by decide) (by decide) he hpl
theorem v_min (c : Cn m X G W k) {p : Pos} (hm : X.mg "min" = none) (ha : DA X G W (a :: es) As) (hg : Gl X "min" := by rfl) (he : starEach (a :: es) X.env = (false, eval a X.env) :: starEach es X.env := by rfl) (hpl : (backTo pos (starEach es X.env)).any (·.1) = false := by rfl) :
    DE X G W (.Call (.Name "min" p) (a :: es) [] pos) (eCl dMinL As) := de_callB (r := rMinA G.K) (by rw [c.K]; exact cr_minA c.calm c.u) cls_min hg hm (by decide +kernel) ha (by decide) (by decide) he hpl
theorem v_max (c : Cn m X G W k) {p : Pos} (hm : X.mg "max" = none) (ha : DA X G W (a :: es) As) (hg : Gl X "max" := by rfl) (he : starEach (a :: es) X.env = (false, eval a X.env) :: starEach es X.env := by rfl) (hpl : (backTo pos (starEach es X.env)).any (·.1) = false := by rfl) :
    DE X G W (.Call (.Name "max" p) (a :: es) [] pos) (eCl dMaxL As) := de_callB (r := rMaxA G.K) (by rw [c.K]; exact cr_maxA c.calm c.u) cls_max hg hm (by decide +kernel) ha (by decide) (by decide) he hpl
theorem v_repr (c : Cn m X G W k) {p : Pos} (hm : X.mg "repr" = none) (ha : DA X G W (a :: es) As) (hg : Gl X "repr" := by rfl) (he : starEach (a :: es) X.env = (false, eval a X.env) :: starEach es X.env := by rfl) (hpl : (backTo pos (starEach es X.env)).any (·.1) = false := by rfl) :
    DE X G W (.Call (.Name "repr" p) (a :: es) [] pos) (eCl dRepr As) := de_callB (r := rRepr G.K) (by rw [c.K]; exact cr_repr c.gu c.u) cls_repr hg hm (by decide +kernel) ha (by decide) (by decide) he hpl
theorem v_list (c : Cn m X G W k) {p : Pos} (hm : X.mg "list" = none) (ha : DA X G W (a :: es) As) (hg : Gl X "list" := by rfl) (he : starEach (a :: es) X.env = (false, eval a X.env) :: starEach es X.env := by rfl) (hpl : (backTo pos (starEach es X.env)).any (·.1) = false := by rfl) :
    DE X G W (.Call (.Name "list" p) (a :: es) [] pos) (eCl dList As) := de_callTy (r := fun xs H Q => ∃ p ys, xs = [.ref p] ∧ (SqL G.K H p ys ∨ SqT G.K H p ys) ∧ ∀ l, H l = none → Q (.ref l) (upd H l (.lst ys))) (by rw [c.K]; exact call_list_of) cls_list hg hm (by decide +kernel) ha (by decide) (by decide) he hpl
theorem v_tuple (c : Cn m X G W k) {p : Pos} (hm : X.mg "tuple" = none) (ha : DA X G W (a :: es) As) (hg : Gl X "tuple" := by rfl) (he : starEach (a :: es) X.env = (false, eval a X.env) :: starEach es X.env := by rfl) (hpl : (backTo pos (starEach es X.env)).any (·.1) = false := by rfl) :
    DE X G W (.Call (.Name "tuple" p) (a :: es) [] pos) (eCl dTuple As) := de_callTy (r := fun xs H Q => ∃ p ys, xs = [.ref p] ∧ ((SqL G.K H p ys ∧ ∀ l, H l = none → Q (.ref l) (upd H l (.tup ys))) ∨ (SqT G.K H p ys ∧ Q (.ref p) H))) (by rw [c.K]; exact call_tuple_of) cls_tuple hg hm (by decide +kernel) ha (by decide) (by decide) he hpl
theorem v_int (c : Cn m X G W k) {p : Pos} (hm : X.mg "int" = none) (ha : DA X G W (a :: es) As) (hg : Gl X "int" := by rfl) (he : starEach (a :: es) X.env = (false, eval a X.env) :: starEach es X.env := by rfl) (hpl : (backTo pos (starEach es X.env)).any (·.1) = false := by rfl) :
    DE X G W (.Call (.Name "int" p) (a :: es) [] pos) (eCl dInt As) := de_callTy (call_int1) cls_int hg hm (by decide +kernel) ha (by decide) (by decide) he hpl
theorem v_str (c : Cn m X G W k) {p : Pos} (hm : X.mg "str" = none) (ha : DA X G W (a :: es) As) (hg : Gl X "str" := by rfl) (he : starEach (a :: es) X.env = (false, eval a X.env) :: starEach es X.env := by rfl) (hpl : (backTo pos (starEach es X.env)).any (·.1) = false := by rfl) :
    DE X G W (.Call (.Name "str" p) (a :: es) [] pos) (eCl dStr As) := de_callTy (cr_strA) cls_str hg hm (by decide +kernel) ha (by decide) (by decide) he hpl
theorem v_var (i : Nat) {y : Str} (hN : X.N[i]? = some y := by rfl) (hv : Vis X.env.scope y := by first | exact Or.inl rfl | exact Or.inr (Or.inl rfl) | exact Or.inr (Or.inr rfl)) (hd : (y == ("__debug__" : Str)) = false := by decide) (hcd : (y == ("__classdict__" : Str)) = false := by decide) : DE X G W (.Name y pos) (eVar i) := de_var i hN hv hd hcd
theorem v_bx (i : Nat) {c : Int} {y : Str} {kk : Nat} {p2 p3 : Pos} (hc : c = 0 ∨ c = 1) (hN : X.N[i]? = some y := by rfl) (hv : Vis X.env.scope y := by first | exact Or.inl rfl | exact Or.inr (Or.inl rfl) | exact Or.inr (Or.inr rfl)) (hd : (y == ("__debug__" : Str)) = false := by decide) (hcd : (y == ("__classdict__" : Str)) = false := by decide) :
    DE X G W (.Subscript (.Name y p2) (.Constant (.int c) kk p3) pos) (eBx i c) := de_bx i hc hN hv hd hcd
theorem v_ix (c : Cn m X G W k) (ha : DE X G W a A) (hb : DE X G W b B) (hs : PlainIx b := by intro _ _; rfl) : DE X G W (.Subscript a b pos) (eBin dIx A B) := de_ix ha hb c.K c.u hs
theorem s_asg (c : Cn m X G W k) (i : Nat) {x : Str} {p2 : Pos} (h : DE X G W e A) (hi : X.N[i]? = some x := by rfl) (hx : Loc X.env.scope x := by first | exact Or.inl rfl | exact Or.inr rfl) (hs : swapsWith e (some (.Name x p2)) pos.line X.env = pure false := by rfl) (hf : X.fn x = true ∨ X.env.scope.names.lookup x = some .local := by first | exact .inl rfl | exact .inr rfl) :
    DS X G W (.Assign [.Name x p2] e pos) (sAsg i A) := ds_asg i c.nd hi hx h hs hf
theorem s_own (c : Cn m X G W k) (i : Nat) {x : Str} {p2 : Pos} (h : DN X G W e N) (hi : X.N[i]? = some x := by rfl) (hx : Loc X.env.scope x := by first | exact Or.inl rfl | exact Or.inr rfl) (hs : swapsWith e (some (.Name x p2)) pos.line X.env = pure false := by rfl) (hf : X.fn x = true ∨ X.env.scope.names.lookup x = some .local := by first | exact .inl rfl | exact .inr rfl) :
    DS X G W (.Assign [.Name x p2] e pos) (sOwn i N) := ds_own i c.nd hi hx h hs hf
theorem s_app (i : Nat) {y : Str} {p2 p3 p4 : Pos} (h : DE X G W e A) (hN : X.N[i]? = some y := by rfl) (hv : Vis X.env.scope y := by first | exact Or.inl rfl | exact Or.inr (Or.inl rfl) | exact Or.inr (Or.inr rfl)) (hd : (y == ("__debug__" : Str)) = false := by decide) (hcd : (y == ("__classdict__" : Str)) = false := by decide)
    (hes : starEach [e] X.env = (false, eval e X.env) :: starEach [] X.env := by rfl) (hpl : (backTo p3 (starEach [] X.env)).any (·.1) = false := by rfl) (hline : (p2.endLine == p3.line) = true := by rfl) (hb : attributeBase (.Name y pos) "append" X.env (eval (.Name y pos) X.env) = eval (.Name y pos) X.env := by rfl)
    (hfew : ((backTo p3 (starEach [e] X.env)).all (fun x => !x.1) && ((backToKw p3 (keywordEach [] X.env)).all (fun x => x.1.isSome)) && decide ([e].length + ([] : List Keyword).length + (if ([] : List Keyword).isEmpty then 0 else 1) < 30)) = true := by rfl)
    (hsw : swapsWith (.Call (.Attribute (.Name y pos) "append" p2) [e] [] p3) none p4.line X.env = pure false := by rfl) :
    DS X G W (.Expr (.Call (.Attribute (.Name y pos) "append" p2) [e] [] p3) p4) (sApp i A) := ds_app i hN hv h hd hcd hes hpl hline hb hfew hsw
theorem g_name (c : Cn m X G W k) (i : Nat) {x : Str} (hi : X.N[i]? = some x := by rfl) (hx : Loc X.env.scope x := by first | exact Or.inl rfl | exact Or.inr rfl) (hf : X.fn x = true ∨ X.env.scope.names.lookup x = some .local := by first | exact .inl rfl | exact .inr rfl) : DG X G (.Name x pos) [i] (gN i) := dg_name i c.nd hi hx hf
theorem n_cons (c : Cn m X G W k) (i : Nat) {x : Str} {px : Pos} {is : List Nat} (h : NG X es is) (hi : X.N[i]? = some x := by rfl) (hx : Loc X.env.scope x := by first | exact Or.inl rfl | exact Or.inr rfl) (hf : X.fn x = true ∨ X.env.scope.names.lookup x = some .local := by first | exact .inl rfl | exact .inr rfl)
    (hs : (assignEach (.Name x px :: es) X.env).map (·.2) = assign (.Name x px) X.env :: (assignEach es X.env).map (·.2) := by rfl) : NG X (.Name x px :: es) (i :: is) := ng_cons i c.nd hi hx h hf hs
theorem v_listn (c : Cn m X G W k) {p : Pos} (hm : X.mg "list" = none) (ha : DA X G W [a] As) (hg : Gl X "list" := by rfl) (he : starEach [a] X.env = (false, eval a X.env) :: starEach [] X.env := by rfl) (hpl : (backTo pos (starEach [] X.env)).any (·.1) = false := by rfl) :
    DN X G W (.Call (.Name "list" p) [a] [] pos) (nCl nList As) := dn_list c.K hg hm ha he hpl
theorem v_gint (c : Cn m X G W k) {x : Str} {i : Int} (hm : ∃ t, X.mg x = some (.int i t)) (hg : Gl X x := by rfl) (hd : (x == ("__debug__" : Str)) = false := by decide) : DE X G W (.Name x pos) (eC (.int i)) := by obtain ⟨t, hm⟩ := hm; exact de_gint hg hm hd
theorem v_gstr (c : Cn m X G W k) {x : Str} {z : Str} (hm : ∃ t, X.mg x = some (.str z t)) (hg : Gl X x := by rfl) (hd : (x == ("__debug__" : Str)) = false := by decide) : DE X G W (.Name x pos) (eC (.str z)) := by obtain ⟨t, hm⟩ := hm; exact de_gstr hg hm hd
theorem v_call (c : Cn m X G W k) {n j : Nat} {F : FnS} {x : Str} {p : Pos} {ps : List Str} (Fn : Callee X.prog X.w X.K X.mg X.base j x ps (spF X.K G.cls G.T false n F)) (ha : DA X G W (e :: es) As) (hj : j ≤ k := by decide)
    (hg : Gl X x := by rfl) (hdb : (x == ("__debug__" : Str)) = false := by decide) (he : starEach (e :: es) X.env = (false, eval e X.env) :: starEach es X.env := by rfl) (hpl : (backTo pos (starEach es X.env)).any (·.1) = false := by rfl) : DE X G W (.Call (.Name x p) (e :: es) [] pos) (eCall n F As) := by
  obtain ⟨f, fd, h1, h2, h3, h4⟩ := Fn
  exact de_call h4 c.K (L2N.passAt c.tk) (c.rm.mono hj) c.gu h1 h2 h3 ha hg hdb he hpl
theorem v_callX (c : Cn m X G W k) (i : Nat) {y : Str} {n j : Nat} {F : FnS} {x : Str} {p p2 : Pos} {ps : List Str} (Fn : Callee X.prog X.w X.K X.mg X.base j x ps (spF X.K G.cls G.T true n F)) (ha : DA X G W es As) (hN : X.N[i]? = some y := by rfl) (hv : Vis X.env.scope y := by first | exact Or.inl rfl | exact Or.inr (Or.inl rfl) | exact Or.inr (Or.inr rfl)) (hj : j ≤ k := by decide)
    (hg : Gl X x := by rfl) (hdb : (x == ("__debug__" : Str)) = false := by decide) (hd : (y == ("__debug__" : Str)) = false := by decide) (hcd : (y == ("__classdict__" : Str)) = false := by decide)
    (hst : starEach (.Name y p2 :: es) X.env = (false, eval (.Name y p2) X.env) :: starEach es X.env := by rfl) (hpl : (backTo pos (starEach es X.env)).any (·.1) = false := by rfl) : DE X G W (.Call (.Name x p) (.Name y p2 :: es) [] pos) (eCallB n i F As) := by
  obtain ⟨f, fd, h1, h2, h3, h4⟩ := Fn
  exact de_callX i h4 c.K (L2N.passAt c.tk) (c.rm.mono hj) c.gu h1 h2 h3 hN hv ha hg hdb hd hcd hst hpl
theorem v_callK (c : Cn m X G W k) {n j : Nat} {F : FnS} {x : Str} {p : Pos} {ps ks : List Str} {js : List Nat} {kws : List Keyword} (Fn : CalleeK X.prog X.w X.K X.mg X.base j x ps ks js (spF X.K G.cls G.T false n F)) (ha : DK X G W kws As) (hn : ks.length = n := by rfl) (hj : j ≤ k := by decide)
    (hg : Gl X x := by rfl) (hall : (backToKw pos (keywordEach kws X.env)).all (·.1.isSome) = true := by rfl) (hks : (backToKw pos (keywordEach kws X.env)).filterMap (·.1) = ks := by rfl) (hdb : (x == ("__debug__" : Str)) = false := by decide)
    (hpl : ((backTo pos (starEach [] X.env)).any (·.1) || (backToKw pos (keywordEach kws X.env)).any (·.1.isNone)) = false := by rfl) : DE X G W (.Call (.Name x p) [] kws pos) (eCallK n js F As) := by
  obtain ⟨f, fd, h1, h2, h3, h4⟩ := Fn
  exact de_callK js h4 c.K (L2N.passAt c.tk) (c.rm.mono hj) c.gu h1 h2 h3 ha hn hg hall hks hdb hpl
theorem v_callM (c : Cn true X G W k) {n j : Nat} {F : FnS} {x : Str} {p : Pos} {ps : List Str} (Fn : CalleeM X.prog X.w X.K X.mg X.base j x ps (spF X.K G.cls G.T false n F)) (ha : DA X G W (e :: es) As) (hj : j ≤ k := by decide)
    (hg : Gl X x := by rfl) (hdb : (x == ("__debug__" : Str)) = false := by decide) (he : starEach (e :: es) X.env = (false, eval e X.env) :: starEach es X.env := by rfl) (hpl : (backTo pos (starEach es X.env)).any (·.1) = false := by rfl) : DE X G W (.Call (.Name x p) (e :: es) [] pos) (eCall n F As) := by
  obtain ⟨f, fd, h1, h2, h3, h4⟩ := Fn
  exact de_call h4 c.K (passAt (c.tm rfl)) (c.rm.mono hj) c.gu h1 h2 h3 ha hg hdb he hpl
theorem v_callXM (c : Cn true X G W k) (i : Nat) {y : Str} {n j : Nat} {F : FnS} {x : Str} {p p2 : Pos} {ps : List Str} (Fn : CalleeM X.prog X.w X.K X.mg X.base j x ps (spF X.K G.cls G.T true n F)) (ha : DA X G W es As) (hN : X.N[i]? = some y := by rfl) (hv : Vis X.env.scope y := by first | exact Or.inl rfl | exact Or.inr (Or.inl rfl) | exact Or.inr (Or.inr rfl)) (hj : j ≤ k := by decide)
    (hg : Gl X x := by rfl) (hdb : (x == ("__debug__" : Str)) = false := by decide) (hd : (y == ("__debug__" : Str)) = false := by decide) (hcd : (y == ("__classdict__" : Str)) = false := by decide)
    (hst : starEach (.Name y p2 :: es) X.env = (false, eval (.Name y p2) X.env) :: starEach es X.env := by rfl) (hpl : (backTo pos (starEach es X.env)).any (·.1) = false := by rfl) : DE X G W (.Call (.Name x p) (.Name y p2 :: es) [] pos) (eCallB n i F As) := by
  obtain ⟨f, fd, h1, h2, h3, h4⟩ := Fn
  exact de_callX i h4 c.K (passAt (c.tm rfl)) (c.rm.mono hj) c.gu h1 h2 h3 hN hv ha hg hdb hd hcd hst hpl
theorem v_callKM (c : Cn true X G W k) {n j : Nat} {F : FnS} {x : Str} {p : Pos} {ps ks : List Str} {js : List Nat} {kws : List Keyword} (Fn : CalleeKM X.prog X.w X.K X.mg X.base j x ps ks js (spF X.K G.cls G.T false n F)) (ha : DK X G W kws As) (hn : ks.length = n := by rfl) (hj : j ≤ k := by decide)
    (hg : Gl X x := by rfl) (hall : (backToKw pos (keywordEach kws X.env)).all (·.1.isSome) = true := by rfl) (hks : (backToKw pos (keywordEach kws X.env)).filterMap (·.1) = ks := by rfl) (hdb : (x == ("__debug__" : Str)) = false := by decide)
    (hpl : ((backTo pos (starEach [] X.env)).any (·.1) || (backToKw pos (keywordEach kws X.env)).any (·.1.isNone)) = false := by rfl) : DE X G W (.Call (.Name x p) [] kws pos) (eCallK n js F As) := by
  obtain ⟨f, fd, h1, h2, h3, h4⟩ := Fn
  exact de_callK js h4 c.K (passAt (c.tm rfl)) (c.rm.mono hj) c.gu h1 h2 h3 ha hn hg hall hks hdb hpl
theorem v_box (c : Cn m X G W k) (i s : Nat) {x y z : Str} {j : Nat} {F : List Int → Int → Int × Int} {p p1 p2 p3 : Pos} {ek : Expr} {ps : List Str} (ht : G.top = true) (Fn : Callee X.prog X.w X.K X.mg X.base j x ps (spBx X.K F)) (ha : DE X G W ek A) (hN : X.N[s]? = some y := by rfl) (hv : Vis X.env.scope y := by first | exact Or.inl rfl | exact Or.inr (Or.inl rfl) | exact Or.inr (Or.inr rfl)) (hi : X.N[i]? = some z := by rfl) (hz : Loc X.env.scope z := by first | exact Or.inl rfl | exact Or.inr rfl) (hj : j ≤ k := by decide)
    (hg : Gl X x := by rfl) (hdb : (x == ("__debug__" : Str)) = false := by decide) (hd : (y == ("__debug__" : Str)) = false := by decide) (hcd : (y == ("__classdict__" : Str)) = false := by decide)
    (hst2 : starEach [ek] X.env = (false, eval ek X.env) :: starEach [] X.env := by rfl) (hst : starEach [.Name y p2, ek] X.env = (false, eval (.Name y p2) X.env) :: starEach [ek] X.env := by rfl) (hpl : (backTo p3 (starEach [ek] X.env)).any (·.1) = false := by rfl)
    (hs : swapsWith (.Call (.Name x p) [.Name y p2, ek] [] p3) (some (.Name z p1)) pos.line X.env = pure false := by rfl) (hf : X.fn z = true ∨ X.env.scope.names.lookup z = some .local := by first | exact .inl rfl | exact .inr rfl | assumption) :
    DS X G W (.Assign [.Name z p1] (.Call (.Name x p) [.Name y p2, ek] [] p3) pos) (sBox i s F A) := by
  obtain ⟨f, fd, h1, h2, h3, h4⟩ := Fn
  exact ds_box i s ht h4 c.K c.tk (c.rm.mono hj) c.gu h1 h2 h3 c.nd hN hv hi hz ha hg hdb hd hcd hst2 hst hpl hs hf
end
end DL

namespace DL
open PySem PySem.W PySem.F PySem.Calls
/-! ### the built-in base under an own error class -/
structure Bas where
  tl : List Value
  nw : String
  nwI : String
  it : String
  itI : String
structure BasOk (b : Bas) : Prop where
  fac : ∃ (i : String) (m : List Value), ExcBaseFacts b.nw b.nwI i m
  hW : b.tl.contains (.type b.nw) = true
  hI : b.tl.contains (.type b.it) = true
  hA : b.tl.contains (.type "AttributeError") = false
  hN : b.tl.contains (.type "NameError") = false
  hO : b.tl.contains (.type "object") = true
  ne : b.tl.isEmpty = false
  pass : ∀ v, refuseLoop v "__setattr__" b.tl = pure ()
  kx : KxsFacts b.it b.itI
  ik : builtinKind b.itI = some .slot
  ir : Manifest.signature? b.itI = some ⟨.positional, "*", b.it, .self, [⟨"args", .varPos, false⟩]⟩
  star : (b.it != "*") = true
  ie : entryFor table b.itI = some Builtin.«BaseException.__init__»
  ip : plainId b.itI = true
abbrev vBas : Bas := ⟨["ValueError", "Exception", "BaseException", "object"].map Value.type, "ValueError", "ValueError.__new__", "ValueError", "ValueError.__init__"⟩
abbrev kBas : Bas := ⟨keyMro, "LookupError", "LookupError.__new__", "KeyError", "KeyError.__init__"⟩
theorem vBas_ok : BasOk vBas := by
  refine ⟨⟨_, _, excBase_ValueError⟩, ?_, ?_, ?_, ?_, ?_, rfl, fun v => ?_, kxs_ValueError, excBase_ValueError.initKind, excBase_ValueError.initRow, excBase_ValueError.noStar, excBase_ValueError.initEntry, excBase_ValueError.init.plain⟩
  iterate 5 decide +kernel
  kernel_rfl
theorem kBas_ok : BasOk kBas := by
  refine ⟨⟨_, _, excBase_LookupError⟩, ?_, ?_, ?_, ?_, ?_, rfl, fun v => ?_, keySup, ?_, ?_, ?_, keyInit, ?_⟩
  iterate 5 decide +kernel
  · kernel_rfl
  · kernel_rfl
  · kernel_rfl
  · decide +kernel
  · decide +kernel
/-- own classes, then the base's -/
def overB (tl : List Value) : List Value → Bool
  | .ref _ :: r => overB tl r
  | l => l == tl
theorem overB_or {tl : List Value} (l : List Value) (h : overB tl l = true) : (∃ c r, l = .ref c :: r ∧ overB tl r = true) ∨ l = tl := by
  unfold overB at h
  split at h
  · exact .inl ⟨_, _, rfl, h⟩
  · exact .inr (eq_of_beq h)
theorem overB_pass {tl : List Value} {v : Value} (p : refuseLoop v "__setattr__" tl = pure ()) : ∀ l : List Value, overB tl l = true → refuseLoop v "__setattr__" l = pure ()
  | [], h => (overB_or [] h).elim (fun ⟨_, _, z, _⟩ => nomatch z) fun z => by rw [z]; exact p
  | a :: r, h => (overB_or _ h).elim (fun ⟨c, r', z, h'⟩ => by cases z; rw [refuseLoop_ref]; exact overB_pass p _ h') fun z => by rw [z]; exact p
theorem overB_has {tl : List Value} (y : String) : ∀ l : List Value, overB tl l = true → l.contains (.type y) = tl.contains (.type y)
  | [], h => (overB_or [] h).elim (fun ⟨_, _, z, _⟩ => nomatch z) fun z => by rw [← z]
  | a :: r, h => (overB_or _ h).elim (fun ⟨c, r', z, h'⟩ => by cases z; rw [List.contains_cons, overB_has y _ h']; rfl) fun z => by rw [z]
theorem overB_ne {tl : List Value} (n : tl.isEmpty = false) : ∀ l : List Value, overB tl l = true → l.isEmpty = false
  | [], h => (overB_or [] h).elim (fun ⟨_, _, z, _⟩ => nomatch z) fun z => by rw [z]; exact n
  | _ :: _, _ => rfl
/-! ### C(..): the object made, its own __init__ next -/
section
variable {P : Program} {w : World} {A : Around} {R : Result → Shared → Prop} {E : Value → Shared → Prop} {hp : Heap} {gn : Array GenState} {dr : Drawn} {tk : Nat} {os : OsState}
variable {n1 n2 : Str} {C N : Addr} {bs bm bB : List Value} {hd : Bool} {sn : List Str} {sb : List Value} {ab : Bool} {col : Option Bool} {dd : Option Addr} {j0 j1 j2 j3 j5 : Option Value} {B nId iId : String} {args : List Value}
theorem er_new (F : ExcBaseFacts B nId iId bB) (hB : bm.contains (.type B) = true) (hA : bm.contains (.type "AttributeError") = false) (hN : bm.contains (.type "NameError") = false)
    (at_ : hp.get? C = some (excClassObj n1 n2 C N bs bm hd sn sb ab col dd j0 j1 j2 j3 j5 nId)) (few : args.length ≤ sizeLine)
    (q : R (.ok (.ret (.ref (hp.objs.size + 1)))) ⟨(hp.push { cls := .type "tuple", data := .seq args.toArray }).push { cls := .ref C, data := .fields #[.ref hp.objs.size, .none, .none, .none, .bool false, .none] }, gn, dr, tk, os⟩) :
    codeAny (model P w) A (.builtin nId ⟨.ref C :: args, []⟩) R ⟨hp, gn, dr, tk, os⟩ := by
  have ends := F.ends
  have cB : (Value.ref C :: bm).contains (.type B) = true := by rw [List.contains_cons, hB]; exact Bool.or_true _
  have cA : (Value.ref C :: bm).contains (.type "AttributeError") = false := by rw [List.contains_cons, hA] <;> rfl
  have cN : (Value.ref C :: bm).contains (.type "NameError") = false := by rw [List.contains_cons, hN] <;> rfl
  refine codeAny_builtinAt F.entry ?_
  unfold Builtin.«BaseException.__new__»
  refine wpAt_bind (show PySem.wpAt _ _ _ (stack >>= _) _ _ _ from wpAt_bind (wpAt_stack fun p below => wpAt_of_wpAny ?_))
  wp_walk
  refine wpAt_of_wpAny ?_
  rw [F.owner]
  repeat (first | (with_reducible refine wpAny_madeHere_exc F.canon at_ ?_) | (with_reducible refine wpAny_loadPart_at at_ ?_) | (with_reducible refine wpAny_isSubtype_exc at_ ?_; (first | rw [cB] | rw [cA] | rw [cN])) | wp_step)
  show R _ _
  rw [Heap.size_push]; exact q
theorem er_check (F : ExcBaseFacts B nId iId bB) (hB : bm.contains (.type B) = true) (at_ : hp.get? C = some (excClassObj n1 n2 C N bs bm hd sn sb ab col dd j0 j1 j2 j3 j5 nId)) {Q : Unit → Shared → Prop} {M : Model} (q : Q () ⟨hp, gn, dr, tk, os⟩) :
    wpAny M A (checkBuiltinCall nId ⟨.ref C :: args, []⟩) Q E ⟨hp, gn, dr, tk, os⟩ := by
  have cB : (Value.ref C :: bm).contains (.type B) = true := by rw [List.contains_cons, hB]; exact Bool.or_true _
  have st := F.noStar
  simp only [checkBuiltinCall, F.newKind, F.newSplit, F.newRow]
  repeat (first | (refine wpAny_loadPart_at at_ ?_) | (refine wpAny_isSubtype_exc at_ ?_; rw [cB]) | (refine wpAny_staticBase_exc at_ ?_) | (refine wpAny_madeBy_exc at_ ?_) | (simp only [bne_self_eq_false, Bool.false_eq_true, if_false]) | wp_step)
  exact q
theorem er_make (F : ExcBaseFacts B nId iId bB) (hB : bm.contains (.type B) = true) (hA : bm.contains (.type "AttributeError") = false) (hN : bm.contains (.type "NameError") = false) {fI : Addr}
    (at_ : hp.get? C = some (excClassObj n1 n2 C N bs bm hd sn sb ab col dd j0 j1 j2 j3 j5 nId)) (few : args.length ≤ sizeLine)
    (fi : Looks (model P w) hp (typeLookup (.ref C) "__init__") (some (.ref fI))) (bi : ∀ self, Looks (model P w) hp (bindSpecial (.ref fI) self) (.ref fI, [self]))
    (q : codeAny (model P w) (A.under (.builtin "type.__call__" ⟨.ref C :: args, []⟩)) (.call (.ref fI) ⟨.ref (hp.objs.size + 1) :: args, []⟩) (InitBack (hp.objs.size + 1) R) ⟨(hp.push (kdv_tup args)).push (HandSPX.excO C hp.objs.size), gn, dr, tk, os⟩) :
    codeAny (model P w) A (.call (.ref C) ⟨args, []⟩) R ⟨hp, gn, dr, tk, os⟩ := by
  have up : ∀ b o, hp.get? b = some o → ((hp.push (kdv_tup args)).push (HandSPX.excO C hp.objs.size)).get? b = some o := fun b o e => Heap.get?_push_of_some _ (Heap.get?_push_of_some _ e)
  have made : ((hp.push (kdv_tup args)).push (HandSPX.excO C hp.objs.size)).get? (hp.objs.size + 1) = some (HandSPX.excO C hp.objs.size) := by heap_get
  have at2 := up _ _ at_
  have own : (Value.ref C :: bm).contains (.ref C) = true := by simp
  have fi2 := fi.keeps up
  have bi2 := (bi (.ref (hp.objs.size + 1))).keeps up
  have l1 := tc_lookup
  have l2 := tc_bind (.ref C)
  have ty : (⟨hp, gn, dr, tk, os⟩ : Shared).TypeIs (.ref C) "type" := ⟨_, at_, rfl⟩
  refine codeAny_of_tree ?_
  show wpAny _ _ (callAny (.ref C) _) _ _ _
  repeat (any_goals (first | assumption | (with_reducible refine wpAny_loadPart_at at_ ?_) | wp_step))
  refine ⟨rfl, codeAny_call_builtin_at (Code.quiet_builtin _ (by decide +kernel)) entry_typeCall (wpAny_check_type_call_sub at_ ?_)⟩
  repeat (first | (with_reducible refine wpAny_loadPart_at at_ ?_) | (with_reducible refine wpAny_madeBy_exc at_ ?_) | wp_step)
  refine codeAny_call_builtin_code (Code.quiet_builtin _ F.quiet) (er_check F hB at_ (er_new F hB hA hN at_ few ?_))
  show wpAny _ _ _ _ _ _
  unfold isInstance
  repeat (first | (with_reducible refine wpAny_loadPart_at made ?_) | wp_step)
  refine wpAny_isSubtype_exc at2 ?_
  rw [own]
  repeat wp_step
  show wpAny _ _ (typeLookup (.ref C) _) _ _ _
  refine fi2.at (wpAny_holding (wpAny_bind (bi2.at (wpAny_bind (wpAny_call (codeAny_mono q fun r s' z => ?_))))))
  match r, z with
  | .error e, z => exact z
  | .ok .next, z => exact z.elim
  | .ok .brk, z => exact z.elim
  | .ok .cont, z => exact z.elim
  | .ok (.ret v), ⟨e, z⟩ =>
    subst e
    first
      | exact wpAny_pure (wpAny_pure z)
      | (wp_walk; exact z)
/-! ### super().__init__(..): the args are laid anew -/
theorem er_bound {b : Bas} (O : BasOk b) {e : Addr} {oe : Obj} {M : Model} {Q : Unit → Shared → Prop} (at_ : hp.get? C = some (excClassObj n1 n2 C N bs bm hd sn sb ab col dd j0 j1 j2 j3 j5 b.nwI)) (he : hp.get? e = some oe) (hc : oe.cls = .ref C) (q : Q () ⟨hp, gn, dr, tk, os⟩) :
    wpAny M A (checkBoundCall b.itI ⟨.ref e :: args, []⟩) Q E ⟨hp, gn, dr, tk, os⟩ := by
  have st := O.star
  simp only [checkBoundCall, O.ik, O.ir]
  repeat (first | (with_reducible refine wpAny_loadPart_at he ?_; rw [hc]) | (with_reducible refine wpAny_loadPart_at at_ ?_) | wp_step)
  refine wpAny_onRaise ?_
  rw [show ∀ (x y : String) (n : Nat), Bind.check ⟨.positional, "*", b.it, .self, [⟨"args", .varPos, false⟩]⟩ x y n (List.map (fun z => z.fst) ({ pos := Value.ref e :: args } : Args).kw) = pure () from fun x y n => check_star_args _ _ _ _ _ _]
  exact wpAny_pure q
theorem er_super {b : Bas} (O : BasOk b) {u e t0 : Addr} {Q : Value → Shared → Prop} (at_ : hp.get? C = some (excClassObj n1 n2 C N bs bm hd sn sb ab col dd j0 j1 j2 j3 j5 b.nwI)) (he : hp.get? e = some (HandSPX.excO C t0)) (hu : hp.get? u = some (kxs_mw b.itI e)) (few : args.length ≤ sizeLine)
    (q : ∀ h' t1, (∀ a o, a ≠ e → hp.get? a = some o → h'.get? a = some o) → h'.get? e = some (HandSPX.excO C t1) → Q .none ⟨h', gn, dr, tk, os⟩) : wpAny (model P w) A (call (.ref u) args) Q E ⟨hp, gn, dr, tk, os⟩ := by
  refine wpAny_call (codeAny_of_tree ?_)
  show wpAny _ A.in1 (callAny (.ref u) ⟨args, []⟩) _ _ _
  simp only [callAny]
  refine wpAny_bind (wpAny_load hu ?_)
  simp only [kxs_mw, show (Value.type "method-wrapper" == Value.type "method" || Value.type "method-wrapper" == Value.type "builtin_function_or_method" || Value.type "method-wrapper" == Value.type "method-wrapper") = true by decide, if_true]
  refine KFB.if_so (by decide) (wpAny_bind (er_bound O at_ he rfl (wpAny_bind (wpAny_pure (wpAny_pure ?_)))))
  refine ⟨plainId_quiet O.ip _, codeAny_builtin O.ie ?_⟩
  rw [Around.under_plainId O.ip _]
  wp_walk
  refine q _ hp.objs.size (fun a o ha ho => ?_) ?_
  · rw [Heap.get?_update_other _ _ (Ne.symm ha)]; exact Heap.get?_push_of_some _ ho
  · rw [Heap.get?_update_self _ (Heap.get?_push_of_some _ he) rfl]; rfl
end
end DL

namespace DL
open PySem L2 PySem.Spec PySem.F PySem.Calls PyProof.Rows
/-- an own error class over the base b, its field f -/
structure ErC (K : Fg) (b : Bas) (C : Addr) (f : Str) : Prop where
  cls : ∃ n1 n2 N bs bm sn sb ab col dd j0 j1 j2 j3 j5, K.lookup C = some (excClassObj n1 n2 C N bs bm true sn sb ab col dd j0 j1 j2 j3 j5 b.nwI) ∧ overB b.tl bm = true
  sa : PySem.W.findIn K (.ref C) "__setattr__" = some (some (.builtin "object.__setattr__"))
  exC : PySem.W.subIn K (.ref C) (.type "BaseException") = some true
  tyC : PySem.W.typeIn K (.ref C) = some (.type "type")
  kC : PySem.W.keepIn K (.ref C) = true
  nf : PySem.W.findIn K (.ref C) f = some none
  sup : PySem.W.ks_superIn K C C "__init__" = some (some (.builtin b.itI))
  subI : PySem.W.subIn K (.ref C) (.type b.it) = some true
  slf : PySem.W.mroIn K C (.ref C) = some true
section
variable {P : Program} {w : World} {A : Around} {R : Result → Shared → Prop} {E : Value → Shared → Prop} {hp : Heap} {gn : Array GenState} {dr : Drawn} {tk : Nat} {os : OsState}
/-- self.f = v: the first field of such an object -/
theorem er_store {K : Fg} {b : Bas} (O : BasOk b) {C x t0 : Addr} {f : Str} {v : Value} {tt : Tok} (T : ErC K b C f) (kin : K.In hp) (hx : hp.get? x = some (HandSPX.excO C t0))
    (q : ∀ h' tk' dx, (∀ a o, a ≠ x → hp.get? a = some o → h'.get? a = some o) → hp.objs.size ≤ dx → dx ≠ x → h'.get? x = some { cls := .ref C, dict := some dx, data := .fields #[.ref t0, .none, .none, .none, .bool false, .none] } →
      h'.Ns1 dx (fun y => if y = f then some v else none) → R (.ok (.ret .none)) ⟨h', gn, dr, tk', os⟩) :
    codeAny (model P w) A (.call (.builtin "object.__setattr__") ⟨[.ref x, .str f tt, v], []⟩) R ⟨hp, gn, dr, tk, os⟩ := by
  obtain ⟨n1, n2, N, bs, bm, sn, sb, ab, col, dd, j0, j1, j2, j3, j5, hC, ho⟩ := T.cls
  have cd : PySem.W.clsIn K C = some { name := n1, bases := bs, mro := .ref C :: bm, ns := N, qualname := n2, hasDict := true, slotNames := sn, subclasses := sb, abstract := ab, collection := col, hasDel := false } := by unfold PySem.W.clsIn; rw [hC] <;> rfl
  have I : PySem.W.InstAt hp x (HandSPX.excO C t0) C none := ⟨hx, rfl, rfl, trivial⟩
  have SF := store_object
  have full : overB b.tl (.ref C :: bm) = true := ho
  have obj : (Value.ref C :: bm).contains (.type "object") = true := (overB_has "object" _ full).trans O.hO
  have away : x ≠ hp.objs.size := Nat.ne_of_lt (Heap.lt_size hx)
  have sub : PySem.W.Looks (model P w) hp (isInstance (.ref x) (.type "object")) true := I.type.andThen (PySem.W.looks_mroIn kin (by unfold PySem.W.mroIn; rw [cd, Option.bind_some, if_neg (by show ¬ (List.isEmpty (Value.ref C :: bm) = true); exact Bool.false_ne_true), obj]))
  refine codeAny_call_builtin SF.slot.plain SF.entry (@PySem.W.check_slot (model P w) _ _ ⟨hp, gn, dr, tk, os⟩ "object.__setattr__" "object" "__setattr__" (.ref x) [.str f tt, v] [] _ SF.kind SF.split sub (SF.args (.ref x) (.str f tt) v) ?_)
  have lm : PySem.W.Looks (model P w) hp (mroOf (.ref C)) (.ref C :: bm) := (PySem.W.looks_clsIn kin cd).andThen .now
  have lt : PySem.W.Looks (model P w) hp (Builtin.ObjectAttr.storeTaker? none) none := .now
  have lc : PySem.W.Looks (model P w) hp (classData C) _ := PySem.W.looks_clsIn kin cd
  rw [PySem.W.osa_eq, refuse_eq]
  refine wpAny_bind (wpAny_bind (I.type.at (wpAny_bind (lm.at ?_))))
  rw [overB_pass (O.pass _) _ full]
  refine wpAny_pure (wpAny_bind (I.type.at (wpAny_bind ((PySem.W.looks_findIn kin T.nf).at (wpAny_bind (lt.at ?_))))))
  show wpAny _ _ (Builtin.ObjectAttr.storeInOwnDict (.ref x) (.ref C) (.str f tt) f v false) _ _ _
  unfold Builtin.ObjectAttr.storeInOwnDict Builtin.ObjectAttr.ownDictForStores
  repeat (first | (with_reducible refine HandSPX.store_in_new ?_ ?_) | (with_reducible refine wpAny_loadPart_at hx ?_) | (with_reducible refine lc.at ?_) | wp_step)
  · exact ⟨_, #[], _, (Heap.get?_update_ne _ _ _ _ away.symm).trans (Heap.get?_push_at rfl rfl), rfl, fun e he => absurd he (by simp), fun _ => rfl⟩
  · intro h' tk' n1 same
    refine q h' tk' hp.objs.size (fun a o ha e => ?_) (Nat.le_refl _) away.symm ?_ n1
    · exact (same.2 a (Nat.ne_of_lt (Heap.lt_size e))).trans ((Heap.get?_update_ne _ _ _ _ ha).trans (Heap.get?_push_of_some _ e))
    · exact (same.2 x away).trans (Heap.get?_update_self _ (Heap.get?_push_of_some _ hx) rfl)
end
/-! ### def __init__(self, x): super().__init__("..."); self.f = x -/
/-- what is wished for: the object at a gets a dict with the one field -/
def spIn (C : Addr) (f : Str) : Sp := fun us H Q _ => ∃ (a : Addr) (y : V), us = [.ref a, y] ∧ H a = some (exo a C none) ∧ ∀ dx, H dx = none → dx ≠ a → Q .non (upd (upd H dx (exd dx [(f, y)])) a (exo a C (some dx)))
/-- where the def stands, and what it says -/
structure InitAt (P : Program) (K : Fg) (C fI : Addr) (x f : Str) (st : Stmt) (fd : FuncData) : Prop where
  ex : ∃ (qual : Str) (dV kV doc pm ct oc : Value) (an od : Option Addr) (cda cc : Addr) (osl : Array (Option Value)), fd = PySem.W.ksFn "__init__" qual (defArgs st) (defBody st) (defScope st) dV kV doc pm an (.ref cda) ct cc ∧
    K.lookup fI = some ⟨oc, od, .func fd, osl⟩ ∧ PySem.W.codeIn K (.ref cda) qual = true ∧ (∃ ccl cdd vs ccs file tf, K.lookup cda = some ⟨ccl, cdd, .fields vs, ccs⟩ ∧ vs[2]? = some (.str file tf) ∧ ((P.main.file : Str) == file) = true) ∧ ∃ cl cld csl, K.lookup cc = some ⟨cl, cld, .cell (some (.ref C)), csl⟩
  say : ∃ (text : Str) (kk : Nat) (p0 p1 p2 p3 p4 p5 p6 p7 p8 p9 : Pos), defBody st = [.Expr (.Call (.Attribute (.Call (.Name "super" p0) [] [] p1) "__init__" p2) [.Constant (.str text) kk p3] [] p4) p5, .Assign [.Attribute (.Name "self" p6) f p7] (.Name x p8) p9] ∧
    ∀ env : Env, ∃ pl : Sem Bool, eval (.Call (.Attribute (.Call (.Name "super" p0) [] [] p1) "__init__" p2) [.Constant (.str text) kk p3] [] p4) env = (do
      let o ← attributeBase (.Call (.Name "super" p0) [] [] p1) "__init__" env (eval (.Call (.Name "super" p0) [] [] p1) env)
      standAt p2.atName
      let (g, first) ← holding [o] (getMethod o "__init__" pl)
      callWith p4 g first (backTo p4 (starEach [.Constant (.str text) kk p3] env)) [])
  prm : ∃ ar : Arg, ((defArgs st).posonlyargs ++ (defArgs st).args).head? = some ar ∧ ar.arg = "self"
  knd : (defScope st).kind = .function
  co : (defScope st).isCoroutine = false
  gen : (defScope st).isGenerator = false
  sup : (defScope st).names.lookup ("super" : Str) = some .globalImplicit
  cls : (defScope st).names.lookup ("__class__" : Str) = some .free
  slf : (defScope st).names.lookup ("self" : Str) = some .local
  par : (defScope st).names.lookup x = some .local
  cel : ∀ y ∈ (defScope st).names, y.2 ≠ .cell
  dif : (("self" : Str) == x) = false
  dbg : (x == ("__debug__" : Str)) = false
/-- the promise of such an __init__: it asks for room alone, whatever is handled -/
structure InitOk (P : Program) (w : World) (K : Fg) (mg : Str → Option Value) (base : Heap) (fI : Addr) (fd : FuncData) (ps : List Str) (sp : Sp) : Prop where
  run : ∀ (A : Around) (outer : List Env) (s : Shared) (H : Hp) (args : Args) (us : List Value) (vs : List V) (Q : VK) (E : XK), A.depth < recursionLimit → Env0 P w K mg base A outer s H → BindsTo s fd args (ps.zip us) → Vals vs us → sp vs H Q E →
    codeAny (model P w) A (.call (.ref fI) args) (CR (L2.CX P w) outer P w H s Q E) s
theorem fn_init {P : Program} {w : World} {K : Fg} {mg : Str → Option Value} {base : Heap} {b : Bas} {C fI : Addr} {x f : Str} {st : Stmt} {fd : FuncData} (O : BasOk b) (T : ErC K b C f) (F : InitAt P K C fI x f st fd)
    (top : (P.main.scope.names.lookup ("super" : Str)).isSome = false) (third : PySem.W.nsIn K cStatics "thirdparty.any" = some none) (nosup : mg "super" = none) : InitOk P w K mg base fI fd ["self", x] (spIn C f) := by
  refine ⟨fun A outer s H args us vs Q E hr e0 hb r ⟨a, y, e, ha, hq⟩ => ?_⟩
  subst e
  obtain ⟨qual, dV, kV, doc, pm, ct, oc, an, od, cda, cc, osl, rfl, lk, hcd, ⟨ccl, cdd, cvs, ccs, file, tf, lkc, lkv, lkf⟩, cl, cld, csl, lcc⟩ := F.ex
  obtain ⟨text, kk, p0, p1, p2, p3, p4, p5, p6, p7, p8, p9, hbody, hev⟩ := F.say
  obtain ⟨ar, har, hself⟩ := F.prm
  obtain ⟨u, rfl, ry⟩ : ∃ u, us = [.ref a, u] ∧ RelV y u := by
    cases r with
    | cons h1 r => cases r with
      | cons h2 r => cases r; cases h1; exact ⟨_, rfl, h2⟩
  obtain ⟨n1, n2, N, bs, bm, sn, sb, ab, col, dd, j0, j1, j2, j3, j5, hC, hov⟩ := T.cls
  have kin : K.In s.heap := e0.mod.kin.keeps fun a o z => (e0.bs a o z).1
  have lim : s.heap.NoLimit := e0.mod.nolimit.keeps fun a o z => (e0.bs a o z).1
  obtain ⟨t0, hx0⟩ := exo_at e0.hok ha
  have cd : PySem.W.clsIn K C = some { name := n1, bases := bs, mro := .ref C :: bm, ns := N, qualname := n2, hasDict := true, slotNames := sn, subclasses := sb, abstract := ab, collection := col, hasDel := false } := by unfold PySem.W.clsIn; rw [hC] <;> rfl
  refine ks_codeAny_call_defAt (body := defBody st) (binds := [("self" : Str), x].zip [.ref a, u]) hr (kin _ _ lk) rfl lim (PySem.W.codeRec_of kin hcd) rfl hb F.cel (fun z hz => ?_) (fun h0 hns kp => ?_) F.co F.gen F.knd
  · have hz : z = (("self" : Str), Value.ref a) ∨ z = (x, u) := by simpa using hz
    rcases hz with rfl | rfl
    · exact F.slf
    · exact F.par
  have kin0 : K.In h0 := kin.keeps kp
  have nsO : ∀ {c : Addr} {m : Str → Option Value}, base.Ns c m → h0.Ns c m := fun h => (h.keeps fun a o z => (e0.bs a o z).1).keeps kp
  obtain ⟨mb, hmb, hbb⟩ := e0.mod.blt
  have look : ∀ z v, (z = ("self" : Str) ∧ v = Value.ref a) ∨ (z = x ∧ v = u) → ([("self" : Str), x].zip [Value.ref a, u]).reverse.lookup z = some v := by
    rintro z v (⟨rfl, rfl⟩ | ⟨rfl, rfl⟩)
    · show ([(x, u), ("self", Value.ref a)] : List (Str × Value)).lookup ("self" : Str) = _
      rw [List.lookup_cons, F.dif]
      rfl
    · show ([(z, v), ("self", Value.ref a)] : List (Str × Value)).lookup z = _
      rw [List.lookup_cons, beq_self_eq_true]
  rw [hbody]
  have hint : interactive (callEnv (PySem.W.ksFn "__init__" qual (defArgs st) [.Expr (.Call (.Attribute (.Call (.Name "super" p0) [] [] p1) "__init__" p2) [.Constant (.str text) kk p3] [] p4) p5, .Assign [.Attribute (.Name "self" p6) f p7] (.Name x p8) p9] (defScope st) dV kV doc pm an (.ref cda) ct cc) s.heap.objs.size fI) = false := by
    unfold interactive
    rw [show (callEnv (PySem.W.ksFn "__init__" qual (defArgs st) [.Expr (.Call (.Attribute (.Call (.Name "super" p0) [] [] p1) "__init__" p2) [.Constant (.str text) kk p3] [] p4) p5, .Assign [.Attribute (.Name "self" p6) f p7] (.Name x p8) p9] (defScope st) dV kV doc pm an (.ref cda) ct cc) s.heap.objs.size fI).scope.kind = .function from F.knd] <;> rfl
  obtain ⟨pl, hev⟩ := hev (PySem.W.ksEnv qual (defScope st) s.heap.objs.size fI (.ref cda) cc)
  refine ks_wpAt_execs_cons (ks_wpAt_Expr_any (ks_wpAt_MethodCall (ks_wpAt_super_base (env := PySem.W.ksEnv qual (defScope st) s.heap.objs.size fI (.ref cda) cc) F.sup F.cls rfl rfl (kin0 _ _ lk) rfl har rfl (kin0 _ _ lkc) rfl lkv lkf top ?_) hev) hint)
  refine PySem.W.ks_loadName_global F.knd F.sup (loadGlobal_builtin (env := PySem.W.ksEnv qual (defScope st) s.heap.objs.size fI (.ref cda) cc) (nsO e0.mod.glob) nosup (nsO hmb) ((hbb _ (by decide)).trans (show bootBuiltins "super" = some (.type "super") by first | boot_by_name | rfl | kernel_rfl)) ⟨rfl, ?_⟩)
  refine wpAny_loadName_free F.knd F.cls rfl ⟨_, kin0 _ _ lcc, rfl⟩ ?_
  rw [hself]
  refine wpAny_loadName_local F.knd F.slf hns (look _ _ (.inl ⟨rfl, rfl⟩)) ?_
  have hC0 := kin0 _ _ hC
  have hx1 := kp _ _ hx0
  refine ks_wpAny_isType_cls hC0 rfl ⟨rfl, ?_⟩
  refine ks_wpAny_call_super hC0 rfl hx1 rfl (fun c z => nomatch z) (PySem.W.looks_mroIn kin0 T.slf) fun h1 hso k1 => ?_
  have kin1 : K.In h1 := kin0.keeps k1
  have hx2 := k1 _ _ hx1
  have I2 : PySem.W.InstAt h1 a (HandSPX.excO C t0) C none := ⟨hx2, rfl, rfl, trivial⟩
  have sup := T.sup
  unfold PySem.W.ks_superIn at sup
  rw [cd] at sup
  have aC : a ≠ C := PySem.W.ks_ne kin1 I2 cd
  refine PySem.W.kxs_getMethod O.kx hso (PySem.W.looks_opaque kin1 third) (l₀ := .ref C :: bm) (fun A Q E s k q => wpAny_bind ((PySem.W.looks_clsIn kin1 cd) A _ E s k (wpAny_pure q))) rfl kin1 sup (I2.type.andThen (PySem.W.looks_subIn kin1 T.subI)) aC rfl ?_
  have k2 : ∀ c o, h1.get? c = some o → (h1.push (PySem.W.kxs_mw b.itI a)).get? c = some o := fun c o z => Heap.get?_push_of_some _ z
  refine PySem.W.kxs_callWith (i := b.itI) (x := a) rfl (evalArgs_plain (spliced_cons (wpAny_Constant_str (k := kk) (pos := p3) (spliced_nil ⟨Heap.get?_push_at rfl rfl, ?_⟩))))
  refine er_super O (k2 _ _ (kin1 _ _ hC)) (k2 _ _ hx2) (Heap.get?_push_at rfl rfl) (by show 1 ≤ sizeLine; decide) fun h2 t1 k3 hx3 => ?_
  have old : ∀ c o, c ≠ a → s.heap.get? c = some o → h2.get? c = some o := fun c o n z => k3 c o n (k2 _ _ (k1 _ _ (kp _ _ z)))
  have na : ∀ {c : Addr}, H c = none → c ≠ a := fun n z => by rw [z, ha] at n; cases n
  have kin2 : K.In h2 := fun c o z => old c o (na (e0.bs c o (e0.mod.kin c o z)).2) (kin _ _ z)
  have aL : s.heap.objs.size ≠ a := fun z => absurd (Heap.lt_size hx0) (by rw [z]; exact Nat.lt_irrefl _)
  have ns2 : h2.Ns s.heap.objs.size fun y => ([("self" : Str), x].zip [Value.ref a, u]).reverse.lookup y := by
    obtain ⟨oL, es, ep, hL, r⟩ := hns
    exact ⟨oL, es, ep, k3 _ _ aL (k2 _ _ (k1 _ _ hL)), r⟩
  have big : s.heap.objs.size < h2.objs.size := by
    obtain ⟨oL, es, ep, hL, r⟩ := ns2
    exact Heap.lt_size hL
  refine wpAt_of_wpAny (wpAny_execs_cons (plainObj_wpAny_Assign_Attribute (wpAny_Name (wpAny_loadName_local F.knd F.par ns2 (look _ _ (.inr ⟨rfl, rfl⟩)) (wpAny_Name (wpAny_loadName_local F.knd F.slf ns2 (look _ _ (.inl ⟨rfl, rfl⟩)) ?_))) F.dbg) rfl))
  refine PySem.W.set_plain kin2 (ox := HandSPX.excO C t1) (od := none) ⟨hx3, rfl, rfl, trivial⟩ T.sa (er_store O T kin2 hx3 fun h3 tk' dx k4 dn dne hx4 hn4 => wpAny_execs_nil ?_)
  have kk : ∀ c o, c ≠ a → s.heap.get? c = some o → h3.get? c = some o := fun c o n z => k4 c o n (old c o n z)
  have sdx : s.heap.objs.size ≤ dx := Nat.le_trans (Nat.le_of_lt big) dn
  have hnd : H dx = none := e0.hok.fresh sdx
  have nd : ∀ {c : Addr} {o : Obj}, s.heap.get? c = some o → c ≠ dx := fun z => Nat.ne_of_lt (Nat.lt_of_lt_of_le (Heap.lt_size z) sdx)
  refine ⟨.non, _, rfl, e0.bare, ?_, fun c o z => ?_, rfl, hq dx hnd dne⟩
  · exact {
      keep := fun c o z n _ _ => kk c o (na n) z
      slot := fun c o z n _ _ => ⟨o.slots, kk c o (na n) z⟩
      free := fun c o z n _ => by rw [upd_ne (na n), upd_ne (nd z)]; exact n
      there := fun c o z _ => by
        by_cases hc : c = a
        · exact ⟨_, by rw [hc]; exact hx4⟩
        · exact ⟨o, kk c o hc z⟩
      tups := fun c xs z => by rw [upd_ne (at_ne ha z exo_tup), upd_ne (ne_of_none z hnd)]; exact z
      frzs := fun c o v z => by rw [upd_ne (at_ne ha z exo_frz), upd_ne (ne_of_none z hnd)]; exact z
      tbls := fun c ps z => ⟨#[], by rw [upd_ne (at_ne ha z exo_tbl), upd_ne (ne_of_none z hnd), z]; simp⟩ }
  · by_cases hc : c = a
    · subst hc
      rw [upd_same] at z
      cases z
      exact exo_ok hx4
    · rw [upd_ne hc] at z
      by_cases hc2 : c = dx
      · subst hc2
        rw [upd_same] at z
        cases z
        exact exd_ok hn4 (relO_put (fs := []) ry fun g => True.intro)
      · rw [upd_ne hc2] at z
        exact (e0.hok c o z).stay (fun c2 v h2' z2 => kk c2 v (h2'.elim (fun z3 => by rw [z3]; exact hc) fun z3 => at_ne ha z3 exo_own) z2)
          (fun c2 h2' => by rw [upd_ne (at_ne ha h2' exo_own), upd_ne (ne_of_none h2' hnd)]; exact h2') fun c2 xs h2' => by rw [upd_ne (at_ne ha h2' exo_tup), upd_ne (ne_of_none h2' hnd)]; exact h2'
end DL

namespace DL
open PySem L2 PySem.Spec PyProof.Rows
/-! ### raise X(e) -/
/-- what X(e) makes: the error's own dict with the field -/
def tMk (C : Addr) (f : Str) (te : TE) : L2.St → Hp → XK → Prop := fun σ H Q => te σ H fun y H1 => ∀ d, H1 d = none → Q (.ref C) (some d) (upd H1 d (.xd [(f, y)]))
section
variable {X : Cx} {b : Bas} {C fI : Addr} {f x nm : Str} {fd : FuncData} {e : Expr} {te : TE} {p pos : Pos}
theorem heap_back {H : Hp} {a d : Addr} {u u2 v o : HO} (hn : H a = none) (n : d ≠ a) : upd (del (upd (upd (upd H a u) d v) a u2) a) d o = upd H d o := by
  funext c
  by_cases h1 : c = d
  · rw [h1, upd_same, upd_same]
  · rw [upd_ne h1, upd_ne h1]
    by_cases h2 : c = a
    · rw [h2, del_same, hn]
    · rw [del_ne h2, upd_ne h2, upd_ne h1, upd_ne h2]
theorem pmk_er (O : BasOk b) (T : ErC X.K b C f) (iC : PySem.W.findIn X.K (.ref C) "__init__" = some (some (.ref fI))) (tI : PySem.W.typeIn X.K (.ref fI) = some (.type "function")) (F1 : InitOk X.prog X.w X.K X.mg X.base fI fd ["self", x] (spIn C f))
    (hr : L2H.RoomH 2 X.A) (hb : Binds X.K fd ["self", x] []) (hg : Gl X nm) (hm : X.mg nm = some (.ref C)) (ha : PE X e te) (hdb : (nm == ("__debug__" : Str)) = false := by decide) (hs : starEach [e] X.env = (false, eval e X.env) :: starEach [] X.env := by rfl)
    (hpl : (backTo pos (starEach [] X.env)).any (·.1) = false := by rfl) : L2N.PMk X (.Call (.Name nm p) [e] [] pos) (tMk C f te) := by
  intro pins s σ H Q I h
  obtain ⟨n1, n2, N, bs, bm, sn, sb, ab, col, dd, j0, j1, j2, j3, j5, hC, hov⟩ := T.cls
  obtain ⟨ii, mm, FB⟩ := O.fac
  refine wpAny_Call_Name_kw (ld_glob I hg hm ?_ hdb)
  refine PySem.W.callWith_K (h₀ := X.base) I.ok.mod.kin T.kC (thn ((pa_cons ha pa_nil hs).run pos pins s σ H (fun vs H1 => match vs with | [y] => ∀ d, H1 d = none → Q (.ref C) (some d) (upd H1 d (.xd [(f, y)])) | _ => False) I h) fun us s1 hz => ?_) hs hpl
  obtain ⟨vs, H1, I1, r1, q1⟩ := hz
  obtain ⟨y, rfl⟩ : ∃ y, vs = [y] := by
    match vs, q1 with
    | [y], _ => exact ⟨y, rfl⟩
  have q1 : ∀ d, H1 d = none → Q (.ref C) (some d) (upd H1 d (.xd [(f, y)])) := q1
  obtain ⟨u, rfl, ry⟩ : ∃ u, us = [u] ∧ RelV y u := by
    cases r1 with
    | cons h1 r => cases r; exact ⟨_, rfl, h1⟩
  refine ⟨I1.kIn, ?_⟩
  show wpAny _ _ (call (.ref C) [u]) _ _ _
  obtain ⟨hp, g, dr, tk, os⟩ := s1
  have hsz : hp.objs.size ≤ hp.objs.size + 1 := Nat.le_succ _
  have hn : H1 (hp.objs.size + 1) = none := I1.hok.fresh hsz
  have kk : ∀ c o, hp.get? c = some o → ((hp.push (PySem.W.kdv_tup [u])).push (PySem.HandSPX.excO C hp.objs.size)).get? c = some o := fun c o z => Heap.get?_push_of_some _ (Heap.get?_push_of_some _ z)
  have hget : ((hp.push (PySem.W.kdv_tup [u])).push (PySem.HandSPX.excO C hp.objs.size)).get? (hp.objs.size + 1) = some (PySem.HandSPX.excO C hp.objs.size) := by heap_get
  have I2 : Inv X pins σ (upd H1 (hp.objs.size + 1) (exo (hp.objs.size + 1) C none)) ⟨(hp.push (PySem.W.kdv_tup [u])).push (PySem.HandSPX.excO C hp.objs.size), g, dr, tk, os⟩ :=
    I1.laid (t' := tk) (a := hp.objs.size + 1) (o := exo (hp.objs.size + 1) C none) kk hsz (exo_ok hget)
  have full : overB b.tl (.ref C :: bm) = true := hov
  refine wpAny_call (er_make FB ((overB_has _ _ hov).trans O.hW) ((overB_has _ _ hov).trans O.hA) ((overB_has _ _ hov).trans O.hN) (I1.kIn _ _ hC) (by show 1 ≤ sizeLine; decide) (PySem.W.looks_findIn I1.kIn iC) (fun self => PySem.W.bind_fn I1.kIn self tI)
    (codeAny_mono (F1.run _ X.stack _ (upd H1 (hp.objs.size + 1) (exo (hp.objs.size + 1) C none)) ⟨[Value.ref (hp.objs.size + 1), u], []⟩ [Value.ref (hp.objs.size + 1), u] [V.ref (hp.objs.size + 1), y]
      (fun v H2 => v = .non ∧ ∃ d, H1 d = none ∧ d ≠ hp.objs.size + 1 ∧ H2 = upd (upd (upd H1 (hp.objs.size + 1) (exo (hp.objs.size + 1) C none)) d (exd d [(f, y)])) (hp.objs.size + 1) (exo (hp.objs.size + 1) C (some d))) (fun _ _ _ => False)
      (L2H.RoomH.make (k := 1) hr C [u] []).depth (I2.env0.make C [u] []) ?_ (.cons rfl (.cons ry .nil)) ⟨_, _, rfl, upd_same, fun d hd hda => ⟨rfl, d, ?_, hda, rfl⟩⟩) fun r s' hq' => ?_))
  · have z := hb ⟨(hp.push (PySem.W.kdv_tup [u])).push (PySem.HandSPX.excO C hp.objs.size), g, dr, tk, os⟩ [Value.ref (hp.objs.size + 1), u] I2.kIn rfl
    exact z
  · rw [upd_ne hda] at hd
    exact hd
  cases r with
  | error er =>
    obtain ⟨_, _, _, _, _, _, _, _, _, _, _, _, z⟩ := hq'
    exact z.elim
  | ok fl =>
    cases fl with
    | ret w =>
      obtain ⟨v, H2, os2, bare2, un2, hok2, rv, ev, d, hd1, hda, e2⟩ := hq'
      subst ev e2
      obtain ⟨h2, g2, d2, t2, os'⟩ := s'
      obtain ⟨t0, Gr, J, kG, ge, hoe, na⟩ := mk_end0 (C := C) (d := d) (fs := [(f, y)]) (d2 := d2) (t2 := t2) I1 hsz kk un2 hok2 os2 bare2 upd_same (by rw [upd_ne hda, upd_same]) hd1
      refine ⟨rv, hp.objs.size + 1, _, _, ⟨Gr, g2, d2, t2, os'⟩, _, .ref C, some d, rfl, J, kG, ge, hoe, ⟨rfl, rfl, fun vs hv => by cases hv; rfl⟩, rfl, rfl, na, rfl, bare2, raises_own T.exC T.tyC, ?_⟩
      rw [heap_back hn hda]
      exact q1 d hd1
    | next => exact False.elim hq'
    | brk => exact False.elim hq'
    | cont => exact False.elim hq'
end
/-! ### as data -/
def sRaise (c : Str) (A : DEn) : DSt := fun en => A en >>= fun p => .ex c p.1 p.2
/-- an error class that may be raised -/
structure Err (P : Program) (w : World) (K : Fg) (mg : Str → Option Value) (base : Heap) (cs : Str → Option (Value × Str)) (nm : Str) : Prop where
  ex : ∃ (b : Bas) (C fI : Addr) (f x : Str) (fd : FuncData), BasOk b ∧ ErC K b C f ∧ cs nm = some (.ref C, f) ∧ mg nm = some (.ref C) ∧ PySem.W.findIn K (.ref C) "__init__" = some (some (.ref fI)) ∧ PySem.W.typeIn K (.ref fI) = some (.type "function") ∧
    InitOk P w K mg base fI fd ["self", x] (spIn C f) ∧ Binds K fd ["self", x] []
theorem ds_raise {X : Cx} {G : Gh} {W : WX} {nm : Str} {e : Expr} {A : DEn} {p pos pos2 : Pos} (Er : Err X.prog X.w X.K X.mg X.base G.cls nm) (hr : Room 2 X.A) (hc : X.calm = true) (tk : L2N.Takes X W) (h : DE X G W e A) (hg : Gl X nm := by rfl) (hdb : (nm == ("__debug__" : Str)) = false := by decide)
    (hs : starEach [e] X.env = (false, eval e X.env) :: starEach [] X.env := by rfl) (hpl : (backTo pos (starEach [] X.env)).any (·.1) = false := by rfl) : DS X G W (.Raise (some (.Call (.Name nm p) [e] [] pos)) none pos2) (sRaise nm A) := by
  obtain ⟨b, C, fI, f, x, fd, O, T, ecs, em, iC, tI, F1, hb⟩ := Er.ex
  refine ⟨ps_imp (L2N.ps_raise hc tk (pmk_er O T iC tI F1 (L2H.roomH_of hr) hb hg em h.pe hdb hs hpl)) fun Ds σ H ⟨en, M, B, rel, m⟩ => ⟨en, M, B, rel, Post.imp (post_bind.mp m) (fun q mq v H1 M1 rel1 st1 rd1 d hd => ?_) fun _ _ _ h => h.ew σ⟩⟩
  have ex := ext_new (o := HO.xd [(f, v)]) hd
  exact mq (.ref C) (some d) σ _ M1 B (rel1.ext ex) (st1.trans (.ext ex)) (fun _ => rfl) ⟨f, d, _, v, ecs, rfl, upd_same, fun z => rel1.avh d z hd, by simp [List.lookup], rd1.ext ex⟩
end DL

namespace DL
open PySem L2 PySem.Spec PyProof.Rows
/-! ### try: .. except C1 as n: .. except C2 as n: .. -/
abbrev ClT : Type := Value × Nat × (Addr → Value → Option Addr → TS)
def endsAt (i : Nat) (D : Ends) : Ends := { nx := fun σ H => D.nx (σ.set i none) H, rt := D.rt, bk := fun σ H => D.bk (σ.set i none) H, ct := fun σ H => D.ct (σ.set i none) H }
/-- what the clauses wish of an error of the body -/
def wCl (K : Fg) (Wout : WX) (D : Ends) : List ClT → WX
  | [] => Wout
  | (c, i, ts) :: r => fun cls d σ H => ∃ b, PySem.W.exmOne K cls c = some b ∧ (b = true → ∀ a, H a = none → ts a cls d (endsAt i D) (σ.set i (some (.ref a))) H) ∧ (b = false → wCl K Wout D r cls d σ H)
inductive ClsOk (X : Cx) : List ExceptHandler → List ClT → Prop
  | nil : ClsOk X [] []
  | cons {x n : Str} {c : Value} {i : Nat} {ts : Addr → Value → Option Addr → TS} {b₀ : Stmt} {rest : List Stmt} {p1 p2 : Pos} {hds : List ExceptHandler} {l : List ClT} (names : Names X x c) (at_ : X.N[i]? = some n) (loc : X.env.kindOf n = some .local)
      (suite : ∀ (a : Addr) (oe : Obj) (cls : Value) (d : Option Addr) (pn : List (Addr × Obj)), Zc cls d oe → (∃ vs, oe.data = .fields vs) → PSs (X.suite a ((a, oe) :: pn)) (b₀ :: rest) (ts a cls d)) (more : ClsOk X hds l) :
      ClsOk X (.ExceptHandler (some (.Name x p1)) (some n) (b₀ :: rest) p2 :: hds) ((c, i, ts) :: l)
section
variable {X : Cx} {body : List Stmt} {h1 : ExceptHandler} {hds : List ExceptHandler} {l : List ClT} {pos : Pos} {tb : WX → TS} {Wout : WX}
theorem ps_tryC (stk : X.stack = X.env :: X.outer) (frm : X.env.frame = some X.env.locals) (nd : X.N.Nodup) (tk : L2.Takes X Wout)
    (bod : ∀ (W : WX) (pn : List (Addr × Obj)) (xe : Value → Shared → Prop), L2.Takes (X.tr pn xe) W → PassesOwn (model X.prog X.w) X.A X.env xe → PSs (X.tr pn xe) body (tb W))
    (cl : ClsOk X (h1 :: hds) l) : PS X (.Try body (h1 :: hds) [] [] pos) (fun D σ H => tb (wCl X.K Wout D l) D σ H) := by
  refine ⟨fun pins s0 σ0 H0 D I0 t0 => ?_⟩
  have ok := I0.ok
  have fr : X.A.frames = some (X.env :: X.outer) := by rw [ok.frames, stk]
  let back : Value → Shared → Prop := fun e sa => wpAny (model X.prog X.w) X.A (noteFrame e X.env) (fun _ sb => wpAny (model X.prog X.w) X.A (setFlight e none) (fun _ sc => wpAny (model X.prog X.w) X.A (handleBy e X.env (h1 :: hds)) (SP X pins D) X.xe sc) X.xe sb) X.xe sa
  have bk : L2.Takes (X.tr (X.pn ++ pins) back) (wCl X.K Wout D l) := by
    rintro u s1 ⟨a, B, sI, pins', σ1, H1, cls, d, rfl, J', nb, up, sky, na, os, ag, wish⟩
    have J : Inv X pins σ1 H1 sI := J'.ofTry ok
    show wpAny (model X.prog X.w) X.A (noteFrame (.ref a) X.env) _ _ _
    refine L2.Sky.land Zc.steady fr frm (show Sky B (X.env :: X.outer) a (Zc cls d) X.env.locals s1.heap by rw [← stk]; exact sky) fun h3 fl3 up3 => ?_
    have J3 : Inv X pins σ1 H1 { s1 with heap := h3 } := J.landed nb fl3.1 (up.trans up3) os ag
    obtain ⟨oe3, vs3, he3, hz3, hd3⟩ := fl3.there
    have off : a ∉ frs (X.env :: X.outer) := fun hm => by
      obtain ⟨_, o', e', hnf⟩ := Heap.FunFrames.mem fl3.2.2.1 hm
      rw [he3] at e'
      cases e'
      exact hnf _ hd3
    have nL : a ≠ X.env.locals := fun z => off (List.mem_filterMap.mpr ⟨X.env, List.mem_cons_self, by rw [frm, z]⟩)
    have nF : a ∉ X.fs := fun hm => let ⟨e, he, q⟩ := List.mem_filterMap.mp hm; off (List.mem_filterMap.mpr ⟨e, List.mem_cons_of_mem _ he, q⟩)
    have S3 := J3.suite he3 hd3 na nL nF
    have go : ∀ (hs : List ExceptHandler) (l' : List ClT), ClsOk X hs l' → wCl X.K Wout D l' cls d σ1 H1 → wpAny (model X.prog X.w) X.A (handleBy (.ref a) X.env hs) (SP X pins D) X.xe { s1 with heap := h3 } := by
      intro hs l' hk
      induction hk with
      | nil =>
        intro w
        refine wpAny_handleBy_nil ?_
        obtain ⟨_, _, _, oe, vs, T, oT, ts', he, hz, hd, e1, hr⟩ := id fl3
        unfold PySem.passOn
        refine wpAny_bind (wpAny_field he hd e1 ?_)
        rw [if_neg (show ¬ ((Value.ref T == Value.none) = true) by simp)]
        have last : wpAny (model X.prog X.w) X.A (setFlight (.ref a) X.env.frame) (fun _ s4 => wpAny (model X.prog X.w) X.A (throw (.ref a) : Sem Flow) (SP X pins D) X.xe s4) X.xe { s1 with heap := h3 } := by
          rw [frm]
          exact HandSPX.setFlight_upZ fl3 fun h4 hh4 up4 => wpAny_throw (tk _ _ ⟨a, B, sI, pins, σ1, H1, cls, d, rfl, J, nb, (up.trans up3).trans up4, .inr (.inr (by rw [stk]; exact hh4)), na, os, ag, w⟩)
        first
          | exact wpAny_bind (wpAny_pure (wpAny_bind last))
          | exact wpAny_bind last
      | @cons x n c i ts b₀ rest p1 p2 hs2 l2 names at_ loc suite more ih =>
        rintro ⟨b, hb, yes, no⟩
        refine wpAny_handleBy_cons (codeAny_handlers_test ?_) (by intro q; cases q)
        have LT : PySem.W.Looks (model X.prog X.w) h3 (typeOf (.ref a)) cls := fun _ _ _ s k q => wpAny_typeOf_ref (k _ _ he3) (by rw [hz3.1]; exact q)
        have LM := PySem.W.exm_one (M := model X.prog X.w) J3.kIn LT hb
        have ask : ∀ {Q E : Value → Shared → Prop}, Q c { s1 with heap := h3 } → wpAny (model X.prog X.w) (X.A.mark (some (.ref a))) (eval (.Name x p1) X.env) Q E { s1 with heap := h3 } := fun {Q E} q => by
          obtain ⟨hg, hdb, hm | ⟨hm, hv, hn⟩⟩ := names
          · exact ld_glob (X := X.suite a ((a, oe3) :: (X.pn ++ pins))) S3 hg hm q hdb
          · exact ld_blt (X := X.suite a ((a, oe3) :: (X.pn ++ pins))) S3 hg hm hv q hn hdb
        refine ask (LM.here ?_)
        cases b with
        | false => exact ih (no rfl)
        | true =>
          refine codeAny_handlers_suite_as (HandSPX.lands_againZ fl3 fun h4 fl4 up4 => ?_)
          have J4 : Inv X pins σ1 H1 { s1 with heap := h4 } := J.landed nb fl4.1 ((up.trans up3).trans up4) os ag
          obtain ⟨oe4, vs4, he4, hz4, hd4⟩ := fl4.there
          refine store_ok (X := X.suite a ((a, oe4) :: (X.pn ++ pins))) (v := .ref a) (J4.suite he4 hd4 na nL nF) nd at_ (.inl loc) rfl (fun s5 S5 => ?_) (.inr loc)
          refine wpAny_mono ((suite a oe4 cls d (X.pn ++ pins) hz4 ⟨_, hd4⟩).run [] s5 _ H1 _ S5 (yes rfl a na)) (fun f s6 hsp => ?_) fun _ _ z => False.elim z
          have away : ∀ {σ6 : L2.St} {H6 : Hp} {Q : Shared → Prop}, Inv (X.suite a ((a, oe4) :: (X.pn ++ pins))) [] σ6 H6 s6 → (∀ s7, Inv X pins (σ6.set i none) H6 s7 → Q s7) → wpAny (model X.prog X.w) X.A (do bindName X.env n .none; unbindBehindTheSuite X.env n p2) (fun _ s7 => Q s7) X.xe s6 :=
            fun S6 hq => gone_ok (S6.unsuite ok) nd at_ loc hq
          match f, hsp with
          | .next, ⟨_, _, S6, q6⟩ => exact away S6 fun s7 J7 => ⟨_, _, J7, q6⟩
          | .brk, ⟨_, _, S6, q6⟩ => exact away S6 fun s7 J7 => ⟨_, _, J7, q6⟩
          | .cont, ⟨_, _, S6, q6⟩ => exact away S6 fun s7 J7 => ⟨_, _, J7, q6⟩
          | .ret u, ⟨_, _, _, S6, r6, q6⟩ => exact away S6 fun s7 J7 => ⟨_, _, _, J7, r6, q6⟩
    exact go _ _ cl wish
  refine wpAny_Try_except (wpAny_mono ((bod (wCl X.K Wout D l) (X.pn ++ pins) back bk PassesOwn.looking).run [] s0 σ0 H0 D (I0.toTry _) t0) (fun f s1 hsp => ?_) fun e s1 he => he)
  match f, hsp with
  | .next, ⟨σ1, H1, J, q⟩ => exact wpAny_execs_nil ⟨σ1, H1, J.ofTry ok, q⟩
  | .brk, ⟨σ1, H1, J, q⟩ => exact ⟨σ1, H1, J.ofTry ok, q⟩
  | .cont, ⟨σ1, H1, J, q⟩ => exact ⟨σ1, H1, J.ofTry ok, q⟩
  | .ret u, ⟨v, σ1, H1, J, r, q⟩ => exact ⟨v, σ1, H1, J.ofTry ok, r, q⟩
end
end DL

namespace PySem.W
open PySem PySem.Spec PySem.Calls PyProof.Rows
section
variable {prog : Program} {w : World} {A : Around} {E : Value → Shared → Prop} {s : Shared} {K : Frag} {x C : Addr} {ox : Obj} {od : Option Obj}
/-- e.__class__ of an own error that has its dict -/
theorem own_class {Q : Option Value → Shared → Prop} (T : L2.ExcC K C) (X : K.In s.heap) (I : InstAt s.heap x ox C od) (q : Q (some (.ref C)) { s with toks := s.toks + 1 }) : wpAny (model prog w) A (getAttr? (.ref x) "__class__") Q E s := by
  have found : findObj K C od "__class__" = some (.bind (.builtin "getset_descriptor.__get__") (.builtin "object.__class__")) := by
    obtain ⟨cd, hc, _⟩ := any_some T.hd
    unfold findObj
    rw [hc, Option.bind_some, T.ha, Option.bind_some]
    simp [T.hn, T.ht]
  obtain ⟨hp, g, d, t, os⟩ := s
  have k0 := I.type (M := model prog w)
  have k1 := looks_findIn (M := model prog w) X T.hg
  have k2 := looks_findIn (M := model prog w) X T.hk
  have k3 := looks_find (M := model prog w) X I found
  have k4 : Looks (model prog w) hp (isInstance (.ref x) (.type "BaseException")) true := k0.andThen (looks_subIn X T.hs)
  have n1 : (Value.builtin "BaseException.__getattribute__" == Value.builtin "object.__getattribute__") = false := by decide +kernel
  have n2 : (onTheHeap (Value.ref C) && Value.builtin "BaseException.__getattribute__" == Value.builtin "object.__getattribute__") = false := by rw [n1]; rfl
  have n3 : (false && onTheHeap (Value.builtin "BaseException.__getattribute__")) = false := rfl
  unfold getAttr? getAttrBy? getAttrBy
  refine wpAny_bind (wpAny_mkText (wpAny_bind (wpAny_attempt (wpAny_holding (wpAny_bind (k0.at (wpAny_bind (k1.at (show wpAny _ _ (if (onTheHeap (Value.ref C) && Value.builtin "BaseException.__getattribute__" == Value.builtin "object.__getattribute__") = true then _ else _) _ _ _ from ?_)))))))))
  rw [n2, if_neg Bool.false_ne_true]
  unfold getAttrByItsOwn hookBefore
  refine wpAny_bind ?_
  rw [if_pos (show onTheHeap (Value.ref C) = true from rfl)]
  refine k2.at (wpAny_bind (wpAny_attempt (wpAny_holding ?_)))
  unfold callGetattribute
  rw [n3, if_neg Bool.false_ne_true]
  unfold boundAndCalled
  rw [PySem.F.excAttr_ValueError.ga.bind (.ref x)]
  refine wpAny_bind (wpAny_pure (show wpAny _ _ (call (.builtin "BaseException.__getattribute__") [.ref x, .str "__class__" t]) _ _ _ from wpAny_call (codeAny_call_builtin PySem.F.excAttr_ValueError.ga.plain PySem.F.entry_bexc_ga ?_)))
  refine @check_slot (model prog w) _ _ ⟨hp, g, d, t + 1, os⟩ "BaseException.__getattribute__" "BaseException" "__getattribute__" (.ref x) [.str "__class__" t] [] _ (by decide +kernel) (by decide +kernel) k4 (PySem.F.args_bexc_ga (.ref x) (.str "__class__" t)) ?_
  unfold Builtin.«object.__getattribute__»
  refine wpAny_bind (wpAny_of_eq (a := ((Value.ref x : Value), [Value.str "__class__" t])) (by first | rfl | (simp only [slotArgs]; rfl)) (wpAny_bind (wpAny_pure (wpAny_bind (k0.at (wpAny_bind (k3.at ?_)))))))
  show wpAny _ _ (holding [Value.builtin "object.__class__"] (call (.builtin "getset_descriptor.__get__") [.builtin "object.__class__", .ref x, .ref C]) >>= ret) _ _ _
  refine wpAny_bind (wpAny_holding (wpAny_call (class_get (s := ⟨hp, g, d, t + 1, os⟩) (ox := ox) (od := od) X I T.hm (wpAny_pure (show wpAny _ _ (handedOut (.ref C)) _ _ _ from ?_)))))
  rw [handedOut_of (v := .ref C) rfl]
  first
    | exact wpAny_pure (wpAny_pure q)
    | exact wpAny_pure q
    | exact wpAny_pure (wpAny_bind (wpAny_pure (wpAny_pure q)))
theorem own_kit (T : L2.ExcC K C) : KitX K (.ref x) (.ref C) (fun h => InstAt h x ox C od) := by
  have cls : ∀ {h : Heap}, K.In h → ∃ o c, h.get? C = some o ∧ o.data = .cls c := fun X => by
    obtain ⟨cd, hc, _⟩ := any_some T.hd
    unfold clsIn at hc
    split at hc
    · rename_i ho
      exact ⟨_, _, X _ _ ho, rfl⟩
    · cases hc
  refine { ty := fun _ _ _ I => I.type, it := fun M h X _ => ?_, ne := fun h tp dd its n sl X ht => ?_, ca := fun X I q => own_class T X I q }
  · obtain ⟨o, c, ho, hd⟩ := cls X
    intro A' Q' E' s' k q
    unfold isType loadHead
    refine wpAny_bind (wpAny_loadPart (k _ _ ho) ?_)
    rw [hd]
    exact wpAny_pure q
  · obtain ⟨o, c, ho, hd⟩ := cls X
    refine Bool.eq_false_iff.mpr fun q => ?_
    have e : C = tp := Value.ref.inj (beq_iff_eq.mp q)
    rw [← e, ho] at ht
    cases ht
    cases hd
end
end PySem.W
namespace DL
open PySem L2 PySem.Spec PyProof.Rows
/-! ### expressions of an except suite -/
/-- what an own error class says of its instances -/
structure XCls (K : Fg) (C : Addr) (f : Str) : Prop where
  xf : XfC K C
  nf : PySem.W.findIn K (.ref C) f = some none
  cc : ExcC K C
/-- of all error classes: their fields' names -/
structure ErrTab (K : Fg) (cs : Str → Option (Value × Str)) (fl : Str → Str) : Prop where
  at_ : ∀ c cls f, cs c = some (cls, f) → ∃ C, cls = .ref C ∧ XCls K C f ∧ f = fl c
theorem XD.ext {K : Fg} {cs : Str → Option (Value × Str)} {H H' : Hp} {O : AS} {cls : Value} {dd : Option Addr} {c : Str} {d : D} (x : XD K cs H O cls dd c d) (e : Ext H H') : XD K cs H' O cls dd c d := by
  obtain ⟨f, a, fs, v, e1, e2, e3, e4, e5, e6⟩ := x
  exact ⟨f, a, fs, v, e1, e2, e _ _ e3, e4, e5, e6.ext e⟩
/-- an error is at hand: its address, its class, its dict, the slot that holds it; what is read is g of it -/
def ZPre (K : Fg) (cs : Str → Option (Value × Str)) (i : Nat) (a : Addr) (cls : Value) (dd : Option Addr) (O : AS) (c : Str) (d : D) (σ : L2.St) (H : Hp) : Prop := (∀ b, O b → H b ≠ none) ∧ XD K cs H O cls dd c d ∧ σ[i]? = some (some (.ref a))
theorem ZPre.ext {K : Fg} {cs : Str → Option (Value × Str)} {i : Nat} {a : Addr} {cls : Value} {dd : Option Addr} {O : AS} {c : Str} {d : D} {σ : L2.St} {H H' : Hp} (z : ZPre K cs i a cls dd O c d σ H) (e : Ext H H') : ZPre K cs i a cls dd O c d σ H' :=
by
  refine ⟨fun b hb => ?_, z.2.1.ext e, z.2.2⟩
  cases h : H b with
  | none => exact absurd h (z.1 b hb)
  | some o => rw [e b o h]; exact fun y => nomatch y
def tZ (K : Fg) (cs : Str → Option (Value × Str)) (i : Nat) (a : Addr) (cls : Value) (dd : Option Addr) (g : Str → D → Option D) : TE := fun σ H Q => ∃ (O : AS) (c : Str) (d z : D), ZPre K cs i a cls dd O c d σ H ∧ g c d = some z ∧ ∀ v H', Ext H H' → RD K H' O v z → Q v H'
def tZs (K : Fg) (cs : Str → Option (Value × Str)) (i : Nat) (a : Addr) (cls : Value) (dd : Option Addr) (g : Str → D → Option (List D)) : TA := fun σ H Q => ∃ (O : AS) (c : Str) (d : D) (z : List D), ZPre K cs i a cls dd O c d σ H ∧ g c d = some z ∧ ∀ vs H', Ext H H' → RDs K H' O vs z → Q vs H'
section
variable {X : Cx} {cs : Str → Option (Value × Str)} {i : Nat} {a : Addr} {oe : Obj} {cls : Value} {dd : Option Addr} {pn : List (Addr × Obj)} {e : Expr} {es : List Expr} {g : Str → D → Option D} {gs : Str → D → Option (List D)} {pos p p2 p3 : Pos} {n nm : Str}
/-- the judgements -/
structure DZ (X : Cx) (cs : Str → Option (Value × Str)) (i : Nat) (a : Addr) (oe : Obj) (cls : Value) (dd : Option Addr) (pn : List (Addr × Obj)) (e : Expr) (g : Str → D → Option D) : Prop where pe : PE (X.suite a ((a, oe) :: pn)) e (tZ X.K cs i a cls dd g)
structure DZs (X : Cx) (cs : Str → Option (Value × Str)) (i : Nat) (a : Addr) (oe : Obj) (cls : Value) (dd : Option Addr) (pn : List (Addr × Obj)) (es : List Expr) (g : Str → D → Option (List D)) : Prop where pa : PA (X.suite a ((a, oe) :: pn)) es (tZs X.K cs i a cls dd g)
def zC (k : D) : Str → D → Option D := fun _ _ => some k
theorem dz_c {v : V} {k : D} (h : PE (X.suite a ((a, oe) :: pn)) e (tC v)) (hk : ∀ K H O, RD K H O v k) : DZ X cs i a oe cls dd pn e (zC k) := ⟨pe_imp h fun σ H Q ⟨O, c, d, z, pre, hz, q⟩ => by
  cases hz
  exact q v H (fun _ _ h => h) (hk _ _ _)⟩
theorem dz_str {x : Str} {j : Nat} : DZ X cs i a oe cls dd pn (.Constant (.str x) j pos) (zC (.str x)) := dz_c pe_str fun _ _ _ => .str x
theorem dz_bl {b : Bool} {j : Nat} : DZ X cs i a oe cls dd pn (.Constant (.bool b) j pos) (zC (.bool b)) := dz_c pe_bl fun _ _ _ => .bl b
theorem dz_non {j : Nat} : DZ X cs i a oe cls dd pn (.Constant .none j pos) (zC .none) := dz_c pe_non fun _ _ _ => .non
theorem dz_int {x : Int} {j : Nat} : DZ X cs i a oe cls dd pn (.Constant (.int x) j pos) (zC (.int x)) := dz_c pe_int fun _ _ _ => .int x
/-- n.f -/
def zF (fl : Str → Str) (f : Str) : Str → D → Option D := fun c d => if fl c = f then some d else none
theorem dz_fld {fl : Str → Str} {f : Str} (TT : ErrTab X.K cs fl) (hz : Zc cls dd oe) (hf : ∃ vs, oe.data = .fields vs) (hN : X.N[i]? = some n) (hv : Vis X.env.scope n) (hd : (n == ("__debug__" : Str)) = false := by decide) (hcd : (n == ("__classdict__" : Str)) = false := by decide)
    (hb : attributeBase (.Name n p) f X.env (eval (.Name n p) X.env) = eval (.Name n p) X.env := by rfl) : DZ X cs i a oe cls dd pn (.Attribute (.Name n p) f pos) (zF fl f) := ⟨⟨fun pins s σ H Q I ⟨O, c, d, z, pre, hg, q⟩ => by
  obtain ⟨hO, ⟨f', b, fs, v, e1, e2, e3, e4, e5, e6⟩, hs⟩ := pre
  obtain ⟨C, ec, T, ef⟩ := TT.at_ _ _ _ e1
  unfold zF at hg
  split at hg
  · rename_i hfl
    cases hg
    have ff : f' = f := ef.trans hfl
    subst ff
    refine (pe_xf (cls := cls) (d := dd) T.xf T.nf hz hf (pe_var (X := X.suite a ((a, oe) :: pn)) (i := i) hN hv hd hcd) hb).run pins s σ H Q I ?_
    exact ⟨.ref a, hs, rfl, ec, b, fs, v, e2, e3, e5, q v H (fun _ _ h => h) e6⟩
  · cases hg⟩⟩
theorem dzs_nil : DZs X cs i a oe cls dd pn [] (fun _ _ => some []) := ⟨pa_imp pa_nil fun σ H Q ⟨O, c, d, z, pre, hz, q⟩ => by
  cases hz
  exact q [] H (fun _ _ h => h) .nil⟩
def zCons (g : Str → D → Option D) (gs : Str → D → Option (List D)) : Str → D → Option (List D) := fun c d => (g c d).bind fun z => (gs c d).map fun zs => z :: zs
theorem dzs_cons (h : DZ X cs i a oe cls dd pn e g) (hr : DZs X cs i a oe cls dd pn es gs) (hs : starEach (e :: es) X.env = (false, eval e X.env) :: starEach es X.env := by rfl) : DZs X cs i a oe cls dd pn (e :: es) (zCons g gs) :=
  ⟨pa_imp (pa_cons h.pe hr.pa hs) fun σ H Q ⟨O, c, d, z, pre, hz, q⟩ => by
    obtain ⟨y, hy, hz⟩ := Option.bind_eq_some_iff.mp hz
    obtain ⟨ys, hys, hz⟩ := Option.map_eq_some_iff.mp hz
    subst hz
    exact ⟨O, c, d, y, pre, hy, fun v H1 x1 r1 => ⟨O, c, d, ys, pre.ext x1, hys, fun vs H2 x2 r2 => q _ H2 (fun b o h => x2 b o (x1 b o h)) (.cons (r1.ext x2) r2)⟩⟩⟩
def zTup (gs : Str → D → Option (List D)) : Str → D → Option D := fun c d => (gs c d).bind fun zs => if zs.length ≤ sizeLine then some (.tuple zs) else none
def zLst (gs : Str → D → Option (List D)) : Str → D → Option D := fun c d => (gs c d).bind fun zs => if zs.length ≤ sizeLine then some (.list zs) else none
theorem dz_tup {j : Nat} (h : DZs X cs i a oe cls dd pn es gs) : DZ X cs i a oe cls dd pn (.Tuple es j pos) (zTup gs) := ⟨pe_imp (pe_tup h.pa) fun σ H Q ⟨O, c, d, z, pre, hz, q⟩ => by
  obtain ⟨ys, hys, hz⟩ := Option.bind_eq_some_iff.mp hz
  split at hz
  · rename_i hl
    cases hz
    refine ⟨O, c, d, ys, pre, hys, fun vs H1 x1 r1 => ⟨by rw [r1.length]; exact hl, fun t ht => q _ _ (fun b o h => ext_new ht b o (x1 b o h)) ?_⟩⟩
    exact new_tup (pre.ext x1).1 r1 (by rw [r1.length]; exact hl) ht
  · cases hz⟩
theorem dz_lst (h : DZs X cs i a oe cls dd pn es gs) : DZ X cs i a oe cls dd pn (.List es pos) (zLst gs) := ⟨pe_imp (pe_lst h.pa) fun σ H Q ⟨O, c, d, z, pre, hz, q⟩ => by
  obtain ⟨ys, hys, hz⟩ := Option.bind_eq_some_iff.mp hz
  split at hz
  · rename_i hl
    cases hz
    refine ⟨O, c, d, ys, pre, hys, fun vs H1 x1 r1 => ⟨by rw [r1.length]; exact hl, fun t ht => q _ _ (fun b o h => ext_new ht b o (x1 b o h)) ?_⟩⟩
    have nO : ¬ O t := fun z => (pre.ext x1).1 t z ht
    exact .lst ⟨upd_same, nO⟩ (by rw [r1.length]; exact hl) (r1.ext (ext_new ht))
  · cases hz⟩
/-- repr(e) -/
def zR (g : Str → D → Option D) : Str → D → Option D := fun c d => (g c d).bind fun z => dRepr [z]
theorem dz_repr (h : DZ X cs i a oe cls dd pn e g) (hgu : X.A.guards = some []) (hu : X.A.units + 64 < cLine) (hm : X.mg "repr" = none) (hg : Gl X "repr" := by rfl) (he : starEach [e] X.env = (false, eval e X.env) :: starEach [] X.env := by rfl) (hpl : (backTo pos (starEach [] X.env)).any (·.1) = false := by rfl) :
    DZ X cs i a oe cls dd pn (.Call (.Name "repr" p) [e] [] pos) (zR g) := ⟨pe_imp (pe_callB (r := rRepr X.K) (cr_repr (X := X.suite a ((a, oe) :: pn)) hgu hu) hg hm (by decide +kernel) (pa_cons h.pe pa_nil he) (by decide) (by decide) he hpl) fun σ H Q ⟨O, c, d, z, pre, hz, q⟩ => by
  obtain ⟨y, hy, hz⟩ := Option.bind_eq_some_iff.mp hz
  refine ⟨O, c, d, y, pre, hy, fun v H1 x1 r1 => ?_⟩
  exact cls_repr (G := gh X.K O false cs []) H1 O [v] [y] z Q (pre.ext x1).1 (.cons r1 .nil) hz fun u H2 x2 r2 => q u H2 (fun b o h => x2 b o (x1 b o h)) r2⟩
/-- isinstance(n, C) -/
def zI (ib : Str → Bool) : Str → D → Option D := fun c _ => some (.bool (ib c))
theorem dz_isi {fl : Str → Str} {ib : Str → Bool} {cv : V} {cu : Value} {y : Str} (TT : ErrTab X.K cs fl) (hz : Zc cls dd oe) (hf : ∃ vs, oe.data = .fields vs) (hN : X.N[i]? = some n) (hv : Vis X.env.scope n) (hc : ClsV cv cu) (hib : ∀ c cl f, cs c = some (cl, f) → PySem.W.kitOne X.K cl cu = some (ib c)) (hn : PE (X.suite a ((a, oe) :: pn)) (.Name y p3) (tC cv)) (hm : X.mg "isinstance" = none)
    (hg : Gl X "isinstance" := by rfl) (hd : (n == ("__debug__" : Str)) = false := by decide) (hcd : (n == ("__classdict__" : Str)) = false := by decide)
    (he : starEach [.Name n p2, .Name y p3] X.env = (false, eval (.Name n p2) X.env) :: starEach [.Name y p3] X.env := by rfl) (he2 : starEach [.Name y p3] X.env = (false, eval (.Name y p3) X.env) :: starEach [] X.env := by rfl) (hpl : (backTo pos (starEach [.Name y p3] X.env)).any (·.1) = false := by rfl) :
    DZ X cs i a oe cls dd pn (.Call (.Name "isinstance" p) [.Name n p2, .Name y p3] [] pos) (zI ib) := by
  have rule : CallR (X.suite a ((a, oe) :: pn)) (.builtin "isinstance") (fun xs H Q => ∃ (O : AS) (c : Str) (d : D), xs = [.ref a, cv] ∧ XD X.K cs H O cls dd c d ∧ Q (.bl (ib c)) H) := by
    intro pins s σ H xs us Q I r ⟨O, c, d, ex, x, q⟩
    subst ex
    obtain ⟨f', b, fs, v, e1, e2, e3, e4, e5, e6⟩ := x
    obtain ⟨C, ec, T, ef⟩ := TT.at_ _ _ _ e1
    subst ec e2
    cases r with
    | cons rx rr => cases rr with
      | cons rt rr =>
        cases rr
        cases rx
        have eu := hc.eq rt
        subst eu
        obtain ⟨hget, _⟩ := I.pin (a, oe) (List.mem_append.mpr (.inl List.mem_cons_self))
        obtain ⟨vs, hvs⟩ := hf
        obtain ⟨mA, hns, hr⟩ := (show ObjOk X.prog X.w H s.heap b (.xd fs) from I.hok b _ e3)
        obtain ⟨od, ho, hl⟩ := lookIn_ns hns
        have J : PySem.W.InstAt s.heap a oe C (some od) := ⟨hget, hz.1, by unfold PySem.W.notCls; rw [hvs] <;> rfl, by rw [hz.2]; exact ho⟩
        exact PySem.W.kia_one (PySem.W.own_kit T.cc) I.kIn J (hib _ _ _ e1) (fun z => nomatch z) fun tk => ⟨.bl (ib c), H, I.kept (t' := tk) fun _ _ z => z, rfl, q⟩
  refine ⟨pe_imp (pe_callB (X := X.suite a ((a, oe) :: pn)) rule hg hm (by decide +kernel) (pa_cons (pe_var (X := X.suite a ((a, oe) :: pn)) (i := i) hN hv hd hcd) (pa_cons hn pa_nil he2) he) (by decide) (by decide) he hpl) fun σ H Q ⟨O, c, d, z, pre, hz', q⟩ => ?_⟩
  cases hz'
  exact ⟨.ref a, pre.2.2, O, c, d, rfl, pre.2.1, q _ H (fun _ _ h => h) (.bl _)⟩
end
end DL

namespace DL
open PySem L2 PySem.Spec PyProof.Rows LamX
/-! ### a lambda without parameters, made -/
abbrev lamO (X : Cx) (params : Arguments) (body : Expr) (scope : Scope) (pm : Value) (c' : Addr) (ct : Value) : Obj := PySem.W.kla_obj "<lambda>" (X.env.qual ++ "<lambda>") params body scope (cloFrom X.env.cells scope.names []) pm c' ct
section
variable {X : Cx} {pins : List (Addr × Obj)} {σ : L2.St} {H : Hp} {s : Shared} {c P : Addr} {params : Arguments} {body : Expr} {scope : Scope} {pos : Pos}
theorem codeO_tbl {c : Addr} {q : Str} {ps : Array Value} : HO.tbl ps ≠ CodeO c q := fun z => by unfold CodeO at z; cases z
theorem lam_new {E Q : Value → Shared → Prop} (I : Inv X pins σ H s) (TB : TabB X.base X.mg c P) (hcode : X.env.code = .ref c) (tb : TabS H P (X.env.qual ++ "<lambda>")) (dfl : defaultsOf params X.env = ([], [])) (free : ∀ y ∈ scope.names, y.2 = .free → ∃ c, X.env.cells.lookup y.1 = some c)
    (q : ∀ (f c' : Addr) (pm ct : Value) (H1 : Hp) (s1 : Shared), Inv X pins σ H1 s1 → (∀ b o, b ≠ P → H b = some o → H1 b = some o) → TabS H1 P (X.env.qual ++ "<lambda>") → s1.heap.get? f = some (lamO X params body scope pm c' ct) → H1 f = none → f ∉ frs X.stack →
      H1 c' = some (CodeO c' (X.env.qual ++ "<lambda>")) → Q (.ref f) s1) : wpAny (model X.prog X.w) X.A (eval (.Lambda params body scope pos) X.env) Q E s := by
  obtain ⟨ps, hP, trip, among⟩ := tb
  have bP := TB.bm.keeps I.bk
  have hP2 : s.heap.get? P = some { cls := .none, data := .fields ps } := I.hok P _ hP
  have nofr : ∀ f, s.heap.objs.size ≤ f → f ∉ frs X.stack := fun f hf z => (List.mem_cons.mp (I.stkSub _ z)).elim (fun e => absurd (Nat.lt_of_lt_of_le (e ▸ I.lt) hf) (Nat.lt_irrefl _)) fun e => I.nofs hf e
  refine PySem.W.kla_eval dfl ?_
  cases hc : codeAmong pos ps.toList with
  | some cv =>
    obtain ⟨c', rfl, hco⟩ := among pos cv hc
    refine PySem.W.kla_makeFunctionHit (mg := X.mg) (c := c) (P := P) (ps := ps) (closure_ok free) I.ok.glob (I.mod.glob.keeps I.bk) hcode (TB.code.keeps I.bk) hP2 trip hc bP fun ct h1 tk hx hsz => ?_
    have I1 := I.kept (h' := h1.push (lamO X params body scope ((X.mg "__name__").getD .none) c' ct)) (t' := tk) fun b o e => Heap.get?_push_of_some _ (hx b o e)
    exact q _ c' _ ct H _ I1 (fun _ _ _ e => e) ⟨ps, hP, trip, among⟩ (Heap.get?_push_size _ rfl) (I.hok.fresh hsz) (nofr _ hsz) hco
  | none =>
    refine PySem.W.kla_makeFunction (mg := X.mg) (c := c) (P := P) (ps := ps) (closure_ok free) I.ok.glob (I.mod.glob.keeps I.bk) hcode (TB.code.keeps I.bk) hP2 trip hc TB.gP bP fun c' ct h1 tk hx hge hlt hrec htb => ?_
    obtain ⟨c2, oc, vs, t, e2, hoc, hd, hv⟩ := hrec
    cases e2
    have big : s.heap.objs.size ≤ h1.objs.size := Nat.le_trans hge (Nat.le_of_lt hlt)
    have nC : H c' = none := I.hok.fresh hge
    obtain ⟨more, hmore⟩ : ∃ more : Array Value, more = #[rawInt pos.line, rawInt pos.col, .ref c'] := ⟨_, rfl⟩
    have el : (ps ++ more).toList = ps.toList ++ [rawInt pos.line, rawInt pos.col, .ref c'] := by rw [hmore]; simp
    have I1 := inv_table (t' := tk) (more := more) (h' := h1.push (lamO X params body scope ((X.mg "__name__").getD .none) c' ct)) I hP (fun b o hb e => Heap.get?_push_of_some _ (hx b o hb e)) (by rw [hmore]; exact Heap.get?_push_of_some _ htb) hge ⟨oc, vs, t, Heap.get?_push_of_some _ hoc, hd, hv⟩
    have kp : ∀ b o, b ≠ P → H b = some o → upd (upd H P (.tbl (ps ++ more))) c' (CodeO c' (X.env.qual ++ "<lambda>")) b = some o := fun b o hb e => by rw [upd_ne (ne_of_none e nC), upd_ne hb]; exact e
    refine q _ c' _ ct _ _ I1 kp ?_ (Heap.get?_push_size _ rfl) ?_ (nofr _ big) upd_same
    · refine ⟨ps ++ more, by rw [upd_ne (ne_of_none hP nC), upd_same], by rw [el]; exact PySem.TriplesOk_snoc _ _ _ _ trip, fun p2 cv hcv => ?_⟩
      rw [el] at hcv
      rcases among_app _ trip hcv with z | z
      · obtain ⟨c0, e1, e3⟩ := among p2 cv z
        exact ⟨c0, e1, kp _ _ (fun z => by rw [z, hP] at e3; exact codeO_tbl (Option.some.inj e3)) e3⟩
      · exact ⟨c', z, upd_same⟩
    · rw [upd_ne (Nat.ne_of_gt hlt), upd_ne (Nat.ne_of_gt (Nat.lt_of_lt_of_le (Heap.lt_size hP2) big))]
      exact I.hok.fresh big
end
/-- a table was written: this body's own -/
theorem Rel.tabbed {G : Gh} {en : En} {σ : L2.St} {H H1 : Hp} {M : AS} {B : Option Addr} {P : Addr} {q : Str} (r : Rel G en σ H M B) (mem : (P, q) ∈ G.T) (uq : ∀ p ∈ G.T, p.1 = P → p.2 = q) (kp : ∀ b o, b ≠ P → H b = some o → H1 b = some o) (tb : TabS H1 P q) : Rel G en σ H1 M B ∧ Step H M H1 M := by
  have mP : M P := (r.tab _ mem).1
  obtain ⟨ps0, hP0⟩ := tabS_at (r.tab _ mem).2
  have st : Step H M H1 M := ⟨fun a o h n => kp a o (fun z => n (z ▸ mP)) h, fun a h => .inl h⟩
  have neP : ∀ {a : Addr} {xs : List V}, H a = some (.lst xs) → a ≠ P := fun h z => by rw [z, hP0] at h; cases h
  refine ⟨⟨r.len, fun j s hj => ?_, r.injo, fun p hp => ⟨(r.box p hp).1, kp _ _ (neP (r.box p hp).2) (r.box p hp).2⟩, r.bne, out_step r.out st, fun a h => ?_, fun p hp => ⟨(r.tab p hp).1, ?_⟩⟩, st⟩
  · have q := r.slot j s hj
    cases s with
    | no => trivial
    | fz d => obtain ⟨v, q1, q2⟩ := q; exact ⟨v, q1, q2.step st⟩
    | sq ns => obtain ⟨v, q1, q2⟩ := q; exact ⟨v, q1, q2.step st⟩
    | fu x => exact q
    | ow es => obtain ⟨p', xs, q1, q2, q3, q4, q5⟩ := q; exact ⟨p', xs, q1, q2, kp _ _ (neP q3) q3, q4, q5.step st⟩
    | od t es => obtain ⟨p', q1, q2, q3⟩ := q; exact ⟨p', q1, q2, q3.step st fun o ho => kp _ _ (fun z => by
        obtain ⟨u, u1, _, u2, _⟩ := q3.at_
        rw [z, hP0] at u1
        exact u2 _ (Option.some.inj u1).symm) ho⟩
    | bx => exact q
    | er c d => exact erOk_step q st
  · by_cases c : a = P
    · obtain ⟨ps, e⟩ := tabS_at tb
      rw [c, e]; exact fun z => nomatch z
    · cases e : H a with
      | none => exact absurd e (r.mh a h)
      | some o => rw [kp a o c e]; exact fun z => nomatch z
  · by_cases c : p.1 = P
    · rw [c, uq p hp c]; exact tb
    · obtain ⟨ps, h1, h2, h3⟩ := (r.tab p hp).2
      refine ⟨ps, kp _ _ c h1, h2, fun pos cv hc => ?_⟩
      obtain ⟨c0, e1, e2⟩ := h3 pos cv hc
      exact ⟨c0, e1, kp _ _ (fun z => by rw [z, hP0] at e2; exact codeO_tbl (Option.some.inj e2)) e2⟩
/-! ### the def that got it calls it -/
section
variable {X : Cx} {pins : List (Addr × Obj)} {σ : L2.St} {H : Hp} {s : Shared}
/-- Z: the context of the def that got the lambda -/
abbrev getCx (X : Cx) (Ng : List Str) (x : Str) (sg : Scope) (g : Addr) (cdg : Value) (s : Shared) (H : Hp) : Cx := cxOf C8.CX0 X.prog X.w X.K X.mg X.base Ng x sg g cdg X.A X.stack s H C8.E0
theorem pe_ask {Ng : List Str} {x : Str} {sg : Scope} {g f c' : Addr} {cdg pm ct : Value} {params : Arguments} {body : Expr} {scope : Scope} {k i : Nat} {a : Str} {pn : List (Addr × Obj)} {xe : Value → Shared → Prop} {W : WX} {E : XK} {tb : TE} {p1 p2 : Pos}
    (I : Inv X pins σ H s) (L : LamS X.env.scope scope) (at_ : s.heap.get? f = some (lamO X params body scope pm c' ct)) (fn : H f = none) (ff : f ∉ frs X.stack) (hgu : X.A.guards = some [])
    (bind : bindArgs (PySem.W.kla_fn "<lambda>" (X.env.qual ++ "<lambda>") params body scope (cloFrom X.env.cells scope.names []) pm (.ref c') ct) ⟨[], []⟩ = pure []) (tk : L2.Takes ((getCx X Ng x sg g cdg s H).tr pn xe) W) (hW : ∀ cls d σ' H', E cls d H' → W cls d σ' H')
    (hr : Room (k + 1) (X.A.deeper (envOfC x sg s.heap.objs.size g cdg))) (bod : ∀ (A : Around) (outer : List Env) (s : Shared) (H : Hp), A.guards = some [] → Room k (A.deeper (lamEnv X scope s.heap.objs.size f c')) → PE (lamCx X A outer s H E scope f c') body tb)
    (hN : Ng[i]? = some a) (hv : Vis sg a) (hd : (a == ("__debug__" : Str)) = false := by decide) (hcd : (a == ("__classdict__" : Str)) = false := by decide) :
    PE ((getCx X Ng x sg g cdg s H).tr pn xe) (.Call (.Name a p1) [] [] p2) (fun σ1 H1 Q => σ1[i]? = some (some (.ref f)) ∧ H1 c' = some (CodeO c' (X.env.qual ++ "<lambda>")) ∧ tb σ H1 Q) := by
  refine ⟨fun pins1 s1 σ1 H1 Q I1 ⟨h1, h2, h3⟩ => wpAny_Call_Name_kw (thn ((pe_var (pos := p1) (i := i) hN hv hd hcd).run pins1 s1 σ1 H1 (fun v H2 => v = .ref f ∧ H2 = H1) I1 ⟨.ref f, h1, rfl, rfl⟩) fun u s2 ⟨v, H2, I2, r2, ev, eH⟩ => ?_)⟩
  subst ev eH
  obtain rfl : u = Value.ref f := r2
  have now : s2.heap.get? f = some (lamO X params body scope pm c' ct) := I2.base.keep f _ at_ fn ff (fun z => nomatch (show f ∈ ([] : List Addr) from z))
  have un : Un (frs X.stack) [] H H2 s.heap s2.heap := I2.base
  obtain ⟨⟨oc, vs, t, hoc, hdc, hvc⟩, _, _⟩ := I2.hok c' _ h2
  have ran : codeAny (model X.prog X.w) (X.A.deeper (envOfC x sg s.heap.objs.size g cdg)) (.call (.ref f) ⟨[], []⟩) (CR (L2.CX X.prog X.w) (envOfC x sg s.heap.objs.size g cdg :: X.stack) X.prog X.w H2 s2 Q E) s2 := by
    refine PySem.W.kla_callFunE hr.depth now rfl L.co L.gen rfl ⟨c', oc, vs, t, rfl, hoc, hdc, hvc⟩ ?_
    rw [bind]
    refine wpAny_pure (wpAny_newFunctionEnv (fun y hy => (L.own y hy).2) (fun y hy => absurd hy (by simp)) (fun h3' hns hsb => ⟨I2.nolimit.fresh _ hsb, ?_⟩) L.kind)
    show codeAny _ _ (.expr body (lamEnv X scope s2.heap.objs.size f c')) _ _
    have J := lam_start2 (A := X.A.deeper (envOfC x sg s.heap.objs.size g cdg)) (outer := envOfC x sg s.heap.objs.size g cdg :: X.stack) (E := E) (f := f) (c' := c') (tk := s2.toks + ([] : List (Str × Value)).length) I L I2.env0 hr.hd un hns fun b o e => hsb.extBut b o (Nat.ne_of_lt (Heap.lt_size e)) (Heap.get?_push_of_some _ e)
    refine PySem.W.kla_codeExpr (wpAny_mono ((bod (X.A.deeper (envOfC x sg s.heap.objs.size g cdg)) _ s2 H2 hgu (hr.deeper _)).run [] _ _ H2 Q J h3) (fun v s' hq => ?_) fun e s' hq => hq)
    obtain ⟨w', H', J', rv, q⟩ := hq
    exact ⟨w', H', J'.os, J'.bare, J'.base, J'.hok, rv, q⟩
  refine PySem.W.callWith_F0 ⟨_, _, _, _, now⟩ (wpAny_call (codeAny_mono ran fun r s' hq => ?_))
  match r, hq with
  | .error e, hq => exact passes_call tk hW pins1 σ1 H2 s2 e s' I2 hq
  | .ok (.ret u), hq => exact I2.after hq
  | .ok .next, hq => exact False.elim hq
  | .ok .brk, hq => exact False.elim hq
  | .ok .cont, hq => exact False.elim hq
end
end DL

namespace DL
open PySem L2 PySem.Spec PyProof.Rows LamX
/-! ### the clauses of such a def, each of which hands something back -/
abbrev ClD : Type := Value × (Str → D → Option D)
inductive DHs (Z : Cx) (cs : Str → Option (Value × Str)) (i : Nat) : List ExceptHandler → List ClD → Prop
  | nil : DHs Z cs i [] []
  | cons {x n : Str} {c : Value} {e : Expr} {g : Str → D → Option D} {p1 p2 p3 : Pos} {hds : List ExceptHandler} {l : List ClD} (names : Names Z x c) (at_ : Z.N[i]? = some n) (loc : Z.env.kindOf n = some .local)
      (suite : ∀ (a : Addr) (oe : Obj) (cls : Value) (dd : Option Addr) (pn : List (Addr × Obj)), Zc cls dd oe → (∃ vs, oe.data = .fields vs) → DZ Z cs i a oe cls dd pn e g) (more : DHs Z cs i hds l) :
      DHs Z cs i (.ExceptHandler (some (.Name x p1)) (some n) [.Return (some e) p3] p2 :: hds) ((c, g) :: l)
def clT (K : Fg) (cs : Str → Option (Value × Str)) (i : Nat) (q : ClD) : ClT := (q.1, i, fun a cls d D σ H => tZ K cs i a cls d q.2 σ H D.rt)
theorem DHs.ok {Z : Cx} {cs : Str → Option (Value × Str)} {i : Nat} {hds : List ExceptHandler} {l : List ClD} (h : DHs Z cs i hds l) : ClsOk Z hds (l.map (clT Z.K cs i)) := by
  induction h with
  | nil => exact .nil
  | cons names at_ loc suite more ih => exact .cons names at_ loc (fun a oe cls d pn h1 h2 => pss_one (ps_ret (suite a oe cls d pn h1 h2).pe)) ih
/-- what the def wishes of an error of what it got -/
def hearQ (K : Fg) (cs : Str → Option (Value × Str)) (Q : VK) : List ClD → XK
  | [] => fun _ _ _ => False
  | (cv, g) :: r => fun cls d H => ∃ b, PySem.W.exmOne K cls cv = some b ∧ (b = true → ∃ (O : AS) (c : Str) (e z : D), (∀ b, O b → H b ≠ none) ∧ XD K cs H O cls d c e ∧ g c e = some z ∧ ∀ v H', Ext H H' → RD K H' O v z → Q v H') ∧ (b = false → hearQ K cs Q r cls d H)
theorem hear_cl {K : Fg} {cs : Str → Option (Value × Str)} {i : Nat} {D : Ends} {cls : Value} {d : Option Addr} {σ : L2.St} {H : Hp} (hi : i < σ.length) : ∀ {l : List ClD}, hearQ K cs D.rt l cls d H → wCl K W0 D (l.map (clT K cs i)) cls d σ H
  | [], h => h
  | (cv, g) :: r, ⟨b, e1, yes, no⟩ => ⟨b, e1, fun hb a na => by
      obtain ⟨O, c, e, z, hO, x, hg, q⟩ := yes hb
      exact ⟨O, c, e, z, ⟨hO, x, by rw [List.getElem?_set_self hi]⟩, hg, q⟩, fun hb => hear_cl hi (no hb)⟩
theorem takes_len {Z : Cx} {W : WX} (tk : L2.Takes Z W) : L2.Takes Z (fun cls d σ H => σ.length = Z.N.length → W cls d σ H) := by
  rintro u s' ⟨a, B, sI, pins, σ, H, cls, d, e, I, nb, up, sky, na, os, ag, w⟩
  exact tk u s' ⟨a, B, sI, pins, σ, H, cls, d, e, I, nb, up, sky, na, os, ag, w I.len⟩
def TTh (K : Fg) (cs : Str → Option (Value × Str)) (l : List ClD) (wq : V → Hp → VK → Prop) : (XK → Hp → VK → Prop) → Hp → VK → Prop := fun tl H Q => tl (hearQ K cs Q l) H fun v H1 => wq v H1 Q
section
variable {X : Cx} {Ng : List Str} {x a q : Str} {sg : Scope} {g : Addr} {cdg : Value} {cs : Str → Option (Value × Str)} {l : List ClD} {h1 : ExceptHandler} {hds : List ExceptHandler} {p1 p2 p3 p4 p8 : Pos}
/-- try: return R(a()) / except ..: return .. -/
theorem gives_ret {R : Expr} {wq : V → Hp → VK → Prop} (nd : Ng.Nodup) (h0 : ∀ f : Addr, (L2.start Ng [V.ref f])[0]? = some (some (V.ref f))) (hl : 1 < Ng.length)
    (wr : ∀ (s : Shared) (H : Hp) (pn : List (Addr × Obj)) (xe : Value → Shared → Prop) (te : TE), PE ((getCx X Ng x sg g cdg s H).tr pn xe) (.Call (.Name a p1) [] [] p2) te → PE ((getCx X Ng x sg g cdg s H).tr pn xe) R (fun σ H Q => te σ H fun v H1 => wq v H1 Q))
    (cl : ∀ (s : Shared) (H : Hp), DHs (getCx X Ng x sg g cdg s H).nox cs 1 (h1 :: hds) l) : GivesTo X Ng x sg g cdg [.Try [.Return (some R) p3] (h1 :: hds) [] [] p8] a q (TTh X.K cs l wq) := by
  intro f c' s H Q tl act hc h
  refine ⟨_, pss_one (ps_tryC (X := (getCx X Ng x sg g cdg s H).nox) (Wout := W0) (tb := fun W D σ H => ∃ Ech : XK, (∀ cls d σ' H', Ech cls d H' → σ'.length = Ng.length → W cls d σ' H') ∧ σ[0]? = some (some (.ref f)) ∧ H c' = some (CodeO c' q) ∧ tl Ech H fun v H1 => wq v H1 D.rt)
    rfl rfl nd L2.takes0 (fun W pn xe tk _ => ?_) (cl s H).ok), ?_⟩
  · refine ⟨fun pins s' σ H' D I ⟨Ech, hW, e1, e2, e3⟩ => ?_⟩
    have ask := act (fun cls d σ H => σ.length = Ng.length → W cls d σ H) pn xe Ech p1 p2 (takes_len tk) hW
    exact (pss_one (ps_ret (pos := p3) (wr s H pn xe _ ask))).run pins s' σ H' D I ⟨e1, e2, e3⟩
  · exact ⟨hearQ X.K cs Q l, fun cls d σ' H' e n => hear_cl (D := { nx := fun _ H' => Q .non H', rt := Q }) (by rw [n]; exact hl) e, h0 f, hc, h⟩
/-- try: a() / except ..: return .. / return None -/
theorem gives_none {kk : Nat} (nd : Ng.Nodup) (h0 : ∀ f : Addr, (L2.start Ng [V.ref f])[0]? = some (some (V.ref f))) (hl : 1 < Ng.length)
    (sw : ∀ (s : Shared) (H : Hp), swapsWith (.Call (.Name a p1) [] [] p2) none p3.line (getCx X Ng x sg g cdg s H).env = pure false)
    (cl : ∀ (s : Shared) (H : Hp), DHs (getCx X Ng x sg g cdg s H).nox cs 1 (h1 :: hds) l) : GivesTo X Ng x sg g cdg [.Try [.Expr (.Call (.Name a p1) [] [] p2) p3] (h1 :: hds) [] [] p8, .Return (some (.Constant .none kk p4)) p4] a q (TTh X.K cs l fun _ H Q => Q .non H) := by
  intro f c' s H Q tl act hc h
  refine ⟨_, pss_cons (ps_tryC (X := (getCx X Ng x sg g cdg s H).nox) (Wout := W0) (tb := fun W D σ H => ∃ Ech : XK, (∀ cls d σ' H', Ech cls d H' → σ'.length = Ng.length → W cls d σ' H') ∧ σ[0]? = some (some (.ref f)) ∧ H c' = some (CodeO c' q) ∧ tl Ech H fun v H1 => D.nx σ H1)
    rfl rfl nd L2.takes0 (fun W pn xe tk _ => ?_) (cl s H).ok) (pss_one (ps_ret pe_non)), ?_⟩
  · refine ⟨fun pins s' σ H' D I ⟨Ech, hW, e1, e2, e3⟩ => ?_⟩
    have ask := act (fun cls d σ H => σ.length = Ng.length → W cls d σ H) pn xe Ech p1 p2 (takes_len tk) hW
    exact (pss_one (ps_expr (pos := p3) ask (sw s H))).run pins s' σ H' D I ⟨e1, e2, e3⟩
  · refine ⟨hearQ X.K cs Q l, fun cls d σ' H' e n => hear_cl (by rw [n]; exact hl) e, h0 f, hc, h⟩
end
/-! ### x(lambda: body) -/
def tLamD (P : Addr) (q : Str) (TT : (XK → Hp → VK → Prop) → Hp → VK → Prop) (t : XK → TE) : TE := fun σ H Q => TabS H P q ∧ ∀ H1, (∀ b o, b ≠ P → H b = some o → H1 b = some o) → TabS H1 P q → TT (fun E H' Q' => t E σ H' Q') H1 Q
section
variable {X : Cx}
theorem pe_heard {TT : (XK → Hp → VK → Prop) → Hp → VK → Prop} {x a : Str} {g c P : Addr} {k : Nat} {pg : Arguments} {bg : List Stmt} {sg : Scope} {dV kV doc pm cdv ct oc : Value} {an od : Option Addr} {osl : Array (Option Value)} {Ng : List Str} {params : Arguments} {body : Expr} {scope : Scope} {t : XK → TE} {p lpos pos : Pos}
    (hg : Gl X x) (hm : X.mg x = some (.ref g)) (hk : PySem.W.keepIn X.K (.ref g) = true) (lk : X.K.lookup g = some ⟨oc, od, .func (PySem.W.fnOf x x pg bg sg dV kV doc pm an cdv ct), osl⟩) (hcg : PySem.W.codeIn X.K cdv x = true)
    (hb : L2.Binds X.K (PySem.W.fnOf x x pg bg sg dV kV doc pm an cdv ct) [a] []) (Sg : FnScope Ng [a] sg) (hNg : Ng[0]? = some a) (hva : Vis sg a) (gives : GivesTo X Ng x sg g cdv bg a (X.env.qual ++ "<lambda>") TT)
    (TB : TabB X.base X.mg c P) (hcode : X.env.code = .ref c) (hr : Room (k + 2) X.A) (hgu : X.A.guards = some []) (L : LamS X.env.scope scope) (hdef : defaultsOf params X.env = ([], []))
    (bind : ∀ (q : Str) (cl : List (Str × Addr)) (pm cv ctv : Value), bindArgs (PySem.W.kla_fn "<lambda>" q params body scope cl pm cv ctv) ⟨[], []⟩ = pure [])
    (bod : ∀ (A : Around) (outer : List Env) (s : Shared) (H : Hp) (E : XK) (f c' : Addr), A.guards = some [] → Room k (A.deeper (lamEnv X scope s.heap.objs.size f c')) → PE (lamCx X A outer s H E scope f c') body (t E))
    (hdb : (x == ("__debug__" : Str)) = false := by decide) (hd : (a == ("__debug__" : Str)) = false := by decide) (hcd : (a == ("__classdict__" : Str)) = false := by decide) :
    PE X (.Call (.Name x p) [.Lambda params body scope lpos] [] pos) (tLamD P (X.env.qual ++ "<lambda>") TT t) := by
  refine ⟨fun pins s σ H Q I ⟨tb, h⟩ => wpAny_Call_Name_kw (ld_glob I hg hm (PySem.W.callWith_K (h₀ := X.base) I.ok.mod.kin hk ?_ (by rfl) (by rfl)) hdb)⟩
  show wpAny _ _ (spliced ((false, eval (.Lambda params body scope lpos) X.env) :: backTo pos (starEach [] X.env))) _ _ s
  refine Calls.spliced_cons (lam_new I TB hcode tb hdef (L.has I.ok) fun f c' pm' ctv H1 s1 I1 kp tb1 at_ fn ff hco => Calls.spliced_nil ⟨I1.kIn, ?_⟩)
  have ran : codeAny (model X.prog X.w) X.A (.call (.ref g) ⟨[.ref f], []⟩) (CR C8.CX0 X.stack X.prog X.w H1 s1 Q C8.E0) s1 := by
    refine run_ofS (N := Ng) (ps := [a]) (us := [.ref f]) (vs := [.ref f]) lk hcg Sg hr I1.env0 (hb s1 [.ref f] I1.kIn rfl) (.cons rfl .nil) rfl fun hr1 => ?_
    obtain ⟨t1, p1, q1⟩ := gives f c' s1 H1 Q (fun E H' Q' => t E σ H' Q') (fun W pn xe E p1 p2 tk hW => pe_ask (i := 0) I1 L at_ fn ff hgu (bind _ _ _ _ _) tk hW hr1 (fun A outer s H g1 r1 => bod A outer s H E f c' g1 r1) hNg hva hd hcd) hco (h H1 kp tb1)
    exact ⟨t1, p1.nox, q1⟩
  refine wpAny_call (codeAny_mono ran fun r s2 hq => ?_)
  match r, hq with
  | .error e, hq => exact (show False from hq).elim
  | .ok (.ret u), hq => exact I1.after hq
  | .ok .next, hq => exact False.elim hq
  | .ok .brk, hq => exact False.elim hq
  | .ok .cont, hq => exact False.elim hq
end
/-! ### as data -/
abbrev HdT : Type := Str × (Str → D → Option D)
def hearD (sb : Str → Str → Bool) : List HdT → Str → D → Option D
  | [], _, _ => none
  | (k, f) :: r, c, d => if sb c k = true then f c d else hearD sb r c d
def eHeard (tf : D → Option D) (sb : Str → Str → Bool) (hs : List HdT) (A : DEn) : DEn := fun en => match A en with
  | .ok p => liftO (tf p.1) >>= fun z => .ok (z, p.2)
  | .ex c d en' => liftO (hearD sb hs c d) >>= fun z => .ok (z, en')
  | .bad => .bad
/-- the clauses' classes -/
inductive HsOk (K : Fg) (cs : Str → Option (Value × Str)) (sb : Str → Str → Bool) : List HdT → List ClD → Prop
  | nil : HsOk K cs sb [] []
  | cons {k : Str} {f : Str → D → Option D} {cv : Value} {hs : List HdT} {l : List ClD} (h : ∀ c cls fl, cs c = some (cls, fl) → PySem.W.exmOne K cls cv = some (sb c k)) (r : HsOk K cs sb hs l) : HsOk K cs sb ((k, f) :: hs) ((cv, f) :: l)
theorem hearQ_of {K : Fg} {cs : Str → Option (Value × Str)} {sb : Str → Str → Bool} {hs : List HdT} {l : List ClD} (ok : HsOk K cs sb hs l) {H : Hp} {O : AS} {cls : Value} {dd : Option Addr} {c : Str} {d z : D} {Q : VK} (hO : ∀ b, O b → H b ≠ none) (x : XD K cs H O cls dd c d) (e : hearD sb hs c d = some z)
    (q : ∀ v H', Ext H H' → RD K H' O v z → Q v H') : hearQ K cs Q l cls dd H := by
  induction ok with
  | nil => cases e
  | @cons k f cv hs l h r ih =>
    obtain ⟨fl, b, fs, v, e1, rest⟩ := id x
    refine ⟨sb c k, h _ _ _ e1, fun hb => ?_, fun hb => ?_⟩
    · unfold hearD at e
      rw [if_pos hb] at e
      exact ⟨O, c, d, z, hO, x, e, q⟩
    · unfold hearD at e
      rw [if_neg (by rw [hb]; exact Bool.false_ne_true)] at e
      exact ih e
/-- what is told of a value -/
def WqOk (K : Fg) (wq : V → Hp → VK → Prop) (tf : D → Option D) : Prop := ∀ (H : Hp) (O : AS) (v : V) (d z : D) (Q : VK), (∀ b, O b → H b ≠ none) → RD K H O v d → tf d = some z → (∀ u H', Ext H H' → RD K H' O u z → Q u H') → wq v H Q
theorem heard_tr {X : Cx} {G : Gh} {W : WX} {P : Addr} {q : Str} {A : DEn} {sb : Str → Str → Bool} {hs : List HdT} {l : List ClD} {tf : D → Option D} {wq : V → Hp → VK → Prop} (hK : G.K = X.K) (mem : (P, q) ∈ G.T) (uq : ∀ p ∈ G.T, p.1 = P → p.2 = q) (ok : HsOk X.K G.cls sb hs l) (hw : WqOk X.K wq tf) :
    ∀ σ H Q, tE G W (eHeard tf sb hs A) σ H Q → tLamD P q (TTh X.K G.cls l wq) (fun E => tE G (fun cls d _ H => E cls d H) A) σ H Q := fun σ H Q ⟨en, M, B, rel, m⟩ => by
  refine ⟨(rel.tab _ mem).2, fun H1 kp tb => ?_⟩
  obtain ⟨r1, st1⟩ := rel.tabbed mem uq kp tb
  refine ⟨en, M, B, r1, ?_⟩
  unfold eHeard at m
  cases e : A en with
  | bad => rw [e] at m; exact m.elim
  | ok p =>
    rw [e] at m
    obtain ⟨z, hz, mz⟩ := post_lift.mp m
    intro v H2 M2 r2 st2 rd
    rw [hK] at rd
    exact hw H2 _ v p.1 z Q r2.avh rd hz fun u H3 ex r3 => mz u H3 M2 (r2.ext ex) ((st1.trans st2).trans (.ext ex)) (by rw [hK]; exact r3)
  | ex c d en1 =>
    rw [e] at m
    obtain ⟨z, hz, mz⟩ := post_lift.mp m
    intro cls dd H2 M2 r2 st2 x
    obtain ⟨f, a, fs, v, x1, x2, x3, x4, x5, x6⟩ := x
    exact hearQ_of (d := d) ok r2.avh ⟨f, a, fs, v, x1, x2, x3, x4, x5, hK ▸ x6⟩ hz fun u H3 ex r3 => mz u H3 M2 (r2.ext ex) ((st1.trans st2).trans (.ext ex)) (by rw [hK]; exact r3)
end DL

namespace DL
open PySem L2 PySem.Spec PyProof.Rows LamX
/-! ### what is told of the value: R(a()) -/
def wqId : V → Hp → VK → Prop := fun v H Q => Q v H
def wqRepr (K : Fg) (wq : V → Hp → VK → Prop) : V → Hp → VK → Prop := fun v H Q => wq v H fun u H1 => rRepr K [u] H1 Q
def wqTup (c : Str) (wq : V → Hp → VK → Prop) : V → Hp → VK → Prop := fun v H Q => wq v H fun u H1 => [V.str c, u].length ≤ sizeLine ∧ ∀ t, H1 t = none → Q (.ref t) (upd H1 t (.tup [.str c, u]))
def wqLst (c : Str) (wq : V → Hp → VK → Prop) : V → Hp → VK → Prop := fun v H Q => wq v H fun u H1 => [V.str c, u].length ≤ sizeLine ∧ ∀ t, H1 t = none → Q (.ref t) (upd H1 t (.lst [.str c, u]))
def tfRepr (tf : D → Option D) : D → Option D := fun d => (tf d).bind fun z => dRepr [z]
def tfTup (c : Str) (tf : D → Option D) : D → Option D := fun d => (tf d).map fun z => .tuple [.str c, z]
def tfLst (c : Str) (tf : D → Option D) : D → Option D := fun d => (tf d).map fun z => .list [.str c, z]
theorem extT {H H1 H2 : Hp} (a : Ext H H1) (b : Ext H1 H2) : Ext H H2 := fun p o h => b p o (a p o h)
theorem oExt {H H1 : Hp} {O : AS} (hO : ∀ b, O b → H b ≠ none) (e : Ext H H1) : ∀ b, O b → H1 b ≠ none := fun b hb => by
  cases h : H b with
  | none => exact absurd h (hO b hb)
  | some o => rw [e b o h]; exact fun y => nomatch y
theorem wok_id {K : Fg} : WqOk K wqId some := fun H O v d z Q hO r e q => by cases e; exact q v H (fun _ _ h => h) r
theorem wok_repr {K : Fg} {wq : V → Hp → VK → Prop} {tf : D → Option D} (h : WqOk K wq tf) : WqOk K (wqRepr K wq) (tfRepr tf) := fun H O v d z Q hO r e q => by
  obtain ⟨y, e1, e2⟩ := Option.bind_eq_some_iff.mp e
  exact h H O v d y _ hO r e1 fun u H1 x1 r1 => cls_repr (G := gh K O false (fun _ => none) []) H1 O [u] [y] z Q (oExt hO x1) (.cons r1 .nil) e2 fun u2 H2 x2 r2 => q u2 H2 (extT x1 x2) r2
theorem wok_tup {K : Fg} {c : Str} {wq : V → Hp → VK → Prop} {tf : D → Option D} (h : WqOk K wq tf) : WqOk K (wqTup c wq) (tfTup c tf) := fun H O v d z Q hO r e q => by
  obtain ⟨y, e1, e2⟩ := Option.map_eq_some_iff.mp e
  subst e2
  exact h H O v d y _ hO r e1 fun u H1 x1 r1 => ⟨by show 2 ≤ sizeLine; decide, fun t ht => q _ _ (extT x1 (ext_new ht)) (new_tup (oExt hO x1) (.cons (.str c) (.cons r1 .nil)) (by show 2 ≤ sizeLine; decide) ht)⟩
theorem wok_lst {K : Fg} {c : Str} {wq : V → Hp → VK → Prop} {tf : D → Option D} (h : WqOk K wq tf) : WqOk K (wqLst c wq) (tfLst c tf) := fun H O v d z Q hO r e q => by
  obtain ⟨y, e1, e2⟩ := Option.map_eq_some_iff.mp e
  subst e2
  refine h H O v d y _ hO r e1 fun u H1 x1 r1 => ⟨by show 2 ≤ sizeLine; decide, fun t ht => q _ _ (extT x1 (ext_new ht)) ?_⟩
  have rr : RDs K H1 O [V.str c, u] [.str c, y] := .cons (.str c) (.cons r1 .nil)
  exact .lst ⟨upd_same, fun z => oExt hO x1 t z ht⟩ (by show 2 ≤ sizeLine; decide) (rr.ext (ext_new ht))
theorem wok_none {K : Fg} : WqOk K (fun _ H Q => Q .non H) fun _ => some .none := fun H O v d z Q hO r e q => by cases e; exact q .non H (fun _ _ h => h) .non
section
variable {Z : Cx} {e : Expr} {te : TE} {wq : V → Hp → VK → Prop} {pos p pc : Pos} {j k : Nat}
abbrev Wr (Z : Cx) (e : Expr) (te : TE) (wq : V → Hp → VK → Prop) : Prop := PE Z e (fun σ H Q => te σ H fun v H1 => wq v H1 Q)
theorem wr_id (h : PE Z e te) : Wr Z e te wqId := h
theorem wr_repr (h : Wr Z e te wq) (hgu : Z.A.guards = some []) (hu : Z.A.units + 64 < cLine) (hg : Gl Z "repr") (hm : Z.mg "repr" = none) (he : starEach [e] Z.env = (false, eval e Z.env) :: starEach [] Z.env := by rfl) (hpl : (backTo pos (starEach [] Z.env)).any (·.1) = false := by rfl) :
    Wr Z (.Call (.Name "repr" p) [e] [] pos) te (wqRepr Z.K wq) := pe_callB (r := rRepr Z.K) (cr_repr hgu hu) hg hm (by decide +kernel) (pa_cons h pa_nil he) (by decide) (by decide) he hpl
theorem wr_tup {c : Str} (h : Wr Z e te wq) (he : starEach [e] Z.env = (false, eval e Z.env) :: starEach [] Z.env := by rfl) (he2 : starEach [.Constant (.str c) j pc, e] Z.env = (false, eval (.Constant (.str c) j pc) Z.env) :: starEach [e] Z.env := by rfl) :
    Wr Z (.Tuple [.Constant (.str c) j pc, e] k pos) te (wqTup c wq) := pe_tup (pa_cons pe_str (pa_cons h pa_nil he) he2)
theorem wr_lst {c : Str} (h : Wr Z e te wq) (he : starEach [e] Z.env = (false, eval e Z.env) :: starEach [] Z.env := by rfl) (he2 : starEach [.Constant (.str c) j pc, e] Z.env = (false, eval (.Constant (.str c) j pc) Z.env) :: starEach [e] Z.env := by rfl) :
    Wr Z (.List [.Constant (.str c) j pc, e] pos) te (wqLst c wq) := pe_lst (pa_cons pe_str (pa_cons h pa_nil he) he2)
end
/-! ### the def, as a fact; its call -/
/-- the def x(a) hears what it got: told by tf, its clauses hs -/
structure Hear (P : Program) (w : World) (K : Fg) (mg : Str → Option Value) (base : Heap) (cs : Str → Option (Value × Str)) (sb : Str → Str → Bool) (x : Str) (tf : D → Option D) (hs : List HdT) : Prop where
  ex : ∃ (g : Addr) (st : Stmt) (a : Str) (Ng : List Str) (cdv : Value) (l : List ClD) (wq : V → Hp → VK → Prop), mg x = some (.ref g) ∧ PySem.W.keepIn K (.ref g) = true ∧ (∃ kV doc pm an ct oc od osl, K.lookup g = some ⟨oc, od, .func (PySem.W.fnOf x x (defArgs st) (defBody st) (defScope st) .none kV doc pm an cdv ct), osl⟩ ∧
      L2.Binds K (PySem.W.fnOf x x (defArgs st) (defBody st) (defScope st) .none kV doc pm an cdv ct) [a] []) ∧ PySem.W.codeIn K cdv x = true ∧ FnScope Ng [a] (defScope st) ∧ Ng[0]? = some a ∧ Vis (defScope st) a ∧ (a == ("__debug__" : Str)) = false ∧ (a == ("__classdict__" : Str)) = false ∧
      HsOk K cs sb hs l ∧ WqOk K wq tf ∧ ∀ (X : Cx) (q : Str), X.prog = P → X.w = w → X.K = K → X.mg = mg → X.base = base → X.A.guards = some [] → (∀ env : Env, (X.A.deeper env).units + 64 < cLine) → GivesTo X Ng x (defScope st) g cdv (defBody st) a q (TTh K cs l wq)
/-- where lambdas are made: the def's own table -/
structure LamAt (mg : Str → Option Value) (base : Heap) (T : List (Addr × Str)) (qual : Str) (cd : Value) : Prop where
  ex : ∃ c P, cd = .ref c ∧ (P, qual ++ "<lambda>") ∈ T ∧ (∀ p ∈ T, p.1 = P → p.2 = qual ++ "<lambda>") ∧ TabB base mg c P
theorem de_heard {X : Cx} {G : Gh} {W : WX} {k : Nat} {x : Str} {tf : D → Option D} {sb : Str → Str → Bool} {hs : List HdT} {params : Arguments} {body : Expr} {scope : Scope} {A : DEn} {p lpos pos : Pos} (Hh : Hear X.prog X.w X.K X.mg X.base G.cls sb x tf hs) (hK : G.K = X.K) (La : LamAt X.mg X.base G.T X.env.qual X.env.code) (hr : Room (k + 2) X.A) (hgu : X.A.guards = some [])
    (hg : Gl X x) (L : LamS X.env.scope scope) (bod : ∀ (A' : Around) (outer : List Env) (s : Shared) (H : Hp) (E : XK) (f c' : Addr), A'.guards = some [] → Room k (A'.deeper (lamEnv X scope s.heap.objs.size f c')) → L2.Takes (lamCx X A' outer s H E scope f c') (fun cls d _ H => E cls d H) →
      DE (lamCx X A' outer s H E scope f c') G (fun cls d _ H => E cls d H) body A)
    (bind : ∀ (q : Str) (cl : List (Str × Addr)) (pm cv ctv : Value), bindArgs (PySem.W.kla_fn "<lambda>" q params body scope cl pm cv ctv) ⟨[], []⟩ = pure [] := by intros; rfl) (hdef : defaultsOf params X.env = ([], []) := by rfl) (hdb : (x == ("__debug__" : Str)) = false := by decide) :
    DE X G W (.Call (.Name x p) [.Lambda params body scope lpos] [] pos) (eHeard tf sb hs A) := by
  obtain ⟨g, st, a, Ng, cdv, l, wq, hm, hk, ⟨kV, doc, pm, an, ct, oc, od, osl, lk, hb⟩, hcg, Sg, hNg, hva, hd, hcd, ok, hw, gives⟩ := Hh.ex
  obtain ⟨c, P, hcode, mem, uq, TB⟩ := La.ex
  exact ⟨pe_imp (pe_heard hg hm hk lk hcg hb Sg hNg hva (gives X _ rfl rfl rfl rfl rfl hgu fun env => (hr.deeper env).units) TB hcode hr hgu L hdef bind (fun A' outer s H E f c' g1 r1 => (bod A' outer s H E f c' g1 r1 (takes_of rfl rfl rfl rfl)).pe) hdb hd hcd) (heard_tr hK mem uq ok hw)⟩
end DL

namespace DL
open PySem L2 PySem.Spec PyProof.Rows LamX
/-! ### facts of an own error class, from the written part -/
/-- the j-th statement of a class's body -/
def inCls (st : Stmt) (j : Nat) : Stmt := match st with
  | .ClassDef _ _ _ b _ _ _ _ _ _ _ => b.getD j (.Pass ⟨0, 0, 0, 0⟩)
  | _ => .Pass ⟨0, 0, 0, 0⟩
/-- what the text of __init__ says -/
structure InitS (x f : Str) (st : Stmt) : Prop where
  say : ∃ (text : Str) (kk : Nat) (p0 p1 p2 p3 p4 p5 p6 p7 p8 p9 : Pos), defBody st = [.Expr (.Call (.Attribute (.Call (.Name "super" p0) [] [] p1) "__init__" p2) [.Constant (.str text) kk p3] [] p4) p5, .Assign [.Attribute (.Name "self" p6) f p7] (.Name x p8) p9] ∧
    ∀ env : Env, ∃ pl : Sem Bool, eval (.Call (.Attribute (.Call (.Name "super" p0) [] [] p1) "__init__" p2) [.Constant (.str text) kk p3] [] p4) env = (do
      let o ← attributeBase (.Call (.Name "super" p0) [] [] p1) "__init__" env (eval (.Call (.Name "super" p0) [] [] p1) env)
      standAt p2.atName
      let (g, first) ← holding [o] (getMethod o "__init__" pl)
      callWith p4 g first (backTo p4 (starEach [.Constant (.str text) kk p3] env)) [])
  prm : ∃ ar : Arg, ((defArgs st).posonlyargs ++ (defArgs st).args).head? = some ar ∧ ar.arg = "self"
  chk : ((defScope st).kind == .function && !(defScope st).isCoroutine && !(defScope st).isGenerator && (defScope st).names.lookup ("super" : Str) == some .globalImplicit && (defScope st).names.lookup ("__class__" : Str) == some .free && (defScope st).names.lookup ("self" : Str) == some .local &&
    (defScope st).names.lookup x == some .local && (defScope st).names.all (fun y => !(y.2 == .cell)) && !(("self" : Str) == x) && !(x == ("__debug__" : Str))) = true
  bnd : ∀ (qual : Str) (dV kV doc pm ct : Value) (an : Option Addr) (cda : Addr) (cc : Addr) (a b : Value), dV = .none → bindArgs (PySem.W.ksFn "__init__" qual (defArgs st) (defBody st) (defScope st) dV kV doc pm an (.ref cda) ct cc) ⟨[a, b], []⟩ = pure [(("self" : Str), a), (x, b)]
section
variable {P : Program} {w : World} {K : Fg} {mg : Str → Option Value} {base : Heap} {cs : Str → Option (Value × Str)} {b : Bas} {C fI cda cc N : Addr} {x f nm qual n1 n2 : Str} {st : Stmt} {kV doc pm ct oc ccl cl : Value} {an od cdd cld dd : Option Addr} {osl ccs csl : Array (Option Value)} {vs : Array Value} {file : Str} {tf : Tok}
  {bs bm : List Value} {sn : List Str} {sb : List Value} {ab : Bool} {col : Option Bool} {j0 j1 j2 j3 j5 : Option Value}
/-- all that is asked of the class, as one computed word -/
def clsB (K : Fg) (b : Bas) (C : Addr) (f : Str) (bm : List Value) : Bool :=
  overB b.tl bm && decide (PySem.W.findIn K (.ref C) "__setattr__" = some (some (.builtin "object.__setattr__"))) && decide (PySem.W.subIn K (.ref C) (.type "BaseException") = some true) && decide (PySem.W.typeIn K (.ref C) = some (.type "type")) && PySem.W.keepIn K (.ref C) &&
  decide (PySem.W.findIn K (.ref C) f = some none) && decide (PySem.W.ks_superIn K C C "__init__" = some (some (.builtin b.itI))) && decide (PySem.W.subIn K (.ref C) (.type b.it) = some true) && decide (PySem.W.mroIn K C (.ref C) = some true)
/-- .. of its instances, caught -/
def xclsB (K : Fg) (C : Addr) (f : Str) : Bool :=
  xfB K C && decide (PySem.W.findIn K (.ref C) f = some none) && decide (PySem.W.findIn K (.ref C) "__class__" = some (some (.builtin "object.__class__"))) && decide (PySem.W.specialIn K (.builtin "object.__class__") "__get__" = some (some (.builtin "getset_descriptor.__get__"))) &&
  decide (PySem.W.takesIn K (.builtin "object.__class__") = some true) && decide (PySem.W.mroIn K C (.type "object") = some true)
theorem xcls_mk (h : xclsB K C f = true) : XCls K C f := by
  unfold xclsB at h
  simp only [Bool.and_eq_true, decide_eq_true_eq] at h
  obtain ⟨⟨⟨⟨⟨h1, h2⟩, h3⟩, h4⟩, h5⟩, h6⟩ := h
  have xf := xfB_ok h1
  exact ⟨xf, h2, ⟨xf.ga, xf.gg, xf.exC, xf.hdC, h3, h4, h5, h6⟩⟩
theorem err_mk (O : BasOk b) (S : InitS x f st) (e2 : K.lookup C = some (excClassObj n1 n2 C N bs bm true sn sb ab col dd j0 j1 j2 j3 j5 b.nwI)) (e3 : clsB K b C f bm = true) (e5 : PySem.W.findIn K (.ref C) "__init__" = some (some (.ref fI))) (e6 : PySem.W.typeIn K (.ref fI) = some (.type "function"))
    (e7 : K.lookup fI = some ⟨oc, od, .func (PySem.W.ksFn "__init__" qual (defArgs st) (defBody st) (defScope st) .none kV doc pm an (.ref cda) ct cc), osl⟩) (e8 : PySem.W.codeIn K (.ref cda) qual = true) (e9 : K.lookup cda = some ⟨ccl, cdd, .fields vs, ccs⟩) (e10 : vs[2]? = some (.str file tf)) (e11 : ((P.main.file : Str) == file) = true)
    (e12 : K.lookup cc = some ⟨cl, cld, .cell (some (.ref C)), csl⟩) (top : (P.main.scope.names.lookup ("super" : Str)).isSome = false) (third : PySem.W.nsIn K cStatics "thirdparty.any" = some none) (nosup : mg "super" = none) (hm : mg nm = some (.ref C)) (hcs : cs nm = some (.ref C, f)) : Err P w K mg base cs nm := by
  unfold clsB at e3
  simp only [Bool.and_eq_true, decide_eq_true_eq] at e3
  obtain ⟨⟨⟨⟨⟨⟨⟨⟨h1, h2⟩, h3⟩, h4⟩, h5⟩, h6⟩, h7⟩, h8⟩, h9⟩ := e3
  have T : ErC K b C f := ⟨⟨n1, n2, N, bs, bm, sn, sb, ab, col, dd, j0, j1, j2, j3, j5, e2, h1⟩, h2, h3, h4, h5, h6, h7, h8, h9⟩
  have k := S.chk
  simp only [Bool.and_eq_true, Bool.not_eq_true', beq_iff_eq, List.all_eq_true, beq_eq_false_iff_ne] at k
  obtain ⟨⟨⟨⟨⟨⟨⟨⟨⟨k1, k2⟩, k3⟩, k4⟩, k5⟩, k6⟩, k7⟩, k8⟩, k9⟩, k10⟩ := k
  have F : InitAt P K C fI x f st (PySem.W.ksFn "__init__" qual (defArgs st) (defBody st) (defScope st) .none kV doc pm an (.ref cda) ct cc) :=
    ⟨⟨qual, .none, kV, doc, pm, ct, oc, an, od, cda, cc, osl, rfl, e7, e8, ⟨ccl, cdd, vs, ccs, file, tf, e9, e10, e11⟩, cl, cld, csl, e12⟩, S.say, S.prm, k1, k2, k3, k4, k5, k6, k7, k8, by simpa using k9, by simpa using k10⟩
  refine ⟨b, C, fI, f, x, _, O, T, hcs, hm, e5, e6, fn_init O T F top third nosup, .all fun us hl => ?_⟩
  match us, hl with
  | [u, v], _ => exact S.bnd _ _ _ _ _ _ _ _ _ u v rfl
/-- the table of a def that makes lambdas -/
theorem lamAt_mk {y q : Str} {c P f : Addr} {T : List (Addr × Str)} (ht : PySem.W.tabIn K y = some (c, P)) (hf : PySem.W.nsIn K mainGlobals y = some (some (.ref f))) (mem : (P, q) ∈ T) (uq : ∀ p ∈ T, p.1 = P → p.2 = q) (TB : TabB base mg c P) {qq : Str} (hq : qq ++ "<lambda>" = q) : ∀ cd, CodeOf K f cd → LamAt mg base T qq cd := by
  rintro cd ⟨oc, od, fd, osl, lk, rfl⟩
  refine ⟨c, P, ?_, by rw [hq]; exact mem, by rw [hq]; exact uq, TB⟩
  unfold PySem.W.tabIn at ht
  rw [hf] at ht
  simp only [lk] at ht
  split at ht
  · rename_i c2 hc
    split at ht
    · split at ht
      · cases ht; exact hc
      · cases ht
    · cases ht
  · cases ht
end
section
variable {m : Bool} {X : Cx} {G : Gh} {W : WX} {k : Nat} {nm : Str} {e : Expr} {A : DEn} {p pos pos2 lpos : Pos}
theorem s_raise (c : Cn m X G W k) (Er : Err X.prog X.w X.K X.mg X.base G.cls nm) (h : DE X G W e A) (hk : 2 ≤ k := by decide) (hg : Gl X nm := by rfl) (hdb : (nm == ("__debug__" : Str)) = false := by decide)
    (hs : starEach [e] X.env = (false, eval e X.env) :: starEach [] X.env := by rfl) (hpl : (backTo pos (starEach [] X.env)).any (·.1) = false := by rfl) : DS X G W (.Raise (some (.Call (.Name nm p) [e] [] pos)) none pos2) (sRaise nm A) :=
  ds_raise Er (c.rm.mono hk) c.calm c.tk h hg hdb hs hpl
theorem v_heard (c : Cn m X G W k) {j : Nat} {x : Str} {tf : D → Option D} {sb : Str → Str → Bool} {hs : List HdT} {params : Arguments} {body : Expr} {scope : Scope} (Hh : Hear X.prog X.w X.K X.mg X.base G.cls sb x tf hs) (La : LamAt X.mg X.base G.T X.env.qual X.env.code) (L : lamSB X.env.scope scope = true)
    (bod : ∀ (A' : Around) (outer : List Env) (s : Shared) (H : Hp) (E : XK) (f c' : Addr), Cn true (lamCx X A' outer s H E scope f c') G (fun cls d _ H => E cls d H) j → DE (lamCx X A' outer s H E scope f c') G (fun cls d _ H => E cls d H) body A) (hj : j + 2 ≤ k := by decide) (hg : Gl X x := by rfl)
    (bind : ∀ (q : Str) (cl : List (Str × Addr)) (pm cv ctv : Value), bindArgs (PySem.W.kla_fn "<lambda>" q params body scope cl pm cv ctv) ⟨[], []⟩ = pure [] := by intros; rfl) (hdef : defaultsOf params X.env = ([], []) := by rfl) (hdb : (x == ("__debug__" : Str)) = false := by decide) :
    DE X G W (.Call (.Name x p) [.Lambda params body scope lpos] [] pos) (eHeard tf sb hs A) :=
  de_heard Hh c.K La (c.rm.mono hj) c.gu hg (lamS_by L) (fun A' outer s H E f c' g1 r1 t1 => bod A' outer s H E f c' ⟨c.K, r1, g1, tkN t1, fun _ => t1, rfl, c.nd⟩) bind hdef hdb
end
end DL

namespace DL
open PySem L2 PySem.Spec PyProof.Rows LamX
/-! ### lambdas that are kept: the object known from now on -/
structure Lm where
  params : Arguments
  body : Expr
  scope : Scope
def LamK (X : Cx) (l : Lm) (f c' : Addr) : HO := .ext fun h => ∃ pm ct : Value, h.get? f = some (lamO X l.params l.body l.scope pm c' ct)
theorem lamK_ok {X : Cx} {l : Lm} {f c' : Addr} {pm ct : Value} {H : Hp} {h : Heap} {P : Program} {w : World} (e : h.get? f = some (lamO X l.params l.body l.scope pm c' ct)) : ObjOk P w H h f (LamK X l f c') :=
  ⟨⟨pm, ct, e⟩, ⟨_, e⟩, fun h1 h2 ⟨pm, ct, z⟩ k => ⟨pm, ct, k _ z⟩⟩
theorem lamK_ne {X : Cx} {l : Lm} {f c' : Addr} {ps : Array Value} : HO.tbl ps ≠ LamK X l f c' := fun z => by unfold LamK at z; cases z
section
variable {X : Cx} {pins : List (Addr × Obj)} {σ : L2.St} {H : Hp} {s : Shared} {c P : Addr} {l : Lm} {pos : Pos}
/-- what is so once a lambda stands -/
structure Stands (X : Cx) (P : Addr) (l : Lm) (H : Hp) (f c' : Addr) (H1 : Hp) : Prop where
  kp : ∀ b o, b ≠ P → H b = some o → H1 b = some o
  tb : TabS H1 P (X.env.qual ++ "<lambda>")
  at_ : H1 f = some (LamK X l f c')
  co : H1 c' = some (CodeO c' (X.env.qual ++ "<lambda>"))
  nf : H f = none
theorem lam_kept {E Q : Value → Shared → Prop} (I : Inv X pins σ H s) (TB : TabB X.base X.mg c P) (hcode : X.env.code = .ref c) (tb : TabS H P (X.env.qual ++ "<lambda>")) (dfl : defaultsOf l.params X.env = ([], [])) (free : ∀ y ∈ l.scope.names, y.2 = .free → ∃ c, X.env.cells.lookup y.1 = some c)
    (q : ∀ (f c' : Addr) (H1 : Hp) (s1 : Shared), Inv X pins σ H1 s1 → Stands X P l H f c' H1 → Q (.ref f) s1) : wpAny (model X.prog X.w) X.A (eval (.Lambda l.params l.body l.scope pos) X.env) Q E s := by
  obtain ⟨ps, hP, trip, among⟩ := tb
  have bP := TB.bm.keeps I.bk
  have hP2 : s.heap.get? P = some { cls := .none, data := .fields ps } := I.hok P _ hP
  refine PySem.W.kla_eval dfl ?_
  cases hc : codeAmong pos ps.toList with
  | some cv =>
    obtain ⟨c', rfl, hco⟩ := among pos cv hc
    refine PySem.W.kla_makeFunctionHit (mg := X.mg) (c := c) (P := P) (ps := ps) (closure_ok free) I.ok.glob (I.mod.glob.keeps I.bk) hcode (TB.code.keeps I.bk) hP2 trip hc bP fun ct h1 tk hx hsz => ?_
    have nf : H h1.objs.size = none := I.hok.fresh hsz
    have I1 := I.laid (a := h1.objs.size) (o := LamK X l h1.objs.size c') (h' := h1.push (lamO X l.params l.body l.scope ((X.mg "__name__").getD .none) c' ct)) (t' := tk) (fun b o e => Heap.get?_push_of_some _ (hx b o e)) hsz (lamK_ok (Heap.get?_push_size _ rfl))
    have kp : ∀ b o, H b = some o → upd H h1.objs.size (LamK X l h1.objs.size c') b = some o := fun b o e => by rw [upd_ne (ne_of_none e nf)]; exact e
    exact q _ c' _ _ I1 ⟨fun b o _ e => kp b o e, ⟨ps, kp _ _ hP, trip, fun p2 cv hcv => by
      obtain ⟨c0, e1, e2⟩ := among p2 cv hcv
      exact ⟨c0, e1, kp _ _ e2⟩⟩, upd_same, kp _ _ hco, nf⟩
  | none =>
    refine PySem.W.kla_makeFunction (mg := X.mg) (c := c) (P := P) (ps := ps) (closure_ok free) I.ok.glob (I.mod.glob.keeps I.bk) hcode (TB.code.keeps I.bk) hP2 trip hc TB.gP bP fun c' ct h1 tk hx hge hlt hrec htb => ?_
    obtain ⟨c2, oc, vs, t, e2, hoc, hd, hv⟩ := hrec
    cases e2
    have big : s.heap.objs.size ≤ h1.objs.size := Nat.le_trans hge (Nat.le_of_lt hlt)
    have nC : H c' = none := I.hok.fresh hge
    obtain ⟨more, hmore⟩ : ∃ more : Array Value, more = #[rawInt pos.line, rawInt pos.col, .ref c'] := ⟨_, rfl⟩
    have el : (ps ++ more).toList = ps.toList ++ [rawInt pos.line, rawInt pos.col, .ref c'] := by rw [hmore]; simp
    have I1 := inv_table (t' := tk) (more := more) (h' := h1) I hP (fun b o hb e => hx b o hb e) (by rw [hmore]; exact htb) hge ⟨oc, vs, t, hoc, hd, hv⟩
    have nf0 : H h1.objs.size = none := I.hok.fresh big
    have nf : upd (upd H P (.tbl (ps ++ more))) c' (CodeO c' (X.env.qual ++ "<lambda>")) h1.objs.size = none := by
      rw [upd_ne (Nat.ne_of_gt hlt), upd_ne (Nat.ne_of_gt (Nat.lt_of_lt_of_le (Heap.lt_size hP2) big))]
      exact nf0
    have I2 := I1.laid (a := h1.objs.size) (o := LamK X l h1.objs.size c') (h' := h1.push (lamO X l.params l.body l.scope ((X.mg "__name__").getD .none) c' ct)) (t' := tk) (fun b o e => Heap.get?_push_of_some _ e) (Nat.le_refl _) (lamK_ok (Heap.get?_push_size _ rfl))
    have kp0 : ∀ b o, b ≠ P → H b = some o → upd (upd H P (.tbl (ps ++ more))) c' (CodeO c' (X.env.qual ++ "<lambda>")) b = some o := fun b o hb e => by rw [upd_ne (ne_of_none e nC), upd_ne hb]; exact e
    have up : ∀ {b o}, upd (upd H P (.tbl (ps ++ more))) c' (CodeO c' (X.env.qual ++ "<lambda>")) b = some o → upd (upd (upd H P (.tbl (ps ++ more))) c' (CodeO c' (X.env.qual ++ "<lambda>"))) h1.objs.size (LamK X l h1.objs.size c') b = some o := fun {b o} e => by rw [upd_ne (ne_of_none e nf)]; exact e
    refine q _ c' _ _ I2 ⟨fun b o hb e => up (kp0 b o hb e), ⟨ps ++ more, up (by rw [upd_ne (ne_of_none hP nC), upd_same]), by rw [el]; exact PySem.TriplesOk_snoc _ _ _ _ trip, fun p2 cv hcv => ?_⟩, upd_same, up upd_same, nf0⟩
    rw [el] at hcv
    rcases among_app _ trip hcv with z | z
    · obtain ⟨c0, e1, e3⟩ := among p2 cv z
      exact ⟨c0, e1, up (kp0 _ _ (fun z => by rw [z, hP] at e3; exact codeO_tbl (Option.some.inj e3)) e3)⟩
    · exact ⟨c', z, up upd_same⟩
/-- a lambda as a value that is kept -/
def tLamK (X : Cx) (P : Addr) (l : Lm) : TE := fun σ H Q => TabS H P (X.env.qual ++ "<lambda>") ∧ ∀ f c' H1, Stands X P l H f c' H1 → Q (.ref f) H1
theorem pe_lamK (TB : TabB X.base X.mg c P) (hcode : X.env.code = .ref c) (L : LamS X.env.scope l.scope) (dfl : defaultsOf l.params X.env = ([], [])) : PE X (.Lambda l.params l.body l.scope pos) (tLamK X P l) :=
  ⟨fun pins s σ H Q I ⟨tb, h⟩ => lam_kept I TB hcode tb dfl (L.has I.ok) fun f c' H1 s1 I1 st => ⟨.ref f, H1, I1, rfl, h f c' H1 st⟩⟩
end
end DL

namespace DL
open PySem L2 PySem.Spec PyProof.Rows LamX
/-! ### a kept lambda is called by the def that got it -/
section
variable {X : Cx} {pins : List (Addr × Obj)} {σ : L2.St} {H : Hp} {s : Shared}
theorem pe_askK {l : Lm} {Ng : List Str} {x : Str} {sg : Scope} {g f c' : Addr} {cdg : Value} {k i : Nat} {a : Str} {pn : List (Addr × Obj)} {xe : Value → Shared → Prop} {W : WX} {E : XK} {tb : TE} {p1 p2 : Pos}
    (I : Inv X pins σ H s) (L : LamS X.env.scope l.scope) (hgu : X.A.guards = some [])
    (bind : ∀ (q : Str) (cl : List (Str × Addr)) (pm cv ctv : Value), bindArgs (PySem.W.kla_fn "<lambda>" q l.params l.body l.scope cl pm cv ctv) ⟨[], []⟩ = pure []) (tk : L2.Takes ((getCx X Ng x sg g cdg s H).tr pn xe) W) (hW : ∀ cls d σ' H', E cls d H' → W cls d σ' H')
    (hr : Room (k + 1) (X.A.deeper (envOfC x sg s.heap.objs.size g cdg))) (bod : ∀ (A : Around) (outer : List Env) (s : Shared) (H : Hp), A.guards = some [] → Room k (A.deeper (lamEnv X l.scope s.heap.objs.size f c')) → PE (lamCx X A outer s H E l.scope f c') l.body tb)
    (hN : Ng[i]? = some a) (hv : Vis sg a) (hd : (a == ("__debug__" : Str)) = false := by decide) (hcd : (a == ("__classdict__" : Str)) = false := by decide) :
    PE ((getCx X Ng x sg g cdg s H).tr pn xe) (.Call (.Name a p1) [] [] p2) (fun σ1 H1 Q => σ1[i]? = some (some (.ref f)) ∧ H1 c' = some (CodeO c' (X.env.qual ++ "<lambda>")) ∧ (H1 f = some (LamK X l f c') ∧ tb σ H1 Q)) := by
  refine ⟨fun pins1 s1 σ1 H1 Q I1 ⟨h1, h2, h4, h3⟩ => wpAny_Call_Name_kw (thn ((pe_var (pos := p1) (i := i) hN hv hd hcd).run pins1 s1 σ1 H1 (fun v H2 => v = .ref f ∧ H2 = H1) I1 ⟨.ref f, h1, rfl, rfl⟩) fun u s2 ⟨v, H2, I2, r2, ev, eH⟩ => ?_)⟩
  subst ev eH
  obtain rfl : u = Value.ref f := r2
  obtain ⟨⟨pm, ct, now⟩, _, _⟩ := I2.hok f _ h4
  have un : Un (frs X.stack) [] H H2 s.heap s2.heap := I2.base
  obtain ⟨⟨oc, vs, t, hoc, hdc, hvc⟩, _, _⟩ := I2.hok c' _ h2
  have ran : codeAny (model X.prog X.w) (X.A.deeper (envOfC x sg s.heap.objs.size g cdg)) (.call (.ref f) ⟨[], []⟩) (CR (L2.CX X.prog X.w) (envOfC x sg s.heap.objs.size g cdg :: X.stack) X.prog X.w H2 s2 Q E) s2 := by
    refine PySem.W.kla_callFunE hr.depth now rfl L.co L.gen rfl ⟨c', oc, vs, t, rfl, hoc, hdc, hvc⟩ ?_
    rw [bind]
    refine wpAny_pure (wpAny_newFunctionEnv (fun y hy => (L.own y hy).2) (fun y hy => absurd hy (by simp)) (fun h3' hns hsb => ⟨I2.nolimit.fresh _ hsb, ?_⟩) L.kind)
    show codeAny _ _ (.expr l.body (lamEnv X l.scope s2.heap.objs.size f c')) _ _
    have J := lam_start2 (A := X.A.deeper (envOfC x sg s.heap.objs.size g cdg)) (outer := envOfC x sg s.heap.objs.size g cdg :: X.stack) (E := E) (f := f) (c' := c') (tk := s2.toks + ([] : List (Str × Value)).length) I L I2.env0 hr.hd un hns fun b o e => hsb.extBut b o (Nat.ne_of_lt (Heap.lt_size e)) (Heap.get?_push_of_some _ e)
    refine PySem.W.kla_codeExpr (wpAny_mono ((bod (X.A.deeper (envOfC x sg s.heap.objs.size g cdg)) _ s2 H2 hgu (hr.deeper _)).run [] _ _ H2 Q J h3) (fun v s' hq => ?_) fun e s' hq => hq)
    obtain ⟨w', H', J', rv, q⟩ := hq
    exact ⟨w', H', J'.os, J'.bare, J'.base, J'.hok, rv, q⟩
  refine PySem.W.callWith_F0 ⟨_, _, _, _, now⟩ (wpAny_call (codeAny_mono ran fun r s' hq => ?_))
  match r, hq with
  | .error e, hq => exact passes_call tk hW pins1 σ1 H2 s2 e s' I2 hq
  | .ok (.ret u), hq => exact I2.after hq
  | .ok .next, hq => exact False.elim hq
  | .ok .brk, hq => exact False.elim hq
  | .ok .cont, hq => exact False.elim hq
/-! ### x(ask) within a block: ask one of the kept ones -/
def tHeardK (X : Cx) (σ0 : L2.St) (ja : Nat) (l : Lm) (TT : (XK → Hp → VK → Prop) → Hp → VK → Prop) (t : XK → TE) : TE := fun σ H Q => ∃ f c', σ[ja]? = some (some (.ref f)) ∧ H f = some (LamK X l f c') ∧ H c' = some (CodeO c' (X.env.qual ++ "<lambda>")) ∧ TT (fun E H' Q' => H' f = some (LamK X l f c') ∧ t E σ0 H' Q') H Q
theorem pe_heardK {TT : (XK → Hp → VK → Prop) → Hp → VK → Prop} {l : Lm} {x a y : Str} {g : Addr} {k ja : Nat} {pg : Arguments} {bg : List Stmt} {sg bsc : Scope} {dV kV doc pm cdv ct oc : Value} {an od : Option Addr} {osl : Array (Option Value)} {Ng : List Str} {t : XK → TE} {p pa pos : Pos} {C : Addr} {cl : List (Str × Addr)} {fp : List Addr}
    (I0 : Inv X pins σ H s) (ff : ∀ b ∈ fp, FpOk X pins H b) (hg : Gl (X.blk s H bsc (compEnvC bsc cl C X.env) fp) x) (hm : X.mg x = some (.ref g)) (hk : PySem.W.keepIn X.K (.ref g) = true) (lk : X.K.lookup g = some ⟨oc, od, .func (PySem.W.fnOf x x pg bg sg dV kV doc pm an cdv ct), osl⟩) (hcg : PySem.W.codeIn X.K cdv x = true)
    (hb : L2.Binds X.K (PySem.W.fnOf x x pg bg sg dV kV doc pm an cdv ct) [a] []) (Sg : FnScope Ng [a] sg) (hNg : Ng[0]? = some a) (hva : Vis sg a) (gives : GivesTo X Ng x sg g cdv bg a (X.env.qual ++ "<lambda>") TT)
    (hr : Room (k + 2) X.A) (hgu : X.A.guards = some []) (L : LamS X.env.scope l.scope)
    (bind : ∀ (q : Str) (cl : List (Str × Addr)) (pm cv ctv : Value), bindArgs (PySem.W.kla_fn "<lambda>" q l.params l.body l.scope cl pm cv ctv) ⟨[], []⟩ = pure [])
    (bod : ∀ (A : Around) (outer : List Env) (s : Shared) (H : Hp) (E : XK) (f c' : Addr), A.guards = some [] → Room k (A.deeper (lamEnv X l.scope s.heap.objs.size f c')) → PE (lamCx X A outer s H E l.scope f c') l.body (t E))
    (hy : X.N[ja]? = some y) (hvy : Vis (compEnvC bsc cl C X.env).scope y) (hdy : (y == ("__debug__" : Str)) = false := by decide) (hcy : (y == ("__classdict__" : Str)) = false := by decide) (hdb : (x == ("__debug__" : Str)) = false := by decide) (hd : (a == ("__debug__" : Str)) = false := by decide) (hcd : (a == ("__classdict__" : Str)) = false := by decide) :
    PE (X.blk s H bsc (compEnvC bsc cl C X.env) fp) (.Call (.Name x p) [.Name y pa] [] pos) (tHeardK X σ ja l TT t) := by
  refine ⟨fun pins1 s0 σ1 H0 Q I1 ⟨f, c', e1, e2, e3, h⟩ => wpAny_Call_Name_kw (ld_glob I1 hg hm (PySem.W.callWith_K (h₀ := X.base) I1.ok.mod.kin hk ?_ (by rfl) (by rfl)) hdb)⟩
  show wpAny _ _ (spliced ((false, eval (.Name y pa) (compEnvC bsc cl C X.env)) :: backTo pos (starEach [] (compEnvC bsc cl C X.env)))) _ _ s0
  refine Calls.spliced_cons (thn ((pe_var (X := X.blk s H bsc (compEnvC bsc cl C X.env) fp) (pos := pa) (i := ja) hy hvy hdy hcy).run pins1 s0 σ1 H0 (fun v H2 => v = .ref f ∧ H2 = H0) I1 ⟨.ref f, e1, rfl, rfl⟩) fun u s2 ⟨v, H2, I2, r2, ev, eH⟩ => ?_)
  subst ev eH
  obtain rfl : u = Value.ref f := r2
  refine Calls.spliced_nil ⟨I2.kIn, ?_⟩
  have Io : Inv X pins σ H2 s2 := I0.call' (ch := fp) I2.os I2.base I2.hok I2.bare fun b hb => ⟨(ff b hb).2.2.2.1, (ff b hb).2.1, (ff b hb).2.2.2.2.1, (ff b hb).2.2.2.2.2⟩
  have ran : codeAny (model X.prog X.w) X.A (.call (.ref g) ⟨[.ref f], []⟩) (CR C8.CX0 X.stack X.prog X.w H2 s2 Q C8.E0) s2 := by
    refine run_ofS (N := Ng) (ps := [a]) (us := [.ref f]) (vs := [.ref f]) lk hcg Sg hr Io.env0 (hb s2 [.ref f] I2.kIn rfl) (.cons rfl .nil) rfl fun hr1 => ?_
    obtain ⟨t1, p1, q1⟩ := gives f c' s2 H2 Q (fun E H' Q' => H' f = some (LamK X l f c') ∧ t E σ H' Q') (fun W pn xe E p1 p2 tk hW => pe_askK (i := 0) Io L hgu bind tk hW hr1 (fun A outer s H g1 r1 => bod A outer s H E f c' g1 r1) hNg hva hd hcd) e3 h
    exact ⟨t1, p1.nox, q1⟩
  refine wpAny_call (codeAny_mono ran fun r s3 hq => ?_)
  match r, hq with
  | .error e, hq => exact (show False from hq).elim
  | .ok (.ret u), hq => exact I2.after hq
  | .ok .next, hq => exact False.elim hq
  | .ok .brk, hq => exact False.elim hq
  | .ok .cont, hq => exact False.elim hq
end
end DL

namespace DL
open PySem L2 PySem.Spec PyProof.Rows LamX
/-! ### a comprehension that keeps nothing; its test knows the maker's frame -/
/-- how such a walk goes: at every turn the test says False -/
def tNone (wi : TI) (g : TG) (tt : TT) (vs : List Nat) : TE := fun σ H Q => wi σ H fun J H1 => ∀ L, H1 L = none → ∃ Z : Nat → Nat → Hp → Prop, (∃ m, Z 0 m (upd H1 L (.lst []))) ∧ ∀ i m Hi, Z i m Hi →
  (J.stop i Hi ∧ Q (.ref L) Hi) ∨ (J.go i Hi ∧ ∀ x Hx, J.yld i Hi x Hx → g x (wipe σ vs) Hx fun σg Hg => wipe σg vs = wipe σ vs ∧ tt σg Hg fun b Ht => b = false ∧ ∃ m', m' < m ∧ Z (i + 1) m' Ht)
section
variable {X : Cx} {pos : Pos}
theorem pe_none {elt tg iter : Expr} {ifs : List Expr} {sc : Scope} {own : List (Str × Nat)} {wi : TI} {g : TG} {tt : L2.St → TT} (calm : X.calm = true) (nd : X.N.Nodup) (walked : PI X tg iter wi) (bo : BlkOk X.N X.env.scope sc own)
    (goal : ∀ (sB : Shared) (HB : Hp) (C : Addr) (cl : List (Str × Addr)) (fp : List Addr), PG (X.blk sB HB sc (compEnvC sc cl C X.env) fp) tg g)
    (test : ∀ (pins : List (Addr × Obj)) (σ : L2.St) (sB : Shared) (HB : Hp) (C : Addr) (cl : List (Str × Addr)) (fp : List Addr), Inv X pins σ HB sB → (∀ b ∈ fp, FpOk X pins HB b) → PTs (X.blk sB HB sc (compEnvC sc cl C X.env) fp) ifs (tt σ))
    (fold : ∀ x, foldedSetIterable iter X.env x = pure x := by intro _; rfl) :
    PE X (.ListComp elt [⟨tg, iter, ifs, 0⟩] sc pos) (fun σ H Q => tNone wi g (tt σ) (own.map (·.2)) σ H Q) := by
  refine ⟨fun pins s σ H Q I h => ?_⟩
  rw [eval_ListComp]
  obtain ⟨vs, hvs⟩ : ∃ vs, vs = own.map (·.2) := ⟨_, rfl⟩
  have cap : ∀ y ∈ sc.names, y.2 = .free → ∃ c, X.env.cells.lookup y.1 = some c := fun y m f => (bo.free y m f).elim (fun k => I.ok.has _ (.inl k)) fun k => I.ok.has _ (.inr k)
  refine wpAny_comprehension_free (use := none) rfl fold (closure_ok cap) bo.kind (fun y m f => by rw [bo.uniq y m, f]) (thn (walked.run pins s σ H _ I h) fun _ _ came => thn came fun _ s2 got => ?_)
  obtain ⟨it, fp, tn, J, H2, rfl, I2, T, at0, ok2, go⟩ := got
  refine wpAny_newObj_type (newEnv_comp ?_) (by show 0 ≤ sizeLine; decide)
  obtain ⟨L, eL⟩ : ∃ L, L = s2.heap.objs.size := ⟨_, rfl⟩
  have freeL : H2 L = none := I2.hok.fresh (Nat.le_of_eq eL.symm)
  obtain ⟨Z, ⟨m0, z0⟩, turn⟩ := go L freeL
  obtain ⟨s3, e3⟩ : ∃ s3 : Shared, s3 = { s2 with heap := s2.heap.push { cls := .type "list", data := .seq ([] : List Value).toArray } } := ⟨_, rfl⟩
  have h3 : s3.heap = s2.heap.push { cls := .type "list", data := .seq ([] : List Value).toArray } := by rw [e3]
  obtain ⟨HB, eB⟩ : ∃ HB, HB = upd H2 L (.lst []) := ⟨_, rfl⟩
  have I3 : Inv X pins σ HB s3 := by
    rw [e3, eB, eL]
    exact I2.laid (t' := s2.toks) (fun b o e => Heap.get?_push_of_some _ e) (Nat.le_refl _) ⟨Nat.zero_le _, [], 0, .nil, Heap.get?_push_size _ rfl⟩
  have old : ∀ b ∈ fp, b < s2.heap.objs.size := fun b hb => let ⟨_, e, _⟩ := T.obj _ _ at0 b hb; Heap.lt_size e
  have ok3 : ∀ b ∈ fp, FpOk X pins HB b := fun b hb => ⟨by rw [eB, upd_ne (by rw [eL]; exact Nat.ne_of_lt (old b hb))]; exact (ok2 b hb).1, (ok2 b hb).2⟩
  have lt3 : ∀ b ∈ fp, b < s3.heap.objs.size := fun b hb => by rw [h3, Heap.size_push]; exact Nat.lt_succ_of_lt (old b hb)
  have at3 : tn 0 s3.heap := T.keep _ _ _ at0 fun b _ o e => by rw [h3]; exact Heap.get?_push_of_some _ e
  have I4 := block_start I3 bo nd fun b hb => ⟨ok3 b hb, lt3 b hb⟩
  rw [← hvs] at I4 turn
  rw [← eB] at z0
  rw [← e3, ← eL]
  obtain ⟨C, eC⟩ : ∃ C, C = s3.heap.objs.size := ⟨_, rfl⟩
  obtain ⟨cl, ecl⟩ : ∃ cl, cl = cellsFrom (s3.heap.objs.size + 1) sc.names (cloFrom X.env.cells sc.names []) := ⟨_, rfl⟩
  have pg := goal s3 HB C cl fp
  have pt := test pins σ s3 HB C cl fp I3 ok3
  show codeAny _ _ (.compStart (.ListComp elt [⟨tg, iter, ifs, 0⟩] sc pos) 0 (.ref it) (.ref L) (compEnvC sc (cellsFrom (s3.heap.objs.size + 1) sc.names (cloFrom X.env.cells sc.names [])) s3.heap.objs.size X.env)) (compPost _ _ _ _ _ (.ref L) s3.heap.objs.size) { s3 with heap := pushCells (s3.heap.push { cls := .type "dict", data := .dict #[] }) sc.names }
  rw [← ecl, ← eC] at I4 ⊢
  obtain ⟨s4, e4⟩ : ∃ s4 : Shared, s4 = { s3 with heap := pushCells (s3.heap.push { cls := .type "dict", data := .dict #[] }) sc.names } := ⟨_, rfl⟩
  rw [← e4] at I4 ⊢
  have at4 : tn 0 s4.heap := T.keep _ _ _ at3 fun b _ o e => by rw [e4]; exact pushCells_keeps _ _ _ _ (Heap.get?_push_of_some _ e)
  have fpB : ∀ {σ' : L2.St} {H' : Hp} {s' : Shared}, Inv (X.blk s3 HB sc (compEnvC sc cl C X.env) fp) [] σ' H' s' → (∀ b ∈ fp, H' b = none) → ∀ b ∈ fp, FpOk (X.blk s3 HB sc (compEnvC sc cl C X.env) fp) [] H' b :=
    fun J' n b hb => ⟨n b hb, (J'.ok.exf b hb).1, J'.ok.exfs b hb, .inl hb, fun x c e => (J'.ok.exf b hb).2 x c e, fun p hp => absurd (show p ∈ ([] : List (Addr × Obj)) ++ [] from hp) (by simp)⟩
  have loop : codeAny (model X.prog X.w) X.A (.compLoop (.ListComp elt [⟨tg, iter, ifs, 0⟩] sc pos) 0 (.ref it) (.ref L) (compEnvC sc cl C X.env)) (compPost (model X.prog X.w) X.A X.xe none (EP X pins σ Q) (.ref L) C) s4 := by
    refine compLoop_any (fun n s' => ∃ i H', Inv (X.blk s3 HB sc (compEnvC sc cl C X.env) fp) [] (wipe σ vs) H' s' ∧ tn i s'.heap ∧ (∀ b ∈ fp, H' b = none) ∧ Z i n H') ?_ m0 ⟨0, HB, I4, at4, fun b hb => (ok3 b hb).1, z0⟩
    rintro n s5 ⟨i, H5, I5, at5, n5, z5⟩
    rcases turn i n H5 z5 with ⟨stop, fin⟩ | ⟨more, step⟩
    · refine thnF (T.done (X.blk s3 HB sc (compEnvC sc cl C X.env) fp) rfl rfl rfl calm i [] s5 _ H5 (fun _ _ => False) I5 (fpB I5 n5) at5 stop) fun r s6 ⟨hr, I6⟩ => ?_
      subst hr
      have back : Inv X pins σ H5 s6 := I3.call' (ch := fp) I6.os I6.base I6.hok I6.bare fun b hb => ⟨(ok3 b hb).2.2.2.1, (ok3 b hb).2.1, (ok3 b hb).2.2.2.2.1, (ok3 b hb).2.2.2.2.2⟩
      have nC : H5 C = none := I6.free
      obtain ⟨m, hn, _⟩ := I6.loc
      obtain ⟨f0, f1, f2, f3, f4, f5⟩ := I3.fpOk (b := C) (Nat.le_of_eq eC.symm) nC
      exact ⟨m, hn, fun h'' sb => ⟨.ref L, H5, back.turned (t' := s6.toks) (fun b o hb e => (sb.2 b hb).trans e) f0 f1 f3 f4 f5, rfl, fin⟩⟩
    · refine thnF (T.item (X.blk s3 HB sc (compEnvC sc cl C X.env) fp) rfl rfl rfl calm i [] s5 _ H5 (fun _ _ => False) I5 (fpB I5 n5) at5 more) fun r s6 ⟨u, hr, h6⟩ => ?_
      subst hr
      refine thnF h6 fun _ s7 ⟨x, H7, I7, r7, y7, at7, n7⟩ => ?_
      refine thnF (pg.run _ s7 _ H7 x u _ (I7.pinned (fpB I7 n7) (T.obj _ _ at7)) r7 (step x H7 y7)) fun _ s8 ⟨σ8, H8, I8, w8, q8⟩ => ?_
      refine thnF (pt.run _ s8 σ8 H8 _ I8 q8) fun b s9 ⟨H9, I9, hb, m', lt, z9⟩ => ?_
      subst hb
      simp only [Bool.false_eq_true, if_false]
      have pinned : ∀ b ∈ fp, ∀ o, s7.heap.get? b = some o → s9.heap.get? b = some o ∧ H9 b = none := fun b hb o e =>
        let z := I9.pin (b, o) (List.mem_append_right _ (List.mem_append_right _ (mem_pinsAt hb e)))
        ⟨z.1, z.2.1⟩
      refine ⟨m', lt, i + 1, H9, (I9.unpinned (pins := [])).weak (by rw [← w8, wipe_length]) (fun j v e => ?_), T.keep _ _ _ at7 fun b hb o e => (pinned b hb o e).1, fun b hb => ?_, z9⟩
      · rw [← w8] at e
        exact (wipe_some e).1
      · obtain ⟨o, e, _⟩ := T.obj _ _ at7 b hb
        exact (pinned b hb o e).2
  exact codeAny_compStart_list loop (T.self X.A 0 _ _ _ at4 loop)
end
end DL

namespace DL
open PySem L2 PySem.Spec PyProof.Rows LamX
section
variable {G : Gh} {en : En} {σ : L2.St} {H H1 : Hp} {M : AS} {B : Option Addr}
/-- what may be written are lists and tables alone -/
theorem Rel.trim (r : Rel G en σ H M B) : Rel G en σ H (fun a => M a ∧ ∀ φ, H a ≠ some (.ext φ)) B := by
  have g : ∀ a, av G (fun a => M a ∧ ∀ φ, H a ≠ some (.ext φ)) a → av G M a ∨ H a = none := fun a h => .inl (h.elim (fun z => .inl z.1) .inr)
  have k : ∀ a o, H a = some o → ¬ av G M a → H a = some o := fun _ _ h _ => h
  refine ⟨r.len, fun j s hj => ?_, r.injo, fun p hp => ⟨⟨(r.box p hp).1, fun φ z => by rw [(r.box p hp).2] at z; cases z⟩, (r.box p hp).2⟩, r.bne, fun a h => ⟨(r.out a h).1, fun z => (r.out a h).2 z.1⟩, fun a h => r.mh a h.1, fun p hp => ⟨⟨(r.tab p hp).1, fun φ z => by
    obtain ⟨ps, e⟩ := tabS_at (r.tab p hp).2
    rw [e] at z; cases z⟩, (r.tab p hp).2⟩⟩
  have q := r.slot j s hj
  cases s with
  | no => trivial
  | fz d => obtain ⟨v, q1, q2⟩ := q; exact ⟨v, q1, q2.mono k g⟩
  | sq ns => obtain ⟨v, q1, q2⟩ := q; exact ⟨v, q1, q2.mono k g⟩
  | fu x => exact q
  | ow es => obtain ⟨p', xs, q1, q2, q3, q4, q5⟩ := q; exact ⟨p', xs, q1, ⟨q2, fun φ z => by rw [q3] at z; cases z⟩, q3, q4, q5.mono k g⟩
  | od t es =>
    obtain ⟨p', q1, q2, q3⟩ := q
    obtain ⟨u, u1, _, _, u2⟩ := q3.at_
    exact ⟨p', q1, ⟨q2, fun φ z => by rw [u1] at z; exact u2 φ (Option.some.inj z)⟩, q3.mono (fun _ h => h) k g⟩
  | bx => exact q
  | er c d =>
    obtain ⟨a, cls, dd, f, b, fs, v, h0, h1, h2, h3, h4, h5, h6, h7⟩ := q
    exact ⟨a, cls, dd, f, b, fs, v, h0, h1, h2, h3, h4, fun z => z.elim (fun z => h5 (.inl z.1)) fun z => h5 (.inr z), h6, h7.mono k g⟩
theorem step_trim : Step H M H (fun a => M a ∧ ∀ φ, H a ≠ some (.ext φ)) := ⟨fun _ _ h _ => h, fun a h => .inl h.1⟩
/-- less is shut off -/
theorem Rel.unout {O : AS} (r : Rel (G.with O) en σ H M B) (h : ∀ a, G.Out a → O a) : Rel G en σ H M B := by
  have g : ∀ a, av G M a → av (G.with O) M a ∨ H a = none := fun a z => .inl (z.elim .inl fun z => .inr (h a z))
  have k : ∀ a o, H a = some o → ¬ av (G.with O) M a → H a = some o := fun _ _ h _ => h
  refine ⟨r.len, fun j s hj => ?_, r.injo, r.box, r.bne, fun a z => r.out a (h a z), r.mh, r.tab⟩
  have q := r.slot j s hj
  cases s with
  | no => trivial
  | fz d => obtain ⟨v, q1, q2⟩ := q; exact ⟨v, q1, q2.mono k g⟩
  | sq ns => obtain ⟨v, q1, q2⟩ := q; exact ⟨v, q1, q2.mono k g⟩
  | fu x => exact q
  | ow es => obtain ⟨p', xs, q1, q2, q3, q4, q5⟩ := q; exact ⟨p', xs, q1, q2, q3, q4, q5.mono k g⟩
  | od t es => obtain ⟨p', q1, q2, q3⟩ := q; exact ⟨p', q1, q2, q3.mono (fun _ h => h) k g⟩
  | bx => exact q
  | er c d =>
    obtain ⟨a, cls, dd, f, b, fs, v, h0, h1, h2, h3, h4, h5, h6, h7⟩ := q
    exact ⟨a, cls, dd, f, b, fs, v, h0, h1, h2, h3, h4, fun z => h5 ((g b z).elim id fun z => (by rw [z] at h4; cases h4)), h6, h7.mono k g⟩
/-- a slot of which nothing is known may hold anything -/
theorem Rel.any {i : Nat} {v : Option V} (r : Rel G en σ H M B) (no : en.sl[i]? = some .no) : Rel G en (σ.set i v) H M B := by
  have se : ∀ {j : Nat} {s : Sl}, en.sl[j]? = some s → s ≠ .no → (σ.set i v)[j]? = σ[j]? := fun {j s} hj n => List.getElem?_set_ne fun z => by
    rw [← z, no] at hj
    exact n (Option.some.inj hj).symm
  refine ⟨by rw [List.length_set, r.len], fun j s hj => ?_, fun j k p s1 s2 hne hj hk o1 o2 h1 h2 => ?_, r.box, fun p j ds hb hj h1 => ?_, r.out, r.mh, r.tab⟩
  · have q := r.slot j s hj
    cases s with
    | no => trivial
    | fz d => obtain ⟨v, q1, q2⟩ := q; exact ⟨v, by rw [se hj (fun z => nomatch z)]; exact q1, q2⟩
    | sq ns => obtain ⟨v, q1, q2⟩ := q; exact ⟨v, by rw [se hj (fun z => nomatch z)]; exact q1, q2⟩
    | fu x => obtain ⟨v, q1, q2⟩ := q; exact ⟨v, by rw [se hj (fun z => nomatch z)]; exact q1, q2⟩
    | ow es => obtain ⟨p', xs, q1, q2⟩ := q; exact ⟨p', xs, by rw [se hj (fun z => nomatch z)]; exact q1, q2⟩
    | od t es => obtain ⟨p', q1, q2⟩ := q; exact ⟨p', by rw [se hj (fun z => nomatch z)]; exact q1, q2⟩
    | bx => obtain ⟨p, q1, q2⟩ := q; exact ⟨p, q1, by rw [se hj (fun z => nomatch z)]; exact q2⟩
    | er c d => exact erOk_σ q (se hj (fun z => nomatch z))
  · rw [se hj (fun z => by rw [z] at o1; cases o1)] at h1
    rw [se hk (fun z => by rw [z] at o2; cases o2)] at h2
    exact r.injo j k p s1 s2 hne hj hk o1 o2 h1 h2
  · rw [se hj (fun z => nomatch z)] at h1
    exact r.bne p j ds hb hj h1
end
/-- the kept lambdas stand in the list p at slot i -/
structure Held (X : Cx) (G : Gh) (i p : Nat) (zs : List (Lm × Addr × Addr)) (en : En) (σ : L2.St) (H : Hp) (M : AS) (B : Option Addr) : Prop where
  rel : Rel (G.with fun a => G.Out a ∨ a = p) en σ H M B
  at_ : σ[i]? = some (some (.ref p))
  lst : H p = some (.lst (zs.map fun z => .ref z.2.1))
  no : en.sl[i]? = some .no
  few : zs.length ≤ 1000
  each : ∀ z ∈ zs, (H z.2.1 = some (LamK X z.1 z.2.1 z.2.2) ∧ ¬ M z.2.1) ∧ H z.2.2 = some (CodeO z.2.2 (X.env.qual ++ "<lambda>")) ∧ ¬ M z.2.2
section
variable {X : Cx} {G : Gh} {en : En} {σ : L2.St} {H H1 : Hp} {M : AS} {B : Option Addr} {P : Addr} {l : Lm} {f c' : Addr}
theorem not_ext {φ : Heap → Prop} {a : Addr} (h : H a = some (.ext φ)) (t : ∀ a, M a → ∀ φ, H a ≠ some (.ext φ)) : ¬ M a := fun m => t a m φ h
/-- after a lambda was made -/
theorem made (r : Rel G en σ H M B) (trim : ∀ a, M a → ∀ φ, H a ≠ some (.ext φ)) (mem : (P, X.env.qual ++ "<lambda>") ∈ G.T) (uq : ∀ p ∈ G.T, p.1 = P → p.2 = X.env.qual ++ "<lambda>") (st : Stands X P l H f c' H1) :
    Rel G en σ H1 M B ∧ Step H M H1 M ∧ (∀ a, M a → ∀ φ, H1 a ≠ some (.ext φ)) ∧ ¬ M f ∧ ¬ M c' := by
  obtain ⟨r1, s1⟩ := r.tabbed mem uq st.kp st.tb
  have nf : ¬ M f := fun m => r.mh f m st.nf
  have tr : ∀ a, M a → ∀ φ, H1 a ≠ some (.ext φ) := fun a m φ z => by
    by_cases c : a = P
    · obtain ⟨ps, e⟩ := tabS_at st.tb
      rw [c, e] at z
      cases z
    · cases e : H a with
      | none => exact r.mh a m e
      | some o =>
        rw [st.kp a o c e] at z
        exact trim a m φ (by rw [e]; exact z)
  refine ⟨r1, s1, tr, nf, fun m => ?_⟩
  have co := st.co
  unfold CodeO at co
  exact tr c' m _ co
theorem Held.step {i p : Nat} {zs : List (Lm × Addr × Addr)} {en' : En} {σ' : L2.St} {H' : Hp} {M' : AS} {B' : Option Addr} (h : Held X G i p zs en σ H M B) (r : Rel (G.with fun a => G.Out a ∨ a = p) en' σ' H' M' B') (s : Step H M H' M') (at_ : σ'[i]? = some (some (.ref p))) (no : en'.sl[i]? = some .no) : Held X G i p zs en' σ' H' M' B' := by
  have np : ¬ M p := (h.rel.out p (.inr rfl)).2
  have nn : ∀ {a : Addr} {o : HO}, H a = some o → ¬ M a → ¬ M' a := fun e n m => (s.grow _ m).elim n fun z => by rw [z] at e; cases e
  exact ⟨r, at_, s.keep _ _ h.lst np, no, h.few, fun z hz => by
    obtain ⟨⟨h1, h2⟩, h3, h4⟩ := h.each z hz
    exact ⟨⟨s.keep _ _ h1 h2, nn h1 h2⟩, s.keep _ _ h3 h4, nn h3 h4⟩⟩
/-- the list and its first lambda -/
theorem held_new {i : Nat} {p : Addr} (hi : i < en.sl.length) (r : Rel G en σ H M B) (trim : ∀ a, M a → ∀ φ, H a ≠ some (.ext φ)) (mem : (P, X.env.qual ++ "<lambda>") ∈ G.T) (uq : ∀ p ∈ G.T, p.1 = P → p.2 = X.env.qual ++ "<lambda>") (st : Stands X P l H f c' H1) (hp : H1 p = none) :
    Held X G i p [(l, f, c')] (en.put i .no) (σ.set i (some (.ref p))) (upd H1 p (.lst [.ref f])) M B ∧ Step H M (upd H1 p (.lst [.ref f])) M ∧ ∀ a, M a → ∀ φ, upd H1 p (.lst [.ref f]) a ≠ some (.ext φ) := by
  obtain ⟨r1, s1, t1, nf, nc⟩ := made r trim mem uq st
  have r2 : Rel (G.with fun a => G.Out a ∨ a = p) en σ (upd H1 p (.lst [.ref f])) M B := r1.shut hp
  have no : (en.put i .no).sl[i]? = some .no := by
    show (en.sl.set i .no)[i]? = _
    rw [List.getElem?_set_self hi]
  have r3 := (r2.drop i).any (v := some (.ref p)) no
  rw [List.set_set] at r3
  have nPf : f ≠ p := fun z => by rw [← z, st.at_] at hp; cases hp
  have nPc : c' ≠ p := fun z => by rw [← z, st.co] at hp; cases hp
  refine ⟨⟨r3, by rw [List.getElem?_set_self (by rw [r.len]; exact hi)], upd_same, no, by simp, fun z hz => ?_⟩, s1.trans (.ext (ext_new hp)), fun a m φ => ?_⟩
  · rw [List.mem_singleton.mp hz]
    exact ⟨⟨by rw [upd_ne nPf]; exact st.at_, nf⟩, by rw [upd_ne nPc]; exact st.co, nc⟩
  · have na : a ≠ p := fun z => r1.mh a m (by rw [z]; exact hp)
    rw [upd_ne na]
    exact t1 a m φ
/-- one more -/
theorem held_more {i p : Nat} {zs : List (Lm × Addr × Addr)} (h : Held X G i p zs en σ H M B) (hz : zs.length < 1000) (trim : ∀ a, M a → ∀ φ, H a ≠ some (.ext φ)) (mem : (P, X.env.qual ++ "<lambda>") ∈ G.T) (uq : ∀ p ∈ G.T, p.1 = P → p.2 = X.env.qual ++ "<lambda>") (st : Stands X P l H f c' H1) :
    H1 p = some (.lst (zs.map fun z => .ref z.2.1)) ∧ Held X G i p (zs ++ [(l, f, c')]) en σ (upd H1 p (.lst ((zs.map fun z => .ref z.2.1) ++ [.ref f]))) M B ∧ ∀ a, M a → ∀ φ, upd H1 p (.lst ((zs.map fun z => .ref z.2.1) ++ [.ref f])) a ≠ some (.ext φ) := by
  obtain ⟨r1, s1, t1, nf, nc⟩ := made (G := G.with fun a => G.Out a ∨ a = p) h.rel trim mem uq st
  have np : ¬ M p := (h.rel.out p (.inr rfl)).2
  have e1 : H1 p = some (.lst (zs.map fun z => .ref z.2.1)) := s1.keep _ _ h.lst np
  have ne : ∀ {a : Addr} {φ : Heap → Prop}, H1 a = some (.ext φ) → a ≠ p := fun {a φ} e z => by rw [z, e1] at e; cases e
  refine ⟨e1, ⟨r1.grown e1, h.at_, by rw [upd_same, List.map_append]; rfl, h.no, by rw [List.length_append, List.length_singleton]; omega, fun z hz' => ?_⟩, fun a m φ => ?_⟩
  · rcases List.mem_append.mp hz' with q | q
    · obtain ⟨⟨h1, h2⟩, h3, h4⟩ := h.each z q
      have k1 := s1.keep _ _ h1 h2
      have k2 := s1.keep _ _ h3 h4
      exact ⟨⟨by rw [upd_ne (ne (by unfold LamK at k1; exact k1))]; exact k1, h2⟩, by rw [upd_ne (ne (by unfold CodeO at k2; exact k2))]; exact k2, h4⟩
    · rw [List.mem_singleton.mp q]
      have k1 := st.at_
      have k2 := st.co
      exact ⟨⟨by rw [upd_ne (ne (by unfold LamK at k1; exact k1))]; exact k1, nf⟩, by rw [upd_ne (ne (by unfold CodeO at k2; exact k2))]; exact k2, nc⟩
  · have na : a ≠ p := fun z => np (by rw [← z]; exact m)
    rw [upd_ne na]
    exact t1 a m φ
end
end DL

namespace DL
open PySem L2 PySem.Spec PyProof.Rows LamX
/-- the slot j is as it was: nothing known of it -/
def eNoAt (j : Nat) (A : DEn) : DEn := fun en => A en >>= fun p => match p.2.sl[j]? with
  | some .no => .ok p
  | _ => .bad
theorem set_back {σ σ' : L2.St} {j : Nat} (h : L2.wipe σ' [j] = L2.wipe σ [j]) : σ'.set j (σ.getD j none) = σ := by
  have h : σ'.set j none = σ.set j none := h
  have e : (σ'.set j none).set j (σ.getD j none) = (σ.set j none).set j (σ.getD j none) := by rw [h]
  rw [List.set_set, List.set_set] at e
  rw [e]
  refine List.ext_getElem? fun k => ?_
  by_cases c : j = k
  · subst c
    by_cases l : j < σ.length
    · rw [List.getElem?_set_self l, List.getD_eq_getElem?_getD, List.getElem?_eq_getElem l]
      rfl
    · rw [List.set_eq_of_length_le (by omega)]
  · rw [List.getElem?_set_ne c]
section
variable {X : Cx} {G : Gh} {A DUE : DEn} {sb : Str → Str → Bool} {hs : List HdT} {cls : List ClD} {tf : D → Option D} {wq : V → Hp → VK → Prop}
/-- what is heard of a kept lambda, the caller's own name for it at slot j -/
theorem heard_trK {σ σ' : L2.St} {j : Nat} {l : Lm} {H : Hp} {M : AS} {B : Option Addr} {en : En} {f c' : Addr} {Q : VK} (hK : G.K = X.K) (ok : HsOk X.K G.cls sb hs cls) (hw : WqOk X.K wq tf) (ws : L2.wipe σ' [j] = L2.wipe σ [j]) (e1 : σ'[j]? = some (some (.ref f))) (e2 : H f = some (LamK X l f c')) (e3 : H c' = some (CodeO c' (X.env.qual ++ "<lambda>")))
    (no : en.sl[j]? = some .no) (rel : Rel G en σ' H M B) (m : Post (fun p => ∀ v H' M', Rel G p.2 σ' H' M' B → Step H M H' M' → RD G.K H' (av G M') v p.1 → Q v H') (fun _ _ _ => False) (eNoAt j (eHeard tf sb hs A) en)) :
    tHeardK X σ j l (TTh X.K G.cls cls wq) (fun E => tE G (fun cls d _ H => E cls d H) A) σ' H Q := by
  have back : Rel G en σ H M B := by
    have r := rel.any (v := σ.getD j none) no
    rw [set_back ws] at r
    exact r
  have len : σ.length = σ'.length := by rw [← set_back ws, List.length_set]
  have fwd : ∀ {en2 : En} {H2 : Hp} {M2 : AS}, en2.sl[j]? = some .no → Rel G en2 σ H2 M2 B → Rel G en2 σ' H2 M2 B := fun n r => by
    have r := r.any (v := σ'.getD j none) n
    rw [set_back ws.symm] at r
    exact r
  refine ⟨f, c', e1, e2, e3, e2, en, M, B, back, ?_⟩
  have m := post_bind.mp m
  unfold eHeard at m
  cases e : A en with
  | bad => rw [e] at m; exact m.elim
  | ok p =>
    rw [e] at m
    obtain ⟨z, hz, mz⟩ := post_lift.mp m
    intro v H2 M2 r2 st2 rd
    rw [hK] at rd
    change Post _ _ (match p.2.sl[j]? with | some .no => Rs.ok (z, p.2) | _ => Rs.bad) at mz
    refine hw H2 _ v p.1 z Q r2.avh rd hz fun u H3 ex r3 => ?_
    split at mz
    · rename_i n
      exact mz u H3 M2 (fwd n (r2.ext ex)) (st2.trans (.ext ex)) (by rw [hK]; exact r3)
    · exact mz.elim
  | ex c d en1 =>
    rw [e] at m
    obtain ⟨z, hz, mz⟩ := post_lift.mp m
    intro cls dd H2 M2 r2 st2 x
    obtain ⟨fl, a, fs, v, x1, x2, x3, x4, x5, x6⟩ := x
    change Post _ _ (match en1.sl[j]? with | some .no => Rs.ok (z, en1) | _ => Rs.bad) at mz
    refine hearQ_of (d := d) ok r2.avh ⟨fl, a, fs, v, x1, x2, x3, x4, x5, hK ▸ x6⟩ hz fun u H3 ex r3 => ?_
    split at mz
    · rename_i n
      exact mz u H3 M2 (fwd n (r2.ext ex)) (st2.trans (.ext ex)) (by rw [hK]; exact r3)
    · exact mz.elim
end
end DL

namespace DL
open PySem L2 PySem.Spec PyProof.Rows LamX
/-- one test: what is heard of A is not DUE -/
def tAsk (j : Nat) (tf : D → Option D) (sb : Str → Str → Bool) (hs : List HdT) (DUE A : DEn) : DTt := tV (eBin dNe (eNoAt j (eHeard tf sb hs A)) DUE)
def askLoop (own : List Nat) : List DTt → En → Rs En
  | [], en => .ok en
  | t :: ts, en => t en >>= fun p => if p.1 = true then .bad else askLoop own ts (p.2.wipe own)
/-- a lambda and what its body is as data -/
structure LamD (X : Cx) (G : Gh) (k : Nat) (l : Lm) (A : DEn) : Prop where
  sc : LamS X.env.scope l.scope
  dfl : defaultsOf l.params X.env = ([], [])
  bind : ∀ (q : Str) (cl : List (Str × Addr)) (pm cv ctv : Value), bindArgs (PySem.W.kla_fn "<lambda>" q l.params l.body l.scope cl pm cv ctv) ⟨[], []⟩ = pure []
  bod : ∀ (O : AS) (A' : Around) (outer : List Env) (s : Shared) (H : Hp) (E : XK) (f c' : Addr), A'.guards = some [] → Room k (A'.deeper (lamEnv X l.scope s.heap.objs.size f c')) → L2.Takes (lamCx X A' outer s H E l.scope f c') (fun cls d _ H => E cls d H) →
    DE (lamCx X A' outer s H E l.scope f c') (G.with O) (fun cls d _ H => E cls d H) l.body A
def ttAsk (X : Cx) (G : Gh) (j : Nat) (LA : List (Lm × DEn)) (mk : DEn → DTt) (σ : L2.St) : TT := fun σ' H Q => L2.wipe σ' [j] = L2.wipe σ [j] ∧ ∃ (l : Lm) (A : DEn) (f c' : Addr) (O : AS) (en : En) (M : AS) (B : Option Addr), (l, A) ∈ LA ∧ σ'[j]? = some (some (.ref f)) ∧ H f = some (LamK X l f c') ∧
  H c' = some (CodeO c' (X.env.qual ++ "<lambda>")) ∧ en.sl[j]? = some .no ∧ Rel (G.with O) en σ' H M B ∧ Post (fun p => ∀ H' M', Rel (G.with O) p.2 σ' H' M' B → Step H M H' M' → Q p.1 H') (fun _ _ _ => False) (mk A en)
section
variable {X : Cx} {G : Gh} {k : Nat} {x y : Str} {tf : D → Option D} {sb : Str → Str → Bool} {hs : List HdT} {DUE : DEn} {j : Nat} {LA : List (Lm × DEn)} {due : Expr} {bsc : Scope} {p pa pos pc : Pos}
theorem pts_ask {pins : List (Addr × Obj)} {σ : L2.St} {sB : Shared} {HB : Hp} {C : Addr} {cl : List (Str × Addr)} {fp : List Addr} (Hh : Hear X.prog X.w X.K X.mg X.base G.cls sb x tf hs) (hK : G.K = X.K) (hr : Room (k + 2) X.A) (hgu : X.A.guards = some []) (hu : X.A.units + 64 < cLine)
    (I : Inv X pins σ HB sB) (ff : ∀ b ∈ fp, FpOk X pins HB b) (hg : Gl (X.blk sB HB bsc (compEnvC bsc cl C X.env) fp) x) (lam : ∀ q ∈ LA, LamD X G k q.1 q.2) (hdue : ∀ O, DE (X.blk sB HB bsc (compEnvC bsc cl C X.env) fp) (G.with O) W0 due DUE)
    (hy : X.N[j]? = some y) (hvy : Vis (compEnvC bsc cl C X.env).scope y) (hm : behindInMarks .NotEq due = false) (hdb : (x == ("__debug__" : Str)) = false) (hdy : (y == ("__debug__" : Str)) = false) (hcy : (y == ("__classdict__" : Str)) = false) :
    PTs (X.blk sB HB bsc (compEnvC bsc cl C X.env) fp) [.Compare (.Call (.Name x p) [.Name y pa] [] pos) [.NotEq] [due] pc] (ttAsk X G j LA (tAsk j tf sb hs DUE) σ) := by
  obtain ⟨g, st, a, Ng, cdv, lc, wq, hmx, hk, ⟨kV, doc, pm, an, ct, oc, od, osl, lk, hb⟩, hcg, Sg, hNg, hva, hd, hcd, ok, hw, gives⟩ := Hh.ex
  refine pts_one ⟨fun pins1 s1 σ' H' Q I1 ⟨ws, l, A, f, c', O, en, M, B, mem, e1, e2, e3, no, rel, m⟩ => ?_⟩
  have L := lam _ mem
  have ph := pe_heardK (p := p) (pa := pa) (pos := pos) (t := fun E => tE (G.with O) (fun cls d _ H => E cls d H) A) I ff hg hmx hk lk hcg hb Sg hNg hva (gives X _ rfl rfl rfl rfl rfl hgu fun env => (hr.deeper env).units) hr hgu L.sc L.bind (fun A' outer s H E f c' g1 r1 => (L.bod O A' outer s H E f c' g1 r1 (takes_of rfl rfl rfl rfl)).pe) hy hvy hdy hcy hdb hd hcd
  refine (pt_cmpR (X := X.blk sB HB bsc (compEnvC bsc cl C X.env) fp) (pos := pc) (r := rNeA X.K) (op_neA (X := X.blk sB HB bsc (compEnvC bsc cl C X.env) fp) hu) ph (hdue O).pe hm).run pins1 s1 σ' H' Q I1 ?_
  have m2 := post_bind.mp (post_bind.mp m)
  have on : OpS (G.with O) (rNeA X.K) dNe := by
    rw [← hK]
    exact ops_ne
  refine heard_trK (G := G.with O) (Q := fun v H1 => tE (G.with O) W0 DUE σ' H1 fun w H2 => rNeA X.K v w H2 fun u H3 => ∃ b, u = .bl b ∧ Q b H3) hK ok hw ws e1 e2 e3 no rel (Post.imp m2 (fun q mq v H1 M1 rel1 st1 rd1 => ⟨q.2, M1, B, rel1, Post.imp (post_bind.mp mq) (fun d md w H2 M2 rel2 st2 rd2 => ?_) fun _ _ _ h => h.elim⟩) fun _ _ _ h => h)
  obtain ⟨z, hz, mz⟩ := post_lift.mp md
  refine on H2 _ v w q.1 d.1 z _ rel2.avh (rd1.step st2) rd2 hz fun u H3 ex rd3 => ?_
  obtain ⟨b, hb2, mb⟩ := post_lift.mp mz
  exact ⟨b, asB_rd rd3 hb2, mb H3 M2 (rel2.ext ex) ((st1.trans st2).trans (.ext ex))⟩
end
end DL

namespace DL
open PySem L2 PySem.Spec PyProof.Rows LamX
theorem wipe_one {en : En} {j : Nat} (h : j < en.sl.length) : (en.wipe [j]).sl[j]? = some .no := by
  show (en.sl.set j .no)[j]? = _
  rw [List.getElem?_set_self h]
/-- where the walk stands: what was kept, the new list, what is still to be asked -/
structure At (X : Cx) (G : Gh) (j : Nat) (σ : L2.St) (p L : Addr) (zs : List (Lm × Addr × Addr)) (H0 : Hp) (M0 : AS) (B : Option Addr) (H : Hp) (en : En) (M : AS) : Prop where
  rel : Rel (G.with fun a => (G.Out a ∨ a = p) ∨ a = L) en (L2.wipe σ [j]) H M B
  st : Step H0 M0 H M
  no : en.sl[j]? = some .no
  lst : H p = some (.lst (zs.map fun z => .ref z.2.1))
  new : H L = some (.lst [])
  each : ∀ z ∈ zs, (H z.2.1 = some (LamK X z.1 z.2.1 z.2.2) ∧ ¬ M z.2.1) ∧ H z.2.2 = some (CodeO z.2.2 (X.env.qual ++ "<lambda>")) ∧ ¬ M z.2.2
section
variable {X : Cx} {G : Gh} {j : Nat} {σ : L2.St} {p L : Addr} {zs : List (Lm × Addr × Addr)} {H0 H H' : Hp} {M0 M M' : AS} {B : Option Addr} {en en' : En}
theorem At.step (h : At X G j σ p L zs H0 M0 B H en M) (r : Rel (G.with fun a => (G.Out a ∨ a = p) ∨ a = L) en' (L2.wipe σ [j]) H' M' B) (s : Step H M H' M') (no : en'.sl[j]? = some .no) : At X G j σ p L zs H0 M0 B H' en' M' := by
  have np : ¬ M p := (h.rel.out p (.inl (.inr rfl))).2
  have nL : ¬ M L := (h.rel.out L (.inr rfl)).2
  have nn : ∀ {a : Addr} {o : HO}, H a = some o → ¬ M a → ¬ M' a := fun e n m => (s.grow _ m).elim n fun z => by rw [z] at e; cases e
  exact ⟨r, h.st.trans s, no, s.keep _ _ h.lst np, s.keep _ _ h.new nL, fun z hz => by
    obtain ⟨⟨h1, h2⟩, h3, h4⟩ := h.each z hz
    exact ⟨⟨s.keep _ _ h1 h2, nn h1 h2⟩, s.keep _ _ h3 h4, nn h3 h4⟩⟩
end
section
variable {X : Cx} {G : Gh} {k : Nat} {i j : Nat} {x y0 y : Str} {tf : D → Option D} {sb : Str → Str → Bool} {hs : List HdT} {DUE : DEn} {LA : List (Lm × DEn)} {due : Expr} {bsc : Scope} {p1 p2 p3 pa pc px pos pos' : Pos}
def tAsks (X : Cx) (G : Gh) (i j : Nat) (tf : D → Option D) (sb : Str → Str → Bool) (hs : List HdT) (DUE : DEn) (LA : List (Lm × DEn)) : TE := fun σ H Q => ∃ en M B p zs, Held X G i p zs en σ H M B ∧ zs.map (·.1) = LA.map (·.1) ∧ ownOk en [j] = true ∧ j < en.sl.length ∧
  Post (fun e => ∀ H' M' L, Rel G (e.back en [j]) σ H' M' B → Step H M H' M' → H' L = some (.lst []) → ¬ av G M' L → Q (.ref L) H') (fun _ _ _ => False) (askLoop [j] (LA.map fun q => tAsk j tf sb hs DUE q.2) (en.wipe [j]))
theorem asks_pe (Hh : Hear X.prog X.w X.K X.mg X.base G.cls sb x tf hs) (hK : G.K = X.K) (hr : Room (k + 2) X.A) (hgu : X.A.guards = some []) (hu : X.A.units + 64 < cLine) (hc : X.calm = true) (nd : X.N.Nodup)
    (hi : X.N[i]? = some y0) (hvi : Vis X.env.scope y0) (hj : X.N[j]? = some y) (bo : BlkOk X.N X.env.scope bsc [(y, j)])
    (hg : ∀ (C : Addr) (cl : List (Str × Addr)) (sB : Shared) (HB : Hp) (fp : List Addr), Gl (X.blk sB HB bsc (compEnvC bsc cl C X.env) fp) x) (lam : ∀ q ∈ LA, LamD X G k q.1 q.2) (hdue : ∀ (O : AS) (sB : Shared) (HB : Hp) (C : Addr) (cl : List (Str × Addr)) (fp : List Addr), DE (X.blk sB HB bsc (compEnvC bsc cl C X.env) fp) (G.with O) W0 due DUE)
    (hvy : ∀ (C : Addr) (cl : List (Str × Addr)), Vis (compEnvC bsc cl C X.env).scope y) (hly : ∀ (C : Addr) (cl : List (Str × Addr)), (compEnvC bsc cl C X.env).scope.names.lookup y = some .local) (hm : behindInMarks .NotEq due = false) (hdb : (x == ("__debug__" : Str)) = false) (hdy : (y == ("__debug__" : Str)) = false) (hcy : (y == ("__classdict__" : Str)) = false)
    (hd0 : (y0 == ("__debug__" : Str)) = false) (hc0 : (y0 == ("__classdict__" : Str)) = false) (hloc : ∀ (C : Addr) (cl : List (Str × Addr)), Loc (compEnvC bsc cl C X.env).scope y) :
    PE X (.ListComp (.Name y p1) [⟨.Name y p2, .Name y0 p3, [.Compare (.Call (.Name x px) [.Name y pa] [] pc) [.NotEq] [due] pos'], 0⟩] bsc pos) (tAsks X G i j tf sb hs DUE LA) := by
  refine pe_imp (pe_none (wi := iSeqT X.K (fun σ H Q => ∃ v, σ[i]? = some (some v) ∧ Q v H)) (g := L2.gName j) (own := [(y, j)]) (tt := ttAsk X G j LA (tAsk j tf sb hs DUE)) hc nd (pi_seq (pe_var hi hvi hd0 hc0)) bo
    (fun sB HB C cl fp => pg_name (X := X.blk sB HB bsc (compEnvC bsc cl C X.env) fp) nd hj (hloc C cl) (.inr (hly C cl)))
    (fun pins σ sB HB C cl fp I ff => pts_ask Hh hK hr hgu hu I ff (hg C cl sB HB fp) lam (fun O => hdue O sB HB C cl fp) hj (hvy C cl) hm hdb hdy hcy)) ?_
  rintro σ H Q ⟨en, M, B, p, zs, hd, hz, ow, hlt, m⟩
  have hl : SqL X.K H p (zs.map fun z => V.ref z.2.1) := .inl (.inl hd.lst)
  have w := walk_list (K := X.K) (a := p) (xs := zs.map fun z => V.ref z.2.1)
  refine ⟨.ref p, hd.at_, p, rfl, .inl ⟨⟨_, hl⟩, fun L hL => ?_⟩⟩
  have npL : p ≠ L := fun z => by rw [← z, hd.lst] at hL; cases hL
  have r0 : Rel (G.with fun a => (G.Out a ∨ a = p) ∨ a = L) (en.wipe [j]) (L2.wipe σ [j]) (upd H L (.lst [])) M B := (hd.rel.wipe [j]).shut hL
  refine ⟨fun n m' Hn => n + m' = zs.length ∧ ∃ en' M', At X G j σ p L zs (upd H L (.lst [])) M B Hn en' M' ∧ Post (fun e => ∀ H' M' L, Rel G (e.back en [j]) σ H' M' B → Step H M H' M' → H' L = some (.lst []) → ¬ av G M' L → Q (.ref L) H') (fun _ _ _ => False) (askLoop [j] ((LA.map fun q => tAsk j tf sb hs DUE q.2).drop n) en'), ⟨zs.length, by omega, en.wipe [j], M, ⟨r0, .refl, wipe_one hlt, by rw [upd_ne npL]; exact hd.lst, upd_same, fun z hz' => ?_⟩, by rw [List.drop_zero]; exact m⟩, ?_⟩
  · obtain ⟨⟨h1, h2⟩, h3, h4⟩ := hd.each z hz'
    have ne : ∀ {a : Addr} {o : HO}, H a = some o → upd H L (.lst []) a = some o := fun {a o} e => by rw [upd_ne (fun z => by rw [z, hL] at e; cases e)]; exact e
    exact ⟨⟨ne h1, h2⟩, ne h3, h4⟩
  · rintro n m' Hn ⟨hn, en', M', a, pm⟩
    have len : LA.length = zs.length := by
      have := congrArg List.length hz
      simpa using this.symm
    by_cases c : n < zs.length
    · refine .inr ⟨w.goes n Hn (by rw [List.length_map]; exact c) (.inl (.inl a.lst)), fun v Hx yl => ?_⟩
      obtain ⟨rfl, hv⟩ := w.yields n Hn v Hx (by rw [List.length_map]; exact c) (.inl (.inl a.lst)) yl
      rw [List.getElem?_map, List.getElem?_eq_getElem c] at hv
      obtain rfl : V.ref zs[n].2.1 = v := Option.some.inj hv
      have cl : n < LA.length := by omega
      have e1 : zs[n].1 = LA[n].1 := by
        have := congrArg (fun l => l[n]?) hz
        simp only [List.getElem?_map, List.getElem?_eq_getElem c, List.getElem?_eq_getElem cl, Option.map_some] at this
        exact Option.some.inj this
      have hdr : (LA.map fun q => tAsk j tf sb hs DUE q.2).drop n = tAsk j tf sb hs DUE LA[n].2 :: (LA.map fun q => tAsk j tf sb hs DUE q.2).drop (n + 1) := by
        rw [List.drop_eq_getElem_cons (by rw [List.length_map]; exact cl), List.getElem_map]
      rw [hdr] at pm
      obtain ⟨⟨h1, h2⟩, h3, h4⟩ := a.each zs[n] (List.getElem_mem c)
      have ws : L2.wipe ((L2.wipe σ [j]).set j (some (.ref zs[n].2.1))) [j] = L2.wipe σ [j] := by
        show ((σ.set j none).set j _).set j none = σ.set j none
        rw [List.set_set, List.set_set]
      have jl : j < σ.length := by rw [hd.rel.len]; exact hlt
      refine ⟨ws, ws, LA[n].1, LA[n].2, zs[n].2.1, zs[n].2.2, (fun a => (G.Out a ∨ a = p) ∨ a = L), en', M', B, List.getElem_mem cl, ?_, by rw [← e1]; exact h1, h3, a.no, a.rel.any a.no, Post.imp (post_bind.mp pm) (fun t mt H2 M2 r2 s2 => ?_) fun _ _ _ h => h⟩
      · rw [List.getElem?_set_self (by show j < (σ.set j none).length; rw [List.length_set]; exact jl)]
      · by_cases b : t.1 = true
        · rw [if_pos b] at mt
          exact mt.elim
        · rw [if_neg b] at mt
          have r3 : Rel (G.with fun a => (G.Out a ∨ a = p) ∨ a = L) (t.2.wipe [j]) (L2.wipe ((L2.wipe σ [j]).set j (some (.ref zs[n].2.1))) [j]) H2 M2 B := r2.wipe [j]
          rw [ws] at r3
          have jl2 : j < t.2.sl.length := by rw [← r2.len, List.length_set]; show j < (σ.set j none).length; rw [List.length_set]; exact jl
          exact ⟨by simpa using b, zs.length - (n + 1), by omega, by omega, _, M2, a.step r3 s2 (wipe_one jl2), mt⟩
    · have en0 : n = zs.length := by omega
      subst en0
      have sp := w.stops Hn (.inl (.inl a.lst))
      rw [List.length_map] at sp
      refine .inl ⟨sp, ?_⟩
      rw [List.drop_eq_nil_of_le (by rw [List.length_map]; omega)] at pm
      have s0 : Step H M Hn M' := (Step.ext (ext_new hL)).trans a.st
      have rb := (hd.rel.unout fun _ h => .inl h).back ow ((a.rel.unout (G := G) fun _ h => .inl (.inl h))) s0
      exact pm Hn M' L rb s0 a.new fun z => z.elim (a.rel.out L (.inr rfl)).2 fun z => (hd.rel.out L (.inl z)).1 hL
end
end DL

namespace DL
open PySem L2 PySem.Spec PyProof.Rows LamX
/-! ### the row of statements: asks = [lambda ..], asks.append(lambda ..), .., the last asks them all -/
def askAll (j : Nat) (tests : List DTt) (en : En) : Rs En := if ownOk en [j] = true ∧ j < en.sl.length then noEx (askLoop [j] tests (en.wipe [j])) >>= fun e => .ok (e.back en [j]) else .bad
def sAskN (j : Nat) (tests : List DTt) : DSt := fun en => askAll j tests en >>= fun e => .ok (.nx e)
def sAskR (j : Nat) (tests : List DTt) : DSt := fun en => askAll j tests en >>= fun e => .ok (.rt (.bool true) e)
def sKeep (i : Nat) (S : DSt) : DSt := fun en => if i < en.sl.length then S (en.put i .no) else .bad
def tH (X : Cx) (G : Gh) (W : WX) (i : Nat) (ls : List Lm) (S : DSt) : TS := fun Ds σ H => ∃ en M B p zs H0 M0, Held X G i p zs en σ H M B ∧ (∀ a, M a → ∀ φ, H a ≠ some (.ext φ)) ∧ zs.map (·.1) = ls ∧ H0 p = none ∧ Step H0 M0 H M ∧ Post (OutOk G Ds H0 M0 B) (EWS G W H0 M0 B) (S en)
structure DHl (X : Cx) (G : Gh) (W : WX) (i : Nat) (ls : List Lm) (sts : List Stmt) (S : DSt) : Prop where pss : PSs X sts (tH X G W i ls S)
section
variable {X : Cx} {G : Gh} {W : WX} {i : Nat} {l : Lm} {ls : List Lm} {S R : DSt} {rest : List Stmt} {x : Str} {p1 p2 p3 p4 p5 pos : Pos}
theorem dss_keep (La : LamAt X.mg X.base G.T X.env.qual X.env.code) (nd : X.N.Nodup) (hN : X.N[i]? = some x) (hx : Loc X.env.scope x) (sc : LamS X.env.scope l.scope) (dfl : defaultsOf l.params X.env = ([], [])) (h : DHl X G W i [l] rest S)
    (hf : X.fn x = true ∨ X.env.scope.names.lookup x = some .local) (hes : starEach [.Lambda l.params l.body l.scope p2] X.env = (false, eval (.Lambda l.params l.body l.scope p2) X.env) :: starEach [] X.env) (hs : swapsWith (.List [.Lambda l.params l.body l.scope p2] p3) (some (.Name x p1)) pos.line X.env = pure false) :
    DSs X G W (.Assign [.Name x p1] (.List [.Lambda l.params l.body l.scope p2] p3) pos :: rest) (sKeep i S) := by
  obtain ⟨c, P, hcode, mem, uq, TB⟩ := La.ex
  refine ⟨pss_imp (pss_cons (ps_set nd hN hx (pe_lst (pa_cons (pe_lamK TB hcode sc dfl) pa_nil hes)) hs hf) h.pss) fun Ds σ H ⟨en, M, B, rel, m⟩ => ?_⟩
  unfold sKeep at m
  split at m
  · rename_i hi
    refine ⟨(rel.tab _ mem).2, fun f c' H1 st => ⟨by show 1 ≤ sizeLine; decide, fun p hp => ?_⟩⟩
    obtain ⟨hd, s1, t1⟩ := held_new hi rel.trim (fun a h φ => h.2 φ) mem uq st hp
    have n0 : H p = none := by
      cases e : H p with
      | none => rfl
      | some o =>
        by_cases c : p = P
        · obtain ⟨ps, z⟩ := tabS_at st.tb
          rw [c, z] at hp
          cases hp
        · rw [st.kp p o c e] at hp
          cases hp
    exact ⟨_, _, B, p, _, H, M, hd, t1, rfl, n0, step_trim.trans s1, m⟩
  · exact m.elim
theorem dhl_more (La : LamAt X.mg X.base G.T X.env.qual X.env.code) (hN : X.N[i]? = some x) (hv : Vis X.env.scope x) (sc : LamS X.env.scope l.scope) (dfl : defaultsOf l.params X.env = ([], [])) (few : ls.length < 1000) (h : DHl X G W i (ls ++ [l]) rest S)
    (hd : (x == ("__debug__" : Str)) = false) (hcd : (x == ("__classdict__" : Str)) = false) (hes : starEach [.Lambda l.params l.body l.scope p2] X.env = (false, eval (.Lambda l.params l.body l.scope p2) X.env) :: starEach [] X.env) (hpl : (backTo p3 (starEach [] X.env)).any (·.1) = false) (hline : (p4.endLine == p3.line) = true) (hb : attributeBase (.Name x p1) "append" X.env (eval (.Name x p1) X.env) = eval (.Name x p1) X.env)
    (hfew : ((backTo p3 (starEach [.Lambda l.params l.body l.scope p2] X.env)).all (fun x => !x.1) && ((backToKw p3 (keywordEach [] X.env)).all (fun x => x.1.isSome)) && decide ([Expr.Lambda l.params l.body l.scope p2].length + ([] : List Keyword).length + (if ([] : List Keyword).isEmpty then 0 else 1) < 30)) = true)
    (hsw : swapsWith (.Call (.Attribute (.Name x p1) "append" p4) [.Lambda l.params l.body l.scope p2] [] p3) none p5.line X.env = pure false) :
    DHl X G W i ls (.Expr (.Call (.Attribute (.Name x p1) "append" p4) [.Lambda l.params l.body l.scope p2] [] p3) p5 :: rest) S := by
  obtain ⟨c, P, hcode, mem, uq, TB⟩ := La.ex
  refine ⟨pss_imp (pss_cons (ps_expr (pe_bm PySem.F.plainAttrs_list PySem.F.slot_list_append PySem.F.type_list_append mt_append (pe_var hN hv hd hcd) (pa_cons (pe_lamK TB hcode sc dfl) pa_nil hes) hb hfew hline hes hpl) hsw) h.pss) fun Ds σ H ⟨en, M, B, p, zs, H0, M0, hh, trim, hz, n0, s0, m⟩ => ?_⟩
  have len : zs.length < 1000 := by
    have := congrArg List.length hz
    rw [List.length_map] at this
    omega
  refine ⟨_, hh.at_, .inl ⟨rfl, _, .inl (.inl hh.lst)⟩, (hh.rel.tab _ mem).2, fun f c' H1 st => ?_⟩
  obtain ⟨e1, h2, t2⟩ := held_more hh len trim mem uq st
  have s2 : Step H0 M0 (upd H1 p (.lst ((zs.map fun z => V.ref z.2.1) ++ [.ref f]))) M := by
    obtain ⟨_, s1, _⟩ := made (G := G.with fun a => G.Out a ∨ a = p) hh.rel trim mem uq st
    have s3 := s0.trans s1
    exact ⟨fun a o h n => by rw [upd_ne (fun z => by rw [z, n0] at h; cases h)]; exact s3.keep a o h n, s3.grow⟩
  exact ⟨p, _, .ref f, rfl, rfl, e1, by rw [List.length_map]; exact Nat.lt_of_lt_of_le len (by decide), _, _, B, p, _, H0, M0, h2, t2, by rw [List.map_append, hz]; rfl, n0, s2, m⟩
end
end DL

namespace DL
open PySem L2 PySem.Spec PyProof.Rows LamX
section
variable {X : Cx} {G : Gh} {W : WX} {i j : Nat} {S R : DSt} {rest : List Stmt} {tf : D → Option D} {sb : Str → Str → Bool} {hs : List HdT} {DUE : DEn} {LA : List (Lm × DEn)} {e : Expr} {p1 p2 p3 pos : Pos}
/-- the outcome of asking them all, against an empty list -/
theorem asks_end {f : D → D → Option D} {r : R2} {b : Bool} {σ : L2.St} {H : Hp} {M : AS} {B : Option Addr} {en : En} {p : Nat} {zs : List (Lm × Addr × Addr)} {Q : VK} {Pn : En → Prop} {F : Str → D → En → Prop} (on : OpS G r f) (hf : f (.list []) (.list []) = some (.bool b)) (hh : Held X G i p zs en σ H M B) (hz : zs.map (·.1) = LA.map (·.1))
    (m : Post Pn F (askAll j (LA.map fun q => tAsk j tf sb hs DUE q.2) en)) (q : ∀ e H' M', Pn e → Rel G e σ H' M' B → Step H M H' M' → Q (.bl b) H') : tOp r (tAsks X G i j tf sb hs DUE LA) (tLst tNil) σ H Q := by
  unfold askAll at m
  split at m
  · rename_i c
    have m := post_noEx' m
    refine ⟨en, M, B, p, zs, hh, hz, c.1, c.2, Post.imp m (fun e me H' M' L rel st hL naL => ?_) fun _ _ _ h => h⟩
    refine ⟨Nat.zero_le _, fun w hw => ?_⟩
    have ex : Ext H' (upd H' w (.lst [])) := ext_new hw
    have rel2 := rel.ext ex
    have naw : ¬ av G M' w := fun z => rel.avh w z hw
    exact on _ (av G M') (.ref L) (.ref w) (.list []) (.list []) (.bool b) _ rel2.avh (.lst ⟨ex _ _ hL, naL⟩ (Nat.zero_le _) .nil) (.lst ⟨upd_same, naw⟩ (Nat.zero_le _) .nil) hf fun u H3 ex3 rd => by
      cases rd
      exact q _ H3 M' me (rel2.ext ex3) (st.trans ((Step.ext ex).trans (.ext ex3)))
  · exact m.elim
/-- if [..] != []: .. -/
theorem dhl_if {thn : List Stmt} {u : TS} (hu : X.A.units + 64 < cLine) (hK : G.K = X.K) (ha : PE X e (tAsks X G i j tf sb hs DUE LA)) (ht : PSs X thn u) (hm : behindInMarks .NotEq (.List [] p2) = false) (h : DSs X G W rest R) :
    DHl X G W i (LA.map (·.1)) (.If (.Compare e [.NotEq] [.List [] p2] p3) thn [] pos :: rest) (sSeq (sAskN j (LA.map fun q => tAsk j tf sb hs DUE q.2)) R) := by
  refine ⟨pss_imp (pss_cons (ps_if (pt_cmpR (r := rNeA X.K) (op_neA hu) ha (pe_lst pa_nil) hm) ht pss_nil) h.pss) fun Ds σ H ⟨en, M, B, p, zs, H0, M0, hh, trim, hz, n0, s0, m⟩ => ?_⟩
  have on : OpS G (rNeA X.K) dNe := by
    rw [← hK]
    exact ops_ne
  have m := post_bind.mp (post_bind.mp m)
  refine asks_end on (b := false) rfl hh hz m fun e H' M' me rel st => ⟨false, rfl, ?_⟩
  exact ⟨e, M', B, rel, Post.imp me (fun o ho => ho.stepB (s0.trans st) fun _ => rfl) fun _ _ _ h => EWS.stepB h (s0.trans st) fun _ => rfl⟩
/-- return [..] == [] -/
theorem dhl_ret (hu : X.A.units + 64 < cLine) (hK : G.K = X.K) (ha : PE X e (tAsks X G i j tf sb hs DUE LA)) (hm : behindInMarks .Eq (.List [] p2) = false) :
    DHl X G W i (LA.map (·.1)) [.Return (some (.Compare e [.Eq] [.List [] p2] p3)) pos] (sAskR j (LA.map fun q => tAsk j tf sb hs DUE q.2)) := by
  refine ⟨pss_imp (pss_one (ps_ret (pe_cmpR (r := rEqA X.K) (op_eqA hu) ha (pe_lst pa_nil) hm))) fun Ds σ H ⟨en, M, B, p, zs, H0, M0, hh, trim, hz, n0, s0, m⟩ => ?_⟩
  have on : OpS G (rEqA X.K) dEq := by
    rw [← hK]
    exact ops_eq
  have m := post_bind.mp m
  exact asks_end on (b := true) rfl hh hz m fun e H' M' me rel st => me (.bl true) σ H' M' B rel (s0.trans st) (fun _ => rfl) (.bl true)
end
end DL

namespace DL
open PySem L2 PySem.Spec PyProof.Rows LamX
/-! ### the rules with the context's facts -/
inductive LamDs (X : Cx) (G : Gh) (k : Nat) : List Lm → List DEn → Prop
  | nil : LamDs X G k [] []
  | cons {l : Lm} {A : DEn} {ls : List Lm} {As : List DEn} (h : LamD X G k l A) (r : LamDs X G k ls As) : LamDs X G k (l :: ls) (A :: As)
theorem LamDs.zip {X : Cx} {G : Gh} {k : Nat} {ls : List Lm} {As : List DEn} (h : LamDs X G k ls As) : (ls.zip As).map (·.1) = ls ∧ (ls.zip As).map (·.2) = As ∧ ∀ q ∈ ls.zip As, LamD X G k q.1 q.2 := by
  induction h with
  | nil => exact ⟨rfl, rfl, by simp⟩
  | cons h r ih =>
    refine ⟨by rw [List.zip_cons_cons, List.map_cons, ih.1], by rw [List.zip_cons_cons, List.map_cons, ih.2.1], fun q hq => ?_⟩
    rw [List.zip_cons_cons] at hq
    rcases List.mem_cons.mp hq with rfl | hq
    · exact h
    · exact ih.2.2 q hq
def tests (j : Nat) (tf : D → Option D) (sb : Str → Str → Bool) (hs : List HdT) (DUE : DEn) (As : List DEn) : List DTt := As.map fun A => tAsk j tf sb hs DUE A
theorem tests_zip {j : Nat} {tf : D → Option D} {sb : Str → Str → Bool} {hs : List HdT} {DUE : DEn} {LA : List (Lm × DEn)} {As : List DEn} (h : LA.map (·.2) = As) : (LA.map fun q => tAsk j tf sb hs DUE q.2) = tests j tf sb hs DUE As := by
  unfold tests
  rw [← h, List.map_map]
  rfl
section
variable {m : Bool} {X : Cx} {G : Gh} {W : WX} {k j : Nat} {S R : DSt} {rest : List Stmt} {ls : List Lm} {As : List DEn} {A DUE : DEn} {tf : D → Option D} {sb : Str → Str → Bool} {hs : List HdT} {params : Arguments} {body due : Expr} {scope bsc : Scope} {p1 p2 p3 p4 p5 p6 p7 p8 p9 pos pos' : Pos} {x y y0 : Str}
theorem l_mk (c : Cn m X G W k) (L : lamSB X.env.scope scope = true)
    (bod : ∀ (O : AS) (A' : Around) (outer : List Env) (s : Shared) (H : Hp) (E : XK) (f c' : Addr), Cn true (lamCx X A' outer s H E scope f c') (G.with O) (fun cls d _ H => E cls d H) j → DE (lamCx X A' outer s H E scope f c') (G.with O) (fun cls d _ H => E cls d H) body A)
    (bind : ∀ (q : Str) (cl : List (Str × Addr)) (pm cv ctv : Value), bindArgs (PySem.W.kla_fn "<lambda>" q params body scope cl pm cv ctv) ⟨[], []⟩ = pure [] := by intros; rfl) (hdef : defaultsOf params X.env = ([], []) := by rfl) : LamD X G j ⟨params, body, scope⟩ A :=
  ⟨lamS_by L, hdef, bind, fun O A' outer s H E f c' g1 r1 t1 => bod O A' outer s H E f c' ⟨c.K, r1, g1, tkN t1, fun _ => t1, rfl, c.nd⟩⟩
theorem h_keep (c : Cn m X G W k) (i : Nat) (La : LamAt X.mg X.base G.T X.env.qual X.env.code) (L : lamSB X.env.scope scope = true) (h : DHl X G W i [⟨params, body, scope⟩] rest S) (hdef : defaultsOf params X.env = ([], []) := by rfl)
    (hN : X.N[i]? = some x := by rfl) (hx : Loc X.env.scope x := by first | exact Or.inl rfl | exact Or.inr rfl) (hf : X.fn x = true ∨ X.env.scope.names.lookup x = some .local := by first | exact .inl rfl | exact .inr rfl)
    (hes : starEach [.Lambda params body scope p2] X.env = (false, eval (.Lambda params body scope p2) X.env) :: starEach [] X.env := by rfl) (hs : swapsWith (.List [.Lambda params body scope p2] p3) (some (.Name x p1)) pos.line X.env = pure false := by rfl) :
    DSs X G W (.Assign [.Name x p1] (.List [.Lambda params body scope p2] p3) pos :: rest) (sKeep i S) := dss_keep (l := ⟨params, body, scope⟩) La c.nd hN hx (lamS_by L) hdef h hf hes hs
theorem h_more (i : Nat) (La : LamAt X.mg X.base G.T X.env.qual X.env.code) (L : lamSB X.env.scope scope = true) (few : ls.length < 1000) (h : DHl X G W i (ls ++ [⟨params, body, scope⟩]) rest S) (hdef : defaultsOf params X.env = ([], []) := by rfl)
    (hN : X.N[i]? = some x := by rfl) (hv : Vis X.env.scope x := by first | exact Or.inl rfl | exact Or.inr (Or.inl rfl) | exact Or.inr (Or.inr rfl)) (hd : (x == ("__debug__" : Str)) = false := by decide) (hcd : (x == ("__classdict__" : Str)) = false := by decide)
    (hes : starEach [.Lambda params body scope p2] X.env = (false, eval (.Lambda params body scope p2) X.env) :: starEach [] X.env := by rfl) (hpl : (backTo p3 (starEach [] X.env)).any (·.1) = false := by rfl) (hline : (p4.endLine == p3.line) = true := by rfl) (hb : attributeBase (.Name x p1) "append" X.env (eval (.Name x p1) X.env) = eval (.Name x p1) X.env := by rfl)
    (hfew : ((backTo p3 (starEach [.Lambda params body scope p2] X.env)).all (fun x => !x.1) && ((backToKw p3 (keywordEach [] X.env)).all (fun x => x.1.isSome)) && decide ([Expr.Lambda params body scope p2].length + ([] : List Keyword).length + (if ([] : List Keyword).isEmpty then 0 else 1) < 30)) = true := by rfl)
    (hsw : swapsWith (.Call (.Attribute (.Name x p1) "append" p4) [.Lambda params body scope p2] [] p3) none p5.line X.env = pure false := by rfl) :
    DHl X G W i ls (.Expr (.Call (.Attribute (.Name x p1) "append" p4) [.Lambda params body scope p2] [] p3) p5 :: rest) S := dhl_more (l := ⟨params, body, scope⟩) La hN hv (lamS_by L) hdef few h hd hcd hes hpl hline hb hfew hsw
/-- the comprehension that asks them all -/
structure Asks (X : Cx) (G : Gh) (i j : Nat) (tf : D → Option D) (sb : Str → Str → Bool) (hs : List HdT) (DUE : DEn) (ls : List Lm) (As : List DEn) (e : Expr) : Prop where
  pe : PE X e (tAsks X G i j tf sb hs DUE (ls.zip As))
  z1 : (ls.zip As).map (·.1) = ls
  z2 : (ls.zip As).map (·.2) = As
theorem h_asks {jj : Nat} (c : Cn m X G W k) (i j : Nat) (Hh : Hear X.prog X.w X.K X.mg X.base G.cls sb x tf hs) (lam : LamDs X G jj ls As) (bo : BlkOk X.N X.env.scope bsc [(y, j)]) (hdue : ∀ (O : AS) (sB : Shared) (HB : Hp) (C : Addr) (cl : List (Str × Addr)) (fp : List Addr), DE (X.blk sB HB bsc (compEnvC bsc cl C X.env) fp) (G.with O) W0 due DUE) (hj : jj + 2 ≤ k := by decide)
    (hN : X.N[i]? = some y0 := by rfl) (hv : Vis X.env.scope y0 := by first | exact Or.inl rfl | exact Or.inr (Or.inl rfl) | exact Or.inr (Or.inr rfl)) (hy : X.N[j]? = some y := by rfl)
    (hg : ∀ (C : Addr) (cl : List (Str × Addr)) (sB : Shared) (HB : Hp) (fp : List Addr), Gl (X.blk sB HB bsc (compEnvC bsc cl C X.env) fp) x := by intro _ _ _ _ _; rfl) (hly : ∀ (C : Addr) (cl : List (Str × Addr)), (compEnvC bsc cl C X.env).scope.names.lookup y = some .local := by intro _ _; rfl)
    (hm : behindInMarks .NotEq due = false := by rfl) (hdb : (x == ("__debug__" : Str)) = false := by decide) (hdy : (y == ("__debug__" : Str)) = false := by decide) (hcy : (y == ("__classdict__" : Str)) = false := by decide) (hd0 : (y0 == ("__debug__" : Str)) = false := by decide) (hc0 : (y0 == ("__classdict__" : Str)) = false := by decide) :
    Asks X G i j tf sb hs DUE ls As (.ListComp (.Name y p1) [⟨.Name y p2, .Name y0 p3, [.Compare (.Call (.Name x p4) [.Name y p5] [] p6) [.NotEq] [due] p7], 0⟩] bsc pos) :=
  ⟨asks_pe Hh c.K (c.rm.mono hj) c.gu c.u c.calm c.nd hN hv hy bo hg lam.zip.2.2 hdue (fun C cl => .inl (hly C cl)) hly hm hdb hdy hcy hd0 hc0 (fun C cl => .inl (hly C cl)), lam.zip.1, lam.zip.2.1⟩
theorem h_if {e : Expr} {thn : List Stmt} {T : DSt} {i : Nat} (c : Cn m X G W k) (a : Asks X G i j tf sb hs DUE ls As e) (ht : DSs X G W thn T) (h : DSs X G W rest R) (hm : behindInMarks .NotEq (.List [] p2) = false := by rfl) :
    DHl X G W i ls (.If (.Compare e [.NotEq] [.List [] p2] p3) thn [] pos :: rest) (sSeq (sAskN j (tests j tf sb hs DUE As)) R) := by
  have q := dhl_if (p2 := p2) (p3 := p3) (pos := pos) (W := W) c.u c.K a.pe ht.pss hm h
  rw [a.z1, tests_zip a.z2] at q
  exact q
theorem h_ret {e : Expr} {i : Nat} (c : Cn m X G W k) (a : Asks X G i j tf sb hs DUE ls As e) (hm : behindInMarks .Eq (.List [] p2) = false := by rfl) :
    DHl X G W i ls [.Return (some (.Compare e [.Eq] [.List [] p2] p3)) pos] (sAskR j (tests j tf sb hs DUE As)) := by
  have q := dhl_ret (p2 := p2) (p3 := p3) (pos := pos) (W := W) c.u c.K a.pe hm
  rw [a.z1, tests_zip a.z2] at q
  exact q
end
end DL

namespace DL
open PySem L2 PySem.Spec PyProof.Rows
/-! ### try: .. except (C1, C2): raise X(e) -/
theorem fly_push {B h : Heap} {l : List Env} {a : Addr} {Z : Obj → Prop} {o : Obj} (x : HandSPX.FlyingZ B l a Z h) : HandSPX.FlyingZ B l a Z (h.push o) := by
  obtain ⟨h1, h2, h3, oe, vs, T, oT, ts, e1, e2, e3, e4, e5, e6, e7, e8⟩ := x
  exact ⟨fun b u z => Heap.get?_push_of_some _ (h1 b u z), h2, Heap.FunFrames.of_keeps (fun b u z _ => ⟨u, Heap.get?_push_of_some _ z, rfl⟩) h3, oe, vs, T, oT, ts, Heap.get?_push_of_some _ e1, e2, e3, e4, e5, e6, Heap.get?_push_of_some _ e7, e8⟩
/-- the clause's question: is the error of one of two classes -/
theorem ask_two {Y : Cx} {pins : List (Addr × Obj)} {σ : L2.St} {H : Hp} {s : Shared} {a : Addr} {x1 x2 : Str} {c1 c2 cls : Value} {p1 p2 p : Pos} {kk : Nat} {b : Bool} {Q : Bool → Shared → Prop} {E E' : Value → Shared → Prop}
    (S : Inv Y pins σ H s) (n1 : Names Y x1 c1) (n2 : Names Y x2 c2) (LT : PySem.W.Looks (model Y.prog Y.w) s.heap (typeOf (.ref a)) cls) (hx : PySem.W.exmAny Y.K cls [c1, c2] = some b)
    (hs : starEach [.Name x1 p1, .Name x2 p2] Y.env = (false, eval (.Name x1 p1) Y.env) :: starEach [.Name x2 p2] Y.env) (hs2 : starEach [.Name x2 p2] Y.env = (false, eval (.Name x2 p2) Y.env) :: starEach [] Y.env)
    (hbk : backTo p (starEach [.Name x1 p1, .Name x2 p2] Y.env) = [(false, eval (.Name x1 p1) Y.env), (false, eval (.Name x2 p2) Y.env)])
    (q : Q b { s with heap := s.heap.push { cls := .type "tuple", data := .seq [c1, c2].toArray } }) :
    wpAny (model Y.prog Y.w) Y.A (eval (.Tuple [.Name x1 p1, .Name x2 p2] kk p) Y.env) (fun c s1 => wpAny (model Y.prog Y.w) Y.A (excMatches (.ref a) c) Q E s1) E' s := by
  have nm : ∀ {x : Str} {c : Value} {pp : Pos} {Q' : Value → Shared → Prop}, Names Y x c → Q' c s → wpAny (model Y.prog Y.w) Y.A (eval (.Name x pp) Y.env) Q' E' s := fun {x c pp Q'} n q => by
    obtain ⟨hg, hdb, hm | ⟨hm, hv, hn⟩⟩ := n
    · exact ld_glob S hg hm q hdb
    · exact ld_blt S hg hm hv q hn hdb
  refine wpAny_Tuple_spliced ?_
  rw [hbk]
  refine Calls.spliced_cons (nm n1 (Calls.spliced_cons (nm n2 (Calls.spliced_nil ⟨by show 2 ≤ sizeLine; decide, ?_⟩))))
  have kin : Y.K.In (s.heap.push { cls := .type "tuple", data := .seq [c1, c2].toArray }) := S.kIn.keeps fun b o z => Heap.get?_push_of_some _ z
  exact PySem.W.exm_tup2 (M := model Y.prog Y.w) kin (LT.keeps fun b o z => Heap.get?_push_of_some _ z) (Heap.get?_push_size _ rfl) hx Y.A Q E { s with heap := s.heap.push { cls := .type "tuple", data := .seq [c1, c2].toArray } } (fun b o z => z) q
/-- what is wished of an error of the body -/
def wTwo (K : Fg) (c1 c2 : Value) (ts : Addr → Value → Option Addr → TS) (Wout : WX) (D : Ends) : WX := fun cls d σ H =>
  ∃ b, PySem.W.exmAny K cls [c1, c2] = some b ∧ (b = true → ∀ a, H a = none → ts a cls d D σ H) ∧ (b = false → Wout cls d σ H)
section
variable {X : Cx} {body rest : List Stmt} {b₀ : Stmt} {x1 x2 : Str} {c1 c2 : Value} {p1 p2 p3 p4 pos : Pos} {kk : Nat} {tb : WX → TS} {ts : Addr → Value → Option Addr → TS} {Wout : WX}
theorem ps_tryR (stk : X.stack = X.env :: X.outer) (frm : X.env.frame = some X.env.locals) (n1 : Names X x1 c1) (n2 : Names X x2 c2) (own : ∀ hd : Option Value, PassesOwnAt (model X.prog X.w) (X.A.mark hd) X.A X.env X.xe) (tk : L2.Takes X Wout)
    (bod : ∀ (W : WX) (pn : List (Addr × Obj)) (xe : Value → Shared → Prop), L2N.Takes (X.tr pn xe) W → PSs (X.tr pn xe) body (tb W))
    (suite : ∀ (a : Addr) (oe : Obj) (cls : Value) (d : Option Addr) (pn : List (Addr × Obj)), L2N.Zn cls d oe → (∃ vs, oe.data = .fields vs) → L2.Takes (L2H.suiteX X a ((a, oe) :: pn)) Wout → L2H.HotC (L2H.suiteX X a ((a, oe) :: pn)) →
      PSs (L2H.suiteX X a ((a, oe) :: pn)) (b₀ :: rest) (ts a cls d))
    (hs : starEach [.Name x1 p1, .Name x2 p2] X.env = (false, eval (.Name x1 p1) X.env) :: starEach [.Name x2 p2] X.env) (hs2 : starEach [.Name x2 p2] X.env = (false, eval (.Name x2 p2) X.env) :: starEach [] X.env)
    (hbk : backTo p3 (starEach [.Name x1 p1, .Name x2 p2] X.env) = [(false, eval (.Name x1 p1) X.env), (false, eval (.Name x2 p2) X.env)]) :
    PS X (.Try body [.ExceptHandler (some (.Tuple [.Name x1 p1, .Name x2 p2] kk p3)) none (b₀ :: rest) p4] [] [] pos) (fun D σ H => tb (wTwo X.K c1 c2 ts Wout D) D σ H) := by
  refine ⟨fun pins s0 σ0 H0 D I0 t0 => ?_⟩
  have ok := I0.ok
  have fr : X.A.frames = some (X.env :: X.outer) := by rw [ok.frames, stk]
  let hds : List ExceptHandler := [.ExceptHandler (some (.Tuple [.Name x1 p1, .Name x2 p2] kk p3)) none (b₀ :: rest) p4]
  let back : Value → Shared → Prop := fun e sa => wpAny (model X.prog X.w) X.A (noteFrame e X.env) (fun _ sb => wpAny (model X.prog X.w) X.A (setFlight e none) (fun _ sc => wpAny (model X.prog X.w) X.A (handleBy e X.env hds) (SP X pins D) X.xe sc) X.xe sb) X.xe sa
  have bk : L2N.Takes (X.tr (X.pn ++ pins) back) (wTwo X.K c1 c2 ts Wout D) := by
    rintro u s1 ⟨a, B, sI, pins', σ1, H1, cls, d, rfl, J', nb, up, sky, na, os, ag, b, hb, yes, no⟩
    have J : Inv X pins σ1 H1 sI := J'.ofTry ok
    show wpAny (model X.prog X.w) X.A (noteFrame (.ref a) X.env) _ _ _
    refine L2N.Sky.land L2N.Zn.steady fr frm (show Sky B (X.env :: X.outer) a (L2N.Zn cls d) X.env.locals s1.heap by rw [← stk]; exact sky) fun h3 fl3 up3 => ?_
    have J3 : Inv X pins σ1 H1 { s1 with heap := h3 } := J.landed nb fl3.1 (up.trans up3) os ag
    obtain ⟨oe3, vs3, he3, hz3, hd3⟩ := fl3.there
    have off : a ∉ frs (X.env :: X.outer) := fun hm => by
      obtain ⟨_, o', e', hnf⟩ := Heap.FunFrames.mem fl3.2.2.1 hm
      rw [he3] at e'
      cases e'
      exact hnf _ hd3
    have nL : a ≠ X.env.locals := fun z => off (List.mem_filterMap.mpr ⟨X.env, List.mem_cons_self, by rw [frm, z]⟩)
    have nF : a ∉ X.fs := fun hm => let ⟨e, he, q⟩ := List.mem_filterMap.mp hm; off (List.mem_filterMap.mpr ⟨e, List.mem_cons_of_mem _ he, q⟩)
    have S3 := J3.suite he3 hd3 na nL nF
    refine wpAny_handleBy_cons (codeAny_handlers_test ?_) (by intro q; cases q)
    have LT : PySem.W.Looks (model X.prog X.w) h3 (typeOf (.ref a)) cls := fun _ _ _ s k q => wpAny_typeOf_ref (k _ _ he3) (by rw [hz3.1]; exact q)
    refine ask_two (Y := X.suite a ((a, oe3) :: (X.pn ++ pins))) S3 n1 n2 LT hb hs hs2 hbk ?_
    -- the tuple stands
    have fl5 := fly_push (o := ({ cls := .type "tuple", data := .seq [c1, c2].toArray } : Obj)) fl3
    have up5 : h3.UpToSlots (h3.push { cls := .type "tuple", data := .seq [c1, c2].toArray }) := Heap.UpToSlots.of_keeps fun b o z => Heap.get?_push_of_some _ z
    generalize h3.push { cls := .type "tuple", data := .seq [c1, c2].toArray } = h5 at fl5 up5 ⊢
    cases b with
    | false =>
      show wpAny _ X.A (handleBy (.ref a) X.env []) _ _ _
      refine wpAny_handleBy_nil ?_
      obtain ⟨_, _, _, oe, vs, T, oT, ts', he, hz, hd, e1, hr⟩ := id fl5
      unfold PySem.passOn
      refine wpAny_bind (wpAny_field he hd e1 ?_)
      rw [if_neg (show ¬ ((Value.ref T == Value.none) = true) by simp)]
      have last : wpAny (model X.prog X.w) X.A (setFlight (.ref a) X.env.frame) (fun _ s4 => wpAny (model X.prog X.w) X.A (throw (.ref a) : Sem Flow) (SP X pins D) X.xe s4) X.xe { s1 with heap := h5 } := by
        rw [frm]
        refine HandSPX.setFlight_upZ fl5 fun h4 hh4 up4 => wpAny_throw (tk _ _ ⟨a, B, sI, pins, σ1, H1, cls, d, rfl, J, nb, ((up.trans up3).trans up5).trans up4, ?_, na, os, ag, no rfl⟩)
        rw [stk]
        exact zn_sky (.inr (.inr hh4))
      first
        | exact wpAny_bind (wpAny_pure (wpAny_bind last))
        | exact wpAny_bind last
    | true =>
      refine codeAny_handlers_suite (HandSPX.lands_againZ fl5 fun h4 fl4 up4 => ?_)
      have J4 : Inv X pins σ1 H1 { s1 with heap := h4 } := J.landed nb fl4.1 (((up.trans up3).trans up5).trans up4) os ag
      obtain ⟨oe4, vs4, he4, hz4, hd4⟩ := fl4.there
      have S4 := J4.suite he4 hd4 na nL nF
      have tkS : L2.Takes (L2H.suiteX X a ((a, oe4) :: (X.pn ++ pins))) Wout := fun u2 s2 ⟨a2, B2, sI2, pn2, σ2, H2, cls2, d2, e2, I2, r2⟩ => tk u2 s2 ⟨a2, B2, sI2, pins, σ2, H2, cls2, d2, e2, L2H.unsuiteX I2 ok, r2⟩
      have hot : L2H.HotC (L2H.suiteX X a ((a, oe4) :: (X.pn ++ pins))) := ⟨(a, oe4), ⟨rfl, vs4, hd4, hz4.2.2 vs4 hd4⟩, List.mem_cons_self⟩
      refine wpAny_mono ((suite a oe4 cls d (X.pn ++ pins) hz4 ⟨_, hd4⟩ tkS hot).run [] _ _ H1 _ (L2H.suiteX_of S4) (yes rfl a na)) (fun f s6 hsp => ?_) (fun e6 s6 z => own (some (.ref a)) e6 s6 z)
      match f, hsp with
      | .next, ⟨_, _, S6, q6⟩ => exact ⟨_, _, L2H.unsuiteX S6 ok, q6⟩
      | .brk, ⟨_, _, S6, q6⟩ => exact ⟨_, _, L2H.unsuiteX S6 ok, q6⟩
      | .cont, ⟨_, _, S6, q6⟩ => exact ⟨_, _, L2H.unsuiteX S6 ok, q6⟩
      | .ret u, ⟨_, _, _, S6, r6, q6⟩ => exact ⟨_, _, _, L2H.unsuiteX S6 ok, r6, q6⟩
  refine wpAny_Try_except (wpAny_mono ((bod (wTwo X.K c1 c2 ts Wout D) (X.pn ++ pins) back bk).run [] s0 σ0 H0 D (I0.toTry _) t0) (fun f s1 hsp => ?_) fun e s1 he => he)
  match f, hsp with
  | .next, ⟨σ1, H1, J, q⟩ => exact wpAny_execs_nil ⟨σ1, H1, J.ofTry ok, q⟩
  | .brk, ⟨σ1, H1, J, q⟩ => exact ⟨σ1, H1, J.ofTry ok, q⟩
  | .cont, ⟨σ1, H1, J, q⟩ => exact ⟨σ1, H1, J.ofTry ok, q⟩
  | .ret u, ⟨v, σ1, H1, J, r, q⟩ => exact ⟨v, σ1, H1, J.ofTry ok, r, q⟩
end
end DL

namespace DL
open PySem L2 PySem.Spec PyProof.Rows
/-! ### as data -/
def sTryR (S : DSt) (cat : Str → Bool) (T : DSt) : DSt := fun en => match S en with
  | .ex c d en' => if cat c = true then T en' else .ex c d en'
  | .ok o => .ok o
  | .bad => .bad
/-- a class that a clause may name -/
structure Cat (K : Fg) (mg : Str → Option Value) (cs : Str → Option (Value × Str)) (sb : Str → Str → Bool) (x : Str) : Prop where
  ex : ∃ C : Addr, mg x = some (.ref C) ∧ ∀ c cls f, cs c = some (cls, f) → PySem.W.exmOne K cls (.ref C) = some (sb c x)
/-- what an except suite that raises knows of its place -/
structure Ch (X : Cx) (G : Gh) (W : WX) (k : Nat) : Prop where
  K : G.K = X.K
  rm : L2H.RoomH k X.A
  hot : L2H.HotC X
  tk : L2.Takes X W
section
variable {X : Cx} {G : Gh} {W : WX} {k : Nat} {body rest : List Stmt} {b₀ : Stmt} {x1 x2 nm : Str} {p1 p2 p3 p4 p pos pos2 : Pos} {kk : Nat} {S T : DSt} {sb : Str → Str → Bool} {e : Expr} {A : DEn}
theorem s_raiseH (c : Ch X G W k) (Er : Err X.prog X.w X.K X.mg X.base G.cls nm) (h : DE X G W e A) (hk : 2 ≤ k := by decide) (hg : Gl X nm := by rfl) (hdb : (nm == ("__debug__" : Str)) = false := by decide)
    (hs : starEach [e] X.env = (false, eval e X.env) :: starEach [] X.env := by rfl) (hpl : (backTo pos (starEach [] X.env)).any (·.1) = false := by rfl) : DS X G W (.Raise (some (.Call (.Name nm p) [e] [] pos)) none pos2) (sRaise nm A) := by
  obtain ⟨b, C, fI, f, x, fd, O, T, ecs, em, iC, tI, F1, hb⟩ := Er.ex
  refine ⟨ps_imp (L2H.ps_raiseH c.hot c.tk (pmk_er O T iC tI F1 (c.rm.mono hk) hb hg em h.pe hdb hs hpl)) fun Ds σ H ⟨en, M, B, rel, m⟩ => ⟨en, M, B, rel, Post.imp (post_bind.mp m) (fun q mq v H1 M1 rel1 st1 rd1 d hd => ?_) fun _ _ _ h => h.ew σ⟩⟩
  have ex := ext_new (o := HO.xd [(f, v)]) hd
  exact mq (.ref C) (some d) σ _ M1 B (rel1.ext ex) (st1.trans (.ext ex)) (fun _ => rfl) ⟨f, d, _, v, ecs, rfl, upd_same, fun z => rel1.avh d z hd, by simp [List.lookup], rd1.ext ex⟩
theorem s_tryR (c : Cn true X G W k) (K1 : Cat X.K X.mg G.cls sb x1) (K2 : Cat X.K X.mg G.cls sb x2)
    (own : ∀ hd : Option Value, PassesOwnAt (model X.prog X.w) (X.A.mark hd) X.A X.env X.xe)
    (hb : ∀ (W' : WX) (pn : List (Addr × Obj)) (xe : Value → Shared → Prop), Cn false (X.tr pn xe) G W' k → DSs (X.tr pn xe) G W' body S)
    (hsu : ∀ (a : Addr) (pn : List (Addr × Obj)), Ch (L2H.suiteX X a pn) G W k → DSs (L2H.suiteX X a pn) G W (b₀ :: rest) T)
    (stk : X.stack = X.env :: X.outer := by rfl) (frm : X.env.frame = some X.env.locals := by rfl)
    (g1 : Gl X x1 := by rfl) (g2 : Gl X x2 := by rfl) (d1 : (x1 == ("__debug__" : Str)) = false := by decide) (d2 : (x2 == ("__debug__" : Str)) = false := by decide)
    (hs : starEach [.Name x1 p1, .Name x2 p2] X.env = (false, eval (.Name x1 p1) X.env) :: starEach [.Name x2 p2] X.env := by rfl) (hs2 : starEach [.Name x2 p2] X.env = (false, eval (.Name x2 p2) X.env) :: starEach [] X.env := by rfl)
    (hbk : backTo p3 (starEach [.Name x1 p1, .Name x2 p2] X.env) = [(false, eval (.Name x1 p1) X.env), (false, eval (.Name x2 p2) X.env)] := by rfl) :
    DS X G W (.Try body [.ExceptHandler (some (.Tuple [.Name x1 p1, .Name x2 p2] kk p3)) none (b₀ :: rest) p4] [] [] pos) (sTryR S (fun z => sb z x1 || sb z x2) T) := by
  obtain ⟨C1, m1, t1⟩ := K1.ex
  obtain ⟨C2, m2, t2⟩ := K2.ex
  refine ⟨ps_imp (ps_tryR (c1 := .ref C1) (c2 := .ref C2) (tb := fun W' => tS G W' S) (ts := fun _ _ _ => tS G W T) stk frm ⟨g1, d1, .inl m1⟩ ⟨g2, d2, .inl m2⟩ own (c.tm rfl)
    (fun W' pn xe tk => (hb W' pn xe ⟨c.K, c.rm, c.gu, tk, (fun z => nomatch z), c.calm, c.nd⟩).pss)
    (fun a oe cls d pn hz hf tk hot => (hsu a _ ⟨c.K, L2H.roomH_mark c.rm _, hot, tk⟩).pss) hs hs2 hbk) fun Ds σ H ⟨en, M, B, rel, m⟩ => ⟨en, M, B, rel, ?_⟩⟩
  unfold sTryR at m
  cases es : S en with
  | bad => rw [es] at m; exact m.elim
  | ok o => rw [es] at m; exact m
  | ex cl d en' =>
    rw [es] at m
    intro cls dd σ' H' M' B' r st hB xo
    have xo' := xo
    obtain ⟨f, a, fs, v, ecs, _⟩ := xo'
    have e1 := t1 _ _ _ ecs
    have e2 := t2 _ _ _ ecs
    refine ⟨sb cl x1 || (sb cl x2 || false), by simp [PySem.W.exmAny, e1, e2], fun yes _ _ => ?_, fun no => ?_⟩
    · have yes : (sb cl x1 || sb cl x2) = true := by simpa using yes
      dsimp only at m
      rw [if_pos yes] at m
      exact ⟨en', M', B', r, Post.imp m (fun o mo => mo.stepB st hB) fun _ _ _ h => h.stepB st hB⟩
    · have no : ¬ (sb cl x1 || sb cl x2) = true := by simpa using no
      dsimp only at m
      rw [if_neg no] at m
      exact m cls dd σ' H' M' B' r st hB xo
end
end DL

namespace DL
open PySem L2 PySem.Spec PyProof.Rows
/-! ### what stands at a name is read, not let go -/
def pkD : Option Sl → Option D
  | some (.fz d) => some d
  | some (.ow ds) => some (.list ds)
  | some (.od t es) => some (dcD t es)
  | _ => none
theorem rx_slot {G : Gh} {en : En} {σ : L2.St} {H : Hp} {M : AS} {B : Option Addr} {i : Nat} {d : D} (r : Rel G en σ H M B) (h : pkD en.sl[i]? = some d) : ∃ v, σ[i]? = some (some v) ∧ RX G.K H (av G M) v d := by
  cases e : en.sl[i]? with
  | none => rw [e] at h; cases h
  | some s =>
    rw [e] at h
    have q := r.slot i s e
    cases s with
    | fz d => cases h; obtain ⟨v, h1, h2⟩ := q; exact ⟨v, h1, .rd h2⟩
    | ow ds => cases h; obtain ⟨p, xs, h1, _, h3, h4, h5⟩ := q; exact ⟨_, h1, .lst h3 h4 h5⟩
    | od t es => cases h; obtain ⟨p, h1, _, h3⟩ := q; exact ⟨_, h1, .od h3⟩
    | no => cases h
    | sq ns => cases h
    | fu x => cases h
    | bx => cases h
    | er c d => cases h
def ePk (f : D → D → Option D) (i : Nat) (b : DEn) : DEn := fun en => liftO (pkD en.sl[i]?) >>= fun _ => b en >>= fun q => liftO (pkD q.2.sl[i]?) >>= fun d => liftO (f d q.1) >>= fun z => .ok (z, q.2)
def ePkR (f : D → D → Option D) (a : DEn) (i : Nat) : DEn := fun en => a en >>= fun q => liftO (pkD q.2.sl[i]?) >>= fun d => liftO (f q.1 d) >>= fun z => .ok (z, q.2)
def ePkLen (i : Nat) : DEn := fun en => liftO (pkD en.sl[i]?) >>= fun d => liftO (dLen [d]) >>= fun z => .ok (z, en)
section
variable {m : Bool} {X : Cx} {G : Gh} {W : WX} {k : Nat} {pos p2 p3 p4 : Pos} {a b e : Expr} {es : List Expr} {A B C : DEn} {As : DAs} {N : DNl} {x : Str} {i : Nat}
theorem pk_tr {r : R2} {f : D → D → Option D} (h : OpX G r f) : ∀ σ H Q, tE G W (ePk f i B) σ H Q → tOp r (tVar i) (tE G W B) σ H Q := fun σ H Q ⟨en, M, Bx, rel, mm⟩ => by
  obtain ⟨d0, hd0, mm⟩ := post_lift.mp mm
  obtain ⟨v, hv, _⟩ := rx_slot rel hd0
  refine ⟨v, hv, en, M, Bx, rel, Post.imp (post_bind.mp mm) (fun q mq w H1 M1 rel1 st1 rd1 => ?_) fun _ _ _ h => h⟩
  obtain ⟨d, hd, mq⟩ := post_lift.mp mq
  obtain ⟨z, hz, mz⟩ := post_lift.mp mq
  obtain ⟨v', hv', rx⟩ := rx_slot rel1 hd
  rw [hv] at hv'
  cases hv'
  exact h H1 _ v w d q.1 z Q rel1.avh rx rd1 hz fun u H' ext rd => mz u H' M1 (rel1.ext ext) (st1.trans (.ext ext)) rd
theorem pkR_tr {r : R2} {f : D → D → Option D} (h : OpY G r f) : ∀ σ H Q, tE G W (ePkR f A i) σ H Q → tOp r (tE G W A) (tVar i) σ H Q := fun σ H Q ⟨en, M, Bx, rel, mm⟩ => by
  refine ⟨en, M, Bx, rel, Post.imp (post_bind.mp mm) (fun q mq w H1 M1 rel1 st1 rd1 => ?_) fun _ _ _ h => h⟩
  obtain ⟨d, hd, mq⟩ := post_lift.mp mq
  obtain ⟨z, hz, mz⟩ := post_lift.mp mq
  obtain ⟨v, hv, rx⟩ := rx_slot rel1 hd
  exact ⟨v, hv, h H1 _ w v q.1 d z Q rel1.avh rd1 rx hz fun u H' ext rd => mz u H' M1 (rel1.ext ext) (st1.trans (.ext ext)) rd⟩
theorem v_pkix (c : Cn m X G W k) (i : Nat) (hb : DE X G W b B) (hN : X.N[i]? = some x := by rfl) (hv : Vis X.env.scope x := by first | exact Or.inl rfl | exact Or.inr (Or.inl rfl) | exact Or.inr (Or.inr rfl)) (hd : (x == ("__debug__" : Str)) = false := by decide) (hcd : (x == ("__classdict__" : Str)) = false := by decide)
    (hs : PlainIx b := by intro _ _; rfl) : DE X G W (.Subscript (.Name x p2) b pos) (ePk dIx i B) :=
  ⟨pe_imp (pe_ix (r := rIxA G.K) (by rw [c.K]; exact ix_A c.u) (pe_var hN hv hd hcd) hb.pe hs) (pk_tr opx_ix)⟩
theorem v_pkin (c : Cn m X G W k) (i : Nat) (ha : DE X G W a A) (hN : X.N[i]? = some x := by rfl) (hv : Vis X.env.scope x := by first | exact Or.inl rfl | exact Or.inr (Or.inl rfl) | exact Or.inr (Or.inr rfl)) (hd : (x == ("__debug__" : Str)) = false := by decide) (hcd : (x == ("__classdict__" : Str)) = false := by decide)
    (hm : behindInMarks .In (.Name x p2) = false := by rfl) : DE X G W (.Compare a [.In] [.Name x p2] pos) (ePkR dIn A i) :=
  ⟨pe_imp (pe_cmpR (r := rInA G.K false) (by rw [c.K]; exact op_inA c.u) ha.pe (pe_var hN hv hd hcd) hm) (pkR_tr (opy_in false))⟩
theorem v_pknotin (c : Cn m X G W k) (i : Nat) (ha : DE X G W a A) (hN : X.N[i]? = some x := by rfl) (hv : Vis X.env.scope x := by first | exact Or.inl rfl | exact Or.inr (Or.inl rfl) | exact Or.inr (Or.inr rfl)) (hd : (x == ("__debug__" : Str)) = false := by decide) (hcd : (x == ("__classdict__" : Str)) = false := by decide)
    (hm : behindInMarks .NotIn (.Name x p2) = false := by rfl) : DE X G W (.Compare a [.NotIn] [.Name x p2] pos) (ePkR dNotIn A i) :=
  ⟨pe_imp (pe_cmpR (r := rInA G.K true) (by rw [c.K]; exact op_ninA c.u) ha.pe (pe_var hN hv hd hcd) hm) (pkR_tr (opy_in true))⟩
theorem v_pklen (c : Cn m X G W k) (i : Nat) {p : Pos} (hm : X.mg "len" = none) (hN : X.N[i]? = some x := by rfl) (hv : Vis X.env.scope x := by first | exact Or.inl rfl | exact Or.inr (Or.inl rfl) | exact Or.inr (Or.inr rfl)) (hd : (x == ("__debug__" : Str)) = false := by decide) (hcd : (x == ("__classdict__" : Str)) = false := by decide)
    (hg : Gl X "len" := by rfl) (he : starEach [.Name x p2] X.env = (false, eval (.Name x p2) X.env) :: starEach [] X.env := by rfl) (hpl : (backTo pos (starEach [] X.env)).any (·.1) = false := by rfl) :
    DE X G W (.Call (.Name "len" p) [.Name x p2] [] pos) (ePkLen i) := by
  refine ⟨pe_imp (pe_callB cr_lenA hg hm (by decide +kernel) (pa_cons (pe_var hN hv hd hcd) pa_nil he) (by decide) (by decide) he hpl) fun σ H Q ⟨en, M, Bx, rel, mm⟩ => ?_⟩
  obtain ⟨d, h1, mm⟩ := post_lift.mp mm
  obtain ⟨z, hz, mz⟩ := post_lift.mp mm
  obtain ⟨v, hv, rx⟩ := rx_slot rel h1
  refine ⟨v, hv, ?_⟩
  have q := rx_len (Q := Q) rx hz fun u H' ext rd => mz u H' M (rel.ext ext) (.ext ext) rd
  rw [c.K] at q
  exact q
/-! ### d.get(k), d.get(k, x) -/
def ePkG1 (i : Nat) (b : DEn) : DEn := fun en => liftO (pkD en.sl[i]?) >>= fun d0 => liftO (unDc d0) >>= fun _ => b en >>= fun q => liftO (pkD q.2.sl[i]?) >>= fun d => liftO (dGet d q.1) >>= fun o => .ok (o.getD .none, q.2)
def ePkG2 (i : Nat) (b c : DEn) : DEn := fun en => liftO (pkD en.sl[i]?) >>= fun d0 => liftO (unDc d0) >>= fun _ => b en >>= fun q => c q.2 >>= fun r => liftO (pkD r.2.sl[i]?) >>= fun d => liftO (dGet d q.1) >>= fun o => .ok (o.getD r.1, r.2)
theorem isD_rx {K : Fg} {H : Hp} {O : AS} {v : V} {d : D} {z : Bool × Es} (rx : RX K H O v d) (h : unDc d = some z) : ∃ a, v = .ref a ∧ IsD H a := by
  obtain ⟨a, t, es, e1, o, _⟩ := rx.dcs (by rw [h]; rfl)
  refine ⟨a, e1, ?_⟩
  cases t with
  | false => obtain ⟨kvs, ds, h1, _⟩ := o; exact .inl ⟨_, .inl h1⟩
  | true => obtain ⟨kvs, ds, h1, _⟩ := o; exact .inr ⟨_, .inl h1⟩
theorem v_get1 (c : Cn m X G W k) (i : Nat) (hb : DE X G W b B) (hm : M1 X (.Name x p2) "get" p3 b pos := by exact ⟨rfl, rfl, rfl, rfl⟩) (hN : X.N[i]? = some x := by rfl) (hv : Vis X.env.scope x := by first | exact Or.inl rfl | exact Or.inr (Or.inl rfl) | exact Or.inr (Or.inr rfl)) (hd : (x == ("__debug__" : Str)) = false := by decide) (hcd : (x == ("__classdict__" : Str)) = false := by decide) :
    DE X G W (.Call (.Attribute (.Name x p2) "get" p3) [b] [] pos) (ePkG1 i B) := by
  refine ⟨pe_imp (pe_dget1 (by have := c.u; omega) (pe_var hN hv hd hcd) hb.pe hm) fun σ H Q ⟨en, M, Bx, rel, mm⟩ => ?_⟩
  obtain ⟨d0, h0, mm⟩ := post_lift.mp mm
  obtain ⟨z0, u0, mm⟩ := post_lift.mp mm
  obtain ⟨v, hv, rx0⟩ := rx_slot rel h0
  obtain ⟨a0, rfl, is0⟩ := isD_rx rx0 u0
  refine ⟨_, hv, a0, rfl, is0, en, M, Bx, rel, Post.imp (post_bind.mp mm) (fun q mq w H1 M1 rel1 st1 rd1 => ?_) fun _ _ _ h => h⟩
  obtain ⟨d, hd, mq⟩ := post_lift.mp mq
  obtain ⟨o, ho, mo⟩ := post_lift.mp mq
  obtain ⟨v', hv', rx⟩ := rx_slot rel1 hd
  rw [hv] at hv'
  cases hv'
  obtain ⟨a, ov, ea, _, g, mm2⟩ := dget_rx rx rd1 ho
  cases ea
  refine ⟨ov, g, mo _ H1 M1 rel1 st1 ?_⟩
  cases ov with
  | none => rw [show o = none from mm2]; exact .non
  | some u => obtain ⟨w2, e2, r2⟩ := mm2; rw [e2]; exact r2
theorem v_get2 (c : Cn m X G W k) (i : Nat) (hb : DE X G W b B) (he : DE X G W e C) (hm : M2 X (.Name x p2) "get" p3 b e pos := by exact ⟨rfl, rfl, rfl, rfl⟩) (hN : X.N[i]? = some x := by rfl) (hv : Vis X.env.scope x := by first | exact Or.inl rfl | exact Or.inr (Or.inl rfl) | exact Or.inr (Or.inr rfl)) (hd : (x == ("__debug__" : Str)) = false := by decide) (hcd : (x == ("__classdict__" : Str)) = false := by decide) :
    DE X G W (.Call (.Attribute (.Name x p2) "get" p3) [b, e] [] pos) (ePkG2 i B C) := by
  refine ⟨pe_imp (pe_dget2 (by have := c.u; omega) (pe_var hN hv hd hcd) hb.pe he.pe hm) fun σ H Q ⟨en, M, Bx, rel, mm⟩ => ?_⟩
  obtain ⟨d0, h0, mm⟩ := post_lift.mp mm
  obtain ⟨z0, u0, mm⟩ := post_lift.mp mm
  obtain ⟨v, hv, rx0⟩ := rx_slot rel h0
  obtain ⟨a0, rfl, is0⟩ := isD_rx rx0 u0
  refine ⟨_, hv, a0, rfl, is0, en, M, Bx, rel, Post.imp (post_bind.mp mm) (fun q mq w H1 M1 rel1 st1 rd1 => ⟨q.2, M1, Bx, rel1, Post.imp (post_bind.mp mq) (fun r mr y H2 M2 rel2 st2 rd2 => ?_) fun _ _ _ h => h.step st1⟩) fun _ _ _ h => h⟩
  obtain ⟨d, hd, mr⟩ := post_lift.mp mr
  obtain ⟨o, ho, mo⟩ := post_lift.mp mr
  obtain ⟨v', hv', rx⟩ := rx_slot rel2 hd
  rw [hv] at hv'
  cases hv'
  obtain ⟨a, ov, ea, _, g, mm2⟩ := dget_rx rx (rd1.step st2) ho
  cases ea
  refine ⟨ov, g, mo _ H2 M2 rel2 (st1.trans st2) ?_⟩
  cases ov with
  | none => rw [show o = none from mm2]; exact rd2
  | some u => obtain ⟨w2, e2, r2⟩ := mm2; rw [e2]; exact r2
/-! ### l.index(x) -/
def dIndex : D → D → Option D
  | .list ds, d => if SeqAt.shaped (.list ds) = true ∧ SeqAt.shaped d = true then (ds.findIdx? fun z => PyData.eqv z d).map fun j => .int (j : Nat) else none
  | _, _ => none
theorem index_rx {H : Hp} {O : AS} {x y : V} {d k0 z : D} {Q : VK} (rx : RX G.K H O x d) (ry : RD G.K H O y k0) (hz : dIndex d k0 = some z) (hq : ∀ v H', Ext H H' → RD G.K H' O v z → Q v H') : rIndexD G.K x [y] H Q := by
  have fin : ∀ {a : Addr} {xs : List V} {ds : List D}, SqL G.K H a xs → RDs G.K H O xs ds → dIndex (.list ds) k0 = some z → rIndexD G.K (.ref a) [y] H Q := fun {a xs ds} hs r hz => by
    have hz : (if SeqAt.shaped (.list ds) = true ∧ SeqAt.shaped k0 = true then (ds.findIdx? fun z => PyData.eqv z k0).map fun j => PyData.int (j : Nat) else none) = some z := hz
    split at hz
    · rename_i hs2
      cases ej : ds.findIdx? fun z => PyData.eqv z k0 with
      | none => rw [ej] at hz; cases hz
      | some j =>
        rw [ej] at hz
        cases hz
        rw [List.findIdx?_eq_some_iff_getElem] at ej
        obtain ⟨hj, h1, h2⟩ := ej
        refine ⟨a, y, k0, ds, j, ds[j], rfl, rfl, .lst hs (r.dp (plain_shaped hs2.1)), ry.dp (plain_shaped hs2.2), hs2.1, hs2.2, List.getElem?_eq_getElem hj, h1, fun n z' hn hz' => ?_, hq _ _ (fun _ _ h => h) (.int _)⟩
        have := h2 n hn
        obtain ⟨hn2, e2⟩ := List.getElem?_eq_some_iff.mp hz'
        rw [← e2]
        simpa using this
    · cases hz
  cases rx with
  | rd rx =>
    cases d with
    | list ds =>
      cases rx with
      | lst h1 h2 h3 => exact fin h1.sq h3 hz
    | _ => exact absurd hz (by simp [dIndex])
  | lst h1 h2 h3 => exact fin (.inl (.inl h1)) h3 hz
  | @od a t es o => cases t <;> exact absurd hz (by simp [dIndex, dcD])
end
end DL

namespace DL
open PySem L2 PySem.Spec PyProof.Rows
/-! ### owned dicts -/
def putE (es : Es) (k v : D) : Es := if (es.any fun p => PyData.eqv p.1 k) = true then es.map (fun p => if PyData.eqv p.1 k = true then (p.1, v) else p) else es ++ [(k, v)]
theorem any_zip {κ : Type} [DecidableEq κ] {f : κ → D} (hf : ∀ a b, PyData.eqv (f a) (f b) = decide (a = b)) (k : κ) : ∀ {kvs : List (κ × V)} {ds : List D}, kvs.length = ds.length → (((kvs.map fun p => f p.1).zip ds).any fun p => PyData.eqv p.1 (f k)) = kvs.any fun p => decide (p.1 = k)
  | [], ds, _ => by cases ds <;> rfl
  | p :: kvs, [], h => by simp at h
  | p :: kvs, d :: ds, h => by
    rw [List.map_cons, List.zip_cons_cons, List.any_cons, List.any_cons, hf, any_zip hf k (by simpa using h)]
theorem put_zip {κ : Type} [DecidableEq κ] {f : κ → D} (hf : ∀ a b, PyData.eqv (f a) (f b) = decide (a = b)) {K : Fg} {H : Hp} {O : AS} {k : κ} {v : V} {d : D} (rd : RD K H O v d) {kvs : List (κ × V)} {ds : List D} (r : RDs K H O (kvs.map (·.2)) ds) :
    ∃ ds', RDs K H O ((putK kvs k v).map (·.2)) ds' ∧ putE ((kvs.map fun p => f p.1).zip ds) (f k) d = ((putK kvs k v).map fun p => f p.1).zip ds' := by
  have l : kvs.length = ds.length := by have := r.length; rwa [List.length_map] at this
  unfold putE putK
  rw [any_zip hf k l]
  split
  · clear l
    have key : ∀ {kvs : List (κ × V)} {ds : List D}, RDs K H O (kvs.map (·.2)) ds → ∃ ds', RDs K H O ((kvs.map fun kv => if kv.1 = k then (kv.1, v) else kv).map (·.2)) ds' ∧
        (((kvs.map fun p => f p.1).zip ds).map fun p => if PyData.eqv p.1 (f k) = true then (p.1, d) else p) = ((kvs.map fun kv => if kv.1 = k then (kv.1, v) else kv).map fun p => f p.1).zip ds' := by
      intro kvs
      induction kvs with
      | nil => intro ds h; cases h; exact ⟨[], .nil, rfl⟩
      | cons p kvs ih =>
        intro ds h
        cases h with
        | @cons _ _ d0 ds h1 h2 =>
          obtain ⟨ds', i1, i2⟩ := ih h2
          by_cases c : p.1 = k
          · refine ⟨d :: ds', ?_, ?_⟩
            · rw [List.map_cons, if_pos c]
              exact .cons rd i1
            · rw [List.map_cons, List.zip_cons_cons, List.map_cons, i2, List.map_cons, if_pos c, if_pos (by rw [hf]; exact decide_eq_true c)]
              rfl
          · refine ⟨d0 :: ds', ?_, ?_⟩
            · rw [List.map_cons, if_neg c]
              exact .cons h1 i1
            · rw [List.map_cons, List.zip_cons_cons, List.map_cons, i2, List.map_cons, if_neg c, if_neg (by rw [hf]; simpa using c)]
              rfl
    exact key r
  · refine ⟨ds ++ [d], by rw [List.map_append]; exact r.append (.one rd), ?_⟩
    rw [List.map_append, List.zip_append (by rw [List.length_map]; exact l)]
    rfl
theorem od_put {K : Fg} {H : Hp} {O : AS} {p : Addr} {t : Bool} {es : Es} {y v : V} {k d : D} (h : OdAt K H O p t es) (ry : RD K H O y k) (rv : RD K H O v d) (ho : keyOk t k = true) (few : es.length < sizeLine) (hp : O p) :
    ∃ u, DPut H p y v (upd H p u) ∧ (∀ xs, u ≠ .lst xs) ∧ (∀ ps, u ≠ .tbl ps) ∧ OdAt K (upd H p u) O p t (putE es k d) := by
  have kp : ∀ {u : HO} a o, H a = some o → ¬ O a → upd H p u a = some o := fun {u} a o h n => by rw [upd_ne fun z => n (by rw [z]; exact hp)]; exact h
  cases t with
  | false =>
    obtain ⟨kvs, ds, h1, h2, h3, rfl⟩ := h
    obtain ⟨q, rfl, rfl⟩ := key_rd ry ho
    have l := h3.length
    rw [List.length_map] at l
    have few' : kvs.length < sizeLine := by rw [List.length_zip, List.length_map] at few; omega
    obtain ⟨ds', r, e⟩ := put_zip eqv_kD (k := q) rv h3
    refine ⟨.dK (putK kvs q v), .inl ⟨kvs, q, h1, rfl, few', rfl⟩, fun _ z => (nomatch z), fun _ z => (nomatch z), _, ds', upd_same, ?_, r.mono kp fun _ h => .inl h, e⟩
    have := length_putK kvs q v
    omega
  | true =>
    obtain ⟨kvs, ds, h1, h2, h3, rfl⟩ := h
    obtain ⟨b, qs, rfl, hb, rfl⟩ := keyT_rd ry ho
    have l := h3.length
    rw [List.length_map] at l
    have few' : kvs.length < sizeLine := by rw [List.length_zip, List.length_map] at few; omega
    obtain ⟨ds', r, e⟩ := put_zip eqv_ksD (k := qs) rv h3
    refine ⟨.dT (putK kvs qs v), .inr ⟨kvs, qs, b, h1, rfl, hb, few', rfl⟩, fun _ z => (nomatch z), fun _ z => (nomatch z), _, ds', upd_same, ?_, r.mono kp fun _ h => .inl h, e⟩
    have := length_putK kvs qs v
    omega
theorem tok_dict {T : List (Addr × Str)} {H : Hp} {M : AS} {p : Addr} {o u : HO} (t : TOk T H M) (h : H p = some o) (h1 : ∀ ps, o ≠ .tbl ps) (h2 : ∀ φ, o ≠ .ext φ) : TOk T (upd H p u) M := fun q hq => by
  obtain ⟨m, ps, e1, e2, e3⟩ := t q hq
  refine ⟨m, ps, ?_, e2, fun pos cv hc => ?_⟩
  · rw [upd_ne fun z => by rw [z, h] at e1; exact h1 ps (Option.some.inj e1)]; exact e1
  · obtain ⟨c, k1, k2⟩ := e3 pos cv hc
    refine ⟨c, k1, ?_⟩
    rw [upd_ne fun z => by rw [z, h] at k2; unfold LamX.CodeO at k2; exact h2 _ (Option.some.inj k2)]
    exact k2
theorem Rel.writeD {G : Gh} {en : En} {σ : L2.St} {H : Hp} {M : AS} {Bx : Option Addr} {p : Addr} {i : Nat} {t : Bool} {es es' : Es} {u : HO} (r : Rel G en σ H M Bx) (hi : en.sl[i]? = some (Sl.od t es)) (hp : σ[i]? = some (some (V.ref p))) (hu : ∀ xs, u ≠ .lst xs)
    (new : OdAt G.K (upd H p u) (av G M) p t es') : Rel G (en.put i (.od t es')) σ (upd H p u) M Bx ∧ Step H M (upd H p u) M := by
  obtain ⟨p', h1, h2, h3⟩ := r.slot i _ hi
  obtain rfl : p' = p := by
    rw [hp] at h1
    exact (V.ref.inj (Option.some.inj (Option.some.inj h1))).symm
  obtain ⟨o, h4, h5, h6, h7⟩ := h3.at_
  have st : Step H M (upd H p' u) M := ⟨fun a o h n => by rw [upd_ne (fun z => n (by rw [z]; exact h2))]; exact h, fun _ h => .inl h⟩
  have other : ∀ {a : Addr} {o : HO}, a ≠ p' → H a = some o → upd H p' u a = some o := fun n h => by rw [upd_ne n]; exact h
  refine ⟨⟨by rw [r.len]; simp [En.put], fun j s hj => ?_, fun j k q s1 s2 hne hj hk o1 o2 g1 g2 => ?_, fun q hb => ⟨(r.box q hb).1, other (fun z => ?_) (r.box q hb).2⟩, fun q j ds' hb hj g1 => ?_, out_step r.out st, fun a h => ?_, tok_dict r.tab h4 h6 h7⟩, st⟩
  · by_cases c : j = i
    · subst c
      obtain ⟨e1, e2⟩ := put_out hj
      subst e1
      exact ⟨p', hp, h2, new⟩
    · rw [put_ne c] at hj
      have q := r.slot j s hj
      cases s with
      | no => trivial
      | fz d => obtain ⟨v, q1, q2⟩ := q; exact ⟨v, q1, q2.step st⟩
      | sq ns => obtain ⟨v, q1, q2⟩ := q; exact ⟨v, q1, q2.step st⟩
      | fu x => exact q
      | ow es2 =>
        obtain ⟨p2, xs2, q1, q2, q3, q4, q5⟩ := q
        exact ⟨p2, xs2, q1, q2, other (fun z => by rw [z, h4] at q3; exact h5 _ (Option.some.inj q3)) q3, q4, q5.step st⟩
      | od t2 es2 =>
        obtain ⟨p2, q1, q2, q3⟩ := q
        refine ⟨p2, q1, q2, q3.step st fun o ho => other (fun z => ?_) ho⟩
        subst z
        exact r.injo j i p2 _ _ c hj hi rfl rfl q1 hp
      | bx => exact q
      | er c d => exact erOk_step q st
  · have fj : ∀ {j : Nat} {s' : Sl}, (en.put i (.od t es')).sl[j]? = some s' → isO s' = true → ∃ s2, en.sl[j]? = some s2 ∧ isO s2 = true := fun {j s'} hj o => by
      by_cases c : j = i
      · subst c; exact ⟨_, hi, rfl⟩
      · rw [put_ne c] at hj; exact ⟨_, hj, o⟩
    obtain ⟨_, a1, b1⟩ := fj hj o1
    obtain ⟨_, a2, b2⟩ := fj hk o2
    exact r.injo j k q _ _ hne a1 a2 b1 b2 g1 g2
  · have e := (r.box q hb).2
    rw [z] at e
    exact h3.nlst e
  · by_cases c : j = i
    · subst c
      rw [put_same (List.getElem?_eq_some_iff.mp hi).1] at hj
      cases hj
    · rw [put_ne c] at hj; exact r.bne q j ds' hb hj g1
  · by_cases c : a = p'
    · subst c; rw [upd_same]; exact fun z => nomatch z
    · rw [upd_ne c]; exact r.mh a h
/-- d[k] = v -/
def sPutD (i : Nat) (a ix : DEn) : DSt := fun en => a en >>= fun p => (match p.2.sl[i]? with | some (.od _ _) => ix p.2 | _ => .bad) >>= fun q => match q.2.sl[i]? with
  | some (.od t es) => if keyOk t q.1 = true ∧ es.length < sizeLine then .ok (.nx (q.2.put i (.od t (putE es q.1 p.1)))) else .bad
  | _ => .bad
section
variable {m : Bool} {X : Cx} {G : Gh} {W : WX} {k : Nat} {pos p2 p3 p4 : Pos} {a b e ix : Expr} {A B I : DEn} {x : Str} {i : Nat}
theorem s_dput (c : Cn m X G W k) (i : Nat) (h : DE X G W e A) (hI : DE X G W ix I) (hN : X.N[i]? = some x := by rfl) (hv : Vis X.env.scope x := by first | exact Or.inl rfl | exact Or.inr (Or.inl rfl) | exact Or.inr (Or.inr rfl)) (hd : (x == ("__debug__" : Str)) = false := by decide) (hcd : (x == ("__classdict__" : Str)) = false := by decide)
    (hs : swapsWith e (some (.Subscript (.Name x p2) ix p3)) pos.line X.env = pure false := by rfl) : DS X G W (.Assign [.Subscript (.Name x p2) ix p3] e pos) (sPutD i A I) := by
  refine ⟨ps_imp (ps_dput (by have := c.u; omega) (pe_var hN hv hd hcd) hI.pe h.pe hs) fun Ds σ H ⟨en, M, Bx, rel, mm⟩ => ⟨en, M, Bx, rel, Post.imp (post_bind.mp mm) (fun p mp v H1 M1 rel1 st1 rd1 => ?_) fun _ _ _ h => h.ew σ⟩⟩
  have mp := post_bind.mp mp
  cases es : p.2.sl[i]? with
  | none => rw [es] at mp; exact mp.elim
  | some s =>
    rw [es] at mp
    cases s with
    | od t0 es0 =>
      obtain ⟨a0, g1, g2, g3⟩ := rel1.slot i _ es
      refine ⟨_, g1, p.2, M1, Bx, rel1, Post.imp mp (fun q mq w H2 M2 rel2 st2 rd2 => ?_) fun _ _ _ h => (h.ew σ).step st1⟩
      cases e1 : q.2.sl[i]? with
      | none => rw [e1] at mq; exact mq.elim
      | some s1 =>
        rw [e1] at mq
        cases s1 with
        | od t es =>
          dsimp only at mq
          split at mq
          · rename_i hk
            obtain ⟨p', k1, k2, k3⟩ := rel2.slot i _ e1
            rw [g1] at k1
            cases k1
            obtain ⟨u, dp, u1, u2, new⟩ := od_put k3 rd2 (rd1.step st2) hk.1 hk.2 (.inl k2)
            obtain ⟨r3, s3⟩ := rel2.writeD e1 g1 u1 new
            exact ⟨a0, _, rfl, dp, mq σ _ M2 Bx r3 ((st1.trans st2).trans s3) fun _ => rfl⟩
          · exact mq.elim
        | _ => exact mq.elim
    | _ => exact mp.elim
/-! ### l.extend(xs), l.index(x) -/
def sExt (i : Nat) (a : DEn) : DSt := fun en => (match en.sl[i]? with | some (.ow _) => a en | _ => .bad) >>= fun p => match p.2.sl[i]?, p.1 with
  | some (.ow ds), .list zs => if ds.length + zs.length ≤ sizeLine then .ok (.nx (p.2.put i (.ow (ds ++ zs)))) else .bad
  | _, _ => .bad
theorem s_ext (i : Nat) (h : DE X G W e A) (hN : X.N[i]? = some x := by rfl) (hv : Vis X.env.scope x := by first | exact Or.inl rfl | exact Or.inr (Or.inl rfl) | exact Or.inr (Or.inr rfl)) (hd : (x == ("__debug__" : Str)) = false := by decide) (hcd : (x == ("__classdict__" : Str)) = false := by decide)
    (hes : starEach [e] X.env = (false, eval e X.env) :: starEach [] X.env := by rfl) (hpl : (backTo p3 (starEach [] X.env)).any (·.1) = false := by rfl) (hline : (p2.endLine == p3.line) = true := by rfl) (hb : attributeBase (.Name x pos) "extend" X.env (eval (.Name x pos) X.env) = eval (.Name x pos) X.env := by rfl)
    (hfew : ((backTo p3 (starEach [e] X.env)).all (fun x => !x.1) && ((backToKw p3 (keywordEach [] X.env)).all (fun x => x.1.isSome)) && decide ([e].length + ([] : List Keyword).length + (if ([] : List Keyword).isEmpty then 0 else 1) < 30)) = true := by rfl)
    (hsw : swapsWith (.Call (.Attribute (.Name x pos) "extend" p2) [e] [] p3) none p4.line X.env = pure false := by rfl) : DS X G W (.Expr (.Call (.Attribute (.Name x pos) "extend" p2) [e] [] p3) p4) (sExt i A) := by
  refine ⟨ps_imp (ps_expr (pe_bm PySem.F.plainAttrs_list PySem.F.slot_list_extend PySem.F.type_list_extend mt_extend (pe_var hN hv hd hcd) (pa_cons h.pe pa_nil hes) hb hfew hline hes hpl) hsw) fun Ds σ H ⟨en, M, Bx, rel, mm⟩ => ?_⟩
  have mm := post_bind.mp mm
  cases es : en.sl[i]? with
  | none => rw [es] at mm; exact mm.elim
  | some s =>
    rw [es] at mm
    cases s with
    | ow ds0 =>
      obtain ⟨p, xs, h1, h2, h3, h4, h5⟩ := rel.slot i _ es
      refine ⟨_, h1, .inl ⟨rfl, _, .inl (.inl h3)⟩, en, M, Bx, rel, Post.imp mm (fun q mq v H1 M1 rel1 st1 rd1 => ?_) fun _ _ _ h => h.ew σ⟩
      cases e1 : q.2.sl[i]? with
      | none => rw [e1] at mq; exact mq.elim
      | some s1 =>
        rw [e1] at mq
        cases s1 with
        | ow ds =>
          cases e2 : q.1 with
          | list zs =>
            rw [e2] at mq rd1
            dsimp only at mq
            split at mq
            · rename_i hl
              obtain ⟨p', ys, g1, g2, g3, g4, g5⟩ := rel1.slot i _ e1
              rw [h1] at g1
              cases g1
              cases rd1 with
              | @lst b ws zs k1 k2 k3 =>
                have hl' : ys.length + ws.length ≤ sizeLine := by rw [g5.length, k3.length]; exact hl
                obtain ⟨r2, s2⟩ := rel1.write (ys := ys ++ ws) (zs := ds ++ zs) e1 h1 (by rw [List.length_append]; exact hl') (g5.append k3)
                exact ⟨p, b, ys, ws, rfl, rfl, g3, k1.1, hl', mq σ _ M1 Bx r2 (st1.trans s2) fun _ => rfl⟩
            · exact mq.elim
          | _ => rw [e2] at mq; exact mq.elim
        | _ => exact mq.elim
    | _ => exact mm.elim
theorem rx_lst {K : Fg} {H : Hp} {O : AS} {v : V} {ds : List D} (rx : RX K H O v (.list ds)) : ∃ p ys, v = .ref p ∧ SqL K H p ys := by
  generalize e : PyData.list ds = d at rx
  cases rx with
  | rd r => subst e; cases r with | lst h1 _ _ => exact ⟨_, _, rfl, h1.sq⟩
  | lst h1 _ _ => exact ⟨_, _, rfl, .inl (.inl h1)⟩
  | @od a t es o => cases t <;> cases e
def ePkIdx (i : Nat) (b : DEn) : DEn := fun en => liftO (pkD en.sl[i]?) >>= fun d0 => (match d0 with | .list _ => b en | _ => .bad) >>= fun q => liftO (pkD q.2.sl[i]?) >>= fun d => liftO (dIndex d q.1) >>= fun z => .ok (z, q.2)
theorem v_index (c : Cn m X G W k) (i : Nat) (hb : DE X G W b B) (hN : X.N[i]? = some x := by rfl) (hv : Vis X.env.scope x := by first | exact Or.inl rfl | exact Or.inr (Or.inl rfl) | exact Or.inr (Or.inr rfl)) (hd : (x == ("__debug__" : Str)) = false := by decide) (hcd : (x == ("__classdict__" : Str)) = false := by decide)
    (hes : starEach [b] X.env = (false, eval b X.env) :: starEach [] X.env := by rfl) (hpl : (backTo p3 (starEach [] X.env)).any (·.1) = false := by rfl) (hline : (p2.endLine == p3.line) = true := by rfl) (hba : attributeBase (.Name x pos) "index" X.env (eval (.Name x pos) X.env) = eval (.Name x pos) X.env := by rfl)
    (hfew : ((backTo p3 (starEach [b] X.env)).all (fun x => !x.1) && ((backToKw p3 (keywordEach [] X.env)).all (fun x => x.1.isSome)) && decide ([b].length + ([] : List Keyword).length + (if ([] : List Keyword).isEmpty then 0 else 1) < 30)) = true := by rfl) :
    DE X G W (.Call (.Attribute (.Name x pos) "index" p2) [b] [] p3) (ePkIdx i B) := by
  have hu : X.A.units + 65 < cLine := by have := c.rm.un; omega
  refine ⟨pe_imp (pe_bm PySem.F.plainAttrs_list PySem.F.slot_list_index PySem.F.type_list_index (mt_indexD hu) (pe_var hN hv hd hcd) (pa_cons hb.pe pa_nil hes) hba hfew hline hes hpl) fun σ H Q ⟨en, M, Bx, rel, mm⟩ => ?_⟩
  obtain ⟨d0, h0, mm⟩ := post_lift.mp mm
  obtain ⟨v, hv0, rx0⟩ := rx_slot rel h0
  cases d0 with
  | list ds0 =>
    have sq : ∃ p ys, v = .ref p ∧ SqL G.K H p ys := rx_lst rx0
    obtain ⟨p, ys, rfl, hs⟩ := sq
    refine ⟨_, hv0, .inl ⟨rfl, _, by rw [← c.K]; exact hs⟩, en, M, Bx, rel, Post.imp (post_bind.mp mm) (fun q mq w H1 M1 rel1 st1 rd1 => ?_) fun _ _ _ h => h⟩
    obtain ⟨d, hd, mq⟩ := post_lift.mp mq
    obtain ⟨z, hz, mz⟩ := post_lift.mp mq
    obtain ⟨v', hv', rx⟩ := rx_slot rel1 hd
    rw [hv0] at hv'
    cases hv'
    have q2 := index_rx (Q := Q) rx rd1 hz fun u H' ext rd => mz u H' M1 (rel1.ext ext) (st1.trans (.ext ext)) rd
    rw [c.K] at q2
    exact q2
  | _ => exact mm.elim
/-! ### n += e, l[i] += e, of numbers -/
def dIAdd : D → D → Option D := dII (fun _ _ => true) fun i j => i + j
def dISub : D → D → Option D := dII (fun _ _ => true) fun i j => i - j
/-- an operation in place -/
structure Ip (X : Cx) (op : Operator) (f : D → D → Option D) : Prop where
  ex : ∃ g : Int → Int → Int, f = dII (fun _ _ => true) g ∧ PIp X op (ipI g)
theorem ip_addD : Ip X .Add dIAdd := ⟨_, rfl, ip_add⟩
theorem ip_subD : Ip X .Sub dISub := ⟨_, rfl, ip_sub⟩
theorem ip_int {g : Int → Int → Int} {K : Fg} {H : Hp} {O : AS} {x y : V} {d k0 z : D} {Q : VK} (rx : RD K H O x d) (ry : RD K H O y k0) (hz : dII (fun _ _ => true) g d k0 = some z) (hq : ∀ v, RD K H O v z → Q v H) : ipI g x y H Q := by
  cases rx with
  | int i =>
    cases ry with
    | int j =>
      have hz : some (PyData.int (g i j)) = some z := hz
      cases hz
      exact ⟨i, j, rfl, rfl, hq _ (.int _)⟩
    | _ => exact absurd hz (by simp [dII])
  | _ => exact absurd hz (by simp [dII])
def sAug (i : Nat) (f : D → D → Option D) (b : DEn) : DSt := fun en => match en.sl[i]? with
  | some (.fz d) => b en >>= fun q => liftO (f d q.1) >>= fun z => .ok (.nx (q.2.put i (.fz z)))
  | _ => .bad
theorem s_aug {op : Operator} {f : D → D → Option D} (c : Cn m X G W k) (i : Nat) (o : Ip X op f) (hb : DE X G W b B) (hi : X.N[i]? = some x := by rfl) (hx : Loc X.env.scope x := by first | exact Or.inl rfl | exact Or.inr rfl) (hf : X.fn x = true ∨ X.env.scope.names.lookup x = some .local := by first | exact .inl rfl | exact .inr rfl | assumption) :
    DS X G W (.AugAssign (.Name x p2) op b pos) (sAug i f B) := by
  obtain ⟨g, rfl, ip⟩ := o.ex
  refine ⟨ps_imp (ps_aug c.nd hi hx hb.pe ip hf) fun Ds σ H ⟨en, M, Bx, rel, mm⟩ => ?_⟩
  unfold sAug at mm
  cases es : en.sl[i]? with
  | none => rw [es] at mm; exact mm.elim
  | some s =>
    rw [es] at mm
    cases s with
    | fz d =>
      obtain ⟨v, h1, rd0⟩ := rel.slot i _ es
      refine ⟨v, h1, en, M, Bx, rel, Post.imp (post_bind.mp mm) (fun q mq w H1 M1 rel1 st1 rd1 => ?_) fun _ _ _ h => h.ew σ⟩
      obtain ⟨z, hz, mz⟩ := post_lift.mp mq
      exact ip_int (rd0.step st1) rd1 hz fun u ru => mz _ H1 M1 Bx (rel1.set ru) st1 fun _ => rfl
    | _ => exact mm.elim
end
end DL

namespace DL
open PySem L2 PySem.Spec PyProof.Rows
/-! ### l[i] op= e of an owned list -/
def tGetI : V → V → Hp → VK → Prop := fun x y H Q => ∃ p xs i v, x = .ref p ∧ y = .int i ∧ 0 ≤ i ∧ H p = some (.lst xs) ∧ xs[i.toNat]? = some v ∧ Q v H
theorem get_listI {X : Cx} : PGet X tGetI := by
  rintro pins s σ H x y ov iv Q I rx ry ⟨p, xs, i, v, rfl, rfl, h0, hp, hx, q⟩
  obtain rfl : ov = Value.ref p := rx
  obtain ⟨t, rfl⟩ := (show ∃ t, iv = Value.int i t from ry)
  obtain ⟨its, r, pl, few⟩ := I.list (.inl (.inl hp))
  obtain ⟨u, eu, ru⟩ := r.get hx
  have lt := (List.getElem?_eq_some_iff.mp hx).1
  have big := line63
  exact wpAny_getItem_list pl.isList h0 (by omega) (by simpa using eu) ⟨v, H, I, ru, q⟩
def sAugI (i : Nat) (ix : DEn) (f : D → D → Option D) (b : DEn) : DSt := fun en => (match en.sl[i]? with | some (.ow _) => ix en | _ => .bad) >>= fun q => match q.2.sl[i]?, asI q.1 with
  | some (.ow ds), some kk => if 0 ≤ kk then liftO (ds[kk.toNat]?) >>= fun d0 => b q.2 >>= fun r => (match r.2.sl[i]? with
      | some (.ow ds2) => if kk.toNat < ds2.length then liftO (f d0 r.1) >>= fun z => .ok (.nx (r.2.put i (.ow (ds2.set kk.toNat z)))) else .bad
      | _ => .bad) else .bad
  | _, _ => .bad
section
variable {m : Bool} {X : Cx} {G : Gh} {W : WX} {k : Nat} {pos p2 p3 p4 : Pos} {a b e ix : Expr} {A B I : DEn} {x : Str} {i : Nat}
theorem s_augI {op : Operator} {f : D → D → Option D} (c : Cn m X G W k) (i : Nat) (o : Ip X op f) (hI : DE X G W ix I) (hb : DE X G W b B) (hN : X.N[i]? = some x := by rfl) (hv : Vis X.env.scope x := by first | exact Or.inl rfl | exact Or.inr (Or.inl rfl) | exact Or.inr (Or.inr rfl)) (hd : (x == ("__debug__" : Str)) = false := by decide) (hcd : (x == ("__classdict__" : Str)) = false := by decide)
    (ha : ∀ ov iv new, augStore ix ov iv new = (do holding [new, ov, iv] (setItem ov iv new); release [new, ov, iv] []; pure .next) := by intros; rfl) :
    DS X G W (.AugAssign (.Subscript (.Name x p2) ix p3) op b pos) (sAugI i I f B) := by
  obtain ⟨g, rfl, ip⟩ := o.ex
  refine ⟨ps_imp (ps_augS (pe_var hN hv hd hcd) hI.pe get_listI hb.pe ip L2.set_list ha) fun Ds σ H ⟨en, M, Bx, rel, mm⟩ => ?_⟩
  have mm := post_bind.mp mm
  cases es : en.sl[i]? with
  | none => rw [es] at mm; exact mm.elim
  | some s =>
    rw [es] at mm
    cases s with
    | ow ds0 =>
      obtain ⟨p, xs0, h1, _⟩ := rel.slot i _ es
      refine ⟨_, h1, en, M, Bx, rel, Post.imp mm (fun q mq w H1 M1 rel1 st1 rd1 => ?_) fun _ _ _ h => h.ew σ⟩
      cases e1 : q.2.sl[i]? with
      | none => rw [e1] at mq; exact mq.elim
      | some s1 =>
        rw [e1] at mq
        cases s1 with
        | ow ds =>
          cases e2 : asI q.1 with
          | none => rw [e2] at mq; exact mq.elim
          | some kk =>
            rw [e2] at mq
            dsimp only at mq
            split at mq
            · rename_i h0
              obtain ⟨d0, hd0, mq⟩ := post_lift.mp mq
              obtain ⟨p', ys, g1, g2, g3, g4, g5⟩ := rel1.slot i _ e1
              rw [h1] at g1
              cases g1
              obtain ⟨v0, hv0, rd0⟩ := g5.get hd0
              refine ⟨p, ys, kk, v0, rfl, asI_rd rd1 e2, h0, g3, hv0, q.2, M1, Bx, rel1, Post.imp (post_bind.mp mq) (fun r mr y H2 M2 rel2 st2 rd2 => ?_) fun _ _ _ h => (h.ew σ).step st1⟩
              cases e3 : r.2.sl[i]? with
              | none => rw [e3] at mr; exact mr.elim
              | some s2 =>
                rw [e3] at mr
                cases s2 with
                | ow ds2 =>
                  dsimp only at mr
                  split at mr
                  · rename_i lt
                    obtain ⟨z, hz, mz⟩ := post_lift.mp mr
                    obtain ⟨p2', zs, k1, k2, k3, k4, k5⟩ := rel2.slot i _ e3
                    rw [h1] at k1
                    cases k1
                    refine ip_int (rd0.step st2) rd2 hz fun u ru => ?_
                    obtain ⟨r3, s3⟩ := rel2.write (ys := zs.set kk.toNat u) (zs := ds2.set kk.toNat z) e3 h1 (by rw [List.length_set]; exact k4) (k5.set ru _)
                    have l := k5.length
                    have hix : ixN zs.length kk = some kk.toNat := by
                      unfold ixN
                      rw [if_pos h0, if_pos (by omega)]
                    exact ⟨p, zs, kk, kk.toNat, rfl, asI_rd rd1 e2, k3, hix, mz σ _ M2 Bx r3 ((st1.trans st2).trans s3) fun _ => rfl⟩
                  · exact mr.elim
                | _ => exact mr.elim
            · exact mq.elim
        | _ => exact mq.elim
    | _ => exact mm.elim
/-! ### while -/
def wGo (t : DTt) (S : DSt) : Nat → En → Rs Out
  | 0, _ => .bad
  | n + 1, en => t en >>= fun p => if p.1 = true then S p.2 >>= fun o => match o with
      | .nx en2 => wGo t S n en2
      | .ct en2 => wGo t S n en2
      | .bk en2 => .ok (.nx en2)
      | .rt v en2 => .ok (.rt v en2)
      | .rn v en2 => .ok (.rn v en2)
    else .ok (.nx p.2)
def sWhile (t : DTt) (S : DSt) : DSt := wGo t S sizeLine
theorem s_while {e : Expr} {body : List Stmt} {t : DTt} {S : DSt} (hp : PassesOwn (model X.prog X.w) X.A X.env X.xe) (ht : DT X G W e t) (hb : DSs X G W body S) : DS X G W (.While e body [] pos) (sWhile t S) := by
  refine ⟨ps_imp (ps_while hp ht.pt hb.pss) fun Ds σ H ⟨en, M, B, rel, mm⟩ => ?_⟩
  refine ⟨fun n σ' H' => ∃ en' M' B', Rel G en' σ' H' M' B' ∧ Step H M H' M' ∧ (G.top = false → B' = B) ∧ Post (OutOk G Ds H M B) (EWS G W H M B) (wGo t S n en'), ⟨sizeLine, en, M, B, rel, .refl, fun _ => rfl, mm⟩, ?_⟩
  rintro n σ' H' ⟨en', M', B', r, s, hB, mn⟩
  cases n with
  | zero => exact mn.elim
  | succ n =>
    refine ⟨en', M', B', r, Post.imp (post_bind.mp mn) (fun p mp H2 M2 rel2 st2 => ?_) fun c d e2 h => (h.stepB s hB).ew σ'⟩
    by_cases c : p.1 = true
    · rw [if_pos c] at mp ⊢
      refine ⟨fun σ3 H3 => ∃ en3 M3 B3, Rel G en3 σ3 H3 M3 B3 ∧ Step H M H3 M3 ∧ (G.top = false → B3 = B) ∧ Post (OutOk G Ds H M B) (EWS G W H M B) (wGo t S n en3), fun σ3 H3 h => ⟨n, Nat.lt_succ_self n, h⟩, p.2, M2, B', rel2, Post.imp (post_bind.mp mp) (fun o mo => ?_) fun cc dd en2 h => h.stepB (s.trans st2) hB⟩
      have s2 := s.trans st2
      cases o with
      | nx en2 => exact fun σ3 H3 M3 B3 r3 st3 hb3 => ⟨en2, M3, B3, r3, s2.trans st3, fun t => (hb3 t).trans (hB t), mo⟩
      | ct en2 => exact fun σ3 H3 M3 B3 r3 st3 hb3 => ⟨en2, M3, B3, r3, s2.trans st3, fun t => (hb3 t).trans (hB t), mo⟩
      | bk en2 => exact fun σ3 H3 M3 B3 r3 st3 hb3 => mo σ3 H3 M3 B3 r3 (s2.trans st3) fun t => (hb3 t).trans (hB t)
      | rn v en2 => exact fun p u σ3 H3 M3 B3 r3 st3 hb3 o3 => mo p u σ3 H3 M3 B3 r3 (s2.trans st3) (fun t => (hb3 t).trans (hB t)) o3
      | rt v en2 => exact fun u σ3 H3 M3 B3 r3 st3 hb3 rd3 => mo u σ3 H3 M3 B3 r3 (s2.trans st3) (fun t => (hb3 t).trans (hB t)) rd3
    · rw [if_neg c] at mp ⊢
      exact mp σ' H2 M2 B' rel2 (s.trans st2) hB
end
end DL

namespace DL
open PySem L2 PySem.Spec PyProof.Rows
/-! ### {k: v for t in xs if c}, whatever the keys are -/
/-- d[k] = v, done by a comprehension -/
theorem dset_any {X : Cx} {pins : List (Addr × Obj)} {σ : L2.St} {H H' : Hp} {s : Shared} {E : Value → Shared → Prop} {q : Addr} {y v : V} {u r : Value} {Q : Unit → Shared → Prop} (hu : X.A.units + 1 < cLine) (I : Inv X pins σ H s) (g : DPut H q y v H') (ry : RelV y u) (rv : RelV v r)
    (h : ∀ s', Inv X pins σ H' s' → Q () s') : wpAny (model X.prog X.w) X.A (dictSet q u r) Q E s := by
  rcases g with ⟨kvs, k, e, ey, l, eH⟩ | ⟨kvs, k, b, e, ey, eb, l, eH⟩
  · subst ey eH
    exact d_dictSet I e l ry rv h
  · subst ey eH
    cases (show u = Value.ref b from ry)
    obtain ⟨z, hd, xs, rel, dd⟩ := dt_of I.hok e
    have n1 : xs.length ≤ sizeLine := Paired.length rel ▸ z
    refine wpAny_dictSet_heap (hsz := n1) (show X.A.units < cLine by omega) (key_of I.hok eb) dd fun h' dd' hs => h _ ?_
    obtain ⟨o, es, ep, o1, o2, o3, o4, _, o5⟩ := dd'
    have n2 := length_putK kvs k v
    exact d_write I (by rw [e]; exact True.intro) hs ⟨o, o1⟩ ⟨by omega, hd, _, (rel.put k eb rv).keeps fun c ys ec => by rw [upd_ne (ne_of ec e fun z => nomatch z)]; exact ec, o, es, ep, o1, o2, o3, o4, o5⟩
/-- the new dict's object, empty -/
def newD : Bool → HO
  | false => .dK []
  | true => .dT []
theorem newD_ok {P : Program} {w : World} {H : Hp} (t : Bool) (h : Heap) (hb : sysModules < h.objs.size) : ObjOk P w H (h.push { cls := .type "dict", data := .dict #[] }) h.objs.size (newD t) := by
  cases t with
  | false => exact dk_empty h hb
  | true => exact dt_empty h hb
section
variable {X : Cx}
def tDcA (o0 : HO) (wi : TI) (g : TG) (tt : TT) (tk tv : TE) (vs : List Nat) : TE := fun σ H Q => wi σ H fun J H1 => ∀ q, H1 q = none → ∃ W : Nat → Nat → Hp → Prop, (∃ n, W 0 n (upd H1 q o0)) ∧ ∀ i n H, W i n H →
  (J.stop i H ∧ Q (.ref q) H) ∨ (J.go i H ∧ ∃ Nx : Hp → Prop, (∀ H', Nx H' → ∃ n', n' < n ∧ W (i + 1) n' H') ∧ ∀ x H', J.yld i H x H' → g x (wipe σ vs) H' fun σ2 H2 => wipe σ2 vs = wipe σ vs ∧ tt σ2 H2 fun b H3 =>
    if b = true then tk σ2 H3 fun y H4 => tv σ2 H4 fun z H5 => ∃ H6, DPut H5 q y z H6 ∧ Nx H6 else Nx H3)
variable {kx vx tg iter : Expr} {ifs : List Expr} {scope : Scope} {own : List (Str × Nat)} {pos : Pos} {wi : TI} {g : TG} {tt : TT} {tk tv : TE}
theorem pe_dcA (t : Bool) (hu : X.A.units + 1 < cLine) (hc : X.calm = true) (hN : X.N.Nodup) (hi : PI X tg iter wi) (ok : BlkOk X.N X.env.scope scope own)
    (blk : ∀ (s : Shared) (H : Hp) (C : Addr) (cl : List (Str × Addr)) (fp : List Addr), PG (X.blk s H scope (compEnvC scope cl C X.env) fp) tg g ∧ PTs (X.blk s H scope (compEnvC scope cl C X.env) fp) ifs tt ∧ PE (X.blk s H scope (compEnvC scope cl C X.env) fp) kx tk ∧ PE (X.blk s H scope (compEnvC scope cl C X.env) fp) vx tv)
    (fold : ∀ x, foldedSetIterable iter X.env x = pure x) : PE X (.DictComp kx vx [⟨tg, iter, ifs, 0⟩] scope pos) (tDcA (newD t) wi g tt tk tv (own.map (·.2))) := by
  refine ⟨fun pins s0 σ H0 Q I0 h0 => ?_⟩
  rw [arm_eval_DictComp]
  refine wpAny_comprehension_free (use := none) rfl fold (closure_ok fun y hy e => (ok.free y hy e).elim (fun z => I0.ok.has _ (.inl z)) fun z => I0.ok.has _ (.inr z)) ok.kind (fun y hy e => by rw [ok.uniq y hy, e])
    (thn (hi.run pins s0 σ H0 _ I0 h0) fun xv s1 hx => thn hx fun itv s2 ⟨it, fp, tn, J, H2, e, I2, T, st2, f2, q⟩ => ?_)
  subst e
  refine wpAny_newObj_type (newEnv_comp ?_)
  obtain ⟨q0, hq0⟩ : ∃ q0, q0 = s2.heap.objs.size := ⟨_, rfl⟩
  have free : H2 q0 = none := hq0 ▸ I2.hok.fresh (Nat.le_refl _)
  obtain ⟨W, ⟨n0, w0⟩, turn⟩ := q q0 free
  obtain ⟨hp3, e3⟩ : ∃ hp3 : Heap, hp3 = s2.heap.push { cls := .type "dict", data := .dict #[] } := ⟨_, rfl⟩
  have I3 : Inv X pins σ (upd H2 q0 (newD t)) { s2 with heap := hp3 } := by
    subst e3 hq0
    exact I2.laid (t' := s2.toks) (fun b o e => Heap.get?_push_of_some _ e) (Nat.le_refl _) (newD_ok t s2.heap I2.big)
  rw [← e3]
  have k3 : ∀ {b : Addr} {o : Obj}, s2.heap.get? b = some o → hp3.get? b = some o := fun e => by rw [e3]; exact Heap.get?_push_of_some _ e
  have below : ∀ b ∈ fp, b < s2.heap.objs.size := fun b hb => let ⟨o, e, _⟩ := T.obj _ _ st2 b hb; Heap.lt_size e
  have fp3 : ∀ b ∈ fp, FpOk X pins (upd H2 q0 (newD t)) b ∧ b < hp3.objs.size := fun b hb =>
    ⟨⟨by rw [upd_ne (by rw [hq0]; exact Nat.ne_of_lt (below b hb))]; exact (f2 b hb).1, (f2 b hb).2⟩, by rw [e3, Heap.size_push]; exact Nat.lt_succ_of_lt (below b hb)⟩
  have st3 : tn 0 hp3 := T.keep _ _ _ st2 fun b _ o e => k3 e
  have I4 := block_start I3 ok hN fp3
  obtain ⟨pg, pt, pk, pv⟩ := blk { s2 with heap := hp3 } (upd H2 q0 (newD t)) hp3.objs.size (cellsFrom (hp3.objs.size + 1) scope.names (cloFrom X.env.cells scope.names [])) fp
  have no3 : ∀ b ∈ fp, (upd H2 q0 (newD t)) b = none := fun b hb => (fp3 b hb).1.1
  rw [← hq0]
  show codeAny _ _ (.compStart (.DictComp kx vx [⟨tg, iter, ifs, 0⟩] scope pos) 0 (.ref it) (.ref q0) (compEnvC scope (cellsFrom (hp3.objs.size + 1) scope.names (cloFrom X.env.cells scope.names [])) hp3.objs.size X.env)) (compPost (model X.prog X.w) X.A X.xe none _ (.ref q0) hp3.objs.size) _
  obtain ⟨ce, hce⟩ : ∃ ce, ce = compEnvC scope (cellsFrom (hp3.objs.size + 1) scope.names (cloFrom X.env.cells scope.names [])) hp3.objs.size X.env := ⟨_, rfl⟩
  rw [← hce] at I4 pg pt pk pv ⊢
  have cl : ce.locals = hp3.objs.size := by rw [hce]; rfl
  obtain ⟨H3, hH3⟩ : ∃ H3, H3 = upd H2 q0 (newD t) := ⟨_, rfl⟩
  rw [← hH3] at I3 I4 pg pt pk pv w0 no3 fp3
  obtain ⟨s4, hs4⟩ : ∃ s4 : Shared, s4 = { s2 with heap := pushCells (hp3.push { cls := .type "dict", data := .dict #[] }) scope.names } := ⟨_, rfl⟩
  have st4 : tn 0 s4.heap := T.keep _ _ _ st3 fun b _ o e => by rw [hs4]; exact pushCells_keeps _ _ _ _ (Heap.get?_push_of_some _ e)
  have I4 : Inv (X.blk { s2 with heap := hp3 } H3 scope ce fp) [] (wipe σ (own.map (·.2))) H3 s4 := by rw [hs4]; exact I4
  show codeAny _ _ _ _ { s2 with heap := pushCells (hp3.push { cls := .type "dict", data := .dict #[] }) scope.names }
  rw [← hs4]
  have stat : ∀ {σ' : L2.St} {H' : Hp} {s' : Shared}, Inv (X.blk { s2 with heap := hp3 } H3 scope ce fp) [] σ' H' s' → (∀ b ∈ fp, H' b = none) → ∀ b ∈ fp, FpOk (X.blk { s2 with heap := hp3 } H3 scope ce fp) [] H' b := fun I' hn b hb =>
    ⟨hn b hb, (I'.ok.exf b hb).1, I'.ok.exfs b hb, .inl hb, fun x c e => (I'.ok.exf b hb).2 x c e, fun p z => by cases z⟩
  have loop : codeAny (model X.prog X.w) X.A (.compLoop (.DictComp kx vx [⟨tg, iter, ifs, 0⟩] scope pos) 0 (.ref it) (.ref q0) ce) (compPost (model X.prog X.w) X.A X.xe none (EP X pins σ Q) (.ref q0) hp3.objs.size) s4 := by
    refine compLoop_anyD (fun n s' => ∃ i H', Inv (X.blk { s2 with heap := hp3 } H3 scope ce fp) [] (wipe σ (own.map (·.2))) H' s' ∧ tn i s'.heap ∧ (∀ b ∈ fp, H' b = none) ∧ W i n H') ?_ n0 ⟨0, H3, I4, st4, no3, w0⟩
    rintro n s5 ⟨i, H5, I5, st5, n5, w5⟩
    rcases turn i n H5 w5 with ⟨stop, last⟩ | ⟨go, Nx, less, step⟩
    · refine thnF (T.done (X.blk { s2 with heap := hp3 } H3 scope ce fp) rfl rfl rfl hc i [] s5 _ H5 (fun _ _ => False) I5 (stat I5 n5) st5 stop) fun r s6 ⟨hr, I6⟩ => ?_
      subst hr
      have I7 : Inv X pins σ H5 s6 := I3.call' (ch := fp) I6.os I6.base I6.hok I6.bare fun b hb => let z := (fp3 b hb).1.2; ⟨z.2.2.1, z.1, z.2.2.2.1, z.2.2.2.2⟩
      have nC : H5 hp3.objs.size = none := cl ▸ I6.free
      obtain ⟨mm, hn, _⟩ := I6.loc
      have hn : s6.heap.Ns hp3.objs.size mm := cl ▸ hn
      obtain ⟨f0, f1, f2, f3, f4, f5⟩ := I3.fpOk (Nat.le_refl hp3.objs.size) nC
      exact ⟨mm, hn, fun h'' sb => ⟨.ref q0, H5, I7.turned (t' := s6.toks) (fun b o hb e => (sb.2 b hb).trans e) f0 f1 f3 f4 f5, rfl, last⟩⟩
    · refine thnF (T.item (X.blk { s2 with heap := hp3 } H3 scope ce fp) rfl rfl rfl hc i [] s5 _ H5 (fun _ _ => False) I5 (stat I5 n5) st5 go) fun r s6 ⟨u, hr, h6⟩ => ?_
      subst hr
      refine thnF h6 fun _ s7 ⟨x, H7, I7, r7, y7, st7, n7⟩ => ?_
      refine thnF (pg.run _ s7 _ H7 x u _ (I7.pinned (stat I7 n7) (T.obj _ _ st7)) r7 (step x H7 y7)) fun _ s8 ⟨σ8, H8, I8, hw8, q8⟩ => ?_
      refine thnF (pt.run _ s8 σ8 H8 _ I8 q8) fun b s9 ⟨H9, I9, q9⟩ => ?_
      have fin : ∀ {s' : Shared} {H' : Hp}, Inv (X.blk { s2 with heap := hp3 } H3 scope ce fp) ([] ++ pinsAt fp s7.heap) σ8 H' s' → Nx H' → ∃ m, m < n ∧ ∃ i H', Inv (X.blk { s2 with heap := hp3 } H3 scope ce fp) [] (wipe σ (own.map (·.2))) H' s' ∧ tn i s'.heap ∧ (∀ b ∈ fp, H' b = none) ∧ W i m H' := fun {s' H'} I' nx => by
        obtain ⟨m', hm, w'⟩ := less H' nx
        have pin' : ∀ b ∈ fp, ∀ o, s7.heap.get? b = some o → s'.heap.get? b = some o ∧ H' b = none := fun b hb o e => let z := I'.pin (b, o) (by rw [List.nil_append]; exact List.mem_append_right _ (mem_pinsAt hb e)); ⟨z.1, z.2.1⟩
        refine ⟨m', hm, i + 1, H', (I'.unpinned (pins := [])).weak (by rw [← hw8, wipe_length]) (fun j v e => (wipe_some (hw8 ▸ e)).1), T.keep _ _ _ st7 fun b hb o e => (pin' b hb o e).1, fun b hb => ?_, w'⟩
        obtain ⟨o, e, _⟩ := T.obj _ _ st7 b hb
        exact (pin' b hb o e).2
      cases b with
      | false => exact fin I9 q9
      | true =>
        exact thnF (pk.run _ s9 σ8 H9 _ I9 q9) fun z s10 ⟨yk, H10, I10, r10, q10⟩ => thnF (pv.run _ s10 σ8 H10 _ I10 q10) fun z2 s11 ⟨yv, H11, I11, r11, H12, put, nx⟩ =>
          dset_any (X := X.blk { s2 with heap := hp3 } H3 scope ce fp) hu I11 put r10 r11 fun s12 I12 => fin I12 nx
  exact codeAny_compStart_dict loop (T.self X.A 0 _ _ _ st4 loop)
end
end DL

namespace DL
open PySem L2 PySem.Spec PyProof.Rows
/-! ### dict comprehensions, as data -/
def dcLoop (own : List Nat) (g : DGt) (t : DTt) (kt : Bool) (A C : DEn) : List D → En → Es → Rs (Es × En)
  | [], en, acc => .ok (acc, en)
  | d :: ds, en, acc => liftO (g d en) >>= fun en1 => t en1 >>= fun p => if p.1 = true then A p.2 >>= fun kq => C kq.2 >>= fun vq => (if keyOk kt kq.1 = true ∧ acc.length < sizeLine then dcLoop own g t kt A C ds (vq.2.wipe own) (putE acc kq.1 vq.1) else .bad) else dcLoop own g t kt A C ds (p.2.wipe own) acc
def eDc (own : List Nat) (it : DNl) (g : DGt) (t : DTt) (kt : Bool) (A C : DEn) : DEn := fun en => it en >>= fun q => if ownOk q.2 own = true then noEx (dcLoop own g t kt A C q.1 (q.2.wipe own) []) >>= fun r => .ok (dcD kt r.1, r.2.back q.2 own) else .bad
theorem Rel.grownD {G : Gh} {en : En} {σ : L2.St} {H : Hp} {M : AS} {B : Option Addr} {p : Addr} {o u : HO} (r : Rel (G.with fun a => G.Out a ∨ a = p) en σ H M B) (hp : H p = some o) (h1 : ∀ ps, o ≠ .tbl ps) (h2 : ∀ φ, o ≠ .ext φ) : Rel (G.with fun a => G.Out a ∨ a = p) en σ (upd H p u) M B := by
  have nM : ¬ M p := (r.out p (.inr rfl)).2
  have ne : ∀ {a : Addr}, M a → a ≠ p := fun m z => nM (z ▸ m)
  have kp : ∀ a o, H a = some o → ¬ av (G.with fun a => G.Out a ∨ a = p) M a → upd H p u a = some o := fun a o h n => by rw [upd_ne fun z => n (.inr (.inr z))]; exact h
  refine ⟨r.len, fun j s hj => ?_, r.injo, fun q hb => ⟨(r.box q hb).1, by rw [upd_ne (ne (r.box q hb).1)]; exact (r.box q hb).2⟩, r.bne, fun a h => ⟨?_, (r.out a h).2⟩, fun a h => by rw [upd_ne (ne h)]; exact r.mh a h, tok_dict r.tab hp h1 h2⟩
  · have q := r.slot j s hj
    cases s with
    | no => trivial
    | fz d => obtain ⟨v, q1, q2⟩ := q; exact ⟨v, q1, q2.mono kp fun _ h => .inl h⟩
    | sq ns => obtain ⟨v, q1, q2⟩ := q; exact ⟨v, q1, q2.mono kp fun _ h => .inl h⟩
    | fu x => exact q
    | ow es => obtain ⟨p', xs, q1, q2, q3, q4, q5⟩ := q; exact ⟨p', xs, q1, q2, by rw [upd_ne (ne q2)]; exact q3, q4, q5.mono kp fun _ h => .inl h⟩
    | od t es => obtain ⟨p', q1, q2, q3⟩ := q; exact ⟨p', q1, q2, q3.mono (fun o ho => by rw [upd_ne (ne q2)]; exact ho) kp fun _ h => .inl h⟩
    | bx => exact q
    | er c d =>
      obtain ⟨a, cls, dd, f, b, fs, v, h0, h1, h2, h3, h4, h5, h6, h7⟩ := q
      exact ⟨a, cls, dd, f, b, fs, v, h0, h1, h2, h3, kp _ _ h4 h5, h5, h6, h7.mono kp fun _ h => .inl h⟩
  · by_cases c : a = p
    · subst c; rw [upd_same]; exact fun z => nomatch z
    · rw [upd_ne c]; exact (r.out a h).1
theorem newD_at {K : Fg} {H : Hp} {O : AS} {p : Addr} (t : Bool) : OdAt K (upd H p (newD t)) O p t [] := by
  cases t with
  | false => exact ⟨[], [], upd_same, Nat.zero_le _, .nil, rfl⟩
  | true => exact ⟨[], [], upd_same, Nat.zero_le _, .nil, rfl⟩
theorem dc_it {J : It} {n : Nat} {Gd : Hp → Prop} {Y : Nat → Hp → V → Hp → Prop} (w : Walk J n Gd Y) {g : TG} {tt : TT} {tk tv : TE} {vs : List Nat} {σ : L2.St} {H1 : Hp} {q : Addr} {o0 : HO} {Qd : Hp → Prop} (Pv : Nat → Hp → Prop) (h0 : Pv 0 (upd H1 q o0)) (hG : ∀ i H, i ≤ n → Pv i H → Gd H)
    (hs : ∀ i x H H', i < n → Pv i H → Y i H x H' → g x (wipe σ vs) H' fun σ2 H2 => wipe σ2 vs = wipe σ vs ∧ tt σ2 H2 fun b H3 => if b = true then tk σ2 H3 fun y H4 => tv σ2 H4 fun z H5 => ∃ H6, DPut H5 q y z H6 ∧ Pv (i + 1) H6 else Pv (i + 1) H3) (hd : ∀ H, Pv n H → Qd H) :
    ∃ W : Nat → Nat → Hp → Prop, (∃ n, W 0 n (upd H1 q o0)) ∧ ∀ i n H, W i n H → (J.stop i H ∧ Qd H) ∨ (J.go i H ∧ ∃ Nx : Hp → Prop, (∀ H', Nx H' → ∃ n', n' < n ∧ W (i + 1) n' H') ∧ ∀ x H', J.yld i H x H' → g x (wipe σ vs) H' fun σ2 H2 => wipe σ2 vs = wipe σ vs ∧ tt σ2 H2 fun b H3 =>
      if b = true then tk σ2 H3 fun y H4 => tv σ2 H4 fun z H5 => ∃ H6, DPut H5 q y z H6 ∧ Nx H6 else Nx H3) := by
  refine ⟨fun i l H => l = n - i ∧ i ≤ n ∧ Pv i H, ⟨n, rfl, Nat.zero_le _, h0⟩, fun i l H ⟨hl, hi, p⟩ => ?_⟩
  subst hl
  rcases Nat.lt_or_eq_of_le hi with lt | rfl
  · exact .inr ⟨w.goes i H lt (hG i H hi p), Pv (i + 1), fun H' p' => ⟨n - (i + 1), Nat.sub_succ_lt_self n i lt, rfl, lt, p'⟩, fun x H' y => hs i x H H' lt p (w.yields i H x H' lt (hG i H hi p) y)⟩
  · exact .inl ⟨w.stops H (hG _ H hi p), hd H p⟩
section
variable {X : Cx} {G : Gh} {W : WX} {IA : DNl} {g : DGt} {t : DTt} {A C : DEn} {ts own : List Nat} {wi : TI} {gg : TG} {tt : TT} {tk tv : TE}
theorem dc_tr (kt : Bool) (hsub : ∀ i ∈ ts, i ∈ own) (hwi : ∀ σ H R, tI G W IA σ H R → wi σ H R) (hg : ∀ O v σ H Q, tG (G.with O) ts g v σ H Q → gg v σ H Q) (ht : ∀ O σ H Q, tT (G.with O) W0 t σ H Q → tt σ H Q)
    (hk : ∀ O σ H Q, tE (G.with O) W0 A σ H Q → tk σ H Q) (hv : ∀ O σ H Q, tE (G.with O) W0 C σ H Q → tv σ H Q) : ∀ σ H Q, tE G W (eDc own IA g t kt A C) σ H Q → tDcA (newD kt) wi gg tt tk tv own σ H Q := fun σ H Q ⟨en, M, B, rel, m⟩ => by
  refine hwi σ H _ ⟨en, M, B, rel, Post.imp (post_bind.mp m) (fun q mq J H1 M1 rel1 st1 it p hp => ?_) fun _ _ _ h => h⟩
  obtain ⟨Gd, Y, w, hG, hY⟩ := it
  split at mq
  rotate_left
  · exact mq.elim
  rename_i hok
  have mq := post_noEx' mq
  obtain ⟨O', hO'⟩ : ∃ O' : AS, O' = fun a => G.Out a ∨ a = p := ⟨_, rfl⟩
  have npO : ¬ G.Out p := fun z => (rel1.out p z).1 hp
  have inO : (G.with O').Out p := by rw [hO']; exact .inr rfl
  have sb : ∀ {Ha Hb : Hp} {Ma Mb : AS}, Step Ha Ma Hb Mb → Step Ha (fun a => Ma a ∨ a = p) Hb (fun a => Mb a ∨ a = p) := fun s0 =>
    ⟨fun a o h n => s0.keep a o h fun z => n (.inl z), fun a h => h.elim (fun z => (s0.grow a z).elim (fun z => .inl (.inl z)) .inr) fun z => .inl (.inr z)⟩
  refine dc_it w (fun i H' => ∃ en' M' acc, Rel (G.with O') en' (L2.wipe σ own) H' M' B ∧ Step H1 M1 H' (fun a => M' a ∨ a = p) ∧ OdAt G.K H' (av (G.with O') M') p kt acc ∧
    Post (fun r => ∀ H2 M2, Rel (G.with O') r.2 (L2.wipe σ own) H2 M2 B → Step H1 M1 H2 (fun a => M2 a ∨ a = p) → OdAt G.K H2 (av (G.with O') M2) p kt r.1 → Q (.ref p) H2) (fun _ _ _ => False) (dcLoop own g t kt A C (q.1.drop i) en' acc))
    ⟨q.2.wipe own, M1, [], by rw [hO']; exact (rel1.wipe own).shut hp, ⟨fun a o h _ => ext_new hp a o h, fun a h => h.elim .inl fun z => .inr (by rw [z]; exact hp)⟩, newD_at kt, ?_⟩
    (fun i H' _ ⟨en', M', acc, r, s, _⟩ => hG H' _ s) (fun i x H' H'' hlt ⟨en', M', acc, r, s, hat, mm⟩ y => ?_) (fun H' ⟨en', M', acc, r, s, hat, mm⟩ => by rw [List.drop_length] at mm; exact mm H' M' r s hat)
  · rw [List.drop_zero]
    refine Post.imp mq (fun r mr H2 M2 r2 s2 od => ?_) fun _ _ _ h => h
    have np2 : ¬ M2 p := (r2.out p inO).2
    have s3 : Step H1 M1 H2 M2 := ⟨fun a o h n => s2.keep a o h n, fun a h => s2.grow a (.inl h)⟩
    have r3 : Rel G r.2 (L2.wipe σ own) H2 M2 B := by
      rw [hO'] at r2
      exact r2.unout fun a h => .inl h
    have nav : ¬ av G M2 p := fun z => z.elim np2 npO
    exact mr (.ref p) H2 M2 (rel1.back hok r3 s3) (st1.trans s3) ((od.mono (fun _ h => h) (fun _ _ h _ => h) fun a z => .inl (z.elim .inl fun z => .inr (by rw [hO']; exact .inl z))).rd nav)
  · have avh : ∀ a, av G (fun a => M' a ∨ a = p) a → H' a ≠ none := fun a ha => r.avh a (by rw [hO']; exact (av_open a).mpr ha)
    obtain ⟨ex, d, hd, rd⟩ := hY i H' _ x H'' hlt s avh y
    have hdr : q.1.drop i = d :: q.1.drop (i + 1) := by rw [List.drop_eq_getElem_cons hlt, ← Option.some.inj ((List.getElem?_eq_getElem hlt).symm.trans hd)]
    rw [hdr] at mm
    obtain ⟨en1, e1, mm⟩ := post_lift.mp mm
    have rd' : RD G.K H'' (av (G.with O') M') x d := rd.mono (fun _ _ h _ => h) fun a h => .inl (by rw [hO'] at h; exact (av_open a).mp h)
    refine hg O' _ _ _ _ ⟨d, en', M', B, en1, r.ext ex, rd', e1, fun σ2 H2 M2 rel2 st2 on2 => ⟨(on2 own hsub).trans (wipe_twice fun _ h => h), ?_⟩⟩
    have w2 : L2.wipe σ2 own = L2.wipe σ own := by rw [on2 own hsub, wipe_twice fun _ h => h]
    have pk : ∀ {Ha Hb : Hp} {Ma Mb : AS} {e2 e3 : En} {σ' : L2.St}, Rel (G.with O') e2 σ' Ha Ma B → Step Ha Ma Hb Mb → OdAt G.K Ha (av (G.with O') Ma) p kt acc → OdAt G.K Hb (av (G.with O') Mb) p kt acc := fun r0 s0 o => o.step (G := G.with O') s0 fun u hu => s0.keep p u hu (r0.out p inO).2
    have se : Step H' M' H'' M' := .ext ex
    have od2 := pk (e3 := en1) (r.ext ex) st2 (pk (e3 := en1) r se hat)
    have s2 := (s.trans (sb se)).trans (sb st2)
    refine ht O' _ _ _ ⟨en1, M2, B, rel2, Post.imp (post_bind.mp mm) (fun tp mt H3 M3 rel3 st3 => ?_) fun c dd en2 h => h.elim⟩
    have od3 := pk (e3 := en1) rel2 st3 od2
    have s3 := s2.trans (sb st3)
    by_cases c : tp.1 = true
    · rw [if_pos c] at mt
      show (if tp.1 = true then _ else _)
      rw [if_pos c]
      refine hk O' _ _ _ ⟨tp.2, M3, B, rel3, Post.imp (post_bind.mp mt) (fun kp mk y H4 M4 rel4 st4 rd4 => ?_) fun c dd en2 h => h.elim⟩
      refine hv O' _ _ _ ⟨kp.2, M4, B, rel4, Post.imp (post_bind.mp mk) (fun vp mv z H5 M5 rel5 st5 rd5 => ?_) fun c dd en2 h => h.elim⟩
      have od5 := pk (e3 := en1) rel4 st5 (pk (e3 := en1) rel3 st4 od3)
      have s5 := (s3.trans (sb st4)).trans (sb st5)
      split at mv
      · rename_i hok2
        obtain ⟨u, dp, u1, u2, new⟩ := od_put od5 (rd4.step (G := G.with O') st5) rd5 hok2.1 hok2.2 (.inr inO)
        obtain ⟨o, o1, o2, o3, o4⟩ := od5.at_
        refine ⟨_, dp, vp.2.wipe own, M5, _, ?_, ⟨fun a o h n => ?_, s5.grow⟩, new, mv⟩
        · have r5 := rel5.wipe own
          rw [w2] at r5
          subst hO'
          exact r5.grownD o1 o3 o4
        · rw [upd_ne fun z => by rw [z, hp] at h; cases h]
          exact s5.keep a o h n
      · exact mv.elim
    · rw [if_neg c] at mt
      show (if tp.1 = true then _ else _)
      rw [if_neg c]
      have r5 := rel3.wipe own
      rw [w2] at r5
      exact ⟨tp.2.wipe own, M3, acc, r5, s3, od3, mt⟩
end
section
variable {m : Bool} {X : Cx} {G : Gh} {W : WX} {k : Nat} {pos : Pos} {kx vx tg iter : Expr} {ifs : List Expr} {scope : Scope} {IA : DNl} {g : DGt} {t : DTt} {A C : DEn} {ts : List Nat}
structure BlkD (X : Cx) (G : Gh) (scope : Scope) (tg : Expr) (ifs : List Expr) (kx vx : Expr) (ts : List Nat) (g : DGt) (t : DTt) (A C : DEn) : Prop where
  dg : ∀ (O : AS) (s : Shared) (H : Hp) (C : Addr) (cl : List (Str × Addr)) (fp : List Addr), DG (X.blk s H scope (compEnvC scope cl C X.env) fp) (G.with O) tg ts g
  dt : ∀ (O : AS) (s : Shared) (H : Hp) (C : Addr) (cl : List (Str × Addr)) (fp : List Addr), DTs (X.blk s H scope (compEnvC scope cl C X.env) fp) (G.with O) W0 ifs t
  dk : ∀ (O : AS) (s : Shared) (H : Hp) (C : Addr) (cl : List (Str × Addr)) (fp : List Addr), DE (X.blk s H scope (compEnvC scope cl C X.env) fp) (G.with O) W0 kx A
  dv : ∀ (O : AS) (s : Shared) (H : Hp) (q : Addr) (cl : List (Str × Addr)) (fp : List Addr), DE (X.blk s H scope (compEnvC scope cl q X.env) fp) (G.with O) W0 vx C
theorem v_dcomp (c : Cn m X G W k) (kt : Bool) (own : List (Str × Nat)) (hi : DI X G W tg iter IA) (ok : BlkOk X.N X.env.scope scope own) (hsub : ∀ i ∈ ts, i ∈ own.map (·.2)) (b : BlkD X G scope tg ifs kx vx ts g t A C) (hs : ∀ x, foldedSetIterable iter X.env x = pure x := by intro _; rfl) :
    DE X G W (.DictComp kx vx [⟨tg, iter, ifs, 0⟩] scope pos) (eDc (own.map (·.2)) IA g t kt A C) :=
  ⟨pe_imp (pe_dcA kt (g := tgU G ts g) (tt := ttU G t) (tk := teU G A) (tv := teU G C) (by have := c.u; omega) c.calm c.nd hi.pi ok
    (fun s H q cl fp => ⟨⟨fun pins s' σ H' v u Q I r ⟨O, z⟩ => (b.dg O s H q cl fp).pg.run pins s' σ H' v u Q I r z⟩, ⟨fun pins s' σ H' Q I ⟨O, z⟩ => (b.dt O s H q cl fp).pts.run pins s' σ H' Q I z⟩,
      ⟨fun pins s' σ H' Q I ⟨O, z⟩ => (b.dk O s H q cl fp).pe.run pins s' σ H' Q I z⟩, ⟨fun pins s' σ H' Q I ⟨O, z⟩ => (b.dv O s H q cl fp).pe.run pins s' σ H' Q I z⟩⟩) hs)
    (dc_tr kt hsub (fun _ _ _ q => q) (fun O _ _ _ _ q => ⟨O, q⟩) (fun O _ _ _ q => ⟨O, q⟩) (fun O _ _ _ q => ⟨O, q⟩) (fun O _ _ _ q => ⟨O, q⟩))⟩
end
end DL

namespace DL
open PySem L2 PySem.Spec PyProof.Rows
/-! ### what is not reached -/
def sBad : DSt := fun _ => .bad
def eBad : DEn := fun _ => .bad
def tBad : DTt := fun _ => .bad
section
variable {X : Cx} {G : Gh} {W : WX} {st : Stmt} {sts : List Stmt} {e : Expr}
theorem ds_bad : DS X G W st sBad := ⟨⟨fun pins s σ H D I h => by obtain ⟨en, M, B, rel, m⟩ := h; exact m.elim⟩⟩
theorem dss_bad : DSs X G W sts sBad := ⟨⟨fun pins s σ H D I h => by obtain ⟨en, M, B, rel, m⟩ := h; exact m.elim⟩⟩
theorem de_bad : DE X G W e eBad := ⟨⟨fun pins s σ H Q I h => by obtain ⟨en, M, B, rel, m⟩ := h; exact m.elim⟩⟩
end
/-- a def that is not reached -/
def fBad : FnS := fun _ _ => .bad
theorem fn_bad {cx : CXT} {P : Program} {w : World} {K : Fg} {mg : Str → Option Value} {base : Heap} {k : Nat} {f : Addr} {fd : FuncData} {ps : List Str} {cs : Str → Option (Value × Str)} {T : List (Addr × Str)} {bx : Bool} {n : Nat} : FnC cx P w K mg base k f fd ps (spF K cs T bx n fBad) :=
  ⟨fun vs H Q E h => by obtain ⟨O, B, b, vs', ds, _, _, _, _, _, _, _, h⟩ := h; exact h.elim, fun A outer s H args us vs Q E _ _ _ _ _ h => by obtain ⟨O, B, b, vs', ds, _, _, _, _, _, _, _, h⟩ := h; exact h.elim⟩
/-! ### xs.insert(i, y) -/
def sIns (i : Nat) (k a : DEn) : DSt := fun en => (match en.sl[i]? with | some (.ow _) => k en | _ => .bad) >>= fun p => a p.2 >>= fun q => match q.2.sl[i]?, asI p.1 with
  | some (.ow ds), some j => if ds.length < sizeLine ∧ 0 ≤ j ∧ j < 2 ^ 63 then .ok (.nx (q.2.put i (.ow (ds.take j.toNat ++ [q.1] ++ ds.drop j.toNat)))) else .bad
  | _, _ => .bad
section
variable {m : Bool} {X : Cx} {G : Gh} {W : WX} {k : Nat} {pos : Pos} {x : Str} {e ix : Expr} {A I : DEn}
theorem RDs.takeN {K : Fg} {H : Hp} {O : AS} : ∀ {vs : List V} {ds : List D}, RDs K H O vs ds → ∀ n, RDs K H O (vs.take n) (ds.take n)
  | _, _, .nil, n => by rw [List.take_nil, List.take_nil]; exact .nil
  | _, _, .cons h r, 0 => .nil
  | _, _, .cons h r, n + 1 => .cons h (RDs.takeN r n)
theorem RDs.dropN {K : Fg} {H : Hp} {O : AS} : ∀ {vs : List V} {ds : List D}, RDs K H O vs ds → ∀ n, RDs K H O (vs.drop n) (ds.drop n)
  | _, _, .nil, n => by rw [List.drop_nil, List.drop_nil]; exact .nil
  | _, _, .cons h r, 0 => .cons h r
  | _, _, .cons h r, n + 1 => RDs.dropN r n
theorem s_ins (c : Cn m X G W k) (i : Nat) {p2 p3 p4 : Pos} (hk : DE X G W ix I) (h : DE X G W e A) (hN : X.N[i]? = some x := by rfl) (hv : Vis X.env.scope x := by first | exact Or.inl rfl | exact Or.inr (Or.inl rfl) | exact Or.inr (Or.inr rfl)) (hd : (x == ("__debug__" : Str)) = false := by decide) (hcd : (x == ("__classdict__" : Str)) = false := by decide)
    (hes : starEach [ix, e] X.env = (false, eval ix X.env) :: starEach [e] X.env := by rfl) (hes2 : starEach [e] X.env = (false, eval e X.env) :: starEach [] X.env := by rfl) (hpl : (backTo p3 (starEach [e] X.env)).any (·.1) = false := by rfl) (hline : (p2.endLine == p3.line) = true := by rfl) (hb : attributeBase (.Name x pos) "insert" X.env (eval (.Name x pos) X.env) = eval (.Name x pos) X.env := by rfl)
    (hfew : ((backTo p3 (starEach [ix, e] X.env)).all (fun x => !x.1) && ((backToKw p3 (keywordEach [] X.env)).all (fun x => x.1.isSome)) && decide ([ix, e].length + ([] : List Keyword).length + (if ([] : List Keyword).isEmpty then 0 else 1) < 30)) = true := by rfl)
    (hsw : swapsWith (.Call (.Attribute (.Name x pos) "insert" p2) [ix, e] [] p3) none p4.line X.env = pure false := by rfl) :
    DS X G W (.Expr (.Call (.Attribute (.Name x pos) "insert" p2) [ix, e] [] p3) p4) (sIns i I A) := by
  refine ⟨ps_imp (ps_expr (pe_bm PySem.F.plainAttrs_list PySem.F.slot_list_insert PySem.F.type_list_insert mt_insert (pe_var hN hv hd hcd) (pa_cons hk.pe (pa_cons h.pe pa_nil hes2) hes) hb hfew hline hes hpl) hsw) fun Ds σ H ⟨en, M, Bx, rel, mm⟩ => ?_⟩
  have mm := post_bind.mp mm
  cases es : en.sl[i]? with
  | none => rw [es] at mm; exact mm.elim
  | some s =>
    rw [es] at mm
    cases s with
    | ow ds0 =>
      obtain ⟨p, xs, h1, h2, h3, h4, h5⟩ := rel.slot i _ es
      refine ⟨_, h1, .inl ⟨rfl, _, .inl (.inl h3)⟩, en, M, Bx, rel, Post.imp mm (fun q mq v H1 M1 rel1 st1 rd1 => ?_) fun _ _ _ h => h.ew σ⟩
      refine ⟨q.2, M1, Bx, rel1, Post.imp (post_bind.mp mq) (fun q2 mq2 v2 H2 M2 rel2 st2 rd2 => ?_) fun c dd en2 h => (h.stepB st1 fun _ => rfl).ew σ⟩
      cases e1 : q2.2.sl[i]? with
      | none => rw [e1] at mq2; exact mq2.elim
      | some s1 =>
        rw [e1] at mq2
        cases s1 with
        | ow ds =>
          cases e2 : asI q.1 with
          | none => rw [e2] at mq2; exact mq2.elim
          | some j =>
            rw [e2] at mq2
            dsimp only at mq2
            split at mq2
            · rename_i hl
              obtain ⟨p', ys, g1, g2, g3, g4, g5⟩ := rel2.slot i _ e1
              rw [h1] at g1
              cases g1
              have hl' : ys.length < sizeLine := by rw [g5.length]; exact hl.1
              obtain ⟨r2, s2⟩ := rel2.write (ys := ys.take j.toNat ++ [v2] ++ ys.drop j.toNat) (zs := ds.take j.toNat ++ [q2.1] ++ ds.drop j.toNat) e1 h1 (by rw [List.length_append, List.length_append, List.length_take, List.length_drop, List.length_singleton]; omega) (((g5.takeN _).append (.one rd2)).append (g5.dropN _))
              exact ⟨p, ys, j, v2, rfl, by rw [asI_rd rd1 e2], g3, hl', hl.2.1, hl.2.2, mq2 σ _ M2 Bx r2 ((st1.trans st2).trans s2) fun _ => rfl⟩
            · exact mq2.elim
        | _ => exact mq2.elim
    | _ => exact mm.elim
end
end DL

namespace DL
open PySem L2 PySem.Spec PyProof.Rows
/-! ### defs held by names -/
theorem Rel.setFu {G : Gh} {en : En} {σ : L2.St} {H : Hp} {M : AS} {Bx : Option Addr} {f : Addr} {x : Str} {i : Nat} (r : Rel G en σ H M Bx) (ns : PySem.W.nsIn G.K mainGlobals x = some (some (.ref f))) : Rel G (en.put i (.fu x)) (σ.set i (some (.ref f))) H M Bx := by
  refine ⟨by rw [List.length_set, r.len]; simp [En.put], fun j s hj => ?_, fun j k p s1 s2 hne hj hk o1 o2 h1 h2 => ?_, r.box, fun p j ds hb hj h1 => ?_, r.out, r.mh, r.tab⟩
  · by_cases c : j = i
    · subst c
      obtain ⟨e1, e2⟩ := put_out hj
      subst e1
      exact ⟨f, by rw [List.getElem?_set_self (by rw [r.len]; exact e2)], ns⟩
    · rw [put_ne c] at hj
      have q := r.slot j s hj
      have se : (σ.set i (some (.ref f)))[j]? = σ[j]? := List.getElem?_set_ne (Ne.symm c)
      cases s with
      | no => trivial
      | fz d => obtain ⟨v, q1, q2⟩ := q; exact ⟨v, by rw [se]; exact q1, q2⟩
      | sq ns => obtain ⟨v, q1, q2⟩ := q; exact ⟨v, by rw [se]; exact q1, q2⟩
      | fu x => obtain ⟨v, q1, q2⟩ := q; exact ⟨v, by rw [se]; exact q1, q2⟩
      | ow es => obtain ⟨p', xs, q1, q2⟩ := q; exact ⟨p', xs, by rw [se]; exact q1, q2⟩
      | od t es => obtain ⟨p', q1, q2⟩ := q; exact ⟨p', by rw [se]; exact q1, q2⟩
      | bx => obtain ⟨p, q1, q2⟩ := q; exact ⟨p, q1, by rw [se]; exact q2⟩
      | er c d => exact erOk_σ q se
  · have cj : j ≠ i := fun z => by subst z; rw [(put_out hj).1] at o1; cases o1
    have ck : k ≠ i := fun z => by subst z; rw [(put_out hk).1] at o2; cases o2
    rw [put_ne cj] at hj
    rw [put_ne ck] at hk
    rw [List.getElem?_set_ne (Ne.symm cj)] at h1
    rw [List.getElem?_set_ne (Ne.symm ck)] at h2
    exact r.injo j k p s1 s2 hne hj hk o1 o2 h1 h2
  · have cj : j ≠ i := fun z => by subst z; cases (put_out hj).1
    rw [put_ne cj] at hj
    rw [List.getElem?_set_ne (Ne.symm cj)] at h1
    exact r.bne p j ds hb hj h1
/-! ### f(args), f a name of the frame -/
def eCallV (i : Nat) (tbl : List (Str × Nat × FnS)) (As : DAs) : DEn := fun en => match en.sl[i]? with
  | some (.fu x) => (match tbl.lookup x with
    | some q => As en >>= fun p => if p.1.length = q.1 then toRs (q.2 p.1 (0, 0)) (fun _ => p.2) else .bad
    | none => .bad)
  | _ => .bad
/-- a def that may be called by whoever holds it -/
def HeldM (P : Program) (w : World) (K : Fg) (mg : Str → Option Value) (base : Heap) (k : Nat) (cs : Str → Option (Value × Str)) (T : List (Addr × Str)) (x : Str) (n : Nat) (F : FnS) : Prop :=
  ∃ f fd ps j, j ≤ k ∧ mg x = some (.ref f) ∧ PySem.W.nsIn K mainGlobals x = some (some (.ref f)) ∧ FnM P w K mg base j f fd ps (spF K cs T false n F) ∧ PySem.W.keepIn K (.ref f) = true ∧ Binds K fd ps []
theorem HeldM.mk {P : Program} {w : World} {K : Fg} {mg : Str → Option Value} {base : Heap} {k j n : Nat} {cs : Str → Option (Value × Str)} {T : List (Addr × Str)} {x : Str} {F : FnS} {ps : List Str} (C : CalleeM P w K mg base j x ps (spF K cs T false n F)) {f : Addr} (hm : mg x = some (.ref f)) (ns : PySem.W.nsIn K mainGlobals x = some (some (.ref f))) (hj : j ≤ k) : HeldM P w K mg base k cs T x n F := by
  obtain ⟨g, fd, h1, h2, h3, h4⟩ := C
  have e : g = f := by rw [hm] at h1; exact (Value.ref.inj (Option.some.inj h1)).symm
  subst e
  exact ⟨g, fd, ps, j, hj, h1, ns, h4, h2, h3⟩
theorem HeldM.mono {P : Program} {w : World} {K : Fg} {mg : Str → Option Value} {base : Heap} {k k' n : Nat} {cs : Str → Option (Value × Str)} {T : List (Addr × Str)} {x : Str} {F : FnS} (h : HeldM P w K mg base k cs T x n F) (hk : k ≤ k') : HeldM P w K mg base k' cs T x n F := by
  obtain ⟨f, fd, ps, j, hj, h⟩ := h
  exact ⟨f, fd, ps, j, Nat.le_trans hj hk, h⟩
theorem held_nil {P : Program} {w : World} {K : Fg} {mg : Str → Option Value} {base : Heap} {k : Nat} {cs : Str → Option (Value × Str)} {T : List (Addr × Str)} : ∀ q ∈ ([] : List (Str × Nat × FnS)), HeldM P w K mg base k cs T q.1 q.2.1 q.2.2 := fun q h => by cases h
theorem held_cons {P : Program} {w : World} {K : Fg} {mg : Str → Option Value} {base : Heap} {k n : Nat} {cs : Str → Option (Value × Str)} {T : List (Addr × Str)} {x : Str} {F : FnS} {l : List (Str × Nat × FnS)} (h : HeldM P w K mg base k cs T x n F) (r : ∀ q ∈ l, HeldM P w K mg base k cs T q.1 q.2.1 q.2.2) : ∀ q ∈ (x, n, F) :: l, HeldM P w K mg base k cs T q.1 q.2.1 q.2.2 := fun q hq => by
  rcases List.mem_cons.mp hq with rfl | hq
  · exact h
  · exact r q hq
section
variable {m : Bool} {X : Cx} {G : Gh} {W : WX} {k : Nat} {pos p : Pos} {x : Str} {e : Expr} {es : List Expr} {As : DAs} {cx : CXT} {f : Addr} {fd : FuncData} {ps : List Str} {sp : Sp} {E : L2.St → XK} {t : TA}
theorem pe_callVar {i : Nat} (F : FnC cx X.prog X.w X.K X.mg X.base k f fd ps sp) (hr : Room k X.A) (hgu : X.A.guards = some []) (hN : X.N[i]? = some x) (hv : Vis X.env.scope x) (hk : PySem.W.keepIn X.K (.ref f) = true) (hb : Binds X.K fd ps []) (hx : ∀ σ, PassesAt cx X σ (E σ))
    (ha : PA X (e :: es) t) (hd : (x == ("__debug__" : Str)) = false := by decide) (hcd : (x == ("__classdict__" : Str)) = false := by decide) (he : starEach (e :: es) X.env = (false, eval e X.env) :: starEach es X.env := by rfl) (hpl : (backTo pos (starEach es X.env)).any (·.1) = false := by rfl) :
    PE X (.Call (.Name x p) (e :: es) [] pos) (fun σ H Q => σ[i]? = some (some (.ref f)) ∧ tCallSD sp [] E t σ H Q) := by
  refine ⟨fun pins s σ H Q I h => wpAny_Call_Name_kw (thn ((pe_var (pos := p) hN hv hd hcd).run pins s σ H (fun v H1 => v = .ref f ∧ H1 = H) I ⟨.ref f, h.1, rfl, rfl⟩) fun u s1 h1 => ?_)⟩
  obtain ⟨v, H1, I1, r1, rfl, rfl⟩ := h1
  cases r1
  refine PySem.W.callWith_K (h₀ := X.base) I.ok.mod.kin hk (thn (ha.run pos pins s1 σ _ _ I1 h.2) fun us s2 ⟨vs, H2, I2, r, q⟩ => ⟨I2.kIn, ?_⟩) he hpl
  have q : sp (vs ++ []) H2 Q (E σ) := q
  rw [List.append_nil] at q
  have nl : us.length = ps.length := by rw [← r.length]; exact F.len _ _ _ _ q
  have b := hb s2 us I2.kIn (by rw [List.append_nil]; exact nl)
  rw [List.append_nil] at b
  exact run_fnG (args := ⟨us, []⟩) F hr hgu (hx σ) I2 b r q
theorem v_callV (c : Cn true X G W k) (i : Nat) {tbl : List (Str × Nat × FnS)} (tv : ∀ q ∈ tbl, HeldM X.prog X.w X.K X.mg X.base k G.cls G.T q.1 q.2.1 q.2.2) (ha : DA X G W (e :: es) As) (hN : X.N[i]? = some x := by rfl) (hv : Vis X.env.scope x := by first | exact Or.inl rfl | exact Or.inr (Or.inl rfl) | exact Or.inr (Or.inr rfl))
    (hd : (x == ("__debug__" : Str)) = false := by decide) (hcd : (x == ("__classdict__" : Str)) = false := by decide) (he : starEach (e :: es) X.env = (false, eval e X.env) :: starEach es X.env := by rfl) (hpl : (backTo pos (starEach es X.env)).any (·.1) = false := by rfl) :
    DE X G W (.Call (.Name x p) (e :: es) [] pos) (eCallV i tbl As) := by
  refine ⟨⟨fun pins s σ H Q I h => ?_⟩⟩
  obtain ⟨en, M, B, rel, mm⟩ := h
  unfold eCallV at mm
  cases es0 : en.sl[i]? with
  | none => rw [es0] at mm; exact mm.elim
  | some sl =>
    rw [es0] at mm
    cases sl with
    | fu y =>
      obtain ⟨f, h1, h2⟩ := rel.slot i _ es0
      dsimp only at mm
      cases el : tbl.lookup y with
      | none => rw [el] at mm; exact mm.elim
      | some q =>
        rw [el] at mm
        dsimp only at mm
        have mem : (y, q) ∈ tbl := by
          have : ∀ {l : List (Str × Nat × FnS)}, l.lookup y = some q → (y, q) ∈ l := by
            intro l
            induction l with
            | nil => intro z; cases z
            | cons a l ih =>
              intro z
              rw [List.lookup_cons] at z
              split at z
              · rename_i hb
                have : y = a.1 := eq_of_beq hb
                cases z
                rw [this]
                exact List.mem_cons_self
              · exact List.mem_cons_of_mem _ (ih z)
          exact this el
        obtain ⟨f', fd, ps, j, hj, hm, ns, Fn, kp, b⟩ := tv _ mem
        rw [c.K, ns] at h2
        have e0 : f' = f := Value.ref.inj (Option.some.inj (Option.some.inj h2))
        subst e0
        refine (pe_callVar Fn (c.rm.mono hj) c.gu hN hv kp b (passAt (c.tm rfl)) ha.pa hd hcd he hpl).run pins s σ H Q I ⟨h1, en, M, B, rel, Post.imp (post_bind.mp mm) (fun r mq vs H1 M1 rel1 st1 rd => ?_) fun _ _ _ h => h⟩
        split at mq
        · rename_i hn
          show spF X.K G.cls G.T false q.1 q.2 (vs ++ []) H1 Q (WE W σ)
          rw [List.append_nil, ← c.K]
          exact call_tr rel1 st1 rd hn mq
        · exact mq.elim
    | _ => exact mm.elim
/-! ### for f in (g1, g2): .. -/
def goFu (i : Nat) (S : DSt) : List Str → En → Rs Out
  | [], en => .ok (.nx en)
  | x :: xs, en => S (en.put i (.fu x)) >>= fun o => match o with
    | .nx en2 => goFu i S xs en2
    | .ct en2 => goFu i S xs en2
    | .bk en2 => .ok (.nx en2)
    | .rt v en2 => .ok (.rt v en2)
    | .rn v en2 => .ok (.rn v en2)
def sForFu (i : Nat) (xs : List Str) (S : DSt) : DSt := goFu i S xs
/-- a row of names of defs -/
structure NFu (X : Cx) (es : List Expr) (xs : List Str) : Prop where
  ex : ∃ fs : List Addr, PA X es (fun _ H Q => Q (fs.map V.ref) H) ∧ fs.length = xs.length ∧ ∀ (i : Nat) (x : Str), xs[i]? = some x → ∃ f : Addr, fs[i]? = some f ∧ PySem.W.nsIn X.K mainGlobals x = some (some (.ref f))
theorem nfu_nil : NFu X [] [] := ⟨[], ⟨fun po pins s σ H Q I h => pa_nil.run po pins s σ H Q I h⟩, rfl, fun i x h => by simp at h⟩
theorem nfu_cons {y : Str} {py : Pos} {xs : List Str} {j n : Nat} {F : FnS} {cs : Str → Option (Value × Str)} {T : List (Addr × Str)} (H0 : HeldM X.prog X.w X.K X.mg X.base j cs T y n F) (h : NFu X es xs) (hg : Gl X y := by rfl) (hd : (y == ("__debug__" : Str)) = false := by decide) (he : starEach (.Name y py :: es) X.env = (false, eval (.Name y py) X.env) :: starEach es X.env := by rfl) : NFu X (.Name y py :: es) (y :: xs) := by
  obtain ⟨f, fd, ps, _, _, hm, ns, _⟩ := H0
  obtain ⟨fs, pa, l, h⟩ := h
  refine ⟨f :: fs, ⟨fun po pins s σ H Q I q => (pa_cons (pe_glob (v := .ref f) hg hm rfl hd) pa he).run po pins s σ H Q I q⟩, by rw [List.length_cons, List.length_cons, l], fun i x hx => ?_⟩
  cases i with
  | zero => cases hx; exact ⟨f, rfl, ns⟩
  | succ i => exact h i x hx
theorem s_forFu (c : Cn m X G W k) (hp : PassesOwn (model X.prog X.w) X.A X.env X.xe) (i : Nat) {kk : Nat} {tpos : Pos} {xs : List Str} {body : List Stmt} {S : DSt} (hx : NFu X es xs) (hl : xs.length ≤ 1000) (hb : DSs X G W body S)
    (hi : X.N[i]? = some x := by rfl) (hz : Loc X.env.scope x := by first | exact Or.inl rfl | exact Or.inr rfl) (hf : X.fn x = true ∨ X.env.scope.names.lookup x = some .local := by first | exact .inl rfl | exact .inr rfl)
    (hs : ∀ x, foldedSetIterable (.Tuple es kk tpos) X.env x = pure x := by intro _; rfl) : DS X G W (.For (.Name x p) (.Tuple es kk tpos) body [] pos) (sForFu i xs S) := by
  obtain ⟨fs, pa, lf, hns⟩ := hx
  refine ⟨ps_imp (ps_for hp c.calm (pi_seq (pe_tup pa)) (pg_name c.nd hi hz hf) hb.pss hs) fun Ds σ H ⟨en, M, B, rel, mm⟩ => ?_⟩
  refine ⟨by rw [List.length_map, lf]; exact Nat.le_trans hl (by decide), fun q hq => ⟨q, rfl, .inr ⟨⟨_, .inl (.inl upd_same)⟩, ?_⟩⟩⟩
  have ex0 : Ext H (upd H q (.tup (fs.map V.ref))) := ext_new hq
  have at0 : TpAt G.K (upd H q (.tup (fs.map V.ref))) (av G M) q (fs.map V.ref) := ⟨upd_same, fun z => rel.avh q z hq⟩
  have st0 : Step H M (upd H q (.tup (fs.map V.ref))) M := .ext ex0
  have rel0 := rel.ext ex0
  have w := walk_tup (K := X.K) (a := q) (xs := fs.map V.ref)
  rw [List.length_map, lf] at w
  have m0 : Post (OutOk G Ds (upd H q (.tup (fs.map V.ref))) M B) (EWS G W (upd H q (.tup (fs.map V.ref))) M B) (goFu i S (xs.drop 0) en) := by
    rw [List.drop_zero]
    exact Post.imp mm (fun o (ho : OutOk G Ds H M B o) => ho.stepB st0 fun _ => rfl) fun _ _ _ h => EWS.stepB h st0 fun _ => rfl
  refine for_it w (fun j σ' H' => ∃ en' M' B', Rel G en' σ' H' M' B' ∧ Step (upd H q (.tup (fs.map V.ref))) M H' M' ∧ (G.top = false → B' = B) ∧ Post (OutOk G Ds (upd H q (.tup (fs.map V.ref))) M B) (EWS G W (upd H q (.tup (fs.map V.ref))) M B) (goFu i S (xs.drop j) en'))
    ⟨en, M, B, rel0, .refl, fun _ => rfl, m0⟩
    (fun j σ' H' _ ⟨en', M', B', r, s, _⟩ => by have := (at0.mono s.akeep s.agrow).sq; rw [c.K] at this; exact this) (fun j v σ' H' H'' hlt ⟨en', M', B', r, s, hb', mq⟩ y => ?_) (fun σ' H' ⟨en', M', B', r, s, hb', mq⟩ => ?_)
  · obtain ⟨rfl, hv⟩ := y
    have hdr : xs.drop j = xs[j] :: xs.drop (j + 1) := List.drop_eq_getElem_cons hlt
    rw [hdr] at mq
    obtain ⟨f, hf1, hf2⟩ := hns j xs[j] (List.getElem?_eq_getElem hlt)
    have ev : v = .ref f := by
      rw [List.getElem?_map, hf1] at hv
      exact (Option.some.inj hv).symm
    subst ev
    show tS G W S _ (σ'.set i (some (.ref f))) H''
    refine ⟨en'.put i (.fu xs[j]), M', B', r.setFu (by rw [c.K]; exact hf2), Post.imp (post_bind.mp mq) (fun o mo => ?_) fun cc dd en2 h => h.stepB s hb'⟩
    cases o with
    | nx en2 => exact fun σ3 H3 M3 B3 r3 st3 hb3 => ⟨en2, M3, B3, r3, s.trans st3, fun t => (hb3 t).trans (hb' t), mo⟩
    | ct en2 => exact fun σ3 H3 M3 B3 r3 st3 hb3 => ⟨en2, M3, B3, r3, s.trans st3, fun t => (hb3 t).trans (hb' t), mo⟩
    | bk en2 => exact fun σ3 H3 M3 B3 r3 st3 hb3 => mo σ3 H3 M3 B3 r3 (s.trans st3) fun t => (hb3 t).trans (hb' t)
    | rn v en2 => exact fun p u σ3 H3 M3 B3 r3 st3 hb3 o3 => mo p u σ3 H3 M3 B3 r3 (s.trans st3) (fun t => (hb3 t).trans (hb' t)) o3
    | rt v en2 => exact fun u σ3 H3 M3 B3 r3 st3 hb3 rd3 => mo u σ3 H3 M3 B3 r3 (s.trans st3) (fun t => (hb3 t).trans (hb' t)) rd3
  · rw [List.drop_length] at mq
    exact mq σ' H' M' B' r s hb'
end
end DL

namespace DL
open PySem L2 PySem.Spec PyProof.Rows
/-! ### the law's own def, and the end -/
def tabsOf (cs : List (Addr × Addr × Str)) : List (Addr × Str) := cs.map fun c => c.2
theorem tabsOf_mem {cs : List (Addr × Addr × Str)} {q : Addr × Str} (h : q ∈ tabsOf cs) : ∃ c ∈ cs, c.2 = q := List.mem_map.mp h
def spLaw (K : Fg) (T : List (Addr × Str)) (n : Nat) : Sp := fun us H Q _ => ∃ (a : Addr) (ns : List Int), us = [.ref a] ∧ SqOk K H (stM none T) a ns ∧ ns.length ≤ n ∧ (∀ q ∈ T, LamX.TabS H q.1 q.2) ∧ ∀ H', Q (.bl true) H'
/-- what is tracked at the beginning: the script, if the written part does not know it; the tables -/
def scriptH (K : Fg) (a : Addr) (o : Obj) (xs : List V) (ts : List Addr) : Hp := fun b => if b = a ∧ K.lookup a = none then some (.frz o (.lst xs)) else if b ∈ ts then some (.tbl #[]) else none
theorem scriptH_some {K : Fg} {a b : Addr} {o : Obj} {xs : List V} {ts : List Addr} {u : HO} (h : scriptH K a o xs ts b = some u) : (b = a ∧ K.lookup a = none ∧ u = .frz o (.lst xs)) ∨ (b ∈ ts ∧ u = .tbl #[]) := by
  unfold scriptH at h
  split at h
  · rename_i c; cases h; exact .inl ⟨c.1, c.2, rfl⟩
  · split at h
    · rename_i c; cases h; exact .inr ⟨c, rfl⟩
    · cases h
section
variable {P : Program} {w : World} {K : Fg} {mg mb : Str → Option Value} {k n : Nat} {fa a : Addr} {fd : FuncData} {x : Str} {s1 : Shared} {vs : List Value} {ns : List Int} {cs : List (Addr × Addr × Str)}
theorem law_run (inK : K.In s1.heap) (nsG : s1.heap.Ns mainGlobals mg) (nsB : s1.heap.Ns builtinsNs mb) (bb : ∀ x : Str, x ≠ "__name__" → mb x = bootBuiltins x) (nl : s1.heap.NoLimit) (ng : s1.gens = #[])
    (hT : ∀ c ∈ cs, s1.heap.get? c.2.1 = some (PySem.W.tabObj #[])) (nT : ∀ c ∈ cs, K.lookup c.2.1 = none) (hC : ∀ c ∈ cs, PySem.W.CodeHd s1.heap c.1 c.2.1)
    (hbm : ∃ (bm : Addr) (ob : Obj), mg "__builtins__" = some (.ref bm) ∧ bm ≠ builtinsNs ∧ s1.heap.get? bm = some ob ∧ ob.cls = .type "module" ∧ ob.dict = some builtinsNs ∧ ob.data = .plain)
    (at_ : s1.heap.get? a = some { cls := .type "list", data := .seq vs.toArray }) (nums : IntsAre vs ns) (few : ns.length ≤ n) (few2 : n ≤ sizeLine) (room : Room k callerA)
    (F : ∀ base : Heap, K.In base → base.Ns mainGlobals mg → (∀ c ∈ cs, LamX.TabB base mg c.1 c.2.1) → FnM P w K mg base k fa fd [x] (spLaw K (tabsOf cs) n)) (binds : ∀ (s : Shared) (u : Value), BindsTo s fd ⟨[u], []⟩ [(x, u)]) :
    codeAny (model P w) callerA (.call (.ref fa) ⟨[.ref a], []⟩) (fun r s2 => r = .ok (.ret (.bool true)) ∧ OldK s1.heap s2.heap ∧ s2.os = s1.os ∧ AllBare s2.gens) s1 := by
  have rel := vals_ints nums
  obtain ⟨obj, hobj⟩ : ∃ obj : Obj, obj = { cls := .type "list", data := .seq vs.toArray } := ⟨_, rfl⟩
  rw [← hobj] at at_
  obtain ⟨ts, hts⟩ : ∃ ts : List Addr, ts = cs.map fun c => c.2.1 := ⟨_, rfl⟩
  have tat : ∀ {b : Addr}, b ∈ ts → s1.heap.get? b = some (PySem.W.tabObj #[]) := fun hb => by
    rw [hts] at hb
    obtain ⟨c, hc, z⟩ := List.mem_map.mp hb
    rw [← z]; exact hT c hc
  have ta : a ∉ ts := fun z => by
    have q := tat z
    rw [at_, hobj] at q
    have z' : Data.seq vs.toArray _ = Data.fields #[] := congrArg Obj.data (Option.some.inj q)
    cases z'
  obtain ⟨H, hH⟩ : ∃ H, H = scriptH K a obj (ns.map V.int) ts := ⟨_, rfl⟩
  have only : ∀ {b : Addr} {u : HO}, H b = some u → (b = a ∧ K.lookup a = none ∧ u = .frz obj (.lst (ns.map V.int))) ∨ (b ∈ ts ∧ u = .tbl #[]) := fun h => scriptH_some (by rw [← hH]; exact h)
  have tabAt : ∀ {b : Addr}, b ∈ ts → H b = some (.tbl #[]) := fun {b} hb => by
    rw [hH]
    unfold scriptH
    rw [if_neg (fun z => ta (by rw [← z.1]; exact hb)), if_pos hb]
  have len : (ns.map V.int).length ≤ sizeLine := by rw [List.length_map]; exact Nat.le_trans few few2
  have good : HOk P w H s1.heap := fun b u h => by
    rcases only h with ⟨rfl, _, rfl⟩ | ⟨h1, rfl⟩
    · exact ⟨at_, len, vs, _, rel, by rw [at_, hobj]⟩
    · exact tat h1
  have sq : SqOk K H (stM none (tabsOf cs)) a ns := by
    cases e : K.lookup a with
    | none => exact .inl ⟨.inr ⟨obj, by rw [hH]; exact if_pos ⟨rfl, e⟩⟩, fun z => z.elim (fun z => nomatch z) fun ⟨q, hq, z⟩ => ta (by
        obtain ⟨c, hc, e2⟩ := tabsOf_mem hq
        rw [hts, ← z, ← e2]
        exact List.mem_map.mpr ⟨c, hc, rfl⟩)⟩
    | some o =>
      have same := inK a o e
      rw [at_, hobj] at same
      cases same
      exact .inr fun H' => .inr ⟨_, vs.toArray, _, e, rfl, rfl, rfl, by rw [List.size_toArray, ← rel.length]; exact len, by simpa using rel⟩
  have free : ∀ {b : Addr} {o : Obj}, s1.heap.get? b = some o → o ≠ obj → o ≠ PySem.W.tabObj #[] → H b = none := fun {b o} e d d2 => by
    cases q : H b with
    | none => rfl
    | some u =>
      rcases only q with ⟨rfl, _⟩ | ⟨h1, _⟩
      · rw [at_] at e
        exact absurd (Option.some.inj e).symm d
      · rw [tat h1] at e
        exact absurd (Option.some.inj e).symm d2
  have freeK : ∀ {b : Addr} {o : Obj}, K.lookup b = some o → H b = none := fun {b o} e => by
    cases q : H b with
    | none => rfl
    | some u =>
      rcases only q with ⟨rfl, z, _⟩ | ⟨h1, _⟩
      · rw [z] at e
        cases e
      · rw [hts] at h1
        obtain ⟨c, hc, z⟩ := List.mem_map.mp h1
        rw [← z, nT c hc] at e
        cases e
  have dicts : ∀ {b : Addr} {m : Str → Option Value}, s1.heap.Ns b m → (hidT s1.heap H).Ns b m := fun {b m} ⟨o, es, ep, e, d, r⟩ => ⟨o, es, ep, hidT_get e (free e (fun z => by
    rw [z, hobj] at d
    have d' : Data.seq vs.toArray _ = Data.dict es ep := d
    cases d') fun z => by
    rw [z] at d
    have d' : Data.fields #[] = Data.dict es ep := d
    cases d'), d, r⟩
  have inB : K.In (hidT s1.heap H) := fun b o e => hidT_get (inK b o e) (freeK e)
  have mod : Mod K mg (hidT s1.heap H) := ⟨inB, dicts nsG, ⟨mb, dicts nsB, bb⟩, nl.elim fun mc h => ⟨mc, dicts h.1, h.2⟩⟩
  have env : Env0 P w K mg (hidT s1.heap H) callerA [] s1 H := ⟨rfl, mod, fun _ _ e => of_hidT e, Nat.le_of_eq (hidT_size _ _), trivial, (fun b hb => nomatch (show b ∈ ([] : List Addr) from hb)), good, .of_eq ng⟩
  have tb : ∀ c ∈ cs, LamX.TabB (hidT s1.heap H) mg c.1 c.2.1 := fun c hc => by
    have hTc := hT c hc
    refine ⟨?_, ?_, fun z => ?_⟩
    · obtain ⟨o, us, file, tf, flags, tg, inF, text, tt, e1, r1, r2, r3, r4⟩ := hC c hc
      refine ⟨o, us, file, tf, flags, tg, inF, text, tt, hidT_get e1 (free e1 (fun z => ?_) fun z => ?_), r1, r2, r3, r4⟩
      · rw [z, hobj] at r2; cases r2
      · rw [z] at r2; cases r2; simp at r3
    · obtain ⟨bm, ob, b1, b2, b3, b4, b5, b6⟩ := hbm
      refine ⟨bm, ob, b1, b2, fun q => ?_, fun q => ?_, hidT_get b3 (free b3 (fun z => ?_) fun z => ?_), b4, b5, b6⟩
      · obtain ⟨o, es, ep, e, d, _⟩ := nsG
        rw [q, e] at b3; cases b3
        rw [d] at b6; cases b6
      · rw [q, hTc] at b3; cases b3; cases b6
      · rw [z, hobj] at b6; cases b6
      · rw [z] at b6; cases b6
    · obtain ⟨o, es, ep, e, d, _⟩ := nsG
      rw [z, hTc] at e; cases e; cases d
  have tabs : ∀ q ∈ tabsOf cs, LamX.TabS H q.1 q.2 := fun q hq => by
    obtain ⟨c, hc, z⟩ := tabsOf_mem hq
    rw [← z]
    exact LamX.TabS.nil (tabAt (by rw [hts]; exact List.mem_map.mpr ⟨c, hc, rfl⟩))
  refine codeAny_mono ((F _ inB (dicts nsG) tb).run callerA [] s1 H ⟨[.ref a], []⟩ [.ref a] [.ref a] (fun v _ => v = .bl true) (fun _ _ _ => False) room rfl env (binds s1 (.ref a)) (.cons rfl .nil) ⟨a, ns, rfl, sq, few, tabs, fun _ => rfl⟩) fun r s2 h => ?_
  match r, h with
  | .error e, ⟨_, _, _, _, _, _, _, _, _, _, _, _, z⟩ => exact z.elim
  | .ok .next, z => exact False.elim z
  | .ok .brk, z => exact False.elim z
  | .ok .cont, z => exact False.elim z
  | .ok (.ret u), ⟨v, H2, os, bare, un, good2, rv, q⟩ =>
    have q : v = .bl true := q
    subst q
    obtain rfl : u = Value.bool true := rv
    have key : ∀ b o, b ∉ ts → s1.heap.get? b = some o → s2.heap.get? b = some o := fun b o nb e => by
      cases q : H b with
      | none => exact un.keep b o e q (fun z => nomatch (show b ∈ ([] : List Addr) from z)) (by simp)
      | some u =>
        rcases only q with ⟨rfl, _, rfl⟩ | ⟨h1, _⟩
        · rw [at_] at e
          cases e
          exact (good2 b _ (un.frzs b _ _ q)).1
        · exact absurd h1 nb
    have grown : ∀ b, b ∈ ts → ∃ more : Array Value, s2.heap.get? b = some { cls := .none, data := .fields more } := fun b hb => by
      obtain ⟨more, z⟩ := un.tbls b #[] (tabAt hb)
      exact ⟨_, good2 b _ z⟩
    refine ⟨rfl, ⟨fun b o e => ?_, fun b o e => ?_⟩, os, bare⟩
    · by_cases hb : b ∈ ts
      · obtain ⟨more, hm⟩ := grown b hb
        rw [tat hb] at e
        cases e
        have hb' := hb
        rw [hts] at hb'
        obtain ⟨c, hc, z⟩ := List.mem_map.mp hb'
        exact .inr (.inl ⟨by rw [← z]; exact ((hC c hc).tab (hT c hc)).isCodeTable, rfl, #[], more, rfl, by rw [Array.empty_append]; exact hm⟩)
      · exact .inl (key b o hb e)
    · by_cases hb : b ∈ ts
      · obtain ⟨more, hm⟩ := grown b hb
        exact ⟨_, hm⟩
      · exact ⟨o, key b o hb e⟩
def AllC (φ : Addr → Addr → Prop) : List (Addr × Addr × Str) → Prop
  | [] => True
  | (c, P, _) :: r => φ c P ∧ AllC φ r
theorem AllC.all {φ : Addr → Addr → Prop} : ∀ {cs : List (Addr × Addr × Str)}, AllC φ cs → ∀ c ∈ cs, φ c.1 c.2.1
  | _ :: _, ⟨h, _⟩, _, .head _ => h
  | _ :: _, ⟨_, r⟩, c, .tail _ m => AllC.all r c m
theorem tabIn_mk {K : Fg} {y : Str} {f c P : Addr} {oc ocl : Value} {od cd : Option Addr} {pa : Arguments} {bo : List Stmt} {sc : Scope} {dV kV doc pm ct : Value} {an : Option Addr} {osl csl : Array (Option Value)} {vs : Array Value} (h1 : PySem.W.nsIn K mainGlobals y = some (some (.ref f))) (h2 : K.lookup f = some ⟨oc, od, .func (PySem.W.fnOf y y pa bo sc dV kV doc pm an (.ref c) ct), osl⟩) (h3 : K.lookup c = some ⟨ocl, cd, .fields vs, csl⟩) (h4 : (vs[11]? : Option Value) = some (.ref P)) :
    PySem.W.tabIn K y = some (c, P) := by
  unfold PySem.W.tabIn
  rw [h1]
  simp only [h2, h3, h4]
/-- a table of error classes -/
def AllT (φ : Str → Value → Str → Prop) : List (Str × (Value × Str)) → Prop
  | [] => True
  | p :: r => φ p.1 p.2.1 p.2.2 ∧ AllT φ r
theorem tab_all {φ : Str → Value → Str → Prop} : ∀ {l : List (Str × (Value × Str))}, AllT φ l → ∀ c cls f, l.lookup c = some (cls, f) → φ c cls f
  | [], _, _, _, _, h => by cases h
  | (n, v, g) :: r, ⟨a, b⟩, c, cls, f, h => by
    rw [List.lookup_cons] at h
    split at h
    · rename_i e
      cases h
      rw [eq_of_beq e]
      exact a
    · exact tab_all b c cls f h
/-- THE END: from the promise of the law's def -/
theorem walk_dl {l : PySem.W.OpenLaw} {n : Nat} {q : Program} {loose : List Str} {XP : (Str → Option Value) → Heap → Prop} {YP : World → Heap → Prop} {d : DefRec} {Kf : Params → Fg} {x : Str} {k : Nat}
    (hn : l.most = some n) (hn2 : n ≤ sizeLine) (hdf : d.params.defaults = []) (hr : Room k callerA) (hY : ∀ (w : World) (h : Heap), YP w h → (Kf w.params).In h) (cs : List (Addr × Addr × Str))
    (fnd : AllC (fun c P => ∃ (d' : DefRec) (y : Str), (recsOf q).find? (fun e => e.name == y) = some d' ∧ ∀ w : World, PySem.W.tabIn (Kf w.params) y = some (c, P)) cs) (nT : ∀ (w : World), AllC (fun _ P => (Kf w.params).lookup P = none) cs)
    (F : ∀ (w : World) (mg : Str → Option Value) (fa : Addr) (h : Heap), (Kf w.params).In h → h.Ns mainGlobals mg → mg d.name = some (.ref fa) →
      ∃ fd : FuncData, (∀ (s : Shared) (u : Value), BindsTo s fd ⟨[u], []⟩ [(x, u)]) ∧ ∀ base : Heap, (Kf w.params).In base → base.Ns mainGlobals mg → (∀ c ∈ cs, LamX.TabB base mg c.1 c.2.1) → FnM l.prog w (Kf w.params) mg base k fa fd [x] (spLaw (Kf w.params) (tabsOf cs) n)) :
    PySem.W.WalkO q loose XP YP l.row.toRowW d [] (fun f vs => PySem.call f vs) :=
  Att.attach_call hn hdf fun w s0 s1 mg mb fa o pm cd doc a vs ns G Y ho hd hcd hmg hobj hints hlen hg => by
    have KX := hY w _ Y
    obtain ⟨fd, hb, hF⟩ := F w mg fa _ KX G.T.g hmg
    have tab : ∀ c ∈ cs, PySem.W.CodeHd s1.heap c.1 c.2.1 ∧ s1.heap.get? c.2.1 = some (PySem.W.tabObj #[]) := fun c hc => by
      obtain ⟨d', y, h1, h2⟩ := fnd.all c hc
      exact PySem.W.tab_of G.T KX h1 (h2 w)
    exact law_run KX G.T.g G.T.b G.T.builtins G.T.nolimit hg (fun c hc => (tab c hc).2) (nT w).all (fun c hc => (tab c hc).1) G.T.bmain hobj hints hlen hn2 hr hF hb
/-- the law's def by its body -/
theorem fn_law {base : Heap} {qual z : Str} {st : Stmt} {N : List Str} {m : Nat} {A : DSt} {f : Addr} (cs : Str → Option (Value × Str)) (F : Fun K z qual st f fd) (S : FnScope N [x] (defScope st)) (hm : N.length = m + 1)
    {T : List (Addr × Str)} (tot : ∀ ns : List Int, ns.length ≤ n → Post (fun o => ∃ en, o = Out.rt (.bool true) en) (fun _ _ _ => False) (A ⟨.sq ns :: List.replicate m .no, (0, 0)⟩))
    (body : ∀ (cdv : Value), CodeOf K f cdv → ∀ (Ar : Around) (outer : List Env) (s : Shared) (H : Hp) (E : XK) (W : WX), Room k (Ar.deeper (envOfC qual (defScope st) s.heap.objs.size f cdv)) → Ar.guards = some [] →
      L2.Takes (cxOf (L2.CX P w) P w K mg base N qual (defScope st) f cdv Ar outer s H E) W → DSs (cxOf (L2.CX P w) P w K mg base N qual (defScope st) f cdv Ar outer s H E) (gh K (fun _ => False) true cs T) W (defBody st) A) :
    FnM P w K mg base (k + 1) f fd [x] (spLaw K T n) := by
  refine fnG_of F S (fun us H Q E ⟨a, ns, e, _⟩ => by rw [e]; rfl) fun cdv hco Ar outer s H us Q E hr hg ⟨a, ns, e, sq, few, htab, hq⟩ => ?_
  subst e
  have es : L2.start N [V.ref a] = some (.ref a) :: List.replicate m none := by
    unfold L2.start
    rw [hm]
    rfl
  rw [es]
  have key : ∀ (j : Nat) (s : Sl), (Sl.sq ns :: List.replicate m Sl.no)[j]? = some s → (j = 0 ∧ s = .sq ns) ∨ s = .no := fun j s h => by
    match j, h with
    | 0, h => cases h; exact .inl ⟨rfl, rfl⟩
    | j + 1, h =>
      have h : (List.replicate m Sl.no)[j]? = some s := h
      rw [List.getElem?_replicate] at h
      split at h
      · exact .inr (Option.some.inj h).symm
      · cases h
  have now : ∀ {j : Nat} {ds : List D}, (Sl.sq ns :: List.replicate m Sl.no)[j]? ≠ some (Sl.ow ds) := fun {j ds} h => by
    rcases key j _ h with ⟨_, z⟩ | z <;> cases z
  have rel : Rel (gh K (fun _ => False) true cs T) ⟨.sq ns :: List.replicate m .no, (0, 0)⟩ (some (.ref a) :: List.replicate m none) H (stM none T) none := by
    have nowO : ∀ {j : Nat} {s : Sl}, (Sl.sq ns :: List.replicate m Sl.no)[j]? = some s → isO s = true → False := fun {j s} h o => by
      rcases key j _ h with ⟨_, z⟩ | z <;> (rw [z] at o; cases o)
    refine ⟨by simp, fun j s h => ?_, fun i j p s1 s2 _ h _ o _ _ _ => nowO h o, (fun p h => nomatch h), (fun p i ds h => nomatch h), fun a h => h.elim, fun a h => h.elim (fun z => nomatch z) fun ⟨q, hq, z⟩ => ?_, fun q hq => ⟨.inr ⟨q, hq, rfl⟩, htab q hq⟩⟩
    rotate_left
    · obtain ⟨ps, e⟩ := tabS_at (htab q hq)
      rw [← z, e]; exact fun z => nomatch z
    rcases key j s h with ⟨e, z⟩ | z
    · subst e z; exact ⟨a, rfl, sq.mono (fun _ _ h _ => h) fun a h => .inl (Or.elim h (fun z => z) (fun z => False.elim z))⟩
    · subst z; trivial
  refine ⟨_, (body cdv hco Ar outer s H E (fun cls d _ H => E cls d H) hr hg (takes_of rfl rfl rfl rfl)).pss, _, _, none, rel, Post.imp (tot ns few) (fun o ho => ?_) fun _ _ _ h => h.elim⟩
  obtain ⟨en, rfl⟩ := ho
  intro v σ' H' M' B' r st hB rd
  cases rd
  exact hq H'
end
end DL

namespace DL
open PySem L2
/-! ### reading the terms -/
theorem ap {α : Sort _} {a b : α} (h : a = b) : a = b := h
section
variable {en : En} {k0 : List Sl} {b0 : Int × Int} {i j n m : Nat} {a b : DEn} {t u : DTt} {As r : DAs} {N : DNl} {S S' : DSt} {g : DGt} {gs : DGts}
@[simp] theorem bind_ok {α β : Type} (x : α) (f : α → Rs β) : ((Rs.ok x : Rs α) >>= f) = f x := ap rfl
@[simp] theorem bind_bad {α β : Type} (f : α → Rs β) : ((Rs.bad : Rs α) >>= f) = Rs.bad := ap rfl
@[simp] theorem bind_ex {α β : Type} (c : Str) (d : D) (e : En) (f : α → Rs β) : ((Rs.ex c d e : Rs α) >>= f) = Rs.ex c d e := ap rfl
@[simp] theorem lift_some {α : Type} (x : α) : liftO (some x) = .ok x := ap rfl
@[simp] theorem lift_none {α : Type} : liftO (none : Option α) = .bad := ap rfl
@[simp] theorem eVar_ap : eVar i (⟨k0, b0⟩ : En) = (match k0[i]? with
  | some (.fz d) => .ok (d, (⟨k0, b0⟩ : En))
  | some (.ow ds) => .ok (.list ds, { sl := k0.set i (.fz (.list ds)), bx := b0 })
  | some (.od t es) => .ok (dcD t es, { sl := k0.set i (.fz (dcD t es)), bx := b0 })
  | _ => .bad) := ap rfl
@[simp] theorem eC_ap {d : D} : eC d (⟨k0, b0⟩ : En) = .ok (d, (⟨k0, b0⟩ : En)) := ap rfl
@[simp] theorem eBin_ap {f : D → D → Option D} : eBin f a b (⟨k0, b0⟩ : En) = (a (⟨k0, b0⟩ : En) >>= fun p => b p.2 >>= fun q => liftO (f p.1 q.1) >>= fun z => .ok (z, q.2)) := ap rfl
@[simp] theorem eUn_ap {f : D → Option D} : eUn f a (⟨k0, b0⟩ : En) = (a (⟨k0, b0⟩ : En) >>= fun p => liftO (f p.1) >>= fun z => .ok (z, p.2)) := ap rfl
@[simp] theorem eCl_ap {f : List D → Option D} : eCl f As (⟨k0, b0⟩ : En) = (As (⟨k0, b0⟩ : En) >>= fun p => liftO (f p.1) >>= fun z => .ok (z, p.2)) := ap rfl
@[simp] theorem tV_ap : tV a (⟨k0, b0⟩ : En) = (a (⟨k0, b0⟩ : En) >>= fun p => liftO (asB p.1) >>= fun b => .ok (b, p.2)) := ap rfl
@[simp] theorem tAnd_ap : tAnd t u (⟨k0, b0⟩ : En) = (t (⟨k0, b0⟩ : En) >>= fun p => if p.1 = true then u p.2 else .ok (false, p.2)) := ap rfl
@[simp] theorem tOr_ap : tOr t u (⟨k0, b0⟩ : En) = (t (⟨k0, b0⟩ : En) >>= fun p => if p.1 = true then .ok (true, p.2) else u p.2) := ap rfl
@[simp] theorem tNot_ap : tNot t (⟨k0, b0⟩ : En) = (t (⟨k0, b0⟩ : En) >>= fun p => .ok (!p.1, p.2)) := ap rfl
@[simp] theorem tTrue_ap : tTrue (⟨k0, b0⟩ : En) = .ok (true, (⟨k0, b0⟩ : En)) := ap rfl
@[simp] theorem eAnd_ap : eAnd a b (⟨k0, b0⟩ : En) = (a (⟨k0, b0⟩ : En) >>= fun p => liftO (asB p.1) >>= fun c => if c = true then b p.2 else .ok (.bool false, p.2)) := ap rfl
@[simp] theorem eOr_ap : eOr a b (⟨k0, b0⟩ : En) = (a (⟨k0, b0⟩ : En) >>= fun p => liftO (asB p.1) >>= fun c => if c = true then .ok (.bool true, p.2) else b p.2) := ap rfl
@[simp] theorem eNot_ap : eNot a (⟨k0, b0⟩ : En) = (a (⟨k0, b0⟩ : En) >>= fun p => liftO (asB p.1) >>= fun c => .ok (.bool (!c), p.2)) := ap rfl
@[simp] theorem eIf_ap : eIf t a b (⟨k0, b0⟩ : En) = (t (⟨k0, b0⟩ : En) >>= fun p => if p.1 = true then a p.2 else b p.2) := ap rfl
@[simp] theorem aNil_ap : aNil (⟨k0, b0⟩ : En) = .ok ([], (⟨k0, b0⟩ : En)) := ap rfl
@[simp] theorem aCons_ap : aCons a r (⟨k0, b0⟩ : En) = (a (⟨k0, b0⟩ : En) >>= fun p => r p.2 >>= fun q => .ok (p.1 :: q.1, q.2)) := ap rfl
@[simp] theorem eSl_ap {l h : DPo} : eSl a l h (⟨k0, b0⟩ : En) = (a (⟨k0, b0⟩ : En) >>= fun p => l p.2 >>= fun q => h q.2 >>= fun r => liftO (dSl p.1 q.1 r.1) >>= fun z => .ok (z, r.2)) := ap rfl
@[simp] theorem oNo_ap : oNo (⟨k0, b0⟩ : En) = .ok (none, (⟨k0, b0⟩ : En)) := ap rfl
@[simp] theorem oSo_ap : oSo a (⟨k0, b0⟩ : En) = (a (⟨k0, b0⟩ : En) >>= fun p => liftO (asI p.1) >>= fun i => .ok (some i, p.2)) := ap rfl
@[simp] theorem eM1_ap {f : D → List D → Option D} : eM1 f a b (⟨k0, b0⟩ : En) = (a (⟨k0, b0⟩ : En) >>= fun p => liftO (asStr p.1) >>= fun _ => b p.2 >>= fun q => liftO (f p.1 [q.1]) >>= fun z => .ok (z, q.2)) := ap rfl
@[simp] theorem eN_ap : eN N (⟨k0, b0⟩ : En) = (N (⟨k0, b0⟩ : En) >>= fun q => .ok (.list q.1, q.2)) := ap rfl
@[simp] theorem nCl_ap {f : List D → Option (List D)} : nCl f As (⟨k0, b0⟩ : En) = (As (⟨k0, b0⟩ : En) >>= fun p => liftO (f p.1) >>= fun z => .ok (z, p.2)) := ap rfl
@[simp] theorem eChain_ap {f g : D → D → Option D} {c : DEn} : eChain f g a b c (⟨k0, b0⟩ : En) = (a (⟨k0, b0⟩ : En) >>= fun p => b p.2 >>= fun q => liftO (f p.1 q.1) >>= fun z => liftO (asB z) >>= fun k => if k = true then c q.2 >>= fun r => liftO (g q.1 r.1) >>= fun w => .ok (w, r.2) else .ok (.bool false, q.2)) := ap rfl
@[simp] theorem iZip_ap : iZip a b (⟨k0, b0⟩ : En) = (a (⟨k0, b0⟩ : En) >>= fun p => b p.2 >>= fun q => liftO (zipS p.1 q.1) >>= fun ds => .ok (ds, q.2)) := ap rfl
@[simp] theorem zipS_ll {xs ys : List D} : zipS (.list xs) (.list ys) = some (zipD xs ys) := ap rfl
@[simp] theorem zipS_tt {xs ys : List D} : zipS (.tuple xs) (.tuple ys) = some (zipD xs ys) := ap rfl
@[simp] theorem dIsi_ap {ks : List Kd} {d : D} : dIsi ks d = some (.bool (ks.any (isK d))) := ap rfl
@[simp] theorem eTupRg_ap : eTupRg a (⟨k0, b0⟩ : En) = (a (⟨k0, b0⟩ : En) >>= fun p => liftO (asI p.1) >>= fun n => if rgFit n = true then .ok (.tuple (rgD 0 n.toNat), p.2) else .bad) := ap rfl
@[simp] theorem nLstRg_ap : nLstRg a (⟨k0, b0⟩ : En) = (a (⟨k0, b0⟩ : En) >>= fun p => liftO (asI p.1) >>= fun n => if rgFit n = true then .ok (rgD 0 n.toNat, p.2) else .bad) := ap rfl
@[simp] theorem nBack_ap {s : DPo} : nBack a s (⟨k0, b0⟩ : En) = (a (⟨k0, b0⟩ : En) >>= fun p => s p.2 >>= fun q => liftO (match p.1, q.1 with
  | .list xs, some (-1) => some xs.reverse
  | _, _ => none) >>= fun z => .ok (z, q.2)) := ap rfl
@[simp] theorem nSrtSet_ap : nSrtSet a (⟨k0, b0⟩ : En) = (a (⟨k0, b0⟩ : En) >>= fun p => liftO (dSrtSet p.1) >>= fun z => .ok (z, p.2)) := ap rfl
@[simp] theorem nRep_ap : nRep a b (⟨k0, b0⟩ : En) = (a (⟨k0, b0⟩ : En) >>= fun p => b p.2 >>= fun q => liftO (match p.1, q.1 with
  | .list xs, .int k => if 0 ≤ k ∧ k < 2 ^ 63 ∧ xs.length * k.toNat ≤ sizeLine then some (List.replicate k.toNat xs).flatten else none
  | _, _ => none) >>= fun z => .ok (z, q.2)) := ap rfl
@[simp] theorem nCat_ap : nCat a b (⟨k0, b0⟩ : En) = (a (⟨k0, b0⟩ : En) >>= fun p => b p.2 >>= fun q => liftO (match p.1, q.1 with
  | .list xs, .list ys => if xs.length + ys.length ≤ sizeLine then some (xs ++ ys) else none
  | _, _ => none) >>= fun z => .ok (z, q.2)) := ap rfl
@[simp] theorem sNx_ap : sNx (⟨k0, b0⟩ : En) = .ok (.nx (⟨k0, b0⟩ : En)) := ap rfl
@[simp] theorem sSeq_ap : sSeq S S' (⟨k0, b0⟩ : En) = (S (⟨k0, b0⟩ : En) >>= fun o => match o with
  | .nx en' => S' en'
  | .rt d en' => .ok (.rt d en')
  | .rn d en' => .ok (.rn d en')
  | .bk en' => .ok (.bk en')
  | .ct en' => .ok (.ct en')) := ap rfl
@[simp] theorem sPass_ap : sPass (⟨k0, b0⟩ : En) = .ok (.nx (⟨k0, b0⟩ : En)) := ap rfl
@[simp] theorem sBrk_ap : sBrk (⟨k0, b0⟩ : En) = .ok (.bk (⟨k0, b0⟩ : En)) := ap rfl
@[simp] theorem sCnt_ap : sCnt (⟨k0, b0⟩ : En) = .ok (.ct (⟨k0, b0⟩ : En)) := ap rfl
@[simp] theorem sExp_ap : sExp a (⟨k0, b0⟩ : En) = (a (⟨k0, b0⟩ : En) >>= fun p => .ok (.nx p.2)) := ap rfl
@[simp] theorem sRet_ap : sRet a (⟨k0, b0⟩ : En) = (a (⟨k0, b0⟩ : En) >>= fun p => .ok (.rt p.1 p.2)) := ap rfl
@[simp] theorem sRetO_ap : sRetO N (⟨k0, b0⟩ : En) = (N (⟨k0, b0⟩ : En) >>= fun p => .ok (.rn p.1 p.2)) := ap rfl
@[simp] theorem sRetN_ap : sRetN (⟨k0, b0⟩ : En) = .ok (.rt .none (⟨k0, b0⟩ : En)) := ap rfl
@[simp] theorem sIf_ap : sIf t S S' (⟨k0, b0⟩ : En) = (t (⟨k0, b0⟩ : En) >>= fun p => if p.1 = true then S p.2 else S' p.2) := ap rfl
@[simp] theorem sAsg_ap : sAsg i a (⟨k0, b0⟩ : En) = (a (⟨k0, b0⟩ : En) >>= fun p => .ok (.nx (p.2.put i (.fz p.1)))) := ap rfl
@[simp] theorem sOwn_ap : sOwn i N (⟨k0, b0⟩ : En) = (N (⟨k0, b0⟩ : En) >>= fun p => .ok (.nx (p.2.put i (.ow p.1)))) := ap rfl
@[simp] theorem sApp_ap : sApp i a (⟨k0, b0⟩ : En) = ((match k0[i]? with | some (.ow _) => a (⟨k0, b0⟩ : En) | _ => .bad) >>= fun p => match p.2.sl[i]? with
  | some (.ow ds) => if ds.length < sizeLine then .ok (.nx (p.2.put i (.ow (ds ++ [p.1])))) else .bad
  | _ => .bad) := ap rfl
@[simp] theorem put_ap {s : Sl} {l : List Sl} {bx : Int × Int} : (⟨l, bx⟩ : En).put i s = ⟨l.set i s, bx⟩ := ap rfl
@[simp] theorem gN_ap {d : D} : gN i d (⟨k0, b0⟩ : En) = some ((⟨k0, b0⟩ : En).put i (.fz d)) := ap rfl
@[simp] theorem gNil_ap : gNil [] (⟨k0, b0⟩ : En) = some (⟨k0, b0⟩ : En) := ap rfl
@[simp] theorem gCons_ap {d : D} {ds : List D} : gCons g gs (d :: ds) (⟨k0, b0⟩ : En) = (g d (⟨k0, b0⟩ : En)).bind (gs ds) := ap rfl
@[simp] theorem gTup_ap {ds : List D} : gTup n gs (.tuple ds) (⟨k0, b0⟩ : En) = (if ds.length = n then gs ds (⟨k0, b0⟩ : En) else none) := ap rfl
@[simp] theorem gTupL_ap {ds : List D} : gTup n gs (.list ds) (⟨k0, b0⟩ : En) = (if ds.length = n then gs ds (⟨k0, b0⟩ : En) else none) := ap rfl
@[simp] theorem iSeq_ap : iSeq a (⟨k0, b0⟩ : En) = (a (⟨k0, b0⟩ : En) >>= fun p => liftO (asSeq p.1) >>= fun ds => .ok (ds, p.2)) := ap rfl
@[simp] theorem iR1_ap : iR1 a (⟨k0, b0⟩ : En) = (a (⟨k0, b0⟩ : En) >>= fun p => liftO (asI p.1) >>= fun n => if rgOk n = true then .ok (rgD 0 n.toNat, p.2) else .bad) := ap rfl
@[simp] theorem iR2_ap : iR2 a b (⟨k0, b0⟩ : En) = (a (⟨k0, b0⟩ : En) >>= fun p => b p.2 >>= fun q => liftO (asI p.1) >>= fun i => liftO (asI q.1) >>= fun j => if rgOk i = true ∧ rgOk j = true then .ok (rgD i (j - i).toNat, q.2) else .bad) := ap rfl
@[simp] theorem iEnu_ap : iEnu a (⟨k0, b0⟩ : En) = (a (⟨k0, b0⟩ : En) >>= fun p => liftO (asSeq p.1) >>= fun ds => .ok (enumD 0 ds, p.2)) := ap rfl
@[simp] theorem sFor_ap : sFor N g S (⟨k0, b0⟩ : En) = (N (⟨k0, b0⟩ : En) >>= fun q => sLoop g S q.1 q.2) := ap rfl
@[simp] theorem nComp_ap {own : List Nat} : nComp own N g t a (⟨k0, b0⟩ : En) = (N (⟨k0, b0⟩ : En) >>= fun q => if ownOk q.2 own = true then noEx (cLoop own g t a q.1 (q.2.wipe own) []) >>= fun r => .ok (r.1, r.2.back q.2 own) else .bad) := ap rfl
@[simp] theorem noEx_ok {α : Type} (x : α) : noEx (Rs.ok x) = .ok x := ap rfl
@[simp] theorem eCall_ap {F : FnS} : eCall n F As (⟨k0, b0⟩ : En) = (As (⟨k0, b0⟩ : En) >>= fun p => if p.1.length = n then toRs (F p.1 (0, 0)) (fun _ => p.2) else .bad) := ap rfl
@[simp] theorem eCallB_ap {F : FnS} : eCallB n i F As (⟨k0, b0⟩ : En) = (match k0[i]? with
  | some .bx => As (⟨k0, b0⟩ : En) >>= fun p => if p.1.length = n then toRs (F p.1 p.2.bx) (fun b => { p.2 with bx := b }) else .bad
  | _ => .bad) := ap rfl
@[simp] theorem eCallK_ap {F : FnS} {js : List Nat} : eCallK n js F As (⟨k0, b0⟩ : En) = (As (⟨k0, b0⟩ : En) >>= fun p => if p.1.length = n ∧ js.length = n then toRs (F (put PyData.none js p.1) (0, 0)) (fun _ => p.2) else .bad) := ap rfl
@[simp] theorem toRs_ok {d : D} {bx : Int × Int} {f : (Int × Int) → En} : toRs (.ok d bx) f = .ok (d, f bx) := ap rfl
@[simp] theorem toRs_nw {d : List D} {bx : Int × Int} {f : (Int × Int) → En} : toRs (.nw d bx) f = .ok (.list d, f bx) := ap rfl
@[simp] theorem evP_nil : evP [] (⟨k0, b0⟩ : En) = .ok ([], (⟨k0, b0⟩ : En)) := ap rfl
@[simp] theorem evP_fr {ll : List PIt} : evP (.fr a :: ll) (⟨k0, b0⟩ : En) = (a (⟨k0, b0⟩ : En) >>= fun p => evP ll p.2 >>= fun q => .ok (.fz p.1 :: q.1, q.2)) := ap rfl
@[simp] theorem evP_nw {ll : List PIt} : evP (.nw N :: ll) (⟨k0, b0⟩ : En) = (N (⟨k0, b0⟩ : En) >>= fun p => evP ll p.2 >>= fun q => .ok (.ow p.1 :: q.1, q.2)) := ap rfl
@[simp] theorem sPar_ap {is : List Nat} {ll : List PIt} : sPar is ll (⟨k0, b0⟩ : En) = (evP ll (⟨k0, b0⟩ : En) >>= fun q => if q.1.length = is.length then .ok (.nx (putAll is q.1 q.2)) else .bad) := ap rfl
@[simp] theorem putAll_nil {ss : List Sl} : putAll [] ss en = en := ap rfl
@[simp] theorem putAll_cons {is : List Nat} {s : Sl} {ss : List Sl} : putAll (i :: is) (s :: ss) (⟨k0, b0⟩ : En) = putAll is ss ((⟨k0, b0⟩ : En).put i s) := ap rfl
@[simp] theorem sUnp_ap : sUnp g a (⟨k0, b0⟩ : En) = (a (⟨k0, b0⟩ : En) >>= fun p => liftO (g p.1 p.2) >>= fun e => .ok (.nx e)) := ap rfl
@[simp] theorem eBx_ap {c : Int} : eBx i c (⟨k0, b0⟩ : En) = (match k0[i]? with
  | some .bx => liftO (bxGet (⟨k0, b0⟩ : En).bx c) >>= fun z => .ok (.int z, (⟨k0, b0⟩ : En))
  | _ => .bad) := ap rfl
@[simp] theorem sBx_ap {c : Int} : sBx i c a (⟨k0, b0⟩ : En) = (a (⟨k0, b0⟩ : En) >>= fun p => match p.2.sl[i]? with
  | some .bx => liftO ((asI p.1).bind fun v => bxSet p.2.bx v c) >>= fun b => .ok (.nx { p.2 with bx := b })
  | _ => .bad) := ap rfl
@[simp] theorem eSqLen_ap : eSqLen i (⟨k0, b0⟩ : En) = (match k0[i]? with
  | some (.sq ns) => .ok (.int ns.length, (⟨k0, b0⟩ : En))
  | _ => .bad) := ap rfl
@[simp] theorem eSqIx_ap : eSqIx i a (⟨k0, b0⟩ : En) = (match k0[i]? with
  | some (.sq ns) => a (⟨k0, b0⟩ : En) >>= fun p => liftO ((asI p.1).bind fun k => L2.atI ns k) >>= fun z => .ok (.int z, p.2)
  | _ => .bad) := ap rfl
variable {x y : Int} {d e : D} {ds es : List D} {z w : Str} {p q : Bool} {bb : Int × Int}
@[simp] theorem bxGet0 : bxGet bb 0 = some bb.1 := ap rfl
@[simp] theorem bxGet1 : bxGet bb 1 = some bb.2 := ap rfl
@[simp] theorem bxSet0 : bxSet bb x 0 = some (x, bb.2) := ap rfl
@[simp] theorem bxSet1 : bxSet bb x 1 = some (bb.1, x) := ap rfl
@[simp] theorem asI_int : asI (.int x) = some x := ap rfl
@[simp] theorem asB_bool : asB (.bool p) = some p := ap rfl
@[simp] theorem asS_str : asS (.str z) = some z := ap rfl
@[simp] theorem asStr_str : asStr (.str z) = some () := ap rfl
@[simp] theorem asSeq_list : asSeq (.list ds) = some ds := ap rfl
@[simp] theorem asSeq_tuple : asSeq (.tuple ds) = some ds := ap rfl
@[simp] theorem dAdd_ii : dAdd (.int x) (.int y) = some (.int (x + y)) := ap rfl
@[simp] theorem dAdd_ss : dAdd (.str z) (.str w) = if z.length + w.length ≤ sizeLine then some (.str (z ++ w)) else none := ap rfl
@[simp] theorem dAdd_ll : dAdd (.list ds) (.list es) = if ds.length + es.length ≤ sizeLine then some (.list (ds ++ es)) else none := ap rfl
@[simp] theorem dAdd_tt : dAdd (.tuple ds) (.tuple es) = if ds.length + es.length ≤ sizeLine then some (.tuple (ds ++ es)) else none := ap rfl
@[simp] theorem dSub_ii : dSub (.int x) (.int y) = some (.int (x - y)) := ap rfl
@[simp] theorem dMod_ii : dMod (.int x) (.int y) = if cMod x y = true then some (.int (x % y)) else none := ap rfl
@[simp] theorem dDiv_ii : dDiv (.int x) (.int y) = if cDiv x y = true then some (.int (x / y)) else none := ap rfl
@[simp] theorem dPow_ii : dPow (.int x) (.int y) = if cPow x y = true then some (.int (x ^ y.toNat)) else none := ap rfl
@[simp] theorem dMul_ii : dMul (.int x) (.int y) = if cMul x y = true then some (.int (x * y)) else none := ap rfl
@[simp] theorem dNeg_i : dNeg (.int x) = some (.int (-x)) := ap rfl
@[simp] theorem dEq_ii : dEq (.int x) (.int y) = some (.bool (x == y)) := ap rfl
@[simp] theorem dNe_ii : dNe (.int x) (.int y) = some (.bool (!(x == y))) := ap rfl
@[simp] theorem dEq_ss : dEq (.str z) (.str w) = some (.bool (z == w)) := ap rfl
@[simp] theorem dNe_ss : dNe (.str z) (.str w) = some (.bool (!(z == w))) := ap rfl
theorem dEq_sh (h : SeqAt.shaped d = true) (h' : SeqAt.shaped e = true) : dEq d e = some (.bool (PyData.eqv d e)) := by
  cases d <;> cases e <;> first | (simp [dEq, h, h']; done) | (simp [dEq, PyData.eqv]; done)
theorem dNe_sh (h : SeqAt.shaped d = true) (h' : SeqAt.shaped e = true) : dNe d e = some (.bool (!PyData.eqv d e)) := by
  cases d <;> cases e <;> first | (simp [dNe, h, h']; done) | (simp [dNe, PyData.eqv]; done)
@[simp] theorem dEq_bb : dEq (.bool p) (.bool q) = some (.bool (p == q)) := by
  rw [dEq_sh (by simp [SeqAt.shaped, PyData.canLay0, PyData.depth]) (by simp [SeqAt.shaped, PyData.canLay0, PyData.depth])]
  simp [PyData.eqv]
@[simp] theorem dNe_bb : dNe (.bool p) (.bool q) = some (.bool (!(p == q))) := by
  rw [dNe_sh (by simp [SeqAt.shaped, PyData.canLay0, PyData.depth]) (by simp [SeqAt.shaped, PyData.canLay0, PyData.depth])]
  simp [PyData.eqv]
@[simp] theorem dLt_ii : dLt (.int x) (.int y) = some (.bool (decide (x < y))) := ap rfl
@[simp] theorem dGt_ii : dGt (.int x) (.int y) = some (.bool (decide (y < x))) := ap rfl
@[simp] theorem dLe_ii : dLe (.int x) (.int y) = some (.bool (decide (x ≤ y))) := ap rfl
@[simp] theorem dGe_ii : dGe (.int x) (.int y) = some (.bool (decide (y ≤ x))) := ap rfl
@[simp] theorem dIx_l : dIx (.list ds) (.int x) = L2.atI ds x := ap rfl
@[simp] theorem dIx_t : dIx (.tuple ds) (.int x) = L2.atI ds x := ap rfl
section
variable {α : Type} {x0 x1 x2 x3 x4 : α} {l : List α}
@[simp] theorem atI0 : L2.atI (x0 :: l) 0 = some x0 := by simp [L2.atI, ixN]
@[simp] theorem atI1 : L2.atI (x0 :: x1 :: l) 1 = some x1 := by
  have h : (1 : Int) < ((l.length : Int) + 1 + 1) := by omega
  simp [L2.atI, ixN, h]
@[simp] theorem atI2 : L2.atI (x0 :: x1 :: x2 :: l) 2 = some x2 := by
  have h : (2 : Int) < ((l.length : Int) + 1 + 1 + 1) := by omega
  simp [L2.atI, ixN, h]
@[simp] theorem atI3 : L2.atI (x0 :: x1 :: x2 :: x3 :: l) 3 = some x3 := by
  have h : (3 : Int) < ((l.length : Int) + 1 + 1 + 1 + 1) := by omega
  simp [L2.atI, ixN, h]
@[simp] theorem atI4 : L2.atI (x0 :: x1 :: x2 :: x3 :: x4 :: l) 4 = some x4 := by
  have h : (4 : Int) < ((l.length : Int) + 1 + 1 + 1 + 1 + 1) := by omega
  simp [L2.atI, ixN, h]
end
@[simp] theorem dSl_l {lo hi : Option Int} : dSl (.list ds) lo hi = some (.list (cutD ds lo hi)) := ap rfl
@[simp] theorem dSl_t {lo hi : Option Int} : dSl (.tuple ds) lo hi = some (.tuple (cutD ds lo hi)) := ap rfl
@[simp] theorem dLen_l : dLen [.list ds] = some (.int ds.length) := ap rfl
@[simp] theorem dLen_t : dLen [.tuple ds] = some (.int ds.length) := ap rfl
@[simp] theorem dInt_i : dInt [.int x] = some (.int x) := ap rfl
@[simp] theorem dAbs_i : dAbs [.int x] = some (.int (if x < 0 then -x else x)) := ap rfl
@[simp] theorem dStr_i : dStr [.int x] = if x.natAbs.log2 < 1920 then some (.str (toString x)) else none := ap rfl
@[simp] theorem dStr_s : dStr [.str z] = some (.str z) := ap rfl
@[simp] theorem mkT_ap : mkT ds = if ds.length ≤ sizeLine then some (.tuple ds) else none := ap rfl
@[simp] theorem mkL_ap : mkL ds = if ds.length ≤ sizeLine then some (.list ds) else none := ap rfl
@[simp] theorem nwL_ap : nwL ds = if ds.length ≤ sizeLine then some ds else none := ap rfl
@[simp] theorem cMul_r (h1 : -(2 ^ 64) < y) (h2 : y < 2 ^ 64) : cMul x y = true := by unfold cMul; rw [decide_eq_true h1, decide_eq_true h2]; simp
@[simp] theorem cMul_l (h1 : -(2 ^ 64) < x) (h2 : x < 2 ^ 64) : cMul x y = true := by unfold cMul; rw [decide_eq_true h1, decide_eq_true h2]; simp
@[simp] theorem log2_9000 {n : Nat} (h : n < 2 ^ 60) : n.log2 < 9000 := by
  by_cases h2 : n = 0
  · subst h2; decide
  · have := (Nat.log2_lt h2).mpr h
    omega
@[simp] theorem log2_1920 {n : Nat} (h : n < 2 ^ 60) : n.log2 < 1920 := by
  by_cases h2 : n = 0
  · subst h2; decide
  · have := (Nat.log2_lt h2).mpr h
    omega
@[simp] theorem cMod_ap : cMod x y = decide (0 < y) := ap rfl
@[simp] theorem cDiv_ap : cDiv x y = (decide (0 < y) && decide (y.natAbs.log2 < 9000)) := ap rfl
@[simp] theorem cPow_ap : cPow x y = (decide (0 ≤ y) && decide (y ≤ 1000000) && decide (x.natAbs < 2 ^ 64)) := ap rfl
@[simp] theorem finF_rt : finF (.ok (.rt d en)) = .ok d en.bx := ap rfl
@[simp] theorem finF_rn : finF (.ok (.rn ds en)) = .nw ds en.bx := ap rfl
@[simp] theorem finF_nx : finF (.ok (.nx en)) = .ok .none en.bx := ap rfl
@[simp] theorem dIsN_n : dIsN d .none = some (.bool (match d with | .none => true | _ => false)) := by cases d <;> rfl
@[simp] theorem dNotN_n : dNotN d .none = some (.bool (match d with | .none => false | _ => true)) := by cases d <;> rfl
@[simp] theorem dList_l : dList [.list ds] = some (.list ds) := ap rfl
@[simp] theorem dList_t : dList [.tuple ds] = some (.list ds) := ap rfl
@[simp] theorem dTuple_l : dTuple [.list ds] = some (.tuple ds) := ap rfl
@[simp] theorem dTuple_t : dTuple [.tuple ds] = some (.tuple ds) := ap rfl
@[simp] theorem nList_l : nList [.list ds] = some ds := ap rfl
@[simp] theorem nList_t : nList [.tuple ds] = some ds := ap rfl
end
theorem runF_eq {bx : Bool} {m : Nat} {A : DSt} {ds : List D} {b : Int × Int} : runF bx m A ds b = finF (A (enF bx m ds b)) := ap rfl
end DL

namespace DL
open PySem L2
section
variable {k0 k1 : List Sl} {b0 b1 : Int × Int} {i j n : Nat} {a b c : DEn} {t : DTt} {S T : DSt} {f : D → D → Option D} {it : DNl} {g : DGt} {own : List Nat} {kt : Bool} {cat : Str → Bool}
@[simp] theorem pk_none : pkD none = none := ap rfl
@[simp] theorem pk_fz {d : D} : pkD (some (.fz d)) = some d := ap rfl
@[simp] theorem pk_ow {ds : List D} : pkD (some (.ow ds)) = some (.list ds) := ap rfl
@[simp] theorem pk_od {es : Es} : pkD (some (.od kt es)) = some (dcD kt es) := ap rfl
@[simp] theorem ePk_ap : ePk f i b (⟨k0, b0⟩ : En) = (liftO (pkD k0[i]?) >>= fun _ => b (⟨k0, b0⟩ : En) >>= fun q => liftO (pkD q.2.sl[i]?) >>= fun d => liftO (f d q.1) >>= fun z => .ok (z, q.2)) := ap rfl
@[simp] theorem ePkR_ap : ePkR f a i (⟨k0, b0⟩ : En) = (a (⟨k0, b0⟩ : En) >>= fun q => liftO (pkD q.2.sl[i]?) >>= fun d => liftO (f q.1 d) >>= fun z => .ok (z, q.2)) := ap rfl
@[simp] theorem ePkLen_ap : ePkLen i (⟨k0, b0⟩ : En) = (liftO (pkD k0[i]?) >>= fun d => liftO (dLen [d]) >>= fun z => .ok (z, (⟨k0, b0⟩ : En))) := ap rfl
@[simp] theorem ePkG1_ap : ePkG1 i b (⟨k0, b0⟩ : En) = (liftO (pkD k0[i]?) >>= fun d0 => liftO (unDc d0) >>= fun _ => b (⟨k0, b0⟩ : En) >>= fun q => liftO (pkD q.2.sl[i]?) >>= fun d => liftO (dGet d q.1) >>= fun o => .ok (o.getD .none, q.2)) := ap rfl
@[simp] theorem ePkG2_ap : ePkG2 i b c (⟨k0, b0⟩ : En) = (liftO (pkD k0[i]?) >>= fun d0 => liftO (unDc d0) >>= fun _ => b (⟨k0, b0⟩ : En) >>= fun q => c q.2 >>= fun r => liftO (pkD r.2.sl[i]?) >>= fun d => liftO (dGet d q.1) >>= fun o => .ok (o.getD r.1, r.2)) := ap rfl
@[simp] theorem ePkIdx_ap : ePkIdx i b (⟨k0, b0⟩ : En) = (liftO (pkD k0[i]?) >>= fun d0 => (match d0 with | .list _ => b (⟨k0, b0⟩ : En) | _ => .bad) >>= fun q => liftO (pkD q.2.sl[i]?) >>= fun d => liftO (dIndex d q.1) >>= fun z => .ok (z, q.2)) := ap rfl
@[simp] theorem sPutD_ap : sPutD i a b (⟨k0, b0⟩ : En) = (a (⟨k0, b0⟩ : En) >>= fun p => (match p.2.sl[i]? with | some (.od _ _) => b p.2 | _ => .bad) >>= fun q => match q.2.sl[i]? with
  | some (.od t es) => if keyOk t q.1 = true ∧ es.length < sizeLine then .ok (.nx (q.2.put i (.od t (putE es q.1 p.1)))) else .bad
  | _ => .bad) := ap rfl
@[simp] theorem sExt_ap : sExt i a (⟨k0, b0⟩ : En) = ((match k0[i]? with | some (.ow _) => a (⟨k0, b0⟩ : En) | _ => .bad) >>= fun p => match p.2.sl[i]?, p.1 with
  | some (.ow ds), .list zs => if ds.length + zs.length ≤ sizeLine then .ok (.nx (p.2.put i (.ow (ds ++ zs)))) else .bad
  | _, _ => .bad) := ap rfl
@[simp] theorem sAug_ap : sAug i f b (⟨k0, b0⟩ : En) = (match k0[i]? with
  | some (.fz d) => b (⟨k0, b0⟩ : En) >>= fun q => liftO (f d q.1) >>= fun z => .ok (.nx (q.2.put i (.fz z)))
  | _ => .bad) := ap rfl
@[simp] theorem sAugI_ap : sAugI i a f b (⟨k0, b0⟩ : En) = ((match k0[i]? with | some (.ow _) => a (⟨k0, b0⟩ : En) | _ => .bad) >>= fun q => match q.2.sl[i]?, asI q.1 with
  | some (.ow ds), some kk => if 0 ≤ kk then liftO (ds[kk.toNat]?) >>= fun d0 => b q.2 >>= fun r => (match r.2.sl[i]? with
      | some (.ow ds2) => if kk.toNat < ds2.length then liftO (f d0 r.1) >>= fun z => .ok (.nx (r.2.put i (.ow (ds2.set kk.toNat z)))) else .bad
      | _ => .bad) else .bad
  | _, _ => .bad) := ap rfl
@[simp] theorem eDc_ap : eDc own it g t kt a b (⟨k0, b0⟩ : En) = (it (⟨k0, b0⟩ : En) >>= fun q => if ownOk q.2 own = true then noEx (dcLoop own g t kt a b q.1 (q.2.wipe own) []) >>= fun r => .ok (dcD kt r.1, r.2.back q.2 own) else .bad) := ap rfl
theorem sTryR_ok {en : En} {o : Out} (h : S en = .ok o) : sTryR S cat T en = .ok o := by unfold sTryR; rw [h]
theorem sTryR_ex {en en' : En} {x : Str} {d : D} (h : S en = .ex x d en') : sTryR S cat T en = if cat x = true then T en' else .ex x d en' := by unfold sTryR; rw [h]
@[simp] theorem sTryR_ap : sTryR S cat T (⟨k0, b0⟩ : En) = (match S (⟨k0, b0⟩ : En) with
  | .ex c d en' => if cat c = true then T en' else .ex c d en'
  | .ok o => .ok o
  | .bad => .bad) := ap rfl
@[simp] theorem dIAdd_i {x y : Int} : dIAdd (.int x) (.int y) = some (.int (x + y)) := ap rfl
@[simp] theorem dISub_i {x y : Int} : dISub (.int x) (.int y) = some (.int (x - y)) := ap rfl
end
/-! ### while -/
theorem wGo_mono {t : DTt} {S : DSt} : ∀ {n m : Nat} {en : En} {r : Rs Out}, wGo t S n en = r → r ≠ .bad → n ≤ m → wGo t S m en = r
  | 0, m, en, r, h, hr, _ => absurd h.symm hr
  | n + 1, 0, en, r, _, _, l => by omega
  | n + 1, m + 1, en, r, h, hr, l => by
    unfold wGo at h ⊢
    cases e1 : t en with
    | bad => rw [e1] at h; exact absurd h.symm hr
    | ex c d en' => rw [e1] at h; exact h
    | ok p =>
      rw [e1] at h
      show (if p.1 = true then _ else _) = r
      have h : (if p.1 = true then _ else _) = r := h
      by_cases c : p.1 = true
      · rw [if_pos c] at h ⊢
        cases e2 : S p.2 with
        | bad => rw [e2] at h; exact absurd h.symm hr
        | ex c d en' => rw [e2] at h; exact h
        | ok o =>
          rw [e2] at h
          cases o with
          | nx en2 => exact wGo_mono (n := n) (m := m) h hr (by omega)
          | ct en2 => exact wGo_mono (n := n) (m := m) h hr (by omega)
          | bk en2 => exact h
          | rt v en2 => exact h
          | rn v en2 => exact h
      · rw [if_neg c] at h ⊢
        exact h
theorem sWhile_of {t : DTt} {S : DSt} {n : Nat} {en : En} {r : Rs Out} (h : wGo t S n en = r) (hr : r ≠ .bad) (hn : n ≤ sizeLine) : sWhile t S en = r := wGo_mono h hr hn
end DL

namespace DL
open PySem L2
section
variable {k0 k1 : List Sl} {b0 b1 : Int × Int} {i j n : Nat} {a b c : DEn} {t : DTt} {S T : DSt} {As : DAs} {tbl : List (Str × Nat × FnS)} {x : Str} {xs : List Str} {en : En}
@[simp] theorem eCallV_ap : eCallV i tbl As (⟨k0, b0⟩ : En) = (match k0[i]? with
  | some (.fu x) => (match tbl.lookup x with
    | some q => As (⟨k0, b0⟩ : En) >>= fun p => if p.1.length = q.1 then toRs (q.2 p.1 (0, 0)) (fun _ => p.2) else .bad
    | none => .bad)
  | _ => .bad) := ap rfl
@[simp] theorem sForFu_ap : sForFu i xs S (⟨k0, b0⟩ : En) = goFu i S xs (⟨k0, b0⟩ : En) := ap rfl
@[simp] theorem goFu_nil : goFu i S [] en = .ok (.nx en) := ap rfl
@[simp] theorem goFu_cons : goFu i S (x :: xs) (⟨k0, b0⟩ : En) = (S ((⟨k0, b0⟩ : En).put i (.fu x)) >>= fun o => match o with
  | .nx en2 => goFu i S xs en2
  | .ct en2 => goFu i S xs en2
  | .bk en2 => .ok (.nx en2)
  | .rt v en2 => .ok (.rt v en2)
  | .rn v en2 => .ok (.rn v en2)) := ap rfl
@[simp] theorem sIns_ap : sIns i a b (⟨k0, b0⟩ : En) = ((match k0[i]? with | some (.ow _) => a (⟨k0, b0⟩ : En) | _ => .bad) >>= fun p => b p.2 >>= fun q => match q.2.sl[i]?, asI p.1 with
  | some (.ow ds), some j => if ds.length < sizeLine ∧ 0 ≤ j ∧ j < 2 ^ 63 then .ok (.nx (q.2.put i (.ow (ds.take j.toNat ++ [q.1] ++ ds.drop j.toNat)))) else .bad
  | _, _ => .bad) := ap rfl
end
end DL

namespace DL
open PySem L2 PySem.Spec PyProof.Rows
/-! ### list(range(lo, hi)), tuple(range(lo, hi)) -/
def rgFit2 (a b : Int) : Bool := decide (0 ≤ a) && (decide (a ≤ 16777216) && rgFit b)
theorem rgFit2_ok {a b : Int} (h : rgFit2 a b = true) : RgOk a b ∧ (rgV a b).length ≤ sizeLine := by
  unfold rgFit2 rgFit at h
  simp only [Bool.and_eq_true, decide_eq_true_eq] at h
  have o : RgOk a b := .of_le h.1 h.2.2.1 h.2.1 h.2.2.2
  exact ⟨o, by rw [rgV_length]; exact Nat.le_trans o.2.2.2.2 (by decide)⟩
def eTupRg2 (a b : DEn) : DEn := fun en => a en >>= fun p => b p.2 >>= fun q => liftO (asI p.1) >>= fun n => liftO (asI q.1) >>= fun m => if rgFit2 n m = true then .ok (.tuple (rgD n (m - n).toNat), q.2) else .bad
def nLstRg2 (a b : DEn) : DNl := fun en => a en >>= fun p => b p.2 >>= fun q => liftO (asI p.1) >>= fun n => liftO (asI q.1) >>= fun m => if rgFit2 n m = true then .ok (rgD n (m - n).toNat, q.2) else .bad
theorem rgV_rd2 {K : Fg} {H : Hp} {O : AS} {n m : Int} : RDs K H O (rgV n m) (rgD n (m - n).toNat) := by
  have e1 : rgV n m = ((List.range (m - n).toNat).map fun i => n + (i : Nat)).map V.int := by
    unfold rgV
    rw [List.map_map]
    rfl
  have e2 : rgD n (m - n).toNat = ((List.range (m - n).toNat).map fun i => n + (i : Nat)).map PyData.int := by
    unfold rgD
    rw [List.map_map]
    rfl
  rw [e1, e2]
  exact rds_ints _
section
variable {X : Cx} {G : Gh} {W : WX} {k : Nat} {pos : Pos} {a b : Expr} {A B : DEn}
theorem de_tupRg2 {p p2 pos2 : Pos} (hc : X.calm = true) (hg : Gl X "tuple") (hm : X.mg "tuple" = none) (hg2 : Gl X "range") (hm2 : X.mg "range" = none) (ha : DE X G W a A) (hb : DE X G W b B) (n0 : starEach [a, b] X.env = (false, eval a X.env) :: starEach [b] X.env := by rfl) (n1 : starEach [b] X.env = (false, eval b X.env) :: starEach [] X.env := by rfl) (hpl : (backTo pos2 (starEach [b] X.env)).any (·.1) = false := by rfl)
    (n2 : starEach [.Call (.Name "range" p2) [a, b] [] pos2] X.env = (false, eval (.Call (.Name "range" p2) [a, b] [] pos2) X.env) :: starEach [] X.env := by rfl) : DE X G W (.Call (.Name "tuple" p) [.Call (.Name "range" p2) [a, b] [] pos2] [] pos) (eTupRg2 A B) :=
  ⟨pe_imp (pe_tupRg hc hg hm (prg_2 hg2 hm2 ha.pe hb.pe n0 n1 hpl) n2) fun σ H Q ⟨en, M, Bx, rel, m⟩ => ⟨en, M, Bx, rel, Post.imp (post_bind.mp m) (fun q mq v H1 M1 rel1 st1 rd1 => ⟨q.2, M1, Bx, rel1, Post.imp (post_bind.mp mq) (fun r mr w H2 M2 rel2 st2 rd2 => by
    obtain ⟨n, hn, mn⟩ := post_lift.mp mr
    obtain ⟨m, hm, mz⟩ := post_lift.mp mn
    split at mz
    · rename_i hf
      obtain ⟨o1, o2⟩ := rgFit2_ok hf
      refine ⟨n, m, by rw [asI_rd rd1 hn], by rw [asI_rd rd2 hm], o1, fun x hx => ?_⟩
      exact mz (.ref x) _ M2 (rel2.ext (ext_new hx)) ((st1.trans st2).trans (.ext (ext_new hx))) (new_tup rel2.avh rgV_rd2 o2 hx)
    · exact mz.elim) fun _ _ _ h => h.step st1⟩) fun _ _ _ h => h⟩⟩
theorem dn_listRg2 {p p2 pos2 : Pos} (hc : X.calm = true) (hg : Gl X "list") (hm : X.mg "list" = none) (hg2 : Gl X "range") (hm2 : X.mg "range" = none) (ha : DE X G W a A) (hb : DE X G W b B) (n0 : starEach [a, b] X.env = (false, eval a X.env) :: starEach [b] X.env := by rfl) (n1 : starEach [b] X.env = (false, eval b X.env) :: starEach [] X.env := by rfl) (hpl : (backTo pos2 (starEach [b] X.env)).any (·.1) = false := by rfl)
    (n2 : starEach [.Call (.Name "range" p2) [a, b] [] pos2] X.env = (false, eval (.Call (.Name "range" p2) [a, b] [] pos2) X.env) :: starEach [] X.env := by rfl) : DN X G W (.Call (.Name "list" p) [.Call (.Name "range" p2) [a, b] [] pos2] [] pos) (nLstRg2 A B) :=
  ⟨pe_imp (pe_listRg hc hg hm (prg_2 hg2 hm2 ha.pe hb.pe n0 n1 hpl) n2) fun σ H Q ⟨en, M, Bx, rel, m⟩ => ⟨en, M, Bx, rel, Post.imp (post_bind.mp m) (fun q mq v H1 M1 rel1 st1 rd1 => ⟨q.2, M1, Bx, rel1, Post.imp (post_bind.mp mq) (fun r mr w H2 M2 rel2 st2 rd2 => by
    obtain ⟨n, hn, mn⟩ := post_lift.mp mr
    obtain ⟨m, hm, mz⟩ := post_lift.mp mn
    split at mz
    · rename_i hf
      obtain ⟨o1, o2⟩ := rgFit2_ok hf
      refine ⟨n, m, by rw [asI_rd rd1 hn], by rw [asI_rd rd2 hm], o1, fun x hx => ?_⟩
      obtain ⟨r3, s3, o⟩ := own_new rel2 hx o2 rgV_rd2
      exact mz x _ _ _ r3 ((st1.trans st2).trans s3) o
    · exact mz.elim) fun _ _ _ h => h.step st1⟩) fun _ _ _ h => h⟩⟩
end
section
variable {k0 : List Sl} {b0 : Int × Int} {a b : DEn} {ts : List DTt} {t : DTt} {en : En} {S : DSt} {i j : Nat} {tf : D → Option D} {sb : Str → Str → Bool} {hs : List HdT} {DUE A : DEn} {As : List DEn}
@[simp] theorem eTupRg2_ap : eTupRg2 a b (⟨k0, b0⟩ : En) = (a (⟨k0, b0⟩ : En) >>= fun p => b p.2 >>= fun q => liftO (asI p.1) >>= fun n => liftO (asI q.1) >>= fun m => if rgFit2 n m = true then .ok (.tuple (rgD n (m - n).toNat), q.2) else .bad) := ap rfl
@[simp] theorem nLstRg2_ap : nLstRg2 a b (⟨k0, b0⟩ : En) = (a (⟨k0, b0⟩ : En) >>= fun p => b p.2 >>= fun q => liftO (asI p.1) >>= fun n => liftO (asI q.1) >>= fun m => if rgFit2 n m = true then .ok (rgD n (m - n).toNat, q.2) else .bad) := ap rfl
@[simp] theorem eNoAt_ap : eNoAt j a (⟨k0, b0⟩ : En) = (a (⟨k0, b0⟩ : En) >>= fun p => match p.2.sl[j]? with
  | some .no => .ok p
  | _ => .bad) := ap rfl
@[simp] theorem askLoop_nil {own : List Nat} : askLoop own [] en = .ok en := ap rfl
@[simp] theorem askLoop_cons {own : List Nat} : askLoop own (t :: ts) en = (t en >>= fun p => if p.1 = true then .bad else askLoop own ts (p.2.wipe own)) := ap rfl
@[simp] theorem tests_nil : tests j tf sb hs DUE [] = [] := ap rfl
@[simp] theorem tests_cons : tests j tf sb hs DUE (A :: As) = tAsk j tf sb hs DUE A :: tests j tf sb hs DUE As := ap rfl
@[simp] theorem sKeep_ap : sKeep i S (⟨k0, b0⟩ : En) = if i < k0.length then S ((⟨k0, b0⟩ : En).put i .no) else .bad := ap rfl
@[simp] theorem sAskN_ap : sAskN j ts (⟨k0, b0⟩ : En) = (askAll j ts (⟨k0, b0⟩ : En) >>= fun e => .ok (.nx e)) := ap rfl
@[simp] theorem sAskR_ap : sAskR j ts (⟨k0, b0⟩ : En) = (askAll j ts (⟨k0, b0⟩ : En) >>= fun e => .ok (.rt (.bool true) e)) := ap rfl
@[simp] theorem askAll_ap : askAll j ts (⟨k0, b0⟩ : En) = if ownOk (⟨k0, b0⟩ : En) [j] = true ∧ j < k0.length then noEx (askLoop [j] ts ((⟨k0, b0⟩ : En).wipe [j])) >>= fun e => .ok (e.back (⟨k0, b0⟩ : En) [j]) else .bad := ap rfl
@[simp] theorem tAsk_ap : tAsk j tf sb hs DUE A (⟨k0, b0⟩ : En) = (tV (eBin dNe (eNoAt j (eHeard tf sb hs A)) DUE)) (⟨k0, b0⟩ : En) := ap rfl
end
end DL

namespace DL
open PySem L2
/-! ### loops and comprehensions, read -/
section
variable {k0 k1 : List Sl} {b0 b1 : Int × Int} {i v : Nat} {vs own : List Nat} {s : Sl} {k : List Sl}
@[simp] theorem wipe_nil : (⟨k0, b0⟩ : En).wipe [] = ⟨k0, b0⟩ := ap rfl
@[simp] theorem wipe_cons : (⟨k0, b0⟩ : En).wipe (v :: vs) = ((⟨k0, b0⟩ : En).wipe vs).put v .no := ap rfl
@[simp] theorem back_nil : (⟨k0, b0⟩ : En).back ⟨k1, b1⟩ [] = ⟨k0, b0⟩ := ap rfl
@[simp] theorem back_cons : (⟨k0, b0⟩ : En).back ⟨k1, b1⟩ (v :: vs) = ((⟨k0, b0⟩ : En).back ⟨k1, b1⟩ vs).put v (k1.getD v .no) := ap rfl
def ownS (k : List Sl) (own : List Nat) : Bool := own.all fun i => match k[i]? with | some (.ow _) => false | some (.od _ _) => false | some .bx => false | _ => true
@[simp] theorem ownOk_ap : ownOk (⟨k0, b0⟩ : En) own = ownS k0 own := ap rfl
@[simp] theorem ownS_nil : ownS k0 [] = true := ap rfl
@[simp] theorem ownS_cons : ownS k0 (v :: vs) = ((match k0[v]? with | some (.ow _) => false | some (.od _ _) => false | some .bx => false | _ => true) && ownS k0 vs) := ap rfl
/-- a loop: the invariant holds behind it -/
theorem loop_inv {g : DGt} {S : DSt} (I : En → Prop) : ∀ {ds : List D} {en : En}, I en → (∀ d ∈ ds, ∀ e, I e → ∃ e1, g d e = some e1 ∧ ∃ e2, (S e1 = .ok (.nx e2) ∨ S e1 = .ok (.ct e2)) ∧ I e2) → ∃ e2, sLoop g S ds en = .ok (.nx e2) ∧ I e2
  | [], en, h0, _ => ⟨en, rfl, h0⟩
  | d :: ds, en, h0, hs => by
    obtain ⟨e1, h1, e2, h2, h3⟩ := hs d List.mem_cons_self en h0
    obtain ⟨e3, h4, h5⟩ := loop_inv I (ds := ds) h3 fun d' hd => hs d' (List.mem_cons_of_mem _ hd)
    refine ⟨e3, ?_, h5⟩
    rcases h2 with h2 | h2 <;> simp [sLoop, h1, h2, h4]
theorem loop_invN {g : DGt} {S : DSt} : ∀ {ds : List D} (I : Nat → En → Prop) {en : En}, I 0 en → (∀ k d, ds[k]? = some d → ∀ e, I k e → ∃ e1, g d e = some e1 ∧ ∃ e2, (S e1 = .ok (.nx e2) ∨ S e1 = .ok (.ct e2)) ∧ I (k + 1) e2) → ∃ e2, sLoop g S ds en = .ok (.nx e2) ∧ I ds.length e2
  | [], I, en, h0, _ => ⟨en, rfl, h0⟩
  | d :: ds, I, en, h0, hs => by
    obtain ⟨e1, h1, e2, h2, h3⟩ := hs 0 d rfl en h0
    obtain ⟨e3, h4, h5⟩ := loop_invN (fun k => I (k + 1)) (ds := ds) h3 fun k d' hd e he => hs (k + 1) d' (by simpa using hd) e he
    refine ⟨e3, ?_, h5⟩
    rcases h2 with h2 | h2 <;> simp [sLoop, h1, h2, h4]
/-- a loop whose end is known turn by turn -/
theorem loop_fold {σ : Type} {g : DGt} {S : DSt} (st : σ → En) (f : σ → D → σ) : ∀ {ds : List D} {z : σ}, (∀ d ∈ ds, ∀ z, ∃ e1, g d (st z) = some e1 ∧ (S e1 = .ok (.nx (st (f z d))) ∨ S e1 = .ok (.ct (st (f z d))))) → sLoop g S ds (st z) = .ok (.nx (st (ds.foldl f z)))
  | [], z, _ => rfl
  | d :: ds, z, hs => by
    obtain ⟨e1, h1, h2⟩ := hs d List.mem_cons_self z
    have ih := loop_fold st f (ds := ds) (z := f z d) fun d' hd => hs d' (List.mem_cons_of_mem _ hd)
    rcases h2 with h2 | h2 <;> simp [sLoop, h1, h2, ih]
/-- a comprehension of draws -/
theorem comp_inv {own : List Nat} {g : DGt} {t : DTt} {A : DEn} {k0 : List Sl} (Pv : D → Prop) : ∀ {ds acc : List D} {b : Int × Int}, (∀ d ∈ ds, ∀ b, ∃ k1, g d ⟨k0, b⟩ = some ⟨k1, b⟩ ∧ (∀ b, (⟨k1, b⟩ : En).wipe own = ⟨k0, b⟩) ∧ ∃ p b1, t ⟨k1, b⟩ = .ok (p, ⟨k1, b1⟩) ∧
      (p = true → ∃ v b2, A ⟨k1, b1⟩ = .ok (v, ⟨k1, b2⟩) ∧ Pv v)) → acc.length + ds.length ≤ sizeLine →
    ∃ zs b', cLoop own g t A ds ⟨k0, b⟩ acc = .ok (acc ++ zs, ⟨k0, b'⟩) ∧ (∀ z ∈ zs, Pv z) ∧ zs.length ≤ ds.length
  | [], acc, b, _, _ => ⟨[], b, by simp [cLoop], by simp, Nat.le_refl _⟩
  | d :: ds, acc, b, h, hl => by
    obtain ⟨k1, h1, hw, p, b1, h2, h3⟩ := h d List.mem_cons_self b
    rw [List.length_cons] at hl
    have ih := fun acc b => comp_inv (acc := acc) (b := b) Pv (fun d' hd => h d' (List.mem_cons_of_mem _ hd))
    by_cases c : p = true
    · obtain ⟨v, b2, h4, h5⟩ := h3 c
      obtain ⟨zs, b', e, e1, e2⟩ := ih (acc ++ [v]) b2 (by rw [List.length_append, List.length_singleton]; omega)
      refine ⟨v :: zs, b', ?_, fun z hz => (List.mem_cons.mp hz).elim (fun q => by rw [q]; exact h5) (e1 z), by rw [List.length_cons, List.length_cons]; omega⟩
      have hlt : acc.length < sizeLine := by omega
      simp [cLoop, h1, h2, c, h4, hw, e, hlt]
    · obtain ⟨zs, b', e, e1, e2⟩ := ih acc b1 (by omega)
      refine ⟨zs, b', ?_, e1, by rw [List.length_cons]; omega⟩
      simp [cLoop, h1, h2, c, hw, e]
/-- the same where every turn gives an item -/
theorem comp_invT {own : List Nat} {g : DGt} {A : DEn} {k0 : List Sl} (Pv : D → Prop) : ∀ {ds acc : List D} {b : Int × Int}, (∀ d ∈ ds, ∀ b, ∃ k1, g d ⟨k0, b⟩ = some ⟨k1, b⟩ ∧ (∀ b, (⟨k1, b⟩ : En).wipe own = ⟨k0, b⟩) ∧ ∃ v b2, A ⟨k1, b⟩ = .ok (v, ⟨k1, b2⟩) ∧ Pv v) → acc.length + ds.length ≤ sizeLine →
    ∃ zs b', cLoop own g tTrue A ds ⟨k0, b⟩ acc = .ok (acc ++ zs, ⟨k0, b'⟩) ∧ (∀ z ∈ zs, Pv z) ∧ zs.length = ds.length
  | [], acc, b, _, _ => ⟨[], b, by simp [cLoop], by simp, rfl⟩
  | d :: ds, acc, b, h, hl => by
    obtain ⟨k1, h1, hw, v, b2, h4, h5⟩ := h d List.mem_cons_self b
    rw [List.length_cons] at hl
    obtain ⟨zs, b', e, e1, e2⟩ := comp_invT (acc := acc ++ [v]) (b := b2) Pv (fun d' hd => h d' (List.mem_cons_of_mem _ hd)) (by rw [List.length_append, List.length_singleton]; omega)
    refine ⟨v :: zs, b', ?_, fun z hz => (List.mem_cons.mp hz).elim (fun q => by rw [q]; exact h5) (e1 z), by rw [List.length_cons, List.length_cons]; omega⟩
    have hlt : acc.length < sizeLine := by omega
    simp [cLoop, h1, h4, hw, e, hlt]
/-- a comprehension of known values -/
theorem comp_map {own : List Nat} {g : DGt} {t : DTt} {A : DEn} {k0 : List Sl} {b : Int × Int} (p : D → Bool) (f : D → D) : ∀ {ds acc : List D}, (∀ d ∈ ds, ∃ k1, g d ⟨k0, b⟩ = some ⟨k1, b⟩ ∧ (⟨k1, b⟩ : En).wipe own = ⟨k0, b⟩ ∧ t ⟨k1, b⟩ = .ok (p d, ⟨k1, b⟩) ∧
      (p d = true → A ⟨k1, b⟩ = .ok (f d, ⟨k1, b⟩))) → acc.length + ds.length ≤ sizeLine → cLoop own g t A ds ⟨k0, b⟩ acc = .ok (acc ++ (ds.filter p).map f, ⟨k0, b⟩)
  | [], acc, _, _ => by simp [cLoop]
  | d :: ds, acc, h, hl => by
    obtain ⟨k1, h1, hw, h2, h3⟩ := h d List.mem_cons_self
    rw [List.length_cons] at hl
    have ih := fun acc => comp_map (acc := acc) p f (fun d' hd => h d' (List.mem_cons_of_mem _ hd))
    by_cases c : p d = true
    · have e := ih (acc ++ [f d]) (by rw [List.length_append, List.length_singleton]; omega)
      have hlt : acc.length < sizeLine := by omega
      simp [cLoop, h1, h2, c, h3 c, hw, e, hlt]
    · have e := ih acc (by omega)
      simp [cLoop, h1, h2, c, hw, e]
theorem comp_mapT {own : List Nat} {g : DGt} {A : DEn} {k0 : List Sl} {b : Int × Int} (f : D → D) {ds acc : List D} (h : ∀ d ∈ ds, ∃ k1, g d ⟨k0, b⟩ = some ⟨k1, b⟩ ∧ (⟨k1, b⟩ : En).wipe own = ⟨k0, b⟩ ∧ A ⟨k1, b⟩ = .ok (f d, ⟨k1, b⟩)) (hl : acc.length + ds.length ≤ sizeLine) :
    cLoop own g tTrue A ds ⟨k0, b⟩ acc = .ok (acc ++ ds.map f, ⟨k0, b⟩) := by
  have e := comp_map (t := tTrue) (fun _ => true) f (ds := ds) (acc := acc) (b := b) (k0 := k0) (own := own) (g := g) (A := A) (fun d hd => by
    obtain ⟨k1, h1, h2, h3⟩ := h d hd
    exact ⟨k1, h1, h2, rfl, fun _ => h3⟩) hl
  rw [e, List.filter_eq_self.mpr fun _ _ => rfl]
theorem rg_mem {n : Nat} {d : D} (h : d ∈ rgD 0 n) : ∃ i : Nat, i < n ∧ d = .int (i : Nat) := by
  unfold rgD at h
  obtain ⟨i, hi, e⟩ := List.mem_map.mp h
  exact ⟨i, List.mem_range.mp hi, by rw [← e, Int.zero_add]⟩
theorem rg_len {lo : Int} {n : Nat} : (rgD lo n).length = n := by unfold rgD; rw [List.length_map, List.length_range]
theorem atI_ok {α : Type} {xs : List α} {i : Int} (h0 : 0 ≤ i) (h1 : i < xs.length) : L2.atI xs i = xs[i.toNat]? := by
  simp [L2.atI, ixN, h0, h1]
theorem atI_natE {α : Type} {xs : List α} {i : Nat} : L2.atI xs (i : Nat) = xs[i]? := by
  by_cases h : i < xs.length
  · rw [atI_ok (by omega) (by omega)]
    rfl
  · rw [List.getElem?_eq_none (by omega)]
    simp [L2.atI, ixN, h]
theorem atI_some {α : Type} {xs : List α} {i : Int} (h0 : 0 ≤ i) (h1 : i < xs.length) : ∃ x, L2.atI xs i = some x ∧ x ∈ xs := by
  have hj : i.toNat < xs.length := by omega
  exact ⟨xs[i.toNat], by rw [atI_ok h0 h1, List.getElem?_eq_getElem hj], List.getElem_mem _⟩
theorem size_small {n : Nat} (h : n ≤ 1000) : n ≤ sizeLine := Nat.le_trans h (by decide)
end
end DL

namespace DL
open PySem L2
/-! ### texts -/
def tx (i : Int) : Str := toString i
theorem join_nil {s : Str} : Txt.join s [] = "" := rfl
theorem join_one {s a : Str} : Txt.join s [a] = a := rfl
theorem join_eq {s : Str} {l : List Str} : Txt.join s l = Str.join s l := StrLaws.glued_eq_join s l
theorem join_two {s a b : Str} {l : List Str} : Txt.join s (a :: b :: l) = a ++ s ++ Txt.join s (b :: l) := by rw [join_eq, join_eq]; rfl
theorem join_len {s : Str} {l : List Str} {c k n : Nat} (h : ∀ y ∈ l, y.length ≤ k) (hc : l.length ≤ c) (hs : s.length ≤ n) : (l.map (·.length)).sum + l.length * s.length ≤ c * (k + n) ∧ (Txt.join s l).length ≤ c * (k + n) := by
  have h1 : (l.map (·.length)).sum ≤ l.length * k := by
    clear hc
    induction l with
    | nil => exact Nat.zero_le _
    | cons x r ih =>
      rw [List.map_cons, List.sum_cons, List.length_cons, Nat.succ_mul]
      have a1 := ih fun y hy => h y (List.mem_cons_of_mem _ hy)
      have a2 := h x List.mem_cons_self
      omega
  have h2 : l.length * s.length ≤ l.length * n := Nat.mul_le_mul_left _ hs
  have h3 : l.length * (k + n) ≤ c * (k + n) := Nat.mul_le_mul_right _ hc
  rw [Nat.mul_add] at h3
  have h4 := StrLaws.join_length_le s l
  rw [← join_eq] at h4
  omega
theorem all_strs : ∀ ys : List Str, allO asS (ys.map .str) = some ys
  | [] => rfl
  | y :: ys => by
    have ih := all_strs ys
    show ((asS (.str y)).bind fun a => (allO asS (ys.map .str)).map fun r => a :: r) = _
    rw [ih]
    rfl
theorem joinD {s : Str} {ys : List Str} (h : (ys.map (·.length)).sum + ys.length * s.length ≤ 16777216) : dJoin (.str s) [.list (ys.map .str)] = some (.str (Txt.join s ys)) := by
  simp only [dJoin]
  rw [all_strs]
  exact if_pos h
theorem joinD' {s : Str} {ys : List Str} {ds : List D} (e : ds = ys.map .str) (h : (ys.map (·.length)).sum + ys.length * s.length ≤ 16777216) : dJoin (.str s) [.list ds] = some (.str (Txt.join s ys)) := by
  rw [e]; exact joinD h
/-- data that str shows -/
inductive Texts : List D → List Str → Prop
  | nil : Texts [] []
  | cons {d : D} {y : Str} {ds : List D} {ys : List Str} : dStr [d] = some (.str y) → Texts ds ys → Texts (d :: ds) (y :: ys)
theorem Texts.map {ds : List D} {ys : List Str} (h : Texts ds ys) : (ds.map fun d => (dStr [d]).getD .none) = ys.map .str := by
  induction h with
  | nil => rfl
  | cons h _ ih => rw [List.map_cons, List.map_cons, ih, h]; rfl
theorem Texts.each {ds : List D} {ys : List Str} (h : Texts ds ys) : ∀ d ∈ ds, ∃ y, dStr [d] = some (.str y) := by
  induction h with
  | nil => intro d hd; cases hd
  | cons h _ ih => exact fun d hd => (List.mem_cons.mp hd).elim (fun q => by rw [q]; exact ⟨_, h⟩) (ih d)
theorem Texts.len {ds : List D} {ys : List Str} (h : Texts ds ys) : ds.length = ys.length := by
  induction h with
  | nil => rfl
  | cons _ _ ih => rw [List.length_cons, List.length_cons, ih]
theorem texts_of {α : Type} {f : α → D} {g : α → Str} : ∀ {l : List α}, (∀ a ∈ l, dStr [f a] = some (.str (g a))) → Texts (l.map f) (l.map g)
  | [], _ => .nil
  | a :: l, h => .cons (h a List.mem_cons_self) (texts_of fun b hb => h b (List.mem_cons_of_mem _ hb))
theorem dStr_tx {i : Int} (h : i.natAbs < 2 ^ 60) : dStr [.int i] = some (.str (tx i)) := by
  simp [h, tx]
theorem list_of {α : Type} {f : α → D} {P : α → Prop} {ds : List D} (h : ∀ d ∈ ds, ∃ a, d = f a ∧ P a) : ∃ l : List α, ds = l.map f ∧ ∀ a ∈ l, P a := by
  induction ds with
  | nil => exact ⟨[], rfl, by simp⟩
  | cons d ds ih =>
    obtain ⟨i, rfl, hi⟩ := h d List.mem_cons_self
    obtain ⟨ns, e, hn⟩ := ih fun d' hd => h d' (List.mem_cons_of_mem _ hd)
    exact ⟨i :: ns, by rw [e]; rfl, fun n hm => (List.mem_cons.mp hm).elim (fun q => by rw [q]; exact hi) (hn n)⟩
theorem tx_len {i : Int} (h0 : 0 ≤ i) (h : i < 1000) : (tx i).length ≤ 3 := by
  obtain ⟨n, rfl⟩ : ∃ n : Nat, i = n := ⟨i.toNat, by omega⟩
  have h1 : n < 1000 := by omega
  have key : ∀ n : Fin 1000, (tx ((n : Nat) : Int)).length ≤ 3 := by decide +kernel
  exact key ⟨n, h1⟩
theorem tx_pos {i : Int} (h0 : 0 ≤ i) (h : i < 1000) : 1 ≤ (tx i).length := by
  obtain ⟨n, rfl⟩ : ∃ n : Nat, i = n := ⟨i.toNat, by omega⟩
  have h1 : n < 1000 := by omega
  have key : ∀ n : Fin 1000, 1 ≤ (tx ((n : Nat) : Int)).length := by decide +kernel
  exact key ⟨n, h1⟩
/-! ### sorting -/
theorem srt_int (l : List Int) : srtOk (l.map .int) = true := by
  simp [srtOk, PySem.W.alike, noTuple, PyData.depth]
theorem srt_str (l : List Str) : srtOk (l.map .str) = true := by
  simp [srtOk, PySem.W.alike, noTuple, PyData.depth]
theorem srt_pair (l : List (Int × Int)) : srtOk (l.map fun p => .tuple [.int p.1, .int p.2]) = true := by
  simp [srtOk, PySem.W.alike, PySem.W.alikeAll, nonEmptyT, PyData.depth, PyData.depthAll]
def iLe (a b : Int) : Bool := dle (.int a) (.int b)
theorem sorted_map {α : Type} {f : α → D} {r : α → α → Bool} (h : ∀ a b, r a b = dle (f a) (f b)) (l : List α) (ok : srtOk (l.map f) = true) : dSorted [.list (l.map f)] = some (.list ((l.mergeSort r).map f)) := by
  have e : dSorted [.list (l.map f)] = if srtOk (l.map f) = true then some (.list ((l.map f).mergeSort dle)) else none := rfl
  rw [e, if_pos ok, List.map_mergeSort fun a _ b _ => h a b]
theorem sorted_mapM {α : Type} {f : α → D} {r : α → α → Bool} (l : List α) (h : ∀ a ∈ l, ∀ b ∈ l, r a b = dle (f a) (f b)) (ok : srtOk (l.map f) = true) : dSorted [.list (l.map f)] = some (.list ((l.mergeSort r).map f)) := by
  have e : dSorted [.list (l.map f)] = if srtOk (l.map f) = true then some (.list ((l.map f).mergeSort dle)) else none := rfl
  rw [e, if_pos ok, List.map_mergeSort h]
theorem sort_int (l : List Int) : dSorted [.list (l.map .int)] = some (.list ((l.mergeSort iLe).map .int)) := sorted_map (fun _ _ => rfl) l (srt_int l)
def pLe (a b : Int × Int) : Bool := dle (.tuple [.int a.1, .int a.2]) (.tuple [.int b.1, .int b.2])
theorem sort_pair (l : List (Int × Int)) : dSorted [.list (l.map fun p => .tuple [.int p.1, .int p.2])] = some (.list ((l.mergeSort pLe).map fun p => .tuple [.int p.1, .int p.2])) := sorted_map (fun _ _ => rfl) l (srt_pair l)
/-! ### over typed lists -/
theorem comp_mapA {α : Type} {own : List Nat} {g : DGt} {t : DTt} {A : DEn} {k0 : List Sl} {b : Int × Int} (e : α → D) (p : α → Bool) (f : α → D) : ∀ {l : List α} {acc : List D}, (∀ a ∈ l, ∃ k1, g (e a) ⟨k0, b⟩ = some ⟨k1, b⟩ ∧ (⟨k1, b⟩ : En).wipe own = ⟨k0, b⟩ ∧ t ⟨k1, b⟩ = .ok (p a, ⟨k1, b⟩) ∧
      (p a = true → A ⟨k1, b⟩ = .ok (f a, ⟨k1, b⟩))) → acc.length + l.length ≤ sizeLine → cLoop own g t A (l.map e) ⟨k0, b⟩ acc = .ok (acc ++ (l.filter p).map f, ⟨k0, b⟩)
  | [], acc, _, _ => by simp [cLoop]
  | d :: ds, acc, h, hl => by
    obtain ⟨k1, h1, hw, h2, h3⟩ := h d List.mem_cons_self
    rw [List.length_cons] at hl
    have ih := fun acc => comp_mapA (acc := acc) e p f (fun d' hd => h d' (List.mem_cons_of_mem _ hd))
    by_cases c : p d = true
    · have e := ih (acc ++ [f d]) (by rw [List.length_append, List.length_singleton]; omega)
      have hlt : acc.length < sizeLine := by omega
      simp [cLoop, h1, h2, c, h3 c, hw, e, hlt]
    · have e := ih acc (by omega)
      simp [cLoop, h1, h2, c, hw, e]
theorem comp_mapL {α : Type} {own : List Nat} {g : DGt} {t : DTt} {A : DEn} {k0 : List Sl} {b : Int × Int} (e : α → D) (p : α → Bool) (f : α → D) {l : List α} (hl : l.length ≤ 1000) (h : ∀ a ∈ l, ∃ k1, g (e a) ⟨k0, b⟩ = some ⟨k1, b⟩ ∧ (⟨k1, b⟩ : En).wipe own = ⟨k0, b⟩ ∧ t ⟨k1, b⟩ = .ok (p a, ⟨k1, b⟩) ∧
      (p a = true → A ⟨k1, b⟩ = .ok (f a, ⟨k1, b⟩))) : cLoop own g t A (l.map e) ⟨k0, b⟩ [] = .ok ((l.filter p).map f, ⟨k0, b⟩) := comp_mapA (acc := []) e p f h (by rw [List.length_nil, Nat.zero_add]; exact size_small hl)
theorem comp_mapLT {α : Type} {own : List Nat} {g : DGt} {A : DEn} {k0 : List Sl} {b : Int × Int} (e : α → D) (f : α → D) {l : List α} (hl : l.length ≤ 1000) (h : ∀ a ∈ l, ∃ k1, g (e a) ⟨k0, b⟩ = some ⟨k1, b⟩ ∧ (⟨k1, b⟩ : En).wipe own = ⟨k0, b⟩ ∧ A ⟨k1, b⟩ = .ok (f a, ⟨k1, b⟩)) :
    cLoop own g tTrue A (l.map e) ⟨k0, b⟩ [] = .ok (l.map f, ⟨k0, b⟩) := by
  have z := comp_mapL (own := own) (g := g) (t := tTrue) (A := A) (k0 := k0) (b := b) e (fun _ => true) f hl fun a ha => by
    obtain ⟨k1, h1, h2, h3⟩ := h a ha
    exact ⟨k1, h1, h2, rfl, fun _ => h3⟩
  rw [z, List.filter_eq_self.mpr fun _ _ => rfl]
theorem loop_foldL {α σ : Type} {g : DGt} {S : DSt} (e : α → D) (st : σ → En) (f : σ → α → σ) : ∀ {l : List α} {z : σ}, (∀ a ∈ l, ∀ z, ∃ e1, g (e a) (st z) = some e1 ∧ S e1 = .ok (.nx (st (f z a)))) → sLoop g S (l.map e) (st z) = .ok (.nx (st (l.foldl f z)))
  | [], z, _ => rfl
  | d :: ds, z, hs => by
    obtain ⟨e1, h1, h2⟩ := hs d List.mem_cons_self z
    have ih := loop_foldL e st f (l := ds) (z := f z d) fun d' hd => hs d' (List.mem_cons_of_mem _ hd)
    simp [sLoop, h1, h2, ih]
theorem rg_map {n : Nat} : rgD 0 n = (List.range n).map fun i => .int (i : Nat) := by
  unfold rgD
  simp
end DL

namespace DL
open PySem L2
/-! ### data that repr and == take -/
/-- depth at most n, weight at most m, nothing odd within -/
structure Okd (n m : Nat) (d : D) : Prop where
  lay : d.canLay0 = true
  sho : d.showable = true
  dep : d.depth ≤ n
  wei : d.weight ≤ m
  lev : d.leavesShort 640 = true
structure Okds (n m : Nat) (ds : List D) : Prop where
  lay : PyData.canLayAll0 ds = true
  sho : PyData.showableAll ds = true
  dep : PyData.depthAll ds ≤ n
  wei : PyData.weightAll ds ≤ m
  lev : PyData.leavesShortAll 640 ds = true
section
variable {n m n' m' k : Nat} {d : D} {ds es : List D}
theorem Okd.mono (h : Okd n m d) (hn : n ≤ n' := by omega) (hm : m ≤ m' := by omega) : Okd n' m' d := ⟨h.lay, h.sho, Nat.le_trans h.dep hn, Nat.le_trans h.wei hm, h.lev⟩
theorem Okds.mono (h : Okds n m ds) (hn : n ≤ n' := by omega) (hm : m ≤ m' := by omega) : Okds n' m' ds := ⟨h.lay, h.sho, Nat.le_trans h.dep hn, Nat.le_trans h.wei hm, h.lev⟩
theorem Okd.none : Okd 0 0 .none := ⟨rfl, rfl, Nat.le_refl _, Nat.le_refl _, rfl⟩
theorem Okd.bool (b : Bool) : Okd 0 0 (.bool b) := ⟨rfl, rfl, Nat.le_refl _, Nat.le_refl _, rfl⟩
theorem Okd.int {i : Int} {b : Nat} (h : i.natAbs < 2 ^ b) (hb : b ≤ 1900 := by decide) : Okd 0 b (.int i) := by
  have hl : i.natAbs.log2 < 1920 ∧ (i ≠ 0 → i.natAbs.log2 < b) := by
    by_cases z : i = 0
    · subst z
      exact ⟨by decide, fun q => absurd rfl q⟩
    · have := (Nat.log2_lt (by omega)).mpr h
      exact ⟨by omega, fun _ => this⟩
  refine ⟨rfl, by simp [PyData.showable, hl.1], Nat.le_refl _, ?_, ?_⟩
  · show (if i == 0 then 0 else i.natAbs.log2 + 1) ≤ b
    by_cases z : i = 0
    · simp [z]
    · have h2 := hl.2 z
      simp [z]; omega
  · have h1 : i.natAbs < 10 ^ 600 := Nat.lt_of_lt_of_le h (Nat.le_trans (Nat.pow_le_pow_right (by decide) hb) (by decide +kernel))
    have h2 := PySem.int_text_length_le10 (a := i) (by decide : 0 < 600) h1
    show decide ((PyData.shown (.int i)).length ≤ 640) = true
    refine decide_eq_true ?_
    have e : (PyData.shown (.int i)).length = (toString i).length := by
      show (Str.ofString (toString i)).length = _
      rw [PyProof.Rows.ofString_length]
      exact String.length_toList
    rw [e]
    omega
theorem Okd.i60 {i : Int} (h0 : 0 ≤ i) (h : i < 1000000000) : Okd 0 30 (.int i) := Okd.int (b := 30) (by omega)
theorem Okd.str {s : Str} (h : s.cps.all (· < 0x110000) = true) (hl : s.length ≤ k) : Okd 0 k (.str s) := by
  refine ⟨h, rfl, Nat.le_refl _, hl, ?_⟩
  show s.cps.toList.all _ = true
  rw [List.all_eq_true]
  intro c hc
  have := (Array.all_eq_true_iff_forall_mem.mp h) c (by simpa using hc)
  have h3 : c < 0x110000 := by simpa using this
  exact decide_eq_true (Nat.lt_of_lt_of_le h3 (by decide))
theorem Okds.nil : Okds n m [] := ⟨rfl, rfl, Nat.zero_le _, Nat.zero_le _, rfl⟩
theorem Okds.cons (h : Okd n m d) (r : Okds n k ds) : Okds n (m + 1 + k) (d :: ds) := by
  refine ⟨?_, ?_, ?_, ?_, ?_⟩
  · simp [PyData.canLayAll0, h.lay, r.lay]
  · simp [PyData.showableAll, h.sho, r.sho]
  · show max _ _ ≤ n
    exact Nat.max_le.mpr ⟨h.dep, r.dep⟩
  · show PyData.weight d + 1 + PyData.weightAll ds ≤ _
    have := h.wei; have := r.wei; omega
  · simp [PyData.leavesShortAll, h.lev, r.lev]
theorem Okds.each : ∀ {ds : List D}, (∀ d ∈ ds, Okd n m d) → Okds n (ds.length * (m + 1)) ds
  | [], _ => .nil
  | d :: ds, h => by
    have := Okds.cons (h d List.mem_cons_self) (Okds.each (ds := ds) fun e he => h e (List.mem_cons_of_mem _ he))
    exact this.mono (Nat.le_refl _) (by rw [List.length_cons, Nat.succ_mul]; omega)
theorem Okds.map {α : Type} {f : α → D} {l : List α} (h : ∀ a ∈ l, Okd n m (f a)) (hl : l.length ≤ k) : Okds n (k * (m + 1)) (l.map f) := by
  refine (Okds.each (ds := l.map f) fun d hd => ?_).mono (Nat.le_refl _) (by rw [List.length_map]; exact Nat.mul_le_mul_right _ hl)
  obtain ⟨a, ha, e⟩ := List.mem_map.mp hd
  rw [← e]; exact h a ha
theorem Okd.list (h : Okds n m ds) : Okd (n + 1) m (.list ds) := ⟨h.lay, h.sho, Nat.succ_le_succ h.dep, h.wei, h.lev⟩
theorem Okd.tuple (h : Okds n m ds) : Okd (n + 1) m (.tuple ds) := ⟨h.lay, h.sho, Nat.succ_le_succ h.dep, h.wei, h.lev⟩
theorem Okd.nodict (h : Okd n m d) : d.hasDict = false := PyData.hasDict_of_canLay d h.lay
theorem Okd.reprOk (h : Okd n m d) (hn : n ≤ 60 := by omega) (hm : m ≤ 20000 := by omega) : reprOk d = true := by
  have hs := PyData.shown_le 640 (by decide) d h.lev
  have hw := h.wei
  have hd := h.dep
  have h1 : d.depth ≤ 60 := by omega
  have h2 : d.shown.length ≤ sizeLine := by
    have : (640 + 2) * d.weight ≤ 642 * 20000 := Nat.mul_le_mul_left _ (by omega)
    exact Nat.le_trans hs (Nat.le_trans (by omega : _ ≤ 642 * 20000 + 640) (by decide))
  simp [DL.reprOk, h.sho, h.nodict, h1, h2]
theorem Okd.repr (h : Okd n m d) (hn : n ≤ 60 := by omega) (hm : m ≤ 20000 := by omega) : dRepr [d] = some (.str d.shown) := by
  simp [dRepr, h.reprOk hn hm]
theorem Okd.shaped (h : Okd n m d) (hn : n ≤ 60 := by omega) : SeqAt.shaped d = true := by
  have hd := h.dep
  have h1 : d.depth ≤ 64 := by omega
  simp [SeqAt.shaped, h.lay, h1]
theorem eq_self {d : D} (h : Okd n m d) (hn : n ≤ 60 := by omega) : dEq d d = some (.bool true) := by
  rw [dEq_sh (h.shaped hn) (h.shaped hn), PySem.SeqAt.eqv_refl d h.lay]
theorem ne_self {d : D} (h : Okd n m d) (hn : n ≤ 60 := by omega) : dNe d d = some (.bool false) := by
  rw [dNe_sh (h.shaped hn) (h.shaped hn), PySem.SeqAt.eqv_refl d h.lay]; rfl
end
/-! ### words of data -/
theorem eqv_ints : ∀ {xs ys : List Int}, PyData.eqvAll (xs.map .int) (ys.map .int) = (xs == ys)
  | [], [] => rfl
  | [], _ :: _ => rfl
  | _ :: _, [] => rfl
  | x :: xs, y :: ys => by
    show (PyData.eqv (.int x) (.int y) && PyData.eqvAll (xs.map .int) (ys.map .int)) = _
    rw [eqv_ints (xs := xs) (ys := ys)]
    rfl
theorem ints_any {x : Int} : ∀ {xs : List Int}, ((xs.map PyData.int).any fun d => PyData.eqv d (.int x)) = decide (x ∈ xs)
  | [] => rfl
  | y :: ys => by
    rw [List.map_cons, List.any_cons, ints_any (xs := ys)]
    show ((y == x) || _) = _
    by_cases h : y = x
    · subst h; simp
    · have h2 : ¬ x = y := fun z => h z.symm
      simp [h, h2]
theorem flat_ints {xs : List Int} : (xs.map PyData.int).all flatD = true := by
  rw [List.all_eq_true]
  intro d hd
  obtain ⟨i, _, e⟩ := List.mem_map.mp hd
  rw [← e]; rfl
theorem dIn_ints {x : Int} {xs : List Int} : dIn (.int x) (.list (xs.map .int)) = some (.bool (decide (x ∈ xs))) ∧ dIn (.int x) (.tuple (xs.map .int)) = some (.bool (decide (x ∈ xs))) ∧ dNotIn (.int x) (.list (xs.map .int)) = some (.bool (!decide (x ∈ xs))) ∧ dNotIn (.int x) (.tuple (xs.map .int)) = some (.bool (!decide (x ∈ xs))) := by
  have f : flatD (.int x) = true ∧ (xs.map PyData.int).all flatD = true := ⟨rfl, flat_ints⟩
  refine ⟨?_, ?_, ?_, ?_⟩ <;> (show dInSeq _ _ _ = _; unfold dInSeq; rw [if_pos (.inl f), ints_any]; rfl)
end DL

namespace DL
open PySem L2
section
variable {k0 : List Sl} {b0 : Int × Int} {a : DEn} {c : Str} {d : D} {en : En} {f : (Int × Int) → En} {bx : Int × Int}
@[simp] theorem sRaise_ap : sRaise c a (⟨k0, b0⟩ : En) = (a (⟨k0, b0⟩ : En) >>= fun p => .ex c p.1 p.2) := ap rfl
@[simp] theorem finF_ex : finF (.ex c d en) = .ex c d en.bx := ap rfl
@[simp] theorem toRs_ex : toRs (.ex c d bx) f = .ex c d (f bx) := ap rfl
@[simp] theorem eHeard_ap {tf : D → Option D} {sb : Str → Str → Bool} {hs : List HdT} : eHeard tf sb hs a (⟨k0, b0⟩ : En) = (match a (⟨k0, b0⟩ : En) with
  | .ok p => liftO (tf p.1) >>= fun z => .ok (z, p.2)
  | .ex c d en' => liftO (hearD sb hs c d) >>= fun z => .ok (z, en')
  | .bad => .bad) := ap rfl
@[simp] theorem hearD_nil {sb : Str → Str → Bool} : hearD sb [] c d = none := ap rfl
@[simp] theorem hearD_cons {sb : Str → Str → Bool} {k : Str} {g : Str → D → Option D} {r : List HdT} : hearD sb ((k, g) :: r) c d = if sb c k = true then g c d else hearD sb r c d := ap rfl
@[simp] theorem tfTup_ap {tf : D → Option D} {s : Str} : tfTup s tf d = (tf d).map fun z => .tuple [.str s, z] := ap rfl
@[simp] theorem tfLst_ap {tf : D → Option D} {s : Str} : tfLst s tf d = (tf d).map fun z => .list [.str s, z] := ap rfl
@[simp] theorem tfRepr_ap {tf : D → Option D} : tfRepr tf d = (tf d).bind fun z => dRepr [z] := ap rfl
@[simp] theorem zC_ap {k : D} : zC k c d = some k := ap rfl
@[simp] theorem zF_ap {fl : Str → Str} {s : Str} : zF fl s c d = if fl c = s then some d else none := ap rfl
@[simp] theorem zR_ap {g : Str → D → Option D} : zR g c d = (g c d).bind fun z => dRepr [z] := ap rfl
@[simp] theorem zI_ap {ib : Str → Bool} : zI ib c d = some (.bool (ib c)) := ap rfl
@[simp] theorem zCons_ap {g : Str → D → Option D} {gs : Str → D → Option (List D)} : zCons g gs c d = (g c d).bind fun z => (gs c d).map fun zs => z :: zs := ap rfl
@[simp] theorem zTup_ap {gs : Str → D → Option (List D)} : zTup gs c d = (gs c d).bind fun zs => if zs.length ≤ sizeLine then some (.tuple zs) else none := ap rfl
@[simp] theorem zLst_ap {gs : Str → D → Option (List D)} : zLst gs c d = (gs c d).bind fun zs => if zs.length ≤ sizeLine then some (.list zs) else none := ap rfl
end
/-! ### slices -/
theorem cut_from {ds : List D} {k : Nat} : cutD ds (some (k : Int)) none = ds.drop k := by
  simp only [cutD, HT.sIx_nat, HT.sIx_none]
  by_cases h : k ≤ ds.length
  · rw [Nat.min_eq_left h, List.take_of_length_le (by rw [List.length_drop]; exact Nat.le_refl _)]
  · rw [Nat.min_eq_right (by omega), List.drop_eq_nil_of_le (Nat.le_refl _), List.take_nil, List.drop_eq_nil_of_le (by omega)]
theorem cut_to {ds : List D} {k : Nat} : cutD ds none (some (k : Int)) = ds.take k := by
  simp only [cutD, HT.sIx_nat, HT.sIx_none, List.drop_zero, Nat.sub_zero]
  by_cases h : k ≤ ds.length
  · rw [Nat.min_eq_left h]
  · rw [Nat.min_eq_right (by omega), List.take_of_length_le (Nat.le_refl _), List.take_of_length_le (by omega)]
theorem cut_in {ds : List D} {k m : Nat} : cutD ds (some (k : Int)) (some (m : Int)) = (ds.take m).drop k := by
  simp only [cutD, HT.sIx_nat]
  rw [List.drop_take]
  by_cases h : k ≤ ds.length
  · rw [Nat.min_eq_left h]
    by_cases h2 : m ≤ ds.length
    · rw [Nat.min_eq_left h2]
    · rw [Nat.min_eq_right (by omega), List.take_of_length_le (by rw [List.length_drop]; exact Nat.le_refl _), List.take_of_length_le (by rw [List.length_drop]; omega)]
  · rw [show min k ds.length = ds.length by omega, List.drop_eq_nil_of_le (Nat.le_refl _), List.take_nil, List.drop_eq_nil_of_le (by omega), List.take_nil]
@[simp] theorem cut_from1 {ds : List D} : cutD ds (some 1) none = ds.drop 1 := cut_from (k := 1)
@[simp] theorem cut_from2 {ds : List D} : cutD ds (some 2) none = ds.drop 2 := cut_from (k := 2)
@[simp] theorem cut_to1 {ds : List D} : cutD ds none (some 1) = ds.take 1 := cut_to (k := 1)
@[simp] theorem cut_to2 {ds : List D} : cutD ds none (some 2) = ds.take 2 := cut_to (k := 2)
@[simp] theorem cut_to3 {ds : List D} : cutD ds none (some 3) = ds.take 3 := cut_to (k := 3)
@[simp] theorem cut_to4 {ds : List D} : cutD ds none (some 4) = ds.take 4 := cut_to (k := 4)
/-! ### all, any, sum -/
theorem all_bools : ∀ bs : List Bool, allO asB (bs.map .bool) = some bs
  | [] => rfl
  | y :: ys => by
    have ih := all_bools ys
    show ((asB (.bool y)).bind fun a => (allO asB (ys.map .bool)).map fun r => a :: r) = _
    rw [ih]
    rfl
theorem all_ints : ∀ bs : List Int, allO asI (bs.map .int) = some bs
  | [] => rfl
  | y :: ys => by
    have ih := all_ints ys
    show ((asI (.int y)).bind fun a => (allO asI (ys.map .int)).map fun r => a :: r) = _
    rw [ih]
    rfl
theorem dAll_map {α : Type} {p : α → Bool} {l : List α} : dAll [.list (l.map fun a => .bool (p a))] = some (.bool (l.all p)) := by
  have h : (l.map fun a => PyData.bool (p a)) = (l.map p).map .bool := by rw [List.map_map]; rfl
  rw [h]
  show (allO asB ((l.map p).map .bool)).bind (fun bs : List Bool => some (PyData.bool (bs.all id))) = _
  rw [all_bools]
  simp [List.all_map]
theorem dAny_map {α : Type} {p : α → Bool} {l : List α} : dAny [.list (l.map fun a => .bool (p a))] = some (.bool (l.any p)) := by
  have h : (l.map fun a => PyData.bool (p a)) = (l.map p).map .bool := by rw [List.map_map]; rfl
  rw [h]
  show (allO asB ((l.map p).map .bool)).bind (fun bs : List Bool => some (PyData.bool (bs.any id))) = _
  rw [all_bools]
  simp [List.any_map]
theorem dSum_map {α : Type} {p : α → Int} {l : List α} : dSum [.list (l.map fun a => .int (p a))] = some (.int (l.map p).sum) := by
  have h : (l.map fun a => PyData.int (p a)) = (l.map p).map .int := by rw [List.map_map]; rfl
  rw [h]
  show (allO asI ((l.map p).map .int)).bind (fun bs : List Int => some (PyData.int bs.sum)) = _
  rw [all_ints]
  rfl
end DL

namespace Lw
open PySem L2 PySem.Spec PyProof.Rows DL
/-! ### the text by places -/
def top (i : Nat) : Stmt := PySem.Challenge.pw_outsoonest_k51_what_is_no_floor.main.body.getD i (.Pass ⟨0, 0, 0, 0⟩)
abbrev s__law_box : Stmt := top 84
abbrev s__law_take : Stmt := top 85
abbrev s__law_pick : Stmt := top 86
abbrev s__law_house : Stmt := top 87
abbrev s__law_is_floor : Stmt := top 94
abbrev s__law_people : Stmt := top 88
abbrev s_is_integer : Stmt := top 6
abbrev s_is_number : Stmt := top 7
abbrev s_is_below : Stmt := top 8
abbrev s_is_ascending : Stmt := top 10
abbrev s_is_sequence : Stmt := top 9
abbrev s_is_lot : Stmt := top 11
abbrev s_is_passage : Stmt := top 21
abbrev s_are_passages : Stmt := top 22
abbrev s_are_rooms : Stmt := top 20
abbrev s_is_smoke : Stmt := top 23
abbrev s_check_house : Stmt := top 24
abbrev s_is_person : Stmt := top 51
abbrev s_check_people : Stmt := top 52
abbrev s_check_task : Stmt := top 56
abbrev s_leads_out : Stmt := top 73
abbrev s_is_floor : Stmt := top 74
abbrev s_check_floors : Stmt := top 81
abbrev s_check_floor : Stmt := top 75
abbrev s_shut_in_smoke : Stmt := top 76
abbrev s_floor_house : Stmt := top 77
abbrev s_floor_task : Stmt := top 78
abbrev s_soonest : Stmt := top 71
abbrev s_came_to : Stmt := top 79
abbrev s_rest_task : Stmt := top 80
abbrev s_by_floors : Stmt := top 82
abbrev s__law_refused_right : Stmt := top 96
abbrev s_law : Stmt := top 97
abbrev s__law_heard : Stmt := top 95
abbrev s_BadHouse : Stmt := inCls (top 2) 0
abbrev s_BadPeople : Stmt := inCls (top 3) 0
abbrev s_Refused : Stmt := inCls (top 4) 0
def SBl : List (Str × Str) := [("BadHouse", "BadHouse"), ("BadHouse", "OutError"), ("BadPeople", "BadPeople"), ("BadPeople", "OutError"), ("Refused", "Refused"), ("Refused", "OutError")]
def SB (c d : Str) : Bool := SBl.any fun p => p.1 == c && p.2 == d
def FL (c : Str) : Str := (List.lookup c ([("BadHouse", "at"), ("BadPeople", "at"), ("Refused", "at")] : List (Str × Str))).getD ""
@[simp] theorem sb_BadHouse_Refused : SB "BadHouse" "Refused" = false := by decide +kernel
@[simp] theorem sb_BadHouse_BadHouse : SB "BadHouse" "BadHouse" = true := by decide +kernel
@[simp] theorem sb_BadHouse_BadPeople : SB "BadHouse" "BadPeople" = false := by decide +kernel
@[simp] theorem sb_BadHouse_OutError : SB "BadHouse" "OutError" = true := by decide +kernel
@[simp] theorem fl_BadHouse : FL "BadHouse" = "at" := by decide +kernel
@[simp] theorem sb_BadPeople_Refused : SB "BadPeople" "Refused" = false := by decide +kernel
@[simp] theorem sb_BadPeople_BadHouse : SB "BadPeople" "BadHouse" = false := by decide +kernel
@[simp] theorem sb_BadPeople_BadPeople : SB "BadPeople" "BadPeople" = true := by decide +kernel
@[simp] theorem sb_BadPeople_OutError : SB "BadPeople" "OutError" = true := by decide +kernel
@[simp] theorem fl_BadPeople : FL "BadPeople" = "at" := by decide +kernel
@[simp] theorem sb_Refused_Refused : SB "Refused" "Refused" = true := by decide +kernel
@[simp] theorem sb_Refused_BadHouse : SB "Refused" "BadHouse" = false := by decide +kernel
@[simp] theorem sb_Refused_BadPeople : SB "Refused" "BadPeople" = false := by decide +kernel
@[simp] theorem sb_Refused_OutError : SB "Refused" "OutError" = true := by decide +kernel
@[simp] theorem fl_Refused : FL "Refused" = "at" := by decide +kernel
/-! ### _law_heard -/
def TF__law_heard : D → Option D := (tfTup "told" some)
def HS__law_heard : List HdT := [("Refused", (zTup (zCons (zC (.str "refused")) (zCons (zR (zF FL "at")) (zCons (zI fun c => SB c "OutError") (fun _ _ => some []))))))]
theorem sc__law_heard : FnScope ["_law_ask", "fault"] ["_law_ask"] (defScope s__law_heard) := ⟨rfl, rfl, rfl, by decide +kernel, rfl, by decide +kernel, by decide +kernel⟩
structure Tx (mg : Str → Option Value) : Prop where
  z_len : mg "len" = none
  z_min : mg "min" = none
  z_max : mg "max" = none
  z_range : mg "range" = none
  z_tuple : mg "tuple" = none
  z_list : mg "list" = none
  z_repr : mg "repr" = none
  z_int : mg "int" = none
  z_abs : mg "abs" = none
  z_all : mg "all" = none
  z_MOST_BEAT : ∃ t, mg "MOST_BEAT" = some (.int 60 t)
  z_any : mg "any" = none
  z_MOST_PASSAGES : ∃ t, mg "MOST_PASSAGES" = some (.int 60 t)
  z_WAY_OUT : ∃ t, mg "WAY_OUT" = some (.int 1 t)
  z_MOST_LENGTH : ∃ t, mg "MOST_LENGTH" = some (.int 9 t)
  z_MOST_WIDTH : ∃ t, mg "MOST_WIDTH" = some (.int 9 t)
  z_isinstance : mg "isinstance" = none
  z_bool : mg "bool" = none
  z_zip : mg "zip" = none
  z_MOST_ROOMS : ∃ t, mg "MOST_ROOMS" = some (.int 20 t)
  z_INSIDE : ∃ t, mg "INSIDE" = some (.int 0 t)
  z_enumerate : mg "enumerate" = none
  z_MOST_PEOPLE : ∃ t, mg "MOST_PEOPLE" = some (.int 60 t)
  z_MOST_URGENCY : ∃ t, mg "MOST_URGENCY" = some (.int 10 t)
  z_sorted : mg "sorted" = none
theorem hear__law_heard {P : Program} {w : World} {K : Fg} {mg : Str → Option Value} {base : Heap} {cs0 : Str → Option (Value × Str)} {f : Addr} {fd : FuncData} (T : Tx mg) (TT : ErrTab K cs0 FL) {a_Refused : Addr} (m_Refused : mg "Refused" = some (.ref a_Refused)) {a_OutError : Addr} (m_OutError : mg "OutError" = some (.ref a_OutError)) (x_Refused : ∀ c cls f, cs0 c = some (cls, f) → PySem.W.exmOne K cls (.ref a_Refused) = some (SB c "Refused")) (i_OutError : ∀ c cls f, cs0 c = some (cls, f) → PySem.W.kitOne K cls (.ref a_OutError) = some (SB c "OutError")) (F : Fun K "_law_heard" "_law_heard" s__law_heard f fd) (hm : mg "_law_heard" = some (.ref f)) (hk : PySem.W.keepIn K (.ref f) = true) : Hear P w K mg base cs0 SB "_law_heard" TF__law_heard HS__law_heard := by
  obtain ⟨oc, od, kV, doc, pm, an, cdv, ct, osl, rfl, lk, hcd⟩ := F.ex
  refine ⟨⟨f, s__law_heard, "_law_ask", ["_law_ask", "fault"], cdv, [(.ref a_Refused, (zTup (zCons (zC (.str "refused")) (zCons (zR (zF FL "at")) (zCons (zI fun c => SB c "OutError") (fun _ _ => some []))))))], (wqTup "told" wqId), hm, hk, ⟨kV, doc, pm, an, ct, oc, od, osl, lk, .all fun us hl => match us, hl with | [_], _ => rfl⟩, hcd, sc__law_heard, rfl, .inl rfl, by decide, by decide, (.cons x_Refused .nil), (wok_tup wok_id), fun X qq e1 e2 e3 e4 e5 gu hu => ?_⟩⟩
  subst e1 e2 e3 e4 e5
  exact gives_ret (by decide) (fun _ => rfl) (by decide) (fun s H pn xe te hx => (wr_tup (wr_id hx))) (fun s H => (.cons ⟨rfl, by decide, .inl m_Refused⟩ rfl rfl (fun a oe cls dd pn hz hf => (dz_tup (dzs_cons dz_str (dzs_cons (dz_repr (dz_fld TT hz hf rfl (.inl rfl)) gu (hu _) T.z_repr) (dzs_cons (dz_isi TT hz hf rfl (.inl rfl) (.own _) i_OutError (pe_glob (X := (getCx X _ _ _ _ _ s H).nox.suite a ((a, oe) :: pn)) rfl m_OutError rfl) T.z_isinstance) dzs_nil))))) .nil))
/-! ### _law_box -/
def B__law_box : DSt := (sSeq (sAsg 2 (eBin dAdd (eBin dMul (eC (.int 11491)) (eVar 1)) (eC (.int 4597)))) (sSeq (sIf (tV (eBin dLt (eVar 1) (eSqLen 0))) (sAsg 2 (eCl dAbs (aCons (eCl dInt (aCons (eSqIx 0 (eVar 1)) aNil)) aNil))) (sIf (tV (eBin dGt (eSqLen 0) (eC (.int 0)))) (sAsg 2 (eBin dAdd (eVar 2) (eBin dMul (eBin dMod (eCl dInt (aCons (eCl dAbs (aCons (eCl dInt (aCons (eSqIx 0 (eBin dMod (eCl dInt (aCons (eVar 1) aNil)) (eSqLen 0))) aNil)) aNil)) aNil)) (eC (.int 2147483563))) (eC (.int 50777))))) sNx)) (sSeq (sAsg 3 (eIf (tV (eBin dGe (eVar 2) (eBin dPow (eC (.int 10)) (eC (.int 18))))) (eVar 2) (eC (.int 0)))) (sRetO (nCl nwL (aCons (eVar 3) (aCons (eBin dAdd (eBin dMod (eCl dInt (aCons (eBin dAdd (eBin dMul (eBin dMod (eCl dInt (aCons (eVar 2) aNil)) (eC (.int 2147483563))) (eC (.int 40014))) (eBin dMul (eC (.int 4597)) (eVar 1))) aNil)) (eC (.int 2147483563))) (eC (.int 1))) aNil)))))))
def F__law_box : List Int → Int → Int × Int := boxF B__law_box 2
theorem sc__law_box : FnScope ["_law_script", "_law_k", "_law_cell", "_law_great"] ["_law_script", "_law_k"] (defScope s__law_box) := ⟨rfl, rfl, rfl, by decide +kernel, rfl, by decide +kernel, by decide +kernel⟩
theorem b__law_box {P : Program} {w : World} {K : Fg} {mg : Str → Option Value} {base : Heap} {T0 : List (Addr × Str)} {cs0 : Str → Option (Value × Str)} {f : Addr} {cdv : Value} {Ar : Around} {outer : List Env} {s : Shared} {H : Hp} {E : XK} {O : AS} {W : WX} (T : Tx mg)  (hco : CodeOf K f cdv)
    (hr : Room 0 (Ar.deeper (envOfC "_law_box" (defScope s__law_box) s.heap.objs.size f cdv))) (hgu : Ar.guards = some []) (tk : L2N.Takes (cxOf (L2N.CX P w) P w K mg base ["_law_script", "_law_k", "_law_cell", "_law_great"] "_law_box" (defScope s__law_box) f cdv Ar outer s H E) W) : DSs (cxOf (L2N.CX P w) P w K mg base ["_law_script", "_law_k", "_law_cell", "_law_great"] "_law_box" (defScope s__law_box) f cdv Ar outer s H E) (gh K O false cs0 []) W (defBody s__law_box) B__law_box :=
  have c : Cn false (cxOf (L2N.CX P w) P w K mg base ["_law_script", "_law_k", "_law_cell", "_law_great"] "_law_box" (defScope s__law_box) f cdv Ar outer s H E) (gh K O false cs0 []) W 0 := ⟨rfl, hr, hgu, tk, (fun z => nomatch z), rfl, sc__law_box.nd⟩
  (ds_cons (s_asg c 2 (v_add c (v_mul c de_int (v_var 1)) de_int)) (ds_cons (ds_if (w_lt c (v_var 1) (de_sqLen 0 c.K rfl (.inl rfl) rfl T.z_len (by decide +kernel))) (ds_one (s_asg c 2 (v_abs c T.z_abs (da_cons (v_int c T.z_int (da_cons (de_sqIx 0 c.K rfl (.inl rfl) (v_var 1) (by intro _ _; rfl)) da_nil)) da_nil)))) (ds_one (ds_if (w_gt c (de_sqLen 0 c.K rfl (.inl rfl) rfl T.z_len (by decide +kernel)) de_int) (ds_one (s_asg c 2 (v_add c (v_var 2) (v_mul c (v_mod c (v_int c T.z_int (da_cons (v_abs c T.z_abs (da_cons (v_int c T.z_int (da_cons (de_sqIx 0 c.K rfl (.inl rfl) (v_mod c (v_int c T.z_int (da_cons (v_var 1) da_nil)) (de_sqLen 0 c.K rfl (.inl rfl) rfl T.z_len (by decide +kernel))) (by intro _ _; rfl)) da_nil)) da_nil)) da_nil)) de_int) de_int)))) ds_nil))) (ds_cons (s_asg c 3 (de_if (w_ge c (v_var 2) (v_pow c de_int de_int)) (v_var 2) de_int)) (ds_one (ds_retO (dn_lst (da_cons (v_var 3) (da_cons (v_add c (v_mod c (v_int c T.z_int (da_cons (v_add c (v_mul c (v_mod c (v_int c T.z_int (da_cons (v_var 2) da_nil)) de_int) de_int) (v_mul c de_int (v_var 1))) da_nil)) de_int) de_int) da_nil))))))))
theorem ok__law_box {P : Program} {w : World} {K : Fg} {mg : Str → Option Value} {base : Heap} {T0 : List (Addr × Str)} {cs0 : Str → Option (Value × Str)} {f : Addr} {fd : FuncData} (tot : ∀ (ns : List Int) (k : Int), 0 ≤ k → ∃ g s en, B__law_box ⟨.sq ns :: .fz (.int k) :: List.replicate 2 .no, (0, 0)⟩ = .ok (.rn [.int g, .int s] en)) (T : Tx mg)  (F : Fun K "_law_box" "_law_box" s__law_box f fd) : FnG P w K mg base 1 f fd ["_law_script", "_law_k"] (spBx K F__law_box) :=
  fn_box cs0 F sc__law_box rfl tot fun cdv hco Ar outer s H E O W hr hg tk => b__law_box (T0 := T0) T hco hr hg tk
/-! ### _law_take -/
def B__law_take : DSt := (sSeq (sIf (tV (eBin dGt (eBx 0 0) (eC (.int 0)))) (sSeq (sAsg 2 (eBin dMod (eCl dInt (aCons (eBx 0 0) aNil)) (eVar 1))) (sSeq (sBx 0 0 (eBin dDiv (eBx 0 0) (eVar 1))) (sRet (eVar 2)))) sNx) (sSeq (sAsg 3 (eBin dMod (eCl dInt (aCons (eBin dAdd (eBin dMul (eBx 0 1) (eC (.int 39373))) (eC (.int 48))) aNil)) (eC (.int 2147483647)))) (sSeq (sBx 0 1 (eBin dAdd (eBin dMod (eCl dInt (aCons (eBin dAdd (eBin dMul (eVar 3) (eC (.int 40692))) (eC (.int 63))) aNil)) (eC (.int 2147483399))) (eC (.int 1)))) (sRet (eBin dMod (eCl dInt (aCons (eBin dDiv (eBin dAdd (eBin dMul (eVar 3) (eC (.int 2147483629))) (eBx 0 1)) (eC (.int 8209))) aNil)) (eVar 1))))))
def F__law_take : FnS := runF true 4 B__law_take
theorem sc__law_take : FnScope ["_law_box_here", "_law_many", "_law_digit", "_law_raw"] ["_law_box_here", "_law_many"] (defScope s__law_take) := ⟨rfl, rfl, rfl, by decide +kernel, rfl, by decide +kernel, by decide +kernel⟩
theorem b__law_take {P : Program} {w : World} {K : Fg} {mg : Str → Option Value} {base : Heap} {T0 : List (Addr × Str)} {cs0 : Str → Option (Value × Str)} {f : Addr} {cdv : Value} {Ar : Around} {outer : List Env} {s : Shared} {H : Hp} {E : XK} {O : AS} {W : WX} (T : Tx mg)  (hco : CodeOf K f cdv)
    (hr : Room 0 (Ar.deeper (envOfC "_law_take" (defScope s__law_take) s.heap.objs.size f cdv))) (hgu : Ar.guards = some []) (tk : L2N.Takes (cxOf (L2N.CX P w) P w K mg base ["_law_box_here", "_law_many", "_law_digit", "_law_raw"] "_law_take" (defScope s__law_take) f cdv Ar outer s H E) W) : DSs (cxOf (L2N.CX P w) P w K mg base ["_law_box_here", "_law_many", "_law_digit", "_law_raw"] "_law_take" (defScope s__law_take) f cdv Ar outer s H E) (gh K O false cs0 T0) W (defBody s__law_take) B__law_take :=
  have c : Cn false (cxOf (L2N.CX P w) P w K mg base ["_law_box_here", "_law_many", "_law_digit", "_law_raw"] "_law_take" (defScope s__law_take) f cdv Ar outer s H E) (gh K O false cs0 T0) W 0 := ⟨rfl, hr, hgu, tk, (fun z => nomatch z), rfl, sc__law_take.nd⟩
  (ds_cons (ds_if (w_gt c (v_bx 0 (.inl rfl)) de_int) (ds_cons (s_asg c 2 (v_mod c (v_int c T.z_int (da_cons (v_bx 0 (.inl rfl)) da_nil)) (v_var 1))) (ds_cons (ds_bx 0 (.inl rfl) rfl (.inl rfl) (v_div c (v_bx 0 (.inl rfl)) (v_var 1))) (ds_one (ds_ret (v_var 2))))) ds_nil) (ds_cons (s_asg c 3 (v_mod c (v_int c T.z_int (da_cons (v_add c (v_mul c (v_bx 0 (.inr rfl)) de_int) de_int) da_nil)) de_int)) (ds_cons (ds_bx 0 (.inr rfl) rfl (.inl rfl) (v_add c (v_mod c (v_int c T.z_int (da_cons (v_add c (v_mul c (v_var 3) de_int) de_int) da_nil)) de_int) de_int)) (ds_one (ds_ret (v_mod c (v_int c T.z_int (da_cons (v_div c (v_add c (v_mul c (v_var 3) de_int) (v_bx 0 (.inr rfl))) de_int) da_nil)) (v_var 1)))))))
theorem ok__law_take {P : Program} {w : World} {K : Fg} {mg : Str → Option Value} {base : Heap} {T0 : List (Addr × Str)} {cs0 : Str → Option (Value × Str)} {f : Addr} {fd : FuncData} (T : Tx mg)  (F : Fun K "_law_take" "_law_take" s__law_take f fd) : FnG P w K mg base 1 f fd ["_law_box_here", "_law_many"] (spF K cs0 T0 true 1 F__law_take) :=
  fn_dataC L2N.Takes takN F sc__law_take rfl fun cdv hco Ar outer s H E O W hr hg tk => b__law_take T hco hr hg tk
/-! ### _law_pick -/
def B__law_pick : DSt := (sRet (eBin dIx (eVar 1) (eCallB 1 0 F__law_take (aCons (eCl dLen (aCons (eVar 1) aNil)) aNil))))
def F__law_pick : FnS := runF true 2 B__law_pick
theorem sc__law_pick : FnScope ["_law_box_here", "_law_some"] ["_law_box_here", "_law_some"] (defScope s__law_pick) := ⟨rfl, rfl, rfl, by decide +kernel, rfl, by decide +kernel, by decide +kernel⟩
theorem b__law_pick {P : Program} {w : World} {K : Fg} {mg : Str → Option Value} {base : Heap} {T0 : List (Addr × Str)} {cs0 : Str → Option (Value × Str)} {f : Addr} {cdv : Value} {Ar : Around} {outer : List Env} {s : Shared} {H : Hp} {E : XK} {O : AS} {W : WX} (T : Tx mg) (C__law_take : Callee P w K mg base 1 "_law_take" ["_law_box_here", "_law_many"] (spF K cs0 T0 true 1 F__law_take)) (hco : CodeOf K f cdv)
    (hr : Room 1 (Ar.deeper (envOfC "_law_pick" (defScope s__law_pick) s.heap.objs.size f cdv))) (hgu : Ar.guards = some []) (tk : L2N.Takes (cxOf (L2N.CX P w) P w K mg base ["_law_box_here", "_law_some"] "_law_pick" (defScope s__law_pick) f cdv Ar outer s H E) W) : DSs (cxOf (L2N.CX P w) P w K mg base ["_law_box_here", "_law_some"] "_law_pick" (defScope s__law_pick) f cdv Ar outer s H E) (gh K O false cs0 T0) W (defBody s__law_pick) B__law_pick :=
  have c : Cn false (cxOf (L2N.CX P w) P w K mg base ["_law_box_here", "_law_some"] "_law_pick" (defScope s__law_pick) f cdv Ar outer s H E) (gh K O false cs0 T0) W 1 := ⟨rfl, hr, hgu, tk, (fun z => nomatch z), rfl, sc__law_pick.nd⟩
  (ds_one (ds_ret (v_ix c (v_var 1) (v_callX c 0 C__law_take (da_cons (v_len c T.z_len (da_cons (v_var 1) da_nil)) da_nil)))))
theorem ok__law_pick {P : Program} {w : World} {K : Fg} {mg : Str → Option Value} {base : Heap} {T0 : List (Addr × Str)} {cs0 : Str → Option (Value × Str)} {f : Addr} {fd : FuncData} (T : Tx mg) (C__law_take : Callee P w K mg base 1 "_law_take" ["_law_box_here", "_law_many"] (spF K cs0 T0 true 1 F__law_take)) (F : Fun K "_law_pick" "_law_pick" s__law_pick f fd) : FnG P w K mg base 2 f fd ["_law_box_here", "_law_some"] (spF K cs0 T0 true 1 F__law_pick) :=
  fn_dataC L2N.Takes takN F sc__law_pick rfl fun cdv hco Ar outer s H E O W hr hg tk => b__law_pick T C__law_take hco hr hg tk
/-! ### _law_house -/
def L__law_house_0 : DSt := (sIns 3 (eCallB 1 0 F__law_take (aCons (eBin dAdd (ePkLen 3) (eC (.int 1))) aNil)) (eC (.int 1)))
def A__law_house_0 : DEn := (eVar 7)
def T__law_house_0 : DTt := (tV (eBin dEq (ePk dIx 3 (eVar 7)) (eC (.int 0))))
def A__law_house_1 : DEn := (eVar 7)
def T__law_house_1 : DTt := (tV (eBin dNe (eVar 7) (eVar 6)))
def A__law_house_2 : DEn := (eVar 10)
def T__law_house_2 : DTt := (tV (eBin dEq (eCallB 1 0 F__law_take (aCons (eC (.int 8)) aNil)) (eC (.int 0))))
def L__law_house_1 : DSt := (sSeq (sAsg 6 (eCallB 1 0 F__law_pick (aCons (eN (nComp [7] (iR1 (ePkLen 3)) (gN 7) T__law_house_0 A__law_house_0)) aNil))) (sSeq (sAsg 8 (eCallB 1 0 F__law_pick (aCons (eN (nComp [7] (iR1 (ePkLen 3)) (gN 7) T__law_house_1 A__law_house_1)) aNil))) (sSeq (sAsg 9 (eN (nComp [10] (iR1 (eC (.int 8))) (gN 10) T__law_house_2 A__law_house_2))) (sApp 5 (eCl mkT (aCons (eVar 6) (aCons (eVar 8) (aCons (eBin dAdd (eC (.int 1)) (eCallB 1 0 F__law_pick (aCons (eCl mkL (aCons (eC (.int 0)) (aCons (eC (.int 0)) (aCons (eC (.int 0)) (aCons (eC (.int 1)) (aCons (eC (.int 2)) aNil)))))) aNil))) (aCons (eCallB 1 0 F__law_pick (aCons (eCl mkL (aCons (eC (.int 0)) (aCons (eC (.int 1)) (aCons (eC (.int 1)) (aCons (eC (.int 1)) (aCons (eC (.int 2)) aNil)))))) aNil)) (aCons (eCl dTuple (aCons (eVar 9) aNil)) aNil))))))))))
def A__law_house_3 : DEn := (eIf (tAnd (tV (eBin dEq (eVar 7) (eC (.int 0)))) (tV (eBin dEq (eCallB 1 0 F__law_take (aCons (eC (.int 5)) aNil)) (eC (.int 0))))) (eCallB 1 0 F__law_take (aCons (eC (.int 8)) aNil)) (eC .none))
def B__law_house : DSt := (sSeq (sAsg 2 (eBin dAdd (eC (.int 1)) (eCallB 1 0 F__law_take (aCons (eVar 1) aNil)))) (sSeq (sOwn 3 (nRep (eCl mkL (aCons (eC (.int 0)) aNil)) (eVar 2))) (sSeq (sFor (iR1 (eBin dAdd (eC (.int 1)) (eCallB 1 0 F__law_take (aCons (eC (.int 2)) aNil)))) (gN 4) L__law_house_0) (sSeq (sOwn 5 (nCl nwL aNil)) (sSeq (sFor (iR1 (eBin dAdd (eC (.int 2)) (eCallB 1 0 F__law_take (aCons (eC (.int 6)) aNil)))) (gN 4) L__law_house_1) (sSeq (sAsg 11 (eN (nComp [7] (iSeq (eVar 3)) (gN 7) tTrue A__law_house_3))) (sRet (eCl mkT (aCons (eCl dTuple (aCons (eVar 3) aNil)) (aCons (eCl dTuple (aCons (eVar 5) aNil)) (aCons (eCl dTuple (aCons (eVar 11) aNil)) aNil)))))))))))
def F__law_house : FnS := runF true 12 B__law_house
theorem sc__law_house : FnScope ["_law_box_here", "_law_most_here", "_law_inside", "_law_rooms", "_law_turn", "_law_rows", "_law_tail", "_law_room", "_law_head", "_law_shut", "_law_beat", "_law_smoke"] ["_law_box_here", "_law_most_here"] (defScope s__law_house) := ⟨rfl, rfl, rfl, by decide +kernel, rfl, by decide +kernel, by decide +kernel⟩
theorem b__law_house {P : Program} {w : World} {K : Fg} {mg : Str → Option Value} {base : Heap} {T0 : List (Addr × Str)} {cs0 : Str → Option (Value × Str)} {f : Addr} {cdv : Value} {Ar : Around} {outer : List Env} {s : Shared} {H : Hp} {E : XK} {O : AS} {W : WX} (T : Tx mg) (C__law_pick : Callee P w K mg base 2 "_law_pick" ["_law_box_here", "_law_some"] (spF K cs0 T0 true 1 F__law_pick)) (C__law_take : Callee P w K mg base 1 "_law_take" ["_law_box_here", "_law_many"] (spF K cs0 T0 true 1 F__law_take)) (hco : CodeOf K f cdv)
    (hr : Room 2 (Ar.deeper (envOfC "_law_house" (defScope s__law_house) s.heap.objs.size f cdv))) (hgu : Ar.guards = some []) (tk : L2N.Takes (cxOf (L2N.CX P w) P w K mg base ["_law_box_here", "_law_most_here", "_law_inside", "_law_rooms", "_law_turn", "_law_rows", "_law_tail", "_law_room", "_law_head", "_law_shut", "_law_beat", "_law_smoke"] "_law_house" (defScope s__law_house) f cdv Ar outer s H E) W) : DSs (cxOf (L2N.CX P w) P w K mg base ["_law_box_here", "_law_most_here", "_law_inside", "_law_rooms", "_law_turn", "_law_rows", "_law_tail", "_law_room", "_law_head", "_law_shut", "_law_beat", "_law_smoke"] "_law_house" (defScope s__law_house) f cdv Ar outer s H E) (gh K O false cs0 T0) W (defBody s__law_house) B__law_house :=
  have c : Cn false (cxOf (L2N.CX P w) P w K mg base ["_law_box_here", "_law_most_here", "_law_inside", "_law_rooms", "_law_turn", "_law_rows", "_law_tail", "_law_room", "_law_head", "_law_shut", "_law_beat", "_law_smoke"] "_law_house" (defScope s__law_house) f cdv Ar outer s H E) (gh K O false cs0 T0) W 2 := ⟨rfl, hr, hgu, tk, (fun z => nomatch z), rfl, sc__law_house.nd⟩
  (ds_cons (s_asg c 2 (v_add c de_int (v_callX c 0 C__law_take (da_cons (v_var 1) da_nil)))) (ds_cons (s_own c 3 (dn_rep (de_lst (da_cons de_int da_nil)) (v_var 2))) (ds_cons (ds_for (passes_of rfl) c.calm (di_r1 rfl T.z_range (v_add c de_int (v_callX c 0 C__law_take (da_cons de_int da_nil)))) (g_name c 4) (ds_one (s_ins c 3 (v_callX c 0 C__law_take (da_cons (v_add c (v_pklen c 3 T.z_len) de_int) da_nil)) de_int))) (ds_cons (s_own c 5 (dn_lst da_nil)) (ds_cons (ds_for (passes_of rfl) c.calm (di_r1 rfl T.z_range (v_add c de_int (v_callX c 0 C__law_take (da_cons de_int da_nil)))) (g_name c 4) (ds_cons (s_asg c 6 (v_callX c 0 C__law_pick (da_cons (de_new (dn_comp [("_law_room", 7)] c.calm c.nd (di_r1 rfl T.z_range (v_pklen c 3 T.z_len)) (blkOk_by (by kernel_rfl)) (by decide) ⟨fun O0 s0 H0 C0 cl0 fp0 => (g_name (c.blk O0 s0 H0 _ _ fp0) 7), fun O0 s0 H0 C0 cl0 fp0 => (dts_one (w_eq (c.blk O0 s0 H0 _ _ fp0) (v_pkix (c.blk O0 s0 H0 _ _ fp0) 3 (v_var 7)) de_int)), fun O0 s0 H0 C0 cl0 fp0 => (v_var 7)⟩)) da_nil))) (ds_cons (s_asg c 8 (v_callX c 0 C__law_pick (da_cons (de_new (dn_comp [("_law_room", 7)] c.calm c.nd (di_r1 rfl T.z_range (v_pklen c 3 T.z_len)) (blkOk_by (by kernel_rfl)) (by decide) ⟨fun O0 s0 H0 C0 cl0 fp0 => (g_name (c.blk O0 s0 H0 _ _ fp0) 7), fun O0 s0 H0 C0 cl0 fp0 => (dts_one (w_ne (c.blk O0 s0 H0 _ _ fp0) (v_var 7) (v_var 6))), fun O0 s0 H0 C0 cl0 fp0 => (v_var 7)⟩)) da_nil))) (ds_cons (ds_asgLc [("_law_beat", 10)] 9 c.calm c.nd rfl rfl (sw_true rfl rfl rfl (by decide +kernel)) (di_r1 rfl T.z_range de_int) (blkOk_by (by kernel_rfl)) (by decide) ⟨fun O0 s0 H0 C0 cl0 fp0 => (g_name (c.blk O0 s0 H0 _ _ fp0) 10), fun O0 s0 H0 C0 cl0 fp0 => (dts_one (w_eq (c.blk O0 s0 H0 _ _ fp0) (v_callX (c.blk O0 s0 H0 _ _ fp0) 0 C__law_take (da_cons de_int da_nil)) de_int)), fun O0 s0 H0 C0 cl0 fp0 => (v_var 10)⟩) (ds_one (s_app 5 (de_tup (da_cons (v_var 6) (da_cons (v_var 8) (da_cons (v_add c de_int (v_callX c 0 C__law_pick (da_cons (de_lst (da_cons de_int (da_cons de_int (da_cons de_int (da_cons de_int (da_cons de_int da_nil)))))) da_nil))) (da_cons (v_callX c 0 C__law_pick (da_cons (de_lst (da_cons de_int (da_cons de_int (da_cons de_int (da_cons de_int (da_cons de_int da_nil)))))) da_nil)) (da_cons (v_tuple c T.z_tuple (da_cons (v_var 9) da_nil)) da_nil)))))))))))) (ds_cons (ds_asgLc [("_law_room", 7)] 11 c.calm c.nd rfl rfl (sw_true rfl rfl rfl (by decide +kernel)) (di_seq c.K (v_var 3)) (blkOk_by (by kernel_rfl)) (by decide) ⟨fun O0 s0 H0 C0 cl0 fp0 => (g_name (c.blk O0 s0 H0 _ _ fp0) 7), fun O0 s0 H0 C0 cl0 fp0 => dts_nil, fun O0 s0 H0 C0 cl0 fp0 => (de_if (dt_bool (dw_and (w_eq (c.blk O0 s0 H0 _ _ fp0) (v_var 7) de_int) (dw_and1 (w_eq (c.blk O0 s0 H0 _ _ fp0) (v_callX (c.blk O0 s0 H0 _ _ fp0) 0 C__law_take (da_cons de_int da_nil)) de_int)))) (v_callX (c.blk O0 s0 H0 _ _ fp0) 0 C__law_take (da_cons de_int da_nil)) de_non)⟩) (ds_one (ds_ret (de_tup (da_cons (v_tuple c T.z_tuple (da_cons (v_var 3) da_nil)) (da_cons (v_tuple c T.z_tuple (da_cons (v_var 5) da_nil)) (da_cons (v_tuple c T.z_tuple (da_cons (v_var 11) da_nil)) da_nil))))))))))))
theorem ok__law_house {P : Program} {w : World} {K : Fg} {mg : Str → Option Value} {base : Heap} {T0 : List (Addr × Str)} {cs0 : Str → Option (Value × Str)} {f : Addr} {fd : FuncData} (T : Tx mg) (C__law_pick : Callee P w K mg base 2 "_law_pick" ["_law_box_here", "_law_some"] (spF K cs0 T0 true 1 F__law_pick)) (C__law_take : Callee P w K mg base 1 "_law_take" ["_law_box_here", "_law_many"] (spF K cs0 T0 true 1 F__law_take)) (F : Fun K "_law_house" "_law_house" s__law_house f fd) : FnG P w K mg base 3 f fd ["_law_box_here", "_law_most_here"] (spF K cs0 T0 true 1 F__law_house) :=
  fn_dataC L2N.Takes takN F sc__law_house rfl fun cdv hco Ar outer s H E O W hr hg tk => b__law_house T C__law_pick C__law_take hco hr hg tk
/-! ### _law_is_floor -/
def A__law_is_floor_0 : DEn := (eVar 3)
def T__law_is_floor_0 : DTt := (tV (eBin dEq (eBin dIx (eBin dIx (eVar 0) (eC (.int 0))) (eVar 3)) (eC (.int 1))))
def L__law_is_floor_0 : DSt := (sSeq (sIf (tAnd (tV (eBin dIn (eVar 4) (eVar 1))) (tAnd (tV (eBin dNotIn (eVar 5) (eVar 1))) (tV (eBin dNe (eVar 4) (eVar 2))))) (sRet (eC (.bool false))) sNx) (sIf (tAnd (tV (eBin dNotIn (eVar 4) (eVar 1))) (tV (eBin dIn (eVar 5) (eVar 1)))) (sRet (eC (.bool false))) sNx))
def B__law_is_floor : DSt := (sSeq (sIf (tOr (tV (eBin dNotIn (eVar 2) (eVar 1))) (tV (eBin dNe (eN (nComp [3] (iSeq (eVar 1)) (gN 3) T__law_is_floor_0 A__law_is_floor_0)) (eCl mkL aNil)))) (sRet (eC (.bool false))) sNx) (sSeq (sFor (iSeq (eBin dIx (eVar 0) (eC (.int 1)))) (gTup 5 (gCons (gN 4) (gCons (gN 5) (gCons (gN 6) (gCons (gN 7) (gCons (gN 8) gNil)))))) L__law_is_floor_0) (sRet (eC (.bool true)))))
def F__law_is_floor : FnS := runF false 9 B__law_is_floor
theorem sc__law_is_floor : FnScope ["_law_house_here", "_law_rooms", "_law_stair", "_law_room", "_law_tail", "_law_head", "_law_length", "_law_width", "_law_shut"] ["_law_house_here", "_law_rooms", "_law_stair"] (defScope s__law_is_floor) := ⟨rfl, rfl, rfl, by decide +kernel, rfl, by decide +kernel, by decide +kernel⟩
theorem b__law_is_floor {P : Program} {w : World} {K : Fg} {mg : Str → Option Value} {base : Heap} {T0 : List (Addr × Str)} {cs0 : Str → Option (Value × Str)} {f : Addr} {cdv : Value} {Ar : Around} {outer : List Env} {s : Shared} {H : Hp} {E : XK} {O : AS} {W : WX} (T : Tx mg)  (hco : CodeOf K f cdv)
    (hr : Room 0 (Ar.deeper (envOfC "_law_is_floor" (defScope s__law_is_floor) s.heap.objs.size f cdv))) (hgu : Ar.guards = some []) (tk : L2N.Takes (cxOf (L2N.CX P w) P w K mg base ["_law_house_here", "_law_rooms", "_law_stair", "_law_room", "_law_tail", "_law_head", "_law_length", "_law_width", "_law_shut"] "_law_is_floor" (defScope s__law_is_floor) f cdv Ar outer s H E) W) : DSs (cxOf (L2N.CX P w) P w K mg base ["_law_house_here", "_law_rooms", "_law_stair", "_law_room", "_law_tail", "_law_head", "_law_length", "_law_width", "_law_shut"] "_law_is_floor" (defScope s__law_is_floor) f cdv Ar outer s H E) (gh K O false cs0 T0) W (defBody s__law_is_floor) B__law_is_floor :=
  have c : Cn false (cxOf (L2N.CX P w) P w K mg base ["_law_house_here", "_law_rooms", "_law_stair", "_law_room", "_law_tail", "_law_head", "_law_length", "_law_width", "_law_shut"] "_law_is_floor" (defScope s__law_is_floor) f cdv Ar outer s H E) (gh K O false cs0 T0) W 0 := ⟨rfl, hr, hgu, tk, (fun z => nomatch z), rfl, sc__law_is_floor.nd⟩
  (ds_cons (ds_if (dt_bool (dw_or (w_notin c (v_var 2) (v_var 1)) (dw_or1 (w_ne c (de_new (dn_comp [("_law_room", 3)] c.calm c.nd (di_seq c.K (v_var 1)) (blkOk_by (by kernel_rfl)) (by decide) ⟨fun O0 s0 H0 C0 cl0 fp0 => (g_name (c.blk O0 s0 H0 _ _ fp0) 3), fun O0 s0 H0 C0 cl0 fp0 => (dts_one (w_eq (c.blk O0 s0 H0 _ _ fp0) (v_ix (c.blk O0 s0 H0 _ _ fp0) (v_ix (c.blk O0 s0 H0 _ _ fp0) (v_var 0) de_int) (v_var 3)) de_int)), fun O0 s0 H0 C0 cl0 fp0 => (v_var 3)⟩)) (de_lst da_nil))))) (ds_one (ds_ret de_bl)) ds_nil) (ds_cons (ds_for (passes_of rfl) c.calm (di_seq c.K (v_ix c (v_var 0) de_int)) (dg_tup c.K c.calm (dgs_cons (g_name c 4) (dgs_cons (g_name c 5) (dgs_cons (g_name c 6) (dgs_cons (g_name c 7) (dgs_cons (g_name c 8) dgs_nil)))))) (ds_cons (ds_if (dt_bool (dw_and (w_in c (v_var 4) (v_var 1)) (dw_and (w_notin c (v_var 5) (v_var 1)) (dw_and1 (w_ne c (v_var 4) (v_var 2)))))) (ds_one (ds_ret de_bl)) ds_nil) (ds_one (ds_if (dt_bool (dw_and (w_notin c (v_var 4) (v_var 1)) (dw_and1 (w_in c (v_var 5) (v_var 1))))) (ds_one (ds_ret de_bl)) ds_nil)))) (ds_one (ds_ret de_bl))))
theorem ok__law_is_floor {P : Program} {w : World} {K : Fg} {mg : Str → Option Value} {base : Heap} {T0 : List (Addr × Str)} {cs0 : Str → Option (Value × Str)} {f : Addr} {fd : FuncData} (T : Tx mg)  (F : Fun K "_law_is_floor" "_law_is_floor" s__law_is_floor f fd) : FnG P w K mg base 1 f fd ["_law_house_here", "_law_rooms", "_law_stair"] (spF K cs0 T0 false 3 F__law_is_floor) :=
  fn_dataC L2N.Takes takN F sc__law_is_floor rfl fun cdv hco Ar outer s H E O W hr hg tk => b__law_is_floor T hco hr hg tk
/-! ### _law_people -/
def L__law_people_0 : DSt := (sApp 4 (eCl mkT (aCons (eCallB 1 0 F__law_take (aCons (eCl dLen (aCons (eBin dIx (eVar 1) (eC (.int 0))) aNil)) aNil)) (aCons (eBin dAdd (eVar 2) (eCallB 1 0 F__law_pick (aCons (eCl mkL (aCons (eC (.int 0)) (aCons (eC (.int 0)) (aCons (eC (.int 0)) (aCons (eC (.int 1)) (aCons (eC (.int 2)) aNil)))))) aNil))) (aCons (eCallB 1 0 F__law_take (aCons (eC (.int 3)) aNil)) aNil)))))
def B__law_people : DSt := (sSeq (sOwn 4 (nCl nwL aNil)) (sSeq (sFor (iR1 (eVar 3)) (gN 5) L__law_people_0) (sRet (eCl dTuple (aCons (eVar 4) aNil)))))
def F__law_people : FnS := runF true 6 B__law_people
theorem sc__law_people : FnScope ["_law_box_here", "_law_house_here", "_law_now", "_law_many", "_law_found", "_law_turn"] ["_law_box_here", "_law_house_here", "_law_now", "_law_many"] (defScope s__law_people) := ⟨rfl, rfl, rfl, by decide +kernel, rfl, by decide +kernel, by decide +kernel⟩
theorem b__law_people {P : Program} {w : World} {K : Fg} {mg : Str → Option Value} {base : Heap} {T0 : List (Addr × Str)} {cs0 : Str → Option (Value × Str)} {f : Addr} {cdv : Value} {Ar : Around} {outer : List Env} {s : Shared} {H : Hp} {E : XK} {O : AS} {W : WX} (T : Tx mg) (C__law_pick : Callee P w K mg base 2 "_law_pick" ["_law_box_here", "_law_some"] (spF K cs0 T0 true 1 F__law_pick)) (C__law_take : Callee P w K mg base 1 "_law_take" ["_law_box_here", "_law_many"] (spF K cs0 T0 true 1 F__law_take)) (hco : CodeOf K f cdv)
    (hr : Room 2 (Ar.deeper (envOfC "_law_people" (defScope s__law_people) s.heap.objs.size f cdv))) (hgu : Ar.guards = some []) (tk : L2N.Takes (cxOf (L2N.CX P w) P w K mg base ["_law_box_here", "_law_house_here", "_law_now", "_law_many", "_law_found", "_law_turn"] "_law_people" (defScope s__law_people) f cdv Ar outer s H E) W) : DSs (cxOf (L2N.CX P w) P w K mg base ["_law_box_here", "_law_house_here", "_law_now", "_law_many", "_law_found", "_law_turn"] "_law_people" (defScope s__law_people) f cdv Ar outer s H E) (gh K O false cs0 T0) W (defBody s__law_people) B__law_people :=
  have c : Cn false (cxOf (L2N.CX P w) P w K mg base ["_law_box_here", "_law_house_here", "_law_now", "_law_many", "_law_found", "_law_turn"] "_law_people" (defScope s__law_people) f cdv Ar outer s H E) (gh K O false cs0 T0) W 2 := ⟨rfl, hr, hgu, tk, (fun z => nomatch z), rfl, sc__law_people.nd⟩
  (ds_cons (s_own c 4 (dn_lst da_nil)) (ds_cons (ds_for (passes_of rfl) c.calm (di_r1 rfl T.z_range (v_var 3)) (g_name c 5) (ds_one (s_app 4 (de_tup (da_cons (v_callX c 0 C__law_take (da_cons (v_len c T.z_len (da_cons (v_ix c (v_var 1) de_int) da_nil)) da_nil)) (da_cons (v_add c (v_var 2) (v_callX c 0 C__law_pick (da_cons (de_lst (da_cons de_int (da_cons de_int (da_cons de_int (da_cons de_int (da_cons de_int da_nil)))))) da_nil))) (da_cons (v_callX c 0 C__law_take (da_cons de_int da_nil)) da_nil))))))) (ds_one (ds_ret (v_tuple c T.z_tuple (da_cons (v_var 4) da_nil))))))
theorem ok__law_people {P : Program} {w : World} {K : Fg} {mg : Str → Option Value} {base : Heap} {T0 : List (Addr × Str)} {cs0 : Str → Option (Value × Str)} {f : Addr} {fd : FuncData} (T : Tx mg) (C__law_pick : Callee P w K mg base 2 "_law_pick" ["_law_box_here", "_law_some"] (spF K cs0 T0 true 1 F__law_pick)) (C__law_take : Callee P w K mg base 1 "_law_take" ["_law_box_here", "_law_many"] (spF K cs0 T0 true 1 F__law_take)) (F : Fun K "_law_people" "_law_people" s__law_people f fd) : FnG P w K mg base 3 f fd ["_law_box_here", "_law_house_here", "_law_now", "_law_many"] (spF K cs0 T0 true 3 F__law_people) :=
  fn_dataC L2N.Takes takN F sc__law_people rfl fun cdv hco Ar outer s H E O W hr hg tk => b__law_people T C__law_pick C__law_take hco hr hg tk
/-! ### is_integer -/
def B_is_integer : DSt := (sRet (eAnd (eUn (dIsi [.int]) (eVar 0)) (eNot (eUn (dIsi [.bool]) (eVar 0)))))
def F_is_integer : FnS := runF false 1 B_is_integer
theorem sc_is_integer : FnScope ["value"] ["value"] (defScope s_is_integer) := ⟨rfl, rfl, rfl, by decide +kernel, rfl, by decide +kernel, by decide +kernel⟩
theorem b_is_integer {P : Program} {w : World} {K : Fg} {mg : Str → Option Value} {base : Heap} {T0 : List (Addr × Str)} {cs0 : Str → Option (Value × Str)} {f : Addr} {cdv : Value} {Ar : Around} {outer : List Env} {s : Shared} {H : Hp} {E : XK} {O : AS} {W : WX} (T : Tx mg)  (hco : CodeOf K f cdv)
    (hr : Room 0 (Ar.deeper (envOfC "is_integer" (defScope s_is_integer) s.heap.objs.size f cdv))) (hgu : Ar.guards = some []) (tk : L2N.Takes (cxOf (L2N.CX P w) P w K mg base ["value"] "is_integer" (defScope s_is_integer) f cdv Ar outer s H E) W) : DSs (cxOf (L2N.CX P w) P w K mg base ["value"] "is_integer" (defScope s_is_integer) f cdv Ar outer s H E) (gh K O false cs0 T0) W (defBody s_is_integer) B_is_integer :=
  have c : Cn false (cxOf (L2N.CX P w) P w K mg base ["value"] "is_integer" (defScope s_is_integer) f cdv Ar outer s H E) (gh K O false cs0 T0) W 0 := ⟨rfl, hr, hgu, tk, (fun z => nomatch z), rfl, sc_is_integer.nd⟩
  (ds_one (ds_ret (de_and (de_isi .int c.K rfl T.z_isinstance (v_var 0) rfl T.z_int (by decide +kernel)) (de_one (de_not (de_isi .bool c.K rfl T.z_isinstance (v_var 0) rfl T.z_bool (by decide +kernel)))))))
theorem ok_is_integer {P : Program} {w : World} {K : Fg} {mg : Str → Option Value} {base : Heap} {T0 : List (Addr × Str)} {cs0 : Str → Option (Value × Str)} {f : Addr} {fd : FuncData} (T : Tx mg)  (F : Fun K "is_integer" "is_integer" s_is_integer f fd) : FnG P w K mg base 1 f fd ["value"] (spF K cs0 T0 false 1 F_is_integer) :=
  fn_dataC L2N.Takes takN F sc_is_integer rfl fun cdv hco Ar outer s H E O W hr hg tk => b_is_integer T hco hr hg tk
/-! ### is_number -/
def B_is_number : DSt := (sRet (eAnd (eCall 1 F_is_integer (aCons (eVar 0) aNil)) (eBin dGe (eVar 0) (eC (.int 0)))))
def F_is_number : FnS := runF false 1 B_is_number
theorem sc_is_number : FnScope ["value"] ["value"] (defScope s_is_number) := ⟨rfl, rfl, rfl, by decide +kernel, rfl, by decide +kernel, by decide +kernel⟩
theorem b_is_number {P : Program} {w : World} {K : Fg} {mg : Str → Option Value} {base : Heap} {T0 : List (Addr × Str)} {cs0 : Str → Option (Value × Str)} {f : Addr} {cdv : Value} {Ar : Around} {outer : List Env} {s : Shared} {H : Hp} {E : XK} {O : AS} {W : WX} (T : Tx mg) (C_is_integer : Callee P w K mg base 1 "is_integer" ["value"] (spF K cs0 T0 false 1 F_is_integer)) (hco : CodeOf K f cdv)
    (hr : Room 1 (Ar.deeper (envOfC "is_number" (defScope s_is_number) s.heap.objs.size f cdv))) (hgu : Ar.guards = some []) (tk : L2N.Takes (cxOf (L2N.CX P w) P w K mg base ["value"] "is_number" (defScope s_is_number) f cdv Ar outer s H E) W) : DSs (cxOf (L2N.CX P w) P w K mg base ["value"] "is_number" (defScope s_is_number) f cdv Ar outer s H E) (gh K O false cs0 T0) W (defBody s_is_number) B_is_number :=
  have c : Cn false (cxOf (L2N.CX P w) P w K mg base ["value"] "is_number" (defScope s_is_number) f cdv Ar outer s H E) (gh K O false cs0 T0) W 1 := ⟨rfl, hr, hgu, tk, (fun z => nomatch z), rfl, sc_is_number.nd⟩
  (ds_one (ds_ret (de_and (v_call c C_is_integer (da_cons (v_var 0) da_nil)) (de_one (v_ge c (v_var 0) de_int)))))
theorem ok_is_number {P : Program} {w : World} {K : Fg} {mg : Str → Option Value} {base : Heap} {T0 : List (Addr × Str)} {cs0 : Str → Option (Value × Str)} {f : Addr} {fd : FuncData} (T : Tx mg) (C_is_integer : Callee P w K mg base 1 "is_integer" ["value"] (spF K cs0 T0 false 1 F_is_integer)) (F : Fun K "is_number" "is_number" s_is_number f fd) : FnG P w K mg base 2 f fd ["value"] (spF K cs0 T0 false 1 F_is_number) :=
  fn_dataC L2N.Takes takN F sc_is_number rfl fun cdv hco Ar outer s H E O W hr hg tk => b_is_number T C_is_integer hco hr hg tk
/-! ### is_below -/
def B_is_below : DSt := (sRet (eAnd (eCall 1 F_is_number (aCons (eVar 0) aNil)) (eBin dLt (eVar 0) (eVar 1))))
def F_is_below : FnS := runF false 2 B_is_below
theorem sc_is_below : FnScope ["value", "most"] ["value", "most"] (defScope s_is_below) := ⟨rfl, rfl, rfl, by decide +kernel, rfl, by decide +kernel, by decide +kernel⟩
theorem b_is_below {P : Program} {w : World} {K : Fg} {mg : Str → Option Value} {base : Heap} {T0 : List (Addr × Str)} {cs0 : Str → Option (Value × Str)} {f : Addr} {cdv : Value} {Ar : Around} {outer : List Env} {s : Shared} {H : Hp} {E : XK} {O : AS} {W : WX} (T : Tx mg) (C_is_number : Callee P w K mg base 2 "is_number" ["value"] (spF K cs0 T0 false 1 F_is_number)) (hco : CodeOf K f cdv)
    (hr : Room 2 (Ar.deeper (envOfC "is_below" (defScope s_is_below) s.heap.objs.size f cdv))) (hgu : Ar.guards = some []) (tk : L2N.Takes (cxOf (L2N.CX P w) P w K mg base ["value", "most"] "is_below" (defScope s_is_below) f cdv Ar outer s H E) W) : DSs (cxOf (L2N.CX P w) P w K mg base ["value", "most"] "is_below" (defScope s_is_below) f cdv Ar outer s H E) (gh K O false cs0 T0) W (defBody s_is_below) B_is_below :=
  have c : Cn false (cxOf (L2N.CX P w) P w K mg base ["value", "most"] "is_below" (defScope s_is_below) f cdv Ar outer s H E) (gh K O false cs0 T0) W 2 := ⟨rfl, hr, hgu, tk, (fun z => nomatch z), rfl, sc_is_below.nd⟩
  (ds_one (ds_ret (de_and (v_call c C_is_number (da_cons (v_var 0) da_nil)) (de_one (v_lt c (v_var 0) (v_var 1))))))
theorem ok_is_below {P : Program} {w : World} {K : Fg} {mg : Str → Option Value} {base : Heap} {T0 : List (Addr × Str)} {cs0 : Str → Option (Value × Str)} {f : Addr} {fd : FuncData} (T : Tx mg) (C_is_number : Callee P w K mg base 2 "is_number" ["value"] (spF K cs0 T0 false 1 F_is_number)) (F : Fun K "is_below" "is_below" s_is_below f fd) : FnG P w K mg base 3 f fd ["value", "most"] (spF K cs0 T0 false 2 F_is_below) :=
  fn_dataC L2N.Takes takN F sc_is_below rfl fun cdv hco Ar outer s H E O W hr hg tk => b_is_below T C_is_number hco hr hg tk
/-! ### is_ascending -/
def A_is_ascending_0 : DEn := (eBin dLt (eVar 1) (eVar 2))
def B_is_ascending : DSt := (sRet (eCl dAll (aCons (eN (nComp [1, 2] (iZip (eVar 0) (eSl (eVar 0) (oSo (eC (.int 1))) oNo)) (gTup 2 (gCons (gN 1) (gCons (gN 2) gNil))) tTrue A_is_ascending_0)) aNil)))
def F_is_ascending : FnS := runF false 3 B_is_ascending
theorem sc_is_ascending : FnScope ["value", "one", "other"] ["value"] (defScope s_is_ascending) := ⟨rfl, rfl, rfl, by decide +kernel, rfl, by decide +kernel, by decide +kernel⟩
theorem b_is_ascending {P : Program} {w : World} {K : Fg} {mg : Str → Option Value} {base : Heap} {T0 : List (Addr × Str)} {cs0 : Str → Option (Value × Str)} {f : Addr} {cdv : Value} {Ar : Around} {outer : List Env} {s : Shared} {H : Hp} {E : XK} {O : AS} {W : WX} (T : Tx mg)  (hco : CodeOf K f cdv)
    (hr : Room 0 (Ar.deeper (envOfC "is_ascending" (defScope s_is_ascending) s.heap.objs.size f cdv))) (hgu : Ar.guards = some []) (tk : L2N.Takes (cxOf (L2N.CX P w) P w K mg base ["value", "one", "other"] "is_ascending" (defScope s_is_ascending) f cdv Ar outer s H E) W) : DSs (cxOf (L2N.CX P w) P w K mg base ["value", "one", "other"] "is_ascending" (defScope s_is_ascending) f cdv Ar outer s H E) (gh K O false cs0 T0) W (defBody s_is_ascending) B_is_ascending :=
  have c : Cn false (cxOf (L2N.CX P w) P w K mg base ["value", "one", "other"] "is_ascending" (defScope s_is_ascending) f cdv Ar outer s H E) (gh K O false cs0 T0) W 0 := ⟨rfl, hr, hgu, tk, (fun z => nomatch z), rfl, sc_is_ascending.nd⟩
  (ds_one (ds_ret (v_all c T.z_all (da_cons (de_new (dn_comp [("one", 1), ("other", 2)] c.calm c.nd (di_zip c.K rfl T.z_zip (v_var 0) (de_sl c.K (v_var 0) (do_so de_int) do_no)) (blkOk_by (by kernel_rfl)) (by decide) ⟨fun O0 s0 H0 C0 cl0 fp0 => (dg_tup c.K c.calm (dgs_cons (g_name (c.blk O0 s0 H0 _ _ fp0) 1) (dgs_cons (g_name (c.blk O0 s0 H0 _ _ fp0) 2) dgs_nil))), fun O0 s0 H0 C0 cl0 fp0 => dts_nil, fun O0 s0 H0 C0 cl0 fp0 => (v_lt (c.blk O0 s0 H0 _ _ fp0) (v_var 1) (v_var 2))⟩)) da_nil))))
theorem ok_is_ascending {P : Program} {w : World} {K : Fg} {mg : Str → Option Value} {base : Heap} {T0 : List (Addr × Str)} {cs0 : Str → Option (Value × Str)} {f : Addr} {fd : FuncData} (T : Tx mg)  (F : Fun K "is_ascending" "is_ascending" s_is_ascending f fd) : FnG P w K mg base 1 f fd ["value"] (spF K cs0 T0 false 1 F_is_ascending) :=
  fn_dataC L2N.Takes takN F sc_is_ascending rfl fun cdv hco Ar outer s H E O W hr hg tk => b_is_ascending T hco hr hg tk
/-! ### is_sequence -/
def B_is_sequence : DSt := (sRet (eUn (dIsi [.list, .tuple]) (eVar 0)))
def F_is_sequence : FnS := runF false 1 B_is_sequence
theorem sc_is_sequence : FnScope ["value"] ["value"] (defScope s_is_sequence) := ⟨rfl, rfl, rfl, by decide +kernel, rfl, by decide +kernel, by decide +kernel⟩
theorem b_is_sequence {P : Program} {w : World} {K : Fg} {mg : Str → Option Value} {base : Heap} {T0 : List (Addr × Str)} {cs0 : Str → Option (Value × Str)} {f : Addr} {cdv : Value} {Ar : Around} {outer : List Env} {s : Shared} {H : Hp} {E : XK} {O : AS} {W : WX} (T : Tx mg)  (hco : CodeOf K f cdv)
    (hr : Room 0 (Ar.deeper (envOfC "is_sequence" (defScope s_is_sequence) s.heap.objs.size f cdv))) (hgu : Ar.guards = some []) (tk : L2N.Takes (cxOf (L2N.CX P w) P w K mg base ["value"] "is_sequence" (defScope s_is_sequence) f cdv Ar outer s H E) W) : DSs (cxOf (L2N.CX P w) P w K mg base ["value"] "is_sequence" (defScope s_is_sequence) f cdv Ar outer s H E) (gh K O false cs0 T0) W (defBody s_is_sequence) B_is_sequence :=
  have c : Cn false (cxOf (L2N.CX P w) P w K mg base ["value"] "is_sequence" (defScope s_is_sequence) f cdv Ar outer s H E) (gh K O false cs0 T0) W 0 := ⟨rfl, hr, hgu, tk, (fun z => nomatch z), rfl, sc_is_sequence.nd⟩
  (ds_one (ds_ret (de_isiT .list .tuple c.K rfl T.z_isinstance (v_var 0) rfl T.z_list (by decide +kernel) rfl T.z_tuple (by decide +kernel))))
theorem ok_is_sequence {P : Program} {w : World} {K : Fg} {mg : Str → Option Value} {base : Heap} {T0 : List (Addr × Str)} {cs0 : Str → Option (Value × Str)} {f : Addr} {fd : FuncData} (T : Tx mg)  (F : Fun K "is_sequence" "is_sequence" s_is_sequence f fd) : FnG P w K mg base 1 f fd ["value"] (spF K cs0 T0 false 1 F_is_sequence) :=
  fn_dataC L2N.Takes takN F sc_is_sequence rfl fun cdv hco Ar outer s H E O W hr hg tk => b_is_sequence T hco hr hg tk
/-! ### is_lot -/
def A_is_lot_0 : DEn := (eCall 2 F_is_below (aCons (eVar 2) (aCons (eVar 1) aNil)))
def B_is_lot : DSt := (sRet (eAnd (eCall 1 F_is_sequence (aCons (eVar 0) aNil)) (eAnd (eCl dAll (aCons (eN (nComp [2] (iSeq (eVar 0)) (gN 2) tTrue A_is_lot_0)) aNil)) (eCall 1 F_is_ascending (aCons (eVar 0) aNil)))))
def F_is_lot : FnS := runF false 3 B_is_lot
theorem sc_is_lot : FnScope ["value", "most", "one"] ["value", "most"] (defScope s_is_lot) := ⟨rfl, rfl, rfl, by decide +kernel, rfl, by decide +kernel, by decide +kernel⟩
theorem b_is_lot {P : Program} {w : World} {K : Fg} {mg : Str → Option Value} {base : Heap} {T0 : List (Addr × Str)} {cs0 : Str → Option (Value × Str)} {f : Addr} {cdv : Value} {Ar : Around} {outer : List Env} {s : Shared} {H : Hp} {E : XK} {O : AS} {W : WX} (T : Tx mg) (C_is_ascending : Callee P w K mg base 1 "is_ascending" ["value"] (spF K cs0 T0 false 1 F_is_ascending)) (C_is_below : Callee P w K mg base 3 "is_below" ["value", "most"] (spF K cs0 T0 false 2 F_is_below)) (C_is_sequence : Callee P w K mg base 1 "is_sequence" ["value"] (spF K cs0 T0 false 1 F_is_sequence)) (hco : CodeOf K f cdv)
    (hr : Room 3 (Ar.deeper (envOfC "is_lot" (defScope s_is_lot) s.heap.objs.size f cdv))) (hgu : Ar.guards = some []) (tk : L2N.Takes (cxOf (L2N.CX P w) P w K mg base ["value", "most", "one"] "is_lot" (defScope s_is_lot) f cdv Ar outer s H E) W) : DSs (cxOf (L2N.CX P w) P w K mg base ["value", "most", "one"] "is_lot" (defScope s_is_lot) f cdv Ar outer s H E) (gh K O false cs0 T0) W (defBody s_is_lot) B_is_lot :=
  have c : Cn false (cxOf (L2N.CX P w) P w K mg base ["value", "most", "one"] "is_lot" (defScope s_is_lot) f cdv Ar outer s H E) (gh K O false cs0 T0) W 3 := ⟨rfl, hr, hgu, tk, (fun z => nomatch z), rfl, sc_is_lot.nd⟩
  (ds_one (ds_ret (de_and (v_call c C_is_sequence (da_cons (v_var 0) da_nil)) (de_and (v_all c T.z_all (da_cons (de_new (dn_comp [("one", 2)] c.calm c.nd (di_seq c.K (v_var 0)) (blkOk_by (by kernel_rfl)) (by decide) ⟨fun O0 s0 H0 C0 cl0 fp0 => (g_name (c.blk O0 s0 H0 _ _ fp0) 2), fun O0 s0 H0 C0 cl0 fp0 => dts_nil, fun O0 s0 H0 C0 cl0 fp0 => (v_call (c.blk O0 s0 H0 _ _ fp0) C_is_below (da_cons (v_var 2) (da_cons (v_var 1) da_nil)))⟩)) da_nil)) (de_one (v_call c C_is_ascending (da_cons (v_var 0) da_nil)))))))
theorem ok_is_lot {P : Program} {w : World} {K : Fg} {mg : Str → Option Value} {base : Heap} {T0 : List (Addr × Str)} {cs0 : Str → Option (Value × Str)} {f : Addr} {fd : FuncData} (T : Tx mg) (C_is_ascending : Callee P w K mg base 1 "is_ascending" ["value"] (spF K cs0 T0 false 1 F_is_ascending)) (C_is_below : Callee P w K mg base 3 "is_below" ["value", "most"] (spF K cs0 T0 false 2 F_is_below)) (C_is_sequence : Callee P w K mg base 1 "is_sequence" ["value"] (spF K cs0 T0 false 1 F_is_sequence)) (F : Fun K "is_lot" "is_lot" s_is_lot f fd) : FnG P w K mg base 4 f fd ["value", "most"] (spF K cs0 T0 false 2 F_is_lot) :=
  fn_dataC L2N.Takes takN F sc_is_lot rfl fun cdv hco Ar outer s H E O W hr hg tk => b_is_lot T C_is_ascending C_is_below C_is_sequence hco hr hg tk
/-! ### is_passage -/
def A_is_passage_0 : DEn := (eCall 2 F_is_below (aCons (eVar 2) (aCons (eCl dLen (aCons (eVar 0) aNil)) aNil)))
def B_is_passage : DSt := (sSeq (sIf (tOr (tNot (tV (eCall 1 F_is_sequence (aCons (eVar 1) aNil)))) (tOr (tV (eBin dNe (eCl dLen (aCons (eVar 1) aNil)) (eC (.int 5)))) (tNot (tV (eCl dAll (aCons (eN (nComp [2] (iSeq (eSl (eVar 1) oNo (oSo (eC (.int 2))))) (gN 2) tTrue A_is_passage_0)) aNil)))))) (sRet (eC (.bool false))) sNx) (sSeq (sIf (tOr (tV (eBin dEq (eBin dIx (eVar 1) (eC (.int 0))) (eBin dIx (eVar 1) (eC (.int 1))))) (tOr (tV (eBin dEq (eBin dIx (eVar 0) (eBin dIx (eVar 1) (eC (.int 0)))) (eC (.int 1)))) (tOr (tNot (tV (eCall 2 F_is_below (aCons (eBin dIx (eVar 1) (eC (.int 2))) (aCons (eBin dAdd (eC (.int 9)) (eC (.int 1))) aNil))))) (tV (eBin dEq (eBin dIx (eVar 1) (eC (.int 2))) (eC (.int 0))))))) (sRet (eC (.bool false))) sNx) (sRet (eAnd (eCall 2 F_is_below (aCons (eBin dIx (eVar 1) (eC (.int 3))) (aCons (eBin dAdd (eC (.int 9)) (eC (.int 1))) aNil))) (eCall 2 F_is_lot (aCons (eBin dIx (eVar 1) (eC (.int 4))) (aCons (eC (.int 60)) aNil)))))))
def F_is_passage : FnS := runF false 3 B_is_passage
theorem sc_is_passage : FnScope ["rooms", "value", "room"] ["rooms", "value"] (defScope s_is_passage) := ⟨rfl, rfl, rfl, by decide +kernel, rfl, by decide +kernel, by decide +kernel⟩
theorem b_is_passage {P : Program} {w : World} {K : Fg} {mg : Str → Option Value} {base : Heap} {T0 : List (Addr × Str)} {cs0 : Str → Option (Value × Str)} {f : Addr} {cdv : Value} {Ar : Around} {outer : List Env} {s : Shared} {H : Hp} {E : XK} {O : AS} {W : WX} (T : Tx mg) (C_is_below : Callee P w K mg base 3 "is_below" ["value", "most"] (spF K cs0 T0 false 2 F_is_below)) (C_is_lot : Callee P w K mg base 4 "is_lot" ["value", "most"] (spF K cs0 T0 false 2 F_is_lot)) (C_is_sequence : Callee P w K mg base 1 "is_sequence" ["value"] (spF K cs0 T0 false 1 F_is_sequence)) (hco : CodeOf K f cdv)
    (hr : Room 4 (Ar.deeper (envOfC "is_passage" (defScope s_is_passage) s.heap.objs.size f cdv))) (hgu : Ar.guards = some []) (tk : L2N.Takes (cxOf (L2N.CX P w) P w K mg base ["rooms", "value", "room"] "is_passage" (defScope s_is_passage) f cdv Ar outer s H E) W) : DSs (cxOf (L2N.CX P w) P w K mg base ["rooms", "value", "room"] "is_passage" (defScope s_is_passage) f cdv Ar outer s H E) (gh K O false cs0 T0) W (defBody s_is_passage) B_is_passage :=
  have c : Cn false (cxOf (L2N.CX P w) P w K mg base ["rooms", "value", "room"] "is_passage" (defScope s_is_passage) f cdv Ar outer s H E) (gh K O false cs0 T0) W 4 := ⟨rfl, hr, hgu, tk, (fun z => nomatch z), rfl, sc_is_passage.nd⟩
  (ds_cons (ds_if (dt_bool (dw_or (dt_not (dt_val (v_call c C_is_sequence (da_cons (v_var 1) da_nil)))) (dw_or (w_ne c (v_len c T.z_len (da_cons (v_var 1) da_nil)) de_int) (dw_or1 (dt_not (dt_val (v_all c T.z_all (da_cons (de_new (dn_comp [("room", 2)] c.calm c.nd (di_seq c.K (de_sl c.K (v_var 1) do_no (do_so de_int))) (blkOk_by (by kernel_rfl)) (by decide) ⟨fun O0 s0 H0 C0 cl0 fp0 => (g_name (c.blk O0 s0 H0 _ _ fp0) 2), fun O0 s0 H0 C0 cl0 fp0 => dts_nil, fun O0 s0 H0 C0 cl0 fp0 => (v_call (c.blk O0 s0 H0 _ _ fp0) C_is_below (da_cons (v_var 2) (da_cons (v_len (c.blk O0 s0 H0 _ _ fp0) T.z_len (da_cons (v_var 0) da_nil)) da_nil)))⟩)) da_nil)))))))) (ds_one (ds_ret de_bl)) ds_nil) (ds_cons (ds_if (dt_bool (dw_or (w_eq c (v_ix c (v_var 1) de_int) (v_ix c (v_var 1) de_int)) (dw_or (w_eq c (v_ix c (v_var 0) (v_ix c (v_var 1) de_int)) (v_gint c T.z_WAY_OUT)) (dw_or (dt_not (dt_val (v_call c C_is_below (da_cons (v_ix c (v_var 1) de_int) (da_cons (v_add c (v_gint c T.z_MOST_LENGTH) de_int) da_nil))))) (dw_or1 (w_eq c (v_ix c (v_var 1) de_int) de_int)))))) (ds_one (ds_ret de_bl)) ds_nil) (ds_one (ds_ret (de_and (v_call c C_is_below (da_cons (v_ix c (v_var 1) de_int) (da_cons (v_add c (v_gint c T.z_MOST_WIDTH) de_int) da_nil))) (de_one (v_call c C_is_lot (da_cons (v_ix c (v_var 1) de_int) (da_cons (v_gint c T.z_MOST_BEAT) da_nil)))))))))
theorem ok_is_passage {P : Program} {w : World} {K : Fg} {mg : Str → Option Value} {base : Heap} {T0 : List (Addr × Str)} {cs0 : Str → Option (Value × Str)} {f : Addr} {fd : FuncData} (T : Tx mg) (C_is_below : Callee P w K mg base 3 "is_below" ["value", "most"] (spF K cs0 T0 false 2 F_is_below)) (C_is_lot : Callee P w K mg base 4 "is_lot" ["value", "most"] (spF K cs0 T0 false 2 F_is_lot)) (C_is_sequence : Callee P w K mg base 1 "is_sequence" ["value"] (spF K cs0 T0 false 1 F_is_sequence)) (F : Fun K "is_passage" "is_passage" s_is_passage f fd) : FnG P w K mg base 5 f fd ["rooms", "value"] (spF K cs0 T0 false 2 F_is_passage) :=
  fn_dataC L2N.Takes takN F sc_is_passage rfl fun cdv hco Ar outer s H E O W hr hg tk => b_is_passage T C_is_below C_is_lot C_is_sequence hco hr hg tk
/-! ### are_passages -/
def A_are_passages_0 : DEn := (eCall 2 F_is_passage (aCons (eVar 0) (aCons (eVar 2) aNil)))
def B_are_passages : DSt := (sRet (eAnd (eCall 1 F_is_sequence (aCons (eVar 1) aNil)) (eAnd (eBin dLe (eCl dLen (aCons (eVar 1) aNil)) (eC (.int 60))) (eCl dAll (aCons (eN (nComp [2] (iSeq (eVar 1)) (gN 2) tTrue A_are_passages_0)) aNil)))))
def F_are_passages : FnS := runF false 3 B_are_passages
theorem sc_are_passages : FnScope ["rooms", "value", "one"] ["rooms", "value"] (defScope s_are_passages) := ⟨rfl, rfl, rfl, by decide +kernel, rfl, by decide +kernel, by decide +kernel⟩
theorem b_are_passages {P : Program} {w : World} {K : Fg} {mg : Str → Option Value} {base : Heap} {T0 : List (Addr × Str)} {cs0 : Str → Option (Value × Str)} {f : Addr} {cdv : Value} {Ar : Around} {outer : List Env} {s : Shared} {H : Hp} {E : XK} {O : AS} {W : WX} (T : Tx mg) (C_is_passage : Callee P w K mg base 5 "is_passage" ["rooms", "value"] (spF K cs0 T0 false 2 F_is_passage)) (C_is_sequence : Callee P w K mg base 1 "is_sequence" ["value"] (spF K cs0 T0 false 1 F_is_sequence)) (hco : CodeOf K f cdv)
    (hr : Room 5 (Ar.deeper (envOfC "are_passages" (defScope s_are_passages) s.heap.objs.size f cdv))) (hgu : Ar.guards = some []) (tk : L2N.Takes (cxOf (L2N.CX P w) P w K mg base ["rooms", "value", "one"] "are_passages" (defScope s_are_passages) f cdv Ar outer s H E) W) : DSs (cxOf (L2N.CX P w) P w K mg base ["rooms", "value", "one"] "are_passages" (defScope s_are_passages) f cdv Ar outer s H E) (gh K O false cs0 T0) W (defBody s_are_passages) B_are_passages :=
  have c : Cn false (cxOf (L2N.CX P w) P w K mg base ["rooms", "value", "one"] "are_passages" (defScope s_are_passages) f cdv Ar outer s H E) (gh K O false cs0 T0) W 5 := ⟨rfl, hr, hgu, tk, (fun z => nomatch z), rfl, sc_are_passages.nd⟩
  (ds_one (ds_ret (de_and (v_call c C_is_sequence (da_cons (v_var 1) da_nil)) (de_and (v_le c (v_len c T.z_len (da_cons (v_var 1) da_nil)) (v_gint c T.z_MOST_PASSAGES)) (de_one (v_all c T.z_all (da_cons (de_new (dn_comp [("one", 2)] c.calm c.nd (di_seq c.K (v_var 1)) (blkOk_by (by kernel_rfl)) (by decide) ⟨fun O0 s0 H0 C0 cl0 fp0 => (g_name (c.blk O0 s0 H0 _ _ fp0) 2), fun O0 s0 H0 C0 cl0 fp0 => dts_nil, fun O0 s0 H0 C0 cl0 fp0 => (v_call (c.blk O0 s0 H0 _ _ fp0) C_is_passage (da_cons (v_var 0) (da_cons (v_var 2) da_nil)))⟩)) da_nil)))))))
theorem ok_are_passages {P : Program} {w : World} {K : Fg} {mg : Str → Option Value} {base : Heap} {T0 : List (Addr × Str)} {cs0 : Str → Option (Value × Str)} {f : Addr} {fd : FuncData} (T : Tx mg) (C_is_passage : Callee P w K mg base 5 "is_passage" ["rooms", "value"] (spF K cs0 T0 false 2 F_is_passage)) (C_is_sequence : Callee P w K mg base 1 "is_sequence" ["value"] (spF K cs0 T0 false 1 F_is_sequence)) (F : Fun K "are_passages" "are_passages" s_are_passages f fd) : FnG P w K mg base 6 f fd ["rooms", "value"] (spF K cs0 T0 false 2 F_are_passages) :=
  fn_dataC L2N.Takes takN F sc_are_passages rfl fun cdv hco Ar outer s H E O W hr hg tk => b_are_passages T C_is_passage C_is_sequence hco hr hg tk
/-! ### are_rooms -/
def A_are_rooms_0 : DEn := (eCall 2 F_is_below (aCons (eVar 1) (aCons (eC (.int 2)) aNil)))
def B_are_rooms : DSt := (sRet (eAnd (eCall 1 F_is_sequence (aCons (eVar 0) aNil)) (eAnd (eChain dLe dLe (eC (.int 1)) (eCl dLen (aCons (eVar 0) aNil)) (eC (.int 20))) (eCl dAll (aCons (eN (nComp [1] (iSeq (eVar 0)) (gN 1) tTrue A_are_rooms_0)) aNil)))))
def F_are_rooms : FnS := runF false 2 B_are_rooms
theorem sc_are_rooms : FnScope ["value", "one"] ["value"] (defScope s_are_rooms) := ⟨rfl, rfl, rfl, by decide +kernel, rfl, by decide +kernel, by decide +kernel⟩
theorem b_are_rooms {P : Program} {w : World} {K : Fg} {mg : Str → Option Value} {base : Heap} {T0 : List (Addr × Str)} {cs0 : Str → Option (Value × Str)} {f : Addr} {cdv : Value} {Ar : Around} {outer : List Env} {s : Shared} {H : Hp} {E : XK} {O : AS} {W : WX} (T : Tx mg) (C_is_below : Callee P w K mg base 3 "is_below" ["value", "most"] (spF K cs0 T0 false 2 F_is_below)) (C_is_sequence : Callee P w K mg base 1 "is_sequence" ["value"] (spF K cs0 T0 false 1 F_is_sequence)) (hco : CodeOf K f cdv)
    (hr : Room 3 (Ar.deeper (envOfC "are_rooms" (defScope s_are_rooms) s.heap.objs.size f cdv))) (hgu : Ar.guards = some []) (tk : L2N.Takes (cxOf (L2N.CX P w) P w K mg base ["value", "one"] "are_rooms" (defScope s_are_rooms) f cdv Ar outer s H E) W) : DSs (cxOf (L2N.CX P w) P w K mg base ["value", "one"] "are_rooms" (defScope s_are_rooms) f cdv Ar outer s H E) (gh K O false cs0 T0) W (defBody s_are_rooms) B_are_rooms :=
  have c : Cn false (cxOf (L2N.CX P w) P w K mg base ["value", "one"] "are_rooms" (defScope s_are_rooms) f cdv Ar outer s H E) (gh K O false cs0 T0) W 3 := ⟨rfl, hr, hgu, tk, (fun z => nomatch z), rfl, sc_are_rooms.nd⟩
  (ds_one (ds_ret (de_and (v_call c C_is_sequence (da_cons (v_var 0) da_nil)) (de_and (v_lele c de_int (v_len c T.z_len (da_cons (v_var 0) da_nil)) (v_gint c T.z_MOST_ROOMS)) (de_one (v_all c T.z_all (da_cons (de_new (dn_comp [("one", 1)] c.calm c.nd (di_seq c.K (v_var 0)) (blkOk_by (by kernel_rfl)) (by decide) ⟨fun O0 s0 H0 C0 cl0 fp0 => (g_name (c.blk O0 s0 H0 _ _ fp0) 1), fun O0 s0 H0 C0 cl0 fp0 => dts_nil, fun O0 s0 H0 C0 cl0 fp0 => (v_call (c.blk O0 s0 H0 _ _ fp0) C_is_below (da_cons (v_var 1) (da_cons de_int da_nil)))⟩)) da_nil)))))))
theorem ok_are_rooms {P : Program} {w : World} {K : Fg} {mg : Str → Option Value} {base : Heap} {T0 : List (Addr × Str)} {cs0 : Str → Option (Value × Str)} {f : Addr} {fd : FuncData} (T : Tx mg) (C_is_below : Callee P w K mg base 3 "is_below" ["value", "most"] (spF K cs0 T0 false 2 F_is_below)) (C_is_sequence : Callee P w K mg base 1 "is_sequence" ["value"] (spF K cs0 T0 false 1 F_is_sequence)) (F : Fun K "are_rooms" "are_rooms" s_are_rooms f fd) : FnG P w K mg base 4 f fd ["value"] (spF K cs0 T0 false 1 F_are_rooms) :=
  fn_dataC L2N.Takes takN F sc_are_rooms rfl fun cdv hco Ar outer s H E O W hr hg tk => b_are_rooms T C_is_below C_is_sequence hco hr hg tk
/-! ### is_smoke -/
def A_is_smoke_0 : DEn := (eOr (eBin dIsN (eVar 3) (eC .none)) (eAnd (eBin dEq (eVar 2) (eC (.int 0))) (eCall 2 F_is_below (aCons (eVar 3) (aCons (eC (.int 60)) aNil)))))
def B_is_smoke : DSt := (sSeq (sIf (tOr (tNot (tV (eCall 1 F_is_sequence (aCons (eVar 1) aNil)))) (tV (eBin dNe (eCl dLen (aCons (eVar 1) aNil)) (eCl dLen (aCons (eVar 0) aNil))))) (sRet (eC (.bool false))) sNx) (sRet (eCl dAll (aCons (eN (nComp [2, 3] (iZip (eVar 0) (eVar 1)) (gTup 2 (gCons (gN 2) (gCons (gN 3) gNil))) tTrue A_is_smoke_0)) aNil))))
def F_is_smoke : FnS := runF false 4 B_is_smoke
theorem sc_is_smoke : FnScope ["rooms", "value", "room", "beat"] ["rooms", "value"] (defScope s_is_smoke) := ⟨rfl, rfl, rfl, by decide +kernel, rfl, by decide +kernel, by decide +kernel⟩
theorem b_is_smoke {P : Program} {w : World} {K : Fg} {mg : Str → Option Value} {base : Heap} {T0 : List (Addr × Str)} {cs0 : Str → Option (Value × Str)} {f : Addr} {cdv : Value} {Ar : Around} {outer : List Env} {s : Shared} {H : Hp} {E : XK} {O : AS} {W : WX} (T : Tx mg) (C_is_below : Callee P w K mg base 3 "is_below" ["value", "most"] (spF K cs0 T0 false 2 F_is_below)) (C_is_sequence : Callee P w K mg base 1 "is_sequence" ["value"] (spF K cs0 T0 false 1 F_is_sequence)) (hco : CodeOf K f cdv)
    (hr : Room 3 (Ar.deeper (envOfC "is_smoke" (defScope s_is_smoke) s.heap.objs.size f cdv))) (hgu : Ar.guards = some []) (tk : L2N.Takes (cxOf (L2N.CX P w) P w K mg base ["rooms", "value", "room", "beat"] "is_smoke" (defScope s_is_smoke) f cdv Ar outer s H E) W) : DSs (cxOf (L2N.CX P w) P w K mg base ["rooms", "value", "room", "beat"] "is_smoke" (defScope s_is_smoke) f cdv Ar outer s H E) (gh K O false cs0 T0) W (defBody s_is_smoke) B_is_smoke :=
  have c : Cn false (cxOf (L2N.CX P w) P w K mg base ["rooms", "value", "room", "beat"] "is_smoke" (defScope s_is_smoke) f cdv Ar outer s H E) (gh K O false cs0 T0) W 3 := ⟨rfl, hr, hgu, tk, (fun z => nomatch z), rfl, sc_is_smoke.nd⟩
  (ds_cons (ds_if (dt_bool (dw_or (dt_not (dt_val (v_call c C_is_sequence (da_cons (v_var 1) da_nil)))) (dw_or1 (w_ne c (v_len c T.z_len (da_cons (v_var 1) da_nil)) (v_len c T.z_len (da_cons (v_var 0) da_nil)))))) (ds_one (ds_ret de_bl)) ds_nil) (ds_one (ds_ret (v_all c T.z_all (da_cons (de_new (dn_comp [("room", 2), ("beat", 3)] c.calm c.nd (di_zip c.K rfl T.z_zip (v_var 0) (v_var 1)) (blkOk_by (by kernel_rfl)) (by decide) ⟨fun O0 s0 H0 C0 cl0 fp0 => (dg_tup c.K c.calm (dgs_cons (g_name (c.blk O0 s0 H0 _ _ fp0) 2) (dgs_cons (g_name (c.blk O0 s0 H0 _ _ fp0) 3) dgs_nil))), fun O0 s0 H0 C0 cl0 fp0 => dts_nil, fun O0 s0 H0 C0 cl0 fp0 => (de_or (v_isn (c.blk O0 s0 H0 _ _ fp0) (v_var 3) de_non) (de_one (de_and (v_eq (c.blk O0 s0 H0 _ _ fp0) (v_var 2) (v_gint (c.blk O0 s0 H0 _ _ fp0) T.z_INSIDE)) (de_one (v_call (c.blk O0 s0 H0 _ _ fp0) C_is_below (da_cons (v_var 3) (da_cons (v_gint (c.blk O0 s0 H0 _ _ fp0) T.z_MOST_BEAT) da_nil)))))))⟩)) da_nil)))))
theorem ok_is_smoke {P : Program} {w : World} {K : Fg} {mg : Str → Option Value} {base : Heap} {T0 : List (Addr × Str)} {cs0 : Str → Option (Value × Str)} {f : Addr} {fd : FuncData} (T : Tx mg) (C_is_below : Callee P w K mg base 3 "is_below" ["value", "most"] (spF K cs0 T0 false 2 F_is_below)) (C_is_sequence : Callee P w K mg base 1 "is_sequence" ["value"] (spF K cs0 T0 false 1 F_is_sequence)) (F : Fun K "is_smoke" "is_smoke" s_is_smoke f fd) : FnG P w K mg base 4 f fd ["rooms", "value"] (spF K cs0 T0 false 2 F_is_smoke) :=
  fn_dataC L2N.Takes takN F sc_is_smoke rfl fun cdv hco Ar outer s H E O W hr hg tk => b_is_smoke T C_is_below C_is_sequence hco hr hg tk
/-! ### check_house -/
def A_check_house_0 : DEn := (eBin dAdd (eCl dTuple (aCons (eSl (eVar 5) oNo (oSo (eC (.int 4)))) aNil)) (eCl mkT (aCons (eCl dTuple (aCons (eBin dIx (eVar 5) (eC (.int 4))) aNil)) aNil)))
def B_check_house : DSt := (sSeq (sIf (tOr (tNot (tV (eCall 1 F_is_sequence (aCons (eVar 0) aNil)))) (tV (eBin dNe (eCl dLen (aCons (eVar 0) aNil)) (eC (.int 3))))) (sRaise "BadHouse" (eUn dNeg (eC (.int 1)))) sNx) (sSeq (sUnp (gTup 3 (gCons (gN 1) (gCons (gN 2) (gCons (gN 3) gNil)))) (eVar 0)) (sSeq (sIf (tNot (tV (eCall 1 F_are_rooms (aCons (eVar 1) aNil)))) (sRaise "BadHouse" (eC (.int 0))) sNx) (sSeq (sIf (tNot (tV (eCall 2 F_are_passages (aCons (eVar 1) (aCons (eVar 2) aNil))))) (sRaise "BadHouse" (eC (.int 1))) sNx) (sSeq (sIf (tNot (tV (eCall 2 F_is_smoke (aCons (eVar 1) (aCons (eVar 3) aNil))))) (sRaise "BadHouse" (eC (.int 2))) sNx) (sSeq (sAsg 4 (eN (nComp [5] (iSeq (eVar 2)) (gN 5) tTrue A_check_house_0))) (sRet (eCl mkT (aCons (eCl dTuple (aCons (eVar 1) aNil)) (aCons (eCl dTuple (aCons (eVar 4) aNil)) (aCons (eCl dTuple (aCons (eVar 3) aNil)) aNil)))))))))))
def F_check_house : FnS := runF false 6 B_check_house
theorem sc_check_house : FnScope ["value", "rooms", "passages", "smoke", "told", "one"] ["value"] (defScope s_check_house) := ⟨rfl, rfl, rfl, by decide +kernel, rfl, by decide +kernel, by decide +kernel⟩
theorem b_check_house {P : Program} {w : World} {K : Fg} {mg : Str → Option Value} {base : Heap} {T0 : List (Addr × Str)} {cs0 : Str → Option (Value × Str)} {f : Addr} {cdv : Value} {Ar : Around} {outer : List Env} {s : Shared} {H : Hp} {E : XK} {O : AS} {W : WX} (T : Tx mg) (C_are_passages : Callee P w K mg base 6 "are_passages" ["rooms", "value"] (spF K cs0 T0 false 2 F_are_passages)) (C_are_rooms : Callee P w K mg base 4 "are_rooms" ["value"] (spF K cs0 T0 false 1 F_are_rooms)) (C_is_sequence : Callee P w K mg base 1 "is_sequence" ["value"] (spF K cs0 T0 false 1 F_is_sequence)) (C_is_smoke : Callee P w K mg base 4 "is_smoke" ["rooms", "value"] (spF K cs0 T0 false 2 F_is_smoke)) (E_BadHouse : Err P w K mg base cs0 "BadHouse") (hco : CodeOf K f cdv)
    (hr : Room 6 (Ar.deeper (envOfC "check_house" (defScope s_check_house) s.heap.objs.size f cdv))) (hgu : Ar.guards = some []) (tk : L2N.Takes (cxOf (L2N.CX P w) P w K mg base ["value", "rooms", "passages", "smoke", "told", "one"] "check_house" (defScope s_check_house) f cdv Ar outer s H E) W) : DSs (cxOf (L2N.CX P w) P w K mg base ["value", "rooms", "passages", "smoke", "told", "one"] "check_house" (defScope s_check_house) f cdv Ar outer s H E) (gh K O false cs0 T0) W (defBody s_check_house) B_check_house :=
  have c : Cn false (cxOf (L2N.CX P w) P w K mg base ["value", "rooms", "passages", "smoke", "told", "one"] "check_house" (defScope s_check_house) f cdv Ar outer s H E) (gh K O false cs0 T0) W 6 := ⟨rfl, hr, hgu, tk, (fun z => nomatch z), rfl, sc_check_house.nd⟩
  (ds_cons (ds_if (dt_bool (dw_or (dt_not (dt_val (v_call c C_is_sequence (da_cons (v_var 0) da_nil)))) (dw_or1 (w_ne c (v_len c T.z_len (da_cons (v_var 0) da_nil)) de_int)))) (ds_one (s_raise c E_BadHouse (v_neg c de_int))) ds_nil) (ds_cons (ds_unp (v_var 0) (dg_tup c.K c.calm (dgs_cons (g_name c 1) (dgs_cons (g_name c 2) (dgs_cons (g_name c 3) dgs_nil))))) (ds_cons (ds_if (dt_not (dt_val (v_call c C_are_rooms (da_cons (v_var 1) da_nil)))) (ds_one (s_raise c E_BadHouse de_int)) ds_nil) (ds_cons (ds_if (dt_not (dt_val (v_call c C_are_passages (da_cons (v_var 1) (da_cons (v_var 2) da_nil))))) (ds_one (s_raise c E_BadHouse de_int)) ds_nil) (ds_cons (ds_if (dt_not (dt_val (v_call c C_is_smoke (da_cons (v_var 1) (da_cons (v_var 3) da_nil))))) (ds_one (s_raise c E_BadHouse de_int)) ds_nil) (ds_cons (ds_asgLc [("one", 5)] 4 c.calm c.nd rfl rfl (sw_true rfl rfl rfl (by decide +kernel)) (di_seq c.K (v_var 2)) (blkOk_by (by kernel_rfl)) (by decide) ⟨fun O0 s0 H0 C0 cl0 fp0 => (g_name (c.blk O0 s0 H0 _ _ fp0) 5), fun O0 s0 H0 C0 cl0 fp0 => dts_nil, fun O0 s0 H0 C0 cl0 fp0 => (v_add (c.blk O0 s0 H0 _ _ fp0) (v_tuple (c.blk O0 s0 H0 _ _ fp0) T.z_tuple (da_cons (de_sl c.K (v_var 5) do_no (do_so de_int)) da_nil)) (de_tup (da_cons (v_tuple (c.blk O0 s0 H0 _ _ fp0) T.z_tuple (da_cons (v_ix (c.blk O0 s0 H0 _ _ fp0) (v_var 5) de_int) da_nil)) da_nil)))⟩) (ds_one (ds_ret (de_tup (da_cons (v_tuple c T.z_tuple (da_cons (v_var 1) da_nil)) (da_cons (v_tuple c T.z_tuple (da_cons (v_var 4) da_nil)) (da_cons (v_tuple c T.z_tuple (da_cons (v_var 3) da_nil)) da_nil))))))))))))
theorem ok_check_house {P : Program} {w : World} {K : Fg} {mg : Str → Option Value} {base : Heap} {T0 : List (Addr × Str)} {cs0 : Str → Option (Value × Str)} {f : Addr} {fd : FuncData} (T : Tx mg) (C_are_passages : Callee P w K mg base 6 "are_passages" ["rooms", "value"] (spF K cs0 T0 false 2 F_are_passages)) (C_are_rooms : Callee P w K mg base 4 "are_rooms" ["value"] (spF K cs0 T0 false 1 F_are_rooms)) (C_is_sequence : Callee P w K mg base 1 "is_sequence" ["value"] (spF K cs0 T0 false 1 F_is_sequence)) (C_is_smoke : Callee P w K mg base 4 "is_smoke" ["rooms", "value"] (spF K cs0 T0 false 2 F_is_smoke)) (E_BadHouse : Err P w K mg base cs0 "BadHouse") (F : Fun K "check_house" "check_house" s_check_house f fd) : FnG P w K mg base 7 f fd ["value"] (spF K cs0 T0 false 1 F_check_house) :=
  fn_dataC L2N.Takes takN F sc_check_house rfl fun cdv hco Ar outer s H E O W hr hg tk => b_check_house T C_are_passages C_are_rooms C_is_sequence C_is_smoke E_BadHouse hco hr hg tk
/-! ### is_person -/
def B_is_person : DSt := (sSeq (sIf (tOr (tNot (tV (eCall 1 F_is_sequence (aCons (eVar 1) aNil)))) (tOr (tV (eBin dNe (eCl dLen (aCons (eVar 1) aNil)) (eC (.int 3)))) (tNot (tV (eCall 2 F_is_below (aCons (eBin dIx (eVar 1) (eC (.int 0))) (aCons (eCl dLen (aCons (eBin dIx (eVar 0) (eC (.int 0))) aNil)) aNil))))))) (sRet (eC (.bool false))) sNx) (sRet (eAnd (eCall 2 F_is_below (aCons (eBin dIx (eVar 1) (eC (.int 1))) (aCons (eC (.int 60)) aNil))) (eCall 2 F_is_below (aCons (eBin dIx (eVar 1) (eC (.int 2))) (aCons (eC (.int 10)) aNil))))))
def F_is_person : FnS := runF false 2 B_is_person
theorem sc_is_person : FnScope ["house", "value"] ["house", "value"] (defScope s_is_person) := ⟨rfl, rfl, rfl, by decide +kernel, rfl, by decide +kernel, by decide +kernel⟩
theorem b_is_person {P : Program} {w : World} {K : Fg} {mg : Str → Option Value} {base : Heap} {T0 : List (Addr × Str)} {cs0 : Str → Option (Value × Str)} {f : Addr} {cdv : Value} {Ar : Around} {outer : List Env} {s : Shared} {H : Hp} {E : XK} {O : AS} {W : WX} (T : Tx mg) (C_is_below : Callee P w K mg base 3 "is_below" ["value", "most"] (spF K cs0 T0 false 2 F_is_below)) (C_is_sequence : Callee P w K mg base 1 "is_sequence" ["value"] (spF K cs0 T0 false 1 F_is_sequence)) (hco : CodeOf K f cdv)
    (hr : Room 3 (Ar.deeper (envOfC "is_person" (defScope s_is_person) s.heap.objs.size f cdv))) (hgu : Ar.guards = some []) (tk : L2N.Takes (cxOf (L2N.CX P w) P w K mg base ["house", "value"] "is_person" (defScope s_is_person) f cdv Ar outer s H E) W) : DSs (cxOf (L2N.CX P w) P w K mg base ["house", "value"] "is_person" (defScope s_is_person) f cdv Ar outer s H E) (gh K O false cs0 T0) W (defBody s_is_person) B_is_person :=
  have c : Cn false (cxOf (L2N.CX P w) P w K mg base ["house", "value"] "is_person" (defScope s_is_person) f cdv Ar outer s H E) (gh K O false cs0 T0) W 3 := ⟨rfl, hr, hgu, tk, (fun z => nomatch z), rfl, sc_is_person.nd⟩
  (ds_cons (ds_if (dt_bool (dw_or (dt_not (dt_val (v_call c C_is_sequence (da_cons (v_var 1) da_nil)))) (dw_or (w_ne c (v_len c T.z_len (da_cons (v_var 1) da_nil)) de_int) (dw_or1 (dt_not (dt_val (v_call c C_is_below (da_cons (v_ix c (v_var 1) de_int) (da_cons (v_len c T.z_len (da_cons (v_ix c (v_var 0) de_int) da_nil)) da_nil))))))))) (ds_one (ds_ret de_bl)) ds_nil) (ds_one (ds_ret (de_and (v_call c C_is_below (da_cons (v_ix c (v_var 1) de_int) (da_cons (v_gint c T.z_MOST_BEAT) da_nil))) (de_one (v_call c C_is_below (da_cons (v_ix c (v_var 1) de_int) (da_cons (v_gint c T.z_MOST_URGENCY) da_nil))))))))
theorem ok_is_person {P : Program} {w : World} {K : Fg} {mg : Str → Option Value} {base : Heap} {T0 : List (Addr × Str)} {cs0 : Str → Option (Value × Str)} {f : Addr} {fd : FuncData} (T : Tx mg) (C_is_below : Callee P w K mg base 3 "is_below" ["value", "most"] (spF K cs0 T0 false 2 F_is_below)) (C_is_sequence : Callee P w K mg base 1 "is_sequence" ["value"] (spF K cs0 T0 false 1 F_is_sequence)) (F : Fun K "is_person" "is_person" s_is_person f fd) : FnG P w K mg base 4 f fd ["house", "value"] (spF K cs0 T0 false 2 F_is_person) :=
  fn_dataC L2N.Takes takN F sc_is_person rfl fun cdv hco Ar outer s H E O W hr hg tk => b_is_person T C_is_below C_is_sequence hco hr hg tk
/-! ### check_people -/
def L_check_people_0 : DSt := (sIf (tNot (tV (eCall 2 F_is_person (aCons (eVar 2) (aCons (eVar 4) aNil))))) (sRaise "BadPeople" (eVar 3)) sNx)
def A_check_people_0 : DEn := (eCl dTuple (aCons (eVar 4) aNil))
def B_check_people : DSt := (sSeq (sAsg 2 (eCall 1 F_check_house (aCons (eVar 0) aNil))) (sSeq (sIf (tNot (tV (eCall 1 F_is_sequence (aCons (eVar 1) aNil)))) (sRaise "BadPeople" (eUn dNeg (eC (.int 1)))) sNx) (sSeq (sFor (iEnu (eVar 1)) (gTup 2 (gCons (gN 3) (gCons (gN 4) gNil))) L_check_people_0) (sSeq (sIf (tV (eBin dGt (eCl dLen (aCons (eVar 1) aNil)) (eC (.int 60)))) (sRaise "BadPeople" (eUn dNeg (eC (.int 1)))) sNx) (sRet (eCl dTuple (aCons (eN (nComp [4] (iSeq (eVar 1)) (gN 4) tTrue A_check_people_0)) aNil)))))))
def F_check_people : FnS := runF false 5 B_check_people
theorem sc_check_people : FnScope ["house", "value", "told", "at", "person"] ["house", "value"] (defScope s_check_people) := ⟨rfl, rfl, rfl, by decide +kernel, rfl, by decide +kernel, by decide +kernel⟩
theorem b_check_people {P : Program} {w : World} {K : Fg} {mg : Str → Option Value} {base : Heap} {T0 : List (Addr × Str)} {cs0 : Str → Option (Value × Str)} {f : Addr} {cdv : Value} {Ar : Around} {outer : List Env} {s : Shared} {H : Hp} {E : XK} {O : AS} {W : WX} (T : Tx mg) (C_check_house : Callee P w K mg base 7 "check_house" ["value"] (spF K cs0 T0 false 1 F_check_house)) (C_is_person : Callee P w K mg base 4 "is_person" ["house", "value"] (spF K cs0 T0 false 2 F_is_person)) (C_is_sequence : Callee P w K mg base 1 "is_sequence" ["value"] (spF K cs0 T0 false 1 F_is_sequence)) (E_BadPeople : Err P w K mg base cs0 "BadPeople") (hco : CodeOf K f cdv)
    (hr : Room 7 (Ar.deeper (envOfC "check_people" (defScope s_check_people) s.heap.objs.size f cdv))) (hgu : Ar.guards = some []) (tk : L2N.Takes (cxOf (L2N.CX P w) P w K mg base ["house", "value", "told", "at", "person"] "check_people" (defScope s_check_people) f cdv Ar outer s H E) W) : DSs (cxOf (L2N.CX P w) P w K mg base ["house", "value", "told", "at", "person"] "check_people" (defScope s_check_people) f cdv Ar outer s H E) (gh K O false cs0 T0) W (defBody s_check_people) B_check_people :=
  have c : Cn false (cxOf (L2N.CX P w) P w K mg base ["house", "value", "told", "at", "person"] "check_people" (defScope s_check_people) f cdv Ar outer s H E) (gh K O false cs0 T0) W 7 := ⟨rfl, hr, hgu, tk, (fun z => nomatch z), rfl, sc_check_people.nd⟩
  (ds_cons (s_asg c 2 (v_call c C_check_house (da_cons (v_var 0) da_nil))) (ds_cons (ds_if (dt_not (dt_val (v_call c C_is_sequence (da_cons (v_var 1) da_nil)))) (ds_one (s_raise c E_BadPeople (v_neg c de_int))) ds_nil) (ds_cons (ds_for (passes_of rfl) c.calm (di_enum c.K rfl T.z_enumerate (v_var 1)) (dg_tup c.K c.calm (dgs_cons (g_name c 3) (dgs_cons (g_name c 4) dgs_nil))) (ds_one (ds_if (dt_not (dt_val (v_call c C_is_person (da_cons (v_var 2) (da_cons (v_var 4) da_nil))))) (ds_one (s_raise c E_BadPeople (v_var 3))) ds_nil))) (ds_cons (ds_if (w_gt c (v_len c T.z_len (da_cons (v_var 1) da_nil)) (v_gint c T.z_MOST_PEOPLE)) (ds_one (s_raise c E_BadPeople (v_neg c de_int))) ds_nil) (ds_one (ds_ret (v_tuple c T.z_tuple (da_cons (de_new (dn_comp [("person", 4)] c.calm c.nd (di_seq c.K (v_var 1)) (blkOk_by (by kernel_rfl)) (by decide) ⟨fun O0 s0 H0 C0 cl0 fp0 => (g_name (c.blk O0 s0 H0 _ _ fp0) 4), fun O0 s0 H0 C0 cl0 fp0 => dts_nil, fun O0 s0 H0 C0 cl0 fp0 => (v_tuple (c.blk O0 s0 H0 _ _ fp0) T.z_tuple (da_cons (v_var 4) da_nil))⟩)) da_nil))))))))
theorem ok_check_people {P : Program} {w : World} {K : Fg} {mg : Str → Option Value} {base : Heap} {T0 : List (Addr × Str)} {cs0 : Str → Option (Value × Str)} {f : Addr} {fd : FuncData} (T : Tx mg) (C_check_house : Callee P w K mg base 7 "check_house" ["value"] (spF K cs0 T0 false 1 F_check_house)) (C_is_person : Callee P w K mg base 4 "is_person" ["house", "value"] (spF K cs0 T0 false 2 F_is_person)) (C_is_sequence : Callee P w K mg base 1 "is_sequence" ["value"] (spF K cs0 T0 false 1 F_is_sequence)) (E_BadPeople : Err P w K mg base cs0 "BadPeople") (F : Fun K "check_people" "check_people" s_check_people f fd) : FnG P w K mg base 8 f fd ["house", "value"] (spF K cs0 T0 false 2 F_check_people) :=
  fn_dataC L2N.Takes takN F sc_check_people rfl fun cdv hco Ar outer s H E O W hr hg tk => b_check_people T C_check_house C_is_person C_is_sequence E_BadPeople hco hr hg tk
/-! ### check_task -/
def A_check_task_0 : DEn := (eBin dLt (eBin dIx (eVar 7) (eC (.int 1))) (eVar 3))
def B_check_task : DSt := (sSeq (sIf (tOr (tNot (tV (eCall 1 F_is_sequence (aCons (eVar 0) aNil)))) (tOr (tV (eBin dNe (eCl dLen (aCons (eVar 0) aNil)) (eC (.int 4)))) (tNot (tV (eCall 2 F_is_below (aCons (eBin dIx (eVar 0) (eC (.int 3))) (aCons (eC (.int 60)) aNil))))))) (sRaise "Refused" (eVar 0)) sNx) (sSeq (sUnp (gTup 4 (gCons (gN 1) (gCons (gN 2) (gCons (gN 3) (gCons (gN 4) gNil))))) (eVar 0)) (sSeq (sTryR (sSeq (sAsg 5 (eCall 2 F_check_people (aCons (eVar 1) (aCons (eVar 2) aNil)))) (sAsg 6 (eCall 1 F_check_house (aCons (eVar 1) aNil)))) (fun z => SB z "BadHouse" || SB z "BadPeople") (sRaise "Refused" (eVar 0))) (sSeq (sIf (tOr (tNot (tV (eCall 2 F_is_below (aCons (eVar 3) (aCons (eBin dAdd (eVar 4) (eC (.int 1))) aNil))))) (tV (eCl dAny (aCons (eN (nComp [7] (iSeq (eVar 5)) (gN 7) tTrue A_check_task_0)) aNil)))) (sRaise "Refused" (eVar 0)) sNx) (sRet (eCl mkT (aCons (eVar 6) (aCons (eVar 5) (aCons (eVar 3) (aCons (eVar 4) aNil))))))))))
def F_check_task : FnS := runF false 8 B_check_task
theorem sc_check_task : FnScope ["value", "house", "people", "now", "end", "told", "found", "person"] ["value"] (defScope s_check_task) := ⟨rfl, rfl, rfl, by decide +kernel, rfl, by decide +kernel, by decide +kernel⟩
theorem b_check_task {P : Program} {w : World} {K : Fg} {mg : Str → Option Value} {base : Heap} {T0 : List (Addr × Str)} {cs0 : Str → Option (Value × Str)} {f : Addr} {cdv : Value} {Ar : Around} {outer : List Env} {s : Shared} {H : Hp} {E : XK} {O : AS} {W : WX} (T : Tx mg) (C_check_house : Callee P w K mg base 7 "check_house" ["value"] (spF K cs0 T0 false 1 F_check_house)) (C_check_people : Callee P w K mg base 8 "check_people" ["house", "value"] (spF K cs0 T0 false 2 F_check_people)) (C_is_below : Callee P w K mg base 3 "is_below" ["value", "most"] (spF K cs0 T0 false 2 F_is_below)) (C_is_sequence : Callee P w K mg base 1 "is_sequence" ["value"] (spF K cs0 T0 false 1 F_is_sequence)) (E_Refused : Err P w K mg base cs0 "Refused") (K_BadHouse : Cat K mg cs0 SB "BadHouse") (K_BadPeople : Cat K mg cs0 SB "BadPeople") (hco : CodeOf K f cdv)
    (hr : Room 8 (Ar.deeper (envOfC "check_task" (defScope s_check_task) s.heap.objs.size f cdv))) (hgu : Ar.guards = some []) (tk : L2.Takes (cxOf (L2.CX P w) P w K mg base ["value", "house", "people", "now", "end", "told", "found", "person"] "check_task" (defScope s_check_task) f cdv Ar outer s H E) W) : DSs (cxOf (L2.CX P w) P w K mg base ["value", "house", "people", "now", "end", "told", "found", "person"] "check_task" (defScope s_check_task) f cdv Ar outer s H E) (gh K O false cs0 T0) W (defBody s_check_task) B_check_task :=
  have c : Cn true (cxOf (L2.CX P w) P w K mg base ["value", "house", "people", "now", "end", "told", "found", "person"] "check_task" (defScope s_check_task) f cdv Ar outer s H E) (gh K O false cs0 T0) W 8 := ⟨rfl, hr, hgu, tkN tk, fun _ => tk, rfl, sc_check_task.nd⟩
  (ds_cons (ds_if (dt_bool (dw_or (dt_not (dt_val (v_call c C_is_sequence (da_cons (v_var 0) da_nil)))) (dw_or (w_ne c (v_len c T.z_len (da_cons (v_var 0) da_nil)) de_int) (dw_or1 (dt_not (dt_val (v_call c C_is_below (da_cons (v_ix c (v_var 0) de_int) (da_cons (v_gint c T.z_MOST_BEAT) da_nil))))))))) (ds_one (s_raise c E_Refused (v_var 0))) ds_nil) (ds_cons (ds_unp (v_var 0) (dg_tup c.K c.calm (dgs_cons (g_name c 1) (dgs_cons (g_name c 2) (dgs_cons (g_name c 3) (dgs_cons (g_name c 4) dgs_nil)))))) (ds_cons (s_tryR c K_BadHouse K_BadPeople (L2H.passesAt_of rfl) (fun W2 pn xe y => (ds_cons (s_asg y 5 (v_call y C_check_people (da_cons (v_var 1) (da_cons (v_var 2) da_nil)))) (ds_one (s_asg y 6 (v_call y C_check_house (da_cons (v_var 1) da_nil)))))) (fun a pn zh => (ds_one (s_raiseH zh E_Refused (v_var 0))))) (ds_cons (ds_if (dt_bool (dw_or (dt_not (dt_val (v_call c C_is_below (da_cons (v_var 3) (da_cons (v_add c (v_var 4) de_int) da_nil))))) (dw_or1 (dt_val (v_any c T.z_any (da_cons (de_new (dn_comp [("person", 7)] c.calm c.nd (di_seq c.K (v_var 5)) (blkOk_by (by kernel_rfl)) (by decide) ⟨fun O0 s0 H0 C0 cl0 fp0 => (g_name (c.blk O0 s0 H0 _ _ fp0) 7), fun O0 s0 H0 C0 cl0 fp0 => dts_nil, fun O0 s0 H0 C0 cl0 fp0 => (v_lt (c.blk O0 s0 H0 _ _ fp0) (v_ix (c.blk O0 s0 H0 _ _ fp0) (v_var 7) de_int) (v_var 3))⟩)) da_nil)))))) (ds_one (s_raise c E_Refused (v_var 0))) ds_nil) (ds_one (ds_ret (de_tup (da_cons (v_var 6) (da_cons (v_var 5) (da_cons (v_var 3) (da_cons (v_var 4) da_nil)))))))))))
theorem ok_check_task {P : Program} {w : World} {K : Fg} {mg : Str → Option Value} {base : Heap} {T0 : List (Addr × Str)} {cs0 : Str → Option (Value × Str)} {f : Addr} {fd : FuncData} (T : Tx mg) (C_check_house : Callee P w K mg base 7 "check_house" ["value"] (spF K cs0 T0 false 1 F_check_house)) (C_check_people : Callee P w K mg base 8 "check_people" ["house", "value"] (spF K cs0 T0 false 2 F_check_people)) (C_is_below : Callee P w K mg base 3 "is_below" ["value", "most"] (spF K cs0 T0 false 2 F_is_below)) (C_is_sequence : Callee P w K mg base 1 "is_sequence" ["value"] (spF K cs0 T0 false 1 F_is_sequence)) (E_Refused : Err P w K mg base cs0 "Refused") (K_BadHouse : Cat K mg cs0 SB "BadHouse") (K_BadPeople : Cat K mg cs0 SB "BadPeople") (F : Fun K "check_task" "check_task" s_check_task f fd) : FnM P w K mg base 9 f fd ["value"] (spF K cs0 T0 false 1 F_check_task) :=
  fn_dataC L2.Takes takM F sc_check_task rfl fun cdv hco Ar outer s H E O W hr hg tk => b_check_task T C_check_house C_check_people C_is_below C_is_sequence E_Refused K_BadHouse K_BadPeople hco hr hg tk
/-! ### leads_out -/
def L_leads_out_0 : DSt := (sIf (tOr (tAnd (tV (eBin dIn (eVar 3) (eVar 1))) (tAnd (tV (eBin dNotIn (eVar 4) (eVar 1))) (tV (eBin dNe (eVar 3) (eVar 2))))) (tAnd (tV (eBin dNotIn (eVar 3) (eVar 1))) (tV (eBin dIn (eVar 4) (eVar 1))))) (sRet (eC (.bool false))) sNx)
def B_leads_out : DSt := (sSeq (sFor (iSeq (eBin dIx (eVar 0) (eC (.int 1)))) (gTup 5 (gCons (gN 3) (gCons (gN 4) (gCons (gN 5) (gCons (gN 6) (gCons (gN 7) gNil)))))) L_leads_out_0) (sRet (eC (.bool true))))
def F_leads_out : FnS := runF false 8 B_leads_out
theorem sc_leads_out : FnScope ["house", "rooms", "stair", "tail", "head", "length", "width", "shut"] ["house", "rooms", "stair"] (defScope s_leads_out) := ⟨rfl, rfl, rfl, by decide +kernel, rfl, by decide +kernel, by decide +kernel⟩
theorem b_leads_out {P : Program} {w : World} {K : Fg} {mg : Str → Option Value} {base : Heap} {T0 : List (Addr × Str)} {cs0 : Str → Option (Value × Str)} {f : Addr} {cdv : Value} {Ar : Around} {outer : List Env} {s : Shared} {H : Hp} {E : XK} {O : AS} {W : WX} (T : Tx mg)  (hco : CodeOf K f cdv)
    (hr : Room 0 (Ar.deeper (envOfC "leads_out" (defScope s_leads_out) s.heap.objs.size f cdv))) (hgu : Ar.guards = some []) (tk : L2N.Takes (cxOf (L2N.CX P w) P w K mg base ["house", "rooms", "stair", "tail", "head", "length", "width", "shut"] "leads_out" (defScope s_leads_out) f cdv Ar outer s H E) W) : DSs (cxOf (L2N.CX P w) P w K mg base ["house", "rooms", "stair", "tail", "head", "length", "width", "shut"] "leads_out" (defScope s_leads_out) f cdv Ar outer s H E) (gh K O false cs0 T0) W (defBody s_leads_out) B_leads_out :=
  have c : Cn false (cxOf (L2N.CX P w) P w K mg base ["house", "rooms", "stair", "tail", "head", "length", "width", "shut"] "leads_out" (defScope s_leads_out) f cdv Ar outer s H E) (gh K O false cs0 T0) W 0 := ⟨rfl, hr, hgu, tk, (fun z => nomatch z), rfl, sc_leads_out.nd⟩
  (ds_cons (ds_for (passes_of rfl) c.calm (di_seq c.K (v_ix c (v_var 0) de_int)) (dg_tup c.K c.calm (dgs_cons (g_name c 3) (dgs_cons (g_name c 4) (dgs_cons (g_name c 5) (dgs_cons (g_name c 6) (dgs_cons (g_name c 7) dgs_nil)))))) (ds_one (ds_if (dt_bool (dw_or (dt_bool (dw_and (w_in c (v_var 3) (v_var 1)) (dw_and (w_notin c (v_var 4) (v_var 1)) (dw_and1 (w_ne c (v_var 3) (v_var 2)))))) (dw_or1 (dt_bool (dw_and (w_notin c (v_var 3) (v_var 1)) (dw_and1 (w_in c (v_var 4) (v_var 1)))))))) (ds_one (ds_ret de_bl)) ds_nil))) (ds_one (ds_ret de_bl)))
theorem ok_leads_out {P : Program} {w : World} {K : Fg} {mg : Str → Option Value} {base : Heap} {T0 : List (Addr × Str)} {cs0 : Str → Option (Value × Str)} {f : Addr} {fd : FuncData} (T : Tx mg)  (F : Fun K "leads_out" "leads_out" s_leads_out f fd) : FnG P w K mg base 1 f fd ["house", "rooms", "stair"] (spF K cs0 T0 false 3 F_leads_out) :=
  fn_dataC L2N.Takes takN F sc_leads_out rfl fun cdv hco Ar outer s H E O W hr hg tk => b_leads_out T hco hr hg tk
/-! ### is_floor -/
def A_is_floor_0 : DEn := (eBin dEq (eBin dIx (eBin dIx (eVar 0) (eC (.int 0))) (eVar 4)) (eC (.int 1)))
def B_is_floor : DSt := (sSeq (sIf (tOr (tNot (tV (eCall 1 F_is_sequence (aCons (eVar 1) aNil)))) (tOr (tV (eBin dNe (eCl dLen (aCons (eVar 1) aNil)) (eC (.int 2)))) (tNot (tV (eCall 2 F_is_lot (aCons (eBin dIx (eVar 1) (eC (.int 0))) (aCons (eCl dLen (aCons (eBin dIx (eVar 0) (eC (.int 0))) aNil)) aNil))))))) (sRet (eC (.bool false))) sNx) (sSeq (sUnp (gTup 2 (gCons (gN 2) (gCons (gN 3) gNil))) (eVar 1)) (sSeq (sIf (tOr (tNot (tV (eCall 2 F_is_below (aCons (eVar 3) (aCons (eCl dLen (aCons (eBin dIx (eVar 0) (eC (.int 0))) aNil)) aNil))))) (tOr (tV (eBin dNotIn (eVar 3) (eVar 2))) (tV (eCl dAny (aCons (eN (nComp [4] (iSeq (eVar 2)) (gN 4) tTrue A_is_floor_0)) aNil))))) (sRet (eC (.bool false))) sNx) (sRet (eCall 3 F_leads_out (aCons (eVar 0) (aCons (eVar 2) (aCons (eVar 3) aNil))))))))
def F_is_floor : FnS := runF false 5 B_is_floor
theorem sc_is_floor : FnScope ["house", "value", "rooms", "stair", "room"] ["house", "value"] (defScope s_is_floor) := ⟨rfl, rfl, rfl, by decide +kernel, rfl, by decide +kernel, by decide +kernel⟩
theorem b_is_floor {P : Program} {w : World} {K : Fg} {mg : Str → Option Value} {base : Heap} {T0 : List (Addr × Str)} {cs0 : Str → Option (Value × Str)} {f : Addr} {cdv : Value} {Ar : Around} {outer : List Env} {s : Shared} {H : Hp} {E : XK} {O : AS} {W : WX} (T : Tx mg) (C_is_below : Callee P w K mg base 3 "is_below" ["value", "most"] (spF K cs0 T0 false 2 F_is_below)) (C_is_lot : Callee P w K mg base 4 "is_lot" ["value", "most"] (spF K cs0 T0 false 2 F_is_lot)) (C_is_sequence : Callee P w K mg base 1 "is_sequence" ["value"] (spF K cs0 T0 false 1 F_is_sequence)) (C_leads_out : Callee P w K mg base 1 "leads_out" ["house", "rooms", "stair"] (spF K cs0 T0 false 3 F_leads_out)) (hco : CodeOf K f cdv)
    (hr : Room 4 (Ar.deeper (envOfC "is_floor" (defScope s_is_floor) s.heap.objs.size f cdv))) (hgu : Ar.guards = some []) (tk : L2N.Takes (cxOf (L2N.CX P w) P w K mg base ["house", "value", "rooms", "stair", "room"] "is_floor" (defScope s_is_floor) f cdv Ar outer s H E) W) : DSs (cxOf (L2N.CX P w) P w K mg base ["house", "value", "rooms", "stair", "room"] "is_floor" (defScope s_is_floor) f cdv Ar outer s H E) (gh K O false cs0 T0) W (defBody s_is_floor) B_is_floor :=
  have c : Cn false (cxOf (L2N.CX P w) P w K mg base ["house", "value", "rooms", "stair", "room"] "is_floor" (defScope s_is_floor) f cdv Ar outer s H E) (gh K O false cs0 T0) W 4 := ⟨rfl, hr, hgu, tk, (fun z => nomatch z), rfl, sc_is_floor.nd⟩
  (ds_cons (ds_if (dt_bool (dw_or (dt_not (dt_val (v_call c C_is_sequence (da_cons (v_var 1) da_nil)))) (dw_or (w_ne c (v_len c T.z_len (da_cons (v_var 1) da_nil)) de_int) (dw_or1 (dt_not (dt_val (v_call c C_is_lot (da_cons (v_ix c (v_var 1) de_int) (da_cons (v_len c T.z_len (da_cons (v_ix c (v_var 0) de_int) da_nil)) da_nil))))))))) (ds_one (ds_ret de_bl)) ds_nil) (ds_cons (ds_unp (v_var 1) (dg_tup c.K c.calm (dgs_cons (g_name c 2) (dgs_cons (g_name c 3) dgs_nil)))) (ds_cons (ds_if (dt_bool (dw_or (dt_not (dt_val (v_call c C_is_below (da_cons (v_var 3) (da_cons (v_len c T.z_len (da_cons (v_ix c (v_var 0) de_int) da_nil)) da_nil))))) (dw_or (w_notin c (v_var 3) (v_var 2)) (dw_or1 (dt_val (v_any c T.z_any (da_cons (de_new (dn_comp [("room", 4)] c.calm c.nd (di_seq c.K (v_var 2)) (blkOk_by (by kernel_rfl)) (by decide) ⟨fun O0 s0 H0 C0 cl0 fp0 => (g_name (c.blk O0 s0 H0 _ _ fp0) 4), fun O0 s0 H0 C0 cl0 fp0 => dts_nil, fun O0 s0 H0 C0 cl0 fp0 => (v_eq (c.blk O0 s0 H0 _ _ fp0) (v_ix (c.blk O0 s0 H0 _ _ fp0) (v_ix (c.blk O0 s0 H0 _ _ fp0) (v_var 0) de_int) (v_var 4)) (v_gint (c.blk O0 s0 H0 _ _ fp0) T.z_WAY_OUT))⟩)) da_nil))))))) (ds_one (ds_ret de_bl)) ds_nil) (ds_one (ds_ret (v_call c C_leads_out (da_cons (v_var 0) (da_cons (v_var 2) (da_cons (v_var 3) da_nil)))))))))
theorem ok_is_floor {P : Program} {w : World} {K : Fg} {mg : Str → Option Value} {base : Heap} {T0 : List (Addr × Str)} {cs0 : Str → Option (Value × Str)} {f : Addr} {fd : FuncData} (T : Tx mg) (C_is_below : Callee P w K mg base 3 "is_below" ["value", "most"] (spF K cs0 T0 false 2 F_is_below)) (C_is_lot : Callee P w K mg base 4 "is_lot" ["value", "most"] (spF K cs0 T0 false 2 F_is_lot)) (C_is_sequence : Callee P w K mg base 1 "is_sequence" ["value"] (spF K cs0 T0 false 1 F_is_sequence)) (C_leads_out : Callee P w K mg base 1 "leads_out" ["house", "rooms", "stair"] (spF K cs0 T0 false 3 F_leads_out)) (F : Fun K "is_floor" "is_floor" s_is_floor f fd) : FnG P w K mg base 5 f fd ["house", "value"] (spF K cs0 T0 false 2 F_is_floor) :=
  fn_dataC L2N.Takes takN F sc_is_floor rfl fun cdv hco Ar outer s H E O W hr hg tk => b_is_floor T C_is_below C_is_lot C_is_sequence C_leads_out hco hr hg tk
/-! ### check_floors -/
def A_check_floors_0 : DEn := (eCall 2 F_is_floor (aCons (eBin dIx (eVar 2) (eC (.int 0))) (aCons (eVar 3) aNil)))
def A_check_floors_1 : DEn := (eCl mkT (aCons (eCl dTuple (aCons (eVar 4) aNil)) (aCons (eVar 5) aNil)))
def B_check_floors : DSt := (sSeq (sAsg 2 (eCall 1 F_check_task (aCons (eVar 0) aNil))) (sSeq (sIf (tOr (tNot (tV (eCall 1 F_is_sequence (aCons (eVar 1) aNil)))) (tNot (tV (eCl dAll (aCons (eN (nComp [3] (iSeq (eVar 1)) (gN 3) tTrue A_check_floors_0)) aNil))))) (sRaise "Refused" (eVar 1)) sNx) (sRet (eCl dTuple (aCons (eN (nComp [4, 5] (iSeq (eVar 1)) (gTup 2 (gCons (gN 4) (gCons (gN 5) gNil))) tTrue A_check_floors_1)) aNil)))))
def F_check_floors : FnS := runF false 6 B_check_floors
theorem sc_check_floors : FnScope ["task", "value", "told", "floor", "rooms", "stair"] ["task", "value"] (defScope s_check_floors) := ⟨rfl, rfl, rfl, by decide +kernel, rfl, by decide +kernel, by decide +kernel⟩
theorem b_check_floors {P : Program} {w : World} {K : Fg} {mg : Str → Option Value} {base : Heap} {T0 : List (Addr × Str)} {cs0 : Str → Option (Value × Str)} {f : Addr} {cdv : Value} {Ar : Around} {outer : List Env} {s : Shared} {H : Hp} {E : XK} {O : AS} {W : WX} (T : Tx mg) (C_check_task : CalleeM P w K mg base 9 "check_task" ["value"] (spF K cs0 T0 false 1 F_check_task)) (C_is_floor : Callee P w K mg base 5 "is_floor" ["house", "value"] (spF K cs0 T0 false 2 F_is_floor)) (C_is_sequence : Callee P w K mg base 1 "is_sequence" ["value"] (spF K cs0 T0 false 1 F_is_sequence)) (E_Refused : Err P w K mg base cs0 "Refused") (hco : CodeOf K f cdv)
    (hr : Room 9 (Ar.deeper (envOfC "check_floors" (defScope s_check_floors) s.heap.objs.size f cdv))) (hgu : Ar.guards = some []) (tk : L2.Takes (cxOf (L2.CX P w) P w K mg base ["task", "value", "told", "floor", "rooms", "stair"] "check_floors" (defScope s_check_floors) f cdv Ar outer s H E) W) : DSs (cxOf (L2.CX P w) P w K mg base ["task", "value", "told", "floor", "rooms", "stair"] "check_floors" (defScope s_check_floors) f cdv Ar outer s H E) (gh K O false cs0 T0) W (defBody s_check_floors) B_check_floors :=
  have c : Cn true (cxOf (L2.CX P w) P w K mg base ["task", "value", "told", "floor", "rooms", "stair"] "check_floors" (defScope s_check_floors) f cdv Ar outer s H E) (gh K O false cs0 T0) W 9 := ⟨rfl, hr, hgu, tkN tk, fun _ => tk, rfl, sc_check_floors.nd⟩
  (ds_cons (s_asg c 2 (v_callM c C_check_task (da_cons (v_var 0) da_nil))) (ds_cons (ds_if (dt_bool (dw_or (dt_not (dt_val (v_call c C_is_sequence (da_cons (v_var 1) da_nil)))) (dw_or1 (dt_not (dt_val (v_all c T.z_all (da_cons (de_new (dn_comp [("floor", 3)] c.calm c.nd (di_seq c.K (v_var 1)) (blkOk_by (by kernel_rfl)) (by decide) ⟨fun O0 s0 H0 C0 cl0 fp0 => (g_name (c.blk O0 s0 H0 _ _ fp0) 3), fun O0 s0 H0 C0 cl0 fp0 => dts_nil, fun O0 s0 H0 C0 cl0 fp0 => (v_call (c.blk O0 s0 H0 _ _ fp0) C_is_floor (da_cons (v_ix (c.blk O0 s0 H0 _ _ fp0) (v_var 2) de_int) (da_cons (v_var 3) da_nil)))⟩)) da_nil))))))) (ds_one (s_raise c E_Refused (v_var 1))) ds_nil) (ds_one (ds_ret (v_tuple c T.z_tuple (da_cons (de_new (dn_comp [("rooms", 4), ("stair", 5)] c.calm c.nd (di_seq c.K (v_var 1)) (blkOk_by (by kernel_rfl)) (by decide) ⟨fun O0 s0 H0 C0 cl0 fp0 => (dg_tup c.K c.calm (dgs_cons (g_name (c.blk O0 s0 H0 _ _ fp0) 4) (dgs_cons (g_name (c.blk O0 s0 H0 _ _ fp0) 5) dgs_nil))), fun O0 s0 H0 C0 cl0 fp0 => dts_nil, fun O0 s0 H0 C0 cl0 fp0 => (de_tup (da_cons (v_tuple (c.blk O0 s0 H0 _ _ fp0) T.z_tuple (da_cons (v_var 4) da_nil)) (da_cons (v_var 5) da_nil)))⟩)) da_nil))))))
theorem ok_check_floors {P : Program} {w : World} {K : Fg} {mg : Str → Option Value} {base : Heap} {T0 : List (Addr × Str)} {cs0 : Str → Option (Value × Str)} {f : Addr} {fd : FuncData} (T : Tx mg) (C_check_task : CalleeM P w K mg base 9 "check_task" ["value"] (spF K cs0 T0 false 1 F_check_task)) (C_is_floor : Callee P w K mg base 5 "is_floor" ["house", "value"] (spF K cs0 T0 false 2 F_is_floor)) (C_is_sequence : Callee P w K mg base 1 "is_sequence" ["value"] (spF K cs0 T0 false 1 F_is_sequence)) (E_Refused : Err P w K mg base cs0 "Refused") (F : Fun K "check_floors" "check_floors" s_check_floors f fd) : FnM P w K mg base 10 f fd ["task", "value"] (spF K cs0 T0 false 2 F_check_floors) :=
  fn_dataC L2.Takes takM F sc_check_floors rfl fun cdv hco Ar outer s H E O W hr hg tk => b_check_floors T C_check_task C_is_floor C_is_sequence E_Refused hco hr hg tk
/-! ### check_floor -/
def B_check_floor : DSt := (sSeq (sAsg 2 (eCall 1 F_check_task (aCons (eVar 0) aNil))) (sSeq (sIf (tNot (tV (eCall 2 F_is_floor (aCons (eBin dIx (eVar 2) (eC (.int 0))) (aCons (eVar 1) aNil))))) (sRaise "Refused" (eVar 1)) sNx) (sRet (eCl mkT (aCons (eCl dTuple (aCons (eBin dIx (eVar 1) (eC (.int 0))) aNil)) (aCons (eBin dIx (eVar 1) (eC (.int 1))) aNil))))))
def F_check_floor : FnS := runF false 3 B_check_floor
theorem sc_check_floor : FnScope ["task", "value", "told"] ["task", "value"] (defScope s_check_floor) := ⟨rfl, rfl, rfl, by decide +kernel, rfl, by decide +kernel, by decide +kernel⟩
theorem b_check_floor {P : Program} {w : World} {K : Fg} {mg : Str → Option Value} {base : Heap} {T0 : List (Addr × Str)} {cs0 : Str → Option (Value × Str)} {f : Addr} {cdv : Value} {Ar : Around} {outer : List Env} {s : Shared} {H : Hp} {E : XK} {O : AS} {W : WX} (T : Tx mg) (C_check_task : CalleeM P w K mg base 9 "check_task" ["value"] (spF K cs0 T0 false 1 F_check_task)) (C_is_floor : Callee P w K mg base 5 "is_floor" ["house", "value"] (spF K cs0 T0 false 2 F_is_floor)) (E_Refused : Err P w K mg base cs0 "Refused") (hco : CodeOf K f cdv)
    (hr : Room 9 (Ar.deeper (envOfC "check_floor" (defScope s_check_floor) s.heap.objs.size f cdv))) (hgu : Ar.guards = some []) (tk : L2.Takes (cxOf (L2.CX P w) P w K mg base ["task", "value", "told"] "check_floor" (defScope s_check_floor) f cdv Ar outer s H E) W) : DSs (cxOf (L2.CX P w) P w K mg base ["task", "value", "told"] "check_floor" (defScope s_check_floor) f cdv Ar outer s H E) (gh K O false cs0 T0) W (defBody s_check_floor) B_check_floor :=
  have c : Cn true (cxOf (L2.CX P w) P w K mg base ["task", "value", "told"] "check_floor" (defScope s_check_floor) f cdv Ar outer s H E) (gh K O false cs0 T0) W 9 := ⟨rfl, hr, hgu, tkN tk, fun _ => tk, rfl, sc_check_floor.nd⟩
  (ds_cons (s_asg c 2 (v_callM c C_check_task (da_cons (v_var 0) da_nil))) (ds_cons (ds_if (dt_not (dt_val (v_call c C_is_floor (da_cons (v_ix c (v_var 2) de_int) (da_cons (v_var 1) da_nil))))) (ds_one (s_raise c E_Refused (v_var 1))) ds_nil) (ds_one (ds_ret (de_tup (da_cons (v_tuple c T.z_tuple (da_cons (v_ix c (v_var 1) de_int) da_nil)) (da_cons (v_ix c (v_var 1) de_int) da_nil)))))))
theorem ok_check_floor {P : Program} {w : World} {K : Fg} {mg : Str → Option Value} {base : Heap} {T0 : List (Addr × Str)} {cs0 : Str → Option (Value × Str)} {f : Addr} {fd : FuncData} (T : Tx mg) (C_check_task : CalleeM P w K mg base 9 "check_task" ["value"] (spF K cs0 T0 false 1 F_check_task)) (C_is_floor : Callee P w K mg base 5 "is_floor" ["house", "value"] (spF K cs0 T0 false 2 F_is_floor)) (E_Refused : Err P w K mg base cs0 "Refused") (F : Fun K "check_floor" "check_floor" s_check_floor f fd) : FnM P w K mg base 10 f fd ["task", "value"] (spF K cs0 T0 false 2 F_check_floor) :=
  fn_dataC L2.Takes takM F sc_check_floor rfl fun cdv hco Ar outer s H E O W hr hg tk => b_check_floor T C_check_task C_is_floor E_Refused hco hr hg tk
/-! ### shut_in_smoke -/
def A_shut_in_smoke_0 : DEn := (eVar 10)
def T_shut_in_smoke_0 : DTt := (tV (eBin dGe (eBin dAdd (eVar 10) (eVar 5)) (eVar 8)))
def A_shut_in_smoke_1 : DEn := (eVar 10)
def V_shut_in_smoke_1 : DEn := (eC (.bool true))
def B_shut_in_smoke : DSt := (sSeq (sUnp (gTup 5 (gCons (gN 3) (gCons (gN 4) (gCons (gN 5) (gCons (gN 6) (gCons (gN 7) gNil)))))) (eVar 1)) (sSeq (sAsg 8 (eBin dIx (eBin dIx (eVar 0) (eC (.int 2))) (eVar 2))) (sSeq (sIf (tOr (tV (eBin dIsN (eVar 8) (eC .none))) (tV (eBin dNe (eVar 4) (eVar 2)))) (sRet (eVar 1)) sNx) (sSeq (sAsg 9 (eN (nComp [10] (iR1 (eC (.int 60))) (gN 10) T_shut_in_smoke_0 A_shut_in_smoke_0))) (sRet (eCl mkT (aCons (eVar 3) (aCons (eVar 4) (aCons (eVar 5) (aCons (eVar 6) (aCons (eCl dTuple (aCons (eCl dSorted (aCons (eCl dList (aCons (eDc [10] (iSeq (eBin dAdd (eCl dList (aCons (eVar 7) aNil)) (eVar 9))) (gN 10) tTrue false A_shut_in_smoke_1 V_shut_in_smoke_1) aNil)) aNil)) aNil)) aNil)))))))))))
def F_shut_in_smoke : FnS := runF false 11 B_shut_in_smoke
theorem sc_shut_in_smoke : FnScope ["house", "passage", "room", "tail", "head", "length", "width", "shut", "smoke", "late", "beat"] ["house", "passage", "room"] (defScope s_shut_in_smoke) := ⟨rfl, rfl, rfl, by decide +kernel, rfl, by decide +kernel, by decide +kernel⟩
theorem b_shut_in_smoke {P : Program} {w : World} {K : Fg} {mg : Str → Option Value} {base : Heap} {T0 : List (Addr × Str)} {cs0 : Str → Option (Value × Str)} {f : Addr} {cdv : Value} {Ar : Around} {outer : List Env} {s : Shared} {H : Hp} {E : XK} {O : AS} {W : WX} (T : Tx mg)  (hco : CodeOf K f cdv)
    (hr : Room 0 (Ar.deeper (envOfC "shut_in_smoke" (defScope s_shut_in_smoke) s.heap.objs.size f cdv))) (hgu : Ar.guards = some []) (tk : L2N.Takes (cxOf (L2N.CX P w) P w K mg base ["house", "passage", "room", "tail", "head", "length", "width", "shut", "smoke", "late", "beat"] "shut_in_smoke" (defScope s_shut_in_smoke) f cdv Ar outer s H E) W) : DSs (cxOf (L2N.CX P w) P w K mg base ["house", "passage", "room", "tail", "head", "length", "width", "shut", "smoke", "late", "beat"] "shut_in_smoke" (defScope s_shut_in_smoke) f cdv Ar outer s H E) (gh K O false cs0 T0) W (defBody s_shut_in_smoke) B_shut_in_smoke :=
  have c : Cn false (cxOf (L2N.CX P w) P w K mg base ["house", "passage", "room", "tail", "head", "length", "width", "shut", "smoke", "late", "beat"] "shut_in_smoke" (defScope s_shut_in_smoke) f cdv Ar outer s H E) (gh K O false cs0 T0) W 0 := ⟨rfl, hr, hgu, tk, (fun z => nomatch z), rfl, sc_shut_in_smoke.nd⟩
  (ds_cons (ds_unp (v_var 1) (dg_tup c.K c.calm (dgs_cons (g_name c 3) (dgs_cons (g_name c 4) (dgs_cons (g_name c 5) (dgs_cons (g_name c 6) (dgs_cons (g_name c 7) dgs_nil))))))) (ds_cons (s_asg c 8 (v_ix c (v_ix c (v_var 0) de_int) (v_var 2))) (ds_cons (ds_if (dt_bool (dw_or (w_isn c (v_var 8) de_non) (dw_or1 (w_ne c (v_var 4) (v_var 2))))) (ds_one (ds_ret (v_var 1))) ds_nil) (ds_cons (ds_asgLc [("beat", 10)] 9 c.calm c.nd rfl rfl (sw_true rfl rfl rfl (by decide +kernel)) (di_r1 rfl T.z_range (v_gint c T.z_MOST_BEAT)) (blkOk_by (by kernel_rfl)) (by decide) ⟨fun O0 s0 H0 C0 cl0 fp0 => (g_name (c.blk O0 s0 H0 _ _ fp0) 10), fun O0 s0 H0 C0 cl0 fp0 => (dts_one (w_ge (c.blk O0 s0 H0 _ _ fp0) (v_add (c.blk O0 s0 H0 _ _ fp0) (v_var 10) (v_var 5)) (v_var 8))), fun O0 s0 H0 C0 cl0 fp0 => (v_var 10)⟩) (ds_one (ds_ret (de_tup (da_cons (v_var 3) (da_cons (v_var 4) (da_cons (v_var 5) (da_cons (v_var 6) (da_cons (v_tuple c T.z_tuple (da_cons (v_sorted c T.z_sorted (da_cons (v_list c T.z_list (da_cons (v_dcomp c false [("beat", 10)] (di_seq c.K (v_add c (v_list c T.z_list (da_cons (v_var 7) da_nil)) (v_var 9))) (blkOk_by (by kernel_rfl)) (by decide) ⟨fun O0 s0 H0 C0 cl0 fp0 => (g_name (c.blk O0 s0 H0 _ _ fp0) 10), fun O0 s0 H0 C0 cl0 fp0 => dts_nil, fun O0 s0 H0 C0 cl0 fp0 => (v_var 10), fun O0 s0 H0 C0 cl0 fp0 => de_bl⟩) da_nil)) da_nil)) da_nil)) da_nil))))))))))))
theorem ok_shut_in_smoke {P : Program} {w : World} {K : Fg} {mg : Str → Option Value} {base : Heap} {T0 : List (Addr × Str)} {cs0 : Str → Option (Value × Str)} {f : Addr} {fd : FuncData} (T : Tx mg)  (F : Fun K "shut_in_smoke" "shut_in_smoke" s_shut_in_smoke f fd) : FnG P w K mg base 1 f fd ["house", "passage", "room"] (spF K cs0 T0 false 3 F_shut_in_smoke) :=
  fn_dataC L2N.Takes takN F sc_shut_in_smoke rfl fun cdv hco Ar outer s H E O W hr hg tk => b_shut_in_smoke T hco hr hg tk
/-! ### floor_house -/
def A_floor_house_0 : DEn := (eVar 5)
def T_floor_house_0 : DTt := (tAnd (tV (eBin dIn (eBin dIx (eVar 5) (eC (.int 0))) (eVar 2))) (tAnd (tV (eBin dNe (eBin dIx (eVar 5) (eC (.int 0))) (eVar 3))) (tV (eBin dIn (eBin dIx (eVar 5) (eC (.int 1))) (eVar 2)))))
def A_floor_house_1 : DEn := (eIf (tV (eBin dEq (eVar 7) (eVar 3))) (eC (.int 1)) (eC (.int 0)))
def A_floor_house_2 : DEn := (eIf (tV (eBin dEq (eVar 7) (eVar 3))) (eC .none) (eVar 9))
def A_floor_house_3 : DEn := (eCall 3 F_shut_in_smoke (aCons (eVar 0) (aCons (eVar 5) (aCons (eVar 3) aNil))))
def B_floor_house : DSt := (sSeq (sUnp (gTup 2 (gCons (gN 2) (gCons (gN 3) gNil))) (eVar 1)) (sSeq (sAsg 4 (eN (nComp [5] (iSeq (eBin dIx (eVar 0) (eC (.int 1)))) (gN 5) T_floor_house_0 A_floor_house_0))) (sSeq (sAsg 6 (eCl dTuple (aCons (eN (nComp [7] (iR1 (eCl dLen (aCons (eBin dIx (eVar 0) (eC (.int 0))) aNil))) (gN 7) tTrue A_floor_house_1)) aNil))) (sSeq (sAsg 8 (eCl dTuple (aCons (eN (nComp [7, 9] (iEnu (eBin dIx (eVar 0) (eC (.int 2)))) (gTup 2 (gCons (gN 7) (gCons (gN 9) gNil))) tTrue A_floor_house_2)) aNil))) (sRet (eCl mkT (aCons (eVar 6) (aCons (eCl dTuple (aCons (eN (nComp [5] (iSeq (eVar 4)) (gN 5) tTrue A_floor_house_3)) aNil)) (aCons (eVar 8) aNil)))))))))
def F_floor_house : FnS := runF false 10 B_floor_house
theorem sc_floor_house : FnScope ["house", "floor", "rooms", "stair", "inside", "passage", "signs", "room", "smoke", "beat"] ["house", "floor"] (defScope s_floor_house) := ⟨rfl, rfl, rfl, by decide +kernel, rfl, by decide +kernel, by decide +kernel⟩
theorem b_floor_house {P : Program} {w : World} {K : Fg} {mg : Str → Option Value} {base : Heap} {T0 : List (Addr × Str)} {cs0 : Str → Option (Value × Str)} {f : Addr} {cdv : Value} {Ar : Around} {outer : List Env} {s : Shared} {H : Hp} {E : XK} {O : AS} {W : WX} (T : Tx mg) (C_shut_in_smoke : Callee P w K mg base 1 "shut_in_smoke" ["house", "passage", "room"] (spF K cs0 T0 false 3 F_shut_in_smoke)) (hco : CodeOf K f cdv)
    (hr : Room 1 (Ar.deeper (envOfC "floor_house" (defScope s_floor_house) s.heap.objs.size f cdv))) (hgu : Ar.guards = some []) (tk : L2N.Takes (cxOf (L2N.CX P w) P w K mg base ["house", "floor", "rooms", "stair", "inside", "passage", "signs", "room", "smoke", "beat"] "floor_house" (defScope s_floor_house) f cdv Ar outer s H E) W) : DSs (cxOf (L2N.CX P w) P w K mg base ["house", "floor", "rooms", "stair", "inside", "passage", "signs", "room", "smoke", "beat"] "floor_house" (defScope s_floor_house) f cdv Ar outer s H E) (gh K O false cs0 T0) W (defBody s_floor_house) B_floor_house :=
  have c : Cn false (cxOf (L2N.CX P w) P w K mg base ["house", "floor", "rooms", "stair", "inside", "passage", "signs", "room", "smoke", "beat"] "floor_house" (defScope s_floor_house) f cdv Ar outer s H E) (gh K O false cs0 T0) W 1 := ⟨rfl, hr, hgu, tk, (fun z => nomatch z), rfl, sc_floor_house.nd⟩
  (ds_cons (ds_unp (v_var 1) (dg_tup c.K c.calm (dgs_cons (g_name c 2) (dgs_cons (g_name c 3) dgs_nil)))) (ds_cons (ds_asgLc [("passage", 5)] 4 c.calm c.nd rfl rfl (sw_true rfl rfl rfl (by decide +kernel)) (di_seq c.K (v_ix c (v_var 0) de_int)) (blkOk_by (by kernel_rfl)) (by decide) ⟨fun O0 s0 H0 C0 cl0 fp0 => (g_name (c.blk O0 s0 H0 _ _ fp0) 5), fun O0 s0 H0 C0 cl0 fp0 => (dts_one (dt_bool (dw_and (w_in (c.blk O0 s0 H0 _ _ fp0) (v_ix (c.blk O0 s0 H0 _ _ fp0) (v_var 5) de_int) (v_var 2)) (dw_and (w_ne (c.blk O0 s0 H0 _ _ fp0) (v_ix (c.blk O0 s0 H0 _ _ fp0) (v_var 5) de_int) (v_var 3)) (dw_and1 (w_in (c.blk O0 s0 H0 _ _ fp0) (v_ix (c.blk O0 s0 H0 _ _ fp0) (v_var 5) de_int) (v_var 2))))))), fun O0 s0 H0 C0 cl0 fp0 => (v_var 5)⟩) (ds_cons (s_asg c 6 (v_tuple c T.z_tuple (da_cons (de_new (dn_comp [("room", 7)] c.calm c.nd (di_r1 rfl T.z_range (v_len c T.z_len (da_cons (v_ix c (v_var 0) de_int) da_nil))) (blkOk_by (by kernel_rfl)) (by decide) ⟨fun O0 s0 H0 C0 cl0 fp0 => (g_name (c.blk O0 s0 H0 _ _ fp0) 7), fun O0 s0 H0 C0 cl0 fp0 => dts_nil, fun O0 s0 H0 C0 cl0 fp0 => (de_if (w_eq (c.blk O0 s0 H0 _ _ fp0) (v_var 7) (v_var 3)) (v_gint (c.blk O0 s0 H0 _ _ fp0) T.z_WAY_OUT) de_int)⟩)) da_nil))) (ds_cons (s_asg c 8 (v_tuple c T.z_tuple (da_cons (de_new (dn_comp [("room", 7), ("beat", 9)] c.calm c.nd (di_enum c.K rfl T.z_enumerate (v_ix c (v_var 0) de_int)) (blkOk_by (by kernel_rfl)) (by decide) ⟨fun O0 s0 H0 C0 cl0 fp0 => (dg_tup c.K c.calm (dgs_cons (g_name (c.blk O0 s0 H0 _ _ fp0) 7) (dgs_cons (g_name (c.blk O0 s0 H0 _ _ fp0) 9) dgs_nil))), fun O0 s0 H0 C0 cl0 fp0 => dts_nil, fun O0 s0 H0 C0 cl0 fp0 => (de_if (w_eq (c.blk O0 s0 H0 _ _ fp0) (v_var 7) (v_var 3)) de_non (v_var 9))⟩)) da_nil))) (ds_one (ds_ret (de_tup (da_cons (v_var 6) (da_cons (v_tuple c T.z_tuple (da_cons (de_new (dn_comp [("passage", 5)] c.calm c.nd (di_seq c.K (v_var 4)) (blkOk_by (by kernel_rfl)) (by decide) ⟨fun O0 s0 H0 C0 cl0 fp0 => (g_name (c.blk O0 s0 H0 _ _ fp0) 5), fun O0 s0 H0 C0 cl0 fp0 => dts_nil, fun O0 s0 H0 C0 cl0 fp0 => (v_call (c.blk O0 s0 H0 _ _ fp0) C_shut_in_smoke (da_cons (v_var 0) (da_cons (v_var 5) (da_cons (v_var 3) da_nil))))⟩)) da_nil)) (da_cons (v_var 8) da_nil))))))))))
theorem ok_floor_house {P : Program} {w : World} {K : Fg} {mg : Str → Option Value} {base : Heap} {T0 : List (Addr × Str)} {cs0 : Str → Option (Value × Str)} {f : Addr} {fd : FuncData} (T : Tx mg) (C_shut_in_smoke : Callee P w K mg base 1 "shut_in_smoke" ["house", "passage", "room"] (spF K cs0 T0 false 3 F_shut_in_smoke)) (F : Fun K "floor_house" "floor_house" s_floor_house f fd) : FnG P w K mg base 2 f fd ["house", "floor"] (spF K cs0 T0 false 2 F_floor_house) :=
  fn_dataC L2N.Takes takN F sc_floor_house rfl fun cdv hco Ar outer s H E O W hr hg tk => b_floor_house T C_shut_in_smoke hco hr hg tk
/-! ### floor_task -/
def A_floor_task_0 : DEn := (eVar 11)
def T_floor_task_0 : DTt := (tV (eBin dIn (eBin dIx (eVar 11) (eC (.int 0))) (eVar 3)))
def A_floor_task_1 : DEn := (eVar 11)
def T_floor_task_1 : DTt := (tOr (tV (eBin dNe (eBin dIx (eVar 11) (eC (.int 0))) (eVar 4))) (tV (eBin dLt (eBin dIx (eVar 11) (eC (.int 1))) (eVar 9))))
def B_floor_task : DSt := (sSeq (sAsg 2 (eCall 1 F_check_task (aCons (eVar 0) aNil))) (sSeq (sUnp (gTup 2 (gCons (gN 3) (gCons (gN 4) gNil))) (eCall 2 F_check_floor (aCons (eVar 2) (aCons (eVar 1) aNil)))) (sSeq (sUnp (gTup 4 (gCons (gN 5) (gCons (gN 6) (gCons (gN 7) (gCons (gN 8) gNil))))) (eVar 2)) (sSeq (sAsg 9 (eBin dIx (eBin dIx (eVar 5) (eC (.int 2))) (eVar 4))) (sSeq (sAsg 10 (eN (nComp [11] (iSeq (eVar 6)) (gN 11) T_floor_task_0 A_floor_task_0))) (sSeq (sIf (tV (eBin dNotN (eVar 9) (eC .none))) (sAsg 10 (eN (nComp [11] (iSeq (eVar 10)) (gN 11) T_floor_task_1 A_floor_task_1))) sNx) (sRet (eCl mkT (aCons (eCall 2 F_floor_house (aCons (eVar 5) (aCons (eCl mkT (aCons (eVar 3) (aCons (eVar 4) aNil))) aNil))) (aCons (eCl dTuple (aCons (eVar 10) aNil)) (aCons (eVar 7) (aCons (eVar 8) aNil))))))))))))
def F_floor_task : FnS := runF false 12 B_floor_task
theorem sc_floor_task : FnScope ["task", "floor", "told", "rooms", "stair", "house", "people", "now", "end", "smoke", "some", "person"] ["task", "floor"] (defScope s_floor_task) := ⟨rfl, rfl, rfl, by decide +kernel, rfl, by decide +kernel, by decide +kernel⟩
theorem b_floor_task {P : Program} {w : World} {K : Fg} {mg : Str → Option Value} {base : Heap} {T0 : List (Addr × Str)} {cs0 : Str → Option (Value × Str)} {f : Addr} {cdv : Value} {Ar : Around} {outer : List Env} {s : Shared} {H : Hp} {E : XK} {O : AS} {W : WX} (T : Tx mg) (C_check_floor : CalleeM P w K mg base 10 "check_floor" ["task", "value"] (spF K cs0 T0 false 2 F_check_floor)) (C_check_task : CalleeM P w K mg base 9 "check_task" ["value"] (spF K cs0 T0 false 1 F_check_task)) (C_floor_house : Callee P w K mg base 2 "floor_house" ["house", "floor"] (spF K cs0 T0 false 2 F_floor_house)) (hco : CodeOf K f cdv)
    (hr : Room 10 (Ar.deeper (envOfC "floor_task" (defScope s_floor_task) s.heap.objs.size f cdv))) (hgu : Ar.guards = some []) (tk : L2.Takes (cxOf (L2.CX P w) P w K mg base ["task", "floor", "told", "rooms", "stair", "house", "people", "now", "end", "smoke", "some", "person"] "floor_task" (defScope s_floor_task) f cdv Ar outer s H E) W) : DSs (cxOf (L2.CX P w) P w K mg base ["task", "floor", "told", "rooms", "stair", "house", "people", "now", "end", "smoke", "some", "person"] "floor_task" (defScope s_floor_task) f cdv Ar outer s H E) (gh K O false cs0 T0) W (defBody s_floor_task) B_floor_task :=
  have c : Cn true (cxOf (L2.CX P w) P w K mg base ["task", "floor", "told", "rooms", "stair", "house", "people", "now", "end", "smoke", "some", "person"] "floor_task" (defScope s_floor_task) f cdv Ar outer s H E) (gh K O false cs0 T0) W 10 := ⟨rfl, hr, hgu, tkN tk, fun _ => tk, rfl, sc_floor_task.nd⟩
  (ds_cons (s_asg c 2 (v_callM c C_check_task (da_cons (v_var 0) da_nil))) (ds_cons (ds_unp (v_callM c C_check_floor (da_cons (v_var 2) (da_cons (v_var 1) da_nil))) (dg_tup c.K c.calm (dgs_cons (g_name c 3) (dgs_cons (g_name c 4) dgs_nil)))) (ds_cons (ds_unp (v_var 2) (dg_tup c.K c.calm (dgs_cons (g_name c 5) (dgs_cons (g_name c 6) (dgs_cons (g_name c 7) (dgs_cons (g_name c 8) dgs_nil)))))) (ds_cons (s_asg c 9 (v_ix c (v_ix c (v_var 5) de_int) (v_var 4))) (ds_cons (ds_asgLc [("person", 11)] 10 c.calm c.nd rfl rfl (sw_true rfl rfl rfl (by decide +kernel)) (di_seq c.K (v_var 6)) (blkOk_by (by kernel_rfl)) (by decide) ⟨fun O0 s0 H0 C0 cl0 fp0 => (g_name (c.blk O0 s0 H0 _ _ fp0) 11), fun O0 s0 H0 C0 cl0 fp0 => (dts_one (w_in (c.blk O0 s0 H0 _ _ fp0) (v_ix (c.blk O0 s0 H0 _ _ fp0) (v_var 11) de_int) (v_var 3))), fun O0 s0 H0 C0 cl0 fp0 => (v_var 11)⟩) (ds_cons (ds_if (w_isnot c (v_var 9) de_non) (ds_one (ds_asgLc [("person", 11)] 10 c.calm c.nd rfl rfl (sw_true rfl rfl rfl (by decide +kernel)) (di_seq c.K (v_var 10)) (blkOk_by (by kernel_rfl)) (by decide) ⟨fun O0 s0 H0 C0 cl0 fp0 => (g_name (c.blk O0 s0 H0 _ _ fp0) 11), fun O0 s0 H0 C0 cl0 fp0 => (dts_one (dt_bool (dw_or (w_ne (c.blk O0 s0 H0 _ _ fp0) (v_ix (c.blk O0 s0 H0 _ _ fp0) (v_var 11) de_int) (v_var 4)) (dw_or1 (w_lt (c.blk O0 s0 H0 _ _ fp0) (v_ix (c.blk O0 s0 H0 _ _ fp0) (v_var 11) de_int) (v_var 9)))))), fun O0 s0 H0 C0 cl0 fp0 => (v_var 11)⟩)) ds_nil) (ds_one (ds_ret (de_tup (da_cons (v_call c C_floor_house (da_cons (v_var 5) (da_cons (de_tup (da_cons (v_var 3) (da_cons (v_var 4) da_nil))) da_nil))) (da_cons (v_tuple c T.z_tuple (da_cons (v_var 10) da_nil)) (da_cons (v_var 7) (da_cons (v_var 8) da_nil)))))))))))))
theorem ok_floor_task {P : Program} {w : World} {K : Fg} {mg : Str → Option Value} {base : Heap} {T0 : List (Addr × Str)} {cs0 : Str → Option (Value × Str)} {f : Addr} {fd : FuncData} (T : Tx mg) (C_check_floor : CalleeM P w K mg base 10 "check_floor" ["task", "value"] (spF K cs0 T0 false 2 F_check_floor)) (C_check_task : CalleeM P w K mg base 9 "check_task" ["value"] (spF K cs0 T0 false 1 F_check_task)) (C_floor_house : Callee P w K mg base 2 "floor_house" ["house", "floor"] (spF K cs0 T0 false 2 F_floor_house)) (F : Fun K "floor_task" "floor_task" s_floor_task f fd) : FnM P w K mg base 11 f fd ["task", "floor"] (spF K cs0 T0 false 2 F_floor_task) :=
  fn_dataC L2.Takes takM F sc_floor_task rfl fun cdv hco Ar outer s H E O W hr hg tk => b_floor_task T C_check_floor C_check_task C_floor_house hco hr hg tk
/-! ### soonest -/
def F_soonest : FnS := fBad
theorem ok_soonest {P : Program} {w : World} {K : Fg} {mg : Str → Option Value} {base : Heap} {T0 : List (Addr × Str)} {cs0 : Str → Option (Value × Str)} {f : Addr} {fd : FuncData} (T : Tx mg) (F : Fun K "soonest" "soonest" s_soonest f fd) : FnM P w K mg base 1 f fd ["task"] (spF K cs0 T0 false 1 F_soonest) := fn_bad
/-! ### came_to -/
def B_came_to : DSt := (sRet (eCall 1 F_soonest (aCons (eCall 2 F_floor_task (aCons (eVar 0) (aCons (eVar 1) aNil))) aNil)))
def F_came_to : FnS := runF false 2 B_came_to
theorem sc_came_to : FnScope ["task", "floor"] ["task", "floor"] (defScope s_came_to) := ⟨rfl, rfl, rfl, by decide +kernel, rfl, by decide +kernel, by decide +kernel⟩
theorem b_came_to {P : Program} {w : World} {K : Fg} {mg : Str → Option Value} {base : Heap} {T0 : List (Addr × Str)} {cs0 : Str → Option (Value × Str)} {f : Addr} {cdv : Value} {Ar : Around} {outer : List Env} {s : Shared} {H : Hp} {E : XK} {O : AS} {W : WX} (T : Tx mg) (C_floor_task : CalleeM P w K mg base 11 "floor_task" ["task", "floor"] (spF K cs0 T0 false 2 F_floor_task)) (C_soonest : CalleeM P w K mg base 1 "soonest" ["task"] (spF K cs0 T0 false 1 F_soonest)) (hco : CodeOf K f cdv)
    (hr : Room 11 (Ar.deeper (envOfC "came_to" (defScope s_came_to) s.heap.objs.size f cdv))) (hgu : Ar.guards = some []) (tk : L2.Takes (cxOf (L2.CX P w) P w K mg base ["task", "floor"] "came_to" (defScope s_came_to) f cdv Ar outer s H E) W) : DSs (cxOf (L2.CX P w) P w K mg base ["task", "floor"] "came_to" (defScope s_came_to) f cdv Ar outer s H E) (gh K O false cs0 T0) W (defBody s_came_to) B_came_to :=
  have c : Cn true (cxOf (L2.CX P w) P w K mg base ["task", "floor"] "came_to" (defScope s_came_to) f cdv Ar outer s H E) (gh K O false cs0 T0) W 11 := ⟨rfl, hr, hgu, tkN tk, fun _ => tk, rfl, sc_came_to.nd⟩
  (ds_one (ds_ret (v_callM c C_soonest (da_cons (v_callM c C_floor_task (da_cons (v_var 0) (da_cons (v_var 1) da_nil))) da_nil))))
theorem ok_came_to {P : Program} {w : World} {K : Fg} {mg : Str → Option Value} {base : Heap} {T0 : List (Addr × Str)} {cs0 : Str → Option (Value × Str)} {f : Addr} {fd : FuncData} (T : Tx mg) (C_floor_task : CalleeM P w K mg base 11 "floor_task" ["task", "floor"] (spF K cs0 T0 false 2 F_floor_task)) (C_soonest : CalleeM P w K mg base 1 "soonest" ["task"] (spF K cs0 T0 false 1 F_soonest)) (F : Fun K "came_to" "came_to" s_came_to f fd) : FnM P w K mg base 12 f fd ["task", "floor"] (spF K cs0 T0 false 2 F_came_to) :=
  fn_dataC L2.Takes takM F sc_came_to rfl fun cdv hco Ar outer s H E O W hr hg tk => b_came_to T C_floor_task C_soonest hco hr hg tk
/-! ### rest_task -/
def A_rest_task_0 : DEn := (eVar 10)
def T_rest_task_0 : DTt := (tV (eBin dNotIn (eBin dIx (eVar 10) (eC (.int 0))) (eVar 3)))
def L_rest_task_0 : DSt := (sSeq (sExt 9 (eBin dMul (eCl mkL (aCons (eCl mkT (aCons (eVar 4) (aCons (eBin dAdd (eVar 7) (eVar 12)) (aCons (eC (.int 0)) aNil)))) aNil)) (eBin dSub (eVar 13) (eVar 11)))) (sAsg 11 (eVar 13)))
def B_rest_task : DSt := (sSeq (sAsg 2 (eCall 1 F_check_task (aCons (eVar 0) aNil))) (sSeq (sUnp (gTup 2 (gCons (gN 3) (gCons (gN 4) gNil))) (eCall 2 F_check_floor (aCons (eVar 2) (aCons (eVar 1) aNil)))) (sSeq (sUnp (gTup 4 (gCons (gN 5) (gCons (gN 6) (gCons (gN 7) (gCons (gN 8) gNil))))) (eVar 2)) (sSeq (sOwn 9 (nComp [10] (iSeq (eVar 6)) (gN 10) T_rest_task_0 A_rest_task_0)) (sSeq (sAsg 11 (eC (.int 0))) (sSeq (sFor (iEnu (eCall 2 F_came_to (aCons (eVar 2) (aCons (eVar 1) aNil)))) (gTup 2 (gCons (gN 12) (gCons (gN 13) gNil))) L_rest_task_0) (sRet (eCl mkT (aCons (eVar 5) (aCons (eCl dTuple (aCons (eVar 9) aNil)) (aCons (eVar 7) (aCons (eVar 8) aNil))))))))))))
def F_rest_task : FnS := runF false 14 B_rest_task
theorem sc_rest_task : FnScope ["task", "floor", "told", "rooms", "stair", "house", "people", "now", "end", "found", "person", "ahead", "at", "many"] ["task", "floor"] (defScope s_rest_task) := ⟨rfl, rfl, rfl, by decide +kernel, rfl, by decide +kernel, by decide +kernel⟩
theorem b_rest_task {P : Program} {w : World} {K : Fg} {mg : Str → Option Value} {base : Heap} {T0 : List (Addr × Str)} {cs0 : Str → Option (Value × Str)} {f : Addr} {cdv : Value} {Ar : Around} {outer : List Env} {s : Shared} {H : Hp} {E : XK} {O : AS} {W : WX} (T : Tx mg) (C_came_to : CalleeM P w K mg base 12 "came_to" ["task", "floor"] (spF K cs0 T0 false 2 F_came_to)) (C_check_floor : CalleeM P w K mg base 10 "check_floor" ["task", "value"] (spF K cs0 T0 false 2 F_check_floor)) (C_check_task : CalleeM P w K mg base 9 "check_task" ["value"] (spF K cs0 T0 false 1 F_check_task)) (hco : CodeOf K f cdv)
    (hr : Room 12 (Ar.deeper (envOfC "rest_task" (defScope s_rest_task) s.heap.objs.size f cdv))) (hgu : Ar.guards = some []) (tk : L2.Takes (cxOf (L2.CX P w) P w K mg base ["task", "floor", "told", "rooms", "stair", "house", "people", "now", "end", "found", "person", "ahead", "at", "many"] "rest_task" (defScope s_rest_task) f cdv Ar outer s H E) W) : DSs (cxOf (L2.CX P w) P w K mg base ["task", "floor", "told", "rooms", "stair", "house", "people", "now", "end", "found", "person", "ahead", "at", "many"] "rest_task" (defScope s_rest_task) f cdv Ar outer s H E) (gh K O false cs0 T0) W (defBody s_rest_task) B_rest_task :=
  have c : Cn true (cxOf (L2.CX P w) P w K mg base ["task", "floor", "told", "rooms", "stair", "house", "people", "now", "end", "found", "person", "ahead", "at", "many"] "rest_task" (defScope s_rest_task) f cdv Ar outer s H E) (gh K O false cs0 T0) W 12 := ⟨rfl, hr, hgu, tkN tk, fun _ => tk, rfl, sc_rest_task.nd⟩
  (ds_cons (s_asg c 2 (v_callM c C_check_task (da_cons (v_var 0) da_nil))) (ds_cons (ds_unp (v_callM c C_check_floor (da_cons (v_var 2) (da_cons (v_var 1) da_nil))) (dg_tup c.K c.calm (dgs_cons (g_name c 3) (dgs_cons (g_name c 4) dgs_nil)))) (ds_cons (ds_unp (v_var 2) (dg_tup c.K c.calm (dgs_cons (g_name c 5) (dgs_cons (g_name c 6) (dgs_cons (g_name c 7) (dgs_cons (g_name c 8) dgs_nil)))))) (ds_cons (ds_ownLc [("person", 10)] 9 c.calm c.nd rfl rfl (sw_true rfl rfl rfl (by decide +kernel)) (di_seq c.K (v_var 6)) (blkOk_by (by kernel_rfl)) (by decide) ⟨fun O0 s0 H0 C0 cl0 fp0 => (g_name (c.blk O0 s0 H0 _ _ fp0) 10), fun O0 s0 H0 C0 cl0 fp0 => (dts_one (w_notin (c.blk O0 s0 H0 _ _ fp0) (v_ix (c.blk O0 s0 H0 _ _ fp0) (v_var 10) de_int) (v_var 3))), fun O0 s0 H0 C0 cl0 fp0 => (v_var 10)⟩) (ds_cons (s_asg c 11 de_int) (ds_cons (ds_for (passes_of rfl) c.calm (di_enum c.K rfl T.z_enumerate (v_callM c C_came_to (da_cons (v_var 2) (da_cons (v_var 1) da_nil)))) (dg_tup c.K c.calm (dgs_cons (g_name c 12) (dgs_cons (g_name c 13) dgs_nil))) (ds_cons (s_ext 9 (v_mul c (de_lst (da_cons (de_tup (da_cons (v_var 4) (da_cons (v_add c (v_var 7) (v_var 12)) (da_cons de_int da_nil)))) da_nil)) (v_sub c (v_var 13) (v_var 11)))) (ds_one (s_asg c 11 (v_var 13))))) (ds_one (ds_ret (de_tup (da_cons (v_var 5) (da_cons (v_tuple c T.z_tuple (da_cons (v_var 9) da_nil)) (da_cons (v_var 7) (da_cons (v_var 8) da_nil)))))))))))))
theorem ok_rest_task {P : Program} {w : World} {K : Fg} {mg : Str → Option Value} {base : Heap} {T0 : List (Addr × Str)} {cs0 : Str → Option (Value × Str)} {f : Addr} {fd : FuncData} (T : Tx mg) (C_came_to : CalleeM P w K mg base 12 "came_to" ["task", "floor"] (spF K cs0 T0 false 2 F_came_to)) (C_check_floor : CalleeM P w K mg base 10 "check_floor" ["task", "value"] (spF K cs0 T0 false 2 F_check_floor)) (C_check_task : CalleeM P w K mg base 9 "check_task" ["value"] (spF K cs0 T0 false 1 F_check_task)) (F : Fun K "rest_task" "rest_task" s_rest_task f fd) : FnM P w K mg base 13 f fd ["task", "floor"] (spF K cs0 T0 false 2 F_rest_task) :=
  fn_dataC L2.Takes takM F sc_rest_task rfl fun cdv hco Ar outer s H E O W hr hg tk => b_rest_task T C_came_to C_check_floor C_check_task hco hr hg tk
/-! ### by_floors -/
def L_by_floors_0 : DSt := (sAsg 2 (eCall 2 F_rest_task (aCons (eVar 2) (aCons (eVar 3) aNil))))
def B_by_floors : DSt := (sSeq (sAsg 2 (eCall 1 F_check_task (aCons (eVar 0) aNil))) (sSeq (sFor (iSeq (eCall 2 F_check_floors (aCons (eVar 2) (aCons (eVar 1) aNil)))) (gN 3) L_by_floors_0) (sRet (eCall 1 F_soonest (aCons (eVar 2) aNil)))))
def F_by_floors : FnS := runF false 4 B_by_floors
theorem sc_by_floors : FnScope ["task", "floors", "here", "floor"] ["task", "floors"] (defScope s_by_floors) := ⟨rfl, rfl, rfl, by decide +kernel, rfl, by decide +kernel, by decide +kernel⟩
theorem b_by_floors {P : Program} {w : World} {K : Fg} {mg : Str → Option Value} {base : Heap} {T0 : List (Addr × Str)} {cs0 : Str → Option (Value × Str)} {f : Addr} {cdv : Value} {Ar : Around} {outer : List Env} {s : Shared} {H : Hp} {E : XK} {O : AS} {W : WX} (T : Tx mg) (C_check_floors : CalleeM P w K mg base 10 "check_floors" ["task", "value"] (spF K cs0 T0 false 2 F_check_floors)) (C_check_task : CalleeM P w K mg base 9 "check_task" ["value"] (spF K cs0 T0 false 1 F_check_task)) (C_rest_task : CalleeM P w K mg base 13 "rest_task" ["task", "floor"] (spF K cs0 T0 false 2 F_rest_task)) (C_soonest : CalleeM P w K mg base 1 "soonest" ["task"] (spF K cs0 T0 false 1 F_soonest)) (hco : CodeOf K f cdv)
    (hr : Room 13 (Ar.deeper (envOfC "by_floors" (defScope s_by_floors) s.heap.objs.size f cdv))) (hgu : Ar.guards = some []) (tk : L2.Takes (cxOf (L2.CX P w) P w K mg base ["task", "floors", "here", "floor"] "by_floors" (defScope s_by_floors) f cdv Ar outer s H E) W) : DSs (cxOf (L2.CX P w) P w K mg base ["task", "floors", "here", "floor"] "by_floors" (defScope s_by_floors) f cdv Ar outer s H E) (gh K O false cs0 T0) W (defBody s_by_floors) B_by_floors :=
  have c : Cn true (cxOf (L2.CX P w) P w K mg base ["task", "floors", "here", "floor"] "by_floors" (defScope s_by_floors) f cdv Ar outer s H E) (gh K O false cs0 T0) W 13 := ⟨rfl, hr, hgu, tkN tk, fun _ => tk, rfl, sc_by_floors.nd⟩
  (ds_cons (s_asg c 2 (v_callM c C_check_task (da_cons (v_var 0) da_nil))) (ds_cons (ds_for (passes_of rfl) c.calm (di_seq c.K (v_callM c C_check_floors (da_cons (v_var 2) (da_cons (v_var 1) da_nil)))) (g_name c 3) (ds_one (s_asg c 2 (v_callM c C_rest_task (da_cons (v_var 2) (da_cons (v_var 3) da_nil)))))) (ds_one (ds_ret (v_callM c C_soonest (da_cons (v_var 2) da_nil))))))
theorem ok_by_floors {P : Program} {w : World} {K : Fg} {mg : Str → Option Value} {base : Heap} {T0 : List (Addr × Str)} {cs0 : Str → Option (Value × Str)} {f : Addr} {fd : FuncData} (T : Tx mg) (C_check_floors : CalleeM P w K mg base 10 "check_floors" ["task", "value"] (spF K cs0 T0 false 2 F_check_floors)) (C_check_task : CalleeM P w K mg base 9 "check_task" ["value"] (spF K cs0 T0 false 1 F_check_task)) (C_rest_task : CalleeM P w K mg base 13 "rest_task" ["task", "floor"] (spF K cs0 T0 false 2 F_rest_task)) (C_soonest : CalleeM P w K mg base 1 "soonest" ["task"] (spF K cs0 T0 false 1 F_soonest)) (F : Fun K "by_floors" "by_floors" s_by_floors f fd) : FnM P w K mg base 14 f fd ["task", "floors"] (spF K cs0 T0 false 2 F_by_floors) :=
  fn_dataC L2.Takes takM F sc_by_floors rfl fun cdv hco Ar outer s H E O W hr hg tk => b_by_floors T C_check_floors C_check_task C_rest_task C_soonest hco hr hg tk
/-! ### _law_refused_right -/
def L__law_refused_right_0 : DSt := (sIf (tV (eBin dNe (eHeard TF__law_heard SB HS__law_heard (eCallV 3 [("check_floor", 2, F_check_floor), ("came_to", 2, F_came_to), ("rest_task", 2, F_rest_task)] (aCons (eVar 0) (aCons (eVar 1) aNil)))) (eVar 2))) (sRet (eC (.bool false))) sNx)
def B__law_refused_right : DSt := (sSeq (sAsg 2 (eCl mkT (aCons (eC (.str "refused")) (aCons (eCl dRepr (aCons (eVar 1) aNil)) (aCons (eC (.bool true)) aNil))))) (sSeq (sForFu 3 ["check_floor", "came_to", "rest_task"] L__law_refused_right_0) (sRet (eBin dEq (eHeard TF__law_heard SB HS__law_heard (eCall 2 F_by_floors (aCons (eVar 0) (aCons (eCl mkL (aCons (eVar 1) aNil)) aNil)))) (eCl mkT (aCons (eC (.str "refused")) (aCons (eCl dRepr (aCons (eCl mkL (aCons (eVar 1) aNil)) aNil)) (aCons (eC (.bool true)) aNil))))))))
def F__law_refused_right : FnS := runF false 4 B__law_refused_right
theorem sc__law_refused_right : FnScope ["_law_task", "_law_value", "_law_due", "_law_ask"] ["_law_task", "_law_value"] (defScope s__law_refused_right) := ⟨rfl, rfl, rfl, by decide +kernel, rfl, by decide +kernel, by decide +kernel⟩
theorem b__law_refused_right {P : Program} {w : World} {K : Fg} {mg : Str → Option Value} {base : Heap} {T0 : List (Addr × Str)} {cs0 : Str → Option (Value × Str)} {f : Addr} {cdv : Value} {Ar : Around} {outer : List Env} {s : Shared} {H : Hp} {E : XK} {O : AS} {W : WX} (T : Tx mg) (V_came_to : HeldM P w K mg base 12 cs0 T0 "came_to" 2 F_came_to) (V_check_floor : HeldM P w K mg base 10 cs0 T0 "check_floor" 2 F_check_floor) (V_rest_task : HeldM P w K mg base 13 cs0 T0 "rest_task" 2 F_rest_task) (C_by_floors : CalleeM P w K mg base 14 "by_floors" ["task", "floors"] (spF K cs0 T0 false 2 F_by_floors)) (H__law_heard : Hear P w K mg base cs0 SB "_law_heard" TF__law_heard HS__law_heard) (La : ∀ cd, CodeOf K f cd → LamAt mg base T0 (("_law_refused_right" : Str) ++ ".<locals>.") cd) (hco : CodeOf K f cdv)
    (hr : Room 16 (Ar.deeper (envOfC "_law_refused_right" (defScope s__law_refused_right) s.heap.objs.size f cdv))) (hgu : Ar.guards = some []) (tk : L2.Takes (cxOf (L2.CX P w) P w K mg base ["_law_task", "_law_value", "_law_due", "_law_ask"] "_law_refused_right" (defScope s__law_refused_right) f cdv Ar outer s H E) W) : DSs (cxOf (L2.CX P w) P w K mg base ["_law_task", "_law_value", "_law_due", "_law_ask"] "_law_refused_right" (defScope s__law_refused_right) f cdv Ar outer s H E) (gh K O false cs0 T0) W (defBody s__law_refused_right) B__law_refused_right :=
  have c : Cn true (cxOf (L2.CX P w) P w K mg base ["_law_task", "_law_value", "_law_due", "_law_ask"] "_law_refused_right" (defScope s__law_refused_right) f cdv Ar outer s H E) (gh K O false cs0 T0) W 16 := ⟨rfl, hr, hgu, tkN tk, fun _ => tk, rfl, sc__law_refused_right.nd⟩
  (ds_cons (s_asg c 2 (de_tup (da_cons de_str (da_cons (v_repr c T.z_repr (da_cons (v_var 1) da_nil)) (da_cons de_bl da_nil))))) (ds_cons (s_forFu c (passes_of rfl) 3 (nfu_cons V_check_floor (nfu_cons V_came_to (nfu_cons V_rest_task nfu_nil))) (by decide) (ds_one (ds_if (w_ne c (v_heard (j := 13) c H__law_heard (La _ hco) (by kernel_rfl) fun A2 o2 s2 H2 E2 f2 c2 z => (v_callV z 3 (held_cons (V_check_floor.mono (by decide)) (held_cons (V_came_to.mono (by decide)) (held_cons (V_rest_task.mono (by decide)) held_nil))) (da_cons (v_var 0) (da_cons (v_var 1) da_nil)))) (v_var 2)) (ds_one (ds_ret de_bl)) ds_nil))) (ds_one (ds_ret (v_eq c (v_heard (j := 14) c H__law_heard (La _ hco) (by kernel_rfl) fun A2 o2 s2 H2 E2 f2 c2 z => (v_callM z C_by_floors (da_cons (v_var 0) (da_cons (de_lst (da_cons (v_var 1) da_nil)) da_nil)))) (de_tup (da_cons de_str (da_cons (v_repr c T.z_repr (da_cons (de_lst (da_cons (v_var 1) da_nil)) da_nil)) (da_cons de_bl da_nil)))))))))
theorem ok__law_refused_right {P : Program} {w : World} {K : Fg} {mg : Str → Option Value} {base : Heap} {T0 : List (Addr × Str)} {cs0 : Str → Option (Value × Str)} {f : Addr} {fd : FuncData} (T : Tx mg) (V_came_to : HeldM P w K mg base 12 cs0 T0 "came_to" 2 F_came_to) (V_check_floor : HeldM P w K mg base 10 cs0 T0 "check_floor" 2 F_check_floor) (V_rest_task : HeldM P w K mg base 13 cs0 T0 "rest_task" 2 F_rest_task) (C_by_floors : CalleeM P w K mg base 14 "by_floors" ["task", "floors"] (spF K cs0 T0 false 2 F_by_floors)) (H__law_heard : Hear P w K mg base cs0 SB "_law_heard" TF__law_heard HS__law_heard) (La : ∀ cd, CodeOf K f cd → LamAt mg base T0 (("_law_refused_right" : Str) ++ ".<locals>.") cd) (F : Fun K "_law_refused_right" "_law_refused_right" s__law_refused_right f fd) : FnM P w K mg base 17 f fd ["_law_task", "_law_value"] (spF K cs0 T0 false 2 F__law_refused_right) :=
  fn_dataC L2.Takes takM F sc__law_refused_right rfl fun cdv hco Ar outer s H E O W hr hg tk => b__law_refused_right T V_came_to V_check_floor V_rest_task C_by_floors H__law_heard La hco hr hg tk
/-! ### law -/
def A_law_0 : DEn := (eVar 8)
def T_law_0 : DTt := (tV (eBin dEq (eCallB 1 2 F__law_take (aCons (eC (.int 2)) aNil)) (eC (.int 0))))
def L_law_0 : DSt := (sSeq (sAsg 7 (eCl dTuple (aCons (eN (nComp [8] (iR1 (eCl dLen (aCons (eBin dIx (eVar 3) (eC (.int 0))) aNil))) (gN 8) T_law_0 A_law_0)) aNil))) (sSeq (sAsg 9 (eCallB 1 2 F__law_take (aCons (eCl dLen (aCons (eBin dIx (eVar 3) (eC (.int 0))) aNil)) aNil))) (sIf (tV (eCall 3 F__law_is_floor (aCons (eVar 3) (aCons (eVar 7) (aCons (eVar 9) aNil))))) (sIf (tV (eBin dNe (eHeard TF__law_heard SB HS__law_heard (eCallK 2 [1, 0] F_check_floor (aCons (eCl mkL (aCons (eCl dList (aCons (eVar 7) aNil)) (aCons (eVar 9) aNil))) (aCons (eVar 5) aNil)))) (eCl mkT (aCons (eC (.str "told")) (aCons (eCl mkT (aCons (eVar 7) (aCons (eVar 9) aNil))) aNil))))) (sRet (eC (.bool false))) sNx) (sIf (tNot (tV (eCall 2 F__law_refused_right (aCons (eVar 5) (aCons (eCl mkT (aCons (eVar 7) (aCons (eVar 9) aNil))) aNil))))) (sRet (eC (.bool false))) sNx))))
def L_law_1 : DSt := (sIf (tV (eBin dNe (eHeard TF__law_heard SB HS__law_heard (eCallV 12 [("check_floor", 2, F_check_floor), ("came_to", 2, F_came_to), ("rest_task", 2, F_rest_task), ("by_floors", 2, F_by_floors)] (aCons (eVar 11) (aCons (eVar 10) aNil)))) (eCl mkT (aCons (eC (.str "refused")) (aCons (eCl dRepr (aCons (eVar 11) aNil)) (aCons (eC (.bool true)) aNil)))))) (sRet (eC (.bool false))) sNx)
def L_law_2 : DSt := (sSeq (sBox 2 0 F__law_box (eVar 1)) (sSeq (sPar [3, 4] [.fr (eCallB 1 2 F__law_house (aCons (eC (.int 4)) aNil)), .fr (eCallB 1 2 F__law_take (aCons (eC (.int 3)) aNil))]) (sSeq (sAsg 5 (eCl mkT (aCons (eVar 3) (aCons (eCallB 3 2 F__law_people (aCons (eVar 3) (aCons (eVar 4) (aCons (eCallB 1 2 F__law_take (aCons (eC (.int 4)) aNil)) aNil)))) (aCons (eVar 4) (aCons (eBin dAdd (eVar 4) (eCallB 1 2 F__law_take (aCons (eC (.int 6)) aNil))) aNil)))))) (sSeq (sFor (iR1 (eC (.int 6))) (gN 6) L_law_0) (sSeq (sAsg 10 (eCallB 1 2 F__law_pick (aCons (eCl mkL (aCons (eC .none) (aCons (eC (.int 5)) (aCons (eCl mkT aNil) (aCons (eCl mkT (aCons (eCl mkT aNil) aNil)) (aCons (eCl mkT (aCons (eCl mkT aNil) (aCons (eC (.int 0)) aNil))) (aCons (eCl mkT (aCons (eCl mkT (aCons (eC (.int 0)) aNil)) (aCons (eC .none) aNil))) (aCons (eCl mkT (aCons (eCl mkT (aCons (eC (.int 0)) (aCons (eC (.int 0)) aNil))) (aCons (eC (.int 0)) aNil))) (aCons (eCl mkT (aCons (eCl mkT (aCons (eC (.int 1)) (aCons (eC (.int 0)) aNil))) (aCons (eC (.int 0)) aNil))) (aCons (eCl mkT (aCons (eC .none) (aCons (eC (.int 0)) aNil))) (aCons (eCl mkT (aCons (eCl mkT (aCons (eC (.int 0)) aNil)) (aCons (eC (.bool true)) aNil))) (aCons (eC (.str "01")) aNil)))))))))))) aNil))) (sSeq (sIf (tNot (tV (eCall 2 F__law_refused_right (aCons (eVar 5) (aCons (eVar 10) aNil))))) (sRet (eC (.bool false))) sNx) (sSeq (sAsg 11 (eCallB 1 2 F__law_pick (aCons (eCl mkL (aCons (eC .none) (aCons (eC (.int 5)) (aCons (eSl (eVar 5) oNo (oSo (eC (.int 3)))) (aCons (eBin dAdd (eSl (eVar 5) oNo (oSo (eC (.int 3)))) (eCl mkT (aCons (eC (.int 60)) aNil))) (aCons (eCl mkT (aCons (eVar 3) (aCons (eBin dIx (eVar 5) (eC (.int 1))) (aCons (eBin dAdd (eBin dIx (eVar 5) (eC (.int 3))) (eC (.int 1))) (aCons (eBin dIx (eVar 5) (eC (.int 3))) aNil))))) aNil)))))) aNil))) (sSeq (sForFu 12 ["check_floor", "came_to", "rest_task", "by_floors"] L_law_1) (sSeq (sAsg 13 (eCallB 1 2 F__law_pick (aCons (eCl mkL (aCons (eC .none) (aCons (eC (.int 5)) (aCons (eC (.str "0")) (aCons (eCl mkL (aCons (eC .none) aNil)) (aCons (eCl mkL (aCons (eCl mkT (aCons (eCl mkT aNil) (aCons (eC (.int 0)) aNil))) aNil)) aNil)))))) aNil))) (sIf (tV (eBin dNe (eHeard TF__law_heard SB HS__law_heard (eCall 2 F_by_floors (aCons (eVar 5) (aCons (eVar 13) aNil)))) (eCl mkT (aCons (eC (.str "refused")) (aCons (eCl dRepr (aCons (eVar 13) aNil)) (aCons (eC (.bool true)) aNil)))))) (sRet (eC (.bool false))) sNx))))))))))
def B_law : DSt := (sSeq (sFor (iR1 (eCl dMaxL (aCons (eC (.int 5)) (aCons (eCl dMinL (aCons (eSqLen 0) (aCons (eC (.int 12)) aNil))) aNil)))) (gN 1) L_law_2) (sRet (eC (.bool true))))
theorem sc_law : FnScope ["_law_script", "_law_k", "_law_box_here", "_law_house_here", "_law_now", "_law_task", "_law_turn", "_law_rooms", "_law_room", "_law_stair", "_law_odd", "_law_bad", "_law_ask", "_law_some"] ["_law_script"] (defScope s_law) := ⟨rfl, rfl, rfl, by decide +kernel, rfl, by decide +kernel, by decide +kernel⟩
theorem b_law {P : Program} {w : World} {K : Fg} {mg : Str → Option Value} {base : Heap} {T0 : List (Addr × Str)} {cs0 : Str → Option (Value × Str)} {f : Addr} {cdv : Value} {Ar : Around} {outer : List Env} {s : Shared} {H : Hp} {E : XK} {O : AS} {W : WX} (T : Tx mg) (V_by_floors : HeldM P w K mg base 14 cs0 T0 "by_floors" 2 F_by_floors) (V_came_to : HeldM P w K mg base 12 cs0 T0 "came_to" 2 F_came_to) (V_check_floor : HeldM P w K mg base 10 cs0 T0 "check_floor" 2 F_check_floor) (C_check_floor_value_task : CalleeKM P w K mg base 10 "check_floor" ["task", "value"] ["value", "task"] [1, 0] (spF K cs0 T0 false 2 F_check_floor)) (V_rest_task : HeldM P w K mg base 13 cs0 T0 "rest_task" 2 F_rest_task) (C__law_box : Callee P w K mg base 1 "_law_box" ["_law_script", "_law_k"] (spBx K F__law_box)) (C__law_house : Callee P w K mg base 3 "_law_house" ["_law_box_here", "_law_most_here"] (spF K cs0 T0 true 1 F__law_house)) (C__law_is_floor : Callee P w K mg base 1 "_law_is_floor" ["_law_house_here", "_law_rooms", "_law_stair"] (spF K cs0 T0 false 3 F__law_is_floor)) (C__law_people : Callee P w K mg base 3 "_law_people" ["_law_box_here", "_law_house_here", "_law_now", "_law_many"] (spF K cs0 T0 true 3 F__law_people)) (C__law_pick : Callee P w K mg base 2 "_law_pick" ["_law_box_here", "_law_some"] (spF K cs0 T0 true 1 F__law_pick)) (C__law_refused_right : CalleeM P w K mg base 17 "_law_refused_right" ["_law_task", "_law_value"] (spF K cs0 T0 false 2 F__law_refused_right)) (C__law_take : Callee P w K mg base 1 "_law_take" ["_law_box_here", "_law_many"] (spF K cs0 T0 true 1 F__law_take)) (C_by_floors : CalleeM P w K mg base 14 "by_floors" ["task", "floors"] (spF K cs0 T0 false 2 F_by_floors)) (H__law_heard : Hear P w K mg base cs0 SB "_law_heard" TF__law_heard HS__law_heard) (La : ∀ cd, CodeOf K f cd → LamAt mg base T0 (("law" : Str) ++ ".<locals>.") cd) (hco : CodeOf K f cdv)
    (hr : Room 17 (Ar.deeper (envOfC "law" (defScope s_law) s.heap.objs.size f cdv))) (hgu : Ar.guards = some []) (tk : L2.Takes (cxOf (L2.CX P w) P w K mg base ["_law_script", "_law_k", "_law_box_here", "_law_house_here", "_law_now", "_law_task", "_law_turn", "_law_rooms", "_law_room", "_law_stair", "_law_odd", "_law_bad", "_law_ask", "_law_some"] "law" (defScope s_law) f cdv Ar outer s H E) W) : DSs (cxOf (L2.CX P w) P w K mg base ["_law_script", "_law_k", "_law_box_here", "_law_house_here", "_law_now", "_law_task", "_law_turn", "_law_rooms", "_law_room", "_law_stair", "_law_odd", "_law_bad", "_law_ask", "_law_some"] "law" (defScope s_law) f cdv Ar outer s H E) (gh K O true cs0 T0) W (defBody s_law) B_law :=
  have c : Cn true (cxOf (L2.CX P w) P w K mg base ["_law_script", "_law_k", "_law_box_here", "_law_house_here", "_law_now", "_law_task", "_law_turn", "_law_rooms", "_law_room", "_law_stair", "_law_odd", "_law_bad", "_law_ask", "_law_some"] "law" (defScope s_law) f cdv Ar outer s H E) (gh K O true cs0 T0) W 17 := ⟨rfl, hr, hgu, tkN tk, fun _ => tk, rfl, sc_law.nd⟩
  (ds_cons (ds_for (passes_of rfl) c.calm (di_r1 rfl T.z_range (v_max c T.z_max (da_cons de_int (da_cons (v_min c T.z_min (da_cons (de_sqLen 0 c.K rfl (.inl rfl) rfl T.z_len (by decide +kernel)) (da_cons de_int da_nil))) da_nil)))) (g_name c 1) (ds_cons (v_box c 2 0 rfl C__law_box (v_var 1)) (ds_cons (ds_par2 3 4 c.calm c.nd rfl rfl (by decide) rfl rfl (dp_fr (fun O => (v_callX (c.wo O) 2 C__law_house (da_cons de_int da_nil))) (dp_fr (fun O => (v_callX (c.wo O) 2 C__law_take (da_cons de_int da_nil))) dp_nil)) rfl) (ds_cons (s_asg c 5 (de_tup (da_cons (v_var 3) (da_cons (v_callX c 2 C__law_people (da_cons (v_var 3) (da_cons (v_var 4) (da_cons (v_callX c 2 C__law_take (da_cons de_int da_nil)) da_nil)))) (da_cons (v_var 4) (da_cons (v_add c (v_var 4) (v_callX c 2 C__law_take (da_cons de_int da_nil))) da_nil)))))) (ds_cons (ds_for (passes_of rfl) c.calm (di_r1 rfl T.z_range de_int) (g_name c 6) (ds_cons (s_asg c 7 (v_tuple c T.z_tuple (da_cons (de_new (dn_comp [("_law_room", 8)] c.calm c.nd (di_r1 rfl T.z_range (v_len c T.z_len (da_cons (v_ix c (v_var 3) de_int) da_nil))) (blkOk_by (by kernel_rfl)) (by decide) ⟨fun O0 s0 H0 C0 cl0 fp0 => (g_name (c.blk O0 s0 H0 _ _ fp0) 8), fun O0 s0 H0 C0 cl0 fp0 => (dts_one (w_eq (c.blk O0 s0 H0 _ _ fp0) (v_callX (c.blk O0 s0 H0 _ _ fp0) 2 C__law_take (da_cons de_int da_nil)) de_int)), fun O0 s0 H0 C0 cl0 fp0 => (v_var 8)⟩)) da_nil))) (ds_cons (s_asg c 9 (v_callX c 2 C__law_take (da_cons (v_len c T.z_len (da_cons (v_ix c (v_var 3) de_int) da_nil)) da_nil))) (ds_one (ds_if (dt_val (v_call c C__law_is_floor (da_cons (v_var 3) (da_cons (v_var 7) (da_cons (v_var 9) da_nil))))) (ds_one (ds_if (w_ne c (v_heard (j := 10) c H__law_heard (La _ hco) (by kernel_rfl) fun A2 o2 s2 H2 E2 f2 c2 z => (v_callKM z C_check_floor_value_task (dk_cons (de_lst (da_cons (v_list z T.z_list (da_cons (v_var 7) da_nil)) (da_cons (v_var 9) da_nil))) (dk_cons (v_var 5) dk_nil)))) (de_tup (da_cons de_str (da_cons (de_tup (da_cons (v_var 7) (da_cons (v_var 9) da_nil))) da_nil)))) (ds_one (ds_ret de_bl)) ds_nil)) (ds_one (ds_if (dt_not (dt_val (v_callM c C__law_refused_right (da_cons (v_var 5) (da_cons (de_tup (da_cons (v_var 7) (da_cons (v_var 9) da_nil))) da_nil))))) (ds_one (ds_ret de_bl)) ds_nil))))))) (ds_cons (s_asg c 10 (v_callX c 2 C__law_pick (da_cons (de_lst (da_cons de_non (da_cons de_int (da_cons (de_tup da_nil) (da_cons (de_tup (da_cons (de_tup da_nil) da_nil)) (da_cons (de_tup (da_cons (de_tup da_nil) (da_cons de_int da_nil))) (da_cons (de_tup (da_cons (de_tup (da_cons de_int da_nil)) (da_cons de_non da_nil))) (da_cons (de_tup (da_cons (de_tup (da_cons de_int (da_cons de_int da_nil))) (da_cons de_int da_nil))) (da_cons (de_tup (da_cons (de_tup (da_cons de_int (da_cons de_int da_nil))) (da_cons de_int da_nil))) (da_cons (de_tup (da_cons de_non (da_cons de_int da_nil))) (da_cons (de_tup (da_cons (de_tup (da_cons de_int da_nil)) (da_cons de_bl da_nil))) (da_cons de_str da_nil)))))))))))) da_nil))) (ds_cons (ds_if (dt_not (dt_val (v_callM c C__law_refused_right (da_cons (v_var 5) (da_cons (v_var 10) da_nil))))) (ds_one (ds_ret de_bl)) ds_nil) (ds_cons (s_asg c 11 (v_callX c 2 C__law_pick (da_cons (de_lst (da_cons de_non (da_cons de_int (da_cons (de_sl c.K (v_var 5) do_no (do_so de_int)) (da_cons (v_add c (de_sl c.K (v_var 5) do_no (do_so de_int)) (de_tup (da_cons de_int da_nil))) (da_cons (de_tup (da_cons (v_var 3) (da_cons (v_ix c (v_var 5) de_int) (da_cons (v_add c (v_ix c (v_var 5) de_int) de_int) (da_cons (v_ix c (v_var 5) de_int) da_nil))))) da_nil)))))) da_nil))) (ds_cons (s_forFu c (passes_of rfl) 12 (nfu_cons V_check_floor (nfu_cons V_came_to (nfu_cons V_rest_task (nfu_cons V_by_floors nfu_nil)))) (by decide) (ds_one (ds_if (w_ne c (v_heard (j := 14) c H__law_heard (La _ hco) (by kernel_rfl) fun A2 o2 s2 H2 E2 f2 c2 z => (v_callV z 12 (held_cons (V_check_floor.mono (by decide)) (held_cons (V_came_to.mono (by decide)) (held_cons (V_rest_task.mono (by decide)) (held_cons (V_by_floors.mono (by decide)) held_nil)))) (da_cons (v_var 11) (da_cons (v_var 10) da_nil)))) (de_tup (da_cons de_str (da_cons (v_repr c T.z_repr (da_cons (v_var 11) da_nil)) (da_cons de_bl da_nil))))) (ds_one (ds_ret de_bl)) ds_nil))) (ds_cons (s_asg c 13 (v_callX c 2 C__law_pick (da_cons (de_lst (da_cons de_non (da_cons de_int (da_cons de_str (da_cons (de_lst (da_cons de_non da_nil)) (da_cons (de_lst (da_cons (de_tup (da_cons (de_tup da_nil) (da_cons de_int da_nil))) da_nil)) da_nil)))))) da_nil))) (ds_one (ds_if (w_ne c (v_heard (j := 14) c H__law_heard (La _ hco) (by kernel_rfl) fun A2 o2 s2 H2 E2 f2 c2 z => (v_callM z C_by_floors (da_cons (v_var 5) (da_cons (v_var 13) da_nil)))) (de_tup (da_cons de_str (da_cons (v_repr c T.z_repr (da_cons (v_var 13) da_nil)) (da_cons de_bl da_nil))))) (ds_one (ds_ret de_bl)) ds_nil)))))))))))) (ds_one (ds_ret de_bl)))
theorem ok_law {P : Program} {w : World} {K : Fg} {mg : Str → Option Value} {base : Heap} {T0 : List (Addr × Str)} {cs0 : Str → Option (Value × Str)} {f : Addr} {fd : FuncData} (tot : ∀ ns : List Int, ns.length ≤ 63 → Post (fun o => ∃ en, o = Out.rt (.bool true) en) (fun _ _ _ => False) (B_law ⟨.sq ns :: List.replicate 13 .no, (0, 0)⟩)) (T : Tx mg) (V_by_floors : HeldM P w K mg base 14 cs0 T0 "by_floors" 2 F_by_floors) (V_came_to : HeldM P w K mg base 12 cs0 T0 "came_to" 2 F_came_to) (V_check_floor : HeldM P w K mg base 10 cs0 T0 "check_floor" 2 F_check_floor) (C_check_floor_value_task : CalleeKM P w K mg base 10 "check_floor" ["task", "value"] ["value", "task"] [1, 0] (spF K cs0 T0 false 2 F_check_floor)) (V_rest_task : HeldM P w K mg base 13 cs0 T0 "rest_task" 2 F_rest_task) (C__law_box : Callee P w K mg base 1 "_law_box" ["_law_script", "_law_k"] (spBx K F__law_box)) (C__law_house : Callee P w K mg base 3 "_law_house" ["_law_box_here", "_law_most_here"] (spF K cs0 T0 true 1 F__law_house)) (C__law_is_floor : Callee P w K mg base 1 "_law_is_floor" ["_law_house_here", "_law_rooms", "_law_stair"] (spF K cs0 T0 false 3 F__law_is_floor)) (C__law_people : Callee P w K mg base 3 "_law_people" ["_law_box_here", "_law_house_here", "_law_now", "_law_many"] (spF K cs0 T0 true 3 F__law_people)) (C__law_pick : Callee P w K mg base 2 "_law_pick" ["_law_box_here", "_law_some"] (spF K cs0 T0 true 1 F__law_pick)) (C__law_refused_right : CalleeM P w K mg base 17 "_law_refused_right" ["_law_task", "_law_value"] (spF K cs0 T0 false 2 F__law_refused_right)) (C__law_take : Callee P w K mg base 1 "_law_take" ["_law_box_here", "_law_many"] (spF K cs0 T0 true 1 F__law_take)) (C_by_floors : CalleeM P w K mg base 14 "by_floors" ["task", "floors"] (spF K cs0 T0 false 2 F_by_floors)) (H__law_heard : Hear P w K mg base cs0 SB "_law_heard" TF__law_heard HS__law_heard) (La : ∀ cd, CodeOf K f cd → LamAt mg base T0 (("law" : Str) ++ ".<locals>.") cd) (F : Fun K "law" "law" s_law f fd) : FnM P w K mg base 18 f fd ["_law_script"] (spLaw K T0 63) :=
  fn_law cs0 F sc_law rfl tot fun cdv hco Ar outer s H E W hr hg tk => b_law T V_by_floors V_came_to V_check_floor C_check_floor_value_task V_rest_task C__law_box C__law_house C__law_is_floor C__law_people C__law_pick C__law_refused_right C__law_take C_by_floors H__law_heard La hco hr hg tk
theorem is_BadHouse : InitS "at" "at" s_BadHouse := by
  refine ⟨⟨_, _, _, _, _, _, _, _, _, _, _, _, rfl, fun env => ⟨_, rfl⟩⟩, ⟨_, rfl, rfl⟩, by decide +kernel, fun qual dV kV doc pm ct an cda cc a b h => ?_⟩
  subst h
  rfl
theorem is_BadPeople : InitS "at" "at" s_BadPeople := by
  refine ⟨⟨_, _, _, _, _, _, _, _, _, _, _, _, rfl, fun env => ⟨_, rfl⟩⟩, ⟨_, rfl, rfl⟩, by decide +kernel, fun qual dV kV doc pm ct an cda cc a b h => ?_⟩
  subst h
  rfl
theorem is_Refused : InitS "at" "at" s_Refused := by
  refine ⟨⟨_, _, _, _, _, _, _, _, _, _, _, _, rfl, fun env => ⟨_, rfl⟩⟩, ⟨_, rfl, rfl⟩, by decide +kernel, fun qual dV kV doc pm ct an cda cc a b h => ?_⟩
  subst h
  rfl
/-! ### the assembly -/
theorem all_mk {l : PySem.W.OpenLaw} {w : World} {K : Fg} {h : Heap} {mg : Str → Option Value} {fa : Addr} {lc0 lp0 : Addr} {lc1 lp1 : Addr} {f0 : Addr} {od0 an0 : Option Addr} {sl0 : Array (Option Value)} {oc0 kV0 dc0 pm0 cd0 ct0 : Value} {f1 : Addr} {od1 an1 : Option Addr} {sl1 : Array (Option Value)} {oc1 kV1 dc1 pm1 cd1 ct1 : Value} {f2 : Addr} {od2 an2 : Option Addr} {sl2 : Array (Option Value)} {oc2 kV2 dc2 pm2 cd2 ct2 : Value} {f3 : Addr} {od3 an3 : Option Addr} {sl3 : Array (Option Value)} {oc3 kV3 dc3 pm3 cd3 ct3 : Value} {f4 : Addr} {od4 an4 : Option Addr} {sl4 : Array (Option Value)} {oc4 kV4 dc4 pm4 cd4 ct4 : Value} {f5 : Addr} {od5 an5 : Option Addr} {sl5 : Array (Option Value)} {oc5 kV5 dc5 pm5 cd5 ct5 : Value} {f6 : Addr} {od6 an6 : Option Addr} {sl6 : Array (Option Value)} {oc6 kV6 dc6 pm6 cd6 ct6 : Value} {f7 : Addr} {od7 an7 : Option Addr} {sl7 : Array (Option Value)} {oc7 kV7 dc7 pm7 cd7 ct7 : Value} {f8 : Addr} {od8 an8 : Option Addr} {sl8 : Array (Option Value)} {oc8 kV8 dc8 pm8 cd8 ct8 : Value} {f9 : Addr} {od9 an9 : Option Addr} {sl9 : Array (Option Value)} {oc9 kV9 dc9 pm9 cd9 ct9 : Value} {f10 : Addr} {od10 an10 : Option Addr} {sl10 : Array (Option Value)} {oc10 kV10 dc10 pm10 cd10 ct10 : Value} {f11 : Addr} {od11 an11 : Option Addr} {sl11 : Array (Option Value)} {oc11 kV11 dc11 pm11 cd11 ct11 : Value} {f12 : Addr} {od12 an12 : Option Addr} {sl12 : Array (Option Value)} {oc12 kV12 dc12 pm12 cd12 ct12 : Value} {f13 : Addr} {od13 an13 : Option Addr} {sl13 : Array (Option Value)} {oc13 kV13 dc13 pm13 cd13 ct13 : Value} {f14 : Addr} {od14 an14 : Option Addr} {sl14 : Array (Option Value)} {oc14 kV14 dc14 pm14 cd14 ct14 : Value} {f15 : Addr} {od15 an15 : Option Addr} {sl15 : Array (Option Value)} {oc15 kV15 dc15 pm15 cd15 ct15 : Value} {f16 : Addr} {od16 an16 : Option Addr} {sl16 : Array (Option Value)} {oc16 kV16 dc16 pm16 cd16 ct16 : Value} {f17 : Addr} {od17 an17 : Option Addr} {sl17 : Array (Option Value)} {oc17 kV17 dc17 pm17 cd17 ct17 : Value} {f18 : Addr} {od18 an18 : Option Addr} {sl18 : Array (Option Value)} {oc18 kV18 dc18 pm18 cd18 ct18 : Value} {f19 : Addr} {od19 an19 : Option Addr} {sl19 : Array (Option Value)} {oc19 kV19 dc19 pm19 cd19 ct19 : Value} {f20 : Addr} {od20 an20 : Option Addr} {sl20 : Array (Option Value)} {oc20 kV20 dc20 pm20 cd20 ct20 : Value} {f21 : Addr} {od21 an21 : Option Addr} {sl21 : Array (Option Value)} {oc21 kV21 dc21 pm21 cd21 ct21 : Value} {f22 : Addr} {od22 an22 : Option Addr} {sl22 : Array (Option Value)} {oc22 kV22 dc22 pm22 cd22 ct22 : Value} {f23 : Addr} {od23 an23 : Option Addr} {sl23 : Array (Option Value)} {oc23 kV23 dc23 pm23 cd23 ct23 : Value} {f24 : Addr} {od24 an24 : Option Addr} {sl24 : Array (Option Value)} {oc24 kV24 dc24 pm24 cd24 ct24 : Value} {f25 : Addr} {od25 an25 : Option Addr} {sl25 : Array (Option Value)} {oc25 kV25 dc25 pm25 cd25 ct25 : Value} {f26 : Addr} {od26 an26 : Option Addr} {sl26 : Array (Option Value)} {oc26 kV26 dc26 pm26 cd26 ct26 : Value} {f27 : Addr} {od27 an27 : Option Addr} {sl27 : Array (Option Value)} {oc27 kV27 dc27 pm27 cd27 ct27 : Value} {f28 : Addr} {od28 an28 : Option Addr} {sl28 : Array (Option Value)} {oc28 kV28 dc28 pm28 cd28 ct28 : Value} {f29 : Addr} {od29 an29 : Option Addr} {sl29 : Array (Option Value)} {oc29 kV29 dc29 pm29 cd29 ct29 : Value} {f30 : Addr} {od30 an30 : Option Addr} {sl30 : Array (Option Value)} {oc30 kV30 dc30 pm30 cd30 ct30 : Value} {f31 : Addr} {od31 an31 : Option Addr} {sl31 : Array (Option Value)} {oc31 kV31 dc31 pm31 cd31 ct31 : Value} {f32 : Addr} {od32 an32 : Option Addr} {sl32 : Array (Option Value)} {oc32 kV32 dc32 pm32 cd32 ct32 : Value} {f33 : Addr} {od33 an33 : Option Addr} {sl33 : Array (Option Value)} {oc33 kV33 dc33 pm33 cd33 ct33 : Value} {t10 : Tok} {t12 : Tok} {t13 : Tok} {t14 : Tok} {t15 : Tok} {t19 : Tok} {t20 : Tok} {t22 : Tok} {t23 : Tok} {C0 fI0 N0 cda0 cc0 : Addr} {en0 eq0 qu0 fi0 : Str} {bs0 bm0 sb0 : List Value} {sn0 : List Str} {ab0 : Bool} {col0 : Option Bool} {dd0 fod0 fan0 cdd0 cld0 : Option Addr} {j00 j10 j20 j30 j50 : Option Value} {foc0 fkV0 fdc0 fpm0 fct0 ccl0 cl0 : Value} {fos0 ccs0 csl0 : Array (Option Value)} {vs0 : Array Value} {tf0 : Tok} {C1 fI1 N1 cda1 cc1 : Addr} {en1 eq1 qu1 fi1 : Str} {bs1 bm1 sb1 : List Value} {sn1 : List Str} {ab1 : Bool} {col1 : Option Bool} {dd1 fod1 fan1 cdd1 cld1 : Option Addr} {j01 j11 j21 j31 j51 : Option Value} {foc1 fkV1 fdc1 fpm1 fct1 ccl1 cl1 : Value} {fos1 ccs1 csl1 : Array (Option Value)} {vs1 : Array Value} {tf1 : Tok} {C2 fI2 N2 cda2 cc2 : Addr} {en2 eq2 qu2 fi2 : Str} {bs2 bm2 sb2 : List Value} {sn2 : List Str} {ab2 : Bool} {col2 : Option Bool} {dd2 fod2 fan2 cdd2 cld2 : Option Addr} {j02 j12 j22 j32 j52 : Option Value} {foc2 fkV2 fdc2 fpm2 fct2 ccl2 cl2 : Value} {fos2 ccs2 csl2 : Array (Option Value)} {vs2 : Array Value} {tf2 : Tok} {D0 : Addr} (boxTot : ∀ (ns : List Int) (k : Int), 0 ≤ k → ∃ g s en, B__law_box ⟨.sq ns :: .fz (.int k) :: List.replicate 2 .no, (0, 0)⟩ = .ok (.rn [.int g, .int s] en)) (lawTot : ∀ ns : List Int, ns.length ≤ 63 → Post (fun o => ∃ en, o = Out.rt (.bool true) en) (fun _ _ _ => False) (B_law ⟨.sq ns :: List.replicate 13 .no, (0, 0)⟩)) (X : K.In h) (G : h.Ns mainGlobals mg) (hfa : mg "law" = some (.ref fa))
    (a0 : PySem.W.nsIn K mainGlobals "_law_box" = some (some (.ref f0))) (l0 : K.lookup f0 = some ⟨oc0, od0, .func (PySem.W.fnOf "_law_box" "_law_box" (defArgs s__law_box) (defBody s__law_box) (defScope s__law_box) .none kV0 dc0 pm0 an0 cd0 ct0), sl0⟩) (c0 : PySem.W.codeIn K cd0 "_law_box" = true) (k0 : PySem.W.keepIn K (.ref f0) = true)
    (a1 : PySem.W.nsIn K mainGlobals "_law_take" = some (some (.ref f1))) (l1 : K.lookup f1 = some ⟨oc1, od1, .func (PySem.W.fnOf "_law_take" "_law_take" (defArgs s__law_take) (defBody s__law_take) (defScope s__law_take) .none kV1 dc1 pm1 an1 cd1 ct1), sl1⟩) (c1 : PySem.W.codeIn K cd1 "_law_take" = true) (k1 : PySem.W.keepIn K (.ref f1) = true)
    (a2 : PySem.W.nsIn K mainGlobals "_law_pick" = some (some (.ref f2))) (l2 : K.lookup f2 = some ⟨oc2, od2, .func (PySem.W.fnOf "_law_pick" "_law_pick" (defArgs s__law_pick) (defBody s__law_pick) (defScope s__law_pick) .none kV2 dc2 pm2 an2 cd2 ct2), sl2⟩) (c2 : PySem.W.codeIn K cd2 "_law_pick" = true) (k2 : PySem.W.keepIn K (.ref f2) = true)
    (a3 : PySem.W.nsIn K mainGlobals "_law_house" = some (some (.ref f3))) (l3 : K.lookup f3 = some ⟨oc3, od3, .func (PySem.W.fnOf "_law_house" "_law_house" (defArgs s__law_house) (defBody s__law_house) (defScope s__law_house) .none kV3 dc3 pm3 an3 cd3 ct3), sl3⟩) (c3 : PySem.W.codeIn K cd3 "_law_house" = true) (k3 : PySem.W.keepIn K (.ref f3) = true)
    (a4 : PySem.W.nsIn K mainGlobals "_law_is_floor" = some (some (.ref f4))) (l4 : K.lookup f4 = some ⟨oc4, od4, .func (PySem.W.fnOf "_law_is_floor" "_law_is_floor" (defArgs s__law_is_floor) (defBody s__law_is_floor) (defScope s__law_is_floor) .none kV4 dc4 pm4 an4 cd4 ct4), sl4⟩) (c4 : PySem.W.codeIn K cd4 "_law_is_floor" = true) (k4 : PySem.W.keepIn K (.ref f4) = true)
    (a5 : PySem.W.nsIn K mainGlobals "_law_people" = some (some (.ref f5))) (l5 : K.lookup f5 = some ⟨oc5, od5, .func (PySem.W.fnOf "_law_people" "_law_people" (defArgs s__law_people) (defBody s__law_people) (defScope s__law_people) .none kV5 dc5 pm5 an5 cd5 ct5), sl5⟩) (c5 : PySem.W.codeIn K cd5 "_law_people" = true) (k5 : PySem.W.keepIn K (.ref f5) = true)
    (a6 : PySem.W.nsIn K mainGlobals "is_integer" = some (some (.ref f6))) (l6 : K.lookup f6 = some ⟨oc6, od6, .func (PySem.W.fnOf "is_integer" "is_integer" (defArgs s_is_integer) (defBody s_is_integer) (defScope s_is_integer) .none kV6 dc6 pm6 an6 cd6 ct6), sl6⟩) (c6 : PySem.W.codeIn K cd6 "is_integer" = true) (k6 : PySem.W.keepIn K (.ref f6) = true)
    (a7 : PySem.W.nsIn K mainGlobals "is_number" = some (some (.ref f7))) (l7 : K.lookup f7 = some ⟨oc7, od7, .func (PySem.W.fnOf "is_number" "is_number" (defArgs s_is_number) (defBody s_is_number) (defScope s_is_number) .none kV7 dc7 pm7 an7 cd7 ct7), sl7⟩) (c7 : PySem.W.codeIn K cd7 "is_number" = true) (k7 : PySem.W.keepIn K (.ref f7) = true)
    (a8 : PySem.W.nsIn K mainGlobals "is_below" = some (some (.ref f8))) (l8 : K.lookup f8 = some ⟨oc8, od8, .func (PySem.W.fnOf "is_below" "is_below" (defArgs s_is_below) (defBody s_is_below) (defScope s_is_below) .none kV8 dc8 pm8 an8 cd8 ct8), sl8⟩) (c8 : PySem.W.codeIn K cd8 "is_below" = true) (k8 : PySem.W.keepIn K (.ref f8) = true)
    (a9 : PySem.W.nsIn K mainGlobals "is_ascending" = some (some (.ref f9))) (l9 : K.lookup f9 = some ⟨oc9, od9, .func (PySem.W.fnOf "is_ascending" "is_ascending" (defArgs s_is_ascending) (defBody s_is_ascending) (defScope s_is_ascending) .none kV9 dc9 pm9 an9 cd9 ct9), sl9⟩) (c9 : PySem.W.codeIn K cd9 "is_ascending" = true) (k9 : PySem.W.keepIn K (.ref f9) = true)
    (a10 : PySem.W.nsIn K mainGlobals "is_sequence" = some (some (.ref f10))) (l10 : K.lookup f10 = some ⟨oc10, od10, .func (PySem.W.fnOf "is_sequence" "is_sequence" (defArgs s_is_sequence) (defBody s_is_sequence) (defScope s_is_sequence) .none kV10 dc10 pm10 an10 cd10 ct10), sl10⟩) (c10 : PySem.W.codeIn K cd10 "is_sequence" = true) (k10 : PySem.W.keepIn K (.ref f10) = true)
    (a11 : PySem.W.nsIn K mainGlobals "is_lot" = some (some (.ref f11))) (l11 : K.lookup f11 = some ⟨oc11, od11, .func (PySem.W.fnOf "is_lot" "is_lot" (defArgs s_is_lot) (defBody s_is_lot) (defScope s_is_lot) .none kV11 dc11 pm11 an11 cd11 ct11), sl11⟩) (c11 : PySem.W.codeIn K cd11 "is_lot" = true) (k11 : PySem.W.keepIn K (.ref f11) = true)
    (a12 : PySem.W.nsIn K mainGlobals "is_passage" = some (some (.ref f12))) (l12 : K.lookup f12 = some ⟨oc12, od12, .func (PySem.W.fnOf "is_passage" "is_passage" (defArgs s_is_passage) (defBody s_is_passage) (defScope s_is_passage) .none kV12 dc12 pm12 an12 cd12 ct12), sl12⟩) (c12 : PySem.W.codeIn K cd12 "is_passage" = true) (k12 : PySem.W.keepIn K (.ref f12) = true)
    (a13 : PySem.W.nsIn K mainGlobals "are_passages" = some (some (.ref f13))) (l13 : K.lookup f13 = some ⟨oc13, od13, .func (PySem.W.fnOf "are_passages" "are_passages" (defArgs s_are_passages) (defBody s_are_passages) (defScope s_are_passages) .none kV13 dc13 pm13 an13 cd13 ct13), sl13⟩) (c13 : PySem.W.codeIn K cd13 "are_passages" = true) (k13 : PySem.W.keepIn K (.ref f13) = true)
    (a14 : PySem.W.nsIn K mainGlobals "are_rooms" = some (some (.ref f14))) (l14 : K.lookup f14 = some ⟨oc14, od14, .func (PySem.W.fnOf "are_rooms" "are_rooms" (defArgs s_are_rooms) (defBody s_are_rooms) (defScope s_are_rooms) .none kV14 dc14 pm14 an14 cd14 ct14), sl14⟩) (c14 : PySem.W.codeIn K cd14 "are_rooms" = true) (k14 : PySem.W.keepIn K (.ref f14) = true)
    (a15 : PySem.W.nsIn K mainGlobals "is_smoke" = some (some (.ref f15))) (l15 : K.lookup f15 = some ⟨oc15, od15, .func (PySem.W.fnOf "is_smoke" "is_smoke" (defArgs s_is_smoke) (defBody s_is_smoke) (defScope s_is_smoke) .none kV15 dc15 pm15 an15 cd15 ct15), sl15⟩) (c15 : PySem.W.codeIn K cd15 "is_smoke" = true) (k15 : PySem.W.keepIn K (.ref f15) = true)
    (a16 : PySem.W.nsIn K mainGlobals "check_house" = some (some (.ref f16))) (l16 : K.lookup f16 = some ⟨oc16, od16, .func (PySem.W.fnOf "check_house" "check_house" (defArgs s_check_house) (defBody s_check_house) (defScope s_check_house) .none kV16 dc16 pm16 an16 cd16 ct16), sl16⟩) (c16 : PySem.W.codeIn K cd16 "check_house" = true) (k16 : PySem.W.keepIn K (.ref f16) = true)
    (a17 : PySem.W.nsIn K mainGlobals "is_person" = some (some (.ref f17))) (l17 : K.lookup f17 = some ⟨oc17, od17, .func (PySem.W.fnOf "is_person" "is_person" (defArgs s_is_person) (defBody s_is_person) (defScope s_is_person) .none kV17 dc17 pm17 an17 cd17 ct17), sl17⟩) (c17 : PySem.W.codeIn K cd17 "is_person" = true) (k17 : PySem.W.keepIn K (.ref f17) = true)
    (a18 : PySem.W.nsIn K mainGlobals "check_people" = some (some (.ref f18))) (l18 : K.lookup f18 = some ⟨oc18, od18, .func (PySem.W.fnOf "check_people" "check_people" (defArgs s_check_people) (defBody s_check_people) (defScope s_check_people) .none kV18 dc18 pm18 an18 cd18 ct18), sl18⟩) (c18 : PySem.W.codeIn K cd18 "check_people" = true) (k18 : PySem.W.keepIn K (.ref f18) = true)
    (a19 : PySem.W.nsIn K mainGlobals "check_task" = some (some (.ref f19))) (l19 : K.lookup f19 = some ⟨oc19, od19, .func (PySem.W.fnOf "check_task" "check_task" (defArgs s_check_task) (defBody s_check_task) (defScope s_check_task) .none kV19 dc19 pm19 an19 cd19 ct19), sl19⟩) (c19 : PySem.W.codeIn K cd19 "check_task" = true) (k19 : PySem.W.keepIn K (.ref f19) = true)
    (a20 : PySem.W.nsIn K mainGlobals "leads_out" = some (some (.ref f20))) (l20 : K.lookup f20 = some ⟨oc20, od20, .func (PySem.W.fnOf "leads_out" "leads_out" (defArgs s_leads_out) (defBody s_leads_out) (defScope s_leads_out) .none kV20 dc20 pm20 an20 cd20 ct20), sl20⟩) (c20 : PySem.W.codeIn K cd20 "leads_out" = true) (k20 : PySem.W.keepIn K (.ref f20) = true)
    (a21 : PySem.W.nsIn K mainGlobals "is_floor" = some (some (.ref f21))) (l21 : K.lookup f21 = some ⟨oc21, od21, .func (PySem.W.fnOf "is_floor" "is_floor" (defArgs s_is_floor) (defBody s_is_floor) (defScope s_is_floor) .none kV21 dc21 pm21 an21 cd21 ct21), sl21⟩) (c21 : PySem.W.codeIn K cd21 "is_floor" = true) (k21 : PySem.W.keepIn K (.ref f21) = true)
    (a22 : PySem.W.nsIn K mainGlobals "check_floors" = some (some (.ref f22))) (l22 : K.lookup f22 = some ⟨oc22, od22, .func (PySem.W.fnOf "check_floors" "check_floors" (defArgs s_check_floors) (defBody s_check_floors) (defScope s_check_floors) .none kV22 dc22 pm22 an22 cd22 ct22), sl22⟩) (c22 : PySem.W.codeIn K cd22 "check_floors" = true) (k22 : PySem.W.keepIn K (.ref f22) = true)
    (a23 : PySem.W.nsIn K mainGlobals "check_floor" = some (some (.ref f23))) (l23 : K.lookup f23 = some ⟨oc23, od23, .func (PySem.W.fnOf "check_floor" "check_floor" (defArgs s_check_floor) (defBody s_check_floor) (defScope s_check_floor) .none kV23 dc23 pm23 an23 cd23 ct23), sl23⟩) (c23 : PySem.W.codeIn K cd23 "check_floor" = true) (k23 : PySem.W.keepIn K (.ref f23) = true)
    (a24 : PySem.W.nsIn K mainGlobals "shut_in_smoke" = some (some (.ref f24))) (l24 : K.lookup f24 = some ⟨oc24, od24, .func (PySem.W.fnOf "shut_in_smoke" "shut_in_smoke" (defArgs s_shut_in_smoke) (defBody s_shut_in_smoke) (defScope s_shut_in_smoke) .none kV24 dc24 pm24 an24 cd24 ct24), sl24⟩) (c24 : PySem.W.codeIn K cd24 "shut_in_smoke" = true) (k24 : PySem.W.keepIn K (.ref f24) = true)
    (a25 : PySem.W.nsIn K mainGlobals "floor_house" = some (some (.ref f25))) (l25 : K.lookup f25 = some ⟨oc25, od25, .func (PySem.W.fnOf "floor_house" "floor_house" (defArgs s_floor_house) (defBody s_floor_house) (defScope s_floor_house) .none kV25 dc25 pm25 an25 cd25 ct25), sl25⟩) (c25 : PySem.W.codeIn K cd25 "floor_house" = true) (k25 : PySem.W.keepIn K (.ref f25) = true)
    (a26 : PySem.W.nsIn K mainGlobals "floor_task" = some (some (.ref f26))) (l26 : K.lookup f26 = some ⟨oc26, od26, .func (PySem.W.fnOf "floor_task" "floor_task" (defArgs s_floor_task) (defBody s_floor_task) (defScope s_floor_task) .none kV26 dc26 pm26 an26 cd26 ct26), sl26⟩) (c26 : PySem.W.codeIn K cd26 "floor_task" = true) (k26 : PySem.W.keepIn K (.ref f26) = true)
    (a27 : PySem.W.nsIn K mainGlobals "soonest" = some (some (.ref f27))) (l27 : K.lookup f27 = some ⟨oc27, od27, .func (PySem.W.fnOf "soonest" "soonest" (defArgs s_soonest) (defBody s_soonest) (defScope s_soonest) .none kV27 dc27 pm27 an27 cd27 ct27), sl27⟩) (c27 : PySem.W.codeIn K cd27 "soonest" = true) (k27 : PySem.W.keepIn K (.ref f27) = true)
    (a28 : PySem.W.nsIn K mainGlobals "came_to" = some (some (.ref f28))) (l28 : K.lookup f28 = some ⟨oc28, od28, .func (PySem.W.fnOf "came_to" "came_to" (defArgs s_came_to) (defBody s_came_to) (defScope s_came_to) .none kV28 dc28 pm28 an28 cd28 ct28), sl28⟩) (c28 : PySem.W.codeIn K cd28 "came_to" = true) (k28 : PySem.W.keepIn K (.ref f28) = true)
    (a29 : PySem.W.nsIn K mainGlobals "rest_task" = some (some (.ref f29))) (l29 : K.lookup f29 = some ⟨oc29, od29, .func (PySem.W.fnOf "rest_task" "rest_task" (defArgs s_rest_task) (defBody s_rest_task) (defScope s_rest_task) .none kV29 dc29 pm29 an29 cd29 ct29), sl29⟩) (c29 : PySem.W.codeIn K cd29 "rest_task" = true) (k29 : PySem.W.keepIn K (.ref f29) = true)
    (a30 : PySem.W.nsIn K mainGlobals "by_floors" = some (some (.ref f30))) (l30 : K.lookup f30 = some ⟨oc30, od30, .func (PySem.W.fnOf "by_floors" "by_floors" (defArgs s_by_floors) (defBody s_by_floors) (defScope s_by_floors) .none kV30 dc30 pm30 an30 cd30 ct30), sl30⟩) (c30 : PySem.W.codeIn K cd30 "by_floors" = true) (k30 : PySem.W.keepIn K (.ref f30) = true)
    (a31 : PySem.W.nsIn K mainGlobals "_law_refused_right" = some (some (.ref f31))) (l31 : K.lookup f31 = some ⟨oc31, od31, .func (PySem.W.fnOf "_law_refused_right" "_law_refused_right" (defArgs s__law_refused_right) (defBody s__law_refused_right) (defScope s__law_refused_right) .none kV31 dc31 pm31 an31 cd31 ct31), sl31⟩) (c31 : PySem.W.codeIn K cd31 "_law_refused_right" = true) (k31 : PySem.W.keepIn K (.ref f31) = true)
    (a32 : PySem.W.nsIn K mainGlobals "law" = some (some (.ref f32))) (l32 : K.lookup f32 = some ⟨oc32, od32, .func (PySem.W.fnOf "law" "law" (defArgs s_law) (defBody s_law) (defScope s_law) .none kV32 dc32 pm32 an32 cd32 ct32), sl32⟩) (c32 : PySem.W.codeIn K cd32 "law" = true) (k32 : PySem.W.keepIn K (.ref f32) = true)
    (a33 : PySem.W.nsIn K mainGlobals "_law_heard" = some (some (.ref f33))) (l33 : K.lookup f33 = some ⟨oc33, od33, .func (PySem.W.fnOf "_law_heard" "_law_heard" (defArgs s__law_heard) (defBody s__law_heard) (defScope s__law_heard) .none kV33 dc33 pm33 an33 cd33 ct33), sl33⟩) (c33 : PySem.W.codeIn K cd33 "_law_heard" = true) (k33 : PySem.W.keepIn K (.ref f33) = true)
    (z0 : PySem.W.nsIn K mainGlobals "len" = some none)
    (z1 : PySem.W.nsIn K mainGlobals "min" = some none)
    (z2 : PySem.W.nsIn K mainGlobals "max" = some none)
    (z3 : PySem.W.nsIn K mainGlobals "range" = some none)
    (z4 : PySem.W.nsIn K mainGlobals "tuple" = some none)
    (z5 : PySem.W.nsIn K mainGlobals "list" = some none)
    (z6 : PySem.W.nsIn K mainGlobals "repr" = some none)
    (z7 : PySem.W.nsIn K mainGlobals "int" = some none)
    (z8 : PySem.W.nsIn K mainGlobals "abs" = some none)
    (z9 : PySem.W.nsIn K mainGlobals "all" = some none)
    (z10 : PySem.W.nsIn K mainGlobals "MOST_BEAT" = some (some (.int 60 t10)))
    (z11 : PySem.W.nsIn K mainGlobals "any" = some none)
    (z12 : PySem.W.nsIn K mainGlobals "MOST_PASSAGES" = some (some (.int 60 t12)))
    (z13 : PySem.W.nsIn K mainGlobals "WAY_OUT" = some (some (.int 1 t13)))
    (z14 : PySem.W.nsIn K mainGlobals "MOST_LENGTH" = some (some (.int 9 t14)))
    (z15 : PySem.W.nsIn K mainGlobals "MOST_WIDTH" = some (some (.int 9 t15)))
    (z16 : PySem.W.nsIn K mainGlobals "isinstance" = some none)
    (z17 : PySem.W.nsIn K mainGlobals "bool" = some none)
    (z18 : PySem.W.nsIn K mainGlobals "zip" = some none)
    (z19 : PySem.W.nsIn K mainGlobals "MOST_ROOMS" = some (some (.int 20 t19)))
    (z20 : PySem.W.nsIn K mainGlobals "INSIDE" = some (some (.int 0 t20)))
    (z21 : PySem.W.nsIn K mainGlobals "enumerate" = some none)
    (z22 : PySem.W.nsIn K mainGlobals "MOST_PEOPLE" = some (some (.int 60 t22)))
    (z23 : PySem.W.nsIn K mainGlobals "MOST_URGENCY" = some (some (.int 10 t23)))
    (z24 : PySem.W.nsIn K mainGlobals "sorted" = some none)
    (top_ : (l.prog.main.scope.names.lookup ("super" : Str)).isSome = false)
    (third : PySem.W.nsIn K cStatics "thirdparty.any" = some none)
    (nosup : PySem.W.nsIn K mainGlobals "super" = some none)
    (ea0 : PySem.W.nsIn K mainGlobals "BadHouse" = some (some (.ref C0)))
    (eb0 : K.lookup C0 = some (excClassObj en0 eq0 C0 N0 bs0 bm0 true sn0 sb0 ab0 col0 dd0 j00 j10 j20 j30 j50 vBas.nwI))
    (ec0 : clsB K vBas C0 "at" bm0 = true)
    (ed0 : PySem.W.findIn K (.ref C0) "__init__" = some (some (.ref fI0)))
    (ee0 : PySem.W.typeIn K (.ref fI0) = some (.type "function"))
    (ef0 : K.lookup fI0 = some ⟨foc0, fod0, .func (PySem.W.ksFn "__init__" qu0 (defArgs s_BadHouse) (defBody s_BadHouse) (defScope s_BadHouse) .none fkV0 fdc0 fpm0 fan0 (.ref cda0) fct0 cc0), fos0⟩)
    (eg0 : PySem.W.codeIn K (.ref cda0) qu0 = true)
    (eh0 : K.lookup cda0 = some ⟨ccl0, cdd0, .fields vs0, ccs0⟩)
    (ei0 : vs0[2]? = some (.str fi0 tf0))
    (ej0 : ((l.prog.main.file : Str) == fi0) = true)
    (ek0 : K.lookup cc0 = some ⟨cl0, cld0, .cell (some (.ref C0)), csl0⟩)
    (el0 : xclsB K C0 "at" = true)
    (ea1 : PySem.W.nsIn K mainGlobals "BadPeople" = some (some (.ref C1)))
    (eb1 : K.lookup C1 = some (excClassObj en1 eq1 C1 N1 bs1 bm1 true sn1 sb1 ab1 col1 dd1 j01 j11 j21 j31 j51 vBas.nwI))
    (ec1 : clsB K vBas C1 "at" bm1 = true)
    (ed1 : PySem.W.findIn K (.ref C1) "__init__" = some (some (.ref fI1)))
    (ee1 : PySem.W.typeIn K (.ref fI1) = some (.type "function"))
    (ef1 : K.lookup fI1 = some ⟨foc1, fod1, .func (PySem.W.ksFn "__init__" qu1 (defArgs s_BadPeople) (defBody s_BadPeople) (defScope s_BadPeople) .none fkV1 fdc1 fpm1 fan1 (.ref cda1) fct1 cc1), fos1⟩)
    (eg1 : PySem.W.codeIn K (.ref cda1) qu1 = true)
    (eh1 : K.lookup cda1 = some ⟨ccl1, cdd1, .fields vs1, ccs1⟩)
    (ei1 : vs1[2]? = some (.str fi1 tf1))
    (ej1 : ((l.prog.main.file : Str) == fi1) = true)
    (ek1 : K.lookup cc1 = some ⟨cl1, cld1, .cell (some (.ref C1)), csl1⟩)
    (el1 : xclsB K C1 "at" = true)
    (ea2 : PySem.W.nsIn K mainGlobals "Refused" = some (some (.ref C2)))
    (eb2 : K.lookup C2 = some (excClassObj en2 eq2 C2 N2 bs2 bm2 true sn2 sb2 ab2 col2 dd2 j02 j12 j22 j32 j52 vBas.nwI))
    (ec2 : clsB K vBas C2 "at" bm2 = true)
    (ed2 : PySem.W.findIn K (.ref C2) "__init__" = some (some (.ref fI2)))
    (ee2 : PySem.W.typeIn K (.ref fI2) = some (.type "function"))
    (ef2 : K.lookup fI2 = some ⟨foc2, fod2, .func (PySem.W.ksFn "__init__" qu2 (defArgs s_Refused) (defBody s_Refused) (defScope s_Refused) .none fkV2 fdc2 fpm2 fan2 (.ref cda2) fct2 cc2), fos2⟩)
    (eg2 : PySem.W.codeIn K (.ref cda2) qu2 = true)
    (eh2 : K.lookup cda2 = some ⟨ccl2, cdd2, .fields vs2, ccs2⟩)
    (ei2 : vs2[2]? = some (.str fi2 tf2))
    (ej2 : ((l.prog.main.file : Str) == fi2) = true)
    (ek2 : K.lookup cc2 = some ⟨cl2, cld2, .cell (some (.ref C2)), csl2⟩)
    (el2 : xclsB K C2 "at" = true)
    (da0 : PySem.W.nsIn K mainGlobals "OutError" = some (some (.ref D0)))
    (mx_BadHouse_Refused : PySem.W.exmOne K (.ref C0) (.ref C2) = some (SB "BadHouse" "Refused"))
    (mx_BadHouse_BadHouse : PySem.W.exmOne K (.ref C0) (.ref C0) = some (SB "BadHouse" "BadHouse"))
    (mx_BadHouse_BadPeople : PySem.W.exmOne K (.ref C0) (.ref C1) = some (SB "BadHouse" "BadPeople"))
    (mi_BadHouse_OutError : PySem.W.kitOne K (.ref C0) (.ref D0) = some (SB "BadHouse" "OutError"))
    (mx_BadPeople_Refused : PySem.W.exmOne K (.ref C1) (.ref C2) = some (SB "BadPeople" "Refused"))
    (mx_BadPeople_BadHouse : PySem.W.exmOne K (.ref C1) (.ref C0) = some (SB "BadPeople" "BadHouse"))
    (mx_BadPeople_BadPeople : PySem.W.exmOne K (.ref C1) (.ref C1) = some (SB "BadPeople" "BadPeople"))
    (mi_BadPeople_OutError : PySem.W.kitOne K (.ref C1) (.ref D0) = some (SB "BadPeople" "OutError"))
    (mx_Refused_Refused : PySem.W.exmOne K (.ref C2) (.ref C2) = some (SB "Refused" "Refused"))
    (mx_Refused_BadHouse : PySem.W.exmOne K (.ref C2) (.ref C0) = some (SB "Refused" "BadHouse"))
    (mx_Refused_BadPeople : PySem.W.exmOne K (.ref C2) (.ref C1) = some (SB "Refused" "BadPeople"))
    (mi_Refused_OutError : PySem.W.kitOne K (.ref C2) (.ref D0) = some (SB "Refused" "OutError"))
    (tb0 : PySem.W.tabIn K "_law_refused_right" = some (lc0, lp0))
    (tb1 : PySem.W.tabIn K "law" = some (lc1, lp1))
    (tn0_1 : lp0 ≠ lp1) :
    ∃ fd : FuncData, (∀ (s : Shared) (v : Value), BindsTo s fd ⟨[v], []⟩ [("_law_script", v)]) ∧ ∀ base : Heap, K.In base → base.Ns mainGlobals mg → (∀ c ∈ ([(lc0, lp0, (("_law_refused_right" : Str) ++ ".<locals>.") ++ "<lambda>"), (lc1, lp1, (("law" : Str) ++ ".<locals>.") ++ "<lambda>")] : List (Addr × Addr × Str)), LamX.TabB base mg c.1 c.2.1) → FnM l.prog w K mg base 18 fa fd ["_law_script"] (spLaw K (tabsOf [(lc0, lp0, (("_law_refused_right" : Str) ++ ".<locals>.") ++ "<lambda>"), (lc1, lp1, (("law" : Str) ++ ".<locals>.") ++ "<lambda>")]) 63) := by
  have e := hfa.symm.trans (PySem.W.mg_of X G a32)
  cases e
  have T : Tx mg := ⟨PySem.W.mg_none_of X G z0, PySem.W.mg_none_of X G z1, PySem.W.mg_none_of X G z2, PySem.W.mg_none_of X G z3, PySem.W.mg_none_of X G z4, PySem.W.mg_none_of X G z5, PySem.W.mg_none_of X G z6, PySem.W.mg_none_of X G z7, PySem.W.mg_none_of X G z8, PySem.W.mg_none_of X G z9, ⟨t10, PySem.W.mg_of X G z10⟩, PySem.W.mg_none_of X G z11, ⟨t12, PySem.W.mg_of X G z12⟩, ⟨t13, PySem.W.mg_of X G z13⟩, ⟨t14, PySem.W.mg_of X G z14⟩, ⟨t15, PySem.W.mg_of X G z15⟩, PySem.W.mg_none_of X G z16, PySem.W.mg_none_of X G z17, PySem.W.mg_none_of X G z18, ⟨t19, PySem.W.mg_of X G z19⟩, ⟨t20, PySem.W.mg_of X G z20⟩, PySem.W.mg_none_of X G z21, ⟨t22, PySem.W.mg_of X G z22⟩, ⟨t23, PySem.W.mg_of X G z23⟩, PySem.W.mg_none_of X G z24⟩
  have U0 := fun_mk (st := s__law_box) l0 c0 k0
  have U1 := fun_mk (st := s__law_take) l1 c1 k1
  have U2 := fun_mk (st := s__law_pick) l2 c2 k2
  have U3 := fun_mk (st := s__law_house) l3 c3 k3
  have U4 := fun_mk (st := s__law_is_floor) l4 c4 k4
  have U5 := fun_mk (st := s__law_people) l5 c5 k5
  have U6 := fun_mk (st := s_is_integer) l6 c6 k6
  have U7 := fun_mk (st := s_is_number) l7 c7 k7
  have U8 := fun_mk (st := s_is_below) l8 c8 k8
  have U9 := fun_mk (st := s_is_ascending) l9 c9 k9
  have U10 := fun_mk (st := s_is_sequence) l10 c10 k10
  have U11 := fun_mk (st := s_is_lot) l11 c11 k11
  have U12 := fun_mk (st := s_is_passage) l12 c12 k12
  have U13 := fun_mk (st := s_are_passages) l13 c13 k13
  have U14 := fun_mk (st := s_are_rooms) l14 c14 k14
  have U15 := fun_mk (st := s_is_smoke) l15 c15 k15
  have U16 := fun_mk (st := s_check_house) l16 c16 k16
  have U17 := fun_mk (st := s_is_person) l17 c17 k17
  have U18 := fun_mk (st := s_check_people) l18 c18 k18
  have U19 := fun_mk (st := s_check_task) l19 c19 k19
  have U20 := fun_mk (st := s_leads_out) l20 c20 k20
  have U21 := fun_mk (st := s_is_floor) l21 c21 k21
  have U22 := fun_mk (st := s_check_floors) l22 c22 k22
  have U23 := fun_mk (st := s_check_floor) l23 c23 k23
  have U24 := fun_mk (st := s_shut_in_smoke) l24 c24 k24
  have U25 := fun_mk (st := s_floor_house) l25 c25 k25
  have U26 := fun_mk (st := s_floor_task) l26 c26 k26
  have U27 := fun_mk (st := s_soonest) l27 c27 k27
  have U28 := fun_mk (st := s_came_to) l28 c28 k28
  have U29 := fun_mk (st := s_rest_task) l29 c29 k29
  have U30 := fun_mk (st := s_by_floors) l30 c30 k30
  have U31 := fun_mk (st := s__law_refused_right) l31 c31 k31
  have U32 := fun_mk (st := s_law) l32 c32 k32
  have U33 := fun_mk (st := s__law_heard) l33 c33 k33
  obtain ⟨cs0, hcs0⟩ : ∃ cs0 : Str → Option (Value × Str), cs0 = fun s => List.lookup s ([("BadHouse", (Value.ref C0, "at")), ("BadPeople", (Value.ref C1, "at")), ("Refused", (Value.ref C2, "at"))] : List (Str × (Value × Str))) := ⟨_, rfl⟩
  have TT : ErrTab K cs0 FL := ⟨by rw [hcs0]; exact tab_all (φ := fun c cls f => ∃ C, cls = .ref C ∧ XCls K C f ∧ f = FL c) ⟨⟨_, rfl, xcls_mk el0, (fl_BadHouse).symm⟩, ⟨_, rfl, xcls_mk el1, (fl_BadPeople).symm⟩, ⟨_, rfl, xcls_mk el2, (fl_Refused).symm⟩, trivial⟩⟩
  refine ⟨PySem.W.fnOf "law" "law" (defArgs s_law) (defBody s_law) (defScope s_law) .none kV32 dc32 pm32 an32 cd32 ct32, fun s v => .of_eq rfl, fun base _ _ tabs => ?_⟩
  have E_BadHouse : Err l.prog w K mg base cs0 "BadHouse" := err_mk vBas_ok is_BadHouse eb0 ec0 ed0 ee0 ef0 eg0 eh0 ei0 ej0 ek0 top_ third (PySem.W.mg_none_of X G nosup) (PySem.W.mg_of X G ea0) (by rw [hcs0]; rfl)
  have E_BadPeople : Err l.prog w K mg base cs0 "BadPeople" := err_mk vBas_ok is_BadPeople eb1 ec1 ed1 ee1 ef1 eg1 eh1 ei1 ej1 ek1 top_ third (PySem.W.mg_none_of X G nosup) (PySem.W.mg_of X G ea1) (by rw [hcs0]; rfl)
  have E_Refused : Err l.prog w K mg base cs0 "Refused" := err_mk vBas_ok is_Refused eb2 ec2 ed2 ee2 ef2 eg2 eh2 ei2 ej2 ek2 top_ third (PySem.W.mg_none_of X G nosup) (PySem.W.mg_of X G ea2) (by rw [hcs0]; rfl)
  have K_BadHouse : Cat K mg cs0 SB "BadHouse" := ⟨_, PySem.W.mg_of X G ea0, by rw [hcs0]; exact tab_all (φ := fun c cls _ => PySem.W.exmOne K cls (.ref C0) = some (SB c "BadHouse")) ⟨mx_BadHouse_BadHouse, mx_BadPeople_BadHouse, mx_Refused_BadHouse, trivial⟩⟩
  have K_BadPeople : Cat K mg cs0 SB "BadPeople" := ⟨_, PySem.W.mg_of X G ea1, by rw [hcs0]; exact tab_all (φ := fun c cls _ => PySem.W.exmOne K cls (.ref C1) = some (SB c "BadPeople")) ⟨mx_BadHouse_BadPeople, mx_BadPeople_BadPeople, mx_Refused_BadPeople, trivial⟩⟩
  have H__law_heard : Hear l.prog w K mg base cs0 SB "_law_heard" TF__law_heard HS__law_heard := hear__law_heard T TT (PySem.W.mg_of X G ea2) (PySem.W.mg_of X G da0) (by rw [hcs0]; exact tab_all (φ := fun c cls _ => PySem.W.exmOne K cls (.ref C2) = some (SB c "Refused")) ⟨mx_BadHouse_Refused, mx_BadPeople_Refused, mx_Refused_Refused, trivial⟩) (by rw [hcs0]; exact tab_all (φ := fun c cls _ => PySem.W.kitOne K cls (.ref D0) = some (SB c "OutError")) ⟨mi_BadHouse_OutError, mi_BadPeople_OutError, mi_Refused_OutError, trivial⟩) U33 (PySem.W.mg_of X G a33) k33
  have La__law_refused_right : ∀ cd, CodeOf K f31 cd → LamAt mg base (tabsOf [(lc0, lp0, (("_law_refused_right" : Str) ++ ".<locals>.") ++ "<lambda>"), (lc1, lp1, (("law" : Str) ++ ".<locals>.") ++ "<lambda>")]) (("_law_refused_right" : Str) ++ ".<locals>.") cd := lamAt_mk (q := (("_law_refused_right" : Str) ++ ".<locals>.") ++ "<lambda>") tb0 a31 (by simp [tabsOf]) (fun p hp hz => by
    simp only [tabsOf, List.map_cons, List.map_nil, List.mem_cons, List.not_mem_nil, or_false] at hp
    rcases hp with rfl | rfl
    · rfl
    · exact absurd hz (Ne.symm tn0_1)) (tabs (lc0, lp0, (("_law_refused_right" : Str) ++ ".<locals>.") ++ "<lambda>") (by simp)) rfl
  have La_law : ∀ cd, CodeOf K fa cd → LamAt mg base (tabsOf [(lc0, lp0, (("_law_refused_right" : Str) ++ ".<locals>.") ++ "<lambda>"), (lc1, lp1, (("law" : Str) ++ ".<locals>.") ++ "<lambda>")]) (("law" : Str) ++ ".<locals>.") cd := lamAt_mk (q := (("law" : Str) ++ ".<locals>.") ++ "<lambda>") tb1 a32 (by simp [tabsOf]) (fun p hp hz => by
    simp only [tabsOf, List.map_cons, List.map_nil, List.mem_cons, List.not_mem_nil, or_false] at hp
    rcases hp with rfl | rfl
    · exact absurd hz tn0_1
    · rfl) (tabs (lc1, lp1, (("law" : Str) ++ ".<locals>.") ++ "<lambda>") (by simp)) rfl
  have ok0 := ok__law_box (P := l.prog) (w := w) (base := base) (T0 := tabsOf [(lc0, lp0, (("_law_refused_right" : Str) ++ ".<locals>.") ++ "<lambda>"), (lc1, lp1, (("law" : Str) ++ ".<locals>.") ++ "<lambda>")]) (cs0 := cs0) boxTot T U0
  have b0 := U0.binds (ps := ["_law_script", "_law_k"]) fun _ _ _ _ _ _ us hl => match us, hl with | [_, _], _ => rfl
  have C__law_box : Callee _ _ _ _ base _ "_law_box" _ _ := ⟨f0, _, PySem.W.mg_of X G a0, k0, b0, ok0⟩
  have ok1 := ok__law_take (P := l.prog) (w := w) (base := base) (T0 := tabsOf [(lc0, lp0, (("_law_refused_right" : Str) ++ ".<locals>.") ++ "<lambda>"), (lc1, lp1, (("law" : Str) ++ ".<locals>.") ++ "<lambda>")]) (cs0 := cs0) T U1
  have b1 := U1.binds (ps := ["_law_box_here", "_law_many"]) fun _ _ _ _ _ _ us hl => match us, hl with | [_, _], _ => rfl
  have C__law_take : Callee _ _ _ _ base _ "_law_take" _ _ := ⟨f1, _, PySem.W.mg_of X G a1, k1, b1, ok1⟩
  have ok2 := ok__law_pick (P := l.prog) (w := w) (base := base) (T0 := tabsOf [(lc0, lp0, (("_law_refused_right" : Str) ++ ".<locals>.") ++ "<lambda>"), (lc1, lp1, (("law" : Str) ++ ".<locals>.") ++ "<lambda>")]) (cs0 := cs0) T C__law_take U2
  have b2 := U2.binds (ps := ["_law_box_here", "_law_some"]) fun _ _ _ _ _ _ us hl => match us, hl with | [_, _], _ => rfl
  have C__law_pick : Callee _ _ _ _ base _ "_law_pick" _ _ := ⟨f2, _, PySem.W.mg_of X G a2, k2, b2, ok2⟩
  have ok3 := ok__law_house (P := l.prog) (w := w) (base := base) (T0 := tabsOf [(lc0, lp0, (("_law_refused_right" : Str) ++ ".<locals>.") ++ "<lambda>"), (lc1, lp1, (("law" : Str) ++ ".<locals>.") ++ "<lambda>")]) (cs0 := cs0) T C__law_pick C__law_take U3
  have b3 := U3.binds (ps := ["_law_box_here", "_law_most_here"]) fun _ _ _ _ _ _ us hl => match us, hl with | [_, _], _ => rfl
  have C__law_house : Callee _ _ _ _ base _ "_law_house" _ _ := ⟨f3, _, PySem.W.mg_of X G a3, k3, b3, ok3⟩
  have ok4 := ok__law_is_floor (P := l.prog) (w := w) (base := base) (T0 := tabsOf [(lc0, lp0, (("_law_refused_right" : Str) ++ ".<locals>.") ++ "<lambda>"), (lc1, lp1, (("law" : Str) ++ ".<locals>.") ++ "<lambda>")]) (cs0 := cs0) T U4
  have b4 := U4.binds (ps := ["_law_house_here", "_law_rooms", "_law_stair"]) fun _ _ _ _ _ _ us hl => match us, hl with | [_, _, _], _ => rfl
  have C__law_is_floor : Callee _ _ _ _ base _ "_law_is_floor" _ _ := ⟨f4, _, PySem.W.mg_of X G a4, k4, b4, ok4⟩
  have ok5 := ok__law_people (P := l.prog) (w := w) (base := base) (T0 := tabsOf [(lc0, lp0, (("_law_refused_right" : Str) ++ ".<locals>.") ++ "<lambda>"), (lc1, lp1, (("law" : Str) ++ ".<locals>.") ++ "<lambda>")]) (cs0 := cs0) T C__law_pick C__law_take U5
  have b5 := U5.binds (ps := ["_law_box_here", "_law_house_here", "_law_now", "_law_many"]) fun _ _ _ _ _ _ us hl => match us, hl with | [_, _, _, _], _ => rfl
  have C__law_people : Callee _ _ _ _ base _ "_law_people" _ _ := ⟨f5, _, PySem.W.mg_of X G a5, k5, b5, ok5⟩
  have ok6 := ok_is_integer (P := l.prog) (w := w) (base := base) (T0 := tabsOf [(lc0, lp0, (("_law_refused_right" : Str) ++ ".<locals>.") ++ "<lambda>"), (lc1, lp1, (("law" : Str) ++ ".<locals>.") ++ "<lambda>")]) (cs0 := cs0) T U6
  have b6 := U6.binds (ps := ["value"]) fun _ _ _ _ _ _ us hl => match us, hl with | [_], _ => rfl
  have C_is_integer : Callee _ _ _ _ base _ "is_integer" _ _ := ⟨f6, _, PySem.W.mg_of X G a6, k6, b6, ok6⟩
  have ok7 := ok_is_number (P := l.prog) (w := w) (base := base) (T0 := tabsOf [(lc0, lp0, (("_law_refused_right" : Str) ++ ".<locals>.") ++ "<lambda>"), (lc1, lp1, (("law" : Str) ++ ".<locals>.") ++ "<lambda>")]) (cs0 := cs0) T C_is_integer U7
  have b7 := U7.binds (ps := ["value"]) fun _ _ _ _ _ _ us hl => match us, hl with | [_], _ => rfl
  have C_is_number : Callee _ _ _ _ base _ "is_number" _ _ := ⟨f7, _, PySem.W.mg_of X G a7, k7, b7, ok7⟩
  have ok8 := ok_is_below (P := l.prog) (w := w) (base := base) (T0 := tabsOf [(lc0, lp0, (("_law_refused_right" : Str) ++ ".<locals>.") ++ "<lambda>"), (lc1, lp1, (("law" : Str) ++ ".<locals>.") ++ "<lambda>")]) (cs0 := cs0) T C_is_number U8
  have b8 := U8.binds (ps := ["value", "most"]) fun _ _ _ _ _ _ us hl => match us, hl with | [_, _], _ => rfl
  have C_is_below : Callee _ _ _ _ base _ "is_below" _ _ := ⟨f8, _, PySem.W.mg_of X G a8, k8, b8, ok8⟩
  have ok9 := ok_is_ascending (P := l.prog) (w := w) (base := base) (T0 := tabsOf [(lc0, lp0, (("_law_refused_right" : Str) ++ ".<locals>.") ++ "<lambda>"), (lc1, lp1, (("law" : Str) ++ ".<locals>.") ++ "<lambda>")]) (cs0 := cs0) T U9
  have b9 := U9.binds (ps := ["value"]) fun _ _ _ _ _ _ us hl => match us, hl with | [_], _ => rfl
  have C_is_ascending : Callee _ _ _ _ base _ "is_ascending" _ _ := ⟨f9, _, PySem.W.mg_of X G a9, k9, b9, ok9⟩
  have ok10 := ok_is_sequence (P := l.prog) (w := w) (base := base) (T0 := tabsOf [(lc0, lp0, (("_law_refused_right" : Str) ++ ".<locals>.") ++ "<lambda>"), (lc1, lp1, (("law" : Str) ++ ".<locals>.") ++ "<lambda>")]) (cs0 := cs0) T U10
  have b10 := U10.binds (ps := ["value"]) fun _ _ _ _ _ _ us hl => match us, hl with | [_], _ => rfl
  have C_is_sequence : Callee _ _ _ _ base _ "is_sequence" _ _ := ⟨f10, _, PySem.W.mg_of X G a10, k10, b10, ok10⟩
  have ok11 := ok_is_lot (P := l.prog) (w := w) (base := base) (T0 := tabsOf [(lc0, lp0, (("_law_refused_right" : Str) ++ ".<locals>.") ++ "<lambda>"), (lc1, lp1, (("law" : Str) ++ ".<locals>.") ++ "<lambda>")]) (cs0 := cs0) T C_is_ascending C_is_below C_is_sequence U11
  have b11 := U11.binds (ps := ["value", "most"]) fun _ _ _ _ _ _ us hl => match us, hl with | [_, _], _ => rfl
  have C_is_lot : Callee _ _ _ _ base _ "is_lot" _ _ := ⟨f11, _, PySem.W.mg_of X G a11, k11, b11, ok11⟩
  have ok12 := ok_is_passage (P := l.prog) (w := w) (base := base) (T0 := tabsOf [(lc0, lp0, (("_law_refused_right" : Str) ++ ".<locals>.") ++ "<lambda>"), (lc1, lp1, (("law" : Str) ++ ".<locals>.") ++ "<lambda>")]) (cs0 := cs0) T C_is_below C_is_lot C_is_sequence U12
  have b12 := U12.binds (ps := ["rooms", "value"]) fun _ _ _ _ _ _ us hl => match us, hl with | [_, _], _ => rfl
  have C_is_passage : Callee _ _ _ _ base _ "is_passage" _ _ := ⟨f12, _, PySem.W.mg_of X G a12, k12, b12, ok12⟩
  have ok13 := ok_are_passages (P := l.prog) (w := w) (base := base) (T0 := tabsOf [(lc0, lp0, (("_law_refused_right" : Str) ++ ".<locals>.") ++ "<lambda>"), (lc1, lp1, (("law" : Str) ++ ".<locals>.") ++ "<lambda>")]) (cs0 := cs0) T C_is_passage C_is_sequence U13
  have b13 := U13.binds (ps := ["rooms", "value"]) fun _ _ _ _ _ _ us hl => match us, hl with | [_, _], _ => rfl
  have C_are_passages : Callee _ _ _ _ base _ "are_passages" _ _ := ⟨f13, _, PySem.W.mg_of X G a13, k13, b13, ok13⟩
  have ok14 := ok_are_rooms (P := l.prog) (w := w) (base := base) (T0 := tabsOf [(lc0, lp0, (("_law_refused_right" : Str) ++ ".<locals>.") ++ "<lambda>"), (lc1, lp1, (("law" : Str) ++ ".<locals>.") ++ "<lambda>")]) (cs0 := cs0) T C_is_below C_is_sequence U14
  have b14 := U14.binds (ps := ["value"]) fun _ _ _ _ _ _ us hl => match us, hl with | [_], _ => rfl
  have C_are_rooms : Callee _ _ _ _ base _ "are_rooms" _ _ := ⟨f14, _, PySem.W.mg_of X G a14, k14, b14, ok14⟩
  have ok15 := ok_is_smoke (P := l.prog) (w := w) (base := base) (T0 := tabsOf [(lc0, lp0, (("_law_refused_right" : Str) ++ ".<locals>.") ++ "<lambda>"), (lc1, lp1, (("law" : Str) ++ ".<locals>.") ++ "<lambda>")]) (cs0 := cs0) T C_is_below C_is_sequence U15
  have b15 := U15.binds (ps := ["rooms", "value"]) fun _ _ _ _ _ _ us hl => match us, hl with | [_, _], _ => rfl
  have C_is_smoke : Callee _ _ _ _ base _ "is_smoke" _ _ := ⟨f15, _, PySem.W.mg_of X G a15, k15, b15, ok15⟩
  have ok16 := ok_check_house (P := l.prog) (w := w) (base := base) (T0 := tabsOf [(lc0, lp0, (("_law_refused_right" : Str) ++ ".<locals>.") ++ "<lambda>"), (lc1, lp1, (("law" : Str) ++ ".<locals>.") ++ "<lambda>")]) (cs0 := cs0) T C_are_passages C_are_rooms C_is_sequence C_is_smoke E_BadHouse U16
  have b16 := U16.binds (ps := ["value"]) fun _ _ _ _ _ _ us hl => match us, hl with | [_], _ => rfl
  have C_check_house : Callee _ _ _ _ base _ "check_house" _ _ := ⟨f16, _, PySem.W.mg_of X G a16, k16, b16, ok16⟩
  have ok17 := ok_is_person (P := l.prog) (w := w) (base := base) (T0 := tabsOf [(lc0, lp0, (("_law_refused_right" : Str) ++ ".<locals>.") ++ "<lambda>"), (lc1, lp1, (("law" : Str) ++ ".<locals>.") ++ "<lambda>")]) (cs0 := cs0) T C_is_below C_is_sequence U17
  have b17 := U17.binds (ps := ["house", "value"]) fun _ _ _ _ _ _ us hl => match us, hl with | [_, _], _ => rfl
  have C_is_person : Callee _ _ _ _ base _ "is_person" _ _ := ⟨f17, _, PySem.W.mg_of X G a17, k17, b17, ok17⟩
  have ok18 := ok_check_people (P := l.prog) (w := w) (base := base) (T0 := tabsOf [(lc0, lp0, (("_law_refused_right" : Str) ++ ".<locals>.") ++ "<lambda>"), (lc1, lp1, (("law" : Str) ++ ".<locals>.") ++ "<lambda>")]) (cs0 := cs0) T C_check_house C_is_person C_is_sequence E_BadPeople U18
  have b18 := U18.binds (ps := ["house", "value"]) fun _ _ _ _ _ _ us hl => match us, hl with | [_, _], _ => rfl
  have C_check_people : Callee _ _ _ _ base _ "check_people" _ _ := ⟨f18, _, PySem.W.mg_of X G a18, k18, b18, ok18⟩
  have ok19 := ok_check_task (P := l.prog) (w := w) (base := base) (T0 := tabsOf [(lc0, lp0, (("_law_refused_right" : Str) ++ ".<locals>.") ++ "<lambda>"), (lc1, lp1, (("law" : Str) ++ ".<locals>.") ++ "<lambda>")]) (cs0 := cs0) T C_check_house C_check_people C_is_below C_is_sequence E_Refused K_BadHouse K_BadPeople U19
  have b19 := U19.binds (ps := ["value"]) fun _ _ _ _ _ _ us hl => match us, hl with | [_], _ => rfl
  have C_check_task : CalleeM _ _ _ _ base _ "check_task" _ _ := ⟨f19, _, PySem.W.mg_of X G a19, k19, b19, ok19⟩
  have ok20 := ok_leads_out (P := l.prog) (w := w) (base := base) (T0 := tabsOf [(lc0, lp0, (("_law_refused_right" : Str) ++ ".<locals>.") ++ "<lambda>"), (lc1, lp1, (("law" : Str) ++ ".<locals>.") ++ "<lambda>")]) (cs0 := cs0) T U20
  have b20 := U20.binds (ps := ["house", "rooms", "stair"]) fun _ _ _ _ _ _ us hl => match us, hl with | [_, _, _], _ => rfl
  have C_leads_out : Callee _ _ _ _ base _ "leads_out" _ _ := ⟨f20, _, PySem.W.mg_of X G a20, k20, b20, ok20⟩
  have ok21 := ok_is_floor (P := l.prog) (w := w) (base := base) (T0 := tabsOf [(lc0, lp0, (("_law_refused_right" : Str) ++ ".<locals>.") ++ "<lambda>"), (lc1, lp1, (("law" : Str) ++ ".<locals>.") ++ "<lambda>")]) (cs0 := cs0) T C_is_below C_is_lot C_is_sequence C_leads_out U21
  have b21 := U21.binds (ps := ["house", "value"]) fun _ _ _ _ _ _ us hl => match us, hl with | [_, _], _ => rfl
  have C_is_floor : Callee _ _ _ _ base _ "is_floor" _ _ := ⟨f21, _, PySem.W.mg_of X G a21, k21, b21, ok21⟩
  have ok22 := ok_check_floors (P := l.prog) (w := w) (base := base) (T0 := tabsOf [(lc0, lp0, (("_law_refused_right" : Str) ++ ".<locals>.") ++ "<lambda>"), (lc1, lp1, (("law" : Str) ++ ".<locals>.") ++ "<lambda>")]) (cs0 := cs0) T C_check_task C_is_floor C_is_sequence E_Refused U22
  have b22 := U22.binds (ps := ["task", "value"]) fun _ _ _ _ _ _ us hl => match us, hl with | [_, _], _ => rfl
  have C_check_floors : CalleeM _ _ _ _ base _ "check_floors" _ _ := ⟨f22, _, PySem.W.mg_of X G a22, k22, b22, ok22⟩
  have ok23 := ok_check_floor (P := l.prog) (w := w) (base := base) (T0 := tabsOf [(lc0, lp0, (("_law_refused_right" : Str) ++ ".<locals>.") ++ "<lambda>"), (lc1, lp1, (("law" : Str) ++ ".<locals>.") ++ "<lambda>")]) (cs0 := cs0) T C_check_task C_is_floor E_Refused U23
  have b23 := U23.binds (ps := ["task", "value"]) fun _ _ _ _ _ _ us hl => match us, hl with | [_, _], _ => rfl
  have C_check_floor : CalleeM _ _ _ _ base _ "check_floor" _ _ := ⟨f23, _, PySem.W.mg_of X G a23, k23, b23, ok23⟩
  have V_check_floor : HeldM _ _ _ _ base 10 _ _ "check_floor" 2 F_check_floor := HeldM.mk C_check_floor (PySem.W.mg_of X G a23) a23 (by decide)
  have C_check_floor_value_task : CalleeKM _ _ _ _ base _ "check_floor" _ ["value", "task"] [1, 0] _ := ⟨f23, _, PySem.W.mg_of X G a23, k23, U23.bindsK fun _ _ _ _ _ _ us hl => match us, hl with | [_, _], _ => rfl, ok23⟩
  have ok24 := ok_shut_in_smoke (P := l.prog) (w := w) (base := base) (T0 := tabsOf [(lc0, lp0, (("_law_refused_right" : Str) ++ ".<locals>.") ++ "<lambda>"), (lc1, lp1, (("law" : Str) ++ ".<locals>.") ++ "<lambda>")]) (cs0 := cs0) T U24
  have b24 := U24.binds (ps := ["house", "passage", "room"]) fun _ _ _ _ _ _ us hl => match us, hl with | [_, _, _], _ => rfl
  have C_shut_in_smoke : Callee _ _ _ _ base _ "shut_in_smoke" _ _ := ⟨f24, _, PySem.W.mg_of X G a24, k24, b24, ok24⟩
  have ok25 := ok_floor_house (P := l.prog) (w := w) (base := base) (T0 := tabsOf [(lc0, lp0, (("_law_refused_right" : Str) ++ ".<locals>.") ++ "<lambda>"), (lc1, lp1, (("law" : Str) ++ ".<locals>.") ++ "<lambda>")]) (cs0 := cs0) T C_shut_in_smoke U25
  have b25 := U25.binds (ps := ["house", "floor"]) fun _ _ _ _ _ _ us hl => match us, hl with | [_, _], _ => rfl
  have C_floor_house : Callee _ _ _ _ base _ "floor_house" _ _ := ⟨f25, _, PySem.W.mg_of X G a25, k25, b25, ok25⟩
  have ok26 := ok_floor_task (P := l.prog) (w := w) (base := base) (T0 := tabsOf [(lc0, lp0, (("_law_refused_right" : Str) ++ ".<locals>.") ++ "<lambda>"), (lc1, lp1, (("law" : Str) ++ ".<locals>.") ++ "<lambda>")]) (cs0 := cs0) T C_check_floor C_check_task C_floor_house U26
  have b26 := U26.binds (ps := ["task", "floor"]) fun _ _ _ _ _ _ us hl => match us, hl with | [_, _], _ => rfl
  have C_floor_task : CalleeM _ _ _ _ base _ "floor_task" _ _ := ⟨f26, _, PySem.W.mg_of X G a26, k26, b26, ok26⟩
  have ok27 := ok_soonest (P := l.prog) (w := w) (base := base) (T0 := tabsOf [(lc0, lp0, (("_law_refused_right" : Str) ++ ".<locals>.") ++ "<lambda>"), (lc1, lp1, (("law" : Str) ++ ".<locals>.") ++ "<lambda>")]) (cs0 := cs0) T U27
  have b27 := U27.binds (ps := ["task"]) fun _ _ _ _ _ _ us hl => match us, hl with | [_], _ => rfl
  have C_soonest : CalleeM _ _ _ _ base _ "soonest" _ _ := ⟨f27, _, PySem.W.mg_of X G a27, k27, b27, ok27⟩
  have ok28 := ok_came_to (P := l.prog) (w := w) (base := base) (T0 := tabsOf [(lc0, lp0, (("_law_refused_right" : Str) ++ ".<locals>.") ++ "<lambda>"), (lc1, lp1, (("law" : Str) ++ ".<locals>.") ++ "<lambda>")]) (cs0 := cs0) T C_floor_task C_soonest U28
  have b28 := U28.binds (ps := ["task", "floor"]) fun _ _ _ _ _ _ us hl => match us, hl with | [_, _], _ => rfl
  have C_came_to : CalleeM _ _ _ _ base _ "came_to" _ _ := ⟨f28, _, PySem.W.mg_of X G a28, k28, b28, ok28⟩
  have V_came_to : HeldM _ _ _ _ base 12 _ _ "came_to" 2 F_came_to := HeldM.mk C_came_to (PySem.W.mg_of X G a28) a28 (by decide)
  have ok29 := ok_rest_task (P := l.prog) (w := w) (base := base) (T0 := tabsOf [(lc0, lp0, (("_law_refused_right" : Str) ++ ".<locals>.") ++ "<lambda>"), (lc1, lp1, (("law" : Str) ++ ".<locals>.") ++ "<lambda>")]) (cs0 := cs0) T C_came_to C_check_floor C_check_task U29
  have b29 := U29.binds (ps := ["task", "floor"]) fun _ _ _ _ _ _ us hl => match us, hl with | [_, _], _ => rfl
  have C_rest_task : CalleeM _ _ _ _ base _ "rest_task" _ _ := ⟨f29, _, PySem.W.mg_of X G a29, k29, b29, ok29⟩
  have V_rest_task : HeldM _ _ _ _ base 13 _ _ "rest_task" 2 F_rest_task := HeldM.mk C_rest_task (PySem.W.mg_of X G a29) a29 (by decide)
  have ok30 := ok_by_floors (P := l.prog) (w := w) (base := base) (T0 := tabsOf [(lc0, lp0, (("_law_refused_right" : Str) ++ ".<locals>.") ++ "<lambda>"), (lc1, lp1, (("law" : Str) ++ ".<locals>.") ++ "<lambda>")]) (cs0 := cs0) T C_check_floors C_check_task C_rest_task C_soonest U30
  have b30 := U30.binds (ps := ["task", "floors"]) fun _ _ _ _ _ _ us hl => match us, hl with | [_, _], _ => rfl
  have C_by_floors : CalleeM _ _ _ _ base _ "by_floors" _ _ := ⟨f30, _, PySem.W.mg_of X G a30, k30, b30, ok30⟩
  have V_by_floors : HeldM _ _ _ _ base 14 _ _ "by_floors" 2 F_by_floors := HeldM.mk C_by_floors (PySem.W.mg_of X G a30) a30 (by decide)
  have ok31 := ok__law_refused_right (P := l.prog) (w := w) (base := base) (T0 := tabsOf [(lc0, lp0, (("_law_refused_right" : Str) ++ ".<locals>.") ++ "<lambda>"), (lc1, lp1, (("law" : Str) ++ ".<locals>.") ++ "<lambda>")]) (cs0 := cs0) T V_came_to V_check_floor V_rest_task C_by_floors H__law_heard La__law_refused_right U31
  have b31 := U31.binds (ps := ["_law_task", "_law_value"]) fun _ _ _ _ _ _ us hl => match us, hl with | [_, _], _ => rfl
  have C__law_refused_right : CalleeM _ _ _ _ base _ "_law_refused_right" _ _ := ⟨f31, _, PySem.W.mg_of X G a31, k31, b31, ok31⟩
  exact ok_law (cs0 := cs0) lawTot T V_by_floors V_came_to V_check_floor C_check_floor_value_task V_rest_task C__law_box C__law_house C__law_is_floor C__law_people C__law_pick C__law_refused_right C__law_take C_by_floors H__law_heard La_law U32
theorem walk_mk {l : PySem.W.OpenLaw} {n : Nat} {qp : Program} {loose : List Str} {XP : (Str → Option Value) → Heap → Prop} {YP : World → Heap → Prop} {d : DefRec} {Kf : Params → Fg} {x : Str} {k : Nat} {tf0 lc0 lp0 : Addr} {toc0 tkV0 tdc0 tpm0 tct0 tcl0 tdV0 : Value} {tod0 tan0 tcd0 : Option Addr} {tos0 tcs0 : Array (Option Value)} {tvs0 : Array Value} {tpa0 : Arguments} {tbo0 : List Stmt} {tsc0 : Scope} {td0 : DefRec} {tf1 lc1 lp1 : Addr} {toc1 tkV1 tdc1 tpm1 tct1 tcl1 tdV1 : Value} {tod1 tan1 tcd1 : Option Addr} {tos1 tcs1 : Array (Option Value)} {tvs1 : Array Value} {tpa1 : Arguments} {tbo1 : List Stmt} {tsc1 : Scope} {td1 : DefRec}
    (hn : l.most = some n) (hn2 : n ≤ sizeLine) (hdf : d.params.defaults = []) (hr : Room k callerA) (hY : ∀ (w : World) (h : Heap), YP w h → (Kf w.params).In h)
    (t0a : ∀ w : World, PySem.W.nsIn (Kf w.params) mainGlobals "_law_refused_right" = some (some (.ref tf0))) (t0b : ∀ w : World, (Kf w.params).lookup tf0 = some ⟨toc0, tod0, .func (PySem.W.fnOf "_law_refused_right" "_law_refused_right" tpa0 tbo0 tsc0 tdV0 tkV0 tdc0 tpm0 tan0 (.ref lc0) tct0), tos0⟩) (t0c : ∀ w : World, (Kf w.params).lookup lc0 = some ⟨tcl0, tcd0, .fields tvs0, tcs0⟩) (t0d : (tvs0[11]? : Option Value) = some (.ref lp0)) (t0e : ∀ w : World, (Kf w.params).lookup lp0 = none) (t0f : (recsOf qp).find? (fun e => e.name == ("_law_refused_right" : Str)) = some td0) (t1a : ∀ w : World, PySem.W.nsIn (Kf w.params) mainGlobals "law" = some (some (.ref tf1))) (t1b : ∀ w : World, (Kf w.params).lookup tf1 = some ⟨toc1, tod1, .func (PySem.W.fnOf "law" "law" tpa1 tbo1 tsc1 tdV1 tkV1 tdc1 tpm1 tan1 (.ref lc1) tct1), tos1⟩) (t1c : ∀ w : World, (Kf w.params).lookup lc1 = some ⟨tcl1, tcd1, .fields tvs1, tcs1⟩) (t1d : (tvs1[11]? : Option Value) = some (.ref lp1)) (t1e : ∀ w : World, (Kf w.params).lookup lp1 = none) (t1f : (recsOf qp).find? (fun e => e.name == ("law" : Str)) = some td1)
    (F : ∀ (w : World) (mg : Str → Option Value) (fa : Addr) (h : Heap), (Kf w.params).In h → h.Ns mainGlobals mg → mg d.name = some (.ref fa) →
      ∃ fd : FuncData, (∀ (s : Shared) (u : Value), BindsTo s fd ⟨[u], []⟩ [(x, u)]) ∧ ∀ base : Heap, (Kf w.params).In base → base.Ns mainGlobals mg → (∀ c ∈ ([(lc0, lp0, (("_law_refused_right" : Str) ++ ".<locals>.") ++ "<lambda>"), (lc1, lp1, (("law" : Str) ++ ".<locals>.") ++ "<lambda>")] : List (Addr × Addr × Str)), LamX.TabB base mg c.1 c.2.1) → FnM l.prog w (Kf w.params) mg base k fa fd [x] (spLaw (Kf w.params) (tabsOf [(lc0, lp0, (("_law_refused_right" : Str) ++ ".<locals>.") ++ "<lambda>"), (lc1, lp1, (("law" : Str) ++ ".<locals>.") ++ "<lambda>")]) n)) :
    PySem.W.WalkO qp loose XP YP l.row.toRowW d [] (fun f vs => PySem.call f vs) :=
  walk_dl hn hn2 hdf hr hY [(lc0, lp0, (("_law_refused_right" : Str) ++ ".<locals>.") ++ "<lambda>"), (lc1, lp1, (("law" : Str) ++ ".<locals>.") ++ "<lambda>")] ⟨⟨_, "_law_refused_right", t0f, fun w => tabIn_mk (t0a w) (t0b w) (t0c w) t0d⟩, ⟨_, "law", t1f, fun w => tabIn_mk (t1a w) (t1b w) (t1c w) t1d⟩, trivial⟩ (fun w => ⟨t0e w, t1e w, trivial⟩) F
end Lw

namespace Lw
open PySem L2 PySem.Spec DL
/-! ### draws -/
theorem log_small {n : Int} (h0 : 0 < n) (h : n < 2 ^ 60) : n.natAbs.log2 < 9000 := by
  have h2 : n.natAbs ≠ 0 := by omega
  have := (Nat.log2_lt h2).mpr (by omega : n.natAbs < 2 ^ 60)
  omega
theorem take_ok (n : Int) (b : Int × Int) (h : 0 < n) (hn : n < 2 ^ 60) : ∃ d b', F__law_take [.int n] b = .ok (.int d) b' ∧ 0 ≤ d ∧ d < n := by
  have hl := log_small h hn
  have p1 : ∀ x : Int, 0 ≤ x % n := fun x => Int.emod_nonneg _ (by omega)
  have p2 : ∀ x : Int, x % n < n := fun x => Int.emod_lt_of_pos _ h
  by_cases c : 0 < b.1
  · refine ⟨b.1 % n, (b.1 / n, b.2), ?_, p1 _, p2 _⟩
    simp only [F__law_take, runF_eq, enF, B__law_take]
    simp [c, h, hl]
  · simp only [F__law_take, runF_eq, enF, B__law_take]
    simp [c, h, hl]
    exact ⟨p1 _, p2 _⟩
theorem takeN_ok (n : Nat) (b : Int × Int) (h : 0 < n) (hn : n < 2 ^ 60) : ∃ (d : Nat) (b' : Int × Int), F__law_take [.int (n : Nat)] b = .ok (.int (d : Nat)) b' ∧ d < n := by
  obtain ⟨d, b', e, h0, h1⟩ := take_ok n b (by omega) (by omega)
  exact ⟨d.toNat, b', by rw [e, Int.toNat_of_nonneg h0], by omega⟩
theorem pick_ok (ds : List D) (b : Int × Int) (h : ds ≠ []) (hn : ds.length < 1000) : ∃ d b', F__law_pick [.list ds] b = .ok d b' ∧ d ∈ ds := by
  have h0 : 0 < ds.length := List.length_pos_iff.mpr h
  obtain ⟨d, b', e, h1, h2⟩ := take_ok (ds.length : Int) b (by omega) (by omega)
  have hj : d.toNat < ds.length := by omega
  have hi : ixN ds.length d = some d.toNat := by simp [ixN, h1, h2]
  refine ⟨ds[d.toNat], b', ?_, List.getElem_mem _⟩
  simp only [F__law_pick, runF_eq, enF, B__law_pick]
  simp [e, L2.atI, hi, hj]
theorem pickM_ok {α : Type} (f : α → D) (l : List α) (b : Int × Int) (h : l ≠ []) (hn : l.length < 1000) : ∃ a b', F__law_pick [.list (l.map f)] b = .ok (f a) b' ∧ a ∈ l := by
  obtain ⟨d, b', e, hd⟩ := pick_ok (l.map f) b (by simpa using h) (by simpa using hn)
  obtain ⟨a, ha, e2⟩ := List.mem_map.mp hd
  exact ⟨a, b', by rw [e, ← e2], ha⟩
theorem boxTot (ns : List Int) (k : Int) (hk : 0 ≤ k) : ∃ g s en, B__law_box ⟨.sq ns :: .fz (.int k) :: List.replicate 2 .no, (0, 0)⟩ = .ok (.rn [.int g, .int s] en) := by
  simp only [B__law_box, List.replicate]
  have hz : (2 : Nat) ≤ sizeLine := by decide
  have hk0 : ¬ k < 0 := by omega
  by_cases c : k < ns.length
  · obtain ⟨x, e, _⟩ := atI_some hk c
    simp [c, e]
    generalize (if x < 0 then -x else x) = y
    by_cases c2 : (1000000000000000000 : Int) ≤ y <;> simp [c2, hz]
  · by_cases c1 : ns = []
    · subst c1
      have key : ∀ q : Int, (∃ g s en, (Rs.ok (Out.rn [.int g, .int s] en) : Rs Out) = .ok (.rn [.int q, .int q] en)) → True := fun _ _ => trivial
      simp [hk0]
      split <;> simp [hz]
    · have h0 : 0 < ns.length := List.length_pos_iff.mpr c1
      obtain ⟨x, e, _⟩ := atI_some (xs := ns) (i := k % ns.length) (Int.emod_nonneg _ (by omega)) (Int.emod_lt_of_pos _ (by omega))
      simp [c, c1, h0, e]
      generalize (if x < 0 then -x else x) = y
      split <;> simp [hz]
end Lw

namespace Lw
open PySem L2 PySem.Spec DL
/-! ### comprehensions and loops that draw -/
theorem comp_drawA {α β : Type} {own : List Nat} {g : DGt} {A : DEn} {k0 : List Sl} (e : α → D) (f : β → D) (R : α → β → Prop) : ∀ {l : List α} {acc : List D} {b : Int × Int}, (∀ a ∈ l, ∀ b, ∃ k1, g (e a) ⟨k0, b⟩ = some ⟨k1, b⟩ ∧ (∀ b, (⟨k1, b⟩ : En).wipe own = ⟨k0, b⟩) ∧ ∃ y b2, A ⟨k1, b⟩ = .ok (f y, ⟨k1, b2⟩) ∧ R a y) → acc.length + l.length ≤ sizeLine →
    ∃ ys b', cLoop own g tTrue A (l.map e) ⟨k0, b⟩ acc = .ok (acc ++ ys.map f, ⟨k0, b'⟩) ∧ ys.length = l.length ∧ ∀ p ∈ l.zip ys, R p.1 p.2
  | [], acc, b, _, _ => ⟨[], b, by simp [cLoop], rfl, by simp⟩
  | d :: ds, acc, b, h, hl => by
    obtain ⟨k1, h1, hw, y, b2, h4, h5⟩ := h d List.mem_cons_self b
    rw [List.length_cons] at hl
    obtain ⟨ys, b', e1, e2, e3⟩ := comp_drawA e f R (l := ds) (acc := acc ++ [f y]) (b := b2) (fun d' hd => h d' (List.mem_cons_of_mem _ hd)) (by rw [List.length_append, List.length_singleton]; omega)
    refine ⟨y :: ys, b', ?_, by rw [List.length_cons, List.length_cons]; omega, fun p hp => ?_⟩
    · have hlt : acc.length < sizeLine := by omega
      simp [cLoop, h1, h4, hw, e1, hlt]
    · rw [List.zip_cons_cons] at hp
      rcases List.mem_cons.mp hp with rfl | hp
      · exact h5
      · exact e3 p hp
theorem comp_draw {α β : Type} {own : List Nat} {g : DGt} {A : DEn} {k0 : List Sl} (e : α → D) (f : β → D) (R : α → β → Prop) {l : List α} {b : Int × Int} (hl : l.length ≤ 1000) (h : ∀ a ∈ l, ∀ b, ∃ k1, g (e a) ⟨k0, b⟩ = some ⟨k1, b⟩ ∧ (∀ b, (⟨k1, b⟩ : En).wipe own = ⟨k0, b⟩) ∧ ∃ y b2, A ⟨k1, b⟩ = .ok (f y, ⟨k1, b2⟩) ∧ R a y) :
    ∃ ys b', cLoop own g tTrue A (l.map e) ⟨k0, b⟩ [] = .ok (ys.map f, ⟨k0, b'⟩) ∧ ys.length = l.length ∧ ∀ p ∈ l.zip ys, R p.1 p.2 := by
  obtain ⟨ys, b', h1, h2, h3⟩ := comp_drawA e f R (acc := []) (b := b) h (by rw [List.length_nil, Nat.zero_add]; exact size_small hl)
  exact ⟨ys, b', by rw [h1, List.nil_append], h2, h3⟩
theorem snd_of_zip {α β : Type} {R : β → Prop} : ∀ {l : List α} {ys : List β}, ys.length = l.length → (∀ p ∈ l.zip ys, R p.2) → ∀ y ∈ ys, R y
  | [], [], _, _ => by simp
  | a :: l, y :: ys, hl, h => fun z hz => by
    rcases List.mem_cons.mp hz with rfl | hz
    · exact h (a, z) (by simp)
    · exact snd_of_zip (l := l) (ys := ys) (by simpa using hl) (fun p hp => h p (by simp [hp])) z hz
/-! ### slots that are not owned; the law's box -/
def NF (x : Sl) : Prop := x = .no ∨ ∃ d, x = .fz d
theorem NF.no : NF .no := .inl rfl
theorem NF.fz (d : D) : NF (.fz d) := .inr ⟨d, rfl⟩
theorem nf_bx {x : Sl} (h : NF x) : isBx x = false := by
  rcases h with rfl | ⟨d, rfl⟩ <;> rfl
theorem nf_own {x : Sl} (h : NF x) : (match x with | .ow _ => false | .bx => false | _ => true) = true := by
  rcases h with rfl | ⟨d, rfl⟩ <;> rfl
theorem box_ap {i s : Nat} {F : List Int → Int → Int × Int} {k : Int} {sl : List Sl} {b : Int × Int} {ns : List Int} {j : Nat} (h : sl[s]? = some (.sq ns)) (hj : sl[j]? = some (.fz (.int k))) (h0 : 0 ≤ k) (hb : (sl.set i .no).all (fun s => !isBx s) = true) :
    sBox i s F (eVar j) ⟨sl, b⟩ = .ok (.nx ⟨sl.set i .bx, F ns k⟩) := by
  unfold sBox
  simp [h, hj, boxK, h0]
  simpa using hb
theorem mul_two (d : D) : dMul (.list [d]) (.int 2) = some (.list [d, d]) := by
  have e : dMul (.list [d]) (.int 2) = if 0 ≤ (2 : Int) ∧ (2 : Int) < 2 ^ 63 ∧ [d].length * (2 : Int).toNat ≤ sizeLine then some (.list (List.replicate (2 : Int).toNat [d]).flatten) else none := rfl
  rw [e, if_pos ⟨by decide, by decide, by show 1 * 2 ≤ sizeLine; decide⟩]
  rfl
/-- the text of two alike -/
theorem repr_two {d : D} {n m : Nat} (h : Okd n m d) (hn : n ≤ 50 := by omega) (hm : m ≤ 9000 := by omega) : ∃ s, dRepr [.list [d, d]] = some (.str s) :=
  ⟨_, Okd.repr (n := n + 1) (m := m + 1 + (m + 1 + 0)) (.list (.cons h (.cons h .nil)))⟩
end Lw

namespace Lw
open PySem L2 PySem.Spec DL
/-! ### words about any value -/
def isI : D → Bool
  | .int _ => true
  | _ => false
def numD : D → Bool
  | .int i => decide (0 ≤ i)
  | _ => false
def belowD (d : D) (m : Int) : Bool := match d with
  | .int i => decide (0 ≤ i) && decide (i < m)
  | _ => false
def isSq : D → Bool
  | .list _ => true
  | .tuple _ => true
  | _ => false
def asc : List Int → Bool
  | a :: b :: r => decide (a < b) && asc (b :: r)
  | _ => true
def toI : D → Int
  | .int i => i
  | _ => 0
def sqL : D → List D
  | .list ds => ds
  | .tuple ds => ds
  | _ => []
def lotD (d : D) (m : Int) : Bool := isSq d && ((sqL d).all fun x => belowD x m) && asc ((sqL d).map toI)
theorem integer_ok (d : D) (b : Int × Int) : F_is_integer [d] b = .ok (.bool (isI d)) b := by
  simp only [F_is_integer, runF_eq, enF, B_is_integer]
  cases d <;> simp [isK, isI]
theorem number_ok (d : D) (b : Int × Int) : F_is_number [d] b = .ok (.bool (numD d)) b := by
  simp only [F_is_number, runF_eq, enF, B_is_number]
  cases d <;> simp [integer_ok, isI, numD]
theorem below_ok (d : D) (m : Int) (b : Int × Int) : F_is_below [d, .int m] b = .ok (.bool (belowD d m)) b := by
  simp only [F_is_below, runF_eq, enF, B_is_below]
  cases d <;> simp [number_ok, numD, belowD]
  rename_i i
  by_cases h : 0 ≤ i <;> simp [h]
theorem sequence_ok (d : D) (b : Int × Int) : F_is_sequence [d] b = .ok (.bool (isSq d)) b := by
  simp only [F_is_sequence, runF_eq, enF, B_is_sequence]
  cases d <;> simp [isK, isSq]
theorem zip_asc : ∀ ns : List Int, ((List.zipWith (fun a b : Int => (a, b)) ns (ns.drop 1)).all fun p => decide (p.1 < p.2)) = asc ns
  | [] => rfl
  | [a] => rfl
  | a :: b :: r => by
    have ih := zip_asc (b :: r)
    simp only [List.drop_succ_cons, List.drop_zero] at ih
    simp only [List.drop_succ_cons, List.drop_zero, List.zipWith_cons_cons, List.all_cons, asc, ih]
theorem zipD_ints (ns ms : List Int) : zipD (ns.map .int) (ms.map .int) = (List.zipWith (fun a b : Int => (a, b)) ns ms).map fun p => .tuple [.int p.1, .int p.2] := by
  unfold zipD
  rw [List.zipWith_map, List.map_zipWith]
theorem ascending_ok (ns : List Int) (hl : ns.length ≤ 1000) (b : Int × Int) : F_is_ascending [.list (ns.map .int)] b = .ok (.bool (asc ns)) b ∧ F_is_ascending [.tuple (ns.map .int)] b = .ok (.bool (asc ns)) b := by
  obtain ⟨P, hP⟩ : ∃ P, P = List.zipWith (fun a b : Int => (a, b)) ns (ns.drop 1) := ⟨_, rfl⟩
  have hz : zipD (ns.map PyData.int) ((ns.map PyData.int).drop 1) = P.map fun p => .tuple [.int p.1, .int p.2] := by rw [← List.map_drop, zipD_ints, hP]
  have ha : (P.all fun p => decide (p.1 < p.2)) = asc ns := by rw [hP, zip_asc]
  have hlP : P.length ≤ 1000 := by rw [hP, List.length_zipWith]; omega
  generalize ns.map PyData.int = ds at hz
  have c := fun v => comp_mapLT (own := [1, 2]) (g := gTup 2 (gCons (gN 1) (gCons (gN 2) gNil))) (A := A_is_ascending_0) (k0 := [.fz v, .no, .no]) (b := b) (fun p : Int × Int => .tuple [.int p.1, .int p.2]) (fun p => .bool (decide (p.1 < p.2))) hlP (fun p _ => ⟨_, rfl, by simp, by simp [A_is_ascending_0]⟩)
  constructor <;> (simp only [F_is_ascending, runF_eq, enF, B_is_ascending]; simp [-List.drop_one, hz, c, dAll_map, ha])
theorem all_below {m : Int} : ∀ {ds : List D}, (ds.all fun x => belowD x m) = true → ds = (ds.map toI).map .int ∧ ∀ i ∈ ds.map toI, 0 ≤ i ∧ i < m
  | [], _ => ⟨rfl, by simp⟩
  | d :: ds, h => by
    rw [List.all_cons, Bool.and_eq_true] at h
    obtain ⟨h1, h2⟩ := all_below h.2
    cases d with
    | int i =>
      have hi : 0 ≤ i ∧ i < m := by simpa [belowD] using h.1
      refine ⟨by rw [List.map_cons, List.map_cons, ← h1]; rfl, fun j hj => ?_⟩
      rcases List.mem_cons.mp (show j ∈ i :: ds.map toI from hj) with z | z
      · rw [z]; exact hi
      · exact h2 j z
    | _ => simp [belowD] at h
theorem lot_ok (d : D) (m : Int) (hl : (sqL d).length ≤ 1000) (b : Int × Int) : F_is_lot [d, .int m] b = .ok (.bool (lotD d m)) b := by
  have c := fun ds : List D => fun hl : ds.length ≤ 1000 => fun v => comp_mapLT (own := [2]) (g := gN 2) (A := A_is_lot_0) (k0 := [.fz v, .fz (.int m), .no]) (b := b) (fun x : D => x) (fun x => .bool (belowD x m)) (l := ds) hl (fun p _ => ⟨_, rfl, by simp, by simp [A_is_lot_0, below_ok]⟩)
  have key : ∀ ds : List D, ds.length ≤ 1000 → ∀ v, (v = .list ds ∨ v = .tuple ds) → F_is_lot [v, .int m] b = .ok (.bool ((ds.all fun x => belowD x m) && asc (ds.map toI))) b := fun ds hds v hv => by
    have cc := c ds hds v
    rw [List.map_id'] at cc
    cases ha : ds.all fun x => belowD x m with
    | false => rcases hv with rfl | rfl <;> (simp only [F_is_lot, runF_eq, enF, B_is_lot]; simp [sequence_ok, isSq, cc, dAll_map, ha])
    | true =>
      obtain ⟨e, _⟩ := all_below ha
      have h1 : ∀ b, F_is_ascending [.list ds] b = .ok (.bool (asc (ds.map toI))) b := fun b => by
        have := (ascending_ok (ds.map toI) (by rw [List.length_map]; exact hds) b).1
        rw [← e] at this; exact this
      have h2 : ∀ b, F_is_ascending [.tuple ds] b = .ok (.bool (asc (ds.map toI))) b := fun b => by
        have := (ascending_ok (ds.map toI) (by rw [List.length_map]; exact hds) b).2
        rw [← e] at this; exact this
      rcases hv with rfl | rfl <;> (simp only [F_is_lot, runF_eq, enF, B_is_lot]; simp [sequence_ok, isSq, cc, dAll_map, ha, h1, h2])
  cases d with
  | list ds => rw [key ds hl _ (.inl rfl)]; simp [lotD, isSq, sqL]
  | tuple ds => rw [key ds hl _ (.inr rfl)]; simp [lotD, isSq, sqL]
  | _ => simp only [F_is_lot, runF_eq, enF, B_is_lot]; simp [sequence_ok, isSq, lotD]
end Lw

namespace Lw
open PySem L2 PySem.Spec DL
/-! ### houses -/
/-- no list within is long -/
def Lim : Nat → D → Prop
  | 0, _ => True
  | n + 1, d => (sqL d).length ≤ 1000 ∧ ∀ x ∈ sqL d, Lim n x
theorem Lim.len {n : Nat} {d : D} (h : Lim (n + 1) d) : (sqL d).length ≤ 1000 := h.1
def roomsB (d : D) : Bool := isSq d && decide (1 ≤ (sqL d).length) && decide ((sqL d).length ≤ 20) && ((sqL d).all fun x => belowD x 2)
theorem sz {n : Nat} (h : n ≤ 1000) : n ≤ sizeLine := size_small h
theorem rooms_ok (d : D) (hl : (sqL d).length ≤ 1000) (b : Int × Int) : F_are_rooms [d] b = .ok (.bool (roomsB d)) b := by
  have c := fun v => comp_mapLT (own := [1]) (g := gN 1) (A := A_are_rooms_0) (k0 := [.fz v, .no]) (b := b) (fun x : D => x) (fun x => .bool (belowD x 2)) hl (fun p _ => ⟨_, rfl, by simp, by simp [A_are_rooms_0, below_ok]⟩)
  rw [List.map_id'] at c
  simp only [F_are_rooms, runF_eq, enF, B_are_rooms]
  cases d with
  | list ds | tuple ds =>
    simp only [sqL] at c
    by_cases h1 : 1 ≤ ds.length
    · by_cases h2 : ds.length ≤ 20
      · have i1 : (1 : Int) ≤ ds.length := by omega
        have i2 : (ds.length : Int) ≤ 20 := by omega
        simp [sequence_ok, isSq, c, dAll_map, roomsB, sqL, h1, h2, i1, i2]
      · have i1 : (1 : Int) ≤ ds.length := by omega
        have i2 : ¬ (ds.length : Int) ≤ 20 := by omega
        simp [sequence_ok, isSq, roomsB, sqL, h1, h2, i1, i2]
    · have i1 : ¬ (1 : Int) ≤ ds.length := by omega
      simp [sequence_ok, isSq, roomsB, sqL, h1, i1]
  | _ => simp [sequence_ok, isSq, roomsB]

/-! one passage of some rooms -/
def passB (rn : List Int) (d : D) : Bool := isSq d && match sqL d with
  | [a, b, c, e, f] => belowD a rn.length && (belowD b rn.length && (!decide (toI a = toI b) && (!decide (rn.getD (toI a).toNat 0 = 1) && (belowD c 10 && (!decide (toI c = 0) && (belowD e 10 && lotD f 60))))))
  | _ => false
theorem five {α : Type} {l : List α} (h : l.length = 5) : ∃ a b c d e, l = [a, b, c, d, e] := by
  match l, h with
  | [a, b, c, d, e], _ => exact ⟨a, b, c, d, e, rfl⟩
theorem three {α : Type} {l : List α} (h : l.length = 3) : ∃ a b c, l = [a, b, c] := by
  match l, h with
  | [a, b, c], _ => exact ⟨a, b, c, rfl⟩
theorem passB_len {rn : List Int} {d : D} (h : (sqL d).length ≠ 5) : passB rn d = false := by
  unfold passB
  split
  · rename_i e; rw [e] at h; exact absurd rfl h
  · rw [Bool.and_false]
theorem below_int {d : D} {m : Int} (h : belowD d m = true) : ∃ i : Int, d = .int i ∧ 0 ≤ i ∧ i < m := by
  cases d with
  | int i => exact ⟨i, rfl, by simpa [belowD] using h⟩
  | _ => simp [belowD] at h
theorem below_nat {d : D} {m : Nat} (h : belowD d m = true) : ∃ i : Nat, d = .int (i : Nat) ∧ i < m := by
  obtain ⟨i, rfl, h0, h1⟩ := below_int h
  exact ⟨i.toNat, by rw [Int.toNat_of_nonneg h0], by omega⟩
theorem dAll2 {p q : Bool} : dAll [.list [.bool p, .bool q]] = some (.bool (p && q)) := by
  have h := dAll_map (p := id) (l := [p, q])
  simpa using h
theorem ix_ints {rn : List Int} {i : Nat} (h : i < rn.length) : L2.atI (rn.map PyData.int) (i : Int) = some (.int (rn.getD i 0)) := by
  rw [atI_natE, List.getElem?_map, List.getElem?_eq_getElem h, List.getD_eq_getElem?_getD, List.getElem?_eq_getElem h]
  rfl
theorem pass_ok {rn : List Int} {R : D} (hR : R = .list (rn.map .int) ∨ R = .tuple (rn.map .int)) {d : D} (hd : Lim 2 d) (b : Int × Int) : F_is_passage [R, d] b = .ok (.bool (passB rn d)) b := by
  have hlen : dLen [R] = some (.int (rn.length : Nat)) := by rcases hR with rfl | rfl <;> simp
  have hix : ∀ i : Nat, i < rn.length → dIx R (.int (i : Nat)) = some (.int (rn.getD i 0)) := fun i hi => by rcases hR with rfl | rfl <;> simp [ix_ints hi]
  clear hR
  have key : ∀ v ds, (v = .list ds ∨ v = .tuple ds) → (∀ x ∈ ds, (sqL x).length ≤ 1000) → F_is_passage [R, v] b = .ok (.bool (passB rn v)) b := fun v ds hv hl => by
    by_cases h5 : ds.length = 5
    · obtain ⟨x, y, z, u, f, rfl⟩ := five h5
      have hf : (sqL f).length ≤ 1000 := hl f (by simp)
      have c := comp_mapLT (own := [2]) (g := gN 2) (A := A_is_passage_0) (k0 := [.fz R, .fz v, .no]) (b := b) (fun x : D => x) (fun x => .bool (belowD x rn.length)) (l := [x, y]) (by simp) (fun p _ => ⟨_, rfl, by simp, by simp [A_is_passage_0, below_ok, hlen]⟩)
      simp only [List.map_cons, List.map_nil] at c
      cases hx : belowD x rn.length with
      | false => rcases hv with rfl | rfl <;> (simp only [F_is_passage, runF_eq, enF, B_is_passage]; simp [sequence_ok, isSq, c, dAll2, hx, passB, sqL])
      | true =>
        cases hy : belowD y rn.length with
        | false => rcases hv with rfl | rfl <;> (simp only [F_is_passage, runF_eq, enF, B_is_passage]; simp [sequence_ok, isSq, c, dAll2, hx, hy, passB, sqL])
        | true =>
          obtain ⟨i, rfl, hi⟩ := below_nat hx
          obtain ⟨j, rfl, hj⟩ := below_nat hy
          by_cases e1 : i = j
          · subst e1
            rcases hv with rfl | rfl <;> (simp only [F_is_passage, runF_eq, enF, B_is_passage]; simp [sequence_ok, isSq, c, dAll2, hx, hy, passB, sqL])
          · have e1' : ¬ (i : Int) = j := by omega
            by_cases e2 : rn.getD i 0 = 1
            · rcases hv with rfl | rfl <;> (simp only [F_is_passage, runF_eq, enF, B_is_passage]; simp [-List.getD_eq_getElem?_getD, sequence_ok, isSq, c, dAll2, hx, hy, passB, sqL, e1, e1', hix i hi, e2, toI])
            · cases e3 : belowD z 10 with
              | false => rcases hv with rfl | rfl <;> (simp only [F_is_passage, runF_eq, enF, B_is_passage]; simp [-List.getD_eq_getElem?_getD, sequence_ok, isSq, c, dAll2, hx, hy, passB, sqL, e1, e1', hix i hi, e2, toI, below_ok, e3])
              | true =>
                obtain ⟨k, rfl, hk0, hk⟩ := below_int e3
                by_cases e4 : k = 0
                · subst e4
                  rcases hv with rfl | rfl <;> (simp only [F_is_passage, runF_eq, enF, B_is_passage]; simp [-List.getD_eq_getElem?_getD, sequence_ok, isSq, c, dAll2, hx, hy, passB, sqL, e1, e1', hix i hi, e2, toI, below_ok, e3])
                · cases e5 : belowD u 10 <;> rcases hv with rfl | rfl <;> (simp only [F_is_passage, runF_eq, enF, B_is_passage]; simp [-List.getD_eq_getElem?_getD, sequence_ok, isSq, c, dAll2, hx, hy, passB, sqL, e1, e1', hix i hi, e2, toI, below_ok, e3, e4, e5, lot_ok f 60 hf])
    · have z : passB rn v = false := passB_len (by rcases hv with rfl | rfl <;> exact h5)
      have h5' : ¬ (ds.length : Int) = 5 := by omega
      rw [z]
      rcases hv with rfl | rfl <;> (simp only [F_is_passage, runF_eq, enF, B_is_passage]; simp [sequence_ok, isSq, h5'])
  cases d with
  | list ds => exact key _ ds (.inl rfl) fun x hx => (hd.2 x hx).1
  | tuple ds => exact key _ ds (.inr rfl) fun x hx => (hd.2 x hx).1
  | _ => simp only [F_is_passage, runF_eq, enF, B_is_passage]; simp [sequence_ok, isSq, passB]
def passesB (rn : List Int) (d : D) : Bool := isSq d && (decide ((sqL d).length ≤ 60) && (sqL d).all (passB rn))
theorem passes_ok {rn : List Int} {R : D} (hR : R = .list (rn.map .int) ∨ R = .tuple (rn.map .int)) {d : D} (hd : Lim 3 d) (b : Int × Int) : F_are_passages [R, d] b = .ok (.bool (passesB rn d)) b := by
  have c := fun v => comp_mapLT (own := [2]) (g := gN 2) (A := A_are_passages_0) (k0 := [.fz R, .fz v, .no]) (b := b) (fun x : D => x) (fun x => .bool (passB rn x)) (l := sqL d) hd.1 (fun p hp => ⟨_, rfl, by simp, by simp [A_are_passages_0, pass_ok hR (hd.2 p hp)]⟩)
  rw [List.map_id'] at c
  clear hR hd
  simp only [F_are_passages, runF_eq, enF, B_are_passages]
  cases d with
  | list ds | tuple ds =>
    simp only [sqL] at c
    by_cases h2 : ds.length ≤ 60
    · have i2 : (ds.length : Int) ≤ 60 := by omega
      simp [sequence_ok, isSq, c, dAll_map, passesB, sqL, h2, i2]
    · have i2 : ¬ (ds.length : Int) ≤ 60 := by omega
      simp [sequence_ok, isSq, passesB, sqL, h2, i2]
  | _ => simp [sequence_ok, isSq, passesB]
def isN : D → Bool
  | .none => true
  | _ => false
def smokeB (rn : List Int) (d : D) : Bool := isSq d && (decide ((sqL d).length = rn.length) && (List.zip rn (sqL d)).all fun p => isN p.2 || (decide (p.1 = 0) && belowD p.2 60))
/-- both lists, both tuples, or something else -/
def kin : D → D → Bool
  | .list _, .tuple _ => false
  | .tuple _, .list _ => false
  | _, _ => true
theorem zipD_zip (rn : List Int) (ds : List D) : zipD (rn.map .int) ds = (List.zip rn ds).map fun p => .tuple [.int p.1, p.2] := by
  unfold zipD
  rw [List.zipWith_map_left, List.zip, List.map_zipWith]
theorem smoke_ok {rn : List Int} {R : D} (hR : R = .list (rn.map .int) ∨ R = .tuple (rn.map .int)) (hrl : rn.length ≤ 1000) {d : D} (hk : kin R d = true) (b : Int × Int) : F_is_smoke [R, d] b = .ok (.bool (smokeB rn d)) b := by
  have c := fun v => comp_mapLT (own := [2, 3]) (g := gTup 2 (gCons (gN 2) (gCons (gN 3) gNil))) (A := A_is_smoke_0) (k0 := [.fz R, .fz v, .no, .no]) (b := b) (fun p : Int × D => .tuple [.int p.1, p.2]) (fun p => .bool (isN p.2 || (decide (p.1 = 0) && belowD p.2 60))) (l := List.zip rn (sqL d)) (by rw [List.length_zip]; omega) (fun p hp => ⟨_, rfl, by simp, by
    obtain ⟨i, x⟩ := p
    by_cases e : i = 0 <;> cases x <;> simp [A_is_smoke_0, below_ok, e, isN]⟩)
  have hlen : dLen [R] = some (.int (rn.length : Nat)) := by rcases hR with rfl | rfl <;> simp
  rw [← zipD_zip] at c
  simp only [F_is_smoke, runF_eq, enF, B_is_smoke]
  cases d with
  | list ds =>
    have e : R = .list (rn.map .int) := hR.elim id fun e => by rw [e] at hk; simp [kin] at hk
    subst e
    simp only [sqL] at c
    by_cases h : ds.length = rn.length
    · simp [sequence_ok, isSq, c, dAll_map, smokeB, sqL, h]
    · have h' : ¬ (ds.length : Int) = rn.length := by omega
      simp [sequence_ok, isSq, smokeB, sqL, h, h']
  | tuple ds =>
    have e : R = .tuple (rn.map .int) := hR.elim (fun e => by rw [e] at hk; simp [kin] at hk) id
    subst e
    simp only [sqL] at c
    by_cases h : ds.length = rn.length
    · simp [sequence_ok, isSq, c, dAll_map, smokeB, sqL, h]
    · have h' : ¬ (ds.length : Int) = rn.length := by omega
      simp [sequence_ok, isSq, smokeB, sqL, h, h']
  | _ => simp [sequence_ok, isSq, smokeB]
end Lw

namespace Lw
open PySem L2 PySem.Spec DL
/-! ### check_house -/
def canP (d : D) : D := .tuple ((sqL d).take 4 ++ [.tuple (sqL ((sqL d).getD 4 .none))])
/-- the part that is none, or the house -/
def chkH (d : D) : Int ⊕ D := if isSq d = true then match sqL d with
    | [r, p, s] => if roomsB r = true then if passesB ((sqL r).map toI) p = true then if smokeB ((sqL r).map toI) s = true then .inr (.tuple [.tuple (sqL r), .tuple ((sqL p).map canP), .tuple (sqL s)]) else .inl 2 else .inl 1 else .inl 0
    | _ => .inl (-1)
  else .inl (-1)
def kinH (d : D) : Bool := match sqL d with
  | [r, _, s] => kin r s
  | _ => true
theorem chkH_len {d : D} (h : (sqL d).length ≠ 3) : chkH d = .inl (-1) := by
  unfold chkH
  split
  · split
    · rename_i e; rw [e] at h; exact absurd rfl h
    · rfl
  · rfl
theorem isSq_cases {d : D} (h : isSq d = true) : d = .list (sqL d) ∨ d = .tuple (sqL d) := by
  cases d <;> simp [isSq, sqL] at h ⊢
theorem pass_form {rn : List Int} {d : D} (h : passB rn d = true) : ∃ x y z u f, sqL d = [x, y, z, u, f] ∧ lotD f 60 = true ∧ isSq d = true := by
  unfold passB at h
  rw [Bool.and_eq_true] at h
  obtain ⟨h1, h2⟩ := h
  split at h2
  · rename_i x y z u f e
    simp only [Bool.and_eq_true] at h2
    exact ⟨x, y, z, u, f, e, h2.2.2.2.2.2.2.2, h1⟩
  · cases h2
theorem house_ok {d : D} (hd : Lim 4 d) (hk : kinH d = true) (b : Int × Int) : F_check_house [d] b = match chkH d with
    | .inl i => .ex "BadHouse" (.int i) b
    | .inr h => .ok h b := by
  have key : ∀ v ds, (v = .list ds ∨ v = .tuple ds) → (∀ x ∈ ds, Lim 3 x) → kinH v = true → F_check_house [v] b = match chkH v with
      | .inl i => .ex "BadHouse" (.int i) b
      | .inr h => .ok h b := fun v ds hv hl hkk => by
    have hs : sqL v = ds := by rcases hv with rfl | rfl <;> rfl
    have hq : isSq v = true := by rcases hv with rfl | rfl <;> rfl
    by_cases h3 : ds.length = 3
    · obtain ⟨r, p, s, rfl⟩ := three h3
      have hr : Lim 3 r := hl r (by simp)
      have hp : Lim 3 p := hl p (by simp)
      have hkk : kin r s = true := by unfold kinH at hkk; rw [hs] at hkk; exact hkk
      have e0 : chkH v = if roomsB r = true then if passesB ((sqL r).map toI) p = true then if smokeB ((sqL r).map toI) s = true then .inr (.tuple [.tuple (sqL r), .tuple ((sqL p).map canP), .tuple (sqL s)]) else .inl 2 else .inl 1 else .inl 0 := by
        unfold chkH
        rw [hq, hs]
        simp
      rw [e0]
      have rk := fun b => rooms_ok r hr.1 b
      by_cases h1 : roomsB r = true
      · have h1' := h1
        unfold roomsB at h1'
        simp only [Bool.and_eq_true, decide_eq_true_eq] at h1'
        obtain ⟨⟨⟨q1, q2⟩, q3⟩, q4⟩ := h1'
        obtain ⟨er, _⟩ := all_below q4
        have hR : r = .list (((sqL r).map toI).map .int) ∨ r = .tuple (((sqL r).map toI).map .int) := by rw [← er]; exact isSq_cases q1
        have pk := fun b => passes_ok hR hp b
        have sk := fun b => smoke_ok hR (by rw [List.length_map]; omega) hkk b
        by_cases h2 : passesB ((sqL r).map toI) p = true
        · by_cases h4 : smokeB ((sqL r).map toI) s = true
          · have hsq : isSq s = true := by unfold smokeB at h4; simp only [Bool.and_eq_true] at h4; exact h4.1
            have hpq := h2
            unfold passesB at hpq
            simp only [Bool.and_eq_true, decide_eq_true_eq] at hpq
            obtain ⟨p1, p2, p3⟩ := hpq
            have ts : dTuple [s] = some (.tuple (sqL s)) := by rcases isSq_cases hsq with z | z <;> (rw [z]; simp [sqL])
            have tr : dTuple [r] = some (.tuple (sqL r)) := by rcases isSq_cases q1 with z | z <;> (rw [z]; simp [sqL])
            have c := comp_mapLT (own := [5]) (g := gN 5) (A := A_check_house_0) (k0 := [.fz v, .fz r, .fz p, .fz s, .no, .no]) (b := b) (fun x : D => x) canP (l := sqL p) (by omega) (fun x hx => ⟨_, rfl, by simp, by
              obtain ⟨x0, x1, x2, x3, x4, e5, l5, q5⟩ := pass_form (List.all_eq_true.mp p3 x hx)
              have q6 : isSq x4 = true := by unfold lotD at l5; simp only [Bool.and_eq_true] at l5; exact l5.1.1
              have z5 : (5 : Nat) ≤ sizeLine := by decide
              have z1 : (1 : Nat) ≤ sizeLine := by decide
              have t4 : dTuple [x4] = some (.tuple (sqL x4)) := by rcases isSq_cases q6 with z | z <;> (rw [z]; simp [sqL])
              rcases isSq_cases q5 with z | z <;> (rw [e5] at z; subst z; simp [A_check_house_0, canP, sqL, t4, z5, z1])⟩)
            rw [List.map_id'] at c
            have pq : asSeq p = some (sqL p) := by rcases isSq_cases p1 with z | z <;> (rw [z]; simp [sqL])
            have z3 : (3 : Nat) ≤ sizeLine := by decide
            simp only [F_check_house, runF_eq, enF, B_check_house]
            rcases hv with rfl | rfl <;> simp [sequence_ok, isSq, rk, pk, sk, h1, h2, h4, pq, c, ts, tr, z3]
          · have h4' : smokeB ((sqL r).map toI) s = false := by simpa using h4
            simp only [F_check_house, runF_eq, enF, B_check_house]
            rcases hv with rfl | rfl <;> simp [sequence_ok, isSq, rk, pk, sk, h1, h2, h4']
        · have h2' : passesB ((sqL r).map toI) p = false := by simpa using h2
          simp only [F_check_house, runF_eq, enF, B_check_house]
          rcases hv with rfl | rfl <;> simp [sequence_ok, isSq, rk, pk, h1, h2']
      · have h1' : roomsB r = false := by simpa using h1
        simp only [F_check_house, runF_eq, enF, B_check_house]
        rcases hv with rfl | rfl <;> simp [sequence_ok, isSq, rk, h1']
    · have z : chkH v = .inl (-1) := chkH_len (by rw [hs]; exact h3)
      have h3' : ¬ (ds.length : Int) = 3 := by omega
      rw [z]
      simp only [F_check_house, runF_eq, enF, B_check_house]
      rcases hv with rfl | rfl <;> simp [sequence_ok, isSq, h3']
  cases d with
  | list ds => exact key _ ds (.inl rfl) hd.2 hk
  | tuple ds => exact key _ ds (.inr rfl) hd.2 hk
  | _ => simp only [F_check_house, runF_eq, enF, B_check_house]; simp [sequence_ok, isSq, chkH]
end Lw

namespace Lw
open PySem L2 PySem.Spec DL
/-! ### people -/
/-- a walk that stops at the first that is bad -/
theorem loop_first {g : DGt} {S : DSt} (I : En → Prop) (bad : D → Bool) (c : Str) (bx : Int × Int) : ∀ {ds : List D} {k : Nat} {en : En}, I en →
    (∀ d ∈ ds, bad d = false → ∀ (k : Nat) e, I e → ∃ e1, g (.tuple [.int (k : Nat), d]) e = some e1 ∧ ∃ e2, S e1 = .ok (.nx e2) ∧ I e2) →
    (∀ d ∈ ds, bad d = true → ∀ (k : Nat) e, I e → ∃ e1, g (.tuple [.int (k : Nat), d]) e = some e1 ∧ ∃ e2, S e1 = .ex c (.int (k : Nat)) e2 ∧ e2.bx = bx) →
    match ds.findIdx? bad with
    | none => ∃ e2, sLoop g S (enumD k ds) en = .ok (.nx e2) ∧ I e2
    | some i => ∃ e2, sLoop g S (enumD k ds) en = .ex c (.int ((k + i : Nat) : Int)) e2 ∧ e2.bx = bx
  | [], k, en, hi, _, _ => ⟨en, rfl, hi⟩
  | d :: ds, k, en, hi, h1, h2 => by
    cases hb : bad d with
    | true =>
      rw [List.findIdx?_cons, hb]
      obtain ⟨e1, g1, e2, s1, z⟩ := h2 d List.mem_cons_self hb k en hi
      exact ⟨e2, by simp [enumD, sLoop, g1, s1], z⟩
    | false =>
      obtain ⟨e1, g1, e2, s1, z⟩ := h1 d List.mem_cons_self hb k en hi
      have ih := loop_first I bad c bx (ds := ds) (k := k + 1) (en := e2) z (fun d' hd => h1 d' (List.mem_cons_of_mem _ hd)) (fun d' hd => h2 d' (List.mem_cons_of_mem _ hd))
      rw [List.findIdx?_cons, hb]
      cases hf : ds.findIdx? bad with
      | none =>
        rw [hf] at ih
        obtain ⟨e3, s3, z3⟩ := ih
        exact ⟨e3, by simp [enumD, sLoop, g1, s1, s3], z3⟩
      | some i =>
        rw [hf] at ih
        obtain ⟨e3, s3, z3⟩ := ih
        exact ⟨e3, by simp [enumD, sLoop, g1, s1, s3]; omega, z3⟩
def personB (n : Nat) (d : D) : Bool := isSq d && match sqL d with
  | [r, s, u] => belowD r n && (belowD s 60 && belowD u 10)
  | _ => false
theorem personB_len {n : Nat} {d : D} (h : (sqL d).length ≠ 3) : personB n d = false := by
  unfold personB
  split
  · rename_i e; rw [e] at h; exact absurd rfl h
  · rw [Bool.and_false]
/-- a told house and how many rooms it has -/
def RoomsN (h : D) (n : Nat) : Prop := ∃ rs r, h = .tuple (.tuple rs :: r) ∧ rs.length = n
def roomN : D → Nat
  | .tuple (.tuple rs :: _) => rs.length
  | _ => 0
theorem person_ok {h : D} {n : Nat} (hh : RoomsN h n) (d : D) (b : Int × Int) : F_is_person [h, d] b = .ok (.bool (personB n d)) b := by
  obtain ⟨rs, r, rfl, rfl⟩ := hh
  have key : ∀ v ds, (v = .list ds ∨ v = .tuple ds) → F_is_person [.tuple (.tuple rs :: r), v] b = .ok (.bool (personB rs.length v)) b := fun v ds hv => by
    by_cases h3 : ds.length = 3
    · obtain ⟨x, y, z, rfl⟩ := three h3
      cases hx : belowD x rs.length with
      | false => rcases hv with rfl | rfl <;> (simp only [F_is_person, runF_eq, enF, B_is_person]; simp [sequence_ok, isSq, below_ok, hx, personB, sqL])
      | true => cases hy : belowD y 60 <;> rcases hv with rfl | rfl <;> (simp only [F_is_person, runF_eq, enF, B_is_person]; simp [sequence_ok, isSq, below_ok, hx, hy, personB, sqL])
    · have z : personB rs.length v = false := personB_len (by rcases hv with rfl | rfl <;> exact h3)
      have h3' : ¬ (ds.length : Int) = 3 := by omega
      rw [z]
      rcases hv with rfl | rfl <;> (simp only [F_is_person, runF_eq, enF, B_is_person]; simp [sequence_ok, isSq, h3'])
  cases d with
  | list ds => exact key _ ds (.inl rfl)
  | tuple ds => exact key _ ds (.inr rfl)
  | _ => simp only [F_is_person, runF_eq, enF, B_is_person]; simp [sequence_ok, isSq, personB]
def tupD (d : D) : D := .tuple (sqL d)
/-- the first who is none, or the people -/
def chkP (n : Nat) (v : D) : Int ⊕ D := if isSq v = true then match (sqL v).findIdx? (fun x => !personB n x) with
    | some i => .inl (i : Nat)
    | none => if (sqL v).length ≤ 60 then .inr (.tuple ((sqL v).map tupD)) else .inl (-1)
  else .inl (-1)
theorem person_sq {n : Nat} {d : D} (h : personB n d = true) : isSq d = true := by
  unfold personB at h
  rw [Bool.and_eq_true] at h
  exact h.1
theorem chkH_rooms {d h : D} (e : chkH d = .inr h) : ∃ n, RoomsN h n := by
  unfold chkH at e
  repeat' split at e
  all_goals first | (cases e; done) | (cases e; exact ⟨_, _, _, rfl, rfl⟩)
theorem people_ok {d : D} (hd : Lim 4 d) (hk : kinH d = true) {v : D} (hl : (sqL v).length ≤ 1000) (b : Int × Int) : F_check_people [d, v] b = match chkH d with
    | .inl i => .ex "BadHouse" (.int i) b
    | .inr h => match chkP (roomN h) v with
      | .inl i => .ex "BadPeople" (.int i) b
      | .inr r => .ok r b := by
  have hc := fun b => house_ok hd hk b
  cases e : chkH d with
  | inl i =>
    rw [e] at hc
    simp only [F_check_people, runF_eq, enF, B_check_people]
    simp [hc]
  | inr h =>
    rw [e] at hc
    obtain ⟨n, hn⟩ := chkH_rooms e
    have en : (roomN h) = n := by
      obtain ⟨rs, r, rfl, rfl⟩ := hn
      rfl
    dsimp only
    rw [en]
    have key : ∀ v ds, (v = .list ds ∨ v = .tuple ds) → ds.length ≤ 1000 → F_check_people [d, v] b = match chkP n v with
        | .inl i => .ex "BadPeople" (.int i) b
        | .inr r => .ok r b := fun v ds hv hl => by
      have hs : sqL v = ds := by rcases hv with rfl | rfl <;> rfl
      have hq : isSq v = true := by rcases hv with rfl | rfl <;> rfl
      have lp := loop_first (g := gTup 2 (gCons (gN 3) (gCons (gN 4) gNil))) (S := L_check_people_0) (fun en => ∃ s3 s4, en = ⟨[.fz d, .fz v, .fz h, s3, s4], b⟩ ∧ ownS [s3, s4] [0, 1] = true) (fun x => !personB n x) "BadPeople" b (ds := ds) (k := 0) (en := ⟨[.fz d, .fz v, .fz h, .no, .no], b⟩) ⟨_, _, rfl, rfl⟩
        (fun x hx hb k en hen => by
          obtain ⟨s3, s4, rfl, _⟩ := hen
          have hb : personB n x = true := by simpa using hb
          refine ⟨⟨[.fz d, .fz v, .fz h, .fz (.int (k : Nat)), .fz x], b⟩, by simp, ⟨[.fz d, .fz v, .fz h, .fz (.int (k : Nat)), .fz x], b⟩, by simp [L_check_people_0, person_ok hn, hb], _, _, rfl, rfl⟩)
        (fun x hx hb k en hen => by
          obtain ⟨s3, s4, rfl, _⟩ := hen
          have hb : personB n x = false := by simpa using hb
          refine ⟨⟨[.fz d, .fz v, .fz h, .fz (.int (k : Nat)), .fz x], b⟩, by simp, ⟨[.fz d, .fz v, .fz h, .fz (.int (k : Nat)), .fz x], b⟩, by simp [L_check_people_0, person_ok hn, hb], rfl⟩)
      unfold chkP
      rw [hq, hs]
      cases hf : ds.findIdx? (fun x => !personB n x) with
      | some i =>
        rw [hf] at lp
        obtain ⟨e2, l1, l2⟩ := lp
        rw [Nat.zero_add] at l1
        simp only [F_check_people, runF_eq, enF, B_check_people]
        rcases hv with rfl | rfl <;> simp [hc, sequence_ok, isSq, l1, l2]
      | none =>
        rw [hf] at lp
        obtain ⟨e2, l1, s3, s4, rfl, l2⟩ := lp
        have l2' : ∀ w, ownOk (⟨[.fz d, .fz w, .fz h, s3, s4], b⟩ : En) [4] = true ∧ (⟨[.fz d, .fz w, .fz h, s3, s4], b⟩ : En).wipe [4] = ⟨[.fz d, .fz w, .fz h, s3, .no], b⟩ := fun w => by
          refine ⟨?_, by simp⟩
          cases s4 <;> simp [ownS] at l2 ⊢
        have hg := List.findIdx?_eq_none_iff.mp hf
        have c := fun w => comp_mapLT (own := [4]) (g := gN 4) (A := A_check_people_0) (k0 := [.fz d, .fz w, .fz h, s3, .no]) (b := b) (fun x : D => x) tupD (l := ds) hl (fun x hx => ⟨_, rfl, by simp, by
          have hb : personB n x = true := by simpa using hg x hx
          rcases isSq_cases (person_sq hb) with z | z <;> (rw [z]; simp [A_check_people_0, tupD, sqL])⟩)
        rw [List.map_id'] at c
        by_cases h60 : ds.length ≤ 60
        · have i60 : ¬ (60 : Int) < ds.length := by omega
          simp only [F_check_people, runF_eq, enF, B_check_people]
          rcases hv with rfl | rfl <;> simp [hc, sequence_ok, isSq, l1, h60, i60, l2', c]
        · have i60 : (60 : Int) < ds.length := by omega
          simp only [F_check_people, runF_eq, enF, B_check_people]
          rcases hv with rfl | rfl <;> simp [hc, sequence_ok, isSq, l1, h60, i60]
    cases v with
    | list ds => exact key _ ds (.inl rfl) hl
    | tuple ds => exact key _ ds (.inr rfl) hl
    | _ => simp only [F_check_people, runF_eq, enF, B_check_people]; simp [hc, sequence_ok, isSq, chkP]
end Lw

namespace Lw
open PySem L2 PySem.Spec DL
/-! ### houses as plain data -/
structure Pg where
  t : Int
  h : Int
  l : Int
  w : Int
  sh : List Int
def oD : Option Int → D
  | none => .none
  | some i => .int i
def pgD (p : Pg) : D := .tuple [.int p.t, .int p.h, .int p.l, .int p.w, .tuple (p.sh.map .int)]
def pgQ (p : Pg) : D := .list [.int p.t, .int p.h, .int p.l, .int p.w, .list (p.sh.map .int)]
structure Ho where
  rs : List Int
  pg : List Pg
  sm : List (Option Int)
def hoD (x : Ho) : D := .tuple [.tuple (x.rs.map .int), .tuple (x.pg.map pgD), .tuple (x.sm.map oD)]
def hoQ (x : Ho) : D := .list [.list (x.rs.map .int), .list (x.pg.map pgQ), .list (x.sm.map oD)]
structure PgOk (rs : List Int) (p : Pg) : Prop where
  t0 : 0 ≤ p.t
  t1 : p.t < rs.length
  h0 : 0 ≤ p.h
  h1 : p.h < rs.length
  ne : p.t ≠ p.h
  ins : rs.getD p.t.toNat 0 ≠ 1
  l0 : 1 ≤ p.l
  l1 : p.l ≤ 9
  w0 : 0 ≤ p.w
  w1 : p.w ≤ 9
  asc : asc p.sh = true
  sh : ∀ i ∈ p.sh, 0 ≤ i ∧ i < 60
structure HoOk (x : Ho) : Prop where
  n1 : 1 ≤ x.rs.length
  n20 : x.rs.length ≤ 20
  bit : ∀ r ∈ x.rs, r = 0 ∨ r = 1
  p60 : x.pg.length ≤ 60
  pg : ∀ p ∈ x.pg, PgOk x.rs p
  sl : x.sm.length = x.rs.length
  sm : ∀ q ∈ x.rs.zip x.sm, q.2 = none ∨ q.1 = 0 ∧ ∃ i, q.2 = some i ∧ 0 ≤ i ∧ i < 60
theorem toI_ints (ns : List Int) : (ns.map PyData.int).map toI = ns := by
  rw [List.map_map]
  exact List.map_id'' (fun _ => rfl) ns
theorem asc_len : ∀ {l : List Int} {m : Int}, asc l = true → (∀ i ∈ l, i < m) → ∀ a, (∀ i ∈ l, a ≤ i) → (l.length : Int) ≤ if l = [] then 0 else m - a
  | [], _, _, _, _, _ => by simp
  | [x], m, _, h, a, ha => by
    have := h x (by simp)
    have := ha x (by simp)
    simp
    omega
  | x :: y :: r, m, h, hm, a, ha => by
    simp only [asc, Bool.and_eq_true, decide_eq_true_eq] at h
    have hx := ha x (by simp)
    have ih := asc_len (l := y :: r) (m := m) h.2 (fun i hi => hm i (List.mem_cons_of_mem _ hi)) (x + 1) (fun i hi => by
      have key : ∀ (l : List Int) (b : Int), asc (b :: l) = true → ∀ i ∈ b :: l, b ≤ i := by
        intro l
        induction l with
        | nil => intro b _ i hi; simp at hi; omega
        | cons c l ih =>
          intro b hb i hi
          simp only [asc, Bool.and_eq_true, decide_eq_true_eq] at hb
          rcases List.mem_cons.mp hi with rfl | hi
          · exact Int.le_refl _
          · have := ih c hb.2 i hi
            omega
      have := key r y h.2 i hi
      omega)
    simp at ih ⊢
    omega
theorem PgOk.len {rs : List Int} {p : Pg} (h : PgOk rs p) : p.sh.length ≤ 60 := by
  have := asc_len h.asc (fun i hi => (h.sh i hi).2) 0 fun i hi => (h.sh i hi).1
  split at this <;> omega
/-- a house in any of its forms -/
structure Form (x : Ho) (v : D) : Prop where
  ex : ∃ r p s f, isSq v = true ∧ sqL v = [r, p, s] ∧ (isSq r = true ∧ sqL r = x.rs.map .int) ∧ (isSq p = true ∧ sqL p = x.pg.map f) ∧ (isSq s = true ∧ sqL s = x.sm.map oD) ∧ kin r s = true ∧
    ∀ q : Pg, isSq (f q) = true ∧ ∃ z, sqL (f q) = [.int q.t, .int q.h, .int q.l, .int q.w, z] ∧ isSq z = true ∧ sqL z = q.sh.map .int
theorem form_D (x : Ho) : Form x (hoD x) := ⟨_, _, _, pgD, rfl, rfl, ⟨rfl, rfl⟩, ⟨rfl, rfl⟩, ⟨rfl, rfl⟩, rfl, fun q => ⟨rfl, _, rfl, rfl, rfl⟩⟩
theorem form_Q (x : Ho) : Form x (hoQ x) := ⟨_, _, _, pgQ, rfl, rfl, ⟨rfl, rfl⟩, ⟨rfl, rfl⟩, ⟨rfl, rfl⟩, rfl, fun q => ⟨rfl, _, rfl, rfl, rfl⟩⟩
theorem lim_of {d : D} (h : sqL d = []) : ∀ n, Lim n d
  | 0 => trivial
  | n + 1 => ⟨by rw [h]; exact Nat.zero_le _, fun x hx => by rw [h] at hx; cases hx⟩
theorem lim_ints {d : D} {ns : List Int} (h : sqL d = ns.map .int) (hl : ns.length ≤ 1000) (n : Nat) : Lim (n + 1) d :=
  ⟨by rw [h, List.length_map]; exact hl, fun x hx => by
    rw [h] at hx
    obtain ⟨i, _, rfl⟩ := List.mem_map.mp hx
    exact lim_of rfl n⟩
theorem lim_opts {d : D} {ns : List (Option Int)} (h : sqL d = ns.map oD) (hl : ns.length ≤ 1000) (n : Nat) : Lim (n + 1) d :=
  ⟨by rw [h, List.length_map]; exact hl, fun x hx => by
    rw [h] at hx
    obtain ⟨i, _, rfl⟩ := List.mem_map.mp hx
    exact lim_of (by cases i <;> rfl) n⟩
theorem Form.lim {x : Ho} {v : D} (f : Form x v) (h : HoOk x) : Lim 4 v ∧ kinH v = true := by
  obtain ⟨r, p, s, f, qv, hv, ⟨qr, hr⟩, ⟨qp, hp⟩, ⟨qs, hs⟩, hk, hf⟩ := f.ex
  have l1 := h.n20
  have l2 := h.p60
  have l3 := h.sl
  refine ⟨⟨by rw [hv]; simp, fun y hy => ?_⟩, by unfold kinH; rw [hv]; exact hk⟩
  rw [hv] at hy
  simp at hy
  rcases hy with rfl | rfl | rfl
  · exact lim_ints hr (by omega) 2
  · refine ⟨by rw [hp, List.length_map]; omega, fun y hy => ?_⟩
    rw [hp] at hy
    obtain ⟨q, hq, rfl⟩ := List.mem_map.mp hy
    obtain ⟨q1, z, q2, q3, q4⟩ := hf q
    have l4 := (h.pg q hq).len
    refine ⟨by rw [q2]; simp, fun y hy => ?_⟩
    rw [q2] at hy
    simp at hy
    rcases hy with rfl | rfl | rfl | rfl | rfl
    · exact lim_of rfl 1
    · exact lim_of rfl 1
    · exact lim_of rfl 1
    · exact lim_of rfl 1
    · exact lim_ints q4 (by omega) 0
  · exact lim_opts hs (by omega) 2
theorem pass_true {rs : List Int} {q : Pg} (h : PgOk rs q) {d z : D} (q1 : isSq d = true) (q2 : sqL d = [.int q.t, .int q.h, .int q.l, .int q.w, z]) (q3 : isSq z = true) (q4 : sqL z = q.sh.map .int) : passB rs d = true := by
  have lot : lotD z 60 = true := by
    unfold lotD
    rw [q3, q4, toI_ints, h.asc, List.all_map]
    simp only [Bool.true_and, Bool.and_true, List.all_eq_true]
    intro i hi
    have := h.sh i hi
    simp [belowD, this]
  have a1 := h.t0
  have a2 := h.t1
  have a3 := h.h0
  have a4 := h.h1
  have a5 := h.l0
  have a6 := h.l1
  have a7 := h.w0
  have a8 := h.w1
  have a9 := h.ins
  have a10 := h.ne
  have b1 : q.l < 10 := by omega
  have b2 : q.w < 10 := by omega
  have b3 : 0 ≤ q.l := by omega
  have b4 : ¬ q.l = 0 := by omega
  unfold passB
  rw [q1, q2]
  simp [-List.getD_eq_getElem?_getD, belowD, toI, lot, a1, a2, a3, a4, a7, a9, a10, b1, b2, b3, b4]
theorem Form.told {x : Ho} {v : D} (f : Form x v) (h : HoOk x) : chkH v = .inr (hoD x) := by
  obtain ⟨r, p, s, f, qv, hv, ⟨qr, hr⟩, ⟨qp, hp⟩, ⟨qs, hs⟩, hk, hf⟩ := f.ex
  have l1 := h.n1
  have l2 := h.n20
  have l3 := h.p60
  have h1 : roomsB r = true := by
    unfold roomsB
    rw [qr, hr, List.length_map]
    simp only [Bool.true_and, Bool.and_eq_true, decide_eq_true_eq, List.all_map, List.all_eq_true]
    refine ⟨by omega, fun i hi => ?_⟩
    rcases h.bit i hi with rfl | rfl <;> rfl
  have h2 : passesB x.rs p = true := by
    unfold passesB
    rw [qp, hp, List.length_map, List.all_map]
    simp only [Bool.true_and, Bool.and_eq_true, decide_eq_true_eq, List.all_eq_true]
    refine ⟨l3, fun q hq => ?_⟩
    obtain ⟨q1, z, q2, q3, q4⟩ := hf q
    exact pass_true (h.pg q hq) q1 q2 q3 q4
  have h3 : smokeB x.rs s = true := by
    unfold smokeB
    rw [qs, hs, List.length_map, h.sl, List.zip_map_right, List.all_map]
    simp only [Bool.true_and, decide_true, List.all_eq_true]
    intro q hq
    rcases h.sm q hq with z | ⟨z0, i, z1, z2, z3⟩
    · simp [z, oD, isN]
    · simp [z1, oD, isN, z0, belowD, z2, z3]
  have cp : (sqL p).map canP = x.pg.map pgD := by
    rw [hp, List.map_map]
    refine List.map_congr_left fun q hq => ?_
    obtain ⟨q1, z, q2, q3, q4⟩ := hf q
    show canP (f q) = _
    unfold canP
    rw [q2]
    simp [pgD, q4]
  rw [← toI_ints x.rs, ← hr] at h2 h3
  unfold chkH
  rw [qv, hv]
  simp [-List.map_map, h1, h2, h3, cp, hs, hoD]
  exact hr
/-- any function that begins with check_house -/
theorem house_told {x : Ho} {v : D} (f : Form x v) (h : HoOk x) (b : Int × Int) : F_check_house [v] b = .ok (hoD x) b := by
  have z := house_ok (f.lim h).1 (f.lim h).2 b
  rw [f.told h] at z
  exact z
end Lw

namespace Lw
open PySem L2 PySem.Spec DL
/-! ### tasks as plain data -/
abbrev Ps := Int × Int × Int
def pD (p : Ps) : D := .tuple [.int p.1, .int p.2.1, .int p.2.2]
def pQ (p : Ps) : D := .list [.int p.1, .int p.2.1, .int p.2.2]
def psD (ps : List Ps) : D := .tuple (ps.map pD)
structure POk (n : Nat) (p : Ps) : Prop where
  r0 : 0 ≤ p.1
  r1 : p.1 < n
  b0 : 0 ≤ p.2.1
  b1 : p.2.1 < 60
  u0 : 0 ≤ p.2.2
  u1 : p.2.2 < 10
structure Tk where
  x : Ho
  ps : List Ps
  now : Int
  fin : Int
def tkD (k : Tk) : D := .tuple [hoD k.x, psD k.ps, .int k.now, .int k.fin]
structure TkOk (k : Tk) : Prop where
  ho : HoOk k.x
  p60 : k.ps.length ≤ 60
  ps : ∀ p ∈ k.ps, POk k.x.rs.length p
  n0 : 0 ≤ k.now
  n1 : k.now ≤ k.fin
  f1 : k.fin < 60
  late : ∀ p ∈ k.ps, k.now ≤ p.2.1
theorem personB_of {n : Nat} {d : D} (h : personB n d = true) : ∃ p, tupD d = pD p ∧ POk n p := by
  unfold personB at h
  rw [Bool.and_eq_true] at h
  obtain ⟨_, h⟩ := h
  split at h
  · rename_i r s u e
    rw [Bool.and_eq_true, Bool.and_eq_true] at h
    have key : ∀ {d : D} {m : Int}, belowD d m = true → ∃ i, d = .int i ∧ 0 ≤ i ∧ i < m := fun {d m} h => by
      cases d <;> simp [belowD] at h
      exact ⟨_, rfl, h.1, h.2⟩
    obtain ⟨i, rfl, i0, i1⟩ := key h.1
    obtain ⟨j, rfl, j0, j1⟩ := key h.2.1
    obtain ⟨k, rfl, k0, k1⟩ := key h.2.2
    exact ⟨(i, j, k), by unfold tupD; rw [e]; rfl, i0, i1, j0, j1, k0, k1⟩
  · cases h
theorem chkP_of {n : Nat} {v r : D} (h : chkP n v = .inr r) : ∃ ps : List Ps, r = psD ps ∧ ps.length ≤ 60 ∧ ∀ p ∈ ps, POk n p := by
  unfold chkP at h
  split at h
  · split at h
    · cases h
    · rename_i hf
      split at h
      · rename_i hl
        cases h
        have hg := List.findIdx?_eq_none_iff.mp hf
        have key : ∀ ds : List D, (∀ d ∈ ds, personB n d = true) → ∃ ps : List Ps, ds.map tupD = ps.map pD ∧ ps.length = ds.length ∧ ∀ p ∈ ps, POk n p := by
          intro ds
          induction ds with
          | nil => intro _; exact ⟨[], rfl, rfl, by simp⟩
          | cons d ds ih =>
            intro hd
            obtain ⟨p, e, ok⟩ := personB_of (hd d List.mem_cons_self)
            obtain ⟨ps, e2, l2, ok2⟩ := ih fun d' h' => hd d' (List.mem_cons_of_mem _ h')
            exact ⟨p :: ps, by rw [List.map_cons, List.map_cons, e, e2], by simp [l2], fun q hq => (List.mem_cons.mp hq).elim (fun z => z ▸ ok) (ok2 q)⟩
        obtain ⟨ps, e, l, ok⟩ := key (sqL v) fun d hd => by simpa using hg d hd
        exact ⟨ps, by unfold psD; rw [e], by omega, ok⟩
      · cases h
  · cases h
theorem personB_p {n : Nat} {p : Ps} (h : POk n p) {d : D} (q : isSq d = true) (e : sqL d = [.int p.1, .int p.2.1, .int p.2.2]) : personB n d = true := by
  unfold personB
  rw [q, e]
  simp [belowD, h.r0, h.r1, h.b0, h.b1, h.u0, h.u1]
/-- people in any form -/
theorem chkP_ok {n : Nat} {v : D} {ps : List Ps} {f : Ps → D} (q : isSq v = true) (e : sqL v = ps.map f) (hf : ∀ p, isSq (f p) = true ∧ sqL (f p) = [.int p.1, .int p.2.1, .int p.2.2]) (l : ps.length ≤ 60) (ok : ∀ p ∈ ps, POk n p) : chkP n v = .inr (psD ps) := by
  unfold chkP
  have hn : (sqL v).findIdx? (fun x => !personB n x) = none := by
    rw [List.findIdx?_eq_none_iff, e]
    intro d hd
    obtain ⟨p, hp, rfl⟩ := List.mem_map.mp hd
    rw [personB_p (ok p hp) (hf p).1 (hf p).2]
    rfl
  rw [q, hn, e, List.length_map, if_pos rfl]
  show (if ps.length ≤ 60 then _ else _) = _
  rw [if_pos l, List.map_map]
  unfold psD
  congr 2
  refine List.map_congr_left fun p _ => ?_
  show tupD (f p) = pD p
  unfold tupD
  rw [(hf p).2]
  rfl
theorem sb_hh : (SB "BadHouse" "BadHouse" || SB "BadHouse" "BadPeople") = true := by simp
theorem sb_pp : (SB "BadPeople" "BadHouse" || SB "BadPeople" "BadPeople") = true := by simp
/-- whether somebody begins ahead of now -/
def early (now : Int) (ps : List Ps) : Bool := ps.any fun p => decide (p.2.1 < now)
theorem roomN_ho (x : Ho) : roomN (hoD x) = x.rs.length := by simp [roomN, hoD]
theorem check_task_any {x : Ho} (h : HoOk x) {hv v w : D} (f : Form x hv) (hl : (sqL v).length ≤ 1000) {now fin : Int} (n0 : 0 ≤ now) (n1 : now ≤ fin) (f1 : fin < 60) (hw : isSq w = true) (ew : sqL w = [hv, v, .int now, .int fin]) (b : Int × Int) :
    (∀ r, chkP x.rs.length v = .inl r → F_check_task [w] b = .ex "Refused" w b) ∧ (∀ ps : List Ps, chkP x.rs.length v = .inr (psD ps) → ps.length ≤ 60 → F_check_task [w] b = if early now ps = true then .ex "Refused" w b else .ok (.tuple [hoD x, psD ps, .int now, .int fin]) b) := by
  have hp := fun b => people_ok (f.lim h).1 (f.lim h).2 (v := v) hl b
  rw [f.told h] at hp
  dsimp only at hp
  rw [roomN_ho] at hp
  have hh := fun b => house_told f h b
  have b1 : ∀ b, F_is_below [.int fin, .int 60] b = .ok (.bool true) b := fun b => by rw [below_ok]; simp [belowD]; omega
  have b2 : ∀ b, F_is_below [.int now, .int (fin + 1)] b = .ok (.bool true) b := fun b => by rw [below_ok]; simp [belowD]; omega
  have z4 : (4 : Nat) ≤ sizeLine := by decide
  have cases2 : w = .tuple [hv, v, .int now, .int fin] ∨ w = .list [hv, v, .int now, .int fin] := by
    cases w <;> simp [isSq] at hw <;> simp [sqL] at ew <;> simp [ew]
  refine ⟨fun r e => ?_, fun ps e l60 => ?_⟩
  · rw [e] at hp
    dsimp only at hp
    simp only [F_check_task, runF_eq, enF, B_check_task]
    rcases cases2 with rfl | rfl <;> simp [sequence_ok, isSq, b1, hp]
  · rw [e] at hp
    dsimp only at hp
    have c := comp_mapLT (own := [7]) (g := gN 7) (A := A_check_task_0) (k0 := [.fz w, .fz hv, .fz v, .fz (.int now), .fz (.int fin), .fz (psD ps), .fz (hoD x), .no]) (b := b) pD (fun p => .bool (decide (p.2.1 < now))) (l := ps) (by omega) (fun p _ => ⟨_, rfl, by simp, by simp [A_check_task_0, pD]⟩)
    simp only [psD, hoD] at c hp hh
    simp only [F_check_task, runF_eq, enF, B_check_task]
    rcases cases2 with rfl | rfl
    · cases he : early now ps <;> unfold early at he <;> simp [sequence_ok, isSq, b1, b2, hp, hh, psD, hoD, c, dAny_map, he, z4]
    · cases he : early now ps <;> unfold early at he <;> simp [sequence_ok, isSq, b1, b2, hp, hh, psD, hoD, c, dAny_map, he, z4]
/-- a task in any form is told -/
structure TForm (k : Tk) (w : D) : Prop where
  ex : ∃ hv v f, isSq w = true ∧ sqL w = [hv, v, .int k.now, .int k.fin] ∧ Form k.x hv ∧ isSq v = true ∧ sqL v = k.ps.map f ∧ ∀ p : Ps, isSq (f p) = true ∧ sqL (f p) = [.int p.1, .int p.2.1, .int p.2.2]
theorem tform_D (k : Tk) : TForm k (tkD k) := ⟨_, _, pD, rfl, rfl, form_D k.x, rfl, rfl, fun p => ⟨rfl, rfl⟩⟩
theorem TkOk.early {k : Tk} (h : TkOk k) : early k.now k.ps = false := by
  unfold Lw.early
  rw [List.any_eq_false]
  intro p hp
  have := h.late p hp
  simp
  omega
theorem task_told {k : Tk} {w : D} (f : TForm k w) (h : TkOk k) (b : Int × Int) : F_check_task [w] b = .ok (tkD k) b := by
  obtain ⟨hv, v, g, q1, q2, q3, q4, q5, q6⟩ := f.ex
  have l := h.p60
  have z := (check_task_any h.ho q3 (v := v) (by rw [q5, List.length_map]; omega) h.n0 h.n1 h.f1 q1 q2 b).2 k.ps (chkP_ok q4 q5 q6 l h.ps) l
  rw [h.early] at z
  exact z
end Lw

namespace Lw
open PySem L2 PySem.Spec DL
theorem pair_asc : ∀ {ns : List Int}, asc ns = true ↔ ns.Pairwise (· < ·)
  | [] => by simp [asc]
  | [a] => by simp [asc]
  | a :: b :: r => by
    have ih := pair_asc (ns := b :: r)
    simp only [asc, Bool.and_eq_true, decide_eq_true_eq]
    rw [ih, List.pairwise_cons (a := a)]
    constructor
    · rintro ⟨h1, h2⟩
      refine ⟨fun c hc => ?_, h2⟩
      rcases List.mem_cons.mp hc with rfl | hc
      · exact h1
      · exact Int.lt_trans h1 ((List.pairwise_cons.mp h2).1 c hc)
    · rintro ⟨h1, h2⟩
      exact ⟨h1 b List.mem_cons_self, h2⟩
/-! ### a comprehension whose test draws: what is left is a part, in order -/
theorem comp_partA {α : Type} {own : List Nat} {g : DGt} {t : DTt} {A : DEn} {k0 : List Sl} (e f : α → D) : ∀ {l : List α} {acc : List D} {b : Int × Int}, (∀ a ∈ l, ∀ b, ∃ k1, g (e a) ⟨k0, b⟩ = some ⟨k1, b⟩ ∧ (∀ b, (⟨k1, b⟩ : En).wipe own = ⟨k0, b⟩) ∧ ∃ p b1, t ⟨k1, b⟩ = .ok (p, ⟨k1, b1⟩) ∧ A ⟨k1, b1⟩ = .ok (f a, ⟨k1, b1⟩)) → acc.length + l.length ≤ sizeLine →
    ∃ (ys : List α) (b' : Int × Int), cLoop own g t A (l.map e) ⟨k0, b⟩ acc = .ok (acc ++ ys.map f, ⟨k0, b'⟩) ∧ ys.Sublist l
  | [], acc, b, _, _ => ⟨[], b, by simp [cLoop], List.Sublist.slnil⟩
  | d :: ds, acc, b, h, hl => by
    obtain ⟨k1, h1, hw, p, b1, h2, h3⟩ := h d List.mem_cons_self b
    rw [List.length_cons] at hl
    cases p with
    | true =>
      obtain ⟨ys, b', e1, e2⟩ := comp_partA e f (l := ds) (acc := acc ++ [f d]) (b := b1) (fun d' hd => h d' (List.mem_cons_of_mem _ hd)) (by rw [List.length_append, List.length_singleton]; omega)
      have hlt : acc.length < sizeLine := by omega
      exact ⟨d :: ys, b', by simp [cLoop, h1, h2, h3, hw, e1, hlt], e2.cons₂ d⟩
    | false =>
      obtain ⟨ys, b', e1, e2⟩ := comp_partA e f (l := ds) (acc := acc) (b := b1) (fun d' hd => h d' (List.mem_cons_of_mem _ hd)) (by omega)
      exact ⟨ys, b', by simp [cLoop, h1, h2, hw, e1], e2.cons d⟩
theorem comp_part {α : Type} {own : List Nat} {g : DGt} {t : DTt} {A : DEn} {k0 : List Sl} (e f : α → D) {l : List α} {b : Int × Int} (hl : l.length ≤ 1000) (h : ∀ a ∈ l, ∀ b, ∃ k1, g (e a) ⟨k0, b⟩ = some ⟨k1, b⟩ ∧ (∀ b, (⟨k1, b⟩ : En).wipe own = ⟨k0, b⟩) ∧ ∃ p b1, t ⟨k1, b⟩ = .ok (p, ⟨k1, b1⟩) ∧ A ⟨k1, b1⟩ = .ok (f a, ⟨k1, b1⟩)) :
    ∃ (ys : List α) (b' : Int × Int), cLoop own g t A (l.map e) ⟨k0, b⟩ [] = .ok (ys.map f, ⟨k0, b'⟩) ∧ ys.Sublist l := by
  obtain ⟨ys, b', h1, h2⟩ := comp_partA e f (acc := []) (b := b) h (by rw [List.length_nil, Nat.zero_add]; exact size_small hl)
  exact ⟨ys, b', by rw [h1, List.nil_append], h2⟩
/-- numbers drawn below a bound -/
theorem part_ints {n : Nat} {ys : List Nat} (h : ys.Sublist (List.range n)) : asc (ys.map fun i : Nat => (i : Int)) = true ∧ ∀ i ∈ ys.map (fun i : Nat => (i : Int)), 0 ≤ i ∧ i < n := by
  refine ⟨pair_asc.mpr ?_, fun i hi => ?_⟩
  · rw [List.pairwise_map]
    exact (List.pairwise_lt_range.sublist h).imp fun h => by omega
  · obtain ⟨k, hk, rfl⟩ := List.mem_map.mp hi
    have := List.mem_range.mp (h.subset hk)
    omega
end Lw

namespace Lw
open PySem L2 PySem.Spec DL
/-! ### texts of data without strings -/
def lowT (s : Str) : Bool := s.cps.all (· < 0x110000)
theorem low_app {a b : Str} (ha : lowT a = true) (hb : lowT b = true) : lowT (a ++ b) = true := by
  show (a.cps ++ b.cps).all _ = true
  rw [Array.all_append]
  unfold lowT at ha hb
  rw [ha, hb]
  rfl
theorem low_join {s : Str} (hs : lowT s = true) : ∀ {l : List Str}, (∀ t ∈ l, lowT t = true) → lowT (Txt.join s l) = true
  | [], _ => by rw [join_nil]; decide +kernel
  | [a], h => by rw [join_one]; exact h a List.mem_cons_self
  | a :: b :: l, h => by
    rw [join_two]
    exact low_app (low_app (h a List.mem_cons_self) hs) (low_join hs fun t ht => h t (List.mem_cons_of_mem _ ht))
theorem low_int (i : Int) : lowT (PyData.int i).shown = true := by
  unfold lowT
  rw [Array.all_eq_true_iff_forall_mem]
  intro c hc
  rcases Nat.lt_or_ge c 0x110000 with h | h
  · exact decide_eq_true h
  · exact absurd (by simpa using hc) (PyProof.Rows.shown_int_free' (k := c) ⟨by omega, .inr (by omega)⟩ i)
mutual
def numlD : D → Bool
  | .none => true
  | .bool _ => true
  | .int _ => true
  | .list ds => numlAll ds
  | .tuple ds => numlAll ds
  | _ => false
def numlAll : List D → Bool
  | [] => true
  | d :: ds => numlD d && numlAll ds
end
mutual
theorem low_shown : ∀ d : D, numlD d = true → lowT d.shown = true
  | .none, _ => by rw [PyData.shown_none]; decide +kernel
  | .bool b, _ => by rw [PyData.shown_bool]; cases b <;> decide +kernel
  | .int i, _ => low_int i
  | .list ds, h => by
    unfold numlD at h
    rw [PyData.shown_list, ← join_eq]
    exact low_app (low_app (by decide +kernel) (low_join (by decide +kernel) (low_all ds h))) (by decide +kernel)
  | .tuple ds, h => by
    unfold numlD at h
    rw [PyData.shown_tuple, ← join_eq]
    exact low_app (low_app (by decide +kernel) (low_join (by decide +kernel) (low_all ds h))) (by split <;> decide +kernel)
  | .str _, h => by unfold numlD at h; cases h
  | .dict _, h => by unfold numlD at h; cases h
theorem low_all : ∀ ds : List D, numlAll ds = true → ∀ t ∈ PyData.shownAll ds, lowT t = true
  | [], _ => by rw [PyData.shownAll_nil]; simp
  | d :: ds, h => by
    unfold numlAll at h
    rw [Bool.and_eq_true] at h
    rw [PyData.shownAll_cons]
    intro t ht
    rcases List.mem_cons.mp ht with rfl | ht
    · exact low_shown d h.1
    · exact low_all ds h.2 t ht
end
theorem num_map {α : Type} {f : α → D} : ∀ {l : List α}, (∀ a ∈ l, numlD (f a) = true) → numlAll (l.map f) = true
  | [], _ => by rw [List.map_nil]; unfold numlAll; rfl
  | a :: l, h => by
    rw [List.map_cons]
    unfold numlAll
    rw [h a List.mem_cons_self, num_map (l := l) fun b hb => h b (List.mem_cons_of_mem _ hb)]
    rfl
theorem num_ints (ns : List Int) : numlAll (ns.map .int) = true := num_map fun _ _ => by unfold numlD; rfl
theorem num_tup {ds : List D} (h : numlAll ds = true) : numlD (.tuple ds) = true := by unfold numlD; exact h
theorem num_lst {ds : List D} (h : numlAll ds = true) : numlD (.list ds) = true := by unfold numlD; exact h
theorem num_cons {d : D} {ds : List D} (h : numlD d = true) (r : numlAll ds = true) : numlAll (d :: ds) = true := by unfold numlAll; rw [h, r]; rfl
theorem num_nil : numlAll [] = true := by unfold numlAll; rfl
theorem num_i (i : Int) : numlD (.int i) = true := by unfold numlD; rfl
theorem num_n : numlD .none = true := by unfold numlD; rfl
theorem num_b (b : Bool) : numlD (.bool b) = true := by unfold numlD; rfl
theorem num_pg (p : Pg) : numlD (pgD p) = true := num_tup (num_cons (num_i _) (num_cons (num_i _) (num_cons (num_i _) (num_cons (num_i _) (num_cons (num_tup (num_ints _)) num_nil)))))
theorem num_o (o : Option Int) : numlD (oD o) = true := by cases o with | none => exact num_n | some i => exact num_i i
theorem num_ho (x : Ho) : numlD (hoD x) = true := num_tup (num_cons (num_tup (num_ints _)) (num_cons (num_tup (num_map fun p _ => num_pg p)) (num_cons (num_tup (num_map fun o _ => num_o o)) num_nil)))
theorem num_p (p : Ps) : numlD (pD p) = true := num_tup (num_cons (num_i _) (num_cons (num_i _) (num_cons (num_i _) num_nil)))
/-! ### tasks as text -/
theorem o6i {i : Int} (h0 : 0 ≤ i) (h1 : i < 64) : Okd 0 6 (.int i) := Okd.int (b := 6) (by omega)
theorem o6l {ns : List Int} {k : Nat} (h : ∀ i ∈ ns, 0 ≤ i ∧ i < 64) (hl : ns.length ≤ k) : Okd 1 (k * (6 + 1)) (.tuple (ns.map .int)) :=
  .tuple (.map (n := 0) (m := 6) (fun i hi => o6i (h i hi).1 (h i hi).2) hl)
theorem okd_way {rs : List Int} {q : Pg} (hn : rs.length ≤ 6) (h : PgOk rs q) : Okd 2 450 (pgD q) := by
  have s := o6l (k := 60) (fun i hi => by have := h.sh i hi; omega) h.len
  have a1 := h.t0
  have a2 := h.t1
  have a3 := h.h0
  have a4 := h.h1
  have a5 := h.l0
  have a6 := h.l1
  have a7 := h.w0
  have a8 := h.w1
  have i1 : Okd 1 6 (.int q.t) := (o6i a1 (by omega)).mono
  have i2 : Okd 1 6 (.int q.h) := (o6i a3 (by omega)).mono
  have i3 : Okd 1 6 (.int q.l) := (o6i (by omega) (by omega)).mono
  have i4 : Okd 1 6 (.int q.w) := (o6i a7 (by omega)).mono
  exact Okd.mono (n := 2) (m := 6 + 1 + (6 + 1 + (6 + 1 + (6 + 1 + (60 * (6 + 1) + 1 + 0))))) (.tuple (.cons i1 (.cons i2 (.cons i3 (.cons i4 (.cons s .nil))))))
theorem small_sm {x : Ho} (h : HoOk x) : ∀ o ∈ x.sm, Okd 0 6 (oD o) := fun o ho => by
  cases o with
  | none => exact Okd.none.mono
  | some i =>
    obtain ⟨k, hk⟩ := List.getElem?_of_mem ho
    have kl := (List.getElem?_eq_some_iff.mp hk).1
    have kr : k < x.rs.length := by rw [← h.sl]; exact kl
    have hz := h.sm (x.rs[k], some i) (List.mem_of_getElem? (i := k) (by rw [List.getElem?_zip_eq_some]; exact ⟨List.getElem?_eq_getElem kr, hk⟩))
    rcases hz with z | ⟨_, j, z, z0, z1⟩
    · cases z
    · have : i = j := Option.some.inj z
      exact o6i (by omega) (by omega)
theorem okd_hoT {x : Ho} (h : HoOk x) (hn : x.rs.length ≤ 6) (hp : x.pg.length ≤ 8) : Okd 4 4000 (hoD x) := by
  have r := o6l (k := 6) (fun i hi => by rcases h.bit i hi with rfl | rfl <;> omega) hn
  have s : Okd 1 (6 * (6 + 1)) (.tuple (x.sm.map oD)) := .tuple (.map (n := 0) (m := 6) (small_sm h) (by rw [h.sl]; exact hn))
  have p1 : Okd 3 (8 * (450 + 1)) (.tuple (x.pg.map pgD)) := .tuple (.map (n := 2) (m := 450) (fun q hq => okd_way hn (h.pg q hq)) hp)
  exact Okd.mono (n := 4) (m := 6 * (6 + 1) + 1 + (8 * (450 + 1) + 1 + (6 * (6 + 1) + 1 + 0))) (.tuple (.cons (r.mono (n' := 3)) (.cons p1 (.cons (s.mono (n' := 3)) .nil))))
theorem okd_p {n : Nat} {p : Ps} (hn : n ≤ 60) (h : POk n p) : Okd 1 21 (pD p) := by
  have := h.r0; have := h.r1; have := h.b0; have := h.b1; have := h.u0; have := h.u1
  exact Okd.mono (n := 1) (m := 6 + 1 + (6 + 1 + (6 + 1 + 0))) (.tuple (.cons (o6i (by omega) (by omega)) (.cons (o6i (by omega) (by omega)) (.cons (o6i (by omega) (by omega)) .nil))))
end Lw

namespace Lw
open PySem L2 PySem.Spec DL
/-! ### floors -/
def leadB (ys : List Int) (s : Int) (p : Pg) : Bool := (decide (p.t ∈ ys) && (!decide (p.h ∈ ys) && !decide (p.t = s))) || (!decide (p.t ∈ ys) && decide (p.h ∈ ys))
def leadsB (x : Ho) (ys : List Int) (s : Int) : Bool := x.pg.all fun p => !leadB ys s p
def isR (r : D) (ys : List Int) : Prop := r = .list (ys.map .int) ∨ r = .tuple (ys.map .int)
theorem in_isR {r : D} {ys : List Int} (h : isR r ys) (i : Int) : dIn (.int i) r = some (.bool (decide (i ∈ ys))) ∧ dNotIn (.int i) r = some (.bool (!decide (i ∈ ys))) := by
  have := dIn_ints (x := i) (xs := ys)
  rcases h with rfl | rfl
  · exact ⟨this.1, this.2.2.1⟩
  · exact ⟨this.2.1, this.2.2.2⟩
theorem leads_loop {X R : D} {ys : List Int} {s : Int} (hR : isR R ys) (b : Int × Int) : ∀ (ps : List Pg) (s3 s4 s5 s6 s7 : Sl), if (ps.all fun p => !leadB ys s p) = true then ∃ z3 z4 z5 z6 z7, sLoop (gTup 5 (gCons (gN 3) (gCons (gN 4) (gCons (gN 5) (gCons (gN 6) (gCons (gN 7) gNil)))))) L_leads_out_0 (ps.map pgD) ⟨[.fz X, .fz R, .fz (.int s), s3, s4, s5, s6, s7], b⟩ = .ok (.nx ⟨[.fz X, .fz R, .fz (.int s), z3, z4, z5, z6, z7], b⟩)
    else ∃ z3 z4 z5 z6 z7, sLoop (gTup 5 (gCons (gN 3) (gCons (gN 4) (gCons (gN 5) (gCons (gN 6) (gCons (gN 7) gNil)))))) L_leads_out_0 (ps.map pgD) ⟨[.fz X, .fz R, .fz (.int s), s3, s4, s5, s6, s7], b⟩ = .ok (.rt (.bool false) ⟨[.fz X, .fz R, .fz (.int s), z3, z4, z5, z6, z7], b⟩)
  | [], s3, s4, s5, s6, s7 => by
    simp only [List.all_nil, if_true]
    exact ⟨s3, s4, s5, s6, s7, by simp [sLoop]⟩
  | p :: ps, s3, s4, s5, s6, s7 => by
    obtain ⟨t1, t2⟩ := in_isR hR p.t
    obtain ⟨h1, h2⟩ := in_isR hR p.h
    have ih := leads_loop (X := X) (s := s) hR b ps (.fz (.int p.t)) (.fz (.int p.h)) (.fz (.int p.l)) (.fz (.int p.w)) (.fz (.tuple (p.sh.map .int)))
    have one : L_leads_out_0 ⟨[.fz X, .fz R, .fz (.int s), .fz (.int p.t), .fz (.int p.h), .fz (.int p.l), .fz (.int p.w), .fz (.tuple (p.sh.map .int))], b⟩ = if leadB ys s p = true then .ok (.rt (.bool false) ⟨[.fz X, .fz R, .fz (.int s), .fz (.int p.t), .fz (.int p.h), .fz (.int p.l), .fz (.int p.w), .fz (.tuple (p.sh.map .int))], b⟩) else .ok (.nx ⟨[.fz X, .fz R, .fz (.int s), .fz (.int p.t), .fz (.int p.h), .fz (.int p.l), .fz (.int p.w), .fz (.tuple (p.sh.map .int))], b⟩) := by
      unfold leadB
      by_cases c1 : p.t ∈ ys
      · by_cases c2 : p.h ∈ ys
        · simp [L_leads_out_0, t1, t2, h1, h2, c1, c2]
        · have nb : (p.t == s) = decide (p.t = s) := rfl
          cases c3 : decide (p.t = s) <;> rw [c3] at nb <;> simp [L_leads_out_0, t1, t2, h1, h2, c1, c2, nb]
      · by_cases c2 : p.h ∈ ys <;> simp [L_leads_out_0, t1, t2, h1, h2, c1, c2]
    rw [List.all_cons]
    have tg : gTup 5 (gCons (gN 3) (gCons (gN 4) (gCons (gN 5) (gCons (gN 6) (gCons (gN 7) gNil))))) (pgD p) ⟨[.fz X, .fz R, .fz (.int s), s3, s4, s5, s6, s7], b⟩ = some ⟨[.fz X, .fz R, .fz (.int s), .fz (.int p.t), .fz (.int p.h), .fz (.int p.l), .fz (.int p.w), .fz (.tuple (p.sh.map .int))], b⟩ := rfl
    cases c : leadB ys s p with
    | true =>
      rw [c] at one
      simp only [Bool.not_true, Bool.false_and, Bool.false_eq_true, if_false]
      exact ⟨.fz (.int p.t), .fz (.int p.h), .fz (.int p.l), .fz (.int p.w), .fz (.tuple (p.sh.map .int)), by rw [List.map_cons]; simp [sLoop, tg, one]⟩
    | false =>
      rw [c] at one
      simp only [Bool.not_false, Bool.true_and]
      split
      · rename_i ha
        rw [if_pos ha] at ih
        obtain ⟨z3, z4, z5, z6, z7, e⟩ := ih
        exact ⟨z3, z4, z5, z6, z7, by rw [List.map_cons]; simp [sLoop, tg, one, e]⟩
      · rename_i ha
        rw [if_neg ha] at ih
        obtain ⟨z3, z4, z5, z6, z7, e⟩ := ih
        exact ⟨z3, z4, z5, z6, z7, by rw [List.map_cons]; simp [sLoop, tg, one, e]⟩
theorem leads_ok (x : Ho) {R : D} {ys : List Int} (hR : isR R ys) (s : Int) (b : Int × Int) : F_leads_out [hoD x, R, .int s] b = .ok (.bool (leadsB x ys s)) b := by
  have lp := leads_loop (X := hoD x) (s := s) hR b x.pg .no .no .no .no .no
  simp only [hoD] at lp
  simp only [F_leads_out, runF_eq, enF, B_leads_out]
  unfold leadsB
  split at lp
  · rename_i ha
    obtain ⟨_, _, _, _, _, e⟩ := lp
    simp [hoD, e, ha]
  · rename_i ha
    obtain ⟨_, _, _, _, _, e⟩ := lp
    simp [hoD, e, ha]
/-- any value read as a floor -/
def floorB (x : Ho) (v : D) : Bool := isSq v && match sqL v with
  | [r, s] => lotD r x.rs.length && (belowD s x.rs.length && (decide (toI s ∈ (sqL r).map toI) && (!((sqL r).map toI).any (fun i => decide (x.rs.getD i.toNat 0 = 1)) && leadsB x ((sqL r).map toI) (toI s))))
  | _ => false
theorem lot_isR {r : D} {m : Int} (h : lotD r m = true) : isR r ((sqL r).map toI) ∧ ∀ i ∈ (sqL r).map toI, 0 ≤ i ∧ i < m := by
  unfold lotD at h
  rw [Bool.and_eq_true, Bool.and_eq_true] at h
  obtain ⟨⟨h1, h2⟩, _⟩ := h
  rw [List.all_eq_true] at h2
  have e : ∀ {ds : List D}, (∀ d ∈ ds, belowD d m = true) → (ds.map toI).map PyData.int = ds ∧ ∀ i ∈ ds.map toI, 0 ≤ i ∧ i < m := by
    intro ds hd
    induction ds with
    | nil => exact ⟨rfl, by simp⟩
    | cons d ds ih =>
      obtain ⟨i1, i2⟩ := ih fun y hy => hd y (List.mem_cons_of_mem _ hy)
      have h0 := hd d List.mem_cons_self
      cases d <;> simp [belowD] at h0
      refine ⟨by rw [List.map_cons, List.map_cons, i1]; rfl, fun i hi => ?_⟩
      rw [List.map_cons] at hi
      rcases List.mem_cons.mp hi with rfl | hi
      · exact h0
      · exact i2 i hi
  obtain ⟨e1, e2⟩ := e h2
  refine ⟨?_, e2⟩
  cases r <;> simp [isSq] at h1
  · rename_i ds
    exact .inl (by rw [e1]; rfl)
  · rename_i ds
    exact .inr (by rw [e1]; rfl)
theorem any_rooms {x : Ho} {ys : List Int} (hx : ∀ i ∈ ys, 0 ≤ i ∧ i < x.rs.length) : ∀ i ∈ ys, L2.atI (x.rs.map PyData.int) i = some (.int (x.rs.getD i.toNat 0)) := fun i hi => by
  have := hx i hi
  have e := ix_ints (rn := x.rs) (i := i.toNat) (by omega)
  rwa [Int.toNat_of_nonneg this.1] at e
theorem is_floor_ok (x : Ho) {v : D} (hl : ∀ r s, sqL v = [r, s] → (sqL r).length ≤ 1000) (b : Int × Int) : F_is_floor [hoD x, v] b = .ok (.bool (floorB x v)) b := by
  simp only [F_is_floor, runF_eq, enF, B_is_floor]
  cases q : isSq v with
  | false => simp [sequence_ok, q, floorB]
  | true =>
    by_cases l2 : ∃ r s, sqL v = [r, s]
    · obtain ⟨r, s, e⟩ := l2
      have lr := hl r s e
      have lot := fun b => lot_ok r (x.rs.length : Nat) lr b
      have vv : v = .list [r, s] ∨ v = .tuple [r, s] := by cases v <;> simp [isSq] at q <;> simp [sqL] at e <;> simp [e]
      cases c1 : lotD r x.rs.length with
      | false =>
        rw [c1] at lot
        rcases vv with rfl | rfl <;> simp [sequence_ok, isSq, floorB, sqL, hoD, lot, c1]
      | true =>
        rw [c1] at lot
        obtain ⟨hR, hm⟩ := lot_isR c1
        obtain ⟨ys, hys⟩ : ∃ ys, ys = (sqL r).map toI := ⟨_, rfl⟩
        have ly : ys.length ≤ 1000 := by rw [hys, List.length_map]; exact lr
        rw [← hys] at hR hm
        cases c2 : belowD s x.rs.length with
        | false =>
          have bl := fun b => below_ok s (x.rs.length : Nat) b
          rw [c2] at bl
          rcases vv with rfl | rfl <;> rcases hR with rfl | rfl <;> simp [sequence_ok, isSq, floorB, sqL, hoD, lot, c1, bl, c2]
        | true =>
          have bl := fun b => below_ok s (x.rs.length : Nat) b
          rw [c2] at bl
          obtain ⟨i, rfl⟩ : ∃ i, s = .int i := by cases s <;> simp [belowD] at c2; exact ⟨_, rfl⟩
          obtain ⟨_, di⟩ := in_isR hR i
          have ld := fun b => leads_ok x hR i b
          have c := fun V : D => comp_mapLT (own := [4]) (g := gN 4) (A := A_is_floor_0) (k0 := [.fz (hoD x), .fz V, .fz r, .fz (.int i), .no]) (b := b) PyData.int (fun i => .bool (decide (x.rs.getD i.toNat 0 = 1))) (l := ys) ly (fun j hj => ⟨_, rfl, by simp, by
            have := any_rooms (x := x) hm j hj
            by_cases e : x.rs.getD j.toNat 0 = 1 <;> simp [-List.getD_eq_getElem?_getD, A_is_floor_0, hoD, this, e]⟩)
          have as : asSeq r = some (ys.map .int) := by rcases hR with rfl | rfl <;> rfl
          have fb : floorB x v = (decide (i ∈ ys) && (!ys.any (fun i => decide (x.rs.getD i.toNat 0 = 1)) && leadsB x ys i)) := by
            unfold floorB
            rw [q, e]
            simp only [Bool.true_and, c1, c2, ← hys, toI]
          rw [fb]
          have da := dAny_map (p := fun i : Int => decide (x.rs.getD i.toNat 0 = 1)) (l := ys)
          generalize ((ys.map fun i : Int => PyData.bool (decide (x.rs.getD i.toNat 0 = 1)))) = an at *
          generalize (ys.any fun i => decide (x.rs.getD i.toNat 0 = 1)) = av at *
          simp only [hoD] at c ld
          by_cases c3 : i ∈ ys
          · rw [decide_eq_true c3] at di ⊢
            cases av <;> rcases vv with rfl | rfl <;> simp [sequence_ok, isSq, hoD, lot, bl, di, as, c, da, ld]
          · rw [decide_eq_false c3] at di ⊢
            rcases vv with rfl | rfl <;> simp [sequence_ok, isSq, hoD, lot, bl, di]
    · have ne : ¬ (sqL v).length = 2 := fun h => by
        match h2 : sqL v, h with
        | [r, s], _ => exact l2 ⟨r, s, h2⟩
      have fb : floorB x v = false := by
        unfold floorB
        rw [q]
        match h2 : sqL v with
        | [] => rfl
        | [_] => rfl
        | [r, s] => exact absurd ⟨r, s, h2⟩ l2
        | _ :: _ :: _ :: _ => rfl
      rw [fb]
      have nz : ¬ ((sqL v).length : Int) = 2 := by omega
      cases v <;> simp [isSq] at q <;> simp only [sqL] at nz <;> simp [sequence_ok, isSq, nz]
end Lw

namespace Lw
open PySem L2 PySem.Spec DL
/-! ### what is no floor, no task -/
def Few (v : D) : Prop := ∀ r s, sqL v = [r, s] → (sqL r).length ≤ 1000
theorem tk0 (k : Tk) : dIx (tkD k) (.int 0) = some (hoD k.x) := by simp [tkD]
theorem check_floor_no {k : Tk} {w v : D} (f : TForm k w) (h : TkOk k) (hl : Few v) (e : floorB k.x v = false) (b : Int × Int) : F_check_floor [w, v] b = .ex "Refused" v b := by
  have tt := fun b => task_told f h b
  have fl := fun b => is_floor_ok k.x hl b
  rw [e] at fl
  have t0 := tk0 k
  generalize tkD k = T at *
  simp only [F_check_floor, runF_eq, enF, B_check_floor]
  simp [tt, t0, fl]
theorem floor_task_no {k : Tk} {w v : D} (f : TForm k w) (h : TkOk k) (hl : Few v) (e : floorB k.x v = false) (b : Int × Int) : F_floor_task [w, v] b = .ex "Refused" v b := by
  have tt := fun b => task_told f h b
  have cf := fun b => check_floor_no (tform_D k) h hl e b
  generalize tkD k = T at *
  simp only [F_floor_task, runF_eq, enF, B_floor_task]
  simp [tt, cf]
theorem came_to_no {k : Tk} {w v : D} (f : TForm k w) (h : TkOk k) (hl : Few v) (e : floorB k.x v = false) (b : Int × Int) : F_came_to [w, v] b = .ex "Refused" v b := by
  have cf := fun b => floor_task_no f h hl e b
  simp only [F_came_to, runF_eq, enF, B_came_to]
  simp [cf]
theorem rest_task_no {k : Tk} {w v : D} (f : TForm k w) (h : TkOk k) (hl : Few v) (e : floorB k.x v = false) (b : Int × Int) : F_rest_task [w, v] b = .ex "Refused" v b := by
  have tt := fun b => task_told f h b
  have cf := fun b => check_floor_no (tform_D k) h hl e b
  generalize tkD k = T at *
  simp only [F_rest_task, runF_eq, enF, B_rest_task]
  simp [tt, cf]
def NoRow (x : Ho) (v : D) : Prop := isSq v = false ∨ ∃ d, v = .list [d] ∧ Few d ∧ floorB x d = false
theorem check_floors_no {k : Tk} {w v : D} (f : TForm k w) (h : TkOk k) (e : NoRow k.x v) (b : Int × Int) : F_check_floors [w, v] b = .ex "Refused" v b := by
  have tt := fun b => task_told f h b
  have t0 := tk0 k
  rcases e with e | ⟨d, rfl, hd, e⟩
  · simp only [F_check_floors, runF_eq, enF, B_check_floors]
    simp [tt, sequence_ok, e]
  · have fl := fun b => is_floor_ok k.x hd b
    rw [e] at fl
    have c := comp_mapLT (own := [3]) (g := gN 3) (A := A_check_floors_0) (k0 := [.fz w, .fz (.list [d]), .fz (tkD k), .no, .no, .no]) (b := b) (fun d : D => d) (fun _ => .bool false) (l := [d]) (by simp) (fun y hy => ⟨_, rfl, by simp, by
      rw [List.mem_singleton.mp hy]
      simp [A_check_floors_0, t0, fl]⟩)
    have da : dAll [.list [.bool false]] = some (.bool false) := rfl
    generalize tkD k = T at *
    simp only [List.map_cons, List.map_nil] at c
    simp only [F_check_floors, runF_eq, enF, B_check_floors]
    simp [tt, sequence_ok, isSq, c, da]
theorem by_floors_no {k : Tk} {w v : D} (f : TForm k w) (h : TkOk k) (e : NoRow k.x v) (b : Int × Int) : F_by_floors [w, v] b = .ex "Refused" v b := by
  have tt := fun b => task_told f h b
  have cf := fun b => check_floors_no (tform_D k) h e b
  generalize tkD k = T at *
  simp only [F_by_floors, runF_eq, enF, B_by_floors]
  simp [tt, cf]
theorem check_floor_yes {k : Tk} (h : TkOk k) {ys : List Int} {s : Int} (ly : ys.length ≤ 1000) (e : floorB k.x (.list [.list (ys.map .int), .int s]) = true) (b : Int × Int) : F_check_floor [tkD k, .list [.list (ys.map .int), .int s]] b = .ok (.tuple [.tuple (ys.map .int), .int s]) b := by
  have tt := fun b => task_told (tform_D k) h b
  have fl := fun b => is_floor_ok k.x (v := .list [.list (ys.map .int), .int s]) (fun r q z => by
    simp [sqL] at z
    rw [← z.1]
    simpa [sqL] using ly) b
  rw [e] at fl
  have t0 := tk0 k
  have z2 : (2 : Nat) ≤ sizeLine := by decide
  generalize tkD k = T at *
  simp only [F_check_floor, runF_eq, enF, B_check_floor]
  simp [tt, t0, fl, z2]
/-! ### what is no task -/
def BadT (k : Tk) (w : D) : Prop := w = .none ∨ w = .int 5 ∨ w = .tuple [hoD k.x, psD k.ps, .int k.now] ∨ w = .tuple [hoD k.x, psD k.ps, .int k.now, .int 60] ∨ w = .tuple [hoD k.x, psD k.ps, .int (k.fin + 1), .int k.fin]
theorem check_task_no {k : Tk} (h : TkOk k) {w : D} (hw : BadT k w) (b : Int × Int) : F_check_task [w] b = .ex "Refused" w b := by
  rcases hw with rfl | rfl | rfl | rfl | rfl
  · simp only [F_check_task, runF_eq, enF, B_check_task]
    simp [sequence_ok, isSq]
  · simp only [F_check_task, runF_eq, enF, B_check_task]
    simp [sequence_ok, isSq]
  · simp only [F_check_task, runF_eq, enF, B_check_task]
    simp [sequence_ok, isSq]
  · have b1 : ∀ b, F_is_below [.int 60, .int 60] b = .ok (.bool false) b := fun b => by rw [below_ok]; rfl
    simp only [F_check_task, runF_eq, enF, B_check_task]
    simp [sequence_ok, isSq, b1]
  · have n0 := h.n0; have n1 := h.n1; have f1 := h.f1
    have b1 : ∀ b, F_is_below [.int k.fin, .int 60] b = .ok (.bool true) b := fun b => by rw [below_ok]; simp [belowD]; omega
    have b2 : ∀ b, F_is_below [.int (k.fin + 1), .int (k.fin + 1)] b = .ok (.bool false) b := fun b => by rw [below_ok]; simp [belowD]
    have l60 := h.p60
    have hp := fun b => people_ok ((form_D k.x).lim h.ho).1 ((form_D k.x).lim h.ho).2 (v := psD k.ps) (by unfold psD; simp [sqL]; omega) b
    rw [(form_D k.x).told h.ho] at hp
    dsimp only at hp
    rw [roomN_ho, chkP_ok (v := psD k.ps) (ps := k.ps) (f := pD) rfl rfl (fun p => ⟨rfl, rfl⟩) l60 h.ps] at hp
    have hh := fun b => house_told (form_D k.x) h.ho b
    generalize hoD k.x = H at *
    generalize psD k.ps = P at *
    simp only [F_check_task, runF_eq, enF, B_check_task]
    simp [sequence_ok, isSq, b1, b2, hp, hh]
theorem bad_all {k : Tk} (h : TkOk k) {w : D} (hw : BadT k w) (v : D) (b : Int × Int) : F_check_floor [w, v] b = .ex "Refused" w b ∧ F_came_to [w, v] b = .ex "Refused" w b ∧ F_rest_task [w, v] b = .ex "Refused" w b ∧ F_by_floors [w, v] b = .ex "Refused" w b := by
  have ct := fun b => check_task_no h hw b
  have ft : ∀ b, F_floor_task [w, v] b = .ex "Refused" w b := fun b => by
    simp only [F_floor_task, runF_eq, enF, B_floor_task]
    simp [ct]
  refine ⟨?_, ?_, ?_, ?_⟩
  · simp only [F_check_floor, runF_eq, enF, B_check_floor]
    simp [ct]
  · simp only [F_came_to, runF_eq, enF, B_came_to]
    simp [ft]
  · simp only [F_rest_task, runF_eq, enF, B_rest_task]
    simp [ct]
  · simp only [F_by_floors, runF_eq, enF, B_by_floors]
    simp [ct]
/-! ### what is heard -/
theorem same_heard {s : Str} (hl : lowT s = true) : dNe (.tuple [.str "refused", .str s, .bool true]) (.tuple [.str "refused", .str s, .bool true]) = some (.bool false) ∧ dEq (.tuple [.str "refused", .str s, .bool true]) (.tuple [.str "refused", .str s, .bool true]) = some (.bool true) := by
  have o : Okd 1 (20 + 1 + (s.length + 1 + (0 + 1 + 0))) (.tuple [.str "refused", .str s, .bool true]) := .tuple (.cons (Okd.mono (n' := 0) (m' := 20) (Okd.str (k := 20) (by decide +kernel) (by decide +kernel))) (.cons (Okd.str hl (Nat.le_refl _)) (.cons (.bool true) .nil)))
  exact ⟨ne_self o, eq_self o⟩
theorem lk3a : List.lookup ("check_floor" : Str) [("check_floor", 2, F_check_floor), ("came_to", 2, F_came_to), ("rest_task", 2, F_rest_task)] = some (2, F_check_floor) := rfl
theorem lk3b : List.lookup ("came_to" : Str) [("check_floor", 2, F_check_floor), ("came_to", 2, F_came_to), ("rest_task", 2, F_rest_task)] = some (2, F_came_to) := rfl
theorem lk3c : List.lookup ("rest_task" : Str) [("check_floor", 2, F_check_floor), ("came_to", 2, F_came_to), ("rest_task", 2, F_rest_task)] = some (2, F_rest_task) := rfl
theorem lk4a : List.lookup ("check_floor" : Str) [("check_floor", 2, F_check_floor), ("came_to", 2, F_came_to), ("rest_task", 2, F_rest_task), ("by_floors", 2, F_by_floors)] = some (2, F_check_floor) := rfl
theorem lk4b : List.lookup ("came_to" : Str) [("check_floor", 2, F_check_floor), ("came_to", 2, F_came_to), ("rest_task", 2, F_rest_task), ("by_floors", 2, F_by_floors)] = some (2, F_came_to) := rfl
theorem lk4c : List.lookup ("rest_task" : Str) [("check_floor", 2, F_check_floor), ("came_to", 2, F_came_to), ("rest_task", 2, F_rest_task), ("by_floors", 2, F_by_floors)] = some (2, F_rest_task) := rfl
theorem lk4d : List.lookup ("by_floors" : Str) [("check_floor", 2, F_check_floor), ("came_to", 2, F_came_to), ("rest_task", 2, F_rest_task), ("by_floors", 2, F_by_floors)] = some (2, F_by_floors) := rfl
theorem refused_right_ok {k : Tk} (h : TkOk k) {v : D} (hl : Few v) (e : floorB k.x v = false) {s1 s2 : Str} (r1 : dRepr [v] = some (.str s1)) (l1 : lowT s1 = true) (r2 : dRepr [.list [v]] = some (.str s2)) (l2 : lowT s2 = true) (b : Int × Int) : F__law_refused_right [tkD k, v] b = .ok (.bool true) b := by
  have f1 := fun b => check_floor_no (tform_D k) h hl e b
  have f2 := fun b => came_to_no (tform_D k) h hl e b
  have f3 := fun b => rest_task_no (tform_D k) h hl e b
  have f4 := fun b => by_floors_no (tform_D k) h (v := .list [v]) (.inr ⟨v, rfl, hl, e⟩) b
  have n1 := (same_heard l1).1
  have n2 := (same_heard l2).2
  have z1 : (1 : Nat) ≤ sizeLine := by decide
  have z3 : (3 : Nat) ≤ sizeLine := by decide
  generalize tkD k = T at *
  simp only [F__law_refused_right, runF_eq, enF, B__law_refused_right]
  simp [L__law_refused_right_0, r1, r2, z1, z3, lk3a, lk3b, lk3c, f1, f2, f3, f4, HS__law_heard, n1, n2]
end Lw

namespace Lw
open PySem L2 PySem.Spec DL
/-! ### the law's own word on floors -/
def goodB (x : Ho) (ys : List Int) (s : Int) : Bool := decide (s ∈ ys) && (!ys.any (fun i => decide (x.rs.getD i.toNat 0 = 1)) && leadsB x ys s)
theorem own_loop {X R : D} {ys : List Int} {s : Int} (hR : isR R ys) (b : Int × Int) : ∀ (ps : List Pg) (s4 s5 s6 s7 s8 : Sl), if (ps.all fun p => !leadB ys s p) = true then ∃ z4 z5 z6 z7 z8, sLoop (gTup 5 (gCons (gN 4) (gCons (gN 5) (gCons (gN 6) (gCons (gN 7) (gCons (gN 8) gNil)))))) L__law_is_floor_0 (ps.map pgD) ⟨[.fz X, .fz R, .fz (.int s), .no, s4, s5, s6, s7, s8], b⟩ = .ok (.nx ⟨[.fz X, .fz R, .fz (.int s), .no, z4, z5, z6, z7, z8], b⟩)
    else ∃ z4 z5 z6 z7 z8, sLoop (gTup 5 (gCons (gN 4) (gCons (gN 5) (gCons (gN 6) (gCons (gN 7) (gCons (gN 8) gNil)))))) L__law_is_floor_0 (ps.map pgD) ⟨[.fz X, .fz R, .fz (.int s), .no, s4, s5, s6, s7, s8], b⟩ = .ok (.rt (.bool false) ⟨[.fz X, .fz R, .fz (.int s), .no, z4, z5, z6, z7, z8], b⟩)
  | [], s4, s5, s6, s7, s8 => by
    simp only [List.all_nil, if_true]
    exact ⟨s4, s5, s6, s7, s8, by simp [sLoop]⟩
  | p :: ps, s4, s5, s6, s7, s8 => by
    obtain ⟨t1, t2⟩ := in_isR hR p.t
    obtain ⟨h1, h2⟩ := in_isR hR p.h
    have ih := own_loop (X := X) (s := s) hR b ps (.fz (.int p.t)) (.fz (.int p.h)) (.fz (.int p.l)) (.fz (.int p.w)) (.fz (.tuple (p.sh.map .int)))
    have one : L__law_is_floor_0 ⟨[.fz X, .fz R, .fz (.int s), .no, .fz (.int p.t), .fz (.int p.h), .fz (.int p.l), .fz (.int p.w), .fz (.tuple (p.sh.map .int))], b⟩ = if leadB ys s p = true then .ok (.rt (.bool false) ⟨[.fz X, .fz R, .fz (.int s), .no, .fz (.int p.t), .fz (.int p.h), .fz (.int p.l), .fz (.int p.w), .fz (.tuple (p.sh.map .int))], b⟩) else .ok (.nx ⟨[.fz X, .fz R, .fz (.int s), .no, .fz (.int p.t), .fz (.int p.h), .fz (.int p.l), .fz (.int p.w), .fz (.tuple (p.sh.map .int))], b⟩) := by
      unfold leadB
      have nb : (p.t == s) = decide (p.t = s) := rfl
      by_cases c1 : p.t ∈ ys
      · by_cases c2 : p.h ∈ ys
        · simp [L__law_is_floor_0, t1, t2, h1, h2, c1, c2]
        · cases c3 : decide (p.t = s) <;> rw [c3] at nb <;> simp [L__law_is_floor_0, t1, t2, h1, h2, c1, c2, nb]
      · by_cases c2 : p.h ∈ ys <;> simp [L__law_is_floor_0, t1, t2, h1, h2, c1, c2]
    rw [List.all_cons]
    have tg : gTup 5 (gCons (gN 4) (gCons (gN 5) (gCons (gN 6) (gCons (gN 7) (gCons (gN 8) gNil))))) (pgD p) ⟨[.fz X, .fz R, .fz (.int s), .no, s4, s5, s6, s7, s8], b⟩ = some ⟨[.fz X, .fz R, .fz (.int s), .no, .fz (.int p.t), .fz (.int p.h), .fz (.int p.l), .fz (.int p.w), .fz (.tuple (p.sh.map .int))], b⟩ := rfl
    cases c : leadB ys s p with
    | true =>
      rw [c] at one
      simp only [Bool.not_true, Bool.false_and, Bool.false_eq_true, if_false]
      exact ⟨.fz (.int p.t), .fz (.int p.h), .fz (.int p.l), .fz (.int p.w), .fz (.tuple (p.sh.map .int)), by rw [List.map_cons]; simp [sLoop, tg, one]⟩
    | false =>
      rw [c] at one
      simp only [Bool.not_false, Bool.true_and]
      split
      · rename_i ha
        rw [if_pos ha] at ih
        obtain ⟨z4, z5, z6, z7, z8, e⟩ := ih
        exact ⟨z4, z5, z6, z7, z8, by rw [List.map_cons]; simp [sLoop, tg, one, e]⟩
      · rename_i ha
        rw [if_neg ha] at ih
        obtain ⟨z4, z5, z6, z7, z8, e⟩ := ih
        exact ⟨z4, z5, z6, z7, z8, by rw [List.map_cons]; simp [sLoop, tg, one, e]⟩
theorem ne_il (ns : List Int) : dNe (.list (ns.map .int)) (.list []) = some (.bool (!ns.isEmpty)) := by
  have sh : ∀ ns : List Int, SeqAt.shaped (.list (ns.map .int)) = true := fun ns => by
    have h : ∀ xs : List Int, PyData.canLayAll0 (xs.map .int) = true ∧ PyData.depthAll (xs.map PyData.int) ≤ 0 := by
      intro xs
      induction xs with
      | nil => exact ⟨rfl, Nat.le_refl _⟩
      | cons x xs ih => exact ⟨by rw [List.map_cons]; simp [PyData.canLayAll0, PyData.canLay0, ih.1], by rw [List.map_cons]; simp [PyData.depthAll, PyData.depth]; have := ih.2; omega⟩
    have h1 : (PyData.list (ns.map .int)).canLay0 = true := (h ns).1
    have h2 : (PyData.list (ns.map .int)).depth ≤ 64 := by
      have := (h ns).2
      show PyData.depthAll _ + 1 ≤ 64
      omega
    simp [SeqAt.shaped, h1, h2]
  rw [dNe_sh (sh ns) (show SeqAt.shaped (.list []) = true from sh [])]
  cases ns <;> simp [PyData.eqv, PyData.eqvAll]
theorem own_floor_ok (x : Ho) {ys : List Int} (ly : ys.length ≤ 1000) (hm : ∀ i ∈ ys, 0 ≤ i ∧ i < x.rs.length) (s : Int) (b : Int × Int) : F__law_is_floor [hoD x, .tuple (ys.map .int), .int s] b = .ok (.bool (goodB x ys s)) b := by
  have hR : isR (.tuple (ys.map .int)) ys := .inr rfl
  obtain ⟨_, di⟩ := in_isR hR s
  have lp := own_loop (X := hoD x) (s := s) hR b x.pg .no .no .no .no .no
  have c := comp_mapL (own := [3]) (g := gN 3) (t := T__law_is_floor_0) (A := A__law_is_floor_0) (k0 := [.fz (hoD x), .fz (.tuple (ys.map .int)), .fz (.int s), .no, .no, .no, .no, .no, .no]) (b := b) PyData.int (fun i => decide (x.rs.getD i.toNat 0 = 1)) PyData.int (l := ys) ly (fun j hj => ⟨_, rfl, by simp, by
    have := any_rooms (x := x) hm j hj
    by_cases e : x.rs.getD j.toNat 0 = 1 <;> simp [-List.getD_eq_getElem?_getD, T__law_is_floor_0, hoD, this, e], fun _ => by simp [A__law_is_floor_0]⟩)
  have ne := ne_il (ys.filter fun i => decide (x.rs.getD i.toNat 0 = 1))
  have em : (ys.filter fun i => decide (x.rs.getD i.toNat 0 = 1)).isEmpty = !ys.any (fun i => decide (x.rs.getD i.toNat 0 = 1)) := by
    rw [Bool.eq_iff_iff, List.isEmpty_iff, List.filter_eq_nil_iff, Bool.not_eq_true', List.any_eq_false]
  rw [em] at ne
  unfold goodB leadsB
  generalize (ys.filter fun i => decide (x.rs.getD i.toNat 0 = 1)).map PyData.int = fl at *
  generalize (ys.any fun i => decide (x.rs.getD i.toNat 0 = 1)) = av at *
  have z0 : (0 : Nat) ≤ sizeLine := by decide
  simp only [hoD] at c lp
  simp only [F__law_is_floor, runF_eq, enF, B__law_is_floor]
  by_cases c3 : s ∈ ys
  · rw [decide_eq_true c3] at di ⊢
    cases av with
    | true => simp [hoD, di, c, ne, z0]
    | false =>
      split at lp
      · rename_i ha
        obtain ⟨_, _, _, _, _, e⟩ := lp
        rw [ha]
        simp [hoD, di, c, ne, z0, e]
      · rename_i ha
        obtain ⟨_, _, _, _, _, e⟩ := lp
        rw [Bool.not_eq_true] at ha
        rw [ha]
        simp [hoD, di, c, ne, z0, e]
  · rw [decide_eq_false c3] at di ⊢
    simp [hoD, di]
theorem lot_true {n : Nat} {v : D} {ys : List Nat} (q : isSq v = true) (e : sqL v = ys.map fun i : Nat => .int (i : Nat)) (hs : ys.Sublist (List.range n)) : lotD v n = true := by
  obtain ⟨as, _⟩ := part_ints hs
  unfold lotD
  have t : ((ys.map fun i : Nat => PyData.int (i : Nat)).map toI) = ys.map fun i : Nat => (i : Int) := by rw [List.map_map]; rfl
  rw [q, e, t, as, List.all_map, Bool.true_and, Bool.and_true, List.all_eq_true]
  intro i hi
  have := List.mem_range.mp (hs.subset hi)
  simp [belowD, this]
/-- the law's word is the program's -/
theorem floor_own (x : Ho) {ys : List Nat} (hs : ys.Sublist (List.range x.rs.length)) {s : Nat} (h : s < x.rs.length) {r v : D} (qr : isSq r = true) (er : sqL r = ys.map fun i : Nat => .int (i : Nat)) (qv : isSq v = true) (ev : sqL v = [r, .int (s : Nat)]) : floorB x v = goodB x (ys.map fun i : Nat => (i : Int)) s := by
  have t : ((ys.map fun i : Nat => PyData.int (i : Nat)).map toI) = ys.map fun i : Nat => (i : Int) := by rw [List.map_map]; rfl
  have bl : belowD (.int (s : Nat)) x.rs.length = true := by simp [belowD, h]
  unfold floorB goodB
  rw [qv, ev]
  simp only [Bool.true_and, lot_true qr er hs, bl, er, t, toI]
end Lw

namespace Lw
open PySem L2 PySem.Spec DL
/-! ### draws -/
theorem rgo {i : Int} (h0 : -1000000 ≤ i) (h1 : i ≤ 1000000) : rgOk i = true := by
  unfold rgOk
  rw [Bool.and_eq_true]
  exact ⟨decide_eq_true (by omega), decide_eq_true (by omega)⟩
structure RsOk (rs : List Int) (n : Nat) : Prop where
  bit : ∀ r ∈ rs, r = 0 ∨ r = 1
  zero : (0 : Int) ∈ rs
  len : rs.length = n
theorem drawn_signs (m : Int) {b : Int × Int} {M : D} (m1 : 1 ≤ m) (m4 : m ≤ 4) : ∃ rs b' z4, RsOk rs rs.length ∧ 2 ≤ rs.length ∧ rs.length ≤ 6 ∧ sFor (iR1 (eBin dAdd (eC (.int 1)) (eCallB 1 0 F__law_take (aCons (eC (.int 2)) aNil)))) (gN 4) L__law_house_0 ⟨[.bx, .fz M, .fz (.int m), .ow (List.replicate m.toNat (.int 0)), .no, .no, .no, .no, .no, .no, .no, .no], b⟩ = .ok (.nx ⟨[.bx, .fz M, .fz (.int m), .ow (rs.map .int), z4, .no, .no, .no, .no, .no, .no, .no], b'⟩) := by
  obtain ⟨u, b1, e1, u0, u2⟩ := take_ok 2 b (by omega) (by omega)
  obtain ⟨en, lp, rs, z4, b2, rfl, ok⟩ := loop_invN (g := gN 4) (S := L__law_house_0) (ds := rgD 0 (1 + u).toNat) (fun k en => ∃ (rs : List Int) (z4 : Sl) (b' : Int × Int), en = ⟨[.bx, .fz M, .fz (.int m), .ow (rs.map .int), z4, .no, .no, .no, .no, .no, .no, .no], b'⟩ ∧ RsOk rs (m.toNat + k)) (en := ⟨[.bx, .fz M, .fz (.int m), .ow ((List.replicate m.toNat (0 : Int)).map .int), .no, .no, .no, .no, .no, .no, .no, .no], b1⟩)
    ⟨_, _, _, rfl, ⟨fun r hr => .inl (List.eq_of_mem_replicate hr), List.mem_replicate.mpr ⟨by omega, rfl⟩, by rw [List.length_replicate]; omega⟩⟩
    (fun k d hd en ⟨rs, z4, b', he, ok⟩ => by
      subst he
      have hk : k < (1 + u).toNat := by
        have := (List.getElem?_eq_some_iff.mp hd).1
        rw [rg_len] at this
        exact this
      have l := ok.len
      obtain ⟨j, b2, e2, j0, j1⟩ := take_ok (rs.length + 1) b' (by omega) (by omega)
      have jl : rs.length < sizeLine := Nat.lt_of_lt_of_le (by omega : rs.length < 1000) (by decide)
      have j63 : j < 9223372036854775808 := by omega
      refine ⟨⟨[.bx, .fz M, .fz (.int m), .ow (rs.map .int), .fz d, .no, .no, .no, .no, .no, .no, .no], b'⟩, rfl, ⟨[.bx, .fz M, .fz (.int m), .ow ((rs.take j.toNat ++ [1] ++ rs.drop j.toNat).map .int), .fz d, .no, .no, .no, .no, .no, .no, .no], b2⟩, .inl ?_, _, _, _, rfl, ⟨fun r hr => ?_, ?_, ?_⟩⟩
      · simp [L__law_house_0, e2, jl, j0, j63]
      · simp only [List.mem_append, List.mem_singleton] at hr
        rcases hr with (hr | hr) | hr
        · exact ok.bit r (List.mem_of_mem_take hr)
        · exact .inr hr
        · exact ok.bit r (List.mem_of_mem_drop hr)
      · have z := ok.zero
        rw [← List.take_append_drop j.toNat rs] at z
        rcases List.mem_append.mp z with z | z
        · exact List.mem_append_left _ (List.mem_append_left _ z)
        · exact List.mem_append_right _ z
      · rw [List.length_append, List.length_append, List.length_take, List.length_drop, List.length_singleton]
        omega)
  rw [rg_len] at ok
  have rep : ((List.replicate m.toNat (0 : Int)).map PyData.int) = List.replicate m.toNat (.int 0) := List.map_replicate
  rw [rep] at lp
  have l := ok.len
  have ru : rgOk (1 + u) = true := rgo (by omega) (by omega)
  exact ⟨rs, b2, z4, ⟨ok.bit, ok.zero, rfl⟩, by omega, by omega, by simp [e1, ru, lp]⟩
theorem drawn_way {rs : List Int} (ok : RsOk rs rs.length) (hn : 2 ≤ rs.length) (hn2 : rs.length ≤ 6) (M m : D) (ps : List D) (hp : ps.length ≤ 100) (a4 a6 a8 a9 : Sl) (b : Int × Int) :
    ∃ q c6 c8 c9 b', L__law_house_1 ⟨[.bx, .fz M, .fz m, .ow (rs.map .int), a4, .ow ps, a6, .no, a8, a9, .no, .no], b⟩ = .ok (.nx ⟨[.bx, .fz M, .fz m, .ow (rs.map .int), a4, .ow (ps ++ [pgD q]), c6, .no, c8, c9, .no, .no], b'⟩) ∧ PgOk rs q := by
  have rr : rgOk rs.length = true := rgo (by omega) (by omega)
  have c0 := comp_mapL (own := [7]) (g := gN 7) (t := T__law_house_0) (A := A__law_house_0) (k0 := [.bx, .fz M, .fz m, .ow (rs.map .int), a4, .ow ps, a6, .no, a8, a9, .no, .no]) (b := b) (fun i : Nat => PyData.int (i : Nat)) (fun i : Nat => decide (rs.getD i 0 = 0)) (fun i : Nat => PyData.int (i : Nat)) (l := List.range rs.length) (by rw [List.length_range]; omega) (fun i hi => ⟨_, rfl, by simp, by
    have := ix_ints (rn := rs) (List.mem_range.mp hi)
    by_cases e : rs.getD i 0 = 0 <;> simp [-List.getD_eq_getElem?_getD, T__law_house_0, this, e], fun _ => by simp [A__law_house_0]⟩)
  rw [← rg_map] at c0
  obtain ⟨is, his⟩ : ∃ is, is = (List.range rs.length).filter fun i : Nat => decide (rs.getD i 0 = 0) := ⟨_, rfl⟩
  rw [← his] at c0
  have ine : is ≠ [] := fun z => by
    obtain ⟨i, hi⟩ := List.getElem?_of_mem ok.zero
    have il := (List.getElem?_eq_some_iff.mp hi).1
    have : i ∈ is := by
      rw [his]
      exact List.mem_filter.mpr ⟨List.mem_range.mpr il, by rw [List.getD_eq_getElem?_getD, hi]; rfl⟩
    rw [z] at this
    cases this
  have ilen : is.length ≤ 20 := by
    have := List.length_filter_le (fun i : Nat => decide (rs.getD i 0 = 0)) (List.range rs.length)
    rw [← his, List.length_range] at this
    omega
  obtain ⟨t, b1, e1, ht⟩ := pickM_ok (fun i : Nat => PyData.int (i : Nat)) is b ine (by omega)
  have htm : t < rs.length ∧ rs.getD t 0 = 0 := by
    rw [his] at ht
    obtain ⟨m1, m2⟩ := List.mem_filter.mp ht
    exact ⟨List.mem_range.mp m1, by simpa using m2⟩
  have c := comp_mapL (own := [7]) (g := gN 7) (t := T__law_house_1) (A := A__law_house_1) (k0 := [.bx, .fz M, .fz m, .ow (rs.map .int), a4, .ow ps, .fz (.int (t : Nat)), .no, a8, a9, .no, .no]) (b := b1) (fun i : Nat => PyData.int (i : Nat)) (fun i : Nat => !decide (i = t)) (fun i : Nat => PyData.int (i : Nat)) (l := List.range rs.length) (by rw [List.length_range]; omega) (fun i _ => ⟨_, rfl, by simp, by
    have nb : ((i : Int) == (t : Int)) = decide (i = t) := by
      rw [Bool.eq_iff_iff]
      simp
      omega
    cases e : decide (i = t) <;> rw [e] at nb <;> simp [T__law_house_1, nb], fun _ => by simp [A__law_house_1]⟩)
  rw [← rg_map] at c
  obtain ⟨os, hos⟩ : ∃ os, os = (List.range rs.length).filter fun i : Nat => !decide (i = t) := ⟨_, rfl⟩
  rw [← hos] at c
  have one : os ≠ [] := fun z => by
    have mm : ∀ k : Nat, k < rs.length → k ≠ t → False := fun k hk hne => by
      have : k ∈ os := by rw [hos]; exact List.mem_filter.mpr ⟨List.mem_range.mpr hk, by simp [hne]⟩
      rw [z] at this
      cases this
    by_cases z0 : t = 0
    · exact mm 1 (by omega) (by omega)
    · exact mm 0 (by omega) (by omega)
  have lo : os.length ≤ 20 := by
    have := List.length_filter_le (fun i : Nat => !decide (i = t)) (List.range rs.length)
    rw [← hos, List.length_range] at this
    omega
  obtain ⟨h, b2, e2, hh⟩ := pickM_ok (fun i : Nat => PyData.int (i : Nat)) os b1 one (by omega)
  have hm : h < rs.length ∧ h ≠ t := by
    rw [hos] at hh
    obtain ⟨m1, m2⟩ := List.mem_filter.mp hh
    exact ⟨List.mem_range.mp m1, by simpa using m2⟩
  obtain ⟨ys, b3, e3, sub⟩ := comp_part (own := [10]) (g := gN 10) (t := T__law_house_2) (A := A__law_house_2) (k0 := [.bx, .fz M, .fz m, .ow (rs.map .int), a4, .ow ps, .fz (.int (t : Nat)), .no, .fz (.int (h : Nat)), a9, .no, .no]) (b := b2) (fun i : Nat => PyData.int (i : Nat)) (fun i : Nat => PyData.int (i : Nat)) (l := List.range 8) (by simp) (fun i _ b => by
    obtain ⟨v, b', e, v0, v1⟩ := take_ok 8 b (by omega) (by omega)
    exact ⟨_, rfl, fun b => by simp, v == 0, b', by simp [T__law_house_2, e], by simp [A__law_house_2]⟩)
  rw [← rg_map] at e3
  obtain ⟨s1, s2⟩ := part_ints sub
  obtain ⟨l, b4, e4, hl⟩ := pickM_ok PyData.int [0, 0, 0, 1, 2] b3 (by simp) (by simp)
  obtain ⟨w, b5, e5, hw⟩ := pickM_ok PyData.int [0, 1, 1, 1, 2] b4 (by simp) (by simp)
  simp only [List.map_cons, List.map_nil] at e4 e5
  have z5 : (5 : Nat) ≤ sizeLine := by decide
  have zp : ps.length < sizeLine := Nat.lt_of_lt_of_le (by omega : ps.length < 1000) (by decide)
  have r8 : rgOk 8 = true := by decide
  have t8 : rgD 0 (Int.toNat 8) = rgD 0 8 := rfl
  refine ⟨⟨(t : Nat), (h : Nat), 1 + l, w, ys.map fun i : Nat => (i : Int)⟩, .fz (.int (t : Nat)), .fz (.int (h : Nat)), .fz (.list (ys.map fun i : Nat => PyData.int (i : Nat))), b5, ?_, ?_⟩
  · simp [L__law_house_1, rr, c0, e1, c, e2, r8, e3, e4, e5, z5, zp, pgD]
  · simp at hl hw
    exact ⟨by dsimp only; omega, by dsimp only; omega, by dsimp only; omega, by dsimp only; omega, by dsimp only; omega, by dsimp only; rw [Int.toNat_natCast, htm.2]; omega, by dsimp only; omega, by dsimp only; omega, by dsimp only; omega, by dsimp only; omega, s1, fun i hi => by have := s2 i hi; omega⟩
theorem drawn_house (b : Int × Int) : ∃ x b', F__law_house [.int 4] b = .ok (hoD x) b' ∧ HoOk x ∧ 2 ≤ x.rs.length ∧ x.rs.length ≤ 6 ∧ x.pg.length ≤ 8 := by
  obtain ⟨u, b1, e1, u0, u4⟩ := take_ok 4 b (by omega) (by omega)
  obtain ⟨rs, b2, z4, ok, hn, hn2, lp⟩ := drawn_signs (1 + u) (b := b1) (M := .int 4) (by omega) (by omega)
  obtain ⟨m, b3, e3, m0, m6⟩ := take_ok 6 b2 (by omega) (by omega)
  obtain ⟨en, lp2, qs, a4, a6, a8, a9, b4, rfl, hq, hl⟩ := loop_invN (g := gN 4) (S := L__law_house_1) (ds := rgD 0 (2 + m).toNat) (fun k en => ∃ (qs : List Pg) (a4 a6 a8 a9 : Sl) (b' : Int × Int), en = ⟨[.bx, .fz (.int 4), .fz (.int (1 + u)), .ow (rs.map .int), a4, .ow (qs.map pgD), a6, .no, a8, a9, .no, .no], b'⟩ ∧ (∀ q ∈ qs, PgOk rs q) ∧ qs.length = k) (en := ⟨[.bx, .fz (.int 4), .fz (.int (1 + u)), .ow (rs.map .int), z4, .ow [], .no, .no, .no, .no, .no, .no], b3⟩) ⟨[], _, _, _, _, _, rfl, by simp, rfl⟩
    (fun k d hd en ⟨qs, a4, a6, a8, a9, b', he, hq, hk⟩ => by
      subst he
      have hk8 : k < (2 + m).toNat := by
        have := (List.getElem?_eq_some_iff.mp hd).1
        rw [rg_len] at this
        exact this
      obtain ⟨q, c6, c8, c9, b2, e, okq⟩ := drawn_way ok hn hn2 (.int 4) (.int (1 + u)) (qs.map pgD) (by rw [List.length_map]; omega) (.fz d) a6 a8 a9 b'
      refine ⟨⟨[.bx, .fz (.int 4), .fz (.int (1 + u)), .ow (rs.map .int), .fz d, .ow (qs.map pgD), a6, .no, a8, a9, .no, .no], b'⟩, by simp, _, .inl e, qs ++ [q], _, _, _, _, _, by rw [List.map_append]; rfl, fun p hp => ?_, by simp [hk]⟩
      rcases List.mem_append.mp hp with z | z
      · exact hq p z
      · rw [List.mem_singleton.mp z]; exact okq)
  rw [rg_len] at hl
  have rm : rgOk (2 + m) = true := rgo (by omega) (by omega)
  obtain ⟨sm, b5, e5, l5, p5⟩ := comp_draw (own := [7]) (g := gN 7) (A := A__law_house_3) (k0 := [.bx, .fz (.int 4), .fz (.int (1 + u)), .fz (.list (rs.map .int)), a4, .ow (qs.map pgD), a6, .no, a8, a9, .no, .no]) (b := b4) PyData.int oD (fun r x => x = none ∨ r = 0 ∧ ∃ j, x = some j ∧ 0 ≤ j ∧ j < 60) (l := rs) (by omega) (fun r hr b => by
    by_cases c : r = 0
    · subst c
      obtain ⟨v, b1, e1, v0, v5⟩ := take_ok 5 b (by omega) (by omega)
      by_cases cv : v = 0
      · subst cv
        obtain ⟨j, b2, e2, j0, j8⟩ := take_ok 8 b1 (by omega) (by omega)
        exact ⟨_, rfl, fun b => by simp, some j, b2, by simp [A__law_house_3, e1, e2, oD], .inr ⟨rfl, j, rfl, j0, by omega⟩⟩
      · exact ⟨_, rfl, fun b => by simp, none, b1, by simp [A__law_house_3, e1, cv, oD], .inl rfl⟩
    · exact ⟨_, rfl, fun b => by simp, none, b, by simp [A__law_house_3, c, oD], .inl rfl⟩)
  refine ⟨⟨rs, qs, sm⟩, b5, ?_, ⟨by show 1 ≤ rs.length; omega, by show rs.length ≤ 20; omega, ok.bit, by show qs.length ≤ 60; omega, hq, l5, p5⟩, hn, hn2, by show qs.length ≤ 8; omega⟩
  have zz : (1 : Nat) ≤ sizeLine := by decide
  have z0 : (0 : Nat) ≤ sizeLine := by decide
  have z3 : (3 : Nat) ≤ sizeLine := by decide
  have zu : (1 + u).toNat ≤ sizeLine := size_small (by omega)
  simp only [sFor_ap] at lp
  simp only [F__law_house, runF_eq, enF, B__law_house]
  have u1 : 0 ≤ 1 + u := by omega
  have u63 : 1 + u < 9223372036854775808 := by omega
  simp at lp
  simp [e1, zz, z0, z3, zu, u1, u63, lp, e3, rm, lp2, e5, hoD]
end Lw

namespace Lw
open PySem L2 PySem.Spec DL
structure SmF (k : Tk) : Prop where
  r2 : 2 ≤ k.x.rs.length
  r6 : k.x.rs.length ≤ 6
  p8 : k.x.pg.length ≤ 8
  q5 : k.ps.length ≤ 5
  f9 : k.fin ≤ 9
theorem drawn_people {x : Ho} (hn : 2 ≤ x.rs.length) (hn2 : x.rs.length ≤ 6) {now n : Int} (n0 : 0 ≤ now) (n3 : now < 9) (m0 : 0 ≤ n) (m4 : n ≤ 5) (b : Int × Int) : ∃ ps b', F__law_people [hoD x, .int now, .int n] b = .ok (psD ps) b' ∧ ps.length ≤ 5 ∧ ∀ p ∈ ps, POk x.rs.length p ∧ now ≤ p.2.1 := by
  have i0 : dIx (hoD x) (.int 0) = some (.tuple (x.rs.map .int)) := by simp [hoD]
  obtain ⟨en, lp, ps, z5, b2, rfl, hp, hl⟩ := loop_invN (g := gN 5) (S := L__law_people_0) (ds := rgD 0 n.toNat) (fun k en => ∃ (ps : List Ps) (z5 : Sl) (b' : Int × Int), en = ⟨[.bx, .fz (hoD x), .fz (.int now), .fz (.int n), .ow (ps.map pD), z5], b'⟩ ∧ (∀ p ∈ ps, POk x.rs.length p ∧ now ≤ p.2.1) ∧ ps.length = k) (en := ⟨[.bx, .fz (hoD x), .fz (.int now), .fz (.int n), .ow [], .no], b⟩) ⟨[], _, _, rfl, by simp, rfl⟩
    (fun k d hd en ⟨ps, z5, b', he, hq, hk⟩ => by
      subst he
      have hk8 : k < n.toNat := by
        have := (List.getElem?_eq_some_iff.mp hd).1
        rw [rg_len] at this
        exact this
      obtain ⟨r, b1, e1, r0, r1⟩ := take_ok x.rs.length b' (by omega) (by omega)
      obtain ⟨t, b2, e2, ht⟩ := pickM_ok PyData.int [0, 0, 0, 1, 2] b1 (by simp) (by simp)
      obtain ⟨u, b3, e3, u0, u1⟩ := take_ok 3 b2 (by omega) (by omega)
      simp only [List.map_cons, List.map_nil] at e2
      have ht2 : 0 ≤ t ∧ t ≤ 2 := by simp at ht; omega
      have z3 : (3 : Nat) ≤ sizeLine := by decide
      have z5' : (5 : Nat) ≤ sizeLine := by decide
      have zp : ps.length < sizeLine := Nat.lt_of_lt_of_le (by omega : ps.length < 1000) (by decide)
      refine ⟨⟨[.bx, .fz (hoD x), .fz (.int now), .fz (.int n), .ow (ps.map pD), .fz d], b'⟩, rfl, ⟨[.bx, .fz (hoD x), .fz (.int now), .fz (.int n), .ow (ps.map pD ++ [pD (r, now + t, u)]), .fz d], b3⟩, .inl ?_, ps ++ [(r, now + t, u)], _, _, by rw [List.map_append]; rfl, fun p hp => ?_, by simp [hk]⟩
      · generalize hoD x = H at *
        simp [L__law_people_0, i0, e1, e2, e3, z3, z5', zp, pD]
      · rcases List.mem_append.mp hp with z | z
        · exact hq p z
        · rw [List.mem_singleton.mp z]
          exact ⟨⟨r0, r1, by show 0 ≤ now + t; omega, by show now + t < 60; omega, u0, by show u < 10; omega⟩, by show now ≤ now + t; omega⟩)
  rw [rg_len] at hl
  refine ⟨ps, b2, ?_, by omega, hp⟩
  have rn : rgOk n = true := rgo (by omega) (by omega)
  have z0 : (0 : Nat) ≤ sizeLine := by decide
  simp only [F__law_people, runF_eq, enF, B__law_people]
  simp [z0, rn, lp, psD]
/-! ### texts -/
theorem okd_tup2 {ys : List Int} {s : Int} (h : ∀ i ∈ ys, 0 ≤ i ∧ i < 64) (hl : ys.length ≤ 6) (s0 : 0 ≤ s) (s1 : s < 64) : Okd 2 60 (.tuple [.tuple (ys.map .int), .int s]) :=
  Okd.mono (n := 2) (m := 6 * (6 + 1) + 1 + (6 + 1 + 0)) (.tuple (.cons (o6l h hl) (.cons ((o6i s0 s1).mono (n' := 1)) .nil)))
theorem num_tup2 (ys : List Int) (s : Int) : numlD (.tuple [.tuple (ys.map .int), .int s]) = true := num_tup (num_cons (num_tup (num_ints _)) (num_cons (num_i _) num_nil))
theorem list_one {v : D} {n m : Nat} (o : Okd n m v) (hn : n ≤ 50 := by omega) (hm : m ≤ 9000 := by omega) (l : numlD v = true) : (∃ s1, dRepr [v] = some (.str s1) ∧ lowT s1 = true) ∧ ∃ s2, dRepr [.list [v]] = some (.str s2) ∧ lowT s2 = true := by
  have o2 : Okd (n + 1) (m + 1 + 0) (.list [v]) := .list (.cons o .nil)
  exact ⟨⟨_, o.repr, low_shown _ l⟩, ⟨_, o2.repr, low_shown _ (num_lst (num_cons l num_nil))⟩⟩
def OddF (v : D) : Prop := v = .none ∨ v = .int 5 ∨ v = .tuple [] ∨ v = .tuple [.tuple []] ∨ v = .tuple [.tuple [], .int 0] ∨ v = .tuple [.tuple [.int 0], .none] ∨ v = .tuple [.tuple [.int 0, .int 0], .int 0] ∨ v = .tuple [.tuple [.int 1, .int 0], .int 0] ∨ v = .tuple [.none, .int 0] ∨ v = .tuple [.tuple [.int 0], .bool true] ∨ v = .str "01"
theorem odd_few {v : D} (h : OddF v) : Few v := by
  intro r s e
  rcases h with rfl | rfl | rfl | rfl | rfl | rfl | rfl | rfl | rfl | rfl | rfl <;> simp [sqL] at e <;> (rw [← e.1]; simp [sqL])
theorem odd_no {x : Ho} (hn : 2 ≤ x.rs.length) {v : D} (h : OddF v) : floorB x v = false := by
  have b0 : belowD (.int 0) x.rs.length = true := by simp [belowD]; omega
  rcases h with rfl | rfl | rfl | rfl | rfl | rfl | rfl | rfl | rfl | rfl | rfl <;> simp [floorB, isSq, sqL, lotD, asc, belowD, toI]
theorem odd_text {v : D} (h : OddF v) : (∃ s1, dRepr [v] = some (.str s1) ∧ lowT s1 = true) ∧ ∃ s2, dRepr [.list [v]] = some (.str s2) ∧ lowT s2 = true := by
  have i0 : Okd 0 6 (.int 0) := o6i (by omega) (by omega)
  have i1 : Okd 0 6 (.int 1) := o6i (by omega) (by omega)
  have i5 : Okd 0 6 (.int 5) := o6i (by omega) (by omega)
  have t0 : Okd 1 0 (.tuple []) := .tuple .nil
  rcases h with rfl | rfl | rfl | rfl | rfl | rfl | rfl | rfl | rfl | rfl | rfl
  · exact list_one Okd.none (l := num_n)
  · exact list_one i5 (l := num_i _)
  · exact list_one t0 (l := num_tup num_nil)
  · exact list_one (n := 2) (m := 0 + 1 + 0) (.tuple (.cons t0 .nil)) (l := num_tup (num_cons (num_tup num_nil) num_nil))
  · exact list_one (n := 2) (m := 0 + 1 + (6 + 1 + 0)) (.tuple (.cons t0 (.cons (i0.mono (n' := 1)) .nil))) (l := num_tup (num_cons (num_tup num_nil) (num_cons (num_i _) num_nil)))
  · exact list_one (n := 2) (m := 6 + 1 + 0 + 1 + (0 + 1 + 0)) (.tuple (.cons (.tuple (.cons i0 .nil)) (.cons (Okd.none.mono (n' := 1)) .nil))) (l := num_tup (num_cons (num_tup (num_cons (num_i _) num_nil)) (num_cons num_n num_nil)))
  · exact list_one (n := 2) (m := 6 + 1 + (6 + 1 + 0) + 1 + (6 + 1 + 0)) (.tuple (.cons (.tuple (.cons i0 (.cons i0 .nil))) (.cons (i0.mono (n' := 1)) .nil))) (l := num_tup (num_cons (num_tup (num_cons (num_i _) (num_cons (num_i _) num_nil))) (num_cons (num_i _) num_nil)))
  · exact list_one (n := 2) (m := 6 + 1 + (6 + 1 + 0) + 1 + (6 + 1 + 0)) (.tuple (.cons (.tuple (.cons i1 (.cons i0 .nil))) (.cons (i0.mono (n' := 1)) .nil))) (l := num_tup (num_cons (num_tup (num_cons (num_i _) (num_cons (num_i _) num_nil))) (num_cons (num_i _) num_nil)))
  · exact list_one (n := 1) (m := 0 + 1 + (6 + 1 + 0)) (.tuple (.cons .none (.cons i0 .nil))) (l := num_tup (num_cons num_n (num_cons (num_i _) num_nil)))
  · exact list_one (n := 2) (m := 6 + 1 + 0 + 1 + (0 + 1 + 0)) (.tuple (.cons (.tuple (.cons i0 .nil)) (.cons ((Okd.bool true).mono (n' := 1)) .nil))) (l := num_tup (num_cons (num_tup (num_cons (num_i _) num_nil)) (num_cons (num_b _) num_nil)))
  · have o : Okd 0 2 (.str "01") := Okd.str (by decide +kernel) (by decide +kernel)
    have o2 : Okd 1 (2 + 1 + 0) (.list [.str "01"]) := .list (.cons o .nil)
    exact ⟨⟨_, o.repr, by decide +kernel⟩, ⟨_, o2.repr, by decide +kernel⟩⟩
theorem bad_text {k : Tk} (h : TkOk k) (s : SmF k) {w : D} (hw : BadT k w) : ∃ s1, dRepr [w] = some (.str s1) ∧ lowT s1 = true := by
  have n0 := h.n0; have n1 := h.n1; have f9 := s.f9
  have oh : Okd 4 4000 (hoD k.x) := okd_hoT h.ho s.r6 s.p8
  have op : Okd 4 200 (psD k.ps) := Okd.mono (n := 2) (m := 5 * (21 + 1)) (.tuple (.map (n := 1) (m := 21) (fun p hp => okd_p (by have := s.r6; omega) (h.ps p hp)) s.q5))
  have np : numlD (psD k.ps) = true := num_tup (num_map fun p _ => num_p p)
  have i1 : Okd 4 6 (.int k.now) := (o6i (by omega) (by omega)).mono
  have i2 : Okd 4 6 (.int k.fin) := (o6i (by omega) (by omega)).mono
  have i3 : Okd 4 6 (.int (k.fin + 1)) := (o6i (by omega) (by omega)).mono
  have i60 : Okd 4 6 (.int 60) := (o6i (by omega) (by omega)).mono
  have i5 : Okd 4 6 (.int 5) := (o6i (by omega) (by omega)).mono
  rcases hw with rfl | rfl | rfl | rfl | rfl
  · exact ⟨_, Okd.none.repr, low_shown _ num_n⟩
  · exact ⟨_, i5.repr, low_shown _ (num_i _)⟩
  · have o : Okd 5 (4000 + 1 + (200 + 1 + (6 + 1 + 0))) (.tuple [hoD k.x, psD k.ps, .int k.now]) := .tuple (.cons oh (.cons op (.cons i1 .nil)))
    exact ⟨_, o.repr, low_shown _ (num_tup (num_cons (num_ho _) (num_cons np (num_cons (num_i _) num_nil))))⟩
  · have o : Okd 5 (4000 + 1 + (200 + 1 + (6 + 1 + (6 + 1 + 0)))) (.tuple [hoD k.x, psD k.ps, .int k.now, .int 60]) := .tuple (.cons oh (.cons op (.cons i1 (.cons i60 .nil))))
    exact ⟨_, o.repr, low_shown _ (num_tup (num_cons (num_ho _) (num_cons np (num_cons (num_i _) (num_cons (num_i _) num_nil)))))⟩
  · have o : Okd 5 (4000 + 1 + (200 + 1 + (6 + 1 + (6 + 1 + 0)))) (.tuple [hoD k.x, psD k.ps, .int (k.fin + 1), .int k.fin]) := .tuple (.cons oh (.cons op (.cons i3 (.cons i2 .nil))))
    exact ⟨_, o.repr, low_shown _ (num_tup (num_cons (num_ho _) (num_cons np (num_cons (num_i _) (num_cons (num_i _) num_nil)))))⟩
def SomeF (v : D) : Prop := v = .none ∨ v = .int 5 ∨ v = .str "0" ∨ v = .list [.none] ∨ v = .list [.tuple [.tuple [], .int 0]]
theorem some_no {x : Ho} {v : D} (h : SomeF v) : NoRow x v ∧ ∃ s1, dRepr [v] = some (.str s1) ∧ lowT s1 = true := by
  have i5 : Okd 0 6 (.int 5) := o6i (by omega) (by omega)
  rcases h with rfl | rfl | rfl | rfl | rfl
  · exact ⟨.inl rfl, _, Okd.none.repr, low_shown _ num_n⟩
  · exact ⟨.inl rfl, _, i5.repr, low_shown _ (num_i _)⟩
  · exact ⟨.inl rfl, _, Okd.repr (Okd.str (k := 1) (by decide +kernel) (by decide +kernel)), by decide +kernel⟩
  · exact ⟨.inr ⟨_, rfl, fun r s e => by simp [sqL] at e, by simp [floorB, isSq]⟩, (odd_text (.inl rfl)).2⟩
  · exact ⟨.inr ⟨_, rfl, odd_few (.inr (.inr (.inr (.inr (.inl rfl))))), by simp [floorB, isSq, sqL, lotD, asc, belowD, toI]⟩, (odd_text (.inr (.inr (.inr (.inr (.inl rfl)))))).2⟩
end Lw

namespace Lw
open PySem L2 PySem.Spec DL
theorem dmin2 (a b : Int) : dMinL [.int a, .int b] = some (.int (if b < a then b else a)) := rfl
theorem dmax2 (a b : Int) : ∃ c, dMaxL [.int a, .int b] = some (.int c) ∧ c = if a < b then b else a := ⟨_, rfl, rfl⟩
theorem lot_turn {k : Tk} (h : TkOk k) (s : SmF k) {ns : List Int} {x1 x4 x6 x7 x9 x10 x11 x12 x13 : Sl} {b : Int × Int} :
    ∃ d7 d9 b', L_law_0 ⟨[.sq ns, x1, .bx, .fz (hoD k.x), x4, .fz (tkD k), x6, x7, .no, x9, x10, x11, x12, x13], b⟩ = .ok (.nx ⟨[.sq ns, x1, .bx, .fz (hoD k.x), x4, .fz (tkD k), x6, .fz d7, .no, .fz d9, x10, x11, x12, x13], b'⟩) := by
  have r2 := s.r2; have r6 := s.r6
  have rp : rgOk k.x.rs.length = true := rgo (by omega) (by omega)
  have i0 : dIx (hoD k.x) (.int 0) = some (.tuple (k.x.rs.map .int)) := by simp [hoD]
  obtain ⟨ys, b1, e1, sub⟩ := comp_part (own := [8]) (g := gN 8) (t := T_law_0) (A := A_law_0) (k0 := [.sq ns, x1, .bx, .fz (hoD k.x), x4, .fz (tkD k), x6, x7, .no, x9, x10, x11, x12, x13]) (b := b) (fun i : Nat => PyData.int (i : Nat)) (fun i : Nat => PyData.int (i : Nat)) (l := List.range k.x.rs.length) (by rw [List.length_range]; omega) (fun i _ b => by
    obtain ⟨v, b', e, v0, v1⟩ := take_ok 2 b (by omega) (by omega)
    exact ⟨_, rfl, fun b => by simp, v == 0, b', by simp [T_law_0, e], by simp [A_law_0]⟩)
  rw [← rg_map] at e1
  obtain ⟨st, b2, e2, hs⟩ := takeN_ok k.x.rs.length b1 (by omega) (by omega)
  have yl := sub.length_le
  rw [List.length_range] at yl
  obtain ⟨_, ym⟩ := part_ints sub
  have em : (ys.map fun i : Nat => PyData.int (i : Nat)) = (ys.map fun i : Nat => (i : Int)).map .int := by rw [List.map_map]; rfl
  have of := fun b => own_floor_ok k.x (ys := ys.map fun i : Nat => (i : Int)) (by rw [List.length_map]; omega) ym st b
  have y6 : (ys.map fun i : Nat => (i : Int)).length ≤ 6 := by rw [List.length_map]; omega
  have oT := okd_tup2 (ys := ys.map fun i : Nat => (i : Int)) (s := (st : Nat)) (fun i hi => by have := ym i hi; omega) y6 (by omega) (by omega)
  have z2 : (2 : Nat) ≤ sizeLine := by decide
  rw [em] at e1
  obtain ⟨Y, hY⟩ : ∃ Y, Y = (ys.map fun i : Nat => (i : Int)).map PyData.int := ⟨_, rfl⟩
  have fo := floor_own k.x sub hs (r := .list Y) (v := .list [.list Y, .int (st : Nat)]) rfl (by rw [hY, ← em]; rfl) rfl rfl
  have fo2 := floor_own k.x sub hs (r := .tuple Y) (v := .tuple [.tuple Y, .int (st : Nat)]) rfl (by rw [hY, ← em]; rfl) rfl rfl
  have ln : (k.x.rs.map PyData.int).length = k.x.rs.length := List.length_map _
  refine ⟨.tuple Y, .int (st : Nat), b2, ?_⟩
  rw [← hY] at e1 of oT
  cases c : goodB k.x (ys.map fun i : Nat => (i : Int)) st with
  | true =>
    rw [c] at of fo
    have cf := fun b => check_floor_yes h (ys := ys.map fun i : Nat => (i : Int)) (s := st) (by rw [List.length_map]; omega) (by rw [← hY]; exact fo) b
    rw [← hY] at cf
    have os : Okd 0 4 (.str "told") := Okd.str (by decide +kernel) (by decide +kernel)
    have oo : Okd 3 (4 + 1 + (60 + 1 + 0)) (.tuple [.str "told", .tuple [.tuple Y, .int (st : Nat)]]) := .tuple (.cons (os.mono (n' := 2)) (.cons oT .nil))
    have ne := ne_self oo
    generalize tkD k = T at *
    generalize hoD k.x = H at *
    simp [L_law_0, TF__law_heard, i0, rp, e1, e2, of, put, cf, ne, z2]
  | false =>
    rw [c] at of fo2
    obtain ⟨⟨s1, t1, l1⟩, s2, t2, l2⟩ := list_one oT (by omega) (by omega) (by rw [hY]; exact num_tup2 _ _)
    have rr := fun b => refused_right_ok h (v := .tuple [.tuple Y, .int (st : Nat)]) (fun r q e => by
      simp [sqL] at e
      rw [← e.1, hY]
      simp [sqL]
      omega) fo2 t1 l1 t2 l2 b
    generalize tkD k = T at *
    generalize hoD k.x = H at *
    simp [L_law_0, i0, rp, e1, e2, of, rr, z2]
theorem law_turn {ns : List Int} {j : Nat} {x2 x3 x4 x5 x6 x7 x9 x10 x11 x12 x13 : Sl} {b : Int × Int} (h3 : isBx x3 = false) (h4 : isBx x4 = false) (h5 : isBx x5 = false) (h6 : isBx x6 = false) (h7 : isBx x7 = false) (h9 : isBx x9 = false) (h10 : isBx x10 = false) (h11 : isBx x11 = false) (h12 : isBx x12 = false) (h13 : isBx x13 = false) :
    ∃ y3 y4 y5 y6 y7 y9 y10 y11 y12 y13 b', (isBx y3 = false ∧ isBx y4 = false ∧ isBx y5 = false ∧ isBx y6 = false ∧ isBx y7 = false ∧ isBx y9 = false ∧ isBx y10 = false ∧ isBx y11 = false ∧ isBx y12 = false ∧ isBx y13 = false) ∧ L_law_2 ⟨[.sq ns, .fz (.int j), x2, x3, x4, x5, x6, x7, .no, x9, x10, x11, x12, x13], b⟩ = .ok (.nx ⟨[.sq ns, .fz (.int j), .bx, y3, y4, y5, y6, y7, .no, y9, y10, y11, y12, y13], b'⟩) := by
  obtain ⟨b0, hb0⟩ : ∃ b0, b0 = F__law_box ns j := ⟨_, rfl⟩
  have e0 : sBox 2 0 F__law_box (eVar 1) ⟨[.sq ns, .fz (.int j), x2, x3, x4, x5, x6, x7, .no, x9, x10, x11, x12, x13], b⟩ = .ok (.nx ⟨[.sq ns, .fz (.int j), .bx, x3, x4, x5, x6, x7, .no, x9, x10, x11, x12, x13], b0⟩) := by
    rw [box_ap (ns := ns) (k := j) rfl rfl (by omega) (by simp [h3, h4, h5, h6, h7, h9, h10, h11, h12, h13]; exact ⟨rfl, rfl, rfl⟩), hb0]
    rfl
  obtain ⟨x, b1, e1, hx, hn, hn2, hp⟩ := drawn_house b0
  obtain ⟨now, b2, e2, n0, n3⟩ := take_ok 3 b1 (by omega) (by omega)
  obtain ⟨m, b3, e3, m0, m4⟩ := take_ok 4 b2 (by omega) (by omega)
  obtain ⟨ps, b4, e4, l4, p4⟩ := drawn_people hn hn2 n0 (by omega) m0 (by omega) b3
  obtain ⟨u, b5, e5, u0, u6⟩ := take_ok 6 b4 (by omega) (by omega)
  obtain ⟨k, hk⟩ : ∃ k : Tk, k = ⟨x, ps, now, now + u⟩ := ⟨_, rfl⟩
  have ht : TkOk k := by
    subst hk
    exact ⟨hx, by show ps.length ≤ 60; omega, fun p h => (p4 p h).1, n0, by show now ≤ now + u; omega, by show now + u < 60; omega, fun p h => (p4 p h).2⟩
  have st : SmF k := by
    subst hk
    exact ⟨hn, hn2, hp, l4, by show now + u ≤ 9; omega⟩
  have eT : (.tuple [hoD x, psD ps, .int now, .int (now + u)] : D) = tkD k := by rw [hk]; rfl
  have ex : hoD x = hoD k.x := by rw [hk]
  have r6 : rgOk 6 = true := by decide
  obtain ⟨en, lp, y6, y7, y9, b6, ⟨g6, g7, g9⟩, he⟩ := loop_inv (g := gN 6) (S := L_law_0) (ds := rgD 0 6) (fun en => ∃ y6 y7 y9 b, (isBx y6 = false ∧ isBx y7 = false ∧ isBx y9 = false) ∧ en = ⟨[.sq ns, .fz (.int j), .bx, .fz (hoD k.x), .fz (.int now), .fz (tkD k), y6, y7, .no, y9, x10, x11, x12, x13], b⟩) (en := ⟨[.sq ns, .fz (.int j), .bx, .fz (hoD k.x), .fz (.int now), .fz (tkD k), x6, x7, .no, x9, x10, x11, x12, x13], b5⟩) ⟨_, _, _, _, ⟨h6, h7, h9⟩, rfl⟩ (fun d hd en ⟨y6, y7, y9, b, _, he⟩ => by
    subst he
    obtain ⟨d7, d9, b', e⟩ := lot_turn ht st (ns := ns) (x1 := .fz (.int j)) (x4 := .fz (.int now)) (x6 := .fz d) (x7 := y7) (x9 := y9) (x10 := x10) (x11 := x11) (x12 := x12) (x13 := x13) (b := b)
    exact ⟨⟨[.sq ns, .fz (.int j), .bx, .fz (hoD k.x), .fz (.int now), .fz (tkD k), .fz d, y7, .no, y9, x10, x11, x12, x13], b⟩, rfl, _, .inl e, .fz d, .fz d7, .fz d9, _, ⟨rfl, rfl, rfl⟩, rfl⟩)
  subst he
  -- odd values
  obtain ⟨v, b7, e7, hv⟩ := pick_ok [.none, .int 5, .tuple [], .tuple [.tuple []], .tuple [.tuple [], .int 0], .tuple [.tuple [.int 0], .none], .tuple [.tuple [.int 0, .int 0], .int 0], .tuple [.tuple [.int 1, .int 0], .int 0], .tuple [.none, .int 0], .tuple [.tuple [.int 0], .bool true], .str "01"] b6 (by simp) (by simp)
  have hv : OddF v := by
    simp only [List.mem_cons, List.not_mem_nil, or_false] at hv
    exact hv
  obtain ⟨⟨s1, t1, l1⟩, s2, t2, l2⟩ := odd_text hv
  have rr := fun b => refused_right_ok ht (odd_few hv) (odd_no st.r2 hv) t1 l1 t2 l2 b
  obtain ⟨w, b8, e8, hw⟩ := pick_ok [.none, .int 5, .tuple [hoD k.x, psD k.ps, .int k.now], .tuple [hoD k.x, psD k.ps, .int k.now, .int 60], .tuple [hoD k.x, psD k.ps, .int (k.fin + 1), .int k.fin]] b7 (by simp) (by simp)
  have hw : BadT k w := by
    simp only [List.mem_cons, List.not_mem_nil, or_false] at hw
    exact hw
  obtain ⟨s3, t3, l3⟩ := bad_text ht st hw
  have n3 := (same_heard l3).1
  have f1 := fun b => (bad_all ht hw v b).1
  have f2 := fun b => (bad_all ht hw v b).2.1
  have f3 := fun b => (bad_all ht hw v b).2.2.1
  have f4 := fun b => (bad_all ht hw v b).2.2.2
  obtain ⟨q, b9, e9, hq⟩ := pick_ok [.none, .int 5, .str "0", .list [.none], .list [.tuple [.tuple [], .int 0]]] b8 (by simp) (by simp)
  have hq : SomeF q := by
    simp only [List.mem_cons, List.not_mem_nil, or_false] at hq
    exact hq
  obtain ⟨nr, s4, t4, l4⟩ := some_no (x := k.x) hq
  have f5 := fun b => by_floors_no (tform_D k) ht nr b
  have n4 := (same_heard l4).1
  have sl3 : dSl (tkD k) none (some 3) = some (.tuple [hoD k.x, psD k.ps, .int k.now]) := by simp [tkD]
  have d1 : dIx (tkD k) (.int 1) = some (psD k.ps) := by simp [tkD]
  have d3 : dIx (tkD k) (.int 3) = some (.int k.fin) := by simp [tkD]
  have z0 : (0 : Nat) ≤ sizeLine := by decide
  have z1 : (1 : Nat) ≤ sizeLine := by decide
  have z2 : (2 : Nat) ≤ sizeLine := by decide
  have z3 : (3 : Nat) ≤ sizeLine := by decide
  have z4 : (4 : Nat) ≤ sizeLine := by decide
  have z5 : (5 : Nat) ≤ sizeLine := by decide
  have z11 : (11 : Nat) ≤ sizeLine := by decide
  refine ⟨.fz (hoD k.x), .fz (.int now), .fz (tkD k), y6, y7, y9, .fz v, .fz w, .fu "by_floors", .fz q, b9, ⟨rfl, rfl, rfl, g6, g7, g9, rfl, rfl, rfl, rfl⟩, ?_⟩
  simp only [L_law_2, sSeq_ap, e0, bind_ok]
  rw [ex] at e1 e4 eT
  generalize hP : psD ps = P at *
  generalize hPk : psD k.ps = Pk at *
  generalize hT : tkD k = T at *
  generalize hH : hoD k.x = H at *
  simp [e1, e2, e3, e4, e5, z0, z1, z2, z3, z4, z5, z11, eT, r6, lp, e7, rr, sl3, d1, d3, e8, L_law_1, lk4a, lk4b, lk4c, lk4d, f1, f2, f3, f4, HS__law_heard, t3, n3, e9, f5, t4, n4]
theorem lawTot (ns : List Int) (hl : ns.length ≤ 63) : Post (fun o => ∃ en, o = Out.rt (.bool true) en) (fun _ _ _ => False) (B_law ⟨.sq ns :: List.replicate 13 .no, (0, 0)⟩) := by
  obtain ⟨c, hc, hc2⟩ := dmax2 5 (if (12 : Int) < ns.length then 12 else ns.length)
  have c0 : 0 ≤ c := by rw [hc2]; split <;> split <;> omega
  have c1 : c ≤ 100 := by rw [hc2]; split <;> split <;> omega
  have rc : rgOk c = true := rgo (by omega) (by omega)
  obtain ⟨e, h1, x1, x2, x3, x4, x5, x6, x7, x9, x10, x11, x12, x13, b, _, rfl⟩ := loop_inv (g := gN 1) (S := L_law_2) (ds := rgD 0 c.toNat) (fun en => ∃ x1 x2 x3 x4 x5 x6 x7 x9 x10 x11 x12 x13 b, (isBx x3 = false ∧ isBx x4 = false ∧ isBx x5 = false ∧ isBx x6 = false ∧ isBx x7 = false ∧ isBx x9 = false ∧ isBx x10 = false ∧ isBx x11 = false ∧ isBx x12 = false ∧ isBx x13 = false) ∧ en = ⟨[.sq ns, x1, x2, x3, x4, x5, x6, x7, .no, x9, x10, x11, x12, x13], b⟩)
    (en := ⟨.sq ns :: List.replicate 13 .no, (0, 0)⟩) ⟨_, _, _, _, _, _, _, _, _, _, _, _, _, ⟨rfl, rfl, rfl, rfl, rfl, rfl, rfl, rfl, rfl, rfl⟩, rfl⟩ (fun d hd en ⟨x1, x2, x3, x4, x5, x6, x7, x9, x10, x11, x12, x13, b, ⟨h3, h4, h5, h6, h7, h9, h10, h11, h12, h13⟩, he⟩ => by
      subst he
      obtain ⟨i, _, rfl⟩ := rg_mem hd
      obtain ⟨y3, y4, y5, y6, y7, y9, y10, y11, y12, y13, b', g, t⟩ := law_turn (ns := ns) (j := i) (x2 := x2) (b := b) h3 h4 h5 h6 h7 h9 h10 h11 h12 h13
      exact ⟨_, rfl, _, .inl t, _, _, _, _, _, _, _, _, _, _, _, _, _, g, rfl⟩)
  simp only [B_law]
  simp only [List.replicate] at h1
  have hm := dmin2 ns.length 12
  simp [hm, hc, rc, h1, Post]
end Lw

open PySem PySem.W PyProof.Rows in
set_option maxRecDepth 100000 in
set_option maxHeartbeats 0 in
theorem PySem.Challenge.cw_outsoonest_k51_what_is_no_floor_holds : PySem.Challenge.rw_outsoonest_k51_what_is_no_floor.Holds := by
  w_on; o_law; k_head; (case hw => w_witness2)
  k_fill
  refine' Lw.walk_mk (l := PySem.Challenge.rw_outsoonest_k51_what_is_no_floor) (k := 18) (x := "_law_script") rfl (by decide) rfl ⟨rfl, by decide, by decide⟩ (fun w h Y => PySem.W.km_in_of Y) ?t0a ?t0b ?t0c ?t0d ?t0e ?t0f ?t1a ?t1b ?t1c ?t1d ?t1e ?t1f ?F
  (case t0a => intro w; k_is)
  (case t0b => intro w; k_is)
  (case t0c => intro w; k_is)
  (case t0d => exact rfl)
  (case t0e => intro w; kernel_rfl)
  (case t0f => exact rfl)
  (case t1a => intro w; k_is)
  (case t1b => intro w; k_is)
  (case t1c => intro w; k_is)
  (case t1d => exact rfl)
  (case t1e => intro w; kernel_rfl)
  (case t1f => exact rfl)
  case F =>
    intro w mg fa h KX G hmg
    refine' Lw.all_mk Lw.boxTot Lw.lawTot KX G hmg ?a0 ?l0 ?c0 ?k0 ?a1 ?l1 ?c1 ?k1 ?a2 ?l2 ?c2 ?k2 ?a3 ?l3 ?c3 ?k3 ?a4 ?l4 ?c4 ?k4 ?a5 ?l5 ?c5 ?k5 ?a6 ?l6 ?c6 ?k6 ?a7 ?l7 ?c7 ?k7 ?a8 ?l8 ?c8 ?k8 ?a9 ?l9 ?c9 ?k9 ?a10 ?l10 ?c10 ?k10 ?a11 ?l11 ?c11 ?k11 ?a12 ?l12 ?c12 ?k12 ?a13 ?l13 ?c13 ?k13 ?a14 ?l14 ?c14 ?k14 ?a15 ?l15 ?c15 ?k15 ?a16 ?l16 ?c16 ?k16 ?a17 ?l17 ?c17 ?k17 ?a18 ?l18 ?c18 ?k18 ?a19 ?l19 ?c19 ?k19 ?a20 ?l20 ?c20 ?k20 ?a21 ?l21 ?c21 ?k21 ?a22 ?l22 ?c22 ?k22 ?a23 ?l23 ?c23 ?k23 ?a24 ?l24 ?c24 ?k24 ?a25 ?l25 ?c25 ?k25 ?a26 ?l26 ?c26 ?k26 ?a27 ?l27 ?c27 ?k27 ?a28 ?l28 ?c28 ?k28 ?a29 ?l29 ?c29 ?k29 ?a30 ?l30 ?c30 ?k30 ?a31 ?l31 ?c31 ?k31 ?a32 ?l32 ?c32 ?k32 ?a33 ?l33 ?c33 ?k33 ?z0 ?z1 ?z2 ?z3 ?z4 ?z5 ?z6 ?z7 ?z8 ?z9 ?z10 ?z11 ?z12 ?z13 ?z14 ?z15 ?z16 ?z17 ?z18 ?z19 ?z20 ?z21 ?z22 ?z23 ?z24 ?top_ ?third ?nosup ?ea0 ?eb0 ?ec0 ?ed0 ?ee0 ?ef0 ?eg0 ?eh0 ?ei0 ?ej0 ?ek0 ?el0 ?ea1 ?eb1 ?ec1 ?ed1 ?ee1 ?ef1 ?eg1 ?eh1 ?ei1 ?ej1 ?ek1 ?el1 ?ea2 ?eb2 ?ec2 ?ed2 ?ee2 ?ef2 ?eg2 ?eh2 ?ei2 ?ej2 ?ek2 ?el2 ?da0 ?mx_BadHouse_Refused ?mx_BadHouse_BadHouse ?mx_BadHouse_BadPeople ?mi_BadHouse_OutError ?mx_BadPeople_Refused ?mx_BadPeople_BadHouse ?mx_BadPeople_BadPeople ?mi_BadPeople_OutError ?mx_Refused_Refused ?mx_Refused_BadHouse ?mx_Refused_BadPeople ?mi_Refused_OutError ?tb0 ?tb1 ?tn0_1
    (case a0 => k_is)
    (case l0 => k_is)
    (case c0 => k_is)
    (case k0 => k_is)
    (case a1 => k_is)
    (case l1 => k_is)
    (case c1 => k_is)
    (case k1 => k_is)
    (case a2 => k_is)
    (case l2 => k_is)
    (case c2 => k_is)
    (case k2 => k_is)
    (case a3 => k_is)
    (case l3 => k_is)
    (case c3 => k_is)
    (case k3 => k_is)
    (case a4 => k_is)
    (case l4 => k_is)
    (case c4 => k_is)
    (case k4 => k_is)
    (case a5 => k_is)
    (case l5 => k_is)
    (case c5 => k_is)
    (case k5 => k_is)
    (case a6 => k_is)
    (case l6 => k_is)
    (case c6 => k_is)
    (case k6 => k_is)
    (case a7 => k_is)
    (case l7 => k_is)
    (case c7 => k_is)
    (case k7 => k_is)
    (case a8 => k_is)
    (case l8 => k_is)
    (case c8 => k_is)
    (case k8 => k_is)
    (case a9 => k_is)
    (case l9 => k_is)
    (case c9 => k_is)
    (case k9 => k_is)
    (case a10 => k_is)
    (case l10 => k_is)
    (case c10 => k_is)
    (case k10 => k_is)
    (case a11 => k_is)
    (case l11 => k_is)
    (case c11 => k_is)
    (case k11 => k_is)
    (case a12 => k_is)
    (case l12 => k_is)
    (case c12 => k_is)
    (case k12 => k_is)
    (case a13 => k_is)
    (case l13 => k_is)
    (case c13 => k_is)
    (case k13 => k_is)
    (case a14 => k_is)
    (case l14 => k_is)
    (case c14 => k_is)
    (case k14 => k_is)
    (case a15 => k_is)
    (case l15 => k_is)
    (case c15 => k_is)
    (case k15 => k_is)
    (case a16 => k_is)
    (case l16 => k_is)
    (case c16 => k_is)
    (case k16 => k_is)
    (case a17 => k_is)
    (case l17 => k_is)
    (case c17 => k_is)
    (case k17 => k_is)
    (case a18 => k_is)
    (case l18 => k_is)
    (case c18 => k_is)
    (case k18 => k_is)
    (case a19 => k_is)
    (case l19 => k_is)
    (case c19 => k_is)
    (case k19 => k_is)
    (case a20 => k_is)
    (case l20 => k_is)
    (case c20 => k_is)
    (case k20 => k_is)
    (case a21 => k_is)
    (case l21 => k_is)
    (case c21 => k_is)
    (case k21 => k_is)
    (case a22 => k_is)
    (case l22 => k_is)
    (case c22 => k_is)
    (case k22 => k_is)
    (case a23 => k_is)
    (case l23 => k_is)
    (case c23 => k_is)
    (case k23 => k_is)
    (case a24 => k_is)
    (case l24 => k_is)
    (case c24 => k_is)
    (case k24 => k_is)
    (case a25 => k_is)
    (case l25 => k_is)
    (case c25 => k_is)
    (case k25 => k_is)
    (case a26 => k_is)
    (case l26 => k_is)
    (case c26 => k_is)
    (case k26 => k_is)
    (case a27 => k_is)
    (case l27 => k_is)
    (case c27 => k_is)
    (case k27 => k_is)
    (case a28 => k_is)
    (case l28 => k_is)
    (case c28 => k_is)
    (case k28 => k_is)
    (case a29 => k_is)
    (case l29 => k_is)
    (case c29 => k_is)
    (case k29 => k_is)
    (case a30 => k_is)
    (case l30 => k_is)
    (case c30 => k_is)
    (case k30 => k_is)
    (case a31 => k_is)
    (case l31 => k_is)
    (case c31 => k_is)
    (case k31 => k_is)
    (case a32 => k_is)
    (case l32 => k_is)
    (case c32 => k_is)
    (case k32 => k_is)
    (case a33 => k_is)
    (case l33 => k_is)
    (case c33 => k_is)
    (case k33 => k_is)
    (case z0 => k_is)
    (case z1 => k_is)
    (case z2 => k_is)
    (case z3 => k_is)
    (case z4 => k_is)
    (case z5 => k_is)
    (case z6 => k_is)
    (case z7 => k_is)
    (case z8 => k_is)
    (case z9 => k_is)
    (case z10 => k_is)
    (case z11 => k_is)
    (case z12 => k_is)
    (case z13 => k_is)
    (case z14 => k_is)
    (case z15 => k_is)
    (case z16 => k_is)
    (case z17 => k_is)
    (case z18 => k_is)
    (case z19 => k_is)
    (case z20 => k_is)
    (case z21 => k_is)
    (case z22 => k_is)
    (case z23 => k_is)
    (case z24 => k_is)
    (case top_ => kernel_rfl)
    (case third => k_is)
    (case nosup => k_is)
    (case ea0 => k_is)
    (case eb0 => k_is)
    (case ec0 => kernel_rfl)
    (case ed0 => k_is)
    (case ee0 => k_is)
    (case ef0 => k_is)
    (case eg0 => k_is)
    (case eh0 => k_is)
    (case ei0 => exact rfl)
    (case ej0 => kernel_rfl)
    (case ek0 => k_is)
    (case el0 => kernel_rfl)
    (case ea1 => k_is)
    (case eb1 => k_is)
    (case ec1 => kernel_rfl)
    (case ed1 => k_is)
    (case ee1 => k_is)
    (case ef1 => k_is)
    (case eg1 => k_is)
    (case eh1 => k_is)
    (case ei1 => exact rfl)
    (case ej1 => kernel_rfl)
    (case ek1 => k_is)
    (case el1 => kernel_rfl)
    (case ea2 => k_is)
    (case eb2 => k_is)
    (case ec2 => kernel_rfl)
    (case ed2 => k_is)
    (case ee2 => k_is)
    (case ef2 => k_is)
    (case eg2 => k_is)
    (case eh2 => k_is)
    (case ei2 => exact rfl)
    (case ej2 => kernel_rfl)
    (case ek2 => k_is)
    (case el2 => kernel_rfl)
    (case da0 => k_is)
    (case mx_BadHouse_Refused => kernel_rfl)
    (case mx_BadHouse_BadHouse => kernel_rfl)
    (case mx_BadHouse_BadPeople => kernel_rfl)
    (case mi_BadHouse_OutError => kernel_rfl)
    (case mx_BadPeople_Refused => kernel_rfl)
    (case mx_BadPeople_BadHouse => kernel_rfl)
    (case mx_BadPeople_BadPeople => kernel_rfl)
    (case mi_BadPeople_OutError => kernel_rfl)
    (case mx_Refused_Refused => kernel_rfl)
    (case mx_Refused_BadHouse => kernel_rfl)
    (case mx_Refused_BadPeople => kernel_rfl)
    (case mi_Refused_OutError => kernel_rfl)
    (case tb0 => refine' DL.tabIn_mk ?p1 ?p2 ?p3 ?p4; (case p1 => k_is); (case p2 => k_is); (case p3 => k_is); (case p4 => exact rfl))
    (case tb1 => refine' DL.tabIn_mk ?p1 ?p2 ?p3 ?p4; (case p1 => k_is); (case p2 => k_is); (case p3 => k_is); (case p4 => exact rfl))
    (case tn0_1 => decide)
#print axioms PySem.Challenge.cw_outsoonest_k51_what_is_no_floor_holds
