import PyProof.Rows.All
import Wide.All
import OpenK.AllK
import Wide.FinOn
import HandS.ForMost
import HandS.ForExc
import HandS.Defaults
import HandS.Nested
import HandS.Wide
import HandS.WideBits
import HandS.TupAny
import HandS.Deep
import HandS.IsInst
import HandS.Text
import HandS.Zip
import HandS.RaiseMore
import KE.SortData
import PyProof.ReprRoads
import PyProof.CallFns
import HandS.Property
import HandS.HeadHook2
import HandS.HeadHook4
import HandS.NestedK
import PyProof.Draws
import PyProof.EnumMake
import HandS.Zip0
import HandS.HeadHook3
import HandS.Style
import KE.LtData
import HandS.Set
import HandS.SetFor
import HandS.SetKeys
import HandS.Strs
import PyProof.InstNe
import HandS.Records
import OpenK.KOps
import PyProof.NeKinds
import HandS.EndTab
import HandS.HeadWalk
import KE.DataCmp
import HandS.Conv
import HandS.Star
import PyProof.ListStr
import HandS.Head0
import HandS.Head1
import HandS.Head2
import HandS.HeadEnd
import HandS.HeadHook1
import PySem.Challenge.RW_flagslate_k02_frames_made_and_their_aske
set_option Elab.async false
set_option linter.all false
set_option maxRecDepth 100000
set_option maxHeartbeats 1000000
/-! M3A: pure data, the store of what changes, how both lie over the abstract heap. -/
namespace M3
open PySem PySem.Spec PyProof.Rows L2

/-- data that never change; ref n: the thing n of the store; gl x: what the module's name x stands for -/
inductive D where
  | non | bl (b : Bool) | int (i : Int) | str (x : Str) | ty (n : String) | gl (x : Str) | ref (n : Nat)
  | tup (ds : List D) | fl (ds : List D) | fz (ds : List D) | ob (c : Str) (fs : List (Str × D))
/-- what a name of a def may hold: a datum; a function that was handed in (its number, what it captured); one that was made here -/
inductive EV where
  | v (d : D) | fn (k : Nat) (ws : List EV) | fl (k : Nat)
inductive Cell where
  | lst (ds : List D) | ins (c : Str) (fs : List (Str × D)) | dct (kvs : List (Key × D))
abbrev Store := List Cell
abbrev Evs := List (Option EV)
/-- how an expression ends -/
inductive Rz (α : Type) where
  | ok (a : α) (S : Store) | exc (c : Str) (fs : List (Str × D)) (S : Store) | bad
/-- how a statement ends -/
inductive So where
  | nx (e : Evs) (S : Store) | ret (d : D) (S : Store) | bk (e : Evs) (S : Store) | ct (e : Evs) (S : Store) | exc (c : Str) (fs : List (Str × D)) (e : Evs) (S : Store) | bad
def Rz.bind {α β : Type} (r : Rz α) (f : α → Store → Rz β) : Rz β := match r with
  | .ok a S => f a S
  | .exc c fs S => .exc c fs S
  | .bad => .bad
@[simp] theorem Rz.bind_ok {α β : Type} (a : α) (S : Store) (f : α → Store → Rz β) : (Rz.ok a S).bind f = f a S := rfl
@[simp] theorem Rz.bind_exc {α β : Type} (c : Str) (fs : List (Str × D)) (S : Store) (f : α → Store → Rz β) : (Rz.exc c fs S : Rz α).bind f = .exc c fs S := rfl
@[simp] theorem Rz.bind_bad {α β : Type} (f : α → Store → Rz β) : (Rz.bad : Rz α).bind f = .bad := rfl
abbrev EM := Evs → Store → Rz D
abbrev TM := Evs → Store → Rz Bool
abbrev AM := Evs → Store → Rz (List D)
abbrev SM := Evs → Store → So

/-- where the store's things lie; addresses that no datum leans on for the while -/
structure Rho where
  c : List Addr
  t : List Addr
def Rho.off (ρ : Rho) (a : Addr) : Prop := a ∉ ρ.c ∧ a ∉ ρ.t
abbrev Rho.push (ρ : Rho) (p : Addr) : Rho := ⟨ρ.c ++ [p], ρ.t⟩
abbrev Rho.ban (ρ : Rho) (p : Addr) : Rho := ⟨ρ.c, p :: ρ.t⟩
/-! ### how data lie over the abstract heap -/
/-- a tuple, a list that stays: tracked (and none of the store's), or written at the top -/
def TupAt (K : PySem.W.Frag) (ρ : Rho) (H : Hp) (a : Addr) (xs : List V) : Prop := (Rd H a (.tup xs) ∧ ρ.off a) ∨
  ∃ (o : Obj) (its : Array Value) (n : Nat), K.lookup a = some o ∧ o.cls = .type "tuple" ∧ o.data = .seq its n ∧ its.size ≤ sizeLine ∧ Vals xs its.toList
def FzAt (K : PySem.W.Frag) (ρ : Rho) (H : Hp) (a : Addr) (xs : List V) : Prop := (Rd H a (.lst xs) ∧ ρ.off a) ∨
  ∃ (o : Obj) (its : Array Value) (n : Nat), K.lookup a = some o ∧ o.cls = .type "list" ∧ o.dict = none ∧ o.data = .seq its n ∧ its.size ≤ sizeLine ∧ Vals xs its.toList
theorem TupAt.sq {K : PySem.W.Frag} {ρ : Rho} {H : Hp} {a : Addr} {xs : List V} (h : TupAt K ρ H a xs) : SqT K H a xs := h.imp (fun z => z.1) id
theorem FzAt.sq {K : PySem.W.Frag} {ρ : Rho} {H : Hp} {a : Addr} {xs : List V} (h : FzAt K ρ H a xs) : SqL K H a xs := h.imp (fun z => z.1) id
def LstAt (ρ : Rho) (H : Hp) (a : Addr) (xs : List V) : Prop := H a = some (.lst xs) ∧ ρ.off a
theorem LstAt.sq {K : PySem.W.Frag} {ρ : Rho} {H : Hp} {a : Addr} {xs : List V} (h : LstAt ρ H a xs) : SqL K H a xs := .of h.1

section
variable (K : PySem.W.Frag) (mg : Str → Option Value) (ρ : Rho) (H : Hp)
mutual
def RD : D → V → Prop
  | .non => fun v => v = .non
  | .bl b => fun v => v = .bl b
  | .int i => fun v => v = .int i
  | .str x => fun v => v = .str x
  | .ty n => fun v => v = .ty n
  | .gl x => fun v => ∃ a, v = .ref a ∧ mg x = some (.ref a)
  | .ref n => fun v => ∃ a, v = .ref a ∧ ρ.c[n]? = some a
  | .tup ds => fun v => ∃ a xs, v = .ref a ∧ TupAt K ρ H a xs ∧ RDs ds xs
  | .fl ds => fun v => ∃ a xs, v = .ref a ∧ LstAt ρ H a xs ∧ RDs ds xs
  | .fz ds => fun v => ∃ a xs, v = .ref a ∧ FzAt K ρ H a xs ∧ RDs ds xs
  | .ob c fs => fun v => ∃ a C dx ys, v = .ref a ∧ H a = some (.ins C dx ys) ∧ ρ.off a ∧ mg c = some (.ref C) ∧ RFs fs ys
def RDs : List D → List V → Prop
  | [] => fun vs => vs = []
  | d :: ds => fun vs => ∃ v r, vs = v :: r ∧ RD d v ∧ RDs ds r
def RFs : List (Str × D) → List (Str × V) → Prop
  | [] => fun vs => vs = []
  | (f, d) :: ds => fun vs => ∃ v r, vs = (f, v) :: r ∧ RD d v ∧ RFs ds r
end
end

theorem some_none {H : Hp} {a : Addr} {o : HO} {p : Prop} (h : H a = some o) (g : H a = none) : p := by rw [h] at g; cases g
theorem upd_no {H : Hp} {a b : Addr} {o : HO} (e : upd H a o b = none) : H b = none := by
  unfold upd at e
  split at e
  · cases e
  · exact e
/-- what a datum leans on is there still -/
structure Mv (ρ : Rho) (H : Hp) (ρ' : Rho) (H' : Hp) : Prop where
  ix : ∀ (n : Nat) a, ρ.c[n]? = some a → ρ'.c[n]? = some a
  at_ : ∀ a o, H a = some o → ρ.off a → (∀ ps, o ≠ .tbl ps) → H' a = some o ∧ ρ'.off a
/-- from one state to a later one: the store's things grow, what is none of the store's stays -/
structure Aft (ρ : Rho) (H : Hp) (ρ' : Rho) (H' : Hp) : Prop where
  pre : ∃ l, ρ'.c = ρ.c ++ l
  ban : ρ'.t = ρ.t
  keep : ∀ a o, H a = some o → a ∉ ρ.c → (∀ ps, o ≠ .tbl ps) → H' a = some o
  tbl : ∀ a, H' a = none → H a = none
  fresh : ∀ a, a ∈ ρ'.c → a ∈ ρ.c ∨ H a = none
theorem Aft.refl {ρ : Rho} {H : Hp} : Aft ρ H ρ H := ⟨⟨[], (List.append_nil _).symm⟩, rfl, fun _ _ e _ _ => e, fun _ e => e, fun _ h => .inl h⟩
theorem Aft.trans {ρ ρ1 ρ2 : Rho} {H H1 H2 : Hp} (a : Aft ρ H ρ1 H1) (b : Aft ρ1 H1 ρ2 H2) : Aft ρ H ρ2 H2 where
  pre := by
    obtain ⟨l, e⟩ := a.pre
    obtain ⟨l', e'⟩ := b.pre
    exact ⟨l ++ l', by rw [e', e, List.append_assoc]⟩
  ban := b.ban.trans a.ban
  keep := fun c o e n t => by
    refine b.keep c o (a.keep c o e n t) (fun m => ?_) t
    rcases a.fresh c m with m | m
    · exact n m
    · rw [e] at m; cases m
  tbl := fun c e => a.tbl c (b.tbl c e)
  fresh := fun c m => by
    rcases b.fresh c m with m | m
    · exact a.fresh c m
    · exact .inr (a.tbl c m)
theorem Aft.sub {ρ ρ' : Rho} {H H' : Hp} (a : Aft ρ H ρ' H') {n : Nat} {x : Addr} (e : ρ.c[n]? = some x) : ρ'.c[n]? = some x := by
  obtain ⟨l, q⟩ := a.pre
  rw [q, List.getElem?_append_left (List.getElem?_eq_some_iff.mp e).1]
  exact e
theorem Aft.mv {ρ ρ' : Rho} {H H' : Hp} (t : Aft ρ H ρ' H') : Mv ρ H ρ' H' := ⟨fun _ _ e => t.sub e, fun a o e n nt => ⟨t.keep a o e n.1 nt, ⟨fun m => by
    rcases t.fresh a m with m | m
    · exact n.1 m
    · exact some_none e m, by rw [t.ban]; exact n.2⟩⟩⟩
/-- a new thing that is none of the store's -/
theorem Aft.laid {ρ : Rho} {H : Hp} {p : Addr} {o : HO} (hp : H p = none) : Aft ρ H ρ (upd H p o) :=
  ⟨⟨[], (List.append_nil _).symm⟩, rfl, fun a u e _ _ => by rw [upd_ne (ne_of_none e hp)]; exact e, fun a e => upd_no e, fun _ h => .inl h⟩
/-- a new thing of the store's -/
theorem Aft.push {ρ : Rho} {H : Hp} {p : Addr} {o : HO} (hp : H p = none) : Aft ρ H (ρ.push p) (upd H p o) :=
  ⟨⟨[p], rfl⟩, rfl, fun a u e _ _ => by rw [upd_ne (ne_of_none e hp)]; exact e, fun a e => upd_no e, fun a h => by
    rcases List.mem_append.mp h with h | h
    · exact .inl h
    · right; rw [List.mem_singleton.mp h]; exact hp⟩
/-- a thing of the store's changed -/
theorem Aft.write {ρ : Rho} {H : Hp} {p : Addr} {o u : HO} (hp : p ∈ ρ.c) (hu : H p = some u) (ht : ∀ ps, u ≠ .tbl ps) : Aft ρ H ρ (upd H p o) :=
  ⟨⟨[], (List.append_nil _).symm⟩, rfl, fun a v e n _ => by rw [upd_ne (fun z : a = p => n (by rw [z]; exact hp))]; exact e, fun a e => upd_no e, fun _ h => .inl h⟩
/-- a new thing of which no datum is to tell -/
theorem Mv.ban {ρ : Rho} {H : Hp} {p : Addr} {o : HO} (hp : H p = none) : Mv ρ H (ρ.ban p) (upd H p o) :=
  ⟨fun _ _ e => e, fun a u e n _ => ⟨by rw [upd_ne (ne_of_none e hp)]; exact e, ⟨n.1, fun m => by
    rcases List.mem_cons.mp m with z | z
    · rw [z, hp] at e; cases e
    · exact n.2 z⟩⟩⟩
/-- .. is changed -/
theorem Mv.banned {ρ : Rho} {H : Hp} {p : Addr} {o : HO} : Mv (ρ.ban p) H (ρ.ban p) (upd H p o) :=
  ⟨fun _ _ e => e, fun a u e n _ => ⟨by rw [upd_ne (fun z => n.2 (by rw [z]; exact List.mem_cons_self))]; exact e, n⟩⟩
/-- .. is free again -/
theorem Mv.free {ρ : Rho} {H : Hp} {p : Addr} : Mv (ρ.ban p) H ρ H := ⟨fun _ _ e => e, fun a u e n _ => ⟨e, ⟨n.1, fun m => n.2 (List.mem_cons_of_mem _ m)⟩⟩⟩
/-- .. becomes the store's newest -/
theorem Mv.take {ρ : Rho} {H : Hp} {p : Addr} : Mv (ρ.ban p) H (ρ.push p) H := ⟨fun n a e => by
    show (ρ.c ++ [p])[n]? = some a
    rw [List.getElem?_append_left (List.getElem?_eq_some_iff.mp e).1]; exact e, fun a u e n _ => ⟨e, ⟨fun m => by
    rcases List.mem_append.mp m with m | m
    · exact n.1 m
    · exact n.2 (by rw [List.mem_singleton.mp m]; exact List.mem_cons_self), fun m => n.2 (List.mem_cons_of_mem _ m)⟩⟩⟩
theorem Mv.refl {ρ : Rho} {H : Hp} : Mv ρ H ρ H := Aft.refl.mv
theorem Mv.trans {ρ ρ1 ρ2 : Rho} {H H1 H2 : Hp} (a : Mv ρ H ρ1 H1) (b : Mv ρ1 H1 ρ2 H2) : Mv ρ H ρ2 H2 :=
  ⟨fun n x e => b.ix n x (a.ix n x e), fun x o e n nt => b.at_ x o (a.at_ x o e n nt).1 (a.at_ x o e n nt).2 nt⟩
theorem Aft.unban {ρ ρ' : Rho} {H H' : Hp} {p : Addr} (t : Aft (ρ.ban p) H ρ' H') : Aft ρ H ⟨ρ'.c, ρ.t⟩ H' := ⟨t.pre, rfl, t.keep, t.tbl, t.fresh⟩
theorem Aft.over {ρ ρ' : Rho} {H H' : Hp} {p : Addr} {o : HO} (t : Aft ρ H ρ' H') (hp : H p = none) : Aft ρ H ρ' (upd H' p o) :=
  ⟨t.pre, t.ban, fun a u e n nt => by rw [upd_ne (ne_of_none e hp)]; exact t.keep a u e n nt, fun a e => t.tbl a (upd_no e), t.fresh⟩
theorem Aft.take {ρ ρ' : Rho} {H H' : Hp} {p : Addr} (t : Aft ρ H ρ' H') (hp : H p = none) : Aft ρ H (ρ'.push p) H' :=
  ⟨by obtain ⟨l, e⟩ := t.pre; exact ⟨l ++ [p], by show ρ'.c ++ [p] = _; rw [e, List.append_assoc]⟩, t.ban, t.keep, t.tbl, fun a m => by
    rcases List.mem_append.mp m with m | m
    · exact t.fresh a m
    · right; rw [List.mem_singleton.mp m]; exact hp⟩
theorem Mv.rd {ρ ρ' : Rho} {H H' : Hp} (t : Mv ρ H ρ' H') {a : Addr} {u : HO} (hu : ∀ ps, u ≠ .tbl ps) (h : Rd H a u) (n : ρ.off a) : Rd H' a u ∧ ρ'.off a := by
  rcases h with h | ⟨o, h⟩
  · exact ⟨.inl (t.at_ a _ h n hu).1, (t.at_ a _ h n hu).2⟩
  · have q := t.at_ a _ h n fun ps z => by cases z
    exact ⟨.inr ⟨o, q.1⟩, q.2⟩
theorem TupAt.later {K : PySem.W.Frag} {ρ ρ' : Rho} {H H' : Hp} (t : Mv ρ H ρ' H') {a : Addr} {xs : List V} (h : TupAt K ρ H a xs) : TupAt K ρ' H' a xs :=
  h.imp (fun z => t.rd (fun ps e => by cases e) z.1 z.2) id
theorem LstAt.later {ρ ρ' : Rho} {H H' : Hp} (t : Mv ρ H ρ' H') {a : Addr} {xs : List V} (h : LstAt ρ H a xs) : LstAt ρ' H' a xs := t.at_ a _ h.1 h.2 fun ps e => by cases e
theorem FzAt.later {K : PySem.W.Frag} {ρ ρ' : Rho} {H H' : Hp} (t : Mv ρ H ρ' H') {a : Addr} {xs : List V} (h : FzAt K ρ H a xs) : FzAt K ρ' H' a xs :=
  h.imp (fun z => t.rd (fun ps e => by cases e) z.1 z.2) id

section
variable {K : PySem.W.Frag} {mg : Str → Option Value} {ρ ρ' : Rho} {H H' : Hp}
mutual
theorem RD.later (t : Mv ρ H ρ' H') : ∀ (d : D) (v : V), RD K mg ρ H d v → RD K mg ρ' H' d v
  | .non, _, h => h
  | .bl _, _, h => h
  | .int _, _, h => h
  | .str _, _, h => h
  | .ty _, _, h => h
  | .gl _, _, h => h
  | .ref n, _, h => by
    unfold RD at h ⊢
    obtain ⟨a, e, q⟩ := h
    exact ⟨a, e, t.ix _ _ q⟩
  | .tup ds, _, h => by
    unfold RD at h ⊢
    obtain ⟨a, xs, e, q, r⟩ := h
    exact ⟨a, xs, e, q.later t, RDs.later t ds xs r⟩
  | .fl ds, _, h => by
    unfold RD at h ⊢
    obtain ⟨a, xs, e, q, r⟩ := h
    exact ⟨a, xs, e, q.later t, RDs.later t ds xs r⟩
  | .fz ds, _, h => by
    unfold RD at h ⊢
    obtain ⟨a, xs, e, q, r⟩ := h
    exact ⟨a, xs, e, q.later t, RDs.later t ds xs r⟩
  | .ob c fs, _, h => by
    unfold RD at h ⊢
    obtain ⟨a, C, dx, ys, e, q, n, m, r⟩ := h
    have q' := t.at_ a _ q n (fun ps e => by cases e)
    exact ⟨a, C, dx, ys, e, q'.1, q'.2, m, RFs.later t fs ys r⟩
theorem RDs.later (t : Mv ρ H ρ' H') : ∀ (ds : List D) (vs : List V), RDs K mg ρ H ds vs → RDs K mg ρ' H' ds vs
  | [], _, h => h
  | d :: ds, _, h => by
    unfold RDs at h ⊢
    obtain ⟨v, r, e, h1, h2⟩ := h
    exact ⟨v, r, e, RD.later t d v h1, RDs.later t ds r h2⟩
theorem RFs.later (t : Mv ρ H ρ' H') : ∀ (ds : List (Str × D)) (vs : List (Str × V)), RFs K mg ρ H ds vs → RFs K mg ρ' H' ds vs
  | [], _, h => h
  | (f, d) :: ds, _, h => by
    unfold RFs at h ⊢
    obtain ⟨v, r, e, h1, h2⟩ := h
    exact ⟨v, r, e, RD.later t d v h1, RFs.later t ds r h2⟩
end
theorem RDs.nil_iff {vs : List V} : RDs K mg ρ H [] vs ↔ vs = [] := by unfold RDs; exact Iff.rfl
theorem RDs.cons_iff {d : D} {ds : List D} {vs : List V} : RDs K mg ρ H (d :: ds) vs ↔ ∃ v r, vs = v :: r ∧ RD K mg ρ H d v ∧ RDs K mg ρ H ds r := by
  constructor
  · intro h; unfold RDs at h; exact h
  · intro h; unfold RDs; exact h
theorem RDs.length : ∀ {ds : List D} {vs : List V}, RDs K mg ρ H ds vs → vs.length = ds.length
  | [], _, h => by rw [RDs.nil_iff.mp h]; rfl
  | d :: ds, _, h => by
    obtain ⟨v, r, rfl, _, h2⟩ := RDs.cons_iff.mp h
    rw [List.length_cons, List.length_cons, RDs.length h2]
theorem RDs.get : ∀ {ds : List D} {vs : List V} {i : Nat} {d : D}, RDs K mg ρ H ds vs → ds[i]? = some d → ∃ v, vs[i]? = some v ∧ RD K mg ρ H d v
  | [], _, _, _, _, e => by simp at e
  | d :: ds, _, i, d', h, e => by
    obtain ⟨v, r, rfl, h1, h2⟩ := RDs.cons_iff.mp h
    cases i with
    | zero => simp at e; subst e; exact ⟨v, rfl, h1⟩
    | succ i => simpa using RDs.get h2 (by simpa using e)
theorem RDs.get' : ∀ {ds : List D} {vs : List V} {i : Nat} {v : V}, RDs K mg ρ H ds vs → vs[i]? = some v → ∃ d, ds[i]? = some d ∧ RD K mg ρ H d v
  | [], _, _, _, h, e => by rw [RDs.nil_iff.mp h] at e; simp at e
  | d :: ds, _, i, v', h, e => by
    obtain ⟨v, r, rfl, h1, h2⟩ := RDs.cons_iff.mp h
    cases i with
    | zero => simp at e; subst e; exact ⟨d, rfl, h1⟩
    | succ i => simpa using RDs.get' h2 (by simpa using e)
theorem RDs.append : ∀ {ds es : List D} {vs us : List V}, RDs K mg ρ H ds vs → RDs K mg ρ H es us → RDs K mg ρ H (ds ++ es) (vs ++ us)
  | [], _, _, _, h, g => by rw [RDs.nil_iff.mp h]; exact g
  | d :: ds, es, _, us, h, g => by
    obtain ⟨v, r, rfl, h1, h2⟩ := RDs.cons_iff.mp h
    exact RDs.cons_iff.mpr ⟨v, r ++ us, rfl, h1, RDs.append h2 g⟩
theorem RDs.take : ∀ {ds : List D} {vs : List V} (n : Nat), RDs K mg ρ H ds vs → RDs K mg ρ H (ds.take n) (vs.take n)
  | _, _, 0, _ => by rw [List.take_zero, List.take_zero]; exact RDs.nil_iff.mpr rfl
  | [], _, _ + 1, h => by rw [RDs.nil_iff.mp h]; exact RDs.nil_iff.mpr rfl
  | d :: ds, _, n + 1, h => by
    obtain ⟨v, r, rfl, h1, h2⟩ := RDs.cons_iff.mp h
    exact RDs.cons_iff.mpr ⟨v, r.take n, rfl, h1, RDs.take n h2⟩
theorem RDs.drop : ∀ {ds : List D} {vs : List V} (n : Nat), RDs K mg ρ H ds vs → RDs K mg ρ H (ds.drop n) (vs.drop n)
  | _, _, 0, h => h
  | [], _, _ + 1, h => by rw [RDs.nil_iff.mp h]; exact RDs.nil_iff.mpr rfl
  | d :: ds, _, n + 1, h => by
    obtain ⟨v, r, rfl, h1, h2⟩ := RDs.cons_iff.mp h
    exact RDs.drop n h2
theorem RDs.set {d' : D} {v' : V} (g : RD K mg ρ H d' v') : ∀ {ds : List D} {vs : List V} (n : Nat), RDs K mg ρ H ds vs → RDs K mg ρ H (ds.set n d') (vs.set n v')
  | [], _, _, h => by rw [RDs.nil_iff.mp h]; exact RDs.nil_iff.mpr rfl
  | d :: ds, _, 0, h => by
    obtain ⟨v, r, rfl, h1, h2⟩ := RDs.cons_iff.mp h
    exact RDs.cons_iff.mpr ⟨v', r, rfl, g, h2⟩
  | d :: ds, _, n + 1, h => by
    obtain ⟨v, r, rfl, h1, h2⟩ := RDs.cons_iff.mp h
    exact RDs.cons_iff.mpr ⟨v, r.set n v', rfl, h1, RDs.set g n h2⟩
theorem RDs.reverse : ∀ {ds : List D} {vs : List V}, RDs K mg ρ H ds vs → RDs K mg ρ H ds.reverse vs.reverse
  | [], _, h => by rw [RDs.nil_iff.mp h]; exact RDs.nil_iff.mpr rfl
  | d :: ds, _, h => by
    obtain ⟨v, r, rfl, h1, h2⟩ := RDs.cons_iff.mp h
    rw [List.reverse_cons, List.reverse_cons]
    exact (RDs.reverse h2).append (RDs.cons_iff.mpr ⟨v, [], rfl, h1, RDs.nil_iff.mpr rfl⟩)
end

/-- a cell of the store -/
def RC (K : PySem.W.Frag) (mg : Str → Option Value) (ρ : Rho) (H : Hp) (a : Addr) : Cell → Prop
  | .lst ds => ∃ xs, H a = some (.lst xs) ∧ RDs K mg ρ H ds xs
  | .ins c fs => ∃ C dx ys, H a = some (.ins C dx ys) ∧ mg c = some (.ref C) ∧ RFs K mg ρ H fs ys
  | .dct kvs => ∃ ys : List (Key × V), H a = some (.dK ys) ∧ ys.map (·.1) = kvs.map (·.1) ∧ RDs K mg ρ H (kvs.map (·.2)) (ys.map (·.2))
structure RS (K : PySem.W.Frag) (mg : Str → Option Value) (T : List NdefX.NTab) (ρ : Rho) (S : Store) (H : Hp) : Prop where
  len : ρ.c.length = S.length
  nd : ρ.c.Nodup
  cell : ∀ (n : Nat) (c : Cell), S[n]? = some c → ∃ a, ρ.c[n]? = some a ∧ RC K mg ρ H a c
  tab : NdefX.TabsN T H
  ban : ∀ a, a ∈ ρ.t → a ∉ ρ.c ∧ ∃ xs, H a = some (.lst xs)
theorem RC.later {K : PySem.W.Frag} {mg : Str → Option Value} {ρ ρ' : Rho} {H H' : Hp} (t : Mv ρ H ρ' H') {a : Addr} (e : H' a = H a) : ∀ {c : Cell}, RC K mg ρ H a c → RC K mg ρ' H' a c
  | .lst ds, ⟨xs, h, r⟩ => ⟨xs, e.trans h, r.later t⟩
  | .ins c fs, ⟨C, dx, ys, h, m, r⟩ => ⟨C, dx, ys, e.trans h, m, r.later t⟩
  | .dct kvs, ⟨ys, h, m, r⟩ => ⟨ys, e.trans h, m, r.later t⟩
theorem RC.has {K : PySem.W.Frag} {mg : Str → Option Value} {ρ : Rho} {H : Hp} {a : Addr} : ∀ {c : Cell}, RC K mg ρ H a c → ∃ o, H a = some o ∧ ∀ ps, o ≠ .tbl ps
  | .lst ds, ⟨xs, h, r⟩ => ⟨_, h, fun ps e => by cases e⟩
  | .ins c fs, ⟨C, dx, ys, h, m, r⟩ => ⟨_, h, fun ps e => by cases e⟩
  | .dct kvs, ⟨ys, h, m, r⟩ => ⟨_, h, fun ps e => by cases e⟩
section
variable {K : PySem.W.Frag} {mg : Str → Option Value} {T : List NdefX.NTab} {ρ : Rho} {S : Store} {H : Hp}
theorem RS.there (R : RS K mg T ρ S H) {a : Addr} (h : a ∈ ρ.c) : ∃ o, H a = some o ∧ ∀ ps, o ≠ .tbl ps := by
  obtain ⟨n, hn⟩ := List.mem_iff_getElem?.mp h
  have hl : n < S.length := by rw [← R.len]; exact (List.getElem?_eq_some_iff.mp hn).1
  obtain ⟨b, hb, c⟩ := R.cell n _ (List.getElem?_eq_getElem hl)
  rw [hn] at hb
  cases hb
  exact c.has
theorem RS.off (R : RS K mg T ρ S H) {p : Addr} (h : H p = none) : p ∉ ρ.c := fun m => by
  obtain ⟨o, e, _⟩ := R.there m
  rw [h] at e; cases e
theorem RS.offs (R : RS K mg T ρ S H) {p : Addr} (h : H p = none) : ρ.off p := ⟨R.off h, fun m => by
  obtain ⟨_, o, e⟩ := R.ban p m
  exact some_none e h⟩
theorem ban_upd {p : Addr} {o : HO} (h : ∀ a, a ∈ ρ.t → a ∉ ρ.c ∧ ∃ xs, H a = some (.lst xs)) (hp : p ∉ ρ.t) : ∀ a, a ∈ ρ.t → a ∉ ρ.c ∧ ∃ xs, upd H p o a = some (.lst xs) := fun a m => by
  refine ⟨(h a m).1, ?_⟩
  rw [upd_ne (fun z => hp (by rw [← z]; exact m))]
  exact (h a m).2
theorem ban_updL {p : Addr} {xs : List V} (h : ∀ a, a ∈ ρ.t → a ∉ ρ.c ∧ ∃ xs, H a = some (.lst xs)) : ∀ a, a ∈ ρ.t → a ∉ ρ.c ∧ ∃ ys, upd H p (.lst xs) a = some (.lst ys) := fun a m => by
  refine ⟨(h a m).1, ?_⟩
  by_cases e : a = p
  · subst e; exact ⟨xs, upd_same⟩
  · rw [upd_ne e]; exact (h a m).2
theorem tabs_upd {p : Addr} {o : HO} (h : NdefX.TabsN T H) (hp : ∀ ps, H p ≠ some (.tbl ps)) (hc : ∀ q, H p ≠ some (LamX.CodeO p q)) : NdefX.TabsN T (upd H p o) := fun q hq => by
  obtain ⟨ps, e1, e2, e3⟩ := h q hq
  refine ⟨ps, by rw [upd_ne (fun z : q.1 = p => hp ps (by rw [← z]; exact e1))]; exact e1, e2, fun pos cv hcv => ?_⟩
  obtain ⟨c, e4, e5⟩ := e3 pos cv hcv
  refine ⟨c, e4, ?_⟩
  rw [upd_ne (fun z : c = p => hc _ (by rw [← z]; exact e5))]
  exact e5
/-- a thing that is none of the store's is laid -/
theorem RS.laid (R : RS K mg T ρ S H) {p : Addr} {o : HO} (hp : H p = none) : RS K mg T ρ S (upd H p o) :=
  ⟨R.len, R.nd, fun n c e => by
    obtain ⟨a, ha, hc⟩ := R.cell n c e
    obtain ⟨u, hu, _⟩ := hc.has
    exact ⟨a, ha, hc.later (Aft.laid hp).mv (upd_ne (ne_of_none hu hp))⟩, tabs_upd R.tab (fun ps e => by rw [hp] at e; cases e) (fun q e => by rw [hp] at e; cases e), ban_upd R.ban (R.offs hp).2⟩
/-- .. one that is the store's newest -/
theorem RS.push (R : RS K mg T ρ S H) {p : Addr} {o : HO} {c : Cell} (hp : H p = none) (hc : RC K mg (ρ.push p) (upd H p o) p c) : RS K mg T (ρ.push p) (S ++ [c]) (upd H p o) where
  len := by simp [R.len]
  nd := by
    rw [List.nodup_append]
    exact ⟨R.nd, by simp, fun a ha b hb e => by rw [List.mem_singleton] at hb; subst hb; subst e; exact R.off hp ha⟩
  cell := fun n c' e => by
    by_cases hn : n < S.length
    · rw [List.getElem?_append_left hn] at e
      obtain ⟨a, ha, h⟩ := R.cell n c' e
      obtain ⟨u, hu, _⟩ := h.has
      refine ⟨a, by rw [List.getElem?_append_left (by rw [R.len]; exact hn)]; exact ha, h.later (Aft.push hp).mv (upd_ne (ne_of_none hu hp))⟩
    · rw [List.getElem?_append_right (by omega)] at e
      have h0 : n - S.length = 0 := by
        have := (List.getElem?_eq_some_iff.mp e).1
        simp at this
        omega
      rw [h0] at e
      simp at e
      subst e
      refine ⟨p, ?_, hc⟩
      rw [List.getElem?_append_right (by rw [R.len]; omega), R.len, h0]
      rfl
  tab := tabs_upd R.tab (fun ps e => by rw [hp] at e; cases e) (fun q e => by rw [hp] at e; cases e)
  ban := fun a m => by
    have q := ban_upd (p := p) (o := o) R.ban (R.offs hp).2 a m
    refine ⟨fun z => ?_, q.2⟩
    rcases List.mem_append.mp z with z | z
    · exact q.1 z
    · obtain ⟨u, e⟩ := (R.ban a m).2
      rw [List.mem_singleton.mp z] at e
      exact some_none e hp
theorem codeO_nelst {c : Addr} {q : Str} {xs : List V} : (HO.lst xs) ≠ LamX.CodeO c q := fun z => by unfold LamX.CodeO at z; cases z
theorem codeO_neins {c : Addr} {q : Str} {C dx : Addr} {xs : List (Str × V)} : (HO.ins C dx xs) ≠ LamX.CodeO c q := fun z => by unfold LamX.CodeO at z; cases z
theorem codeO_nedk {c : Addr} {q : Str} {xs : List (Key × V)} : (HO.dK xs) ≠ LamX.CodeO c q := fun z => by unfold LamX.CodeO at z; cases z
theorem RC.notCode {a : Addr} {q : Str} : ∀ {c : Cell}, RC K mg ρ H a c → H a ≠ some (LamX.CodeO a q)
  | .lst ds, ⟨xs, h, r⟩ => fun e => by rw [h] at e; exact codeO_nelst (Option.some.inj e)
  | .ins c fs, ⟨C, dx, ys, h, m, r⟩ => fun e => by rw [h] at e; exact codeO_neins (Option.some.inj e)
  | .dct kvs, ⟨ys, h, m, r⟩ => fun e => by rw [h] at e; exact codeO_nedk (Option.some.inj e)
/-- .. one of the store's is written -/
theorem RS.write (R : RS K mg T ρ S H) {n : Nat} {p : Addr} {o : HO} {c0 c : Cell} (h0 : S[n]? = some c0) (hp : ρ.c[n]? = some p) (hc : RC K mg ρ (upd H p o) p c) : RS K mg T ρ (S.set n c) (upd H p o) where
  len := by simp [R.len]
  nd := R.nd
  cell := fun m c' e => by
    by_cases hm : m = n
    · subst hm
      have hl := (List.getElem?_eq_some_iff.mp h0).1
      rw [List.getElem?_set_self hl] at e
      cases e
      exact ⟨p, hp, hc⟩
    · rw [List.getElem?_set_ne (Ne.symm hm)] at e
      obtain ⟨a, ha, h⟩ := R.cell m c' e
      have hne : a ≠ p := fun z => by
        subst z
        obtain ⟨h1, e1⟩ := List.getElem?_eq_some_iff.mp ha
        obtain ⟨h2, e2⟩ := List.getElem?_eq_some_iff.mp hp
        exact hm ((List.getElem_inj R.nd).mp (e1.trans e2.symm))
      obtain ⟨a0, ha0, hc0⟩ := R.cell n c0 h0
      rw [hp] at ha0
      cases ha0
      obtain ⟨u, hu, hut⟩ := hc0.has
      exact ⟨a, ha, h.later (Aft.write (List.mem_of_getElem? hp) hu hut).mv (upd_ne hne)⟩
  tab := by
    obtain ⟨a0, ha0, hc0⟩ := R.cell n c0 h0
    rw [hp] at ha0
    cases ha0
    obtain ⟨u, hu, hut⟩ := hc0.has
    refine tabs_upd R.tab (fun ps e => ?_) (fun q => hc0.notCode)
    rw [hu] at e
    exact hut ps (Option.some.inj e)
  ban := ban_upd R.ban (fun m => (R.ban p m).1 (List.mem_of_getElem? hp))
/-- a list that no datum leans on becomes the store's newest -/
theorem RS.adopt {p : Addr} (R : RS K mg T (ρ.ban p) S H) {ds : List D} {xs : List V} (hp : H p = some (.lst xs)) (np : ρ.off p) (r : RDs K mg (ρ.ban p) H ds xs) : RS K mg T (ρ.push p) (S ++ [.lst ds]) H where
  len := by
    have hl : ρ.c.length = S.length := R.len
    show (ρ.c ++ [p]).length = _
    simp only [List.length_append, List.length_singleton]
    omega
  nd := by
    show (ρ.c ++ [p]).Nodup
    rw [List.nodup_append]
    exact ⟨R.nd, by simp, fun a ha b hb e => by rw [List.mem_singleton] at hb; subst hb; subst e; exact np.1 ha⟩
  cell := fun n c' e => by
    by_cases hn : n < S.length
    · rw [List.getElem?_append_left hn] at e
      obtain ⟨a, ha, h⟩ := R.cell n c' e
      exact ⟨a, Mv.take.ix (H := H) n a ha, h.later Mv.take rfl⟩
    · rw [List.getElem?_append_right (by omega)] at e
      have h0 : n - S.length = 0 := by
        have := (List.getElem?_eq_some_iff.mp e).1
        simp at this
        omega
      rw [h0] at e
      simp at e
      subst e
      have hl : ρ.c.length = S.length := R.len
      refine ⟨p, ?_, xs, hp, r.later Mv.take⟩
      show (ρ.c ++ [p])[n]? = some p
      rw [List.getElem?_append_right (by omega), hl, h0]
      rfl
  tab := R.tab
  ban := fun a m => by
    have q := R.ban a (List.mem_cons_of_mem _ m)
    refine ⟨fun z => ?_, q.2⟩
    rcases List.mem_append.mp z with z | z
    · exact q.1 z
    · exact np.2 (by rw [← List.mem_singleton.mp z]; exact m)
/-- the store's data where what they lean on is there still -/
theorem RS.mv {ρ' : Rho} {H' : Hp} (R : RS K mg T ρ S H) (t : Mv ρ H ρ' H') (hc : ρ'.c = ρ.c) (hs : ∀ a, a ∈ ρ.c → H' a = H a) (tab : NdefX.TabsN T H') (ban : ∀ a, a ∈ ρ'.t → a ∉ ρ'.c ∧ ∃ xs, H' a = some (.lst xs)) : RS K mg T ρ' S H' :=
  ⟨by rw [hc]; exact R.len, by rw [hc]; exact R.nd, fun n c e => by
    obtain ⟨a, ha, h⟩ := R.cell n c e
    exact ⟨a, by rw [hc]; exact ha, h.later t (hs a (List.mem_of_getElem? ha))⟩, tab, ban⟩
end
end M3

set_option Elab.async false
set_option linter.all false
set_option maxRecDepth 100000
set_option maxHeartbeats 1000000
/-! M3B: frames, readings as monadic mirrors, the generic rules of expressions. -/
namespace M3
open PySem PySem.Spec L2

/-- a def within a def, a lambda: its text, the names that it captures -/
structure CloS where
  name : Str
  qual : Str
  params : Arguments
  body : FuncBody
  scope : Scope
  fr : List Str
/-- .. with its cells and its code object -/
structure FZ where
  z : CloS
  cl : List (Str × Addr)
  c : Addr
def FZ.fd (F : FZ) (doc pm ctv : Value) : FuncData := { name := F.z.name, qualname := F.z.qual, params := F.z.params, body := F.z.body, scope := F.z.scope, globals := mainGlobals, closure := F.cl, defaults := .none, kwdefaults := .none, doc := doc, pyModule := pm, annotations := none, code := .ref F.c, closureTuple := ctv, builtins := builtinsNs }
def FnZ (f : Addr) (F : FZ) : HO := .ext fun h => ∃ (od : Option Addr) (sl : Array (Option Value)) (doc pm ctv : Value), h.get? f = some (⟨.type "function", od, .func (F.fd doc pm ctv), sl⟩ : Obj)
theorem fnZ_ne {f : Addr} {F : FZ} (ps : Array Value) : FnZ f F ≠ .tbl ps := fun z => by
  unfold FnZ at z
  cases z
/-- what is fixed while a def runs -/
structure Fm where
  T : List NdefX.NTab
  C : Nat → List EV → Addr → Prop
  L : Nat → Addr → FZ
  W : WX
  r0 : Rho
  H0 : Hp

def RV (K : PySem.W.Frag) (mg : Str → Option Value) (F : Fm) (ρ : Rho) (H : Hp) : EV → V → Prop
  | .v d, v => RD K mg ρ H d v
  | .fn k ws, v => ∃ f, v = .ref f ∧ F.C k ws f
  | .fl k, v => ∃ f c, v = .ref f ∧ H f = some (FnZ f (F.L k c)) ∧ ρ.off f ∧ H c = some (LamX.CodeO c (F.L k c).z.qual) ∧ ρ.off c
def RSl (K : PySem.W.Frag) (mg : Str → Option Value) (F : Fm) (ρ : Rho) (H : Hp) : Option EV → Option V → Prop
  | none, _ => True
  | some e, some v => RV K mg F ρ H e v
  | some _, none => False
structure RE (K : PySem.W.Frag) (mg : Str → Option Value) (F : Fm) (ρ : Rho) (H : Hp) (env : Evs) (σ : St) : Prop where
  ent : Mv F.r0 F.H0 ρ H
  sl : Paired (RSl K mg F ρ H) env σ
section
variable (X : Cx) (F : Fm)
/-- an exception: its class, its fields, its object's class and own dict -/
def XR (ρ : Rho) (H : Hp) (c : Str) (fs : List (Str × D)) (cv : Value) (d : Option Addr) : Prop :=
  ∃ C, X.mg c = some (.ref C) ∧ cv = .ref C ∧ ((fs = [] ∧ d = none) ∨ ∃ dx ys, d = some dx ∧ H dx = some (.xd ys) ∧ ρ.off dx ∧ RFs X.K X.mg ρ H fs ys)
def OutE {α : Type} (σ : St) (ρ : Rho) (H : Hp) (r : Rz α) (P : α → Rho → Store → Hp → Prop) : Prop := match r with
  | .ok a S => ∀ ρ' H', Aft ρ H ρ' H' → RS X.K X.mg F.T ρ' S H' → P a ρ' S H'
  | .exc c fs S => ∀ ρ' H' cv d, Aft ρ H ρ' H' → RS X.K X.mg F.T ρ' S H' → XR X ρ' H' c fs cv d → F.W cv d σ H'
  | .bad => False
def rdE (m : EM) : TE := fun σ H Q => ∃ env S ρ, RE X.K X.mg F ρ H env σ ∧ RS X.K X.mg F.T ρ S H ∧ OutE X F σ ρ H (m env S) fun a ρ' _ H' => ∀ v, RD X.K X.mg ρ' H' a v → Q v H'
def rdT (m : TM) : TT := fun σ H Q => ∃ env S ρ, RE X.K X.mg F ρ H env σ ∧ RS X.K X.mg F.T ρ S H ∧ OutE X F σ ρ H (m env S) fun a _ _ H' => Q a H'
def rdA (m : AM) : TA := fun σ H Q => ∃ env S ρ, RE X.K X.mg F ρ H env σ ∧ RS X.K X.mg F.T ρ S H ∧ OutE X F σ ρ H (m env S) fun a ρ' _ H' => ∀ vs, RDs X.K X.mg ρ' H' a vs → Q vs H'
def OutS (ρ : Rho) (H : Hp) (r : So) (D : Ends) : Prop := match r with
  | .nx e S => ∀ ρ' H' σ, Aft ρ H ρ' H' → RS X.K X.mg F.T ρ' S H' → RE X.K X.mg F ρ' H' e σ → D.nx σ H'
  | .bk e S => ∀ ρ' H' σ, Aft ρ H ρ' H' → RS X.K X.mg F.T ρ' S H' → RE X.K X.mg F ρ' H' e σ → D.bk σ H'
  | .ct e S => ∀ ρ' H' σ, Aft ρ H ρ' H' → RS X.K X.mg F.T ρ' S H' → RE X.K X.mg F ρ' H' e σ → D.ct σ H'
  | .ret a S => ∀ ρ' H' v, Aft ρ H ρ' H' → RS X.K X.mg F.T ρ' S H' → RD X.K X.mg ρ' H' a v → D.rt v H'
  | .exc c fs e S => ∀ ρ' H' σ cv d, Aft ρ H ρ' H' → RS X.K X.mg F.T ρ' S H' → RE X.K X.mg F ρ' H' e σ → XR X ρ' H' c fs cv d → F.W cv d σ H'
  | .bad => False
def rdS (m : SM) : TS := fun D σ H => ∃ env S ρ, RE X.K X.mg F ρ H env σ ∧ RS X.K X.mg F.T ρ S H ∧ OutS X F ρ H (m env S) D
end

section
variable {X : Cx} {F : Fm} {ρ ρ' : Rho} {H H' : Hp} {S : Store} {σ : St} {env : Evs}
theorem RV.later (t : Mv ρ H ρ' H') : ∀ {e : EV} {v : V}, RV X.K X.mg F ρ H e v → RV X.K X.mg F ρ' H' e v
  | .v d, v, h => RD.later t d v h
  | .fn k ws, v, h => h
  | .fl k, v, ⟨f, c, e, h1, h2, h3, h4⟩ => by
    have a1 := t.at_ _ _ h1 h2 (fun ps e => fnZ_ne ps e)
    have a2 := t.at_ _ _ h3 h4 (fun ps e => by unfold LamX.CodeO at e; cases e)
    exact ⟨f, c, e, a1.1, a1.2, a2.1, a2.2⟩
theorem RSl.later (t : Mv ρ H ρ' H') : ∀ {e : Option EV} {v : Option V}, RSl X.K X.mg F ρ H e v → RSl X.K X.mg F ρ' H' e v
  | none, _, _ => True.intro
  | some _, some _, h => RV.later t h
theorem RE.mv (t : Mv ρ H ρ' H') (h : RE X.K X.mg F ρ H env σ) : RE X.K X.mg F ρ' H' env σ := ⟨h.ent.trans t, Paired.mapP h.sl fun _ _ z => RSl.later t z⟩
theorem RE.later (t : Aft ρ H ρ' H') (h : RE X.K X.mg F ρ H env σ) : RE X.K X.mg F ρ' H' env σ := h.mv t.mv
theorem Paired.get {α β : Type} {G : α → β → Prop} : ∀ {l₁ : List α} {l₂ : List β} {i : Nat} {a : α}, Paired G l₁ l₂ → l₁[i]? = some a → ∃ b, l₂[i]? = some b ∧ G a b
  | _, _, _, _, .nil, e => by simp at e
  | _, _, 0, _, .cons r _, e => by simp at e; subst e; exact ⟨_, rfl, r⟩
  | _, _, i + 1, _, .cons _ t, e => by simpa using Paired.get (i := i) t (by simpa using e)
theorem Paired.set {α β : Type} {G : α → β → Prop} {a : α} {b : β} (g : G a b) : ∀ {l₁ : List α} {l₂ : List β} (i : Nat), Paired G l₁ l₂ → Paired G (l₁.set i a) (l₂.set i b)
  | _, _, _, .nil => .nil
  | _, _, 0, .cons _ t => .cons g t
  | _, _, i + 1, .cons r t => .cons r (Paired.set g i t)
theorem Paired.len {α β : Type} {G : α → β → Prop} : ∀ {l₁ : List α} {l₂ : List β}, Paired G l₁ l₂ → l₁.length = l₂.length
  | _, _, .nil => rfl
  | _, _, .cons _ t => by rw [List.length_cons, List.length_cons, Paired.len t]
theorem RE.set (h : RE X.K X.mg F ρ H env σ) {e : EV} {v : V} (r : RV X.K X.mg F ρ H e v) (i : Nat) : RE X.K X.mg F ρ H (env.set i (some e)) (σ.set i (some v)) := ⟨h.ent, Paired.set (G := RSl X.K X.mg F ρ H) (a := some e) (b := some v) r i h.sl⟩
theorem RE.wipe1 (h : RE X.K X.mg F ρ H env σ) (i : Nat) {o : Option V} : RE X.K X.mg F ρ H (env.set i none) (σ.set i o) := ⟨h.ent, Paired.set (G := RSl X.K X.mg F ρ H) (a := none) (b := o) True.intro i h.sl⟩
theorem OutE.later {α : Type} {r : Rz α} {P : α → Rho → Store → Hp → Prop} (t : Aft ρ H ρ' H') (o : OutE X F σ ρ H r P) : OutE X F σ ρ' H' r P := by
  cases r with
  | ok a S => exact fun ρ2 H2 t2 r2 => o ρ2 H2 (t.trans t2) r2
  | exc c fs S => exact fun ρ2 H2 cv d t2 r2 x2 => o ρ2 H2 cv d (t.trans t2) r2 x2
  | bad => exact o
theorem OutE.imp {α : Type} {r : Rz α} {P P' : α → Rho → Store → Hp → Prop} (o : OutE X F σ ρ H r P) (h : ∀ a ρ' S H', Aft ρ H ρ' H' → RS X.K X.mg F.T ρ' S H' → P a ρ' S H' → P' a ρ' S H') : OutE X F σ ρ H r P' := by
  cases r with
  | ok a S => exact fun ρ2 H2 t2 r2 => h a ρ2 S H2 t2 r2 (o ρ2 H2 t2 r2)
  | exc c fs S => exact o
  | bad => exact o
theorem OutE.bind {α β : Type} {r : Rz α} {f : α → Store → Rz β} {P : β → Rho → Store → Hp → Prop} (o : OutE X F σ ρ H (r.bind f) P) : OutE X F σ ρ H r fun a ρ' S' H' => OutE X F σ ρ' H' (f a S') P := by
  cases r with
  | ok a S => exact fun ρ2 H2 t2 r2 => OutE.later t2 o
  | exc c fs S => exact o
  | bad => exact o
theorem OutS.later {r : So} {D : Ends} (t : Aft ρ H ρ' H') (o : OutS X F ρ H r D) : OutS X F ρ' H' r D := by
  cases r with
  | nx e S => exact fun ρ2 H2 s t2 => o ρ2 H2 s (t.trans t2)
  | bk e S => exact fun ρ2 H2 s t2 => o ρ2 H2 s (t.trans t2)
  | ct e S => exact fun ρ2 H2 s t2 => o ρ2 H2 s (t.trans t2)
  | ret a S => exact fun ρ2 H2 v t2 => o ρ2 H2 v (t.trans t2)
  | exc c fs e S => exact fun ρ2 H2 s cv d t2 => o ρ2 H2 s cv d (t.trans t2)
  | bad => exact o
/-- another end -/
theorem PE.imp {e : Expr} {t t' : TE} (h : PE X e t) (i : ∀ σ H Q, t' σ H Q → t σ H Q) : PE X e t' := ⟨fun pins s σ H Q I q => h.run pins s σ H Q I (i σ H Q q)⟩
theorem PT.imp {e : Expr} {t t' : TT} (h : PT X e t) (i : ∀ σ H Q, t' σ H Q → t σ H Q) : PT X e t' := ⟨fun pins s σ H Q I q => h.run pins s σ H Q I (i σ H Q q)⟩
theorem PW.imp {e : Expr} {t t' : TT} (h : PW X e t) (i : ∀ σ H Q, t' σ H Q → t σ H Q) : PW X e t' := ⟨fun wh pins s σ H Q I q => h.run wh pins s σ H Q I (i σ H Q q)⟩
theorem PA.imp {e : List Expr} {t t' : TA} (h : PA X e t) (i : ∀ σ H Q, t' σ H Q → t σ H Q) : PA X e t' := ⟨fun pos pins s σ H Q I q => h.run pos pins s σ H Q I (i σ H Q q)⟩
theorem PS.imp {e : Stmt} {t t' : TS} (h : PS X e t) (i : ∀ D σ H, t' D σ H → t D σ H) : PS X e t' := ⟨fun pins s σ H D I q => h.run pins s σ H D I (i D σ H q)⟩
theorem PSs.imp {e : List Stmt} {t t' : TS} (h : PSs X e t) (i : ∀ D σ H, t' D σ H → t D σ H) : PSs X e t' := ⟨fun pins s σ H D I q => h.run pins s σ H D I (i D σ H q)⟩
end

/-! ### fresh results -/
/-- what an operation gives: a datum; a new list; a new tuple -/
inductive Gv where
  | d (x : D) | l (ds : List D) | t (ds : List D)
/-- a new list as a datum that stays (al = false), as a thing of the store (al = true) -/
def Gv.fin (al : Bool) (g : Option Gv) (S : Store) : Rz D := match g with
  | none => .bad
  | some (.d x) => .ok x S
  | some (.t ds) => if ds.length ≤ 16777216 then .ok (.tup ds) S else .bad
  | some (.l ds) => if ds.length ≤ 16777216 then (match al with
    | true => .ok (.ref S.length) (S ++ [.lst ds])
    | false => .ok (.fl ds) S) else .bad
/-- the same, told of the abstract heap -/
def GvOk (X : Cx) (ρ : Rho) (H : Hp) (g : Option Gv) (Q : VK) : Prop := match g with
  | none => False
  | some (.d x) => ∀ v, RD X.K X.mg ρ H x v → Q v H
  | some (.t ds) => ds.length ≤ sizeLine ∧ ∀ p xs, H p = none → RDs X.K X.mg ρ H ds xs → Q (.ref p) (upd H p (.tup xs))
  | some (.l ds) => ds.length ≤ sizeLine ∧ ∀ p xs, H p = none → RDs X.K X.mg ρ H ds xs → Q (.ref p) (upd H p (.lst xs))
section
variable {X : Cx} {F : Fm} {ρ : Rho} {H : Hp} {S : Store} {σ : St}
theorem GvOk.of {al : Bool} {g : Option Gv} {Q : VK} (R : RS X.K X.mg F.T ρ S H) (o : OutE X F σ ρ H (Gv.fin al g S) fun a ρ' _ H' => ∀ v, RD X.K X.mg ρ' H' a v → Q v H') : GvOk X ρ H g Q := by
  have hl : sizeLine = 16777216 := sizeLine_eq
  cases g with
  | none => exact o
  | some g =>
    cases g with
    | d x => exact o ρ H Aft.refl R
    | t ds =>
      unfold Gv.fin at o
      dsimp only at o
      split at o
      · rename_i hz
        refine ⟨by omega, fun p xs hp r => ?_⟩
        have t : Aft ρ H ρ (upd H p (.tup xs)) := Aft.laid hp
        refine o ρ _ t (R.laid hp) (.ref p) ?_
        unfold RD
        exact ⟨p, xs, rfl, .inl ⟨.inl upd_same, R.offs hp⟩, r.later t.mv⟩
      · exact o.elim
    | l ds =>
      unfold Gv.fin at o
      dsimp only at o
      split at o
      · rename_i hz
        refine ⟨by omega, fun p xs hp r => ?_⟩
        cases al with
        | false =>
          have t : Aft ρ H ρ (upd H p (.lst xs)) := Aft.laid hp
          refine o ρ _ t (R.laid hp) (.ref p) ?_
          unfold RD
          exact ⟨p, xs, rfl, ⟨upd_same, R.offs hp⟩, r.later t.mv⟩
        | true =>
          have t : Aft ρ H (ρ.push p) (upd H p (.lst xs)) := Aft.push hp
          refine o (ρ.push p) _ t (R.push hp ⟨xs, upd_same, r.later t.mv⟩) (.ref p) ?_
          unfold RD
          refine ⟨p, rfl, ?_⟩
          show (ρ.c ++ [p])[S.length]? = some p
          rw [List.getElem?_append_right (by rw [R.len]; exact Nat.le_refl _), R.len, Nat.sub_self]
          rfl
      · exact o.elim
end

/-! ### names, constants -/
def mVar (i : Nat) : EM := fun env S => match env[i]? with
  | some (some (.v d)) => .ok d S
  | _ => .bad
def mC (d : D) : EM := fun _ S => .ok d S
section
variable {X : Cx} {F : Fm} {a b c : Expr} {ma mb mc : EM} {pos : Pos}
theorem e_var {i : Nat} {x : Str} (hp : PE X (.Name x pos) (tVar i)) : PE X (.Name x pos) (rdE X F (mVar i)) := by
  refine PE.imp hp fun σ H Q ⟨env, S, ρ, re, rs, o⟩ => ?_
  unfold mVar at o
  split at o
  · rename_i d e
    obtain ⟨u, hu, r⟩ := Paired.get re.sl e
    cases u with
    | none => exact r.elim
    | some v => exact ⟨v, hu, o ρ H Aft.refl rs v r⟩
  · exact o.elim
theorem e_c {e : Expr} {v : V} {d : D} (hp : PE X e (tC v)) (r : ∀ ρ H, RD X.K X.mg ρ H d v) : PE X e (rdE X F (mC d)) :=
  PE.imp hp fun σ H Q ⟨env, S, ρ, re, rs, o⟩ => o ρ H Aft.refl rs v (r ρ H)
theorem e_int {i : Int} {j : Nat} : PE X (.Constant (.int i) j pos) (rdE X F (mC (.int i))) := e_c pe_int fun _ _ => by unfold RD; rfl
theorem e_bl {b : Bool} {j : Nat} : PE X (.Constant (.bool b) j pos) (rdE X F (mC (.bl b))) := e_c pe_bl fun _ _ => by unfold RD; rfl
theorem e_non {j : Nat} : PE X (.Constant .none j pos) (rdE X F (mC .non)) := e_c pe_non fun _ _ => by unfold RD; rfl
theorem e_str {x : Str} {j : Nat} : PE X (.Constant (.str x) j pos) (rdE X F (mC (.str x))) := e_c pe_str fun _ _ => by unfold RD; rfl

/-! ### operators -/
/-- an operation by values agrees with one on data -/
def OpM (X : Cx) (r : R2) (g : Store → D → D → Option Gv) : Prop := ∀ (T : List NdefX.NTab) (ρ : Rho) (S : Store) (H : Hp) (x y : D) (v u : V) (Q : VK), RS X.K X.mg T ρ S H → RD X.K X.mg ρ H x v → RD X.K X.mg ρ H y u → GvOk X ρ H (g S x y) Q → r v u H Q
def mBin (al : Bool) (g : Store → D → D → Option Gv) (ma mb : EM) : EM := fun env S => (ma env S).bind fun x S1 => (mb env S1).bind fun y S2 => Gv.fin al (g S2 x y) S2
theorem rd_bin {r : R2} {g : Store → D → D → Option Gv} {al : Bool} (ho : OpM X r g) {σ : St} {H : Hp} {Q : VK} (h : rdE X F (mBin al g ma mb) σ H Q) : tOp r (rdE X F ma) (rdE X F mb) σ H Q := by
  obtain ⟨env, S, ρ, re, rs, o⟩ := h
  refine ⟨env, S, ρ, re, rs, (OutE.bind o).imp fun x ρ1 S1 H1 t1 R1 o1 v hv => ?_⟩
  refine ⟨env, S1, ρ1, re.later t1, R1, (OutE.bind o1).imp fun y ρ2 S2 H2 t2 R2 o2 u hu => ?_⟩
  exact ho F.T ρ2 S2 H2 x y v u Q R2 (hv.later t2.mv) hu (GvOk.of R2 o2)
theorem e_bin {op : Operator} {r : R2} {g : Store → D → D → Option Gv} (al : Bool) (hr : OpR X (binaryOp op) r) (ho : OpM X r g) (ha : PE X a (rdE X F ma)) (hb : PE X b (rdE X F mb)) : PE X (.BinOp a op b pos) (rdE X F (mBin al g ma mb)) :=
  PE.imp (pe_op hr ha hb) fun _ _ _ h => rd_bin ho h
/-- a comparison's mark -/
theorem e_cmp {op : CmpOp} {r : R2} {g : Store → D → D → Option Gv} (hr : OpR X (compareOp op) r) (ho : OpM X r g) (ha : PE X a (rdE X F ma)) (hb : PE X b (rdE X F mb)) (hm : behindInMarks op b = false) : PE X (.Compare a [op] [b] pos) (rdE X F (mBin false g ma mb)) :=
  PE.imp (pe_cmpR hr ha hb hm) fun _ _ _ h => rd_bin ho h
/-- a bool out of a datum -/
def asB : D → Store → Rz Bool := fun d S => match d with
  | .bl b => .ok b S
  | _ => .bad
def mB (m : EM) : TM := fun env S => (m env S).bind asB
theorem rd_test {m : EM} {σ : St} {H : Hp} {Q : Bool → Hp → Prop} {t : TE} (hi : ∀ σ H Q, rdE X F m σ H Q → t σ H Q) (h : rdT X F (mB m) σ H Q) : tTest t σ H Q := by
  obtain ⟨env, S, ρ, re, rs, o⟩ := h
  refine hi _ _ _ ⟨env, S, ρ, re, rs, (OutE.bind o).imp fun x ρ1 S1 H1 t1 R1 o1 v hv => ?_⟩
  unfold asB at o1
  split at o1
  · rename_i b
    unfold RD at hv
    exact ⟨b, hv, o1 ρ1 H1 Aft.refl R1⟩
  · exact o1.elim
theorem t_cmp {op : CmpOp} {r : R2} {g : Store → D → D → Option Gv} (hr : OpR X (compareOp op) r) (ho : OpM X r g) (ha : PE X a (rdE X F ma)) (hb : PE X b (rdE X F mb)) (hm : behindInMarks op b = false) : PT X (.Compare a [op] [b] pos) (rdT X F (mB (mBin false g ma mb))) :=
  PT.imp (pt_cmpR hr ha hb hm) fun _ _ _ h => rd_test (fun _ _ _ h => rd_bin ho h) h
/-- a op1 b op2 c -/
def mChain (g g' : Store → D → D → Option Gv) (ma mb mc : EM) : EM := fun env S => (ma env S).bind fun x S1 => (mb env S1).bind fun y S2 => (Gv.fin false (g S2 x y) S2).bind fun k S3 => (asB k S3).bind fun k S3 => match k with
  | true => (mc env S3).bind fun z S4 => Gv.fin false (g' S4 y z) S4
  | false => .ok (.bl false) S3
theorem rd_chain {r r' : R2} {g g' : Store → D → D → Option Gv} (ho : OpM X r g) (ho' : OpM X r' g') {σ : St} {H : Hp} {Q : VK} (h : rdE X F (mChain g g' ma mb mc) σ H Q) : tChain r r' (rdE X F ma) (rdE X F mb) (rdE X F mc) σ H Q := by
  obtain ⟨env, S, ρ, re, rs, o⟩ := h
  refine ⟨env, S, ρ, re, rs, (OutE.bind o).imp fun x ρ1 S1 H1 t1 R1 o1 v hv => ?_⟩
  refine ⟨env, S1, ρ1, re.later t1, R1, (OutE.bind o1).imp fun y ρ2 S2 H2 t2 R2 o2 u hu => ?_⟩
  refine ho F.T ρ2 S2 H2 x y v u _ R2 (hv.later t2.mv) hu (GvOk.of (al := false) (F := F) (σ := σ) R2 ((OutE.bind o2).imp fun k ρ3 S3 H3 t3 R3 o3 w hw => ?_))
  have o4 := OutE.bind o3
  unfold asB at o4
  split at o4
  · rename_i kb
    unfold RD at hw
    refine ⟨kb, hw, ?_⟩
    have o5 := o4 ρ3 H3 Aft.refl R3
    cases kb with
    | true =>
      refine ⟨env, S3, ρ3, re.later (t1.trans (t2.trans t3)), R3, (OutE.bind o5).imp fun z ρ4 S4 H4 t4 R4 o6 w' hw' => ?_⟩
      exact ho' F.T ρ4 S4 H4 y z u w' _ R4 (hu.later (t3.trans t4).mv) hw' (GvOk.of R4 o6)
    | false => exact o5 ρ3 H3 Aft.refl R3 _ (by unfold RD; rfl)
  · exact o4.elim
theorem e_chain {op op' : CmpOp} {r r' : R2} {g g' : Store → D → D → Option Gv} (hr : OpR X (compareOp op) r) (hr' : OpR X (compareOp op') r') (ho : OpM X r g) (ho' : OpM X r' g') (ha : PE X a (rdE X F ma)) (hb : PE X b (rdE X F mb)) (hc : PE X c (rdE X F mc))
    (hm : lastMarks [op, op'] [b, c] = false := by with_unfolding_all rfl) : PE X (.Compare a [op, op'] [b, c] pos) (rdE X F (mChain g g' ma mb mc)) :=
  PE.imp (pe_chain hr hr' ha hb hc hm) fun _ _ _ h => rd_chain ho ho' h
theorem t_chain {op op' : CmpOp} {r r' : R2} {g g' : Store → D → D → Option Gv} (hr : OpR X (compareOp op) r) (hr' : OpR X (compareOp op') r') (ho : OpM X r g) (ho' : OpM X r' g') (ha : PE X a (rdE X F ma)) (hb : PE X b (rdE X F mb)) (hc : PE X c (rdE X F mc))
    (hm : lastMarks [op, op'] [b, c] = false := by with_unfolding_all rfl) : PT X (.Compare a [op, op'] [b, c] pos) (rdT X F (mB (mChain g g' ma mb mc))) :=
  PT.imp (pt_chain hr hr' ha hb hc hm) fun _ _ _ h => rd_test (fun _ _ _ h => rd_chain ho ho' h) h
/-! ### truth -/
/-- a datum's truth -/
def truD (S : Store) : D → Option Bool
  | .non => some false
  | .bl b => some b
  | .int i => some (i != 0)
  | .str y => if y.length ≤ 16777216 then some ((y.length : Int) != 0) else none
  | .tup ds => some (!ds.isEmpty)
  | .fl ds => some (!ds.isEmpty)
  | .fz ds => some (!ds.isEmpty)
  | .ref n => (match S[n]? with
    | some (.lst ds) => some (!ds.isEmpty)
    | _ => none)
  | _ => none
theorem empty_eq {K : PySem.W.Frag} {mg : Str → Option Value} {ρ : Rho} {H : Hp} {ds : List D} {vs : List V} (r : RDs K mg ρ H ds vs) : (!ds.isEmpty) = !vs.isEmpty := by
  have := r.length
  cases ds <;> cases vs <;> simp_all
theorem truD_ok {T : List NdefX.NTab} {ρ : Rho} {S : Store} {H : Hp} {d : D} {v : V} {k : Bool} (R : RS X.K X.mg T ρ S H) (r : RD X.K X.mg ρ H d v) (h : truD S d = some k) : TruV X.K v H k := by
  have hl : sizeLine = 16777216 := sizeLine_eq
  cases d with
  | non => unfold RD at r; subst r; cases h; rfl
  | bl b => unfold RD at r; subst r; cases h; rfl
  | int i => unfold RD at r; subst r; cases h; rfl
  | str y =>
    unfold RD at r; subst r
    have h : (if y.length ≤ 16777216 then some ((y.length : Int) != 0) else none) = some k := h
    split at h
    · cases h; exact ⟨by omega, rfl⟩
    · cases h
  | tup ds =>
    unfold RD at r
    obtain ⟨a, xs, rfl, q, rr⟩ := r
    cases h
    exact .inr (.inl ⟨xs, q.sq, empty_eq rr⟩)
  | fl ds =>
    unfold RD at r
    obtain ⟨a, xs, rfl, q, rr⟩ := r
    cases h
    exact .inl ⟨xs, q.sq, empty_eq rr⟩
  | fz ds =>
    unfold RD at r
    obtain ⟨a, xs, rfl, q, rr⟩ := r
    cases h
    exact .inl ⟨xs, q.sq, empty_eq rr⟩
  | ref n =>
    unfold RD at r
    obtain ⟨a, rfl, q⟩ := r
    have h : (match S[n]? with
      | some (.lst ds) => some (!ds.isEmpty)
      | _ => none) = some k := h
    split at h
    · rename_i ds e
      cases h
      obtain ⟨a', ha', xs, hx, rr⟩ := R.cell n _ e
      rw [q] at ha'; cases ha'
      exact .inl ⟨xs, .of hx, empty_eq rr⟩
    · cases h
  | ty _ => cases h
  | gl _ => cases h
  | ob _ _ => cases h
def asT : D → Store → Rz Bool := fun d S => match truD S d with
  | some b => .ok b S
  | none => .bad
def mT (m : EM) : TM := fun env S => (m env S).bind asT
theorem t_truth (ha : PE X a (rdE X F ma)) (he : ∀ whole, isTrue a X.env whole = (do let v ← whole; standAt a.pos; holding [v] (truthy v)) := by intro _; rfl) : PT X a (rdT X F (mT ma)) := by
  refine PT.imp (pt_truth ha he) fun σ H Q ⟨env, S, ρ, re, rs, o⟩ => ?_
  refine ⟨env, S, ρ, re, rs, (OutE.bind o).imp fun x ρ1 S1 H1 t1 R1 o1 v hv => ?_⟩
  unfold asT at o1
  split at o1
  · rename_i b hb
    exact ⟨b, truD_ok R1 hv hb, o1 ρ1 H1 Aft.refl R1⟩
  · exact o1.elim
def mAndT (t u : TM) : TM := fun env S => (t env S).bind fun k S1 => match k with
  | true => u env S1
  | false => .ok false S1
def mOrT (t u : TM) : TM := fun env S => (t env S).bind fun k S1 => match k with
  | true => .ok true S1
  | false => u env S1
def mNotT (t : TM) : TM := fun env S => (t env S).bind fun k S1 => .ok (!k) S1
variable {ta tb : TM} {rest : List Expr}
theorem t_and1 (ha : PT X a (rdT X F ta)) : PW X (.BoolOp .And [a] pos) (rdT X F ta) := pw_and1 ha
theorem t_or1 (ha : PT X a (rdT X F ta)) : PW X (.BoolOp .Or [a] pos) (rdT X F ta) := pw_or1 ha
theorem t_and (ha : PT X a (rdT X F ta)) (hb : PW X (.BoolOp .And (b :: rest) pos) (rdT X F tb)) : PW X (.BoolOp .And (a :: b :: rest) pos) (rdT X F (mAndT ta tb)) := by
  refine PW.imp (pw_and ha hb) fun σ H Q ⟨env, S, ρ, re, rs, o⟩ => ?_
  refine ⟨env, S, ρ, re, rs, (OutE.bind o).imp fun k ρ1 S1 H1 t1 R1 o1 => ?_⟩
  cases k with
  | true => rw [if_pos rfl]; exact ⟨env, S1, ρ1, re.later t1, R1, o1⟩
  | false => rw [if_neg (by decide)]; exact o1 ρ1 H1 Aft.refl R1
theorem t_or (ha : PT X a (rdT X F ta)) (hb : PW X (.BoolOp .Or (b :: rest) pos) (rdT X F tb)) : PW X (.BoolOp .Or (a :: b :: rest) pos) (rdT X F (mOrT ta tb)) := by
  refine PW.imp (pw_or ha hb) fun σ H Q ⟨env, S, ρ, re, rs, o⟩ => ?_
  refine ⟨env, S, ρ, re, rs, (OutE.bind o).imp fun k ρ1 S1 H1 t1 R1 o1 => ?_⟩
  cases k with
  | true => rw [if_pos rfl]; exact o1 ρ1 H1 Aft.refl R1
  | false => rw [if_neg (by decide)]; exact ⟨env, S1, ρ1, re.later t1, R1, o1⟩
theorem t_not (ha : PT X a (rdT X F ta)) : PT X (.UnaryOp .Not a pos) (rdT X F (mNotT ta)) := by
  refine PT.imp (pt_not ha) fun σ H Q ⟨env, S, ρ, re, rs, o⟩ => ?_
  exact ⟨env, S, ρ, re, rs, (OutE.bind o).imp fun k ρ1 S1 H1 t1 R1 o1 => o1 ρ1 H1 Aft.refl R1⟩
def mIf (t : TM) (ma mb : EM) : EM := fun env S => (t env S).bind fun k S1 => match k with
  | true => ma env S1
  | false => mb env S1
theorem e_if (hc : PT X c (rdT X F ta)) (ha : PE X a (rdE X F ma)) (hb : PE X b (rdE X F mb)) : PE X (.IfExp c a b pos) (rdE X F (mIf ta ma mb)) := by
  refine PE.imp (pe_ifExp hc ha hb) fun σ H Q ⟨env, S, ρ, re, rs, o⟩ => ?_
  refine ⟨env, S, ρ, re, rs, (OutE.bind o).imp fun k ρ1 S1 H1 t1 R1 o1 => ?_⟩
  cases k with
  | true => rw [if_pos rfl]; exact ⟨env, S1, ρ1, re.later t1, R1, o1⟩
  | false => rw [if_neg (by decide)]; exact ⟨env, S1, ρ1, re.later t1, R1, o1⟩
/-- and, or, not as values, of bools -/
def mAnd (ma mb : EM) : EM := fun env S => (ma env S).bind fun x S1 => (asB x S1).bind fun k S1 => match k with
  | true => mb env S1
  | false => .ok (.bl false) S1
def mOr (ma mb : EM) : EM := fun env S => (ma env S).bind fun x S1 => (asB x S1).bind fun k S1 => match k with
  | true => .ok (.bl true) S1
  | false => mb env S1
def mNot (ma : EM) : EM := fun env S => (ma env S).bind fun x S1 => (asB x S1).bind fun k S1 => .ok (.bl (!k)) S1
theorem asB_out {α : Type} {σ : St} {ρ : Rho} {H : Hp} {S : Store} {x : D} {f : Bool → Store → Rz α} {P : α → Rho → Store → Hp → Prop} {v : V} (R : RS X.K X.mg F.T ρ S H) (hv : RD X.K X.mg ρ H x v) (o : OutE X F σ ρ H ((asB x S).bind f) P) : ∃ k, v = .bl k ∧ OutE X F σ ρ H (f k S) P := by
  cases x with
  | bl k => unfold RD at hv; exact ⟨k, hv, o⟩
  | _ => exact o.elim
theorem e_one {op : BoolOp} (h : PE X a (rdE X F ma)) : PE X (.BoolOp op [a] pos) (rdE X F ma) := pe_one h
theorem e_and (ha : PE X a (rdE X F ma)) (hb : PE X (.BoolOp .And (b :: rest) pos) (rdE X F mb)) : PE X (.BoolOp .And (a :: b :: rest) pos) (rdE X F (mAnd ma mb)) := by
  refine PE.imp (pe_and ha hb) fun σ H Q ⟨env, S, ρ, re, rs, o⟩ => ?_
  refine ⟨env, S, ρ, re, rs, (OutE.bind o).imp fun x ρ1 S1 H1 t1 R1 o1 v hv => ?_⟩
  obtain ⟨k, e, o2⟩ := asB_out R1 hv o1
  refine ⟨k, e, ?_⟩
  cases k with
  | true => rw [if_pos rfl]; exact ⟨env, S1, ρ1, re.later t1, R1, o2⟩
  | false => rw [if_neg (by decide)]; exact o2 ρ1 H1 Aft.refl R1 _ (by unfold RD; rfl)
theorem e_or (ha : PE X a (rdE X F ma)) (hb : PE X (.BoolOp .Or (b :: rest) pos) (rdE X F mb)) : PE X (.BoolOp .Or (a :: b :: rest) pos) (rdE X F (mOr ma mb)) := by
  refine PE.imp (pe_or ha hb) fun σ H Q ⟨env, S, ρ, re, rs, o⟩ => ?_
  refine ⟨env, S, ρ, re, rs, (OutE.bind o).imp fun x ρ1 S1 H1 t1 R1 o1 v hv => ?_⟩
  obtain ⟨k, e, o2⟩ := asB_out R1 hv o1
  refine ⟨k, e, ?_⟩
  cases k with
  | true => rw [if_pos rfl]; exact o2 ρ1 H1 Aft.refl R1 _ (by unfold RD; rfl)
  | false => rw [if_neg (by decide)]; exact ⟨env, S1, ρ1, re.later t1, R1, o2⟩
theorem e_not (ha : PE X a (rdE X F ma)) : PE X (.UnaryOp .Not a pos) (rdE X F (mNot ma)) := by
  refine PE.imp (pe_not ha) fun σ H Q ⟨env, S, ρ, re, rs, o⟩ => ?_
  refine ⟨env, S, ρ, re, rs, (OutE.bind o).imp fun x ρ1 S1 H1 t1 R1 o1 v hv => ?_⟩
  obtain ⟨k, e, o2⟩ := asB_out R1 hv o1
  exact ⟨k, e, o2 ρ1 H1 Aft.refl R1 _ (by unfold RD; rfl)⟩
/-! ### argument lists, displays -/
def mNil : AM := fun _ S => .ok [] S
def mCons (ma : EM) (mr : AM) : AM := fun env S => (ma env S).bind fun x S1 => (mr env S1).bind fun xs S2 => .ok (x :: xs) S2
variable {es : List Expr} {mr : AM}
theorem a_nil : PA X [] (rdA X F mNil) := PA.imp pa_nil fun σ H Q ⟨env, S, ρ, re, rs, o⟩ => o ρ H Aft.refl rs [] (RDs.nil_iff.mpr rfl)
theorem a_cons (ha : PE X a (rdE X F ma)) (hr : PA X es (rdA X F mr)) (hs : starEach (a :: es) X.env = (false, eval a X.env) :: starEach es X.env := by rfl) : PA X (a :: es) (rdA X F (mCons ma mr)) := by
  refine PA.imp (pa_cons ha hr hs) fun σ H Q ⟨env, S, ρ, re, rs, o⟩ => ?_
  refine ⟨env, S, ρ, re, rs, (OutE.bind o).imp fun x ρ1 S1 H1 t1 R1 o1 v hv => ?_⟩
  refine ⟨env, S1, ρ1, re.later t1, R1, (OutE.bind o1).imp fun xs ρ2 S2 H2 t2 R2 o2 vs hvs => ?_⟩
  exact o2 ρ2 H2 Aft.refl R2 _ (RDs.cons_iff.mpr ⟨v, vs, rfl, hv.later t2.mv, hvs⟩)
def mTup (m : AM) : EM := fun env S => (m env S).bind fun ds S1 => Gv.fin false (some (.t ds)) S1
def mLst (al : Bool) (m : AM) : EM := fun env S => (m env S).bind fun ds S1 => Gv.fin al (some (.l ds)) S1
theorem e_tup {x1 : Nat} (h : PA X es (rdA X F mr)) : PE X (.Tuple es x1 pos) (rdE X F (mTup mr)) := by
  refine PE.imp (pe_tup h) fun σ H Q ⟨env, S, ρ, re, rs, o⟩ => ?_
  refine ⟨env, S, ρ, re, rs, (OutE.bind o).imp fun ds ρ1 S1 H1 t1 R1 o1 vs hvs => ?_⟩
  obtain ⟨z, q⟩ := GvOk.of R1 o1
  exact ⟨by rw [hvs.length]; exact z, fun p hp => q p vs hp hvs⟩
theorem e_lst (al : Bool) (h : PA X es (rdA X F mr)) : PE X (.List es pos) (rdE X F (mLst al mr)) := by
  refine PE.imp (pe_lst h) fun σ H Q ⟨env, S, ρ, re, rs, o⟩ => ?_
  refine ⟨env, S, ρ, re, rs, (OutE.bind o).imp fun ds ρ1 S1 H1 t1 R1 o1 vs hvs => ?_⟩
  obtain ⟨z, q⟩ := GvOk.of R1 o1
  exact ⟨by rw [hvs.length]; exact z, fun p hp => q p vs hp hvs⟩
/-! ### built-ins by values -/
def ClM (X : Cx) (r : List V → Hp → VK → Prop) (g : Store → List D → Option Gv) : Prop := ∀ (T : List NdefX.NTab) (ρ : Rho) (S : Store) (H : Hp) (xs : List D) (vs : List V) (Q : VK), RS X.K X.mg T ρ S H → RDs X.K X.mg ρ H xs vs → GvOk X ρ H (g S xs) Q → r vs H Q
def mCB (al : Bool) (g : Store → List D → Option Gv) (m : AM) : EM := fun env S => (m env S).bind fun ds S1 => Gv.fin al (g S1 ds) S1
theorem rd_cb {r : List V → Hp → VK → Prop} {g : Store → List D → Option Gv} {al : Bool} (ho : ClM X r g) {σ : St} {H : Hp} {Q : VK} (h : rdE X F (mCB al g mr) σ H Q) : tCB r (rdA X F mr) σ H Q := by
  obtain ⟨env, S, ρ, re, rs, o⟩ := h
  exact ⟨env, S, ρ, re, rs, (OutE.bind o).imp fun ds ρ1 S1 H1 t1 R1 o1 vs hvs => ho F.T ρ1 S1 H1 ds vs Q R1 hvs (GvOk.of R1 o1)⟩
theorem e_callB {id : String} {x : Str} {p : Pos} {e : Expr} {r : List V → Hp → VK → Prop} {g : Store → List D → Option Gv} (al : Bool) (hc : CallR X (.builtin id) r) (ho : ClM X r g) (hg : Gl X x) (hm : X.mg x = none) (hv : bootBuiltins x = some (.builtin id)) (ha : PA X (e :: es) (rdA X F mr)) (hn : x ≠ "__name__" := by decide) (hdb : (x == ("__debug__" : Str)) = false := by decide)
    (he : starEach (e :: es) X.env = (false, eval e X.env) :: starEach es X.env := by rfl) (hpl : (backTo pos (starEach es X.env)).any (·.1) = false := by rfl) : PE X (.Call (.Name x p) (e :: es) [] pos) (rdE X F (mCB al g mr)) :=
  PE.imp (pe_callB hc hg hm hv ha hn hdb he hpl) fun _ _ _ h => rd_cb ho h
theorem e_callTy {ty : String} {x : Str} {p : Pos} {e : Expr} {r : List V → Hp → VK → Prop} {g : Store → List D → Option Gv} (al : Bool) (hc : CallR X (.type ty) r) (ho : ClM X r g) (hg : Gl X x) (hm : X.mg x = none) (hv : bootBuiltins x = some (.type ty)) (ha : PA X (e :: es) (rdA X F mr)) (hn : x ≠ "__name__" := by decide) (hdb : (x == ("__debug__" : Str)) = false := by decide)
    (he : starEach (e :: es) X.env = (false, eval e X.env) :: starEach es X.env := by rfl) (hpl : (backTo pos (starEach es X.env)).any (·.1) = false := by rfl) : PE X (.Call (.Name x p) (e :: es) [] pos) (rdE X F (mCB al g mr)) :=
  PE.imp (pe_callTy hc hg hm hv ha hn hdb he hpl) fun _ _ _ h => rd_cb ho h
end
end M3

set_option Elab.async false
set_option linter.all false
set_option maxRecDepth 100000
set_option maxHeartbeats 1000000
/-! M3C: statements, targets, what a for walks, comprehensions. -/
namespace M3
open PySem PySem.Spec L2

/-- what a body's rules lean on -/
structure FX (X : Cx) (F : Fm) (k : Nat) : Prop where
  calm : X.calm = true
  nd : X.N.Nodup
  tk : Takes X F.W
  po : PassesOwn (model X.prog X.w) X.A X.env X.xe
  room : Room k X.A
  gd : X.A.guards = some []
/-- no exception leaves -/
abbrev Fm.nox (F : Fm) : Fm := { F with W := fun _ _ _ _ => False }

section
variable {X : Cx} {F : Fm} {k : Nat} {ρ ρ' : Rho} {H H' : Hp} {S : Store} {σ : St} {env : Evs} {pos : Pos} {e : Expr} {m u : SM} {me : EM} {sm : Stmt} {rest : List Stmt}
/-! ### blocks and small statements -/
def mSeq (m u : SM) : SM := fun env S => match m env S with
  | .nx e S1 => u e S1
  | r => r
def mSkip : SM := fun env S => .nx env S
theorem ss_nil : PSs X [] (rdS X F mSkip) := PSs.imp pss_nil fun D σ H ⟨env, S, ρ, re, rs, o⟩ => o ρ H σ Aft.refl rs re
theorem ss_cons (h1 : PS X sm (rdS X F m)) (h2 : PSs X rest (rdS X F u)) : PSs X (sm :: rest) (rdS X F (mSeq m u)) := by
  refine PSs.imp (pss_cons h1 h2) fun D σ H ⟨env, S, ρ, re, rs, o⟩ => ⟨env, S, ρ, re, rs, ?_⟩
  unfold mSeq at o
  cases e : m env S with
  | nx e1 S1 => rw [e] at o; exact fun ρ' H' σ' t R re' => ⟨e1, S1, ρ', re', R, OutS.later t o⟩
  | ret d S1 => rw [e] at o; exact o
  | bk e1 S1 => rw [e] at o; exact o
  | ct e1 S1 => rw [e] at o; exact o
  | exc c fs e1 S1 => rw [e] at o; exact o
  | bad => rw [e] at o; exact o
theorem ss_one (h1 : PS X sm (rdS X F m)) : PSs X [sm] (rdS X F m) := pss_one h1
theorem s_pass : PS X (.Pass pos) (rdS X F mSkip) := PS.imp ps_pass fun D σ H ⟨env, S, ρ, re, rs, o⟩ => o ρ H σ Aft.refl rs re
def mBreak : SM := fun env S => .bk env S
def mCont : SM := fun env S => .ct env S
theorem s_break : PS X (.Break pos) (rdS X F mBreak) := PS.imp ps_break fun D σ H ⟨env, S, ρ, re, rs, o⟩ => o ρ H σ Aft.refl rs re
theorem s_cont : PS X (.Continue pos) (rdS X F mCont) := PS.imp ps_continue fun D σ H ⟨env, S, ρ, re, rs, o⟩ => o ρ H σ Aft.refl rs re
/-- code that the law never comes to -/
def mNever : SM := fun _ _ => .bad
theorem s_never : PS X sm (rdS X F mNever) := PS.imp ps_never fun D σ H ⟨env, S, ρ, re, rs, o⟩ => o
theorem ss_never {sts : List Stmt} : PSs X sts (rdS X F mNever) := PSs.imp pss_never fun D σ H ⟨env, S, ρ, re, rs, o⟩ => o
/-- an expression's end as a statement's -/
def Rz.st {α : Type} (r : Rz α) (env : Evs) (f : α → Store → So) : So := match r with
  | .ok a S => f a S
  | .exc c fs S => .exc c fs env S
  | .bad => .bad
@[simp] theorem Rz.st_ok {α : Type} (a : α) (S : Store) (env : Evs) (f : α → Store → So) : (Rz.ok a S).st env f = f a S := rfl
@[simp] theorem Rz.st_exc {α : Type} (c : Str) (fs : List (Str × D)) (S : Store) (env : Evs) (f : α → Store → So) : (Rz.exc c fs S : Rz α).st env f = .exc c fs env S := rfl
@[simp] theorem Rz.st_bad {α : Type} (env : Evs) (f : α → Store → So) : (Rz.bad : Rz α).st env f = .bad := rfl
theorem OutS.st {α : Type} {r : Rz α} {f : α → Store → So} {D : Ends} (re : RE X.K X.mg F ρ H env σ) (o : OutS X F ρ H (r.st env f) D) : OutE X F σ ρ H r fun a ρ' S' H' => OutS X F ρ' H' (f a S') D := by
  cases r with
  | ok a S => exact fun ρ2 H2 t2 r2 => OutS.later t2 o
  | exc c fs S => exact fun ρ2 H2 cv d t2 r2 x2 => o ρ2 H2 σ cv d t2 r2 (re.later t2) x2
  | bad => exact o
def mExpr (me : EM) : SM := fun env S => (me env S).st env fun _ S1 => .nx env S1
theorem s_expr (he : PE X e (rdE X F me)) (hs : swapsWith e none pos.line X.env = pure false := by rfl) : PS X (.Expr e pos) (rdS X F (mExpr me)) := by
  refine PS.imp (ps_expr he hs) fun D σ H ⟨env, S, ρ, re, rs, o⟩ => ?_
  exact ⟨env, S, ρ, re, rs, (OutS.st re o).imp fun a ρ1 S1 H1 t1 R1 o1 v hv => o1 ρ1 H1 σ Aft.refl R1 (re.later t1)⟩
def mRet (me : EM) : SM := fun env S => (me env S).st env fun d S1 => .ret d S1
theorem s_ret (he : PE X e (rdE X F me)) : PS X (.Return (some e) pos) (rdS X F (mRet me)) := by
  refine PS.imp (ps_ret he) fun D σ H ⟨env, S, ρ, re, rs, o⟩ => ?_
  exact ⟨env, S, ρ, re, rs, (OutS.st re o).imp fun a ρ1 S1 H1 t1 R1 o1 v hv => o1 ρ1 H1 v Aft.refl R1 hv⟩
def mRetN : SM := fun _ S => .ret .non S
theorem s_retN : PS X (.Return none pos) (rdS X F mRetN) := PS.imp ps_retN fun D σ H ⟨env, S, ρ, re, rs, o⟩ => o ρ H _ Aft.refl rs (by unfold RD; rfl)
def mIfS (t : TM) (m u : SM) : SM := fun env S => (t env S).st env fun b S1 => match b with
  | true => m env S1
  | false => u env S1
theorem s_if {c : Expr} {a b : List Stmt} {t : TM} (hc : PT X c (rdT X F t)) (ha : PSs X a (rdS X F m)) (hb : PSs X b (rdS X F u)) : PS X (.If c a b pos) (rdS X F (mIfS t m u)) := by
  refine PS.imp (ps_if hc ha hb) fun D σ H ⟨env, S, ρ, re, rs, o⟩ => ?_
  refine ⟨env, S, ρ, re, rs, (OutS.st re o).imp fun b ρ1 S1 H1 t1 R1 o1 => ?_⟩
  cases b with
  | true => rw [if_pos rfl]; exact ⟨env, S1, ρ1, re.later t1, R1, o1⟩
  | false => rw [if_neg (by decide)]; exact ⟨env, S1, ρ1, re.later t1, R1, o1⟩

/-! ### targets -/
abbrev GM := D → Evs → Store → Option (Evs × Store)
abbrev GsM := List D → Evs → Store → Option (Evs × Store)
def OutG (X : Cx) (F : Fm) (σ : St) (ρ : Rho) (H : Hp) (r : Option (Evs × Store)) (is : List Nat) (Q : St → Hp → Prop) : Prop := match r with
  | none => False
  | some p => ∀ ρ' H' σ', Aft ρ H ρ' H' → RS X.K X.mg F.T ρ' p.2 H' → RE X.K X.mg F ρ' H' p.1 σ' → (∀ vs, (∀ i ∈ is, i ∈ vs) → wipe σ' vs = wipe σ vs) → Q σ' H'
def RdG (X : Cx) (F : Fm) (g : GM) (is : List Nat) : TG := fun v σ H Q => ∃ d env S ρ, RE X.K X.mg F ρ H env σ ∧ RS X.K X.mg F.T ρ S H ∧ RD X.K X.mg ρ H d v ∧ OutG X F σ ρ H (g d env S) is Q
def RdGs (X : Cx) (F : Fm) (g : GsM) (is : List Nat) : TGs := fun vs σ H Q => ∃ ds env S ρ, RE X.K X.mg F ρ H env σ ∧ RS X.K X.mg F.T ρ S H ∧ RDs X.K X.mg ρ H ds vs ∧ OutG X F σ ρ H (g ds env S) is Q
theorem PG.imp {tg : Expr} {t t' : TG} (h : PG X tg t) (i : ∀ v σ H Q, t' v σ H Q → t v σ H Q) : PG X tg t' := ⟨fun pins s σ H v u Q I r q => h.run pins s σ H v u Q I r (i v σ H Q q)⟩
theorem PGs.imp {tg : List Expr} {t t' : TGs} (h : PGs X tg t) (i : ∀ v σ H Q, t' v σ H Q → t v σ H Q) : PGs X tg t' := ⟨fun pins s σ H v u Q I r q => h.run pins s σ H v u Q I r (i v σ H Q q)⟩
theorem wipe_get {σ : St} {j : Nat} : ∀ (vs : List Nat), (wipe σ vs)[j]? = if j ∈ vs then (σ[j]?).map (fun _ => none) else σ[j]?
  | [] => by simp [wipe]
  | v :: vs => by
    unfold wipe
    by_cases hv : v = j
    · subst hv
      rw [List.getElem?_set]
      simp only [if_true, List.mem_cons, true_or]
      rw [wipe_length]
      by_cases hl : v < σ.length
      · simp [hl]
      · simp [hl]
    · rw [List.getElem?_set_ne hv, wipe_get vs]
      have : (j ∈ v :: vs) ↔ (j ∈ vs) := by
        rw [List.mem_cons]
        exact ⟨fun h => h.resolve_left fun z => hv z.symm, .inr⟩
      by_cases hj : j ∈ vs
      · rw [if_pos hj, if_pos (this.mpr hj)]
      · rw [if_neg hj, if_neg (fun z => hj (this.mp z))]
theorem wipe_set {σ : St} {i : Nat} {o : Option V} {vs : List Nat} (h : i ∈ vs) : wipe (σ.set i o) vs = wipe σ vs := by
  apply List.ext_getElem?
  intro j
  rw [wipe_get, wipe_get]
  by_cases hj : j ∈ vs
  · rw [if_pos hj, if_pos hj]
    by_cases e : i = j
    · subst e
      rw [List.getElem?_set]
      by_cases hl : i < σ.length <;> simp [hl]
    · rw [List.getElem?_set_ne e]
  · rw [if_neg hj, if_neg hj, List.getElem?_set_ne (fun z => hj (by rw [← z]; exact h))]
def gmName (i : Nat) : GM := fun d env S => some (env.set i (some (.v d)), S)
theorem g_name {i : Nat} {x : Str} (hp : PG X (.Name x pos) (gName i)) : PG X (.Name x pos) (RdG X F (gmName i) [i]) :=
  PG.imp hp fun v σ H Q ⟨d, env, S, ρ, re, rs, rd, o⟩ => o ρ H _ Aft.refl rs (re.set (e := .v d) rd i) fun vs h => wipe_set (h i (List.mem_singleton.mpr rfl))
def gmNil : GsM := fun ds env S => match ds with
  | [] => some (env, S)
  | _ => none
def gmCons (g : GM) (gs : GsM) : GsM := fun ds env S => match ds with
  | d :: r => (match g d env S with
    | some p => gs r p.1 p.2
    | none => none)
  | [] => none
theorem g_nil : PGs X [] (RdGs X F gmNil []) := by
  refine PGs.imp pgs_nil fun vs σ H Q ⟨ds, env, S, ρ, re, rs, rd, o⟩ => ?_
  cases ds with
  | nil => exact ⟨RDs.nil_iff.mp rd, o ρ H σ Aft.refl rs re fun _ _ => rfl⟩
  | cons d r => exact o.elim
theorem g_cons {e : Expr} {es : List Expr} {g : GM} {gs : GsM} {is js : List Nat} (h1 : PG X e (RdG X F g is)) (h2 : PGs X es (RdGs X F gs js))
    (hs : (assignEach (e :: es) X.env).map (·.2) = assign e X.env :: (assignEach es X.env).map (·.2) := by rfl) : PGs X (e :: es) (RdGs X F (gmCons g gs) (is ++ js)) := by
  refine PGs.imp (pgs_cons h1 h2 hs) fun vs σ H Q ⟨ds, env, S, ρ, re, rs, rd, o⟩ => ?_
  cases ds with
  | nil => exact o.elim
  | cons d r =>
    obtain ⟨v, vr, rfl, d1, d2⟩ := RDs.cons_iff.mp rd
    refine ⟨v, vr, rfl, d, env, S, ρ, re, rs, d1, ?_⟩
    unfold gmCons at o
    dsimp only at o
    cases eg : g d env S with
    | none => rw [eg] at o; exact o.elim
    | some p =>
      rw [eg] at o
      refine fun ρ1 H1 σ1 t1 R1 re1 w1 => ⟨r, p.1, p.2, ρ1, re1, R1, d2.later t1.mv, ?_⟩
      have o : OutG X F σ ρ H (gs r p.1 p.2) (is ++ js) Q := o
      cases eg2 : gs r p.1 p.2 with
      | none => rw [eg2] at o; exact o.elim
      | some p2 =>
        rw [eg2] at o
        exact fun ρ2 H2 σ2 t2 R2 re2 w2 => o ρ2 H2 σ2 (t1.trans t2) R2 re2 fun vs hv => (w2 vs fun i hi => hv i (List.mem_append_right _ hi)).trans (w1 vs fun i hi => hv i (List.mem_append_left _ hi))
/-- (a, b, ..) = a tuple -/
def gmTup (n : Nat) (gs : GsM) : GM := fun d env S => match d with
  | .tup ds => if ds.length = n then gs ds env S else none
  | _ => none
theorem g_tup {es : List Expr} {kk n : Nat} {gs : GsM} {is : List Nat} (fx : FX X F k) (h : PGs X es (RdGs X F gs is))
    (hn : (assignEach es X.env).length = n := by rfl) (hst : (assignEach es X.env).findIdx? (·.1) = none := by rfl) : PG X (.Tuple es kk pos) (RdG X F (gmTup n gs) is) := by
  refine PG.imp (pg_tup fx.calm h hn hst) fun v σ H Q ⟨d, env, S, ρ, re, rs, rd, o⟩ => ?_
  cases d with
  | tup ds =>
    unfold RD at rd
    obtain ⟨a, xs, rfl, q, rr⟩ := rd
    unfold gmTup at o
    dsimp only at o
    split at o
    · rename_i hl
      exact ⟨a, xs, rfl, q.sq, by rw [rr.length]; exact hl, ds, env, S, ρ, re, rs, rr, o⟩
    · exact o.elim
  | _ => exact o.elim
/-- target = e -/
def mAsg (me : EM) (g : GM) : SM := fun env S => (me env S).st env fun d S1 => match g d env S1 with
  | some p => .nx p.1 p.2
  | none => .bad
theorem asg_out {g : GM} {is : List Nat} {D : Ends} {σ : St} {H : Hp} (h : rdS X F (mAsg me g) D σ H) : tAsg (rdE X F me) (RdG X F g is) D σ H := by
  obtain ⟨env, S, ρ, re, rs, o⟩ := h
  refine ⟨env, S, ρ, re, rs, (OutS.st re o).imp fun d ρ1 S1 H1 t1 R1 o1 v hv => ⟨d, env, S1, ρ1, re.later t1, R1, hv, ?_⟩⟩
  cases eg : g d env S1 with
  | none => rw [eg] at o1; exact o1.elim
  | some p => rw [eg] at o1; exact fun ρ2 H2 σ2 t2 R2 re2 _ => o1 ρ2 H2 σ2 t2 R2 re2
theorem s_asg {tg : Expr} {g : GM} {is : List Nat} (he : PE X e (rdE X F me)) (hg : PG X tg (RdG X F g is)) (hs : swapsWithSole [tg] e pos.line X.env = pure false := by rfl) (hw : swappedStores [tg] e X.env = pure none := by rfl)
    (h1 : (assignEach [tg] X.env).map (·.2) = [assign tg X.env] := by rfl) : PS X (.Assign [tg] e pos) (rdS X F (mAsg me g)) := PS.imp (ps_asg he hg hs hw h1) fun D σ H h => asg_out h
/-- x = e -/
def mSet (i : Nat) (me : EM) : SM := fun env S => (me env S).st env fun d S1 => .nx (env.set i (some (.v d))) S1
theorem s_set {i : Nat} {st : Stmt} (hp : PS X st (tAsg (rdE X F me) (gName i))) : PS X st (rdS X F (mSet i me)) := by
  refine PS.imp hp fun D σ H ⟨env, S, ρ, re, rs, o⟩ => ?_
  exact ⟨env, S, ρ, re, rs, (OutS.st re o).imp fun d ρ1 S1 H1 t1 R1 o1 v hv => o1 ρ1 H1 _ Aft.refl R1 ((re.later t1).set (e := .v d) hv i)⟩
/-- a, b = x, y -/
def mPar (i j : Nat) (ma : AM) : SM := fun env S => (ma env S).st env fun ds S1 => match ds with
  | [d, d'] => .nx ((env.set i (some (.v d))).set j (some (.v d'))) S1
  | _ => .bad
theorem s_par {i j : Nat} {ma : AM} {st : Stmt} (hp : PS X st (tPar i j (rdA X F ma))) : PS X st (rdS X F (mPar i j ma)) := by
  refine PS.imp hp fun D σ H ⟨env, S, ρ, re, rs, o⟩ => ?_
  refine ⟨env, S, ρ, re, rs, (OutS.st re o).imp fun ds ρ1 S1 H1 t1 R1 o1 vs hvs => ?_⟩
  match ds, o1, hvs with
  | [d, d'], o1, hvs =>
    obtain ⟨v, r, rfl, d1, h2⟩ := RDs.cons_iff.mp hvs
    obtain ⟨w, r', rfl, d2, h3⟩ := RDs.cons_iff.mp h2
    rw [RDs.nil_iff.mp h3]
    exact ⟨v, w, rfl, o1 ρ1 H1 _ Aft.refl R1 (((re.later t1).set (e := .v d) d1 i).set (e := .v d') d2 j)⟩
  | [], o1, _ => exact o1.elim
  | [_], o1, _ => exact o1.elim
  | _ :: _ :: _ :: _, o1, _ => exact o1.elim
def mPar3 (i j l : Nat) (ma : AM) : SM := fun env S => (ma env S).st env fun ds S1 => match ds with
  | [d, d', d''] => .nx (((env.set i (some (.v d))).set j (some (.v d'))).set l (some (.v d''))) S1
  | _ => .bad
/-! ### what a for walks -/
/-- the cell that is walked (it must stay as it is), the items -/
abbrev Src := List (Nat × List D) × List D
abbrev IM := Evs → Store → Rz Src
def Src.ok (s : Src) (S : Store) : Prop := ∀ p ∈ s.1, S[p.1]? = some (.lst p.2)
structure SrcOk (X : Cx) (T : List NdefX.NTab) (J : It) (s : Src) (ρ0 : Rho) (H0 : Hp) : Prop where
  go : ∀ ρ S H i, Mv ρ0 H0 ρ H → RS X.K X.mg T ρ S H → s.ok S → i < s.2.length → J.go i H ∧ ∀ x H', J.yld i H x H' → Aft ρ H ρ H' ∧ RS X.K X.mg T ρ S H' ∧ ∃ d, s.2[i]? = some d ∧ RD X.K X.mg ρ H' d x
  stop : ∀ ρ S H, Mv ρ0 H0 ρ H → RS X.K X.mg T ρ S H → s.ok S → J.stop s.2.length H
def rdI (X : Cx) (F : Fm) (ms : IM) : TI := fun σ H R => ∃ env S ρ, RE X.K X.mg F ρ H env σ ∧ RS X.K X.mg F.T ρ S H ∧ OutE X F σ ρ H (ms env S) fun s ρ' _ H' => ∀ J, SrcOk X F.T J s ρ' H' → R J H'
theorem PI.imp {tg it : Expr} {t t' : TI} (h : PI X tg it t) (i : ∀ σ H R, t' σ H R → t σ H R) : PI X tg it t' := ⟨fun pins s σ H R I q => h.run pins s σ H R I (i σ H R q)⟩
/-- the items of a list, a tuple -/
def srcOf : D → Store → Rz Src := fun d S => match d with
  | .fl ds => .ok ([], ds) S
  | .fz ds => .ok ([], ds) S
  | .ref n => (match S[n]? with
    | some (.lst ds) => .ok ([(n, ds)], ds) S
    | _ => .bad)
  | _ => .bad
def srcTup : D → Store → Rz Src := fun d S => match d with
  | .tup ds => .ok ([], ds) S
  | _ => .bad
theorem srcL_ok {T : List NdefX.NTab} {a : Addr} {ds : List D} {n : List (Nat × List D)} (h : (n = [] ∧ ∃ xs, FzAt X.K ρ H a xs ∧ RDs X.K X.mg ρ H ds xs) ∨ ∃ j, n = [(j, ds)] ∧ ρ.c[j]? = some a) : SrcOk X T (Itl X.K a) (n, ds) ρ H := by
  have key : ∀ ρ' S' H', Mv ρ H ρ' H' → RS X.K X.mg T ρ' S' H' → Src.ok (n, ds) S' → ∃ xs, SqL X.K H' a xs ∧ RDs X.K X.mg ρ' H' ds xs ∧ ∀ ys, SqL X.K H' a ys → True := fun ρ' S' H' t R ok => by
    rcases h with ⟨rfl, xs, q, r⟩ | ⟨j, rfl, e⟩
    · exact ⟨xs, (q.later t).sq, r.later t, fun _ _ => True.intro⟩
    · obtain ⟨a', ha', xs, hx, r⟩ := R.cell j _ (show S'[j]? = some (.lst ds) from ok (j, ds) (List.mem_singleton.mpr rfl))
      rw [t.ix _ _ e] at ha'; cases ha'
      exact ⟨xs, .of hx, r, fun _ _ => True.intro⟩
  refine ⟨fun ρ' S' H' i t R ok hi => ?_, fun ρ' S' H' t R ok => ?_⟩
  · obtain ⟨xs, q, r, _⟩ := key ρ' S' H' t R ok
    have hl : i < xs.length := by rw [r.length]; exact hi
    refine ⟨⟨xs, xs[i], q, List.getElem?_eq_getElem hl⟩, ?_⟩
    rintro x H2 ⟨rfl, hx⟩
    obtain ⟨d, hd, rd⟩ := r.get' (hx xs q)
    exact ⟨Aft.refl, R, d, hd, rd⟩
  · obtain ⟨xs, q, r, _⟩ := key ρ' S' H' t R ok
    exact ⟨xs, q, by rw [r.length]; exact Nat.le_refl _⟩
theorem srcT_ok {T : List NdefX.NTab} {a : Addr} {ds : List D} {xs : List V} (q : TupAt X.K ρ H a xs) (r : RDs X.K X.mg ρ H ds xs) : SrcOk X T (Itt X.K a) ([], ds) ρ H := by
  refine ⟨fun ρ' S' H' i t R ok hi => ?_, fun ρ' S' H' t R ok => ?_⟩
  · have hl : i < xs.length := by rw [r.length]; exact hi
    refine ⟨⟨xs, xs[i], (q.later t).sq, List.getElem?_eq_getElem hl⟩, ?_⟩
    rintro x H2 ⟨rfl, hx⟩
    obtain ⟨d, hd, rd⟩ := (r.later t).get' (hx xs (q.later t).sq)
    exact ⟨Aft.refl, R, d, hd, rd⟩
  · exact ⟨xs, (q.later t).sq, by rw [r.length]; exact Nat.le_refl _⟩
def iM (me : EM) : IM := fun env S => (me env S).bind srcOf
def iMT (me : EM) : IM := fun env S => (me env S).bind srcTup
theorem i_list {tg : Expr} (he : PE X e (rdE X F me)) : PI X tg e (rdI X F (iM me)) := by
  refine PI.imp (pi_list he) fun σ H R ⟨env, S, ρ, re, rs, o⟩ => ?_
  refine ⟨env, S, ρ, re, rs, (OutE.bind o).imp fun d ρ1 S1 H1 t1 R1 o1 v hv => ?_⟩
  cases d with
  | fl ds =>
    unfold RD at hv
    obtain ⟨a, xs, rfl, q, r⟩ := hv
    exact ⟨a, rfl, ⟨xs, q.sq⟩, o1 ρ1 H1 Aft.refl R1 _ (srcL_ok (.inl ⟨rfl, xs, .inl ⟨.inl q.1, q.2⟩, r⟩))⟩
  | fz ds =>
    unfold RD at hv
    obtain ⟨a, xs, rfl, q, r⟩ := hv
    exact ⟨a, rfl, ⟨xs, q.sq⟩, o1 ρ1 H1 Aft.refl R1 _ (srcL_ok (.inl ⟨rfl, xs, q, r⟩))⟩
  | ref n =>
    unfold RD at hv
    obtain ⟨a, rfl, q⟩ := hv
    have o1 : OutE X F σ ρ1 H1 (match S1[n]? with
      | some (.lst ds) => Rz.ok ([(n, ds)], ds) S1
      | _ => .bad) fun s ρ' _ H' => ∀ J, SrcOk X F.T J s ρ' H' → R J H' := o1
    split at o1
    · rename_i ds es
      obtain ⟨a', ha', xs, hx, r⟩ := R1.cell n _ es
      rw [q] at ha'; cases ha'
      exact ⟨a, rfl, ⟨xs, .of hx⟩, o1 ρ1 H1 Aft.refl R1 _ (srcL_ok (.inr ⟨n, rfl, q⟩))⟩
    · exact o1.elim
  | _ => exact o1.elim
theorem i_tup {tg : Expr} (he : PE X e (rdE X F me)) : PI X tg e (rdI X F (iMT me)) := by
  refine PI.imp (pi_tup he) fun σ H R ⟨env, S, ρ, re, rs, o⟩ => ?_
  refine ⟨env, S, ρ, re, rs, (OutE.bind o).imp fun d ρ1 S1 H1 t1 R1 o1 v hv => ?_⟩
  cases d with
  | tup ds =>
    unfold RD at hv
    obtain ⟨a, xs, rfl, q, r⟩ := hv
    exact ⟨a, rfl, ⟨xs, q.sq⟩, o1 ρ1 H1 Aft.refl R1 _ (srcT_ok q r)⟩
  | _ => exact o1.elim
/-- range(n) -/
def upto (lo : Int) : Nat → List D
  | 0 => []
  | n + 1 => .int lo :: upto (lo + 1) n
theorem upto_length : ∀ (n : Nat) (lo : Int), (upto lo n).length = n
  | 0, _ => rfl
  | n + 1, lo => by rw [upto, List.length_cons, upto_length n]
theorem upto_get : ∀ (n : Nat) (lo : Int) (i : Nat), i < n → (upto lo n)[i]? = some (.int (lo + i))
  | 0, _, _, h => by omega
  | n + 1, lo, 0, _ => by simp [upto]
  | n + 1, lo, i + 1, h => by
    rw [upto, List.getElem?_cons_succ, upto_get n (lo + 1) i (by omega)]
    congr 2
    push_cast
    omega
theorem srcR_ok {T : List NdefX.NTab} {lo : Int} {n : Nat} : SrcOk X T (Itr lo n) ([], upto lo n) ρ H := by
  refine ⟨fun ρ' S' H' i t R ok hi => ?_, fun ρ' S' H' t R ok => ?_⟩
  · have hi : i < n := by rw [show (upto lo n).length = n from upto_length n lo] at hi; exact hi
    refine ⟨hi, ?_⟩
    rintro x H2 ⟨rfl, rfl⟩
    exact ⟨Aft.refl, R, _, upto_get n lo i hi, by unfold RD; rfl⟩
  · show n ≤ (upto lo n).length
    rw [upto_length]
    exact Nat.le_refl _
def inRng (i : Int) : Bool := decide (-(2 ^ 62) ≤ i) && decide (i < 2 ^ 62)
theorem inRng_ok {i : Int} (h : inRng i = true) : -(2 ^ 62) ≤ i ∧ i < 2 ^ 62 := by
  unfold inRng at h
  simp only [Bool.and_eq_true, decide_eq_true_eq] at h
  exact h
def srcRng1 : List D → Store → Rz Src := fun ds S => match ds with
  | [.int j] => if inRng j = true then .ok ([], upto 0 j.toNat) S else .bad
  | _ => .bad
def srcRng2 : List D → Store → Rz Src := fun ds S => match ds with
  | [.int i, .int j] => if (inRng i && inRng j) = true then .ok ([], upto i (j - i).toNat) S else .bad
  | _ => .bad
def iMR1 (ma : AM) : IM := fun env S => (ma env S).bind srcRng1
def iMR2 (ma : AM) : IM := fun env S => (ma env S).bind srcRng2
theorem rd_int {K : PySem.W.Frag} {mg : Str → Option Value} {v : V} {i : Int} (h : RD K mg ρ H (.int i) v) : v = .int i := by unfold RD at h; exact h
theorem srcRng1_inv {ds : List D} {S : Store} : (∃ j, ds = [.int j] ∧ inRng j = true ∧ srcRng1 ds S = .ok ([], upto 0 j.toNat) S) ∨ srcRng1 ds S = .bad := by
  unfold srcRng1
  split
  · rename_i j
    by_cases h : inRng j = true
    · exact .inl ⟨j, rfl, h, if_pos h⟩
    · exact .inr (if_neg h)
  · exact .inr rfl
theorem srcRng2_inv {ds : List D} {S : Store} : (∃ i j, ds = [.int i, .int j] ∧ inRng i = true ∧ inRng j = true ∧ srcRng2 ds S = .ok ([], upto i (j - i).toNat) S) ∨ srcRng2 ds S = .bad := by
  unfold srcRng2
  split
  · rename_i i j
    by_cases h : (inRng i && inRng j) = true
    · exact .inl ⟨i, j, rfl, (Bool.and_eq_true_iff.mp h).1, (Bool.and_eq_true_iff.mp h).2, if_pos h⟩
    · exact .inr (if_neg h)
  · exact .inr rfl
theorem i_range1 {tg a : Expr} {ma : AM} {p : Pos} (hg : Gl X "range") (hm : X.mg "range" = none) (ha : PA X [a] (rdA X F ma)) (hs : starEach [a] X.env = [(false, eval a X.env)] := by rfl) : PI X tg (.Call (.Name "range" p) [a] [] pos) (rdI X F (iMR1 ma)) := by
  refine PI.imp (pi_range1 hg hm ha hs) fun σ H R ⟨env, S, ρ, re, rs, o⟩ => ?_
  refine ⟨env, S, ρ, re, rs, (OutE.bind o).imp fun ds ρ1 S1 H1 t1 R1 o1 vs hvs => ?_⟩
  rcases srcRng1_inv (ds := ds) (S := S1) with ⟨j, rfl, hj, ej⟩ | eb
  · rw [ej] at o1
    obtain ⟨v, r, rfl, d1, h2⟩ := RDs.cons_iff.mp hvs
    rw [RDs.nil_iff.mp h2, rd_int d1]
    exact ⟨j, rfl, (inRng_ok hj).1, (inRng_ok hj).2, o1 ρ1 H1 Aft.refl R1 _ srcR_ok⟩
  · rw [eb] at o1; exact o1.elim
theorem i_range2 {tg a b : Expr} {ma : AM} {p : Pos} (hg : Gl X "range") (hm : X.mg "range" = none) (ha : PA X [a, b] (rdA X F ma)) (hp : ∀ {ta : TA}, PA X [a, b] ta → PI X tg (.Call (.Name "range" p) [a, b] [] pos) (iRng2 ta)) : PI X tg (.Call (.Name "range" p) [a, b] [] pos) (rdI X F (iMR2 ma)) := by
  refine PI.imp (hp ha) fun σ H R ⟨env, S, ρ, re, rs, o⟩ => ?_
  refine ⟨env, S, ρ, re, rs, (OutE.bind o).imp fun ds ρ1 S1 H1 t1 R1 o1 vs hvs => ?_⟩
  rcases srcRng2_inv (ds := ds) (S := S1) with ⟨i, j, rfl, hi, hj, ej⟩ | eb
  · rw [ej] at o1
    obtain ⟨v, r, rfl, d1, h2⟩ := RDs.cons_iff.mp hvs
    obtain ⟨v', r', rfl, d2, h3⟩ := RDs.cons_iff.mp h2
    rw [RDs.nil_iff.mp h3, rd_int d1, rd_int d2]
    exact ⟨i, j, rfl, ⟨(inRng_ok hi).1, (inRng_ok hi).2, (inRng_ok hj).1, (inRng_ok hj).2⟩, o1 ρ1 H1 Aft.refl R1 _ srcR_ok⟩
  · rw [eb] at o1; exact o1.elim
/-- the signs of a text -/
def signs (x : Str) : List D := x.cps.toList.map fun c => .str ⟨#[c]⟩
def srcStr : D → Store → Rz Src := fun d S => match d with
  | .str x => .ok ([], signs x) S
  | _ => .bad
def iMS (me : EM) : IM := fun env S => (me env S).bind srcStr
theorem i_str {tg : Expr} (he : PE X e (rdE X F me)) : PI X tg e (rdI X F (iMS me)) := by
  refine PI.imp (pi_str he) fun σ H R ⟨env, S, ρ, re, rs, o⟩ => ?_
  refine ⟨env, S, ρ, re, rs, (OutE.bind o).imp fun d ρ1 S1 H1 t1 R1 o1 v hv => ?_⟩
  cases d with
  | str x =>
    unfold RD at hv
    have hl : (signs x).length = x.cps.size := by unfold signs; rw [List.length_map, Array.length_toList]
    refine ⟨x, hv, o1 ρ1 H1 Aft.refl R1 _ ⟨fun ρ' S' H' i t R ok hi => ?_, fun ρ' S' H' t R ok => ?_⟩⟩
    · have hi : i < x.cps.size := by rw [← hl]; exact hi
      refine ⟨hi, ?_⟩
      rintro u H2 ⟨rfl, c, hc, rfl⟩
      refine ⟨Aft.refl, R, .str ⟨#[c]⟩, ?_, by unfold RD; rfl⟩
      show (signs x)[i]? = _
      unfold signs
      rw [List.getElem?_map, Array.getElem?_toList, hc]
      rfl
    · show x.cps.size ≤ (signs x).length
      rw [hl]
      exact Nat.le_refl _
  | _ => exact o1.elim
/-- enumerate(l) -/
def enums (i : Nat) : List D → List D
  | [] => []
  | d :: ds => .tup [.int (i : Int), d] :: enums (i + 1) ds
theorem enums_length : ∀ (ds : List D) (i : Nat), (enums i ds).length = ds.length
  | [], _ => rfl
  | d :: ds, i => by rw [enums, List.length_cons, List.length_cons, enums_length ds]
theorem enums_get : ∀ (ds : List D) (j i : Nat) (d : D), ds[i]? = some d → (enums j ds)[i]? = some (.tup [.int ((j + i : Nat) : Int), d])
  | [], _, _, _, h => by simp at h
  | d :: ds, j, 0, d', h => by simp at h; subst h; simp [enums]
  | d :: ds, j, i + 1, d', h => by
    rw [enums, List.getElem?_cons_succ, enums_get ds (j + 1) i d' (by simpa using h)]
    congr 5
    omega
/-- zip(l, l') -/
def zips : List D → List D → List D
  | d :: ds, u :: us => .tup [d, u] :: zips ds us
  | _, _ => []
theorem zips_length : ∀ (ds us : List D), (zips ds us).length = min ds.length us.length
  | [], us => by simp [zips]
  | _ :: _, [] => by simp [zips]
  | d :: ds, u :: us => by rw [zips, List.length_cons, List.length_cons, List.length_cons, zips_length ds us]; omega
theorem zips_get : ∀ (ds us : List D) (i : Nat) (d u : D), ds[i]? = some d → us[i]? = some u → (zips ds us)[i]? = some (.tup [d, u])
  | [], _, _, _, _, h, _ => by simp at h
  | _ :: _, [], _, _, _, _, h => by simp at h
  | d :: ds, u :: us, 0, d', u', h, g => by simp at h g; subst h; subst g; simp [zips]
  | d :: ds, u :: us, i + 1, d', u', h, g => by
    rw [zips, List.getElem?_cons_succ]
    exact zips_get ds us i d' u' (by simpa using h) (by simpa using g)
theorem pair_new {T : List NdefX.NTab} {d u : D} {x y : V} {p : Addr} (R : RS X.K X.mg T ρ S H) (hp : H p = none) (h1 : RD X.K X.mg ρ H d x) (h2 : RD X.K X.mg ρ H u y) :
    Aft ρ H ρ (upd H p (.tup [x, y])) ∧ RS X.K X.mg T ρ S (upd H p (.tup [x, y])) ∧ RD X.K X.mg ρ (upd H p (.tup [x, y])) (.tup [d, u]) (.ref p) := by
  have t : Aft ρ H ρ (upd H p (.tup [x, y])) := Aft.laid hp
  refine ⟨t, R.laid hp, ?_⟩
  unfold RD
  exact ⟨p, [x, y], rfl, .inl ⟨.inl upd_same, R.offs hp⟩, RDs.cons_iff.mpr ⟨x, [y], rfl, h1.later t.mv, RDs.cons_iff.mpr ⟨y, [], rfl, h2.later t.mv, RDs.nil_iff.mpr rfl⟩⟩⟩
end
end M3

set_option Elab.async false
set_option linter.all false
set_option maxRecDepth 100000
set_option maxHeartbeats 1000000
/-! M3D: loops and comprehensions. -/
namespace M3
open PySem PySem.Spec L2
open Classical in
noncomputable def okS (s : Src) (S : Store) : Bool := decide (s.ok S)
@[simp] theorem okS_none (ds : List D) (S : Store) : okS ([], ds) S = true := by unfold okS Src.ok; simp
theorem okS_some {n : Nat} {ds es : List D} {S : Store} (h : S[n]? = some (.lst ds)) : okS ([(n, ds)], es) S = true := by unfold okS Src.ok; simp [h]
theorem okS_two {n m : Nat} {ds us es : List D} {S : Store} (h : S[n]? = some (.lst ds)) (g : S[m]? = some (.lst us)) : okS ([(n, ds), (m, us)], es) S = true := by unfold okS Src.ok; simp [h, g]
theorem okS_ok {s : Src} {S : Store} (h : okS s S = true) : s.ok S := by unfold okS at h; simpa using h
/-- a for's turns -/
noncomputable def forG (s : Src) (tg : GM) (body : SM) : List D → Evs → Store → So
  | [], env, S => if okS s S = true then .nx env S else .bad
  | d :: r, env, S => if okS s S = true then (match tg d env S with
    | none => .bad
    | some p => match body p.1 p.2 with
      | .nx e S1 => forG s tg body r e S1
      | .ct e S1 => forG s tg body r e S1
      | .bk e S1 => .nx e S1
      | x => x) else .bad
noncomputable def mFor (mi : IM) (tg : GM) (body : SM) : SM := fun env S => (mi env S).st env fun s S1 => forG s tg body s.2 env S1
section
variable {X : Cx} {F : Fm} {k : Nat} {pos : Pos}
theorem s_for {tg iter : Expr} {body : List Stmt} {mi : IM} {g : GM} {is : List Nat} {m : SM} (fx : FX X F k) (hi : PI X tg iter (rdI X F mi)) (hg : PG X tg (RdG X F g is)) (hb : PSs X body (rdS X F m))
    (hs : ∀ x, foldedSetIterable iter X.env x = pure x := by intro _; rfl) : PS X (.For tg iter body [] pos) (rdS X F (mFor mi g m)) := by
  refine PS.imp (ps_for fx.po fx.calm hi hg hb hs) fun D σ H ⟨env, S, ρ, re, rs, o⟩ => ?_
  refine ⟨env, S, ρ, re, rs, (OutS.st re o).imp fun s ρ1 S1 H1 t1 R1 o1 J sok => ?_⟩
  refine ⟨fun i n σ' H' => ∃ env' S' ρ', Aft ρ1 H1 ρ' H' ∧ RE X.K X.mg F ρ' H' env' σ' ∧ RS X.K X.mg F.T ρ' S' H' ∧ i ≤ s.2.length ∧ n = s.2.length - i ∧ OutS X F ρ' H' (forG s g m (s.2.drop i) env' S') D,
    ⟨s.2.length, env, S1, ρ1, Aft.refl, re.later t1, R1, Nat.zero_le _, rfl, o1⟩, ?_⟩
  rintro i n σ' H' ⟨env', S', ρ', t2, re2, R2, hi, rfl, o2⟩
  by_cases hl : i < s.2.length
  · rw [List.drop_eq_getElem_cons hl] at o2
    unfold forG at o2
    by_cases hok : okS s S' = true
    · rw [if_pos hok] at o2
      obtain ⟨jg, jy⟩ := sok.go ρ' S' H' i t2.mv R2 (okS_ok hok) hl
      refine .inr ⟨jg, fun σ3 H3 => ∃ env' S' ρ', Aft ρ1 H1 ρ' H3 ∧ RE X.K X.mg F ρ' H3 env' σ3 ∧ RS X.K X.mg F.T ρ' S' H3 ∧ i + 1 ≤ s.2.length ∧ OutS X F ρ' H3 (forG s g m (s.2.drop (i + 1)) env' S') D, ?_, ?_⟩
      · rintro σ3 H3 ⟨e3, S3, ρ3, a1, a2, a3, a4, a5⟩
        exact ⟨s.2.length - (i + 1), by omega, e3, S3, ρ3, a1, a2, a3, a4, rfl, a5⟩
      · intro x H3 y
        obtain ⟨t3, R3, d, hd, rd⟩ := jy x H3 y
        rw [List.getElem?_eq_getElem hl] at hd
        cases hd
        refine ⟨_, env', S', ρ', re2.later t3, R3, rd, ?_⟩
        cases eg : g s.2[i] env' S' with
        | none => rw [eg] at o2; exact o2.elim
        | some p =>
          rw [eg] at o2
          refine fun ρ4 H4 σ4 t4 R4 re4 _ => ⟨p.1, p.2, ρ4, re4, R4, ?_⟩
          dsimp only at o2
          have t24 : Aft ρ' H' ρ4 H4 := t3.trans t4
          cases eb : m p.1 p.2 with
          | nx e5 S5 => rw [eb] at o2; exact fun ρ5 H5 σ5 t5 R5 re5 => ⟨e5, S5, ρ5, t2.trans (t24.trans t5), re5, R5, hl, OutS.later (t24.trans t5) o2⟩
          | ct e5 S5 => rw [eb] at o2; exact fun ρ5 H5 σ5 t5 R5 re5 => ⟨e5, S5, ρ5, t2.trans (t24.trans t5), re5, R5, hl, OutS.later (t24.trans t5) o2⟩
          | bk e5 S5 => rw [eb] at o2; exact fun ρ5 H5 σ5 t5 R5 re5 => o2 ρ5 H5 σ5 (t24.trans t5) R5 re5
          | ret d5 S5 => rw [eb] at o2; exact fun ρ5 H5 v5 t5 R5 re5 => o2 ρ5 H5 v5 (t24.trans t5) R5 re5
          | exc c fs e5 S5 => rw [eb] at o2; exact fun ρ5 H5 σ5 cv d5 t5 R5 re5 => o2 ρ5 H5 σ5 cv d5 (t24.trans t5) R5 re5
          | bad => rw [eb] at o2; exact o2
    · rw [if_neg hok] at o2; exact o2.elim
  · have e : i = s.2.length := by omega
    subst e
    rw [List.drop_length] at o2
    unfold forG at o2
    by_cases hok : okS s S' = true
    · rw [if_pos hok] at o2
      exact .inl ⟨sok.stop ρ' S' H' t2.mv R2 (okS_ok hok), o2 ρ' H' σ' Aft.refl R2 re2⟩
    · rw [if_neg hok] at o2; exact o2.elim
/-! ### comprehensions -/
def wipeE (env : Evs) : List Nat → Evs
  | [] => env
  | v :: vs => (wipeE env vs).set v none
theorem RE.wipe {ρ : Rho} {H : Hp} {env : Evs} {σ : St} (h : RE X.K X.mg F ρ H env σ) : ∀ vs : List Nat, RE X.K X.mg F ρ H (wipeE env vs) (wipe σ vs)
  | [] => h
  | v :: vs => (RE.wipe h vs).wipe1 v
theorem wipe_idem (σ : St) (vs : List Nat) : wipe (wipe σ vs) vs = wipe σ vs := by
  apply List.ext_getElem?
  intro j
  rw [wipe_get, wipe_get]
  by_cases hj : j ∈ vs
  · simp only [if_pos hj]
    cases σ[j]? <;> rfl
  · rw [if_neg hj]
def rdTs (X : Cx) (F : Fm) (m : TM) : TT := rdT X F m
def mYes : TM := fun _ S => .ok true S
theorem PTs.imp {ifs : List Expr} {t t' : TT} (h : PTs X ifs t) (i : ∀ σ H Q, t' σ H Q → t σ H Q) : PTs X ifs t' := ⟨fun pins s σ H Q I q => h.run pins s σ H Q I (i σ H Q q)⟩
theorem ts_nil : PTs X [] (rdT X F mYes) := PTs.imp pts_nil fun σ H Q ⟨env, S, ρ, re, rs, o⟩ => o ρ H Aft.refl rs
theorem ts_one {c : Expr} {m : TM} (h : PT X c (rdT X F m)) : PTs X [c] (rdT X F m) := pts_one h
noncomputable def lcG (s : Src) (tg : GM) (tt : TM) (me : EM) (env : Evs) : List D → Store → Option (List D × Store)
  | [], S => if okS s S = true then some ([], S) else none
  | d :: r, S => if okS s S = true then (match tg d env S with
    | none => none
    | some p => match tt p.1 p.2 with
      | .ok true S1 => (match me p.1 S1 with
        | .ok x S2 => (match lcG s tg tt me env r S2 with
          | some q => some (x :: q.1, q.2)
          | none => none)
        | _ => none)
      | .ok false S1 => lcG s tg tt me env r S1
      | _ => none) else none
def lcEnd (al : Bool) (acc : List D) (r : Option (List D × Store)) : Rz D := match r with
  | none => .bad
  | some p => Gv.fin al (some (.l (acc ++ p.1))) p.2
noncomputable def mLc (al : Bool) (mi : IM) (tg : GM) (tt : TM) (me : EM) (own : List Nat) : EM := fun env S => (mi env S).bind fun s S1 => lcEnd al [] (lcG s tg tt me (wipeE env own) s.2 S1)
end
section
variable {X : Cx} {F : Fm} {k : Nat} {pos : Pos}
theorem rd_lc {al : Bool} {mi : IM} {g : GM} {is : List Nat} {tt : TM} {me : EM} {own : List Nat} (his : ∀ i ∈ is, i ∈ own) {σ : St} {H : Hp} {Q : VK} (h : rdE X F (mLc al mi g tt me own) σ H Q) :
    tLc (rdI X F mi) (RdG X F.nox g is) (rdT X F.nox tt) (rdE X F.nox me) own σ H Q := by
  obtain ⟨env, S, ρ, re, rs, o⟩ := h
  refine ⟨env, S, ρ, re, rs, (OutE.bind o).imp fun s ρ1 S1 H1 t1 R1 o1 J sok D hD => ?_⟩
  have hz : sizeLine = 16777216 := sizeLine_eq
  have oD : ρ1.off D := R1.offs hD
  have reW : RE X.K X.mg F.nox ρ1 H1 (wipeE env own) (wipe σ own) := ⟨((re.later t1).wipe own).ent, ((re.later t1).wipe own).sl⟩
  have m0 : Mv ρ1 H1 (ρ1.ban D) (upd H1 D (.lst [])) := Mv.ban hD
  have Rban : RS X.K X.mg F.T (ρ1.ban D) S1 (upd H1 D (.lst [])) := R1.mv m0 rfl (fun a m => upd_ne (fun z => oD.1 (by rw [← z]; exact m))) (R1.laid (o := .lst []) hD).tab fun a m => by
    rcases List.mem_cons.mp m with z | z
    · exact ⟨by rw [z]; exact oD.1, _, by rw [z]; exact upd_same⟩
    · exact ban_upd R1.ban (R1.offs hD).2 a z
  refine ⟨fun i n H' => ∃ S' ρb acc accV, Aft ρ1 H1 ρb H' ∧ RE X.K X.mg F.nox (ρb.ban D) H' (wipeE env own) (wipe σ own) ∧ RS X.K X.mg F.T (ρb.ban D) S' H' ∧ Mv ρ1 H1 (ρb.ban D) H' ∧ H' D = some (.lst accV) ∧ D ∉ ρb.c ∧ RDs X.K X.mg (ρb.ban D) H' acc accV ∧ i ≤ s.2.length ∧ n = s.2.length - i ∧
      OutE X F σ ρ1 H1 (lcEnd al acc (lcG s g tt me (wipeE env own) (s.2.drop i) S')) fun a ρ' _ H' => ∀ v, RD X.K X.mg ρ' H' a v → Q v H',
    ⟨s.2.length, S1, ρ1, [], [], Aft.laid hD, reW.mv m0, Rban, m0, upd_same, oD.1, RDs.nil_iff.mpr rfl, Nat.zero_le _, rfl, o1⟩, ?_⟩
  rintro i n H' ⟨S', ρb, acc, accV, t2, re2, R2, mv2, hD2, nD2, rA, hi, rfl, o2⟩
  by_cases hl : i < s.2.length
  · rw [List.drop_eq_getElem_cons hl] at o2
    unfold lcG at o2
    by_cases hok : okS s S' = true
    · rw [if_pos hok] at o2
      obtain ⟨jg, jy⟩ := sok.go _ S' H' i mv2 R2 (okS_ok hok) hl
      refine .inr ⟨jg, fun H3 => ∃ S' ρb acc accV, Aft ρ1 H1 ρb H3 ∧ RE X.K X.mg F.nox (ρb.ban D) H3 (wipeE env own) (wipe σ own) ∧ RS X.K X.mg F.T (ρb.ban D) S' H3 ∧ Mv ρ1 H1 (ρb.ban D) H3 ∧ H3 D = some (.lst accV) ∧ D ∉ ρb.c ∧ RDs X.K X.mg (ρb.ban D) H3 acc accV ∧ i + 1 ≤ s.2.length ∧
        OutE X F σ ρ1 H1 (lcEnd al acc (lcG s g tt me (wipeE env own) (s.2.drop (i + 1)) S')) fun a ρ' _ H' => ∀ v, RD X.K X.mg ρ' H' a v → Q v H', ?_, ?_⟩
      · rintro H3 ⟨S3, ρ3, acc3, av3, a1, a2, a3, a4, a5, a6, a7, a8, a9⟩
        exact ⟨s.2.length - (i + 1), by omega, S3, ρ3, acc3, av3, a1, a2, a3, a4, a5, a6, a7, a8, rfl, a9⟩
      · intro x H3 y
        obtain ⟨t3, R3, d, hd, rd⟩ := jy x H3 y
        rw [List.getElem?_eq_getElem hl] at hd
        cases hd
        refine ⟨_, wipeE env own, S', ρb.ban D, re2.later t3, R3, rd, ?_⟩
        cases eg : g s.2[i] (wipeE env own) S' with
        | none => rw [eg] at o2; exact o2.elim
        | some p =>
          rw [eg] at o2
          dsimp only at o2
          refine fun ρ4 H4 σ4 t4 R4 re4 w4 => ⟨by rw [w4 own his, wipe_idem], p.1, p.2, ρ4, re4, R4, ?_⟩
          have t24 : Aft (ρb.ban D) H' ρ4 H4 := t3.trans t4
          cases et : tt p.1 p.2 with
          | exc c fs S5 => rw [et] at o2; exact o2.elim
          | bad => rw [et] at o2; exact o2.elim
          | ok b S5 =>
            rw [et] at o2
            refine fun ρ5 H5 t5 R5 => ?_
            have t25 := t24.trans t5
            have e5 : ρ5 = (⟨ρ5.c, ρb.t⟩ : Rho).ban D := by
              have := t25.ban
              obtain ⟨c5, t5'⟩ := ρ5
              exact congrArg (Rho.mk c5) this
            cases b with
            | false =>
              dsimp only at o2
              show if false = true then _ else _
              rw [if_neg (by decide)]
              refine ⟨S5, ⟨ρ5.c, ρb.t⟩, acc, accV, t2.trans t25.unban, ?_, ?_, ?_, t25.keep D _ hD2 nD2 (fun ps z => by cases z), fun m => (t25.fresh D m).elim nD2 fun z => some_none hD2 z, ?_, hl, o2⟩
              · rw [← e5]; exact re2.later t25
              · rw [← e5]; exact R5
              · rw [← e5]; exact mv2.trans t25.mv
              · rw [← e5]; exact rA.later t25.mv
            | true =>
              dsimp only at o2
              show if true = true then _ else _
              rw [if_pos rfl]
              refine ⟨p.1, S5, ρ5, re4.later t5, R5, ?_⟩
              cases em : me p.1 S5 with
              | exc c fs S6 => rw [em] at o2; exact o2.elim
              | bad => rw [em] at o2; exact o2.elim
              | ok z S6 =>
                rw [em] at o2
                dsimp only at o2
                refine fun ρ6 H6 t6 R6 v hv => ?_
                have t26 := t25.trans t6
                have e6 : ρ6 = (⟨ρ6.c, ρb.t⟩ : Rho).ban D := by
                  have := t26.ban
                  obtain ⟨c6, t6'⟩ := ρ6
                  exact congrArg (Rho.mk c6) this
                have d6 := t26.keep D _ hD2 nD2 fun ps z => by cases z
                have n6 : D ∉ ρ6.c := fun m => (t26.fresh D m).elim nD2 fun z => some_none hD2 z
                have ra6 := rA.later t26.mv
                have m7 : Mv ρ6 H6 ρ6 (upd H6 D (.lst (accV ++ [v]))) := by rw [e6]; exact Mv.banned
                cases eq : lcG s g tt me (wipeE env own) (s.2.drop (i + 1)) S6 with
                | none => rw [eq] at o2; exact o2.elim
                | some q =>
                  rw [eq] at o2
                  have o3 : OutE X F σ ρ1 H1 (Gv.fin al (some (.l (acc ++ z :: q.1))) q.2) fun a ρ' _ H' => ∀ v, RD X.K X.mg ρ' H' a v → Q v H' := o2
                  have hlen : acc.length < sizeLine := by
                    have o4 := o3
                    unfold Gv.fin at o4
                    dsimp only at o4
                    split at o4
                    · rename_i hq
                      rw [List.length_append, List.length_cons] at hq
                      omega
                    · exact o4.elim
                  refine ⟨accV, d6, by rw [ra6.length]; exact hlen, ?_⟩
                  refine ⟨S6, ⟨ρ6.c, ρb.t⟩, acc ++ [z], accV ++ [v], (t2.trans t26.unban).over hD, ?_, ?_, ?_, upd_same, n6, ?_, hl, ?_⟩
                  · rw [← e6]; exact (re2.later t26).mv m7
                  · rw [← e6]
                    exact R6.mv m7 rfl (fun a m => upd_ne (fun z => n6 (by rw [← z]; exact m))) (tabs_upd R6.tab (fun ps z => by rw [d6] at z; cases z) fun c z => by rw [d6] at z; exact codeO_nelst (Option.some.inj z)) (ban_updL R6.ban)
                  · rw [← e6]; exact (mv2.trans t26.mv).trans m7
                  · rw [← e6]; exact (ra6.later m7).append (RDs.cons_iff.mpr ⟨v, [], rfl, hv.later m7, RDs.nil_iff.mpr rfl⟩)
                  · show OutE X F σ ρ1 H1 (lcEnd al (acc ++ [z]) (lcG s g tt me (wipeE env own) (s.2.drop (i + 1)) S6)) _
                    rw [eq]
                    show OutE X F σ ρ1 H1 (Gv.fin al (some (.l ((acc ++ [z]) ++ q.1))) q.2) _
                    rw [List.append_assoc]
                    exact o3
    · rw [if_neg hok] at o2; exact o2.elim
  · have e : i = s.2.length := by omega
    subst e
    rw [List.drop_length] at o2
    unfold lcG at o2
    by_cases hok : okS s S' = true
    · rw [if_pos hok] at o2
      refine .inl ⟨sok.stop _ S' H' mv2 R2 (okS_ok hok), ?_⟩
      have o3 : OutE X F σ ρ1 H1 (Gv.fin al (some (.l (acc ++ []))) S') fun a ρ' _ H' => ∀ v, RD X.K X.mg ρ' H' a v → Q v H' := o2
      rw [List.append_nil] at o3
      unfold Gv.fin at o3
      dsimp only at o3
      split at o3
      · cases al with
        | false =>
          refine o3 ρb H' t2 (R2.mv Mv.free rfl (fun _ _ => rfl) R2.tab fun a m => R2.ban a (List.mem_cons_of_mem _ m)) (.ref D) ?_
          unfold RD
          exact ⟨D, accV, rfl, ⟨hD2, ⟨nD2, by rw [t2.ban]; exact oD.2⟩⟩, rA.later Mv.free⟩
        | true =>
          refine o3 (ρb.push D) H' (t2.take hD) (R2.adopt hD2 ⟨nD2, by rw [t2.ban]; exact oD.2⟩ rA) (.ref D) ?_
          unfold RD
          refine ⟨D, rfl, ?_⟩
          have hl : ρb.c.length = S'.length := R2.len
          show (ρb.c ++ [D])[S'.length]? = some D
          rw [List.getElem?_append_right (by omega), hl, Nat.sub_self]
          rfl
      · exact o3.elim
    · rw [if_neg hok] at o2; exact o2.elim
theorem e_lc (al : Bool) {ol : List Nat} {elt tg iter : Expr} {ifs : List Expr} {scope : Scope} {own : List (Str × Nat)} {mi : IM} {g : GM} {is : List Nat} {mt : TM} {me : EM} (fx : FX X F k) (hi : PI X tg iter (rdI X F mi)) (ok : BlkOk X.N X.env.scope scope own)
    (hg : ∀ (s : Shared) (H : Hp) (C : Addr) (cl : List (Str × Addr)) (fp : List Addr), PG (X.blk s H scope (compEnvC scope cl C X.env) fp) tg (RdG (X.blk s H scope (compEnvC scope cl C X.env) fp) F.nox g is))
    (ht : ∀ (s : Shared) (H : Hp) (C : Addr) (cl : List (Str × Addr)) (fp : List Addr), PTs (X.blk s H scope (compEnvC scope cl C X.env) fp) ifs (rdT (X.blk s H scope (compEnvC scope cl C X.env) fp) F.nox mt))
    (he : ∀ (s : Shared) (H : Hp) (C : Addr) (cl : List (Str × Addr)) (fp : List Addr), PE (X.blk s H scope (compEnvC scope cl C X.env) fp) elt (rdE (X.blk s H scope (compEnvC scope cl C X.env) fp) F.nox me))
    (his : ∀ i ∈ is, i ∈ ol) (how : own.map (·.2) = ol := by rfl) (hs : ∀ x, foldedSetIterable iter X.env x = pure x := by intro _; rfl) :
    PE X (.ListComp elt [⟨tg, iter, ifs, 0⟩] scope pos) (rdE X F (mLc al mi g mt me ol)) := by
  subst how
  exact PE.imp (pe_lc (g := RdG X F.nox g is) (tt := rdT X F.nox mt) (te := rdE X F.nox me) fx.calm fx.nd hi ok hg ht he hs) fun _ _ _ h => rd_lc his h
theorem s_setLc (al : Bool) {ol : List Nat} {i : Nat} {y : Str} {py spos : Pos} {elt tg iter : Expr} {ifs : List Expr} {scope : Scope} {own : List (Str × Nat)} {mi : IM} {g : GM} {is : List Nat} {mt : TM} {me : EM} (fx : FX X F k) (hy : X.N[i]? = some y) (hyl : X.env.scope.names.lookup y = some .local)
    (hsw : swapsWith (.ListComp elt [⟨tg, iter, ifs, 0⟩] scope pos) (some (.Name y py)) spos.line X.env = pure true) (hi : PI X tg iter (rdI X F mi)) (ok : BlkOk X.N X.env.scope scope own)
    (hg : ∀ (s : Shared) (H : Hp) (C : Addr) (cl : List (Str × Addr)) (fp : List Addr), PG (X.blk s H scope (compEnvC scope cl C X.env) fp) tg (RdG (X.blk s H scope (compEnvC scope cl C X.env) fp) F.nox g is))
    (ht : ∀ (s : Shared) (H : Hp) (C : Addr) (cl : List (Str × Addr)) (fp : List Addr), PTs (X.blk s H scope (compEnvC scope cl C X.env) fp) ifs (rdT (X.blk s H scope (compEnvC scope cl C X.env) fp) F.nox mt))
    (he : ∀ (s : Shared) (H : Hp) (C : Addr) (cl : List (Str × Addr)) (fp : List Addr), PE (X.blk s H scope (compEnvC scope cl C X.env) fp) elt (rdE (X.blk s H scope (compEnvC scope cl C X.env) fp) F.nox me))
    (his : ∀ i ∈ is, i ∈ ol) (how : own.map (·.2) = ol := by rfl) (hs : ∀ x, foldedSetIterable iter X.env x = pure x := by intro _; rfl) :
    PS X (.Assign [.Name y py] (.ListComp elt [⟨tg, iter, ifs, 0⟩] scope pos) spos) (rdS X F (mSet i (mLc al mi g mt me ol))) := by
  subst how
  exact s_set (PS.imp (ps_setLc (g := RdG X F.nox g is) (tt := rdT X F.nox mt) (te := rdE X F.nox me) fx.calm fx.nd hy hyl hsw hi ok hg ht he hs) fun _ _ _ h => rd_lc his h)
end
end M3

set_option Elab.async false
set_option linter.all false
set_option maxRecDepth 100000
set_option maxHeartbeats 1000000
/-! M3E: what a def promises (its mirror), calls, what is left behind a call. -/
namespace M3
open PySem PySem.Spec L2
abbrev CloS.nf (z : CloS) (cl : List (Str × Addr)) (c : Addr) : FZ := ⟨z, cl, c⟩
def RVa (K : PySem.W.Frag) (mg : Str → Option Value) (C : Nat → List EV → Addr → Prop) (ρ : Rho) (H : Hp) : EV → V → Prop
  | .v d, v => RD K mg ρ H d v
  | .fn k ws, v => ∃ f, v = .ref f ∧ C k ws f
  | .fl _, _ => False
theorem RVa.mv {K : PySem.W.Frag} {mg : Str → Option Value} {C : Nat → List EV → Addr → Prop} {ρ ρ' : Rho} {H H' : Hp} (t : Mv ρ H ρ' H') : ∀ {e : EV} {v : V}, RVa K mg C ρ H e v → RVa K mg C ρ' H' e v
  | .v d, v, h => RD.later t d v h
  | .fn k ws, v, h => h
/-- the functions that were handed in lie so -/
def Gd (CS : Nat → CloS) (K : PySem.W.Frag) (mg : Str → Option Value) (C : Nat → List EV → Addr → Prop) (h : Heap) (ρ : Rho) (H : Hp) : Prop := ∀ k ws f, C k ws f →
  ∃ cl c vs, H f = some (FnZ f ((CS k).nf cl c)) ∧ ρ.off f ∧ H c = some (LamX.CodeO c (CS k).qual) ∧ ρ.off c ∧ NdefX.CellsAt cl (CS k).fr (vs.map some) h H ∧ Paired (RVa K mg C ρ H) ws vs
def noC : Nat → List EV → Addr → Prop := fun _ _ _ => False
theorem Gd.none {CS : Nat → CloS} {K : PySem.W.Frag} {mg : Str → Option Value} {h : Heap} {ρ : Rho} {H : Hp} : Gd CS K mg noC h ρ H := fun _ _ _ z => z.elim
/-- how a call ends -/
def XRk (K : PySem.W.Frag) (mg : Str → Option Value) (ρ : Rho) (H : Hp) (c : Str) (fs : List (Str × D)) (cv : Value) (d : Option Addr) : Prop :=
  ∃ C, mg c = some (.ref C) ∧ cv = .ref C ∧ ((fs = [] ∧ d = none) ∨ ∃ dx ys, d = some dx ∧ H dx = some (.xd ys) ∧ ρ.off dx ∧ RFs K mg ρ H fs ys)
def OutF (K : PySem.W.Frag) (mg : Str → Option Value) (T : List NdefX.NTab) (ρ : Rho) (H : Hp) (r : Rz D) (Q : VK) (E : XK) : Prop := match r with
  | .ok a S => ∀ ρ' H' v, Aft ρ H ρ' H' → RS K mg T ρ' S H' → RD K mg ρ' H' a v → Q v H'
  | .exc c fs S => ∀ ρ' H' cv d, Aft ρ H ρ' H' → RS K mg T ρ' S H' → XRk K mg ρ' H' c fs cv d → E cv d H'
  | .bad => False
abbrev FM := List EV → Store → Rz D
structure FnM (P : Program) (w : World) (K : PySem.W.Frag) (mg : Str → Option Value) (base : Heap) (T : List NdefX.NTab) (CS : Nat → CloS) (k : Nat) (f : Addr) (fd : FuncData) (ps : List Str) (fm : FM) : Prop where
  run : ∀ (C : Nat → List EV → Addr → Prop) (A : Around) (outer : List Env) (s : Shared) (H : Hp) (args : Args) (us : List Value) (vs : List V) (es : List EV) (S : Store) (ρ : Rho) (Q : VK) (E : XK), Room k A → A.guards = some [] → Env0 P w K mg base A outer s H → BindsTo s fd args (ps.zip us) → Vals vs us → vs.length = ps.length →
    Gd CS K mg C s.heap ρ H → Paired (RVa K mg C ρ H) es vs → RS K mg T ρ S H → OutF K mg T ρ H (fm es S) Q E → codeAny (model P w) A (.call (.ref f) args) (CR (L2.CX P w) outer P w H s Q E) s
theorem FnM.mono {P : Program} {w : World} {K : PySem.W.Frag} {mg : Str → Option Value} {base : Heap} {T : List NdefX.NTab} {CS : Nat → CloS} {j k : Nat} {f : Addr} {fd : FuncData} {ps : List Str} {fm : FM} (F : FnM P w K mg base T CS j f fd ps fm) (h : j ≤ k) : FnM P w K mg base T CS k f fd ps fm :=
  ⟨fun C A outer s H args us vs es S ρ Q E hr => F.run C A outer s H args us vs es S ρ Q E (hr.mono h)⟩
theorem FnM.eq {P : Program} {w : World} {K : PySem.W.Frag} {mg : Str → Option Value} {base : Heap} {T : List NdefX.NTab} {CS : Nat → CloS} {k : Nat} {f : Addr} {fd : FuncData} {ps : List Str} {fm fm' : FM} (F : FnM P w K mg base T CS k f fd ps fm) (h : ∀ es S, fm' es S = fm es S) : FnM P w K mg base T CS k f fd ps fm' :=
  ⟨fun C A outer s H args us vs es S ρ Q E hr gd e0 hb hv hl hg hp hs ho => F.run C A outer s H args us vs es S ρ Q E hr gd e0 hb hv hl hg hp hs (h es S ▸ ho)⟩
/-! ### a def by its body -/
def So.fin (r : So) : Rz D := match r with
  | .nx _ S => .ok .non S
  | .ret d S => .ok d S
  | .exc c fs _ S => .exc c fs S
  | _ => .bad
def env0 (n : Nat) (es : List EV) : Evs := es.map some ++ List.replicate (n - es.length) none
def finM (n : Nat) (m : SM) : FM := fun es S => (m (env0 n es) S).fin
section
variable {P : Program} {w : World} {K : PySem.W.Frag} {mg : Str → Option Value} {base : Heap} {T : List NdefX.NTab} {CS : Nat → CloS}
abbrev fmOf (T : List NdefX.NTab) (CS : Nat → CloS) (C : Nat → List EV → Addr → Prop) (cells : List (Str × Addr)) (ρ : Rho) (H : Hp) (E : XK) : Fm := ⟨T, C, fun k c => (CS k).nf (cloFrom cells (CS k).scope.names []) c, fun cls d _ H' => E cls d H', ρ, H⟩
theorem paired_env {C : Nat → List EV → Addr → Prop} {F : Fm} (hC : F.C = C) {ρ : Rho} {H : Hp} : ∀ {es : List EV} {vs : List V} (n : Nat), Paired (RVa K mg C ρ H) es vs → Paired (RSl K mg F ρ H) (es.map some ++ List.replicate n none) (vs.map some ++ List.replicate n none)
  | [], [], 0, _ => .nil
  | [], [], n + 1, h => by
    rw [List.replicate_succ, List.replicate_succ]
    exact .cons True.intro (paired_env hC n h)
  | e :: es, v :: vs, n, .cons r t => .cons (by
      cases e with
      | v d => exact r
      | fn k ws =>
        obtain ⟨f, e1, e2⟩ := r
        exact ⟨f, e1, by rw [hC]; exact e2⟩
      | fl k => exact r.elim) (paired_env hC n t)
theorem fnm_of {k : Nat} {f : Addr} {name qual : Str} {params : Arguments} {body : List Stmt} {scope : Scope} {dV kV doc pm cdv ct oc : Value} {an od : Option Addr}
    {osl : Array (Option Value)} {N ps : List Str} {m : SM} (lk : K.lookup f = some ⟨oc, od, .func (PySem.W.fnOf name qual params body scope dV kV doc pm an cdv ct), osl⟩) (hcd : PySem.W.codeIn K cdv qual = true) (S : FnScope N ps scope)
    (hbody : ∀ (C : Nat → List EV → Addr → Prop) (A : Around) (outer : List Env) (s : Shared) (H : Hp) (E : XK) (ρ : Rho),
      FX (cxOf (L2.CX P w) P w K mg base N qual scope f cdv A outer s H E) (fmOf T CS C (PyProof.Rows.envOfC qual scope s.heap.objs.size f cdv).cells ρ H E) k → Gd CS K mg C s.heap ρ H →
      PSs (cxOf (L2.CX P w) P w K mg base N qual scope f cdv A outer s H E) body (rdS (cxOf (L2.CX P w) P w K mg base N qual scope f cdv A outer s H E) (fmOf T CS C (PyProof.Rows.envOfC qual scope s.heap.objs.size f cdv).cells ρ H E) m)) :
    FnM P w K mg base T CS (k + 1) f (PySem.W.fnOf name qual params body scope dV kV doc pm an cdv ct) ps (finM N.length m) := by
  refine ⟨fun C A outer s H args us vs es S0 ρ Q E hr gd e0 hb r hl hg hp R ho => ?_⟩
  have KX : K.In s.heap := e0.mod.kin.keeps fun b o e => (e0.bs b o e).1
  have lim : s.heap.NoLimit := e0.mod.nolimit.keeps fun b o e => (e0.bs b o e).1
  have hkind : ∀ y ∈ ps.zip us, scope.names.lookup y.1 = some .local ∨ (scope.names.lookup y.1 = some .cell ∧ ((cellsFrom (s.heap.objs.size + 1) scope.names []).lookup y.1).isSome = true) := fun ⟨n, v⟩ hy => by
    rcases S.par n (List.of_mem_zip hy).1 with q | q
    · exact .inl q
    · exact .inr ⟨q, PySem.W.cellsFrom_some _ _ _ (.inl q)⟩
  refine codeAny_call_function hr.depth (KX _ _ lk) rfl S.co S.gen rfl (PySem.W.codeRec_of KX hcd) (hb _ _ _ _ ?_)
  refine wpAny_newFunctionEnv_cells S.kind hkind fun env he s1 x => ?_
  subst he
  refine ⟨lim.keeps x.toInCall.keep, codeAny_func ?_⟩
  have I : Inv (cxOf (L2.CX P w) P w K mg base N qual scope f cdv A outer s H E) [] (L2.start N vs) H s1 := inv_start S hr.hd e0 hl r x
  have fx : FX (cxOf (L2.CX P w) P w K mg base N qual scope f cdv A outer s H E) (fmOf T CS C (PyProof.Rows.envOfC qual scope s.heap.objs.size f cdv).cells ρ H E) k :=
    ⟨rfl, S.nd, takes_of (X := cxOf (L2.CX P w) P w K mg base N qual scope f cdv A outer s H E) rfl rfl rfl rfl, passes_of (X := cxOf (L2.CX P w) P w K mg base N qual scope f cdv A outer s H E) rfl, hr.deeper _, gd⟩
  have ht := hbody C A outer s H E ρ fx hg
  have hq : rdS (cxOf (L2.CX P w) P w K mg base N qual scope f cdv A outer s H E) (fmOf T CS C (PyProof.Rows.envOfC qual scope s.heap.objs.size f cdv).cells ρ H E) m { nx := fun _ H' => Q .non H', rt := Q } (L2.start N vs) H := by
    refine ⟨env0 N.length es, S0, ρ, ⟨Mv.refl, ?_⟩, R, ?_⟩
    · have hel : es.length = vs.length := Paired.len hp
      unfold env0 L2.start
      rw [hel]
      exact paired_env rfl _ hp
    · unfold finM at ho
      cases em : m (env0 N.length es) S0 with
      | nx e S1 => rw [em] at ho; exact fun ρ' H' σ t R' re' => ho ρ' H' .non t R' (by unfold RD; rfl)
      | ret d S1 => rw [em] at ho; exact fun ρ' H' v t R' rd => ho ρ' H' v t R' rd
      | bk e S1 => rw [em] at ho; exact ho.elim
      | ct e S1 => rw [em] at ho; exact ho.elim
      | exc c fs e S1 => rw [em] at ho; exact fun ρ' H' σ cv d t R' re' xr => ho ρ' H' cv d t R' xr
      | bad => rw [em] at ho; exact ho.elim
  refine wpAny_mono (ht.run [] s1 (L2.start N vs) H _ I hq) (fun fl s' hs => ?_) fun e s' hs => hs
  have fin : ∀ {σ' : St} {H' : Hp} {v : V} {u : Value}, Inv (cxOf (L2.CX P w) P w K mg base N qual scope f cdv A outer s H E) [] σ' H' s' → RelV v u → Q v H' → CE outer P w H s Q u s' :=
    fun {σ' H' v u} J rv q => ⟨v, H', J.os, J.bare, J.base, J.hok, rv, q⟩
  cases fl with
  | ret u =>
    obtain ⟨v, σ', H', J, rv, q⟩ := hs
    exact fin J rv q
  | next =>
    obtain ⟨σ', H', J, q⟩ := hs
    exact fin (v := V.non) (u := Value.none) J rfl q
  | brk =>
    obtain ⟨_, _, _, q⟩ := hs
    exact False.elim q
  | cont =>
    obtain ⟨_, _, _, q⟩ := hs
    exact False.elim q
/-- .. as the head tells it -/
theorem fnm {k : Nat} {f : Addr} {fd : FuncData} {x qual : Str} {params : Arguments} {body : List Stmt} {scope : Scope} {dvs : List V} {kws : List (Str × V)} {N ps : List Str} {m : SM} (F : FunD K x qual params body scope dvs kws f fd) (S : FnScope N ps scope)
    (hbody : ∀ (cdv : Value) (C : Nat → List EV → Addr → Prop) (A : Around) (outer : List Env) (s : Shared) (H : Hp) (E : XK) (ρ : Rho),
      FX (cxOf (L2.CX P w) P w K mg base N qual scope f cdv A outer s H E) (fmOf T CS C (PyProof.Rows.envOfC qual scope s.heap.objs.size f cdv).cells ρ H E) k → Gd CS K mg C s.heap ρ H →
      PSs (cxOf (L2.CX P w) P w K mg base N qual scope f cdv A outer s H E) body (rdS (cxOf (L2.CX P w) P w K mg base N qual scope f cdv A outer s H E) (fmOf T CS C (PyProof.Rows.envOfC qual scope s.heap.objs.size f cdv).cells ρ H E) m)) :
    FnM P w K mg base T CS (k + 1) f fd ps (finM N.length m) := by
  obtain ⟨oc, od, dV, kV, doc, pm, an, cdv, ct, osl, rfl, lk, hcd, _, _⟩ := F.ex
  exact fnm_of lk hcd S fun C A outer s H E ρ => hbody cdv C A outer s H E ρ
end
/-! ### calls -/
abbrev AvM := Evs → Store → Rz (List EV)
def mCall (fm : FM) (ma : AM) : EM := fun env S => (ma env S).bind fun ds S1 => fm (ds.map .v) S1
section
variable {X : Cx} {F : Fm} {k j : Nat} {CS : Nat → CloS} {f : Addr} {fd : FuncData} {ps : List Str} {fm : FM} {x : Str} {p pos : Pos} {e : Expr} {es : List Expr} {ma : AM} {ds : List Value}
theorem paired_v {K : PySem.W.Frag} {mg : Str → Option Value} {C : Nat → List EV → Addr → Prop} {ρ : Rho} {H : Hp} : ∀ {ds : List D} {vs : List V}, RDs K mg ρ H ds vs → Paired (RVa K mg C ρ H) (ds.map EV.v) vs
  | [], _, h => by rw [RDs.nil_iff.mp h]; exact .nil
  | d :: ds, _, h => by
    obtain ⟨v, r, rfl, h1, h2⟩ := RDs.cons_iff.mp h
    exact .cons h1 (paired_v h2)
theorem run_m {pins : List (Addr × Obj)} {σ : St} {H : Hp} {s : Shared} {Q : VK} {us : List Value} {vs : List V} {S : Store} {ρ : Rho} {C : Nat → List EV → Addr → Prop} {evs : List EV} (Fn : FnM X.prog X.w X.K X.mg X.base F.T CS j f fd ps fm) (fx : FX X F k) (hjk : j ≤ k) (hb : Binds X.K fd ps []) (I : Inv X pins σ H s) (r : Vals vs us) (hl : vs.length = ps.length)
    (hg : Gd CS X.K X.mg C s.heap ρ H) (hp : Paired (RVa X.K X.mg C ρ H) evs vs) (R : RS X.K X.mg F.T ρ S H) (o : OutE X F σ ρ H (fm evs S) fun a ρ' _ H' => ∀ v, RD X.K X.mg ρ' H' a v → Q v H') : wpAny (model X.prog X.w) X.A (call (.ref f) us) (EP X pins σ Q) X.xe s := by
  have b := hb s us I.kIn (by rw [List.append_nil, ← r.length]; exact hl)
  rw [List.append_nil] at b
  refine wpAny_call (codeAny_mono (Fn.run C X.A X.stack s H ⟨us, []⟩ us vs evs S ρ Q (fun cv d H' => F.W cv d σ H') (fx.room.mono hjk) fx.gd I.env0 b r hl hg hp R ?_) fun r s' hq => ?_)
  · cases ef : fm evs S with
    | ok a S' => rw [ef] at o; exact fun ρ' H' v t R' rd => o ρ' H' t R' v rd
    | exc c fs S' => rw [ef] at o; exact fun ρ' H' cv d t R' xr => o ρ' H' cv d t R' xr
    | bad => rw [ef] at o; exact o
  · cases r with
    | error e => exact passAt fx.tk σ pins H s e s' I hq
    | ok fl =>
      cases fl with
      | ret u => exact I.after hq
      | next => exact False.elim hq
      | brk => exact False.elim hq
      | cont => exact False.elim hq
theorem e_call (fx : FX X F k) (Fn : FnM X.prog X.w X.K X.mg X.base F.T CS j f fd ps fm) (hjk : j ≤ k) (hg : Gl X x) (hm : X.mg x = some (.ref f)) (hk : PySem.W.keepIn X.K (.ref f) = true) (hb : Binds X.K fd ps []) (hlen : ∀ env S ds S', ma env S = .ok ds S' → ds.length = ps.length)
    (ha : PA X (e :: es) (rdA X F ma)) (hdb : (x == ("__debug__" : Str)) = false := by decide) (he : starEach (e :: es) X.env = (false, eval e X.env) :: starEach es X.env := by rfl) (hpl : (backTo pos (starEach es X.env)).any (·.1) = false := by rfl) :
    PE X (.Call (.Name x p) (e :: es) [] pos) (rdE X F (mCall fm ma)) := by
  refine ⟨fun pins s σ H Q I h => ?_⟩
  obtain ⟨env, S, ρ, re, rs, o⟩ := h
  refine wpAny_Call_Name_kw (ld_glob I hg hm ?_ hdb)
  refine PySem.W.callWith_K (h₀ := X.base) I.ok.mod.kin hk (thn (ha.run pos pins s σ H (fun vs H1 => ∃ ds S1 ρ1, vs.length = ps.length ∧ RDs X.K X.mg ρ1 H1 ds vs ∧ RS X.K X.mg F.T ρ1 S1 H1 ∧ OutE X F σ ρ1 H1 (fm (ds.map .v) S1) fun a ρ' _ H' => ∀ v, RD X.K X.mg ρ' H' a v → Q v H') I ⟨env, S, ρ, re, rs, ?_⟩) fun us s1 ⟨vs, H1, I1, r, ds, S1, ρ1, hl, rd, R1, o1⟩ => ⟨I1.kIn, ?_⟩) he hpl
  · cases em : ma env S with
    | ok ds S1 =>
      unfold mCall at o
      rw [em] at o
      exact fun ρ1 H1 t1 R1 vs hvs => ⟨ds, S1, ρ1, by rw [hvs.length]; exact hlen env S ds S1 em, hvs, R1, OutE.later t1 o⟩
    | exc c fs S1 => unfold mCall at o; rw [em] at o; exact o
    | bad => unfold mCall at o; rw [em] at o; exact o
  · exact run_m Fn fx hjk hb I1 r hl Gd.none (paired_v rd) R1 o1
theorem e_call0 (fx : FX X F k) (Fn : FnM X.prog X.w X.K X.mg X.base F.T CS j f fd [] fm) (hjk : j ≤ k) (hg : Gl X x) (hm : X.mg x = some (.ref f)) (hk : PySem.W.keepIn X.K (.ref f) = true) (hb : Binds X.K fd [] [])
    (hdb : (x == ("__debug__" : Str)) = false := by decide) : PE X (.Call (.Name x p) [] [] pos) (rdE X F (mCall fm mNil)) := by
  refine ⟨fun pins s σ H Q I h => ?_⟩
  obtain ⟨env, S, ρ, re, rs, o⟩ := h
  refine wpAny_Call_Name_kw (ld_glob I hg hm ?_ hdb)
  exact PySem.W.callWith_K0 I.kIn hk (run_m (us := []) (vs := []) (evs := []) Fn fx hjk hb I .nil rfl Gd.none .nil rs o)
/-- the number of an argument list's values -/
theorem len_nil {n : Nat} (h : n = 0) : ∀ env S ds S', mNil env S = .ok ds S' → ds.length = n := fun env S ds S' e => by
  unfold mNil at e
  cases e
  exact h.symm
theorem len_cons {me : EM} {mr : AM} {n : Nat} (h : ∀ env S ds S', mr env S = .ok ds S' → ds.length = n) : ∀ env S ds S', mCons me mr env S = .ok ds S' → ds.length = n + 1 := fun env S ds S' e => by
  unfold mCons at e
  cases e1 : me env S with
  | ok a S1 =>
    rw [e1] at e
    cases e2 : mr env S1 with
    | ok xs S2 =>
      rw [Rz.bind_ok, e2] at e
      cases e
      exact congrArg (· + 1) (h _ _ _ _ e2)
    | exc c fs S2 => rw [Rz.bind_ok, e2] at e; cases e
    | bad => rw [Rz.bind_ok, e2] at e; cases e
  | exc c fs S2 => rw [e1] at e; cases e
  | bad => rw [e1] at e; cases e
end
end M3

set_option Elab.async false
set_option linter.all false
set_option maxRecDepth 100000
set_option maxHeartbeats 1000000
/-! M3F: operations on data. -/
namespace M3
open PySem PySem.Spec L2
/-! ### inversions -/
section
variable {K : PySem.W.Frag} {mg : Str → Option Value} {ρ : Rho} {H : Hp} {v : V}
theorem rd_non (h : RD K mg ρ H .non v) : v = .non := by unfold RD at h; exact h
theorem rd_bl {b : Bool} (h : RD K mg ρ H (.bl b) v) : v = .bl b := by unfold RD at h; exact h
theorem rd_str {x : Str} (h : RD K mg ρ H (.str x) v) : v = .str x := by unfold RD at h; exact h
theorem rd_ty {n : String} (h : RD K mg ρ H (.ty n) v) : v = .ty n := by unfold RD at h; exact h
theorem rd_ref {n : Nat} (h : RD K mg ρ H (.ref n) v) : ∃ a, v = .ref a ∧ ρ.c[n]? = some a := by unfold RD at h; exact h
theorem rd_tup {ds : List D} (h : RD K mg ρ H (.tup ds) v) : ∃ a xs, v = .ref a ∧ TupAt K ρ H a xs ∧ RDs K mg ρ H ds xs := by unfold RD at h; exact h
theorem rd_fl {ds : List D} (h : RD K mg ρ H (.fl ds) v) : ∃ a xs, v = .ref a ∧ LstAt ρ H a xs ∧ RDs K mg ρ H ds xs := by unfold RD at h; exact h
theorem rd_fz {ds : List D} (h : RD K mg ρ H (.fz ds) v) : ∃ a xs, v = .ref a ∧ FzAt K ρ H a xs ∧ RDs K mg ρ H ds xs := by unfold RD at h; exact h
theorem mk_non : RD K mg ρ H .non .non := by unfold RD; rfl
theorem mk_bl {b : Bool} : RD K mg ρ H (.bl b) (.bl b) := by unfold RD; rfl
theorem mk_int {i : Int} : RD K mg ρ H (.int i) (.int i) := by unfold RD; rfl
theorem mk_str {x : Str} : RD K mg ρ H (.str x) (.str x) := by unfold RD; rfl
end
/-- the items of a list: one that stays, one of the store's, the script -/
def lstOf (S : Store) : D → Option (List D)
  | .fl ds => some ds
  | .fz ds => some ds
  | .ref n => (match S[n]? with
    | some (.lst ds) => some ds
    | _ => none)
  | _ => none
/-- .. no script -/
def lstOwn (S : Store) : D → Option (List D)
  | .fl ds => some ds
  | .ref n => (match S[n]? with
    | some (.lst ds) => some ds
    | _ => none)
  | _ => none
def tupOf : D → Option (List D)
  | .tup ds => some ds
  | _ => none
section
variable {K : PySem.W.Frag} {mg : Str → Option Value} {T : List NdefX.NTab} {ρ : Rho} {S : Store} {H : Hp} {v : V} {d : D} {ds : List D}
theorem lstOwn_ok (R : RS K mg T ρ S H) (h : RD K mg ρ H d v) (e : lstOwn S d = some ds) : ∃ a xs, v = .ref a ∧ H a = some (.lst xs) ∧ RDs K mg ρ H ds xs := by
  cases d with
  | fl es =>
    cases e
    obtain ⟨a, xs, rfl, q, r⟩ := rd_fl h
    exact ⟨a, xs, rfl, q.1, r⟩
  | ref n =>
    obtain ⟨a, rfl, q⟩ := rd_ref h
    have e : (match S[n]? with
      | some (.lst ds) => some ds
      | _ => none) = some ds := e
    split at e
    · rename_i es he
      cases e
      obtain ⟨a', ha', xs, hx, r⟩ := R.cell n _ he
      rw [q] at ha'; cases ha'
      exact ⟨a, xs, rfl, hx, r⟩
    · cases e
  | _ => cases e
theorem lstOf_ok (R : RS K mg T ρ S H) (h : RD K mg ρ H d v) (e : lstOf S d = some ds) : ∃ a xs, v = .ref a ∧ SqL K H a xs ∧ RDs K mg ρ H ds xs := by
  cases d with
  | fz es =>
    cases e
    obtain ⟨a, xs, rfl, q, r⟩ := rd_fz h
    exact ⟨a, xs, rfl, q.sq, r⟩
  | fl es =>
    obtain ⟨a, xs, rfl, q, r⟩ := lstOwn_ok R h (show lstOwn S (.fl es) = some ds from e)
    exact ⟨a, xs, rfl, .of q, r⟩
  | ref n =>
    obtain ⟨a, xs, rfl, q, r⟩ := lstOwn_ok R h (show lstOwn S (.ref n) = some ds from e)
    exact ⟨a, xs, rfl, .of q, r⟩
  | _ => cases e
theorem tupOf_ok (h : RD K mg ρ H d v) (e : tupOf d = some ds) : ∃ a xs, v = .ref a ∧ SqT K H a xs ∧ RDs K mg ρ H ds xs := by
  cases d with
  | tup es =>
    cases e
    obtain ⟨a, xs, rfl, q, r⟩ := rd_tup h
    exact ⟨a, xs, rfl, q.sq, r⟩
  | _ => cases e
end
/-! ### ints -/
def gInt (c : Int → Int → Bool) (g : Int → Int → D) : Store → D → D → Option Gv := fun _ x y => match x, y with
  | .int i, .int j => if c i j = true then some (.d (g i j)) else none
  | _, _ => none
section
variable {X : Cx}
theorem opm_int {C : Int → Int → Prop} {g' : Int → Int → V} {c : Int → Int → Bool} {g : Int → Int → D} (hc : ∀ i j, c i j = true → C i j) (hg : ∀ i j ρ H, RD X.K X.mg ρ H (g i j) (g' i j)) : OpM X (rI C g') (gInt c g) := by
  intro T ρ S H x y v u Q R hx hy o
  cases x with
  | int i =>
    cases y with
    | int j =>
      have o : GvOk X ρ H (if c i j = true then some (.d (g i j)) else none) Q := o
      split at o
      · rename_i h
        exact ⟨i, j, rd_int hx, rd_int hy, hc i j h, o _ (hg i j ρ H)⟩
      · exact o.elim
    | _ => exact o.elim
  | _ => exact o.elim
theorem opm_int0 {g' : Int → Int → V} {g : Int → Int → D} (hg : ∀ i j ρ H, RD X.K X.mg ρ H (g i j) (g' i j)) : OpM X (rI0 g') (gInt (fun _ _ => true) g) := by
  intro T ρ S H x y v u Q R hx hy o
  cases x with
  | int i =>
    cases y with
    | int j => exact ⟨i, j, rd_int hx, rd_int hy, o _ (hg i j ρ H)⟩
    | _ => exact o.elim
  | _ => exact o.elim
/-- one rule or another -/
def gOr (g g' : Store → D → D → Option Gv) : Store → D → D → Option Gv := fun S x y => match g S x y with
  | some r => some r
  | none => g' S x y
theorem OpM.or {r r' : R2} {g g' : Store → D → D → Option Gv} (h : OpM X r g) (h' : OpM X r' g') : OpM X (fun x y H Q => r x y H Q ∨ r' x y H Q) (gOr g g') := by
  intro T ρ S H x y v u Q R hx hy o
  unfold gOr at o
  cases e : g S x y with
  | some z => rw [e] at o; exact .inl (h T ρ S H x y v u Q R hx hy (by rw [e]; exact o))
  | none => rw [e] at o; exact .inr (h' T ρ S H x y v u Q R hx hy o)
end
/-! ### the operators -/
def catT : List D → List D → Option Gv
  | [], es => some (.d (.tup es))
  | d :: ds, [] => some (.d (.tup (d :: ds)))
  | d :: ds, e :: es => some (.t (d :: ds ++ e :: es))
def gAdd : Store → D → D → Option Gv := fun S x y => match x, y with
  | .int i, .int j => some (.d (.int (i + j)))
  | .str a, .str b => if a.length + b.length ≤ 16777216 then some (.d (.str (a ++ b))) else none
  | .tup ds, .tup es => if ds.length + es.length ≤ 16777216 then catT ds es else none
  | x, y => (match lstOwn S x, lstOwn S y with
    | some ds, some es => if ds.length + es.length ≤ 16777216 then some (.l (ds ++ es)) else none
    | _, _ => none)
def rAddA (K : PySem.W.Frag) : R2 := fun x y H Q => (rI0 (fun i j => .int (i + j)) x y H Q) ∨ ((∃ i j, x = .str i ∧ y = .str j ∧ i.length + j.length ≤ sizeLine ∧ Q (.str (i ++ j)) H) ∨ (rCatA K x y H Q ∨ rCat x y H Q))
section
variable {X : Cx}
theorem or_add : OpR X (binaryOp .Add) (rAddA X.K) := op_add.or (op_add_str.or (op_catA.or op_cat))
theorem om_add : OpM X (rAddA X.K) gAdd := by
  intro T ρ S H x y v u Q R hx hy o
  have hz : sizeLine = 16777216 := sizeLine_eq
  have lists : ∀ {ds es : List D}, lstOwn S x = some ds → lstOwn S y = some es → GvOk X ρ H (if ds.length + es.length ≤ 16777216 then some (.l (ds ++ es)) else none) Q → rAddA X.K v u H Q := fun {ds es} e1 e2 o => by
    obtain ⟨a, xs, rfl, q, r⟩ := lstOwn_ok R hx e1
    obtain ⟨b, ys, rfl, q', r'⟩ := lstOwn_ok R hy e2
    split at o
    · rename_i hl
      exact .inr (.inr (.inr ⟨a, b, xs, ys, rfl, rfl, q, q', by rw [r.length, r'.length]; omega, fun p hp => o.2 p _ hp (r.append r')⟩))
    · exact o.elim
  have lists' : GvOk X ρ H (match lstOwn S x, lstOwn S y with
    | some ds, some es => if ds.length + es.length ≤ 16777216 then some (.l (ds ++ es)) else none
    | _, _ => none) Q → rAddA X.K v u H Q := fun o => by
    cases e1 : lstOwn S x with
    | none => rw [e1] at o; exact o.elim
    | some ds =>
      cases e2 : lstOwn S y with
      | none => rw [e1, e2] at o; exact o.elim
      | some es => rw [e1, e2] at o; exact lists e1 e2 o
  cases x with
  | int i =>
    cases y with
    | int j => exact .inl ⟨i, j, rd_int hx, rd_int hy, o _ mk_int⟩
    | _ => exact lists' o
  | str a =>
    cases y with
    | str b =>
      have o : GvOk X ρ H (if a.length + b.length ≤ 16777216 then some (.d (.str (a ++ b))) else none) Q := o
      split at o
      · rename_i hl
        exact .inr (.inl ⟨a, b, rd_str hx, rd_str hy, by omega, o _ mk_str⟩)
      · exact o.elim
    | _ => exact lists' o
  | tup ds =>
    cases y with
    | tup es =>
      have o : GvOk X ρ H (if ds.length + es.length ≤ 16777216 then catT ds es else none) Q := o
      split at o
      · rename_i hl
        have hx0 := hx
        have hy0 := hy
        obtain ⟨a, xs, rfl, q, r⟩ := rd_tup hx
        obtain ⟨b, ys, rfl, q', r'⟩ := rd_tup hy
        refine .inr (.inr (.inl ⟨a, b, xs, ys, rfl, rfl, q.sq, q'.sq, by rw [r.length, r'.length]; omega, fun e => ?_, fun e1 e2 => ?_, fun e1 e2 => ?_⟩))
        · have l := r.length
          rw [e] at l
          cases ds with
          | nil => exact o _ hy0
          | cons _ _ => cases l
        · have l := r.length
          have l' := r'.length
          rw [e2] at l'
          cases ds with
          | nil => exact absurd (List.length_eq_zero_iff.mp l) e1
          | cons d dt =>
            cases es with
            | nil => exact o _ hx0
            | cons _ _ => cases l'
        · have l := r.length
          have l' := r'.length
          intro p hp
          cases ds with
          | nil => exact absurd (List.length_eq_zero_iff.mp l) e1
          | cons d dt =>
            cases es with
            | nil => exact absurd (List.length_eq_zero_iff.mp l') e2
            | cons d' dt' => exact o.2 p _ hp (r.append r')
      · exact o.elim
    | _ => exact lists' o
  | _ => exact lists' o
def gSub := gInt (fun _ _ => true) fun i j => .int (i - j)
theorem om_sub : OpM X (rI0 fun i j => .int (i - j)) gSub := opm_int0 fun _ _ _ _ => mk_int
def cMul (i j : Int) : Bool := (decide (-(2 ^ 64) < i) && decide (i < 2 ^ 64)) || (decide (-(2 ^ 64) < j) && decide (j < 2 ^ 64))
theorem cMul_ok {i j : Int} (h : cMul i j = true) : CMul i j := by
  unfold cMul at h
  simp only [Bool.or_eq_true, Bool.and_eq_true, decide_eq_true_eq] at h
  exact h
def gMul := gInt cMul fun i j => .int (i * j)
theorem om_mul : OpM X (rI CMul fun i j => .int (i * j)) gMul := opm_int (fun _ _ h => cMul_ok h) fun _ _ _ _ => mk_int
def gMod := gInt (fun _ j => decide (0 < j)) fun i j => .int (i % j)
theorem om_mod : OpM X (rI (fun _ j => 0 < j) fun i j => .int (i % j)) gMod := opm_int (fun _ _ h => of_decide_eq_true h) fun _ _ _ _ => mk_int
def cDiv (_ j : Int) : Bool := decide (0 < j) && decide (j < 1073741824)
def gDiv := gInt cDiv fun i j => .int (i / j)
theorem om_div : OpM X (rI CDiv fun i j => .int (i / j)) gDiv := opm_int (fun _ _ h => by unfold cDiv at h; simp only [Bool.and_eq_true, decide_eq_true_eq] at h; exact h) fun _ _ _ _ => mk_int
def cPow (i j : Int) : Bool := decide (0 ≤ j) && decide (j ≤ 1000000) && decide (i.natAbs < 2 ^ 64)
def gPow := gInt cPow fun i j => .int (i ^ j.toNat)
theorem om_pow : OpM X (rI CPow fun i j => .int (i ^ j.toNat)) gPow := opm_int (fun _ _ h => by unfold cPow at h; simp only [Bool.and_eq_true, decide_eq_true_eq] at h; exact ⟨h.1.1, h.1.2, h.2⟩) fun _ _ _ _ => mk_int
end
/-! ### data as a whole -/
mutual
def pdR (r : Nat → Option PyData) : D → Option PyData
  | .non => some .none
  | .bl b => some (.bool b)
  | .int i => some (.int i)
  | .str x => some (.str x)
  | .tup ds => (pdRs r ds).map .tuple
  | .fl ds => (pdRs r ds).map .list
  | .fz ds => (pdRs r ds).map .list
  | .ref n => r n
  | _ => none
def pdRs (r : Nat → Option PyData) : List D → Option (List PyData)
  | [] => some []
  | d :: ds => match pdR r d, pdRs r ds with
    | some p, some ps => some (p :: ps)
    | _, _ => none
end
def pdK (S : Store) : Nat → Nat → Option PyData
  | 0, _ => none
  | k + 1, n => match S[n]? with
    | some (.lst ds) => (pdRs (pdK S k) ds).map .list
    | _ => none
def toP (S : Store) (d : D) : Option PyData := pdR (pdK S 4) d
section
variable {K : PySem.W.Frag} {mg : Str → Option Value} {T : List NdefX.NTab} {ρ : Rho} {S : Store} {H : Hp}
mutual
theorem pdR_ok {r : Nat → Option PyData} (hr : ∀ n p a, r n = some p → ρ.c[n]? = some a → Dp K H (.ref a) p) : ∀ (d : D) (v : V) (p : PyData), RD K mg ρ H d v → pdR r d = some p → Dp K H v p
  | .non, v, p, h, e => by
    unfold pdR at e; cases e; rw [rd_non h]; exact .non
  | .bl b, v, p, h, e => by
    unfold pdR at e; cases e; rw [rd_bl h]; exact .bl b
  | .int i, v, p, h, e => by
    unfold pdR at e; cases e; rw [rd_int h]; exact .int i
  | .str x, v, p, h, e => by
    unfold pdR at e; cases e; rw [rd_str h]; exact .str x
  | .ty n, v, p, h, e => by
    unfold pdR at e; cases e
  | .gl n, v, p, h, e => by
    unfold pdR at e; cases e
  | .ob c fs, v, p, h, e => by
    unfold pdR at e; cases e
  | .ref n, v, p, h, e => by
    unfold pdR at e
    obtain ⟨a, rfl, q⟩ := rd_ref h
    exact hr n p a e q
  | .tup ds, v, p, h, e => by
    unfold pdR at e
    obtain ⟨a, xs, rfl, q, rr⟩ := rd_tup h
    cases e2 : pdRs r ds with
    | none => rw [e2] at e; cases e
    | some ps => rw [e2] at e; cases e; exact .tup q.sq (pdRs_ok hr ds xs ps rr e2)
  | .fl ds, v, p, h, e => by
    unfold pdR at e
    obtain ⟨a, xs, rfl, q, rr⟩ := rd_fl h
    cases e2 : pdRs r ds with
    | none => rw [e2] at e; cases e
    | some ps => rw [e2] at e; cases e; exact .lst (.of q.1) (pdRs_ok hr ds xs ps rr e2)
  | .fz ds, v, p, h, e => by
    unfold pdR at e
    obtain ⟨a, xs, rfl, q, rr⟩ := rd_fz h
    cases e2 : pdRs r ds with
    | none => rw [e2] at e; cases e
    | some ps => rw [e2] at e; cases e; exact .lst q.sq (pdRs_ok hr ds xs ps rr e2)
theorem pdRs_ok {r : Nat → Option PyData} (hr : ∀ n p a, r n = some p → ρ.c[n]? = some a → Dp K H (.ref a) p) : ∀ (ds : List D) (vs : List V) (ps : List PyData), RDs K mg ρ H ds vs → pdRs r ds = some ps → DpAll K H vs ps
  | [], vs, ps, h, e => by
    unfold pdRs at e; cases e; rw [RDs.nil_iff.mp h]; exact .nil
  | d :: ds, vs, ps, h, e => by
    unfold pdRs at e
    obtain ⟨v, r', rfl, h1, h2⟩ := RDs.cons_iff.mp h
    cases e1 : pdR r d with
    | none => rw [e1] at e; cases e
    | some p =>
      cases e2 : pdRs r ds with
      | none => rw [e1, e2] at e; cases e
      | some ps' => rw [e1, e2] at e; cases e; exact .cons (pdR_ok hr d v p h1 e1) (pdRs_ok hr ds r' ps' h2 e2)
end
theorem pdK_ok (R : RS K mg T ρ S H) : ∀ (k n : Nat) (p : PyData) (a : Addr), pdK S k n = some p → ρ.c[n]? = some a → Dp K H (.ref a) p
  | 0, _, _, _, e, _ => by unfold pdK at e; cases e
  | k + 1, n, p, a, e, ha => by
    unfold pdK at e
    split at e
    · rename_i ds es
      obtain ⟨a', ha', xs, hx, r⟩ := R.cell n _ es
      rw [ha] at ha'; cases ha'
      cases e2 : pdRs (pdK S k) ds with
      | none => rw [e2] at e; cases e
      | some ps => rw [e2] at e; cases e; exact .lst (.of hx) (pdRs_ok (fun n p a => pdK_ok R k n p a) ds xs ps r e2)
    · cases e
theorem toP_ok (R : RS K mg T ρ S H) {d : D} {v : V} {p : PyData} (h : RD K mg ρ H d v) (e : toP S d = some p) : Dp K H v p := pdR_ok (fun n p a => pdK_ok R 4 n p a) d v p h e
end
/-- two data without parts: alike? (ints and bools of one kind) -/
def eqF : D → D → Option Bool
  | .non, .non => some true
  | .bl a, .bl b => some (a == b)
  | .int a, .int b => some (decide (a = b))
  | .str a, .str b => some (decide (a = b))
  | _, _ => none
def eqD (S : Store) (x y : D) : Option Bool := match eqF x y with
  | some b => some b
  | none => match toP S x, toP S y with
    | some p, some q => if (SeqAt.shaped p && SeqAt.shaped q) = true then some (PyData.eqv p q) else none
    | _, _ => none
def gEq : Store → D → D → Option Gv := fun S x y => (eqD S x y).map fun b => .d (.bl b)
def gNe : Store → D → D → Option Gv := fun S x y => (eqD S x y).map fun b => .d (.bl (!b))
section
variable {X : Cx}
theorem eqF_ok {ρ : Rho} {H : Hp} {x y : D} {v u : V} {b : Bool} (hx : RD X.K X.mg ρ H x v) (hy : RD X.K X.mg ρ H y u) (e : eqF x y = some b) : scal v u = true ∧ decide (v = u) = b := by
  cases x with
  | non =>
    cases y with
    | non => cases e; rw [rd_non hx, rd_non hy]; exact ⟨rfl, by simp⟩
    | _ => cases e
  | bl a =>
    cases y with
    | bl c => cases e; rw [rd_bl hx, rd_bl hy]; exact ⟨rfl, by rw [dec_bl]⟩
    | _ => cases e
  | int a =>
    cases y with
    | int c => cases e; rw [rd_int hx, rd_int hy]; exact ⟨rfl, by simp⟩
    | _ => cases e
  | str a =>
    cases y with
    | str c => cases e; rw [rd_str hx, rd_str hy]; exact ⟨rfl, by simp⟩
    | _ => cases e
  | _ => cases e
def rEqA (K : PySem.W.Frag) : R2 := fun x y H Q => rEq x y H Q ∨ rEqD K x y H Q
def rNeA (K : PySem.W.Frag) : R2 := fun x y H Q => rNe x y H Q ∨ rNeD K x y H Q
theorem eqD_inv {S : Store} {x y : D} {b : Bool} (e : eqD S x y = some b) : eqF x y = some b ∨ ∃ p q, toP S x = some p ∧ toP S y = some q ∧ SeqAt.shaped p = true ∧ SeqAt.shaped q = true ∧ b = PyData.eqv p q := by
  unfold eqD at e
  cases ef : eqF x y with
  | some c => rw [ef] at e; exact .inl e
  | none =>
    rw [ef] at e
    right
    cases e1 : toP S x with
    | none => rw [e1] at e; cases e
    | some p =>
      cases e2 : toP S y with
      | none => rw [e1, e2] at e; cases e
      | some q =>
        rw [e1, e2] at e
        dsimp only at e
        split at e
        · rename_i hs
          cases e
          exact ⟨p, q, rfl, rfl, (Bool.and_eq_true_iff.mp hs).1, (Bool.and_eq_true_iff.mp hs).2, rfl⟩
        · cases e
theorem om_eq : OpM X (rEqA X.K) gEq := by
  intro T ρ S H x y v u Q R hx hy o
  unfold gEq at o
  cases e : eqD S x y with
  | none => rw [e] at o; exact o.elim
  | some b =>
    rw [e] at o
    rcases eqD_inv e with e1 | ⟨p, q, e1, e2, s1, s2, rfl⟩
    · obtain ⟨z, w⟩ := eqF_ok hx hy e1
      exact .inl ⟨z, by rw [w]; exact o _ mk_bl⟩
    · exact .inr ⟨p, q, toP_ok R hx e1, toP_ok R hy e2, s1, s2, o _ mk_bl⟩
theorem om_ne : OpM X (rNeA X.K) gNe := by
  intro T ρ S H x y v u Q R hx hy o
  unfold gNe at o
  cases e : eqD S x y with
  | none => rw [e] at o; exact o.elim
  | some b =>
    rw [e] at o
    rcases eqD_inv e with e1 | ⟨p, q, e1, e2, s1, s2, rfl⟩
    · obtain ⟨z, w⟩ := eqF_ok hx hy e1
      exact .inl ⟨z, by rw [w]; exact o _ mk_bl⟩
    · exact .inr ⟨p, q, toP_ok R hx e1, toP_ok R hy e2, s1, s2, o _ mk_bl⟩
theorem or_eq {k : Nat} {F : Fm} (fx : FX X F k) : OpR X (compareOp .Eq) (rEqA X.K) := op_eq.or (op_eqD fx.room.units)
theorem or_ne {k : Nat} {F : Fm} (fx : FX X F k) : OpR X (compareOp .NotEq) (rNeA X.K) := op_ne.or (op_neD fx.room.units)
/-! ### order, is, in -/
def gLt : Store → D → D → Option Gv := fun _ x y => match x, y with
  | .int i, .int j => some (.d (.bl (decide (i < j))))
  | .str a, .str b => some (.d (.bl (decide (a.cps.toList < b.cps.toList))))
  | _, _ => none
def rLtA : R2 := fun x y H Q => rI0 (fun i j => .bl (decide (i < j))) x y H Q ∨ ∃ i j, x = .str i ∧ y = .str j ∧ Q (.bl (decide (i.cps.toList < j.cps.toList))) H
theorem or_lt : OpR X (compareOp .Lt) rLtA := op_lt.or op_lt_str
theorem om_lt : OpM X rLtA gLt := by
  intro T ρ S H x y v u Q R hx hy o
  cases x with
  | int i =>
    cases y with
    | int j => exact .inl ⟨i, j, rd_int hx, rd_int hy, o _ mk_bl⟩
    | _ => exact o.elim
  | str i =>
    cases y with
    | str j => exact .inr ⟨i, j, rd_str hx, rd_str hy, o _ mk_bl⟩
    | _ => exact o.elim
  | _ => exact o.elim
def gLe := gInt (fun _ _ => true) fun i j => .bl (decide (i ≤ j))
theorem om_le : OpM X (rI0 fun i j => .bl (decide (i ≤ j))) gLe := opm_int0 fun _ _ _ _ => mk_bl
def gGt := gInt (fun _ _ => true) fun i j => .bl (decide (j < i))
theorem om_gt : OpM X (rI0 fun i j => .bl (decide (j < i))) gGt := opm_int0 fun _ _ _ _ => mk_bl
def gGe := gInt (fun _ _ => true) fun i j => .bl (decide (j ≤ i))
theorem om_ge : OpM X (rI0 fun i j => .bl (decide (j ≤ i))) gGe := opm_int0 fun _ _ _ _ => mk_bl
def isNon : D → Bool
  | .non => true
  | _ => false
theorem isNon_ok {ρ : Rho} {H : Hp} {x : D} {v : V} (h : RD X.K X.mg ρ H x v) : decide (v = .non) = isNon x := by
  cases x with
  | non => rw [rd_non h]; simp [isNon]
  | bl _ => rw [rd_bl h]; simp [isNon]
  | int _ => rw [rd_int h]; simp [isNon]
  | str _ => rw [rd_str h]; simp [isNon]
  | ty _ => rw [rd_ty h]; simp [isNon]
  | gl _ => unfold RD at h; obtain ⟨a, rfl, _⟩ := h; simp [isNon]
  | ref _ => obtain ⟨a, rfl, _⟩ := rd_ref h; simp [isNon]
  | tup _ => obtain ⟨a, _, rfl, _⟩ := rd_tup h; simp [isNon]
  | fl _ => obtain ⟨a, _, rfl, _⟩ := rd_fl h; simp [isNon]
  | fz _ => obtain ⟨a, _, rfl, _⟩ := rd_fz h; simp [isNon]
  | ob _ _ => unfold RD at h; obtain ⟨a, _, _, _, rfl, _⟩ := h; simp [isNon]
def gIsN : Store → D → D → Option Gv := fun _ x y => if isNon y = true then some (.d (.bl (isNon x))) else none
def gNotN : Store → D → D → Option Gv := fun _ x y => if isNon y = true then some (.d (.bl (!isNon x))) else none
theorem non_of {ρ : Rho} {H : Hp} {y : D} {u : V} (hy : RD X.K X.mg ρ H y u) (h : isNon y = true) : u = .non := by
  cases y with
  | non => exact rd_non hy
  | _ => cases h
theorem om_isN : OpM X (fun x y H Q => y = .non ∧ Q (.bl (decide (x = .non))) H) gIsN := by
  intro T ρ S H x y v u Q R hx hy o
  unfold gIsN at o
  split at o
  · rename_i h
    exact ⟨non_of hy h, by rw [isNon_ok hx]; exact o _ mk_bl⟩
  · exact o.elim
theorem om_notN : OpM X (fun x y H Q => y = .non ∧ Q (.bl (!decide (x = .non))) H) gNotN := by
  intro T ρ S H x y v u Q R hx hy o
  unfold gNotN at o
  split at o
  · rename_i h
    exact ⟨non_of hy h, by rw [isNon_ok hx]; exact o _ mk_bl⟩
  · exact o.elim
end
end M3

set_option Elab.async false
set_option linter.all false
set_option maxRecDepth 100000
set_option maxHeartbeats 1000000
/-! M3G: in, len, items, slices, methods of lists, built-ins. -/
namespace M3
open PySem PySem.Spec L2
/-! ### in -/
def toV : D → Option V
  | .non => some .non
  | .bl b => some (.bl b)
  | .int i => some (.int i)
  | .str x => some (.str x)
  | _ => none
def toVs : List D → Option (List V)
  | [] => some []
  | d :: ds => match toV d, toVs ds with
    | some v, some vs => some (v :: vs)
    | _, _ => none
section
variable {K : PySem.W.Frag} {mg : Str → Option Value} {T : List NdefX.NTab} {ρ : Rho} {S : Store} {H : Hp}
theorem toV_ok {d : D} {v u : V} (h : RD K mg ρ H d v) (e : toV d = some u) : v = u ∧ flatV u = true := by
  cases d with
  | non => cases e; exact ⟨rd_non h, rfl⟩
  | bl b => cases e; exact ⟨rd_bl h, rfl⟩
  | int b => cases e; exact ⟨rd_int h, rfl⟩
  | str b => cases e; exact ⟨rd_str h, rfl⟩
  | _ => cases e
theorem toVs_ok : ∀ {ds : List D} {vs us : List V}, RDs K mg ρ H ds vs → toVs ds = some us → vs = us ∧ us.all flatV = true
  | [], vs, us, h, e => by cases e; exact ⟨RDs.nil_iff.mp h, rfl⟩
  | d :: ds, vs, us, h, e => by
    obtain ⟨v, r, rfl, h1, h2⟩ := RDs.cons_iff.mp h
    unfold toVs at e
    cases e1 : toV d with
    | none => rw [e1] at e; cases e
    | some u =>
      cases e2 : toVs ds with
      | none => rw [e1, e2] at e; cases e
      | some us' =>
        rw [e1, e2] at e
        cases e
        obtain ⟨a, b⟩ := toV_ok h1 e1
        obtain ⟨a', b'⟩ := toVs_ok h2 e2
        refine ⟨by rw [a, a'], ?_⟩
        rw [List.all_cons, b, b']
        rfl
end
def seqOf (S : Store) (y : D) : Option (List D) := match tupOf y with
  | some ds => some ds
  | none => lstOf S y
/-- x in y: a sign in a text; a datum without parts in a list, a tuple of such; any data in a list -/
def inD (S : Store) (x y : D) : Option Bool := match x, y with
  | .str a, .str z => (match a.cps.toList with
    | [c] => some (decide (c ∈ z.cps.toList))
    | _ => none)
  | x, y => match seqOf S y with
    | none => none
    | some ds => match toV x, toVs ds with
      | some u, some us => some (inV u us)
      | _, _ => match toP S x, toP S y with
        | some p, some (.list qs) => if (SeqAt.shaped p && SeqAt.shaped (.list qs)) = true then some (qs.any fun z => PyData.eqv z p) else none
        | _, _ => none
def gIn : Store → D → D → Option Gv := fun S x y => (inD S x y).map fun b => .d (.bl b)
def gNotIn : Store → D → D → Option Gv := fun S x y => (inD S x y).map fun b => .d (.bl (!b))
def rInA (K : PySem.W.Frag) (neg : Bool) : R2 := fun x y H Q => (∃ (c : Nat) (z : Str), x = .str ⟨#[c]⟩ ∧ y = .str z ∧ Q (.bl (if neg then !decide (c ∈ z.cps.toList) else decide (c ∈ z.cps.toList))) H) ∨ (rIn K neg x y H Q ∨
  ∃ d ds, Dp K H x d ∧ Dp K H y (.list ds) ∧ SeqAt.shaped d = true ∧ SeqAt.shaped (.list ds) = true ∧ Q (.bl (if neg then !(ds.any fun z => PyData.eqv z d) else ds.any fun z => PyData.eqv z d)) H)
section
variable {X : Cx} {k : Nat} {F : Fm}
theorem or_in (fx : FX X F k) : OpR X (compareOp .In) (rInA X.K false) := by
  have hu : X.A.units + 65 < cLine := by have := fx.room.un; omega
  intro pins s σ H x y v u Q I rx ry h
  rcases h with ⟨c, z, e1, e2, q⟩ | h | ⟨d, ds, h1, h2, h3, h4, q⟩
  · exact op_in_sign pins s σ H x y v u Q I rx ry ⟨c, z, e1, e2, q⟩
  · exact op_in_seq pins s σ H x y v u Q I rx ry h
  · exact op_inD hu pins s σ H x y v u Q I rx ry ⟨d, ds, h1, h2, h3, h4, q⟩
theorem or_notin (fx : FX X F k) : OpR X (compareOp .NotIn) (rInA X.K true) := by
  have hu : X.A.units + 65 < cLine := by have := fx.room.un; omega
  intro pins s σ H x y v u Q I rx ry h
  rcases h with ⟨c, z, e1, e2, q⟩ | h | ⟨d, ds, h1, h2, h3, h4, q⟩
  · exact op_notIn_sign pins s σ H x y v u Q I rx ry ⟨c, z, e1, e2, q⟩
  · exact op_notIn_seq pins s σ H x y v u Q I rx ry h
  · exact op_notInD hu pins s σ H x y v u Q I rx ry ⟨d, ds, h1, h2, h3, h4, q⟩
theorem seqOf_ok {T : List NdefX.NTab} {ρ : Rho} {S : Store} {H : Hp} {d : D} {v : V} {ds : List D} (R : RS X.K X.mg T ρ S H) (h : RD X.K X.mg ρ H d v) (e : seqOf S d = some ds) : ∃ a xs, v = .ref a ∧ (SqL X.K H a xs ∨ SqT X.K H a xs) ∧ RDs X.K X.mg ρ H ds xs := by
  unfold seqOf at e
  cases e1 : tupOf d with
  | some es =>
    rw [e1] at e; cases e
    obtain ⟨a, xs, e, q, r⟩ := tupOf_ok h e1
    exact ⟨a, xs, e, .inr q, r⟩
  | none =>
    rw [e1] at e
    obtain ⟨a, xs, e, q, r⟩ := lstOf_ok R h e
    exact ⟨a, xs, e, .inl q, r⟩
theorem inD_ok {neg : Bool} {T : List NdefX.NTab} {ρ : Rho} {S : Store} {H : Hp} {x y : D} {v u : V} {b : Bool} {Q : VK} (R : RS X.K X.mg T ρ S H) (hx : RD X.K X.mg ρ H x v) (hy : RD X.K X.mg ρ H y u) (e : inD S x y = some b) (q : Q (.bl (if neg then !b else b)) H) : rInA X.K neg v u H Q := by
  have gen : (match seqOf S y with
    | none => none
    | some ds => match toV x, toVs ds with
      | some u, some us => some (inV u us)
      | _, _ => match toP S x, toP S y with
        | some p, some (.list qs) => if (SeqAt.shaped p && SeqAt.shaped (.list qs)) = true then some (qs.any fun z => PyData.eqv z p) else none
        | _, _ => none) = some b → rInA X.K neg v u H Q := fun e => by
    have deep : (match toP S x, toP S y with
        | some p, some (.list qs) => if (SeqAt.shaped p && SeqAt.shaped (.list qs)) = true then some (qs.any fun z => PyData.eqv z p) else none
        | _, _ => none) = some b → rInA X.K neg v u H Q := fun e => by
      split at e
      · rename_i p qs e1 e2
        split at e
        · rename_i hs
          cases e
          exact .inr (.inr ⟨p, qs, toP_ok R hx e1, toP_ok R hy e2, (Bool.and_eq_true_iff.mp hs).1, (Bool.and_eq_true_iff.mp hs).2, q⟩)
        · cases e
      · cases e
    cases es : seqOf S y with
    | none => rw [es] at e; cases e
    | some ds =>
      rw [es] at e
      dsimp only at e
      cases e1 : toV x with
      | none => rw [e1] at e; exact deep e
      | some z =>
        cases e2 : toVs ds with
        | none => rw [e1, e2] at e; exact deep e
        | some us =>
          rw [e1, e2] at e
          cases e
          obtain ⟨a, xs, rfl, hq, r⟩ := seqOf_ok R hy es
          obtain ⟨a1, a2⟩ := toV_ok hx e1
          obtain ⟨b1, b2⟩ := toVs_ok r e2
          subst a1 b1
          exact .inr (.inl ⟨a, xs, rfl, hq, a2, b2, q⟩)
  cases x with
  | str a =>
    cases y with
    | str z =>
      have e : (match a.cps.toList with
        | [c] => some (decide (c ∈ z.cps.toList))
        | _ => none) = some b := e
      split at e
      · rename_i c ec
        cases e
        have ea : a = ⟨#[c]⟩ := by
          obtain ⟨cps⟩ := a
          have : cps = #[c] := Array.toList_inj.mp (by simpa using ec)
          rw [this]
        rw [ea] at hx
        exact .inl ⟨c, z, rd_str hx, rd_str hy, q⟩
      · cases e
    | _ => exact gen e
  | _ => exact gen e
theorem om_in : OpM X (rInA X.K false) gIn := by
  intro T ρ S H x y v u Q R hx hy o
  unfold gIn at o
  cases e : inD S x y with
  | none => rw [e] at o; exact o.elim
  | some b => rw [e] at o; exact inD_ok R hx hy e (o _ mk_bl)
theorem om_notin : OpM X (rInA X.K true) gNotIn := by
  intro T ρ S H x y v u Q R hx hy o
  unfold gNotIn at o
  cases e : inD S x y with
  | none => rw [e] at o; exact o.elim
  | some b => rw [e] at o; exact inD_ok R hx hy e (o _ mk_bl)
/-! ### items -/
def ixD (S : Store) (x y : D) : Option D := match y with
  | .int i => (match x with
    | .str z => if z.length ≤ 16777216 then (atI z.cps.toList i).map fun c => .str ⟨#[c]⟩ else none
    | x => (match seqOf S x with
      | some ds => atI ds i
      | none => none))
  | _ => none
def gIx : Store → D → D → Option Gv := fun S x y => (ixD S x y).map .d
def rIxA (K : PySem.W.Frag) : R2 := fun x y H Q => rIxL K x y H Q ∨ (rIxT K x y H Q ∨ rIxS x y H Q)
theorem or_ix : IxR X (rIxA X.K) := ix_list.or (ix_tup.or ix_str)
theorem atI_rds {K : PySem.W.Frag} {mg : Str → Option Value} {ρ : Rho} {H : Hp} {ds : List D} {xs : List V} {i : Int} {d : D} (r : RDs K mg ρ H ds xs) (e : atI ds i = some d) : ∃ v, atI xs i = some v ∧ RD K mg ρ H d v := by
  unfold atI at e ⊢
  rw [r.length]
  cases e1 : ixN ds.length i with
  | none => rw [e1] at e; cases e
  | some j =>
    rw [e1] at e
    exact r.get e
theorem om_ix : OpM X (rIxA X.K) gIx := by
  intro T ρ S H x y v u Q R hx hy o
  unfold gIx at o
  cases e : ixD S x y with
  | none => rw [e] at o; exact o.elim
  | some d =>
    rw [e] at o
    cases y with
    | int i =>
      rw [rd_int hy]
      have gen : (match seqOf S x with
        | some ds => atI ds i
        | none => none) = some d → rIxA X.K v (.int i) H Q := fun e => by
        cases es : seqOf S x with
        | none => rw [es] at e; cases e
        | some ds =>
          rw [es] at e
          obtain ⟨a, xs, rfl, hq, r⟩ := seqOf_ok R hx es
          obtain ⟨w, hw, rd⟩ := atI_rds r e
          rcases hq with hq | hq
          · exact .inl ⟨a, xs, i, w, rfl, rfl, hq, hw, o w rd⟩
          · exact .inr (.inl ⟨a, xs, i, w, rfl, rfl, hq, hw, o w rd⟩)
      cases x with
      | str z =>
        have e : (if z.length ≤ 16777216 then (atI z.cps.toList i).map fun c => D.str ⟨#[c]⟩ else none) = some d := e
        split at e
        · rename_i hz
          have hl : sizeLine = 16777216 := sizeLine_eq
          cases ec : atI z.cps.toList i with
          | none => rw [ec] at e; cases e
          | some c => rw [ec] at e; cases e; exact .inr (.inr ⟨z, i, c, rd_str hx, rfl, by omega, ec, o _ mk_str⟩)
        · cases e
      | _ => exact gen e
    | _ => cases e
theorem e_ix {a b : Expr} {ma mb : EM} {pos : Pos} (ha : PE X a (rdE X F ma)) (hb : PE X b (rdE X F mb)) (hs : PlainIx b) : PE X (.Subscript a b pos) (rdE X F (mBin false gIx ma mb)) :=
  PE.imp (pe_ix or_ix ha hb hs) fun _ _ _ h => rd_bin om_ix h
/-! ### slices -/
abbrev OM := Evs → Store → Rz (Option Int)
def rdO (X : Cx) (F : Fm) (m : OM) : TO := fun σ H Q => ∃ env S ρ, RE X.K X.mg F ρ H env σ ∧ RS X.K X.mg F.T ρ S H ∧ OutE X F σ ρ H (m env S) fun a _ _ H' => Q a H'
theorem PO.imp {e : Option Expr} {t t' : TO} (h : PO X e t) (i : ∀ σ H Q, t' σ H Q → t σ H Q) : PO X e t' := ⟨fun pins s σ H Q I q => h.run pins s σ H Q I (i σ H Q q)⟩
def mONone : OM := fun _ S => .ok none S
def mOSome (m : EM) : OM := fun env S => (m env S).bind fun d S1 => match d with
  | .int i => .ok (some i) S1
  | _ => .bad
theorem o_none : PO X none (rdO X F mONone) := PO.imp po_none fun σ H Q ⟨env, S, ρ, re, rs, o⟩ => o ρ H Aft.refl rs
theorem o_some {e : Expr} {m : EM} (h : PE X e (rdE X F m)) : PO X (some e) (rdO X F (mOSome m)) := by
  refine PO.imp (po_some h) fun σ H Q ⟨env, S, ρ, re, rs, o⟩ => ?_
  refine ⟨env, S, ρ, re, rs, (OutE.bind o).imp fun d ρ1 S1 H1 t1 R1 o1 v hv => ?_⟩
  cases d with
  | int i => exact ⟨i, rd_int hv, o1 ρ1 H1 Aft.refl R1⟩
  | _ => exact o1.elim
/-- xs[lo:hi] -/
def cutD (xs : List D) (lo hi : Option Int) : List D := (xs.drop (HT.sIx xs.length 0 lo)).take (HT.sIx xs.length xs.length hi - HT.sIx xs.length 0 lo)
def slD (S : Store) (x : D) (lo hi : Option Int) : Option Gv := match x with
  | .str z => if z.length ≤ 16777216 then some (.d (.str (Txt.slice z lo hi))) else none
  | .tup ds => if HT.sIx ds.length 0 lo = 0 ∧ HT.sIx ds.length ds.length hi = ds.length then some (.d (.tup ds)) else some (.t (cutD ds lo hi))
  | x => (lstOf S x).map fun ds => .l (cutD ds lo hi)
def rSlAll (K : PySem.W.Frag) : V → Option Int → Option Int → Hp → VK → Prop := fun x lo hi H Q => C8.rSlX x lo hi H Q ∨ (rSlA K x lo hi H Q ∨ rSlL K x lo hi H Q)
theorem or_sl : SlR X (rSlAll X.K) := C8.sl_txt.or (sl_tupA.or sl_list)
theorem cut_rds {K : PySem.W.Frag} {mg : Str → Option Value} {ρ : Rho} {H : Hp} {ds : List D} {xs : List V} (lo hi : Option Int) (r : RDs K mg ρ H ds xs) : RDs K mg ρ H (cutD ds lo hi) (cutV xs lo hi) := by
  unfold cutD cutV
  rw [r.length]
  exact (r.drop _).take _
theorem slD_ok {T : List NdefX.NTab} {ρ : Rho} {S : Store} {H : Hp} {x : D} {v : V} {lo hi : Option Int} {Q : VK} (R : RS X.K X.mg T ρ S H) (hx : RD X.K X.mg ρ H x v) (o : GvOk X ρ H (slD S x lo hi) Q) : rSlAll X.K v lo hi H Q := by
  have hl : sizeLine = 16777216 := sizeLine_eq
  have gen : GvOk X ρ H ((lstOf S x).map fun ds => .l (cutD ds lo hi)) Q → rSlAll X.K v lo hi H Q := fun o => by
    cases e : lstOf S x with
    | none => rw [e] at o; exact o.elim
    | some ds =>
      rw [e] at o
      obtain ⟨a, xs, rfl, q, r⟩ := lstOf_ok R hx e
      exact .inr (.inr ⟨a, xs, rfl, q, fun p hp => o.2 p _ hp (cut_rds lo hi r)⟩)
  cases x with
  | str z =>
    have o : GvOk X ρ H (if z.length ≤ 16777216 then some (.d (.str (Txt.slice z lo hi))) else none) Q := o
    split at o
    · exact .inl ⟨z, rd_str hx, by omega, o _ mk_str⟩
    · exact o.elim
  | tup ds =>
    have o : GvOk X ρ H (if HT.sIx ds.length 0 lo = 0 ∧ HT.sIx ds.length ds.length hi = ds.length then some (.d (.tup ds)) else some (.t (cutD ds lo hi))) Q := o
    have hx0 := hx
    obtain ⟨a, xs, rfl, q, r⟩ := rd_tup hx
    refine .inr (.inl ⟨a, xs, rfl, q.sq, fun h => ?_, fun h p hp => ?_⟩)
    · rw [r.length] at h
      rw [if_pos h] at o
      exact o _ hx0
    · rw [r.length] at h
      rw [if_neg h] at o
      exact o.2 p _ hp (cut_rds lo hi r)
  | _ => exact gen o
def mSl (al : Bool) (me : EM) (ml mh : OM) : EM := fun env S => (me env S).bind fun x S1 => (ml env S1).bind fun lo S2 => (mh env S2).bind fun hi S3 => Gv.fin al (slD S3 x lo hi) S3
theorem e_sl (al : Bool) {e : Expr} {lo hi : Option Expr} {me : EM} {ml mh : OM} {p2 pos : Pos} (he : PE X e (rdE X F me)) (hl : PO X lo (rdO X F ml)) (hh : PO X hi (rdO X F mh)) : PE X (.Subscript e (.Slice lo hi none p2) pos) (rdE X F (mSl al me ml mh)) := by
  refine PE.imp (pe_slice or_sl he hl hh) fun σ H Q ⟨env, S, ρ, re, rs, o⟩ => ?_
  refine ⟨env, S, ρ, re, rs, (OutE.bind o).imp fun x ρ1 S1 H1 t1 R1 o1 v hv => ?_⟩
  refine ⟨env, S1, ρ1, re.later t1, R1, (OutE.bind o1).imp fun lo ρ2 S2 H2 t2 R2 o2 => ?_⟩
  refine ⟨env, S2, ρ2, re.later (t1.trans t2), R2, (OutE.bind o2).imp fun hi ρ3 S3 H3 t3 R3 o3 => ?_⟩
  exact slD_ok R3 (hv.later (t2.trans t3).mv) (GvOk.of R3 o3)
/-! ### built-ins -/
def gLen : Store → List D → Option Gv := fun S xs => match xs with
  | [.str z] => if z.length ≤ 16777216 then some (.d (.int z.length)) else none
  | [x] => (seqOf S x).map fun ds => .d (.int ds.length)
  | _ => none
theorem one_rds {K : PySem.W.Frag} {mg : Str → Option Value} {ρ : Rho} {H : Hp} {d : D} {vs : List V} (h : RDs K mg ρ H [d] vs) : ∃ v, vs = [v] ∧ RD K mg ρ H d v := by
  obtain ⟨v, r, rfl, h1, h2⟩ := RDs.cons_iff.mp h
  rw [RDs.nil_iff.mp h2]
  exact ⟨v, rfl, h1⟩
theorem two_rds {K : PySem.W.Frag} {mg : Str → Option Value} {ρ : Rho} {H : Hp} {d e : D} {vs : List V} (h : RDs K mg ρ H [d, e] vs) : ∃ v u, vs = [v, u] ∧ RD K mg ρ H d v ∧ RD K mg ρ H e u := by
  obtain ⟨v, r, rfl, h1, h2⟩ := RDs.cons_iff.mp h
  obtain ⟨u, rfl, h3⟩ := one_rds h2
  exact ⟨v, u, rfl, h1, h3⟩
theorem om_len : ClM X (fun xs H Q => ∃ x n, xs = [x] ∧ LenV X.K x H n ∧ Q (.int n) H) gLen := by
  intro T ρ S H xs vs Q R hx o
  have hl : sizeLine = 16777216 := sizeLine_eq
  match xs, hx, o with
  | [], hx, o => exact o.elim
  | [x], hx, o =>
    obtain ⟨v, rfl, h⟩ := one_rds hx
    have gen : GvOk X ρ H ((seqOf S x).map fun ds => .d (.int ds.length)) Q → ∃ x n, [v] = [x] ∧ LenV X.K x H n ∧ Q (.int n) H := fun o => by
      cases e : seqOf S x with
      | none => rw [e] at o; exact o.elim
      | some ds =>
        rw [e] at o
        obtain ⟨a, xs, rfl, hq, r⟩ := seqOf_ok R h e
        refine ⟨_, ds.length, rfl, ?_, o _ mk_int⟩
        rcases hq with hq | hq
        · exact .inl ⟨xs, hq, r.length.symm⟩
        · exact .inr ⟨xs, hq, r.length.symm⟩
    cases x with
    | str z =>
      have o : GvOk X ρ H (if z.length ≤ 16777216 then some (.d (.int z.length)) else none) Q := o
      split at o
      · exact ⟨_, z.length, rfl, by rw [rd_str h]; exact ⟨by omega, rfl⟩, o _ mk_int⟩
      · exact o.elim
    | _ => exact gen o
  | x :: y :: r, hx, o => cases x <;> exact o.elim
def gAbs : Store → List D → Option Gv := fun _ xs => match xs with
  | [.int i] => some (.d (.int (if i < 0 then -i else i)))
  | _ => none
def gInt1 : Store → List D → Option Gv := fun _ xs => match xs with
  | [.int i] => some (.d (.int i))
  | [.bl k] => some (.d (.int (if k then 1 else 0)))
  | _ => none
def gMax2 : Store → List D → Option Gv := fun _ xs => match xs with
  | [.int i, .int j] => some (.d (.int (if j > i then j else i)))
  | _ => none
def gMin2 : Store → List D → Option Gv := fun _ xs => match xs with
  | [.int i, .int j] => some (.d (.int (if j < i then j else i)))
  | _ => none
def gDivmod : Store → List D → Option Gv := fun _ xs => match xs with
  | [.int i, .int j] => if cDiv i j = true then some (.t [.int (i / j), .int (i % j)]) else none
  | _ => none
theorem om_abs : ClM X (fun xs H Q => ∃ i, xs = [.int i] ∧ Q (.int (if i < 0 then -i else i)) H) gAbs := by
  intro T ρ S H xs vs Q R hx o
  unfold gAbs at o
  split at o
  · obtain ⟨v, rfl, h⟩ := one_rds hx
    exact ⟨_, by rw [rd_int h], o _ mk_int⟩
  · exact o.elim
theorem om_int1 : ClM X (fun xs H Q => (∃ i, xs = [.int i] ∧ Q (.int i) H) ∨ ∃ k, xs = [.bl k] ∧ Q (.int (if k then 1 else 0)) H) gInt1 := by
  intro T ρ S H xs vs Q R hx o
  unfold gInt1 at o
  split at o
  · obtain ⟨v, rfl, h⟩ := one_rds hx
    exact .inl ⟨_, by rw [rd_int h], o _ mk_int⟩
  · obtain ⟨v, rfl, h⟩ := one_rds hx
    exact .inr ⟨_, by rw [rd_bl h], o _ mk_int⟩
  · exact o.elim
theorem om_max2 : ClM X (fun xs H Q => ∃ i j, xs = [.int i, .int j] ∧ Q (.int (if j > i then j else i)) H) gMax2 := by
  intro T ρ S H xs vs Q R hx o
  unfold gMax2 at o
  split at o
  · obtain ⟨v, u, rfl, h, h'⟩ := two_rds hx
    exact ⟨_, _, by rw [rd_int h, rd_int h'], o _ mk_int⟩
  · exact o.elim
theorem om_min2 : ClM X (fun xs H Q => ∃ i j, xs = [.int i, .int j] ∧ Q (.int (if j < i then j else i)) H) gMin2 := by
  intro T ρ S H xs vs Q R hx o
  unfold gMin2 at o
  split at o
  · obtain ⟨v, u, rfl, h, h'⟩ := two_rds hx
    exact ⟨_, _, by rw [rd_int h, rd_int h'], o _ mk_int⟩
  · exact o.elim
theorem om_divmod : ClM X (fun xs H Q => ∃ i j, xs = [.int i, .int j] ∧ CDiv i j ∧ ∀ p, H p = none → Q (.ref p) (upd H p (.tup [.int (i / j), .int (i % j)]))) gDivmod := by
  intro T ρ S H xs vs Q R hx o
  unfold gDivmod at o
  split at o
  · rename_i i j
    split at o
    · rename_i hc
      obtain ⟨v, u, rfl, h, h'⟩ := two_rds hx
      unfold cDiv at hc
      simp only [Bool.and_eq_true, decide_eq_true_eq] at hc
      exact ⟨i, j, by rw [rd_int h, rd_int h'], hc, fun p hp => o.2 p _ hp (RDs.cons_iff.mpr ⟨_, _, rfl, mk_int, RDs.cons_iff.mpr ⟨_, _, rfl, mk_int, RDs.nil_iff.mpr rfl⟩⟩)⟩
    · exact o.elim
  · exact o.elim
def bools : List D → Option (List Bool)
  | [] => some []
  | .bl b :: r => (bools r).map (b :: ·)
  | _ => none
theorem bools_ok {K : PySem.W.Frag} {mg : Str → Option Value} {ρ : Rho} {H : Hp} : ∀ {ds : List D} {vs : List V} {bs : List Bool}, RDs K mg ρ H ds vs → bools ds = some bs → vs = bs.map V.bl
  | [], vs, bs, h, e => by cases e; exact RDs.nil_iff.mp h
  | d :: ds, vs, bs, h, e => by
    obtain ⟨v, r, rfl, h1, h2⟩ := RDs.cons_iff.mp h
    cases d with
    | bl b =>
      have e : (bools ds).map (b :: ·) = some bs := e
      cases e2 : bools ds with
      | none => rw [e2] at e; cases e
      | some bs' => rw [e2] at e; cases e; rw [bools_ok h2 e2, rd_bl h1]; rfl
    | _ => cases e
def gAll : Store → List D → Option Gv := fun S xs => match xs with
  | [x] => (match lstOf S x with
    | some ds => (bools ds).map fun bs => .d (.bl (bs.all id))
    | none => none)
  | _ => none
def gAny : Store → List D → Option Gv := fun S xs => match xs with
  | [x] => (match lstOf S x with
    | some ds => (bools ds).map fun bs => .d (.bl (bs.any id))
    | none => none)
  | _ => none
theorem om_all : ClM X (rAll X.K) gAll := by
  intro T ρ S H xs vs Q R hx o
  unfold gAll at o
  split at o
  · obtain ⟨v, rfl, h⟩ := one_rds hx
    split at o
    · rename_i ds e
      obtain ⟨a, us, rfl, q, r⟩ := lstOf_ok R h e
      cases e2 : bools ds with
      | none => rw [e2] at o; exact o.elim
      | some bs => rw [e2] at o; exact ⟨a, bs, rfl, by rw [← bools_ok r e2]; exact q, o _ mk_bl⟩
    · exact o.elim
  · exact o.elim
theorem om_any : ClM X (rAny X.K) gAny := by
  intro T ρ S H xs vs Q R hx o
  unfold gAny at o
  split at o
  · obtain ⟨v, rfl, h⟩ := one_rds hx
    split at o
    · rename_i ds e
      obtain ⟨a, us, rfl, q, r⟩ := lstOf_ok R h e
      cases e2 : bools ds with
      | none => rw [e2] at o; exact o.elim
      | some bs => rw [e2] at o; exact ⟨a, bs, rfl, by rw [← bools_ok r e2]; exact q, o _ mk_bl⟩
    · exact o.elim
  · exact o.elim
def numbers : List D → Option (List Int)
  | [] => some []
  | .int b :: r => (numbers r).map (b :: ·)
  | _ => none
theorem numbers_ok {K : PySem.W.Frag} {mg : Str → Option Value} {ρ : Rho} {H : Hp} : ∀ {ds : List D} {vs : List V} {bs : List Int}, RDs K mg ρ H ds vs → numbers ds = some bs → vs = bs.map V.int
  | [], vs, bs, h, e => by cases e; exact RDs.nil_iff.mp h
  | d :: ds, vs, bs, h, e => by
    obtain ⟨v, r, rfl, h1, h2⟩ := RDs.cons_iff.mp h
    cases d with
    | int b =>
      have e : (numbers ds).map (b :: ·) = some bs := e
      cases e2 : numbers ds with
      | none => rw [e2] at e; cases e
      | some bs' => rw [e2] at e; cases e; rw [numbers_ok h2 e2, rd_int h1]; rfl
    | _ => cases e
def gSum : Store → List D → Option Gv := fun S xs => match xs with
  | [x] => (match lstOf S x with
    | some ds => (numbers ds).map fun bs => .d (.int bs.sum)
    | none => none)
  | _ => none
theorem om_sum : ClM X (rSum X.K) gSum := by
  intro T ρ S H xs vs Q R hx o
  unfold gSum at o
  split at o
  · obtain ⟨v, rfl, h⟩ := one_rds hx
    split at o
    · rename_i ds e
      obtain ⟨a, us, rfl, q, r⟩ := lstOf_ok R h e
      cases e2 : numbers ds with
      | none => rw [e2] at o; exact o.elim
      | some bs => rw [e2] at o; exact ⟨a, bs, rfl, by rw [← numbers_ok r e2]; exact q, o _ mk_int⟩
    · exact o.elim
  · exact o.elim
/-- list(x), tuple(x) -/
def gList : Store → List D → Option Gv := fun S xs => match xs with
  | [x] => (seqOf S x).map .l
  | _ => none
def gTuple : Store → List D → Option Gv := fun S xs => match xs with
  | [.tup ds] => some (.d (.tup ds))
  | [x] => (lstOf S x).map .t
  | _ => none
end
end M3

set_option Elab.async false
set_option linter.all false
set_option maxRecDepth 100000
set_option maxHeartbeats 1000000
/-! M3H: list, tuple, isinstance, repr, sorted; methods of lists; items stored; fields. -/
namespace M3
open PySem PySem.Spec L2
section
variable {X : Cx} {k : Nat} {F : Fm} {pos : Pos}
theorem om_list : ClM X (fun xs H Q => ∃ p ys, xs = [.ref p] ∧ (SqL X.K H p ys ∨ SqT X.K H p ys) ∧ ∀ l, H l = none → Q (.ref l) (upd H l (.lst ys))) gList := by
  intro T ρ S H xs vs Q R hx o
  unfold gList at o
  split at o
  · rename_i x
    obtain ⟨v, rfl, h⟩ := one_rds hx
    cases e : seqOf S x with
    | none => rw [e] at o; exact o.elim
    | some ds =>
      rw [e] at o
      obtain ⟨a, ys, rfl, hq, r⟩ := seqOf_ok R h e
      exact ⟨a, ys, rfl, hq, fun l hl => o.2 l _ hl r⟩
  · exact o.elim
theorem om_tuple : ClM X (fun xs H Q => ∃ p ys, xs = [.ref p] ∧ ((SqL X.K H p ys ∧ ∀ l, H l = none → Q (.ref l) (upd H l (.tup ys))) ∨ (SqT X.K H p ys ∧ Q (.ref p) H))) gTuple := by
  intro T ρ S H xs vs Q R hx o
  unfold gTuple at o
  split at o
  · obtain ⟨v, rfl, h⟩ := one_rds hx
    have h0 := h
    obtain ⟨a, ys, rfl, q, r⟩ := rd_tup h
    exact ⟨a, ys, rfl, .inr ⟨q.sq, o _ h0⟩⟩
  · rename_i x _
    obtain ⟨v, rfl, h⟩ := one_rds hx
    cases e : lstOf S x with
    | none => rw [e] at o; exact o.elim
    | some ds =>
      rw [e] at o
      obtain ⟨a, ys, rfl, hq, r⟩ := lstOf_ok R h e
      exact ⟨a, ys, rfl, .inl ⟨hq, fun l hl => o.2 l _ hl r⟩⟩
  · exact o.elim
/-! ### isinstance of built-in types -/
inductive Kd where
  | non | bl | int | str | tup | lst
deriving DecidableEq
def kindOf (S : Store) : D → Option Kd
  | .non => some .non
  | .bl _ => some .bl
  | .int _ => some .int
  | .str _ => some .str
  | .tup _ => some .tup
  | .fl _ => some .lst
  | .fz _ => some .lst
  | .ref n => (match S[n]? with
    | some (.lst _) => some .lst
    | _ => none)
  | _ => none
def Kd.ty : Kd → String
  | .non => "NoneType"
  | .bl => "bool"
  | .int => "int"
  | .str => "str"
  | .tup => "tuple"
  | .lst => "list"
def isiB : Kd → String → Option Bool
  | .bl, "int" => some true
  | k, n => if n = "int" ∨ n = "bool" ∨ n = "str" ∨ n = "tuple" ∨ n = "list" then some (decide (k.ty = n)) else none
theorem isiB_ok {k : Kd} {n : String} {b : Bool} (h : isiB k n = some b) : kitB k.ty n = some b := by
  unfold isiB at h
  split at h
  · cases h; decide +kernel
  · split at h
    · rename_i hn
      cases h
      rcases hn with rfl | rfl | rfl | rfl | rfl <;> cases k <;> first | decide +kernel | (rename_i hh; exact absurd rfl (hh rfl))
    · cases h
theorem tyX_of {T : List NdefX.NTab} {ρ : Rho} {S : Store} {H : Hp} {d : D} {v : V} {kd : Kd} (R : RS X.K X.mg T ρ S H) (h : RD X.K X.mg ρ H d v) (e : kindOf S d = some kd) : TyX X.K H v (.type kd.ty) := by
  have tl : ∀ {a : Addr} {xs : List V}, SqL X.K H a xs → TyX X.K H (.ref a) (.type "list") := fun {a xs} q => by
    rcases q with (q | ⟨o, q⟩) | ⟨o, its, n, q, c, _⟩
    · exact .base (.lst q)
    · exact .base (.frz q)
    · exact .kList q c
  cases d with
  | non => cases e; rw [rd_non h]; exact .base .non
  | bl b => cases e; rw [rd_bl h]; exact .base (.bl b)
  | int i => cases e; rw [rd_int h]; exact .base (.int i)
  | str x => cases e; rw [rd_str h]; exact .base (.str x)
  | tup ds =>
    cases e
    obtain ⟨a, xs, rfl, q, r⟩ := rd_tup h
    rcases q with ⟨q | ⟨o, q⟩, _⟩ | ⟨o, its, n, q, c, _⟩
    · exact .base (.tup q)
    · exact .fTuple q
    · exact .kTuple q c
  | fl ds =>
    cases e
    obtain ⟨a, xs, rfl, q, r⟩ := rd_fl h
    exact tl (.of q.1)
  | fz ds =>
    cases e
    obtain ⟨a, xs, rfl, q, r⟩ := rd_fz h
    exact tl q.sq
  | ref n =>
    obtain ⟨a, rfl, q⟩ := rd_ref h
    have e : (match S[n]? with
      | some (.lst _) => some Kd.lst
      | _ => none) = some kd := e
    split at e
    · rename_i ds he
      cases e
      obtain ⟨a', ha', xs, hx, r⟩ := R.cell n _ he
      rw [q] at ha'; cases ha'
      exact tl (.of hx)
    · cases e
  | _ => cases e
def gIsi : Store → List D → Option Gv := fun S xs => match xs with
  | [x, .ty n] => (match kindOf S x with
    | some kd => (isiB kd n).map fun b => .d (.bl b)
    | none => none)
  | _ => none
theorem om_isi : ClM X (rIsi X.K) gIsi := by
  intro T ρ S H xs vs Q R hx o
  unfold gIsi at o
  split at o
  · rename_i x n
    obtain ⟨v, u, rfl, h, h'⟩ := two_rds hx
    split at o
    · rename_i kd ek
      cases e : isiB kd n with
      | none => rw [e] at o; exact o.elim
      | some b =>
        rw [e] at o
        exact ⟨v, u, _, _, b, rfl, by rw [rd_ty h']; exact .ty n, tyX_of R h ek, kit_ty (isiB_ok e), o _ mk_bl⟩
    · exact o.elim
  · exact o.elim
theorem e_ty {x : Str} {n : String} (hg : Gl X x) (hm : X.mg x = none) (hv : bootBuiltins x = some (.type n)) (hn : x ≠ "__name__" := by decide) (hd : (x == ("__debug__" : Str)) = false := by decide) : PE X (.Name x pos) (rdE X F (mC (.ty n))) :=
  e_c (pe_bltn (v := .ty n) hg hm hv rfl hn hd) fun _ _ => by unfold RD; rfl
/-- a module's constant -/
theorem e_glob {x : Str} {v : V} {u : Value} {d : D} (hg : Gl X x) (hm : X.mg x = some u) (r : RelV v u) (rd : ∀ ρ H, RD X.K X.mg ρ H d v) (hd : (x == ("__debug__" : Str)) = false := by decide) : PE X (.Name x pos) (rdE X F (mC d)) := e_c (pe_glob hg hm r hd) rd
/-! ### repr -/
def reprD (S : Store) (d : D) : Option Str := match toP S d with
  | some p => if p.showable = true ∧ p.depth ≤ 60 ∧ p.hasDict = false ∧ p.shown.length ≤ 16777216 then some p.shown else none
  | none => none
def gRepr : Store → List D → Option Gv := fun S xs => match xs with
  | [x] => (reprD S x).map fun z => .d (.str z)
  | _ => none
def rReprD (K : PySem.W.Frag) : List V → Hp → VK → Prop := fun vs H Q => ∃ v p, vs = [v] ∧ Dp K H v p ∧ p.showable = true ∧ p.depth ≤ 60 ∧ p.hasDict = false ∧ p.shown.length ≤ sizeLine ∧ Q (.str p.shown) H
theorem call_reprD (fx : FX X F k) : CallR X (.builtin "repr") (rReprD X.K) := by
  intro pins s σ H xs us Q I r h
  obtain ⟨v, p, rfl, hd, h1, h2, h3, h4, q⟩ := h
  obtain ⟨u, rfl, ru⟩ := vals1 r
  have hu : X.A.units + 61 < cLine := by have := fx.room.un; omega
  obtain ⟨as, rr⟩ := Dp.reads I p v u hd ru
  cases hd with
  | non =>
    cases (show u = Value.none from ru)
    exact PySem.P.repr_of_none ⟨.str _, H, I.tok _, ⟨_, rfl⟩, by rw [PyData.shown_none] at q; exact q⟩
  | bl b =>
    cases (show u = Value.bool b from ru)
    exact PySem.P.repr_of_bool ⟨.str _, H, I.tok _, ⟨_, rfl⟩, by rw [PyData.shown_bool] at q; exact q⟩
  | int i =>
    obtain ⟨t, rfl⟩ := (show ∃ t, u = Value.int i t from ru)
    exact PySem.P.repr_of_int (by simpa [PyData.showable] using h1) ⟨.str _, H, I.tok _, ⟨_, rfl⟩, by rw [PyData.shown_int] at q; exact q⟩
  | str x =>
    obtain ⟨t, rfl⟩ := (show ∃ t, u = Value.str x t from ru)
    exact PySem.P.repr_of_str ⟨.str _, H, I.tok _, ⟨_, rfl⟩, by rw [PyData.shown_str] at q; exact q⟩ (by rw [PyData.shown_str] at h4; exact h4)
  | @lst a ys ds hq ha =>
    cases (show u = Value.ref a from ru)
    exact PySem.repr_of_reads' rr h1 (fun z => by rw [h3] at z; cases z) fx.gd (by omega) (fun _ _ e => e) (fun h' u tk kk => ⟨.str _, H, I.kept (t' := tk) kk, ⟨_, rfl⟩, q⟩) h4
  | @tup a ys ds hq ha =>
    cases (show u = Value.ref a from ru)
    exact PySem.repr_of_reads' rr h1 (fun z => by rw [h3] at z; cases z) fx.gd (by omega) (fun _ _ e => e) (fun h' u tk kk => ⟨.str _, H, I.kept (t' := tk) kk, ⟨_, rfl⟩, q⟩) h4
theorem om_repr : ClM X (rReprD X.K) gRepr := by
  intro T ρ S H xs vs Q R hx o
  have hl : sizeLine = 16777216 := sizeLine_eq
  unfold gRepr at o
  split at o
  · rename_i x
    obtain ⟨v, rfl, h⟩ := one_rds hx
    unfold reprD at o
    split at o
    · rename_i p ep
      split at o
      · rename_i hc
        exact ⟨v, p, rfl, toP_ok R h ep, hc.1, hc.2.1, hc.2.2.1, by omega, o _ mk_str⟩
      · exact o.elim
    · exact o.elim
  · exact o.elim
/-! ### methods that change a list of the store -/
/-- a change of a list by arguments: what comes back, the list behind -/
abbrev Mu := List D → List D → Option (D × List D)
def MuM (X : Cx) (r : V → List V → Hp → VK → Prop) (g : Mu) : Prop := ∀ (ρ : Rho) (H : Hp) (a : Addr) (l as : List D) (xs vs : List V) (d : D) (l' : List D) (Q : VK), H a = some (.lst xs) → RDs X.K X.mg ρ H l xs → RDs X.K X.mg ρ H as vs → g l as = some (d, l') →
  (∀ v xs', RD X.K X.mg ρ H d v → RDs X.K X.mg ρ H l' xs' → Q v (upd H a (.lst xs'))) → r (.ref a) vs H Q
def muOut (n : Nat) (r : Option (D × List D)) (S : Store) : Rz D := match r with
  | some p => .ok p.1 (S.set n (.lst p.2))
  | none => .bad
def mMu (g : Mu) (mo : EM) (ma : AM) : EM := fun env S => (mo env S).bind fun x S1 => match x with
  | .ref n => (match S1[n]? with
    | some (.lst _) => (ma env S1).bind fun as S2 => (match S2[n]? with
      | some (.lst l) => muOut n (g l as) S2
      | _ => .bad)
    | _ => .bad)
  | _ => .bad
theorem rd_mu {r : V → List V → Hp → VK → Prop} {g : Mu} {mo : EM} {ma : AM} (hg : MuM X r g) {σ : St} {H : Hp} {Q : VK} (h : rdE X F (mMu g mo ma) σ H Q) : tBM X.K "list" r (rdE X F mo) (rdA X F ma) σ H Q := by
  obtain ⟨env, S, ρ, re, rs, o⟩ := h
  refine ⟨env, S, ρ, re, rs, (OutE.bind o).imp fun x ρ1 S1 H1 t1 R1 o1 v hv => ?_⟩
  cases x with
  | ref n =>
    obtain ⟨a, rfl, q⟩ := rd_ref hv
    dsimp only at o1
    split at o1
    · rename_i l0 e0
      obtain ⟨a', ha', xs0, hx0, r0⟩ := R1.cell n _ e0
      rw [q] at ha'; cases ha'
      refine ⟨.inl ⟨rfl, xs0, .of hx0⟩, env, S1, ρ1, re.later t1, R1, (OutE.bind o1).imp fun as ρ2 S2 H2 t2 R2 o2 vs hvs => ?_⟩
      split at o2
      · rename_i l e1
        obtain ⟨a', ha', xs, hx, rl⟩ := R2.cell n _ e1
        rw [t2.sub q] at ha'; cases ha'
        cases eg : g l as with
        | none => rw [eg] at o2; exact o2.elim
        | some p =>
          rw [eg] at o2
          refine hg ρ2 H2 a l as xs vs p.1 p.2 Q hx rl hvs eg fun v xs' hd hl' => ?_
          have t3 : Aft ρ2 H2 ρ2 (upd H2 a (.lst xs')) := Aft.write (List.mem_of_getElem? (t2.sub q)) hx fun ps e => by cases e
          exact o2 ρ2 _ t3 (R2.write e1 (t2.sub q) ⟨xs', upd_same, hl'.later t3.mv⟩) v (hd.later t3.mv)
      · exact o2.elim
    · exact o1.elim
  | _ => exact o1.elim
def muAppend : Mu := fun l as => match as with
  | [d] => if l.length < 16777216 then some (.non, l ++ [d]) else none
  | _ => none
theorem mm_append : MuM X rAppend muAppend := by
  intro ρ H a l as xs vs d l' Q hx rl ra eg q
  have hz : sizeLine = 16777216 := sizeLine_eq
  unfold muAppend at eg
  split at eg
  · split at eg
    · rename_i hl
      cases eg
      obtain ⟨v, rfl, h⟩ := one_rds ra
      exact ⟨a, xs, v, rfl, rfl, hx, by rw [rl.length]; omega, q _ _ mk_non (rl.append (RDs.cons_iff.mpr ⟨v, [], rfl, h, RDs.nil_iff.mpr rfl⟩))⟩
    · cases eg
  · cases eg
def muPop : Mu := fun l as => match as with
  | [] => (match l[l.length - 1]? with
    | some d => some (d, l.dropLast)
    | none => none)
  | _ => none
def muPopAt : Mu := fun l as => match as with
  | [.int i] => if inRng i = true then (match ixN l.length i with
    | some j => (match l[j]? with
      | some d => some (d, l.eraseIdx j)
      | none => none)
    | none => none) else none
  | _ => none
theorem RDs.erase {K : PySem.W.Frag} {mg : Str → Option Value} {ρ : Rho} {H : Hp} : ∀ {ds : List D} {vs : List V} (n : Nat), RDs K mg ρ H ds vs → RDs K mg ρ H (ds.eraseIdx n) (vs.eraseIdx n)
  | [], _, _, h => by rw [RDs.nil_iff.mp h]; exact RDs.nil_iff.mpr rfl
  | d :: ds, _, 0, h => by
    obtain ⟨v, r, rfl, h1, h2⟩ := RDs.cons_iff.mp h
    exact h2
  | d :: ds, _, n + 1, h => by
    obtain ⟨v, r, rfl, h1, h2⟩ := RDs.cons_iff.mp h
    exact RDs.cons_iff.mpr ⟨v, r.eraseIdx n, rfl, h1, RDs.erase n h2⟩
theorem RDs.dropLast {K : PySem.W.Frag} {mg : Str → Option Value} {ρ : Rho} {H : Hp} {ds : List D} {vs : List V} (h : RDs K mg ρ H ds vs) : RDs K mg ρ H ds.dropLast vs.dropLast := by
  rw [List.dropLast_eq_take, List.dropLast_eq_take, h.length]
  exact h.take _
theorem mm_pop : MuM X rPop muPop := by
  intro ρ H a l as xs vs d l' Q hx rl ra eg q
  unfold muPop at eg
  split at eg
  · split at eg
    · rename_i d0 e0
      cases eg
      obtain ⟨v, hv, rd⟩ := rl.get e0
      exact ⟨a, xs, v, rfl, RDs.nil_iff.mp ra, hx, by rw [rl.length]; exact hv, q _ _ rd rl.dropLast⟩
    · cases eg
  · cases eg
theorem mm_popAt : MuM X rPopAt muPopAt := by
  intro ρ H a l as xs vs d l' Q hx rl ra eg q
  unfold muPopAt at eg
  split at eg
  · rename_i i
    split at eg
    · rename_i hr
      split at eg
      · rename_i j ej
        split at eg
        · rename_i d0 e0
          cases eg
          obtain ⟨v, hv, rd⟩ := rl.get e0
          obtain ⟨u, rfl, hu⟩ := one_rds ra
          obtain ⟨h1, _⟩ := ixN_seq ej
          have hi := inRng_ok hr
          exact ⟨a, xs, i, j, v, rfl, by rw [rd_int hu], hx, by omega, by omega, by rw [rl.length]; exact h1, hv, q _ _ rd (rl.erase j)⟩
        · cases eg
      · cases eg
    · cases eg
  · cases eg
def muExtend (S : Store) : Mu := fun l as => match as with
  | [x] => (match lstOwn S x with
    | some es => if l.length + es.length ≤ 16777216 then some (.non, l ++ es) else none
    | none => none)
  | _ => none
theorem e_mu {o e : Expr} {es : List Expr} {mo : EM} {ma : AM} {name : Str} {apos cpos : Pos} {id : String} {r : V → List V → Hp → VK → Prop} {g : Mu} (pa : PlainAttrs "list") (slot : Slot "list" name id) (hty : typeOf (.builtin id) = pure (.type "method_descriptor")) (hm : MtR X id r) (hg : MuM X r g)
    (ho : PE X o (rdE X F mo)) (ha : PA X (e :: es) (rdA X F ma))
    (hbase : attributeBase o name X.env (eval o X.env) = eval o X.env := by rfl)
    (hfew : ((backTo cpos (starEach (e :: es) X.env)).all (fun x => !x.1) && (backToKw cpos (keywordEach [] X.env)).all (fun x => x.1.isSome)
      && decide ((e :: es).length + ([] : List Keyword).length + (if ([] : List Keyword).isEmpty then 0 else 1) < 30)) = true := by rfl)
    (hline : (apos.endLine == cpos.line) = true := by rfl) (hs : starEach (e :: es) X.env = (false, eval e X.env) :: starEach es X.env := by rfl) (hplain : (backTo cpos (starEach es X.env)).any (·.1) = false := by rfl) :
    PE X (.Call (.Attribute o name apos) (e :: es) [] cpos) (rdE X F (mMu g mo ma)) :=
  PE.imp (pe_bm pa slot hty hm ho ha hbase hfew hline hs hplain) fun _ _ _ h => rd_mu hg h
theorem e_append {o e : Expr} {mo : EM} {ma : AM} {apos cpos : Pos} (ho : PE X o (rdE X F mo)) (ha : PA X [e] (rdA X F ma))
    (hbase : attributeBase o "append" X.env (eval o X.env) = eval o X.env := by rfl)
    (hfew : ((backTo cpos (starEach [e] X.env)).all (fun x => !x.1) && (backToKw cpos (keywordEach [] X.env)).all (fun x => x.1.isSome)
      && decide (([e] : List Expr).length + ([] : List Keyword).length + (if ([] : List Keyword).isEmpty then 0 else 1) < 30)) = true := by rfl)
    (hline : (apos.endLine == cpos.line) = true := by rfl) (hs : starEach [e] X.env = (false, eval e X.env) :: starEach [] X.env := by rfl) (hplain : (backTo cpos (starEach [] X.env)).any (·.1) = false := by rfl) :
    PE X (.Call (.Attribute o "append" apos) [e] [] cpos) (rdE X F (mMu muAppend mo ma)) :=
  e_mu PySem.F.plainAttrs_list PySem.F.slot_list_append PySem.F.type_list_append mt_append mm_append ho ha hbase hfew hline hs hplain
theorem e_popAt {o e : Expr} {mo : EM} {ma : AM} {apos cpos : Pos} (ho : PE X o (rdE X F mo)) (ha : PA X [e] (rdA X F ma))
    (hbase : attributeBase o "pop" X.env (eval o X.env) = eval o X.env := by rfl)
    (hfew : ((backTo cpos (starEach [e] X.env)).all (fun x => !x.1) && (backToKw cpos (keywordEach [] X.env)).all (fun x => x.1.isSome)
      && decide (([e] : List Expr).length + ([] : List Keyword).length + (if ([] : List Keyword).isEmpty then 0 else 1) < 30)) = true := by rfl)
    (hline : (apos.endLine == cpos.line) = true := by rfl) (hs : starEach [e] X.env = (false, eval e X.env) :: starEach [] X.env := by rfl) (hplain : (backTo cpos (starEach [] X.env)).any (·.1) = false := by rfl) :
    PE X (.Call (.Attribute o "pop" apos) [e] [] cpos) (rdE X F (mMu muPopAt mo ma)) :=
  e_mu PySem.F.plainAttrs_list PySem.F.slot_list_pop PySem.F.type_list_pop mt_popAt mm_popAt ho ha hbase hfew hline hs hplain
/-! ### o[i] = e -/
def gmSub (mo mi : EM) : GM := fun d env S => match mo env S with
  | .ok (.ref n) S1 => (match mi env S1 with
    | .ok (.int i) S2 => (match S2[n]? with
      | some (.lst l) => (match ixN l.length i with
        | some j => some (env, S2.set n (.lst (l.set j d)))
        | none => none)
      | _ => none)
    | _ => none)
  | _ => none
theorem g_sub {o i : Expr} {mo mi : EM} (ho : PE X o (rdE X F mo)) (hi : PE X i (rdE X F mi))
    (ha : ∀ v, assign (.Subscript o i pos) X.env v = (do
      let ov ← holding [v] (eval o X.env)
      let iv ← holding [v, ov] (eval i X.env)
      standAt pos
      holding [v, ov, iv] (setItem ov iv v)
      release [v, ov, iv] []) := by intro _; rfl) : PG X (.Subscript o i pos) (RdG X F (gmSub mo mi) []) := by
  refine PG.imp (pg_sub ho hi set_list ha) fun v σ H Q ⟨d, env, S, ρ, re, rs, rd, o⟩ => ?_
  refine ⟨env, S, ρ, re, rs, ?_⟩
  unfold gmSub at o
  cases e1 : mo env S with
  | exc c fs S1 => rw [e1] at o; exact o.elim
  | bad => rw [e1] at o; exact o.elim
  | ok x S1 =>
    rw [e1] at o
    refine fun ρ1 H1 t1 R1 v1 hv1 => ⟨env, S1, ρ1, re.later t1, R1, ?_⟩
    cases x with
    | ref n =>
      obtain ⟨a, rfl, q⟩ := rd_ref hv1
      dsimp only at o
      cases e2 : mi env S1 with
      | exc c fs S2 => rw [e2] at o; exact o.elim
      | bad => rw [e2] at o; exact o.elim
      | ok y S2 =>
        rw [e2] at o
        refine fun ρ2 H2 t2 R2 v2 hv2 => ?_
        cases y with
        | int i =>
          dsimp only at o
          cases e3 : S2[n]? with
          | none => rw [e3] at o; exact o.elim
          | some c =>
            rw [e3] at o
            cases c with
            | ins _ _ => exact o.elim
            | dct _ => exact o.elim
            | lst l =>
              dsimp only at o
              cases e4 : ixN l.length i with
              | none => rw [e4] at o; exact o.elim
              | some j =>
                rw [e4] at o
                obtain ⟨a', ha', xs, hx, rl⟩ := R2.cell n _ e3
                rw [t2.sub q] at ha'; cases ha'
                have t3 : Aft ρ2 H2 ρ2 (upd H2 a (.lst (xs.set j v))) := Aft.write (List.mem_of_getElem? (t2.sub q)) hx fun ps e => by cases e
                have rl' := rl.set (rd.later (t1.trans t2).mv) j
                exact ⟨a, xs, i, j, rfl, by rw [rd_int hv2], hx, by rw [rl.length]; exact e4, o ρ2 _ σ ((t1.trans t2).trans t3) (R2.write e3 (t2.sub q) ⟨_, upd_same, rl'.later t3.mv⟩) (re.later ((t1.trans t2).trans t3)) fun _ _ => rfl⟩
        | _ => exact o.elim
    | _ => exact o.elim
end
end M3

set_option Elab.async false
set_option linter.all false
set_option maxRecDepth 100000
set_option maxHeartbeats 1000000
/-! M3I: what is left behind a call; defs by their names. -/
namespace M3
open PySem PySem.Spec L2
mutual
def mapR (r : Nat → Option D) : D → Option D
  | .ref n => r n
  | .tup ds => (mapRs r ds).map .tup
  | .fl ds => (mapRs r ds).map .fl
  | .fz ds => (mapRs r ds).map .fz
  | .ob c fs => (mapRf r fs).map (.ob c)
  | .non => some .non
  | .bl b => some (.bl b)
  | .int i => some (.int i)
  | .str x => some (.str x)
  | .ty n => some (.ty n)
  | .gl n => some (.gl n)
def mapRs (r : Nat → Option D) : List D → Option (List D)
  | [] => some []
  | d :: ds => match mapR r d, mapRs r ds with
    | some e, some es => some (e :: es)
    | _, _ => none
def mapRf (r : Nat → Option D) : List (Str × D) → Option (List (Str × D))
  | [] => some []
  | (f, d) :: ds => match mapR r d, mapRf r ds with
    | some e, some es => some ((f, e) :: es)
    | _, _ => none
end
/-- the things below L stay the store's; those from L on become data -/
def frzR (S : Store) (L : Nat) : Nat → Nat → Option D
  | 0, n => if n < L then some (.ref n) else none
  | k + 1, n => if n < L then some (.ref n) else match S[n]? with
    | some (.lst ds) => (mapRs (frzR S L k) ds).map .fl
    | some (.ins c fs) => (mapRf (frzR S L k) fs).map (.ob c)
    | _ => none
mutual
def clD (L : Nat) : D → Bool
  | .ref n => decide (n < L)
  | .tup ds => clDs L ds
  | .fl ds => clDs L ds
  | .fz ds => clDs L ds
  | .ob _ fs => clDf L fs
  | .non => true
  | .bl _ => true
  | .int _ => true
  | .str _ => true
  | .ty _ => true
  | .gl _ => true
def clDs (L : Nat) : List D → Bool
  | [] => true
  | d :: ds => clD L d && clDs L ds
def clDf (L : Nat) : List (Str × D) → Bool
  | [] => true
  | (_, d) :: ds => clD L d && clDf L ds
end
def clC (L : Nat) : Cell → Bool
  | .lst ds => clDs L ds
  | .ins _ fs => clDf L fs
  | .dct kvs => clDs L (kvs.map (·.2))
def frzOk (S S' : Store) : Prop := S.length ≤ S'.length ∧ ∀ i : Nat, i < S.length → S'[i]? = S[i]? ∨ ∃ c, S'[i]? = some c ∧ clC S.length c = true
open Classical in
noncomputable def frz (S : Store) (r : Rz D) : Rz D := match r with
  | .ok d S' => if frzOk S S' then (match mapR (frzR S' S.length 4) d with
    | some d' => .ok d' (S'.take S.length)
    | none => .bad) else .bad
  | .exc c fs S' => if frzOk S S' then (match mapRf (frzR S' S.length 4) fs with
    | some fs' => .exc c fs' (S'.take S.length)
    | none => .bad) else .bad
  | .bad => .bad
noncomputable def frzM (fm : FM) : FM := fun es S => frz S (fm es S)
section
variable {K : PySem.W.Frag} {mg : Str → Option Value} {T : List NdefX.NTab} {ρ ρ' : Rho} {S S' : Store} {H H' : Hp} {L : Nat}
mutual
theorem RD.cl (hL : ρ.c.length = L) : ∀ (d : D) (v : V), RD K mg ρ H d v → clD L d = true
  | .ref n, v, h => by
    obtain ⟨a, _, q⟩ := rd_ref h
    unfold clD
    rw [decide_eq_true_eq, ← hL]
    exact (List.getElem?_eq_some_iff.mp q).1
  | .tup ds, v, h => by
    obtain ⟨a, xs, _, _, r⟩ := rd_tup h
    unfold clD
    exact RDs.cl hL ds xs r
  | .fl ds, v, h => by
    obtain ⟨a, xs, _, _, r⟩ := rd_fl h
    unfold clD
    exact RDs.cl hL ds xs r
  | .fz ds, v, h => by
    obtain ⟨a, xs, _, _, r⟩ := rd_fz h
    unfold clD
    exact RDs.cl hL ds xs r
  | .ob c fs, v, h => by
    unfold RD at h
    obtain ⟨a, C, dx, ys, _, _, _, _, r⟩ := h
    unfold clD
    exact RFs.cl hL fs ys r
  | .non, _, _ => by unfold clD; rfl
  | .bl _, _, _ => by unfold clD; rfl
  | .int _, _, _ => by unfold clD; rfl
  | .str _, _, _ => by unfold clD; rfl
  | .ty _, _, _ => by unfold clD; rfl
  | .gl _, _, _ => by unfold clD; rfl
theorem RDs.cl (hL : ρ.c.length = L) : ∀ (ds : List D) (vs : List V), RDs K mg ρ H ds vs → clDs L ds = true
  | [], _, _ => by unfold clDs; rfl
  | d :: ds, vs, h => by
    obtain ⟨v, r, _, h1, h2⟩ := RDs.cons_iff.mp h
    unfold clDs
    rw [RD.cl hL d v h1, RDs.cl hL ds r h2]
    rfl
theorem RFs.cl (hL : ρ.c.length = L) : ∀ (ds : List (Str × D)) (vs : List (Str × V)), RFs K mg ρ H ds vs → clDf L ds = true
  | [], _, _ => by unfold clDf; rfl
  | (f, d) :: ds, vs, h => by
    unfold RFs at h
    obtain ⟨v, r, _, h1, h2⟩ := h
    unfold clDf
    rw [RD.cl hL d v h1, RFs.cl hL ds r h2]
    rfl
end
/-- fewer things of the store's -/
structure Fewer (ρ ρ' : Rho) (L : Nat) : Prop where
  len : ρ.c.length = L
  ex : ∃ l, ρ'.c = ρ.c ++ l
  t : ρ'.t = ρ.t
theorem Fewer.off (f : Fewer ρ ρ' L) {a : Addr} (h : ρ'.off a) : ρ.off a := ⟨fun m => h.1 (by obtain ⟨l, e⟩ := f.ex; rw [e]; exact List.mem_append_left _ m), by rw [← f.t]; exact h.2⟩
theorem Fewer.at (f : Fewer ρ ρ' L) {n : Nat} {a : Addr} (hn : n < L) (h : ρ'.c[n]? = some a) : ρ.c[n]? = some a := by
  obtain ⟨l, e⟩ := f.ex
  rw [e, List.getElem?_append_left (by rw [f.len]; exact hn)] at h
  exact h
mutual
theorem RD.cut (f : Fewer ρ ρ' L) : ∀ (d : D) (v : V), clD L d = true → RD K mg ρ' H d v → RD K mg ρ H d v
  | .ref n, v, c, h => by
    obtain ⟨a, e, q⟩ := rd_ref h
    unfold clD at c
    unfold RD
    exact ⟨a, e, f.at (of_decide_eq_true c) q⟩
  | .tup ds, v, c, h => by
    obtain ⟨a, xs, e, q, r⟩ := rd_tup h
    unfold clD at c
    unfold RD
    exact ⟨a, xs, e, q.imp (fun z => ⟨z.1, f.off z.2⟩) id, RDs.cut f ds xs c r⟩
  | .fl ds, v, c, h => by
    obtain ⟨a, xs, e, q, r⟩ := rd_fl h
    unfold clD at c
    unfold RD
    exact ⟨a, xs, e, ⟨q.1, f.off q.2⟩, RDs.cut f ds xs c r⟩
  | .fz ds, v, c, h => by
    obtain ⟨a, xs, e, q, r⟩ := rd_fz h
    unfold clD at c
    unfold RD
    exact ⟨a, xs, e, q.imp (fun z => ⟨z.1, f.off z.2⟩) id, RDs.cut f ds xs c r⟩
  | .ob cn fs, v, c, h => by
    unfold RD at h ⊢
    obtain ⟨a, C, dx, ys, e, q, n, m, r⟩ := h
    unfold clD at c
    exact ⟨a, C, dx, ys, e, q, f.off n, m, RFs.cut f fs ys c r⟩
  | .non, _, _, h => h
  | .bl _, _, _, h => h
  | .int _, _, _, h => h
  | .str _, _, _, h => h
  | .ty _, _, _, h => h
  | .gl _, _, _, h => h
theorem RDs.cut (f : Fewer ρ ρ' L) : ∀ (ds : List D) (vs : List V), clDs L ds = true → RDs K mg ρ' H ds vs → RDs K mg ρ H ds vs
  | [], _, _, h => h
  | d :: ds, vs, c, h => by
    obtain ⟨v, r, e, h1, h2⟩ := RDs.cons_iff.mp h
    unfold clDs at c
    exact RDs.cons_iff.mpr ⟨v, r, e, RD.cut f d v (Bool.and_eq_true_iff.mp c).1 h1, RDs.cut f ds r (Bool.and_eq_true_iff.mp c).2 h2⟩
theorem RFs.cut (f : Fewer ρ ρ' L) : ∀ (ds : List (Str × D)) (vs : List (Str × V)), clDf L ds = true → RFs K mg ρ' H ds vs → RFs K mg ρ H ds vs
  | [], _, _, h => h
  | (n, d) :: ds, vs, c, h => by
    unfold RFs at h ⊢
    obtain ⟨v, r, e, h1, h2⟩ := h
    unfold clDf at c
    exact ⟨v, r, e, RD.cut f d v (Bool.and_eq_true_iff.mp c).1 h1, RFs.cut f ds r (Bool.and_eq_true_iff.mp c).2 h2⟩
end
mutual
theorem mapR_ok (f : Fewer ρ ρ' L) {r : Nat → Option D} (hr : ∀ n d' a, r n = some d' → ρ'.c[n]? = some a → RD K mg ρ H d' (.ref a)) : ∀ (d d' : D) (v : V), mapR r d = some d' → RD K mg ρ' H d v → RD K mg ρ H d' v
  | .ref n, d', v, e, h => by
    unfold mapR at e
    obtain ⟨a, rfl, q⟩ := rd_ref h
    exact hr n d' a e q
  | .tup ds, d', v, e, h => by
    unfold mapR at e
    obtain ⟨a, xs, ev, q, rr⟩ := rd_tup h
    cases e2 : mapRs r ds with
    | none => rw [e2] at e; cases e
    | some es =>
      rw [e2] at e; cases e
      unfold RD
      exact ⟨a, xs, ev, q.imp (fun z => ⟨z.1, f.off z.2⟩) id, mapRs_ok f hr ds es xs e2 rr⟩
  | .fl ds, d', v, e, h => by
    unfold mapR at e
    obtain ⟨a, xs, ev, q, rr⟩ := rd_fl h
    cases e2 : mapRs r ds with
    | none => rw [e2] at e; cases e
    | some es =>
      rw [e2] at e; cases e
      unfold RD
      exact ⟨a, xs, ev, ⟨q.1, f.off q.2⟩, mapRs_ok f hr ds es xs e2 rr⟩
  | .fz ds, d', v, e, h => by
    unfold mapR at e
    obtain ⟨a, xs, ev, q, rr⟩ := rd_fz h
    cases e2 : mapRs r ds with
    | none => rw [e2] at e; cases e
    | some es =>
      rw [e2] at e; cases e
      unfold RD
      exact ⟨a, xs, ev, q.imp (fun z => ⟨z.1, f.off z.2⟩) id, mapRs_ok f hr ds es xs e2 rr⟩
  | .ob cn fs, d', v, e, h => by
    unfold mapR at e
    unfold RD at h
    obtain ⟨a, C, dx, ys, ev, q, n, m, rr⟩ := h
    cases e2 : mapRf r fs with
    | none => rw [e2] at e; cases e
    | some es =>
      rw [e2] at e; cases e
      unfold RD
      exact ⟨a, C, dx, ys, ev, q, f.off n, m, mapRf_ok f hr fs es ys e2 rr⟩
  | .non, _, _, e, h => by unfold mapR at e; cases e; exact h
  | .bl _, _, _, e, h => by unfold mapR at e; cases e; exact h
  | .int _, _, _, e, h => by unfold mapR at e; cases e; exact h
  | .str _, _, _, e, h => by unfold mapR at e; cases e; exact h
  | .ty _, _, _, e, h => by unfold mapR at e; cases e; exact h
  | .gl _, _, _, e, h => by unfold mapR at e; cases e; exact h
theorem mapRs_ok (f : Fewer ρ ρ' L) {r : Nat → Option D} (hr : ∀ n d' a, r n = some d' → ρ'.c[n]? = some a → RD K mg ρ H d' (.ref a)) : ∀ (ds es : List D) (vs : List V), mapRs r ds = some es → RDs K mg ρ' H ds vs → RDs K mg ρ H es vs
  | [], es, vs, e, h => by unfold mapRs at e; cases e; exact h
  | d :: ds, es, vs, e, h => by
    unfold mapRs at e
    obtain ⟨v, rr, ev, h1, h2⟩ := RDs.cons_iff.mp h
    cases e1 : mapR r d with
    | none => rw [e1] at e; cases e
    | some d' =>
      cases e2 : mapRs r ds with
      | none => rw [e1, e2] at e; cases e
      | some ds' => rw [e1, e2] at e; cases e; exact RDs.cons_iff.mpr ⟨v, rr, ev, mapR_ok f hr d d' v e1 h1, mapRs_ok f hr ds ds' rr e2 h2⟩
theorem mapRf_ok (f : Fewer ρ ρ' L) {r : Nat → Option D} (hr : ∀ n d' a, r n = some d' → ρ'.c[n]? = some a → RD K mg ρ H d' (.ref a)) : ∀ (ds es : List (Str × D)) (vs : List (Str × V)), mapRf r ds = some es → RFs K mg ρ' H ds vs → RFs K mg ρ H es vs
  | [], es, vs, e, h => by unfold mapRf at e; cases e; exact h
  | (n, d) :: ds, es, vs, e, h => by
    unfold mapRf at e
    unfold RFs at h
    obtain ⟨v, rr, ev, h1, h2⟩ := h
    cases e1 : mapR r d with
    | none => rw [e1] at e; cases e
    | some d' =>
      cases e2 : mapRf r ds with
      | none => rw [e1, e2] at e; cases e
      | some ds' =>
        rw [e1, e2] at e; cases e
        unfold RFs
        exact ⟨v, rr, ev, mapR_ok f hr d d' v e1 h1, mapRf_ok f hr ds ds' rr e2 h2⟩
end
theorem Aft.fewer (t : Aft ρ H ρ' H') : Fewer ρ ρ' ρ.c.length := ⟨rfl, t.pre, t.ban⟩
theorem frzR_ok (R : RS K mg T ρ' S' H') (f : Fewer ρ ρ' L) : ∀ (k n : Nat) (d' : D) (a : Addr), frzR S' L k n = some d' → ρ'.c[n]? = some a → RD K mg ρ H' d' (.ref a)
  | 0, n, d', a, e, ha => by
    unfold frzR at e
    split at e
    · rename_i hn
      cases e
      unfold RD
      exact ⟨a, rfl, f.at hn ha⟩
    · cases e
  | k + 1, n, d', a, e, ha => by
    unfold frzR at e
    split at e
    · rename_i hn
      cases e
      unfold RD
      exact ⟨a, rfl, f.at hn ha⟩
    · rename_i hn
      have off : ρ.off a := by
        refine ⟨fun m => ?_, fun m => (R.ban a (by rw [f.t]; exact m)).1 (List.mem_of_getElem? ha)⟩
        obtain ⟨i, hi⟩ := List.mem_iff_getElem?.mp m
        have hl := (List.getElem?_eq_some_iff.mp hi).1
        obtain ⟨l, el⟩ := f.ex
        have hi' : ρ'.c[i]? = some a := by rw [el, List.getElem?_append_left hl]; exact hi
        obtain ⟨h1, e1⟩ := List.getElem?_eq_some_iff.mp hi'
        obtain ⟨h2, e2⟩ := List.getElem?_eq_some_iff.mp ha
        have := (List.getElem_inj R.nd).mp (e1.trans e2.symm)
        rw [f.len] at hl
        omega
      split at e
      · rename_i ds es
        obtain ⟨a', ha', xs, hx, r⟩ := R.cell n _ es
        rw [ha] at ha'; cases ha'
        cases e2 : mapRs (frzR S' L k) ds with
        | none => rw [e2] at e; cases e
        | some ds' =>
          rw [e2] at e; cases e
          unfold RD
          exact ⟨a, xs, rfl, ⟨hx, off⟩, mapRs_ok f (fun n d' a => frzR_ok R f k n d' a) ds ds' xs e2 r⟩
      · rename_i c fs es
        obtain ⟨a', ha', C, dx, ys, hx, hm, r⟩ := R.cell n _ es
        rw [ha] at ha'; cases ha'
        cases e2 : mapRf (frzR S' L k) fs with
        | none => rw [e2] at e; cases e
        | some ds' =>
          rw [e2] at e; cases e
          unfold RD
          exact ⟨a, C, dx, ys, rfl, hx, off, hm, mapRf_ok f (fun n d' a => frzR_ok R f k n d' a) fs ds' ys e2 r⟩
      · cases e
theorem RC.cl (hL : ρ.c.length = L) {a : Addr} : ∀ {c : Cell}, RC K mg ρ H a c → clC L c = true
  | .lst ds, ⟨xs, _, r⟩ => RDs.cl hL ds xs r
  | .ins _ fs, ⟨_, _, ys, _, _, r⟩ => RFs.cl hL fs ys r
  | .dct kvs, ⟨ys, _, _, r⟩ => RDs.cl hL _ _ r
theorem RC.cut (f : Fewer ρ ρ' L) {a : Addr} : ∀ {c : Cell}, clC L c = true → RC K mg ρ' H a c → RC K mg ρ H a c
  | .lst ds, c, ⟨xs, h, r⟩ => ⟨xs, h, RDs.cut f ds xs c r⟩
  | .ins _ fs, c, ⟨C, dx, ys, h, m, r⟩ => ⟨C, dx, ys, h, m, RFs.cut f fs ys c r⟩
  | .dct kvs, c, ⟨ys, h, m, r⟩ => ⟨ys, h, m, RDs.cut f _ _ c r⟩
theorem RS.frz (R : RS K mg T ρ S H) (R' : RS K mg T ρ' S' H') (t : Aft ρ H ρ' H') (ok : frzOk S S') : RS K mg T ρ (S'.take S.length) H' := by
  have f := t.fewer
  have hl := R.len
  obtain ⟨l, el⟩ := t.pre
  refine ⟨?_, R.nd, fun n c e => ?_, R'.tab, fun a m => ?_⟩
  · rw [List.length_take, hl]
    have := ok.1
    omega
  · have hn : n < S.length := by
      have := (List.getElem?_eq_some_iff.mp e).1
      rw [List.length_take] at this
      omega
    rw [List.getElem?_take_of_lt hn] at e
    obtain ⟨a, ha, hc⟩ := R'.cell n c e
    rw [el, List.getElem?_append_left (by rw [hl]; exact hn)] at ha
    refine ⟨a, ha, hc.cut f ?_⟩
    rcases ok.2 n hn with q | ⟨c', q, z⟩
    · rw [e] at q
      obtain ⟨a', _, hc'⟩ := R.cell n c q.symm
      exact hc'.cl rfl
    · rw [e] at q; cases q
      rw [hl]; exact z
  · have q := R'.ban a (by rw [t.ban]; exact m)
    exact ⟨fun z => q.1 (by rw [el]; exact List.mem_append_left _ z), q.2⟩
theorem Aft.frz (t : Aft ρ H ρ' H') : Aft ρ H ρ H' := ⟨⟨[], (List.append_nil _).symm⟩, rfl, t.keep, t.tbl, fun _ m => .inl m⟩
end
theorem FnM.frz {P : Program} {w : World} {K : PySem.W.Frag} {mg : Str → Option Value} {base : Heap} {T : List NdefX.NTab} {CS : Nat → CloS} {k : Nat} {f : Addr} {fd : FuncData} {ps : List Str} {fm : FM} (F : FnM P w K mg base T CS k f fd ps fm) : FnM P w K mg base T CS k f fd ps (frzM fm) := by
  refine ⟨fun C A outer s H args us vs es S ρ Q E hr gd e0 hb hv hl hg hp R ho => F.run C A outer s H args us vs es S ρ Q E hr gd e0 hb hv hl hg hp R ?_⟩
  unfold frzM M3.frz at ho
  cases ef : fm es S with
  | ok d S' =>
    rw [ef] at ho
    dsimp only at ho
    split at ho
    · rename_i ok
      cases em : mapR (frzR S' S.length 4) d with
      | none => rw [em] at ho; exact ho.elim
      | some d' =>
        rw [em] at ho
        intro ρ' H' v t R' rd
        have f := t.fewer
        rw [R.len] at f
        exact ho ρ H' v t.frz (R.frz R' t ok) (mapR_ok f (fun n d' a => frzR_ok R' f 4 n d' a) d d' v em rd)
    · exact ho.elim
  | exc c fs S' =>
    rw [ef] at ho
    dsimp only at ho
    split at ho
    · rename_i ok
      cases em : mapRf (frzR S' S.length 4) fs with
      | none => rw [em] at ho; exact ho.elim
      | some fs' =>
        rw [em] at ho
        rintro ρ' H' cv d t R' ⟨C0, x1, x2, x3⟩
        have f := t.fewer
        rw [R.len] at f
        refine ho ρ H' cv d t.frz (R.frz R' t ok) ⟨C0, x1, x2, ?_⟩
        rcases x3 with ⟨e1, e2⟩ | ⟨dx, ys, e1, e2, e3, e4⟩
        · subst e1
          unfold mapRf at em
          cases em
          exact .inl ⟨rfl, e2⟩
        · exact .inr ⟨dx, ys, e1, e2, f.off e3, mapRf_ok f (fun n d' a => frzR_ok R' f 4 n d' a) fs fs' ys em e4⟩
    · exact ho.elim
  | bad => rw [ef] at ho; exact ho.elim
/-! ### defs by names -/
/-- the object is the def d's -/
def IsD (d : He.DefD) (fd : FuncData) : Prop := ∃ (kV doc pm : Value) (an : Option Addr) (cdv ct : Value), fd = PySem.W.fnOf d.name d.qual d.params d.body d.scope .none kV doc pm an cdv ct
def FnG (P : Program) (w : World) (K : PySem.W.Frag) (mg : Str → Option Value) (base : Heap) (T : List NdefX.NTab) (CS : Nat → CloS) (k : Nat) (x : Str) (d : He.DefD) (ps : List Str) (fm : FM) : Prop :=
  ∃ f fd, mg x = some (.ref f) ∧ FnM P w K mg base T CS k f fd ps fm ∧ Binds K fd ps [] ∧ PySem.W.keepIn K (.ref f) = true ∧ IsD d fd
/-- a def wherever it stands -/
def FnA (P : Program) (w : World) (K : PySem.W.Frag) (mg : Str → Option Value) (base : Heap) (T : List NdefX.NTab) (CS : Nat → CloS) (k : Nat) (d : He.DefD) (ps : List Str) (fm : FM) : Prop :=
  ∃ fd, FnM P w K mg base T CS k (He.fAd K d.at_) fd ps fm ∧ Binds K fd ps [] ∧ PySem.W.keepIn K (.ref (He.fAd K d.at_)) = true ∧ IsD d fd
abbrev XD (P : Program) (w : World) (K : PySem.W.Frag) (mg : Str → Option Value) (base : Heap) (N : List Str) (d : He.DefD) (f : Addr) (cdv : Value) (A : Around) (outer : List Env) (s : Shared) (H : Hp) (E : XK) : Cx := cxOf (L2.CX P w) P w K mg base N d.qual d.scope f cdv A outer s H E
abbrev FD (T : List NdefX.NTab) (CS : Nat → CloS) (C : Nat → List EV → Addr → Prop) (d : He.DefD) (f : Addr) (cdv : Value) (s : Shared) (ρ : Rho) (H : Hp) (E : XK) : Fm := fmOf T CS C (PyProof.Rows.envOfC d.qual d.scope s.heap.objs.size f cdv).cells ρ H E
section
variable {P : Program} {w : World} {K : PySem.W.Frag} {mg : Str → Option Value} {base : Heap} {T : List NdefX.NTab} {CS : Nat → CloS}
theorem FnG.eq {k : Nat} {x : Str} {d : He.DefD} {ps : List Str} {fm fm' : FM} (G : FnG P w K mg base T CS k x d ps fm) (h : ∀ es S, fm' es S = fm es S) : FnG P w K mg base T CS k x d ps fm' := by
  obtain ⟨f, fd, a, b, c⟩ := G
  exact ⟨f, fd, a, b.eq h, c⟩
theorem FnA.eq {k : Nat} {d : He.DefD} {ps : List Str} {fm fm' : FM} (G : FnA P w K mg base T CS k d ps fm) (h : ∀ es S, fm' es S = fm es S) : FnA P w K mg base T CS k d ps fm' := by
  obtain ⟨fd, b, c⟩ := G
  exact ⟨fd, b.eq h, c⟩
theorem FnA.g {k : Nat} {x : Str} {d : He.DefD} {ps : List Str} {fm : FM} (G : FnA P w K mg base T CS k d ps fm) (hm : mg x = some (.ref (He.fAd K d.at_))) : FnG P w K mg base T CS k x d ps fm := by
  obtain ⟨fd, b, c⟩ := G
  exact ⟨_, fd, hm, b, c⟩
theorem FnA.mono {j k : Nat} {d : He.DefD} {ps : List Str} {fm : FM} (G : FnA P w K mg base T CS j d ps fm) (h : j ≤ k) : FnA P w K mg base T CS k d ps fm := by
  obtain ⟨fd, b, c⟩ := G
  exact ⟨fd, b.mono h, c⟩
theorem fnA {k : Nat} {d : He.DefD} {N ps : List Str} {m : SM} (hF : ∃ fd, FunD K d.name d.qual d.params d.body d.scope (d.dvs K) (d.kws K) (He.fAd K d.at_) fd) (hd : d.dfl = []) (hk : d.kwd = []) (S : FnScope N ps d.scope)
    (hb : ∀ (kV doc pm : Value) (an : Option Addr) (cdv ct : Value) (us : List Value), us.length = ps.length → bindArgs (PySem.W.fnOf d.name d.qual d.params d.body d.scope .none kV doc pm an cdv ct) ⟨us, []⟩ = pure (ps.zip us))
    (hbody : ∀ (f : Addr) (cdv : Value) (C : Nat → List EV → Addr → Prop) (A : Around) (outer : List Env) (s : Shared) (H : Hp) (E : XK) (ρ : Rho), cdv = .ref (He.codeOf K d.at_) →
      FX (XD P w K mg base N d f cdv A outer s H E) (FD T CS C d f cdv s ρ H E) k → Gd CS K mg C s.heap ρ H →
      PSs (XD P w K mg base N d f cdv A outer s H E) d.body (rdS (XD P w K mg base N d f cdv A outer s H E) (FD T CS C d f cdv s ρ H E) m)) :
    FnA P w K mg base T CS (k + 1) d ps (frzM (finM N.length m)) := by
  obtain ⟨fd, F⟩ := hF
  have e1 : d.dvs K = [] := by unfold He.DefD.dvs; rw [hd]; rfl
  have e2 : d.kws K = [] := by unfold He.DefD.kws; rw [hk]; rfl
  rw [e1, e2] at F
  have hB := F.bindsN hb
  have hK := F.kp
  obtain ⟨oc, od, dV, kV, doc, pm, an, cdv, ct, osl, rfl, lk, hcd, hD, _⟩ := F.ex
  rcases hD with ⟨_, rfl⟩ | ⟨e, _⟩
  · obtain ⟨c, hc⟩ := He.codeIn_ref hcd
    have hcc : cdv = .ref (He.codeOf K d.at_) := by rw [He.codeOf_eq lk hc]; exact hc
    exact ⟨_, (fnm_of lk hcd S fun C A outer s H E ρ fx gd => hbody _ cdv C A outer s H E ρ hcc fx gd).frz, hB, hK, kV, doc, pm, an, cdv, ct, rfl⟩
  · exact absurd rfl e
end
section
variable {X : Cx} {F : Fm} {k j : Nat} {CS : Nat → CloS} {ps : List Str} {fm : FM} {x : Str} {d : He.DefD} {p pos : Pos} {e : Expr} {es : List Expr} {ma : AM}
theorem e_callG (fx : FX X F k) (G : FnG X.prog X.w X.K X.mg X.base F.T CS j x d ps fm) (hjk : j ≤ k) (hg : Gl X x) (hlen : ∀ env S ds S', ma env S = .ok ds S' → ds.length = ps.length)
    (ha : PA X (e :: es) (rdA X F ma)) (hdb : (x == ("__debug__" : Str)) = false := by decide) (he : starEach (e :: es) X.env = (false, eval e X.env) :: starEach es X.env := by rfl) (hpl : (backTo pos (starEach es X.env)).any (·.1) = false := by rfl) :
    PE X (.Call (.Name x p) (e :: es) [] pos) (rdE X F (mCall fm ma)) := by
  obtain ⟨f, fd, hm, Fn, hb, hk, _⟩ := G
  exact e_call fx Fn hjk hg hm hk hb hlen ha hdb he hpl
theorem e_callG0 (fx : FX X F k) (G : FnG X.prog X.w X.K X.mg X.base F.T CS j x d [] fm) (hjk : j ≤ k) (hg : Gl X x) (hdb : (x == ("__debug__" : Str)) = false := by decide) : PE X (.Call (.Name x p) [] [] pos) (rdE X F (mCall fm mNil)) := by
  obtain ⟨f, fd, hm, Fn, hb, hk, _⟩ := G
  exact e_call0 fx Fn hjk hg hm hk hb hdb
theorem e_gint {i : Int} (h : ∃ t, X.mg x = some (.int i t)) (hg : Gl X x) (hd : (x == ("__debug__" : Str)) = false := by decide) : PE X (.Name x pos) (rdE X F (mC (.int i))) := by
  obtain ⟨t, h⟩ := h
  exact e_glob hg h (v := .int i) ⟨t, rfl⟩ (fun _ _ => mk_int) hd
theorem e_gstr {z : Str} (h : ∃ t, X.mg x = some (.str z t)) (hg : Gl X x) (hd : (x == ("__debug__" : Str)) = false := by decide) : PE X (.Name x pos) (rdE X F (mC (.str z))) := by
  obtain ⟨t, h⟩ := h
  exact e_glob hg h (v := .str z) ⟨t, rfl⟩ (fun _ _ => mk_str) hd
/-- a module's tuple of texts -/
theorem rds_strs {K : PySem.W.Frag} {mg : Str → Option Value} {ρ : Rho} {H : Hp} : ∀ zs : List Str, RDs K mg ρ H (zs.map D.str) (zs.map V.str)
  | [] => RDs.nil_iff.mpr rfl
  | z :: zs => RDs.cons_iff.mpr ⟨_, _, rfl, mk_str, rds_strs zs⟩
theorem e_gtup {zs : List Str} (h : ∃ a o its n, X.mg x = some (.ref a) ∧ X.K.lookup a = some o ∧ o.cls = .type "tuple" ∧ o.data = .seq its n ∧ its.size ≤ sizeLine ∧ Vals (zs.map V.str) its.toList) (hg : Gl X x) (hd : (x == ("__debug__" : Str)) = false := by decide) :
    PE X (.Name x pos) (rdE X F (mC (.tup (zs.map .str)))) := by
  obtain ⟨a, o, its, n, hm, h1, h2, h3, h4, h5⟩ := h
  refine e_glob hg hm (v := .ref a) rfl (fun ρ H => ?_) hd
  unfold RD
  exact ⟨a, zs.map V.str, rfl, .inr ⟨o, its, n, h1, h2, h3, h4, h5⟩, rds_strs zs⟩
end
end M3

set_option Elab.async false
set_option linter.all false
set_option maxRecDepth 100000
set_option maxHeartbeats 1000000
/-! M3J: defs within defs, lambdas; handed to other defs, called there. -/
namespace M3
open PySem PySem.Spec L2
theorem fnZ_at {P : Program} {w : World} {H : Hp} {h : Heap} {f : Addr} {F : FZ} (hok : HOk P w H h) (e : H f = some (FnZ f F)) : ∃ (od : Option Addr) (sl : Array (Option Value)) (doc pm ctv : Value), h.get? f = some (⟨.type "function", od, .func (F.fd doc pm ctv), sl⟩ : Obj) := by
  obtain ⟨z, _, _⟩ := hok f _ e
  exact z
section
variable {X : Cx} {pins : List (Addr × Obj)} {σ : St} {H : Hp} {s : Shared}
theorem inv_fnZ {F : FZ} {o : Obj} {t' : Nat} {doc pm ctv : Value} (I : Inv X pins σ H s) (ho : o = { cls := .type "function", data := .func (F.fd doc pm ctv) }) :
    Inv X pins σ (upd H s.heap.objs.size (FnZ s.heap.objs.size F)) { s with heap := s.heap.push o, toks := t' } := by
  subst ho
  refine I.laid (a := s.heap.objs.size) (fun b u e => Heap.get?_push_of_some _ e) (Nat.le_refl _) ?_
  have e : (s.heap.push ({ cls := .type "function", data := .func (F.fd doc pm ctv) } : Obj)).get? s.heap.objs.size = some ({ cls := .type "function", data := .func (F.fd doc pm ctv) } : Obj) := Heap.get?_push_size _ rfl
  exact ⟨⟨_, _, doc, pm, ctv, e⟩, ⟨_, e⟩, fun h1 h2 ⟨od, sl, d, p, t, z⟩ st => ⟨od, sl, d, p, t, st _ z⟩⟩
/-- a lambda is made -/
theorem lam_makeZ {T : List NdefX.NTab} {nm : Nat → Nat → Str} {c P : Addr} {params : Arguments} {body : Expr} {scope : Scope} {pos : Pos} {fr : List Str} {E : Value → Shared → Prop} {Q : Value → Shared → Prop} (I : Inv X pins σ H s) (TB : LamX.TabB X.base X.mg c P) (hcode : X.env.code = .ref c)
    (hm : (P, nm) ∈ T) (hn : nm pos.line pos.col = X.env.qual ++ "<lambda>") (hu : ∀ p ∈ T, p.1 = P → p.2 = nm) (hT : NdefX.TabsN T H) (hdef : defaultsOf params X.env = ([], [])) (hfree : ∀ y ∈ scope.names, y.2 = .free → ∃ c, X.env.cells.lookup y.1 = some c)
    (h : ∀ (f c' : Addr) (H1 : Hp) (s' : Shared), Inv X pins σ H1 s' → LamX.ExtN H H1 → (∀ b, H1 b = Option.none → H b = Option.none) → NdefX.TabsN T H1 → H f = none → H1 f = some (FnZ f ⟨⟨"<lambda>", X.env.qual ++ "<lambda>", params, .expr body, scope, fr⟩, cloFrom X.env.cells scope.names [], c'⟩) → H1 c' = some (LamX.CodeO c' (X.env.qual ++ "<lambda>")) → Q (.ref f) s') :
    wpAny (model X.prog X.w) X.A (eval (.Lambda params body scope pos) X.env) Q E s := by
  refine PySem.W.kla_eval hdef ?_
  obtain ⟨ps, hP, ht, ha⟩ := (show NdefX.TabN H P nm from hT _ hm)
  have bP : s.heap.BuiltinsAt X.mg P := TB.bm.keeps I.bk
  have hP' : s.heap.get? P = some { cls := .none, data := .fields ps } := I.hok P _ hP
  cases hc : codeAmong pos ps.toList with
  | none =>
    refine PySem.W.kla_makeFunction (mg := X.mg) (c := c) (P := P) (ps := ps) (closure_ok hfree) I.ok.glob (I.mod.glob.keeps I.bk) hcode (TB.code.keeps I.bk) hP' ht hc TB.gP bP fun c' ctv h' tk hx hge hlt hrec htb => ?_
    obtain ⟨c2, oc, vs, t, e2, hoc, hd, hv⟩ := hrec
    cases e2
    have nC : H c' = none := I.hok.fresh hge
    have I1 := LamX.inv_table (t' := tk) (more := #[rawInt pos.line, rawInt pos.col, .ref c']) (h' := h') I hP (fun b o hb e => hx b o hb e) htb hge ⟨oc, vs, t, hoc, hd, hv⟩
    have hE : LamX.ExtN H (upd (upd H P (.tbl (ps ++ #[rawInt pos.line, rawInt pos.col, .ref c']))) c' (LamX.CodeO c' (X.env.qual ++ "<lambda>"))) := fun b o e n => by
      rw [upd_ne (ne_of_none e nC), upd_ne (fun z => n ps (Option.some.inj (e.symm.trans (by rw [z]; exact hP))))]
      exact e
    have eL : (ps ++ #[rawInt pos.line, rawInt pos.col, .ref c']).toList = ps.toList ++ [rawInt pos.line, rawInt pos.col, .ref c'] := by simp
    have T1 : NdefX.TabsN T (upd (upd H P (.tbl (ps ++ #[rawInt pos.line, rawInt pos.col, .ref c']))) c' (LamX.CodeO c' (X.env.qual ++ "<lambda>"))) := fun p hp => by
      by_cases hb : p.1 = P
      · rw [hu p hp hb, hb]
        refine ⟨_, by rw [upd_ne (ne_of_none hP nC), upd_same], by rw [eL]; exact PySem.TriplesOk_snoc _ _ _ _ ht, fun p' cv hcv => ?_⟩
        rw [eL] at hcv
        rcases NdefX.among_app2 _ ht hcv with z | ⟨z, z1, z2⟩
        · obtain ⟨c0, e1, e2⟩ := ha p' cv z
          exact ⟨c0, e1, hE _ _ e2 LamX.codeO_ne⟩
        · refine ⟨c', z, ?_⟩
          rw [← z1, ← z2, hn]
          exact upd_same
      · obtain ⟨ps', a1, a2, a3⟩ := hT p hp
        refine ⟨ps', by rw [upd_ne (ne_of_none a1 nC), upd_ne hb]; exact a1, a2, fun p' cv hcv => ?_⟩
        obtain ⟨c0, e1, e2⟩ := a3 p' cv hcv
        exact ⟨c0, e1, hE _ _ e2 LamX.codeO_ne⟩
    have nF := I1.hok.fresh (Nat.le_refl _)
    have I2 := inv_fnZ (F := ⟨⟨"<lambda>", X.env.qual ++ "<lambda>", params, .expr body, scope, fr⟩, cloFrom X.env.cells scope.names [], c'⟩) (t' := tk) (doc := .none) (pm := (X.mg "__name__").getD .none) (ctv := ctv) I1 rfl
    refine h h'.objs.size c' _ _ I2 (fun b o e n => ?_) (fun b e => upd_no (upd_no (upd_no e))) (T1.ext fun b o e => ?_) (I.hok.fresh (Nat.le_trans hge (Nat.le_of_lt hlt))) upd_same ?_
    · have e1 := hE b o e n
      exact (upd_ne (ne_of_none e1 nF)).trans e1
    · exact (upd_ne (ne_of_none e nF)).trans e
    · exact (upd_ne (Nat.ne_of_lt hlt)).trans upd_same
  | some cv =>
    obtain ⟨c', e, hco⟩ := ha pos cv hc
    subst e
    rw [hn] at hco
    refine PySem.W.kla_makeFunctionHit (mg := X.mg) (c := c) (P := P) (ps := ps) (closure_ok hfree) I.ok.glob (I.mod.glob.keeps I.bk) hcode (TB.code.keeps I.bk) hP' ht hc bP fun ctv h' tk hx hsz => ?_
    have I1 : Inv X pins σ H { s with heap := h', toks := tk } := I.kept hx
    have nF : H h'.objs.size = none := I1.hok.fresh (Nat.le_refl _)
    have I2 := inv_fnZ (F := ⟨⟨"<lambda>", X.env.qual ++ "<lambda>", params, .expr body, scope, fr⟩, cloFrom X.env.cells scope.names [], c'⟩) (t' := tk) (doc := .none) (pm := (X.mg "__name__").getD .none) (ctv := ctv) I1 rfl
    refine h h'.objs.size c' _ _ I2 (fun b o e n => ?_) (fun b e => upd_no e) (hT.ext fun b o e => ?_) nF upd_same ?_
    · exact (upd_ne (ne_of_none e nF)).trans e
    · exact (upd_ne (ne_of_none e nF)).trans e
    · exact (upd_ne (ne_of_none hco nF)).trans hco
end
/-! ### .. as statements, as arguments -/
section
variable {K : PySem.W.Frag} {mg : Str → Option Value} {T : List NdefX.NTab} {ρ : Rho} {S : Store} {H H1 : Hp}
theorem RS.offCode (R : RS K mg T ρ S H) {c : Addr} {q : Str} (h : H c = some (LamX.CodeO c q)) : ρ.off c := by
  refine ⟨fun m => ?_, fun m => ?_⟩
  · obtain ⟨n, hn⟩ := List.mem_iff_getElem?.mp m
    have hl : n < S.length := by rw [← R.len]; exact (List.getElem?_eq_some_iff.mp hn).1
    obtain ⟨b, hb, cc⟩ := R.cell n _ (List.getElem?_eq_getElem hl)
    rw [hn] at hb
    cases hb
    exact cc.notCode h
  · obtain ⟨_, xs, e⟩ := R.ban c m
    rw [h] at e
    exact codeO_nelst (Option.some.inj e).symm
theorem RS.extN (R : RS K mg T ρ S H) (e : LamX.ExtN H H1) (n : ∀ b, H1 b = none → H b = none) (t : NdefX.TabsN T H1) : Aft ρ H ρ H1 ∧ RS K mg T ρ S H1 := by
  have a : Aft ρ H ρ H1 := ⟨⟨[], (List.append_nil _).symm⟩, rfl, fun a o h _ nt => e a o h nt, n, fun _ h => .inl h⟩
  refine ⟨a, R.mv a.mv rfl (fun a m => ?_) t fun a m => ?_⟩
  · obtain ⟨o, h, nt⟩ := R.there m
    rw [h, e a o h nt]
  · obtain ⟨h1, xs, h2⟩ := R.ban a m
    exact ⟨h1, xs, e a _ h2 fun ps z => by cases z⟩
end
def mNdef (i k : Nat) : SM := fun env S => .nx (env.set i (some (.fl k))) S
/-- a lambda's reading -/
def tLamZ (T : List NdefX.NTab) (mk : Addr → FZ) : TE := fun σ H Q => NdefX.TabsN T H ∧ ∀ (f c' : Addr) (H1 : Hp), LamX.ExtN H H1 → (∀ b, H1 b = Option.none → H b = Option.none) → NdefX.TabsN T H1 → H f = none → H1 f = some (FnZ f (mk c')) → H1 c' = some (LamX.CodeO c' (mk c').z.qual) → Q (.ref f) H1
section
variable {X : Cx} {F : Fm} {k i j : Nat} {ρ : Rho} {H : Hp} {S : Store} {σ : St} {env : Evs} {pos : Pos} {st : Stmt} {mk : Addr → NdefX.NF}
theorem s_ndef (hp : PS X st (NdefX.tNdefM F.T i mk)) (hL : ∀ f c', NdefX.FnO f (mk c') = FnZ f (F.L j c')) (hq : ∀ c', (mk c').qual = (F.L j c').z.qual) : PS X st (rdS X F (mNdef i j)) := by
  refine PS.imp hp fun D σ H ⟨env, S, ρ, re, rs, o⟩ => ⟨rs.tab, fun f c' H1 e n t f0 f1 c1 => ?_⟩
  obtain ⟨a, R1⟩ := rs.extN e n t
  refine o ρ H1 _ a R1 ((re.later a).set (e := .fl j) ⟨f, c', rfl, by rw [← hL]; exact f1, (rs.offs f0 : ρ.off f), by rw [← hq]; exact c1, R1.offCode c1⟩ i)
theorem e_lamZ {T : List NdefX.NTab} {nm : Nat → Nat → Str} {c P : Addr} {params : Arguments} {body : Expr} {scope : Scope} {fr : List Str} (TB : LamX.TabB X.base X.mg c P) (hcode : X.env.code = .ref c)
    (hm : (P, nm) ∈ T) (hn : nm pos.line pos.col = X.env.qual ++ "<lambda>") (hu : ∀ p ∈ T, p.1 = P → p.2 = nm) (hdef : defaultsOf params X.env = ([], [])) (hfree : ∀ y ∈ scope.names, y.2 = .free → X.env.scope.names.lookup y.1 = some .cell ∨ X.env.scope.names.lookup y.1 = some .free) :
    PE X (.Lambda params body scope pos) (tLamZ T fun c' => ⟨⟨"<lambda>", X.env.qual ++ "<lambda>", params, .expr body, scope, fr⟩, cloFrom X.env.cells scope.names [], c'⟩) := by
  refine ⟨fun pins s σ H Q I h => ?_⟩
  obtain ⟨hT, h⟩ := h
  have hfr : ∀ y ∈ scope.names, y.2 = .free → ∃ c, X.env.cells.lookup y.1 = some c := fun y hy e => (hfree y hy e).elim (fun z => I.ok.has _ (.inl z)) fun z => I.ok.has _ (.inr z)
  exact lam_makeZ (fr := fr) I TB hcode hm hn hu hT hdef hfr fun f c' H1 s' I1 eN nn T1 f0 f1 c1 => ⟨.ref f, H1, I1, rfl, h f c' H1 eN nn T1 f0 f1 c1⟩
/-! ### arguments among which are functions -/
def rdV (X : Cx) (F : Fm) (m : AvM) : TA := fun σ H Q => ∃ env S ρ, RE X.K X.mg F ρ H env σ ∧ RS X.K X.mg F.T ρ S H ∧ OutE X F σ ρ H (m env S) fun es ρ' _ H' => ∀ vs, Paired (RV X.K X.mg F ρ' H') es vs → Q vs H'
def vNil : AvM := fun _ S => .ok [] S
def vD (ma : EM) (mr : AvM) : AvM := fun env S => (ma env S).bind fun x S1 => (mr env S1).bind fun xs S2 => .ok (.v x :: xs) S2
def vF (i : Nat) (mr : AvM) : AvM := fun env S => match env[i]? with
  | some (some e) => (mr env S).bind fun xs S2 => .ok (e :: xs) S2
  | _ => .bad
def vL (k : Nat) (mr : AvM) : AvM := fun env S => (mr env S).bind fun xs S2 => .ok (.fl k :: xs) S2
variable {a : Expr} {es : List Expr} {ma : EM} {mr : AvM} {x : Str}
theorem v_nil : PA X [] (rdV X F vNil) := PA.imp pa_nil fun σ H Q ⟨env, S, ρ, re, rs, o⟩ => o ρ H Aft.refl rs [] .nil
theorem v_d (ha : PE X a (rdE X F ma)) (hr : PA X es (rdV X F mr)) (hs : starEach (a :: es) X.env = (false, eval a X.env) :: starEach es X.env := by rfl) : PA X (a :: es) (rdV X F (vD ma mr)) := by
  refine PA.imp (pa_cons ha hr hs) fun σ H Q ⟨env, S, ρ, re, rs, o⟩ => ?_
  refine ⟨env, S, ρ, re, rs, (OutE.bind o).imp fun x ρ1 S1 H1 t1 R1 o1 v hv => ?_⟩
  refine ⟨env, S1, ρ1, re.later t1, R1, (OutE.bind o1).imp fun xs ρ2 S2 H2 t2 R2 o2 vs hvs => ?_⟩
  exact o2 ρ2 H2 Aft.refl R2 _ (.cons (RD.later t2.mv x v hv) hvs)
theorem v_f (hp : PE X (.Name x pos) (tVar i)) (hr : PA X es (rdV X F mr)) (hs : starEach ((.Name x pos) :: es) X.env = (false, eval (.Name x pos) X.env) :: starEach es X.env := by rfl) : PA X (.Name x pos :: es) (rdV X F (vF i mr)) := by
  refine PA.imp (pa_cons hp hr hs) fun σ H Q ⟨env, S, ρ, re, rs, o⟩ => ?_
  unfold vF at o
  split at o
  · rename_i e he
    obtain ⟨u, hu, r⟩ := Paired.get re.sl he
    cases u with
    | none => exact r.elim
    | some v =>
      refine ⟨v, hu, env, S, ρ, re, rs, (OutE.bind o).imp fun xs ρ2 S2 H2 t2 R2 o2 vs hvs => ?_⟩
      exact o2 ρ2 H2 Aft.refl R2 _ (.cons (RV.later t2.mv r) hvs)
  · exact o.elim
theorem v_l {mk : Addr → FZ} (hp : PE X a (tLamZ F.T mk)) (hL : ∀ c', mk c' = F.L j c') (hr : PA X es (rdV X F mr)) (hs : starEach (a :: es) X.env = (false, eval a X.env) :: starEach es X.env := by rfl) : PA X (a :: es) (rdV X F (vL j mr)) := by
  refine PA.imp (pa_cons hp hr hs) fun σ H Q ⟨env, S, ρ, re, rs, o⟩ => ?_
  refine ⟨rs.tab, fun f c' H1 e n t f0 f1 c1 => ?_⟩
  obtain ⟨t1, R1⟩ := rs.extN e n t
  refine ⟨env, S, ρ, re.later t1, R1, (OutE.bind (OutE.later t1 o)).imp fun xs ρ2 S2 H2 t2 R2 o2 vs hvs => ?_⟩
  refine o2 ρ2 H2 Aft.refl R2 _ (.cons (RV.later t2.mv (e := .fl j) ⟨f, c', rfl, by rw [← hL]; exact f1, (rs.offs f0 : ρ.off f), by rw [← hL]; exact c1, R1.offCode c1⟩) hvs)
end
/-! ### what a function that is handed over captures -/
def atE (f : EV → Option EV) (env : Evs) (j : Nat) : Option EV := match env[j]? with
  | some (some e) => f e
  | _ => none
def cnvE (cap : List (Nat × List Nat)) (env : Evs) : Nat → EV → Option EV
  | _, .v d => some (.v d)
  | _, .fn k ws => some (.fn k ws)
  | 0, .fl _ => none
  | n + 1, .fl k => match cap.lookup k with
    | some js => (js.mapM (atE (cnvE cap env n) env)).map (.fn k)
    | none => none
def cnvs (cap : List (Nat × List Nat)) (env : Evs) (es : List EV) : Option (List EV) := es.mapM (cnvE cap env 3)
/-- the names that are captured stand so -/
def capB (N : List Str) (sc : Scope) (CS : Nat → CloS) (cap : List (Nat × List Nat)) : Bool := cap.all fun p => NdefX.ndefB sc (CS p.1).scope (CS p.1).fr && decide (p.2.map (fun j => N[j]?) = (CS p.1).fr.map some)
def Cn (F : Fm) (cap : List (Nat × List Nat)) (env : Evs) (ρ : Rho) (H : Hp) : Nat → List EV → Addr → Prop := fun k ws f => F.C k ws f ∨ ∃ n c, cnvE cap env n (.fl k) = some (.fn k ws) ∧ H f = some (FnZ f (F.L k c)) ∧ ρ.off f ∧ H c = some (LamX.CodeO c (F.L k c).z.qual) ∧ ρ.off c
section
variable {X : Cx} {F : Fm} {ρ : Rho} {H : Hp} {S : Store} {σ : St} {env : Evs} {cap : List (Nat × List Nat)} {CS : Nat → CloS} {pins : List (Addr × Obj)} {s : Shared}
theorem RVa.imp {K : PySem.W.Frag} {mg : Str → Option Value} {C C' : Nat → List EV → Addr → Prop} (h : ∀ k ws f, C k ws f → C' k ws f) : ∀ {e : EV} {v : V}, RVa K mg C ρ H e v → RVa K mg C' ρ H e v
  | .v d, v, r => r
  | .fn k ws, v, ⟨f, e, r⟩ => ⟨f, e, h _ _ _ r⟩
theorem cnv_v {n : Nat} {d : D} : cnvE cap env n (.v d) = some (.v d) := by cases n <;> rfl
theorem cnv_fn {n k : Nat} {ws : List EV} : cnvE cap env n (.fn k ws) = some (.fn k ws) := by cases n <;> rfl
theorem cnv_key {n : Nat} {e e' : EV} {v : V} (h : RV X.K X.mg F ρ H e v) (c : cnvE cap env n e = some e') : RVa X.K X.mg (Cn F cap env ρ H) ρ H e' v := by
  cases e with
  | v d => rw [cnv_v] at c; cases c; exact h
  | fn k ws =>
    rw [cnv_fn] at c; cases c
    obtain ⟨f, e, q⟩ := h
    exact ⟨f, e, .inl q⟩
  | fl k =>
    obtain ⟨f, c', e, h1, h2, h3, h4⟩ := h
    cases n with
    | zero => cases c
    | succ n =>
      have c0 := c
      unfold cnvE at c
      split at c
      · rename_i js hj
        cases em : js.mapM (atE (cnvE cap env n) env) with
        | none => rw [em] at c; cases c
        | some ws =>
          rw [em] at c; cases c
          exact ⟨f, e, .inr ⟨n + 1, c', c0, h1, h2, h3, h4⟩⟩
      · cases c
theorem cnvs_key : ∀ {es es' : List EV} {vs : List V}, Paired (RV X.K X.mg F ρ H) es vs → cnvs cap env es = some es' → Paired (RVa X.K X.mg (Cn F cap env ρ H) ρ H) es' vs
  | [], es', _, .nil, c => by
    unfold cnvs at c
    rw [List.mapM_nil] at c
    cases c
    exact .nil
  | e :: es, es', _, .cons r t, c => by
    unfold cnvs at c
    rw [List.mapM_cons] at c
    cases e1 : cnvE cap env 3 e with
    | none => rw [e1] at c; cases c
    | some w =>
      rw [e1] at c
      cases e2 : List.mapM (cnvE cap env 3) es with
      | none => rw [e2] at c; cases c
      | some ws => rw [e2] at c; cases c; exact .cons (cnv_key r e1) (cnvs_key t e2)
/-- the captured slots hold these values -/
theorem cap_vals {n : Nat} (re : RE X.K X.mg F ρ H env σ) : ∀ {js : List Nat} {ws : List EV}, js.mapM (atE (cnvE cap env n) env) = some ws → ∃ vs, js.map (NdefX.slotAt σ) = vs.map some ∧ Paired (RVa X.K X.mg (Cn F cap env ρ H) ρ H) ws vs
  | [], ws, c => by
    rw [List.mapM_nil] at c
    cases c
    exact ⟨[], rfl, .nil⟩
  | j :: js, ws, c => by
    rw [List.mapM_cons] at c
    cases e1 : atE (cnvE cap env n) env j with
    | none => rw [e1] at c; cases c
    | some w =>
      rw [e1] at c
      cases e2 : js.mapM (atE (cnvE cap env n) env) with
      | none => rw [e2] at c; cases c
      | some ws' =>
        rw [e2] at c; cases c
        obtain ⟨vs, h1, h2⟩ := cap_vals re e2
        unfold atE at e1
        split at e1
        · rename_i e he
          obtain ⟨u, hu, r⟩ := Paired.get re.sl he
          cases u with
          | none => exact r.elim
          | some v => exact ⟨v :: vs, by rw [List.map_cons, List.map_cons, h1, NdefX.slotAt_of hu], .cons (cnv_key r e1) h2⟩
        · cases e1
theorem Gd.later {C : Nat → List EV → Addr → Prop} {ρ0 : Rho} (g : Gd CS X.K X.mg C X.s_0.heap ρ0 X.H_0) (hx : X.ex = []) (I : Inv X pins σ H s) (mv : Mv ρ0 X.H_0 ρ H) : Gd CS X.K X.mg C s.heap ρ H := by
  intro k ws f h
  obtain ⟨cl, c, vs, h1, h2, h3, h4, h5, h6⟩ := g k ws f h
  have a1 := mv.at_ _ _ h1 h2 (fun ps e => fnZ_ne ps e)
  have a2 := mv.at_ _ _ h3 h4 (fun ps e => LamX.codeO_ne ps e)
  refine ⟨cl, c, vs, a1.1, a1.2, a2.1, a2.2, ?_, Paired.mapP h6 fun _ _ z => RVa.mv mv z⟩
  have kp : ∀ y c, cl.lookup y = some c → ∀ v, X.s_0.heap.IsCell c v → s.heap.IsCell c v := fun y c e v ⟨o, ho, hd⟩ => by
    obtain ⟨sl, q⟩ := I.base.any ho (h5.all y c e).1 (by rw [hx]; simp)
    exact ⟨_, q, hd⟩
  refine ⟨h5.len, fun y c e => ?_, h5.inj, fun i y e => ?_⟩
  · obtain ⟨n, v, z⟩ := h5.all y c e
    refine ⟨?_, v, kp y c e v z⟩
    obtain ⟨o, ho, _⟩ := z
    exact I.base.free c o ho n (by rw [hx]; simp)
  · obtain ⟨c, hc, hv⟩ := h5.has i y e
    refine ⟨c, hc, fun v ev => ?_⟩
    obtain ⟨u, r, z⟩ := hv v ev
    exact ⟨u, r, kp y c hc _ z⟩
theorem lk_mem {β : Type} {a : Nat} {o : β} : ∀ {l : List (Nat × β)}, l.lookup a = some o → (a, o) ∈ l
  | [], h => by cases h
  | (b, u) :: r, h => by
    rw [List.lookup_cons] at h
    split at h
    · rename_i q
      cases h
      rw [beq_iff_eq.mp q]
      exact List.mem_cons_self
    · exact List.mem_cons_of_mem _ (lk_mem h)
theorem Cn.gd (hx : X.ex = []) (hL : ∀ k c, F.L k c = (CS k).nf (cloFrom X.env.cells (CS k).scope.names []) c) (hcap : capB X.N X.env.scope CS cap = true) (I : Inv X pins σ H s) (re : RE X.K X.mg F ρ H env σ) (g : Gd CS X.K X.mg F.C s.heap ρ H) : Gd CS X.K X.mg (Cn F cap env ρ H) s.heap ρ H := by
  intro k ws f h
  rcases h with h | ⟨n, c, hc, h1, h2, h3, h4⟩
  · obtain ⟨cl, c, vs, a1, a2, a3, a4, a5, a6⟩ := g k ws f h
    exact ⟨cl, c, vs, a1, a2, a3, a4, a5, Paired.mapP a6 fun _ _ z => RVa.imp (fun _ _ _ q => .inl q) z⟩
  · cases n with
    | zero => cases hc
    | succ n =>
      unfold cnvE at hc
      split at hc
      · rename_i js hj
        cases em : js.mapM (atE (cnvE cap env n) env) with
        | none => rw [em] at hc; cases hc
        | some ws' =>
          rw [em] at hc; cases hc
          obtain ⟨vs, e1, e2⟩ := cap_vals re em
          have hm : (k, js) ∈ cap := lk_mem hj
          have hb := List.all_eq_true.mp hcap _ hm
          simp only [Bool.and_eq_true, decide_eq_true_eq] at hb
          have cp := NdefX.Caps.made (fr := (CS k).fr) (js := js) I.ok (NdefX.ndef_free hb.1) (NdefX.ndef_fr hb.1) hb.2
          rw [hL] at h1 h3
          exact ⟨_, c, vs, h1, h2, h3, h4, by rw [← e1]; exact NdefX.cells_of I cp, e2⟩
      · cases hc
end
/-! ### what a function that is handed over promises -/
structure FnC (P : Program) (w : World) (K : PySem.W.Frag) (mg : Str → Option Value) (base : Heap) (T : List NdefX.NTab) (CS : Nat → CloS) (lv k : Nat) (cm : List EV → FM) : Prop where
  run : ∀ (C : Nat → List EV → Addr → Prop) (A : Around) (outer : List Env) (s : Shared) (H : Hp) (f c : Addr) (cl : List (Str × Addr)) (us : List Value) (vs wvs : List V) (ws es : List EV) (S : Store) (ρ : Rho) (Q : VK) (E : XK), Room lv A → A.guards = some [] → Env0 P w K mg base A outer s H →
    H f = some (FnZ f ((CS k).nf cl c)) → H c = some (LamX.CodeO c (CS k).qual) → NdefX.CellsAt cl (CS k).fr (wvs.map some) s.heap H → Paired (RVa K mg C ρ H) ws wvs → Gd CS K mg C s.heap ρ H → Vals vs us → Paired (RVa K mg C ρ H) es vs → RS K mg T ρ S H →
    OutF K mg T ρ H (cm ws es S) Q E → codeAny (model P w) A (.call (.ref f) ⟨us, []⟩) (CR (L2.CX P w) outer P w H s Q E) s
def cBad : List EV → FM := fun _ _ _ => .bad
section
variable {P : Program} {w : World} {K : PySem.W.Frag} {mg : Str → Option Value} {base : Heap} {T : List NdefX.NTab} {CS : Nat → CloS} {lv k : Nat} {cm : List EV → FM}
theorem FnC.bad : FnC P w K mg base T CS lv k cBad := ⟨fun C A outer s H f c cl us vs wvs ws es S ρ Q E _ _ _ _ _ _ _ _ _ _ _ o => o.elim⟩
theorem FnC.mono (F : FnC P w K mg base T CS lv k cm) {l : Nat} (h : lv ≤ l) : FnC P w K mg base T CS l k cm := ⟨fun C A outer s H f c cl us vs wvs ws es S ρ Q E hr => F.run C A outer s H f c cl us vs wvs ws es S ρ Q E (hr.mono h)⟩
abbrev FZ.nf0 (F : FZ) : NdefX.NF := ⟨F.z.name, F.z.qual, F.z.params, [], F.z.scope, F.cl, F.c⟩
abbrev ncz (P : Program) (w : World) (K : PySem.W.Frag) (mg : Str → Option Value) (base : Heap) (N : List Str) (F : FZ) (f : Addr) (A : Around) (outer : List Env) (s : Shared) (H : Hp) (E : XK) : Cx := NdefX.ncx (L2.CX P w) P w K mg base N F.nf0 f A outer s H E
def finC (n p q : Nat) (m : SM) : List EV → FM := fun ws es S => if es.length = p ∧ ws.length = q then (m (es.map some ++ (ws.map some ++ List.replicate (n - p - q) none)) S).fin else .bad
def finX (n p q : Nat) (m : EM) : List EV → FM := fun ws es S => if es.length = p ∧ ws.length = q then m (es.map some ++ (ws.map some ++ List.replicate (n - p - q) none)) S else .bad
theorem paired_app {α β : Type} {G : α → β → Prop} : ∀ {l₁ l₂ : List α} {m₁ m₂ : List β}, Paired G l₁ m₁ → Paired G l₂ m₂ → Paired G (l₁ ++ l₂) (m₁ ++ m₂)
  | _, _, _, _, .nil, h => h
  | _, _, _, _, .cons r t, h => .cons r (paired_app t h)
theorem start_re {C : Nat → List EV → Addr → Prop} {F : Fm} (hC : F.C = C) {ρ : Rho} {H : Hp} {es ws : List EV} {vs wvs : List V} {N : List Str} (h1 : Paired (RVa K mg C ρ H) es vs) (h2 : Paired (RVa K mg C ρ H) ws wvs) :
    Paired (RSl K mg F ρ H) (es.map some ++ (ws.map some ++ List.replicate (N.length - es.length - ws.length) none)) (NdefX.startF N vs (wvs.map some)) := by
  unfold NdefX.startF
  rw [Paired.len h1, Paired.len h2, List.length_map]
  have := paired_env (F := F) hC 0 h1
  rw [List.replicate_zero, List.replicate_zero, List.append_nil, List.append_nil] at this
  exact paired_app this (paired_env hC _ h2)
/-- a def within a def by its body -/
theorem fnc_st {z : CloS} (hz : CS k = z) {body : List Stmt} (hbd : z.body = .stmts body) {N ps : List Str} {m : SM} (S0 : NdefX.NScope N ps z.fr z.scope) (hb : ∀ (cl : List (Str × Addr)) (c : Addr) (doc pm ctv : Value) (us : List Value), us.length = ps.length → bindArgs ((z.nf cl c).fd doc pm ctv) ⟨us, []⟩ = pure (ps.zip us))
    (hbody : ∀ (cl : List (Str × Addr)) (c f : Addr) (C : Nat → List EV → Addr → Prop) (A : Around) (outer : List Env) (s : Shared) (H : Hp) (E : XK) (ρ : Rho),
      FX (ncz P w K mg base N (z.nf cl c) f A outer s H E) (fmOf T CS C cl ρ H E) lv → Gd CS K mg C s.heap ρ H →
      PSs (ncz P w K mg base N (z.nf cl c) f A outer s H E) body (rdS (ncz P w K mg base N (z.nf cl c) f A outer s H E) (fmOf T CS C cl ρ H E) m)) :
    FnC P w K mg base T CS (lv + 1) k (finC N.length ps.length z.fr.length m) := by
  subst hz
  refine ⟨fun C A outer s H f c cl us vs wvs ws es S ρ Q E hr gd e0 hf hc cells hw hg r hp R ho => ?_⟩
  unfold finC at ho
  split at ho
  · rename_i hl
    have hlv : vs.length = ps.length := by rw [← Paired.len hp]; exact hl.1
    have lim : s.heap.NoLimit := e0.mod.nolimit.keeps fun b o e => (e0.bs b o e).1
    obtain ⟨od, sl, doc, pm, ctv, hfo⟩ := fnZ_at e0.hok hf
    refine codeAny_call_function hr.depth hfo rfl S0.co S0.gen hbd (NdefX.codeO_at e0.hok hc) ?_
    rw [hb cl c doc pm ctv us (by rw [← r.length]; exact hlv)]
    refine wpAny_pure (wpAny_newFunctionEnv S0.nocell (fun ⟨n, _⟩ hy => S0.par n (List.of_mem_zip hy).1) (fun h₁ hns hsb => ⟨lim.fresh _ hsb, ?_⟩) S0.kind)
    show codeAny _ _ (.func body (NdefX.envF ((CS k).nf cl c).nf0 f s.heap.objs.size)) _ _
    refine codeAny_func ?_
    have kp : ∀ b o, s.heap.get? b = some o → h₁.get? b = some o := fun b o e => hsb.extBut b o (Nat.ne_of_lt (Heap.lt_size e)) (Heap.get?_push_of_some _ e)
    have I : Inv (ncz P w K mg base N ((CS k).nf cl c) f A outer s H E) [] (NdefX.startF N vs (wvs.map some)) H { s with heap := h₁, toks := s.toks + (ps.zip us).length } := NdefX.inv_startN S0 hr.hd e0 hlv r cells hns kp
    have fx : FX (ncz P w K mg base N ((CS k).nf cl c) f A outer s H E) (fmOf T CS C cl ρ H E) lv :=
      ⟨rfl, S0.nd, takes_of (X := ncz P w K mg base N ((CS k).nf cl c) f A outer s H E) rfl rfl rfl rfl, passes_of (X := ncz P w K mg base N ((CS k).nf cl c) f A outer s H E) rfl, hr.deeper _, gd⟩
    have ht := hbody cl c f C A outer s H E ρ fx hg
    have hq : rdS (ncz P w K mg base N ((CS k).nf cl c) f A outer s H E) (fmOf T CS C cl ρ H E) m { nx := fun _ H' => Q .non H', rt := Q } (NdefX.startF N vs (wvs.map some)) H := by
      refine ⟨es.map some ++ (ws.map some ++ List.replicate (N.length - es.length - ws.length) none), S, ρ, ⟨Mv.refl, start_re rfl hp hw⟩, R, ?_⟩
      rw [hl.1, hl.2]
      cases em : m (es.map some ++ (ws.map some ++ List.replicate (N.length - ps.length - (CS k).fr.length) none)) S with
      | nx e S1 => rw [em] at ho; exact fun ρ' H' σ t R' re' => ho ρ' H' .non t R' (by unfold RD; rfl)
      | ret d S1 => rw [em] at ho; exact fun ρ' H' v t R' rd => ho ρ' H' v t R' rd
      | bk e S1 => rw [em] at ho; exact ho.elim
      | ct e S1 => rw [em] at ho; exact ho.elim
      | exc c fs e S1 => rw [em] at ho; exact fun ρ' H' σ cv d t R' re' xr => ho ρ' H' cv d t R' xr
      | bad => rw [em] at ho; exact ho.elim
    refine wpAny_mono (ht.run [] _ _ H _ I hq) (fun fl s' hs => ?_) fun e s' hs => hs
    have fin : ∀ {σ' : St} {H' : Hp} {v : V} {u : Value}, Inv (ncz P w K mg base N ((CS k).nf cl c) f A outer s H E) [] σ' H' s' → RelV v u → Q v H' → CE outer P w H s Q u s' :=
      fun {σ' H' v u} J rv q => ⟨v, H', J.os, J.bare, J.base, J.hok, rv, q⟩
    cases fl with
    | ret u =>
      obtain ⟨v, σ', H', J, rv, q⟩ := hs
      exact fin J rv q
    | next =>
      obtain ⟨σ', H', J, q⟩ := hs
      exact fin (v := V.non) (u := Value.none) J rfl q
    | brk =>
      obtain ⟨_, _, _, q⟩ := hs
      exact False.elim q
    | cont =>
      obtain ⟨_, _, _, q⟩ := hs
      exact False.elim q
  · exact ho.elim
/-- a lambda by its body -/
theorem fnc_ex {z : CloS} (hz : CS k = z) {body : Expr} (hbd : z.body = .expr body) {N ps : List Str} {m : EM} (S0 : NdefX.NScope N ps z.fr z.scope) (hb : ∀ (cl : List (Str × Addr)) (c : Addr) (doc pm ctv : Value) (us : List Value), us.length = ps.length → bindArgs ((z.nf cl c).fd doc pm ctv) ⟨us, []⟩ = pure (ps.zip us))
    (hbody : ∀ (cl : List (Str × Addr)) (c f : Addr) (C : Nat → List EV → Addr → Prop) (A : Around) (outer : List Env) (s : Shared) (H : Hp) (E : XK) (ρ : Rho),
      FX (ncz P w K mg base N (z.nf cl c) f A outer s H E) (fmOf T CS C cl ρ H E) lv → Gd CS K mg C s.heap ρ H →
      PE (ncz P w K mg base N (z.nf cl c) f A outer s H E) body (rdE (ncz P w K mg base N (z.nf cl c) f A outer s H E) (fmOf T CS C cl ρ H E) m)) :
    FnC P w K mg base T CS (lv + 1) k (finX N.length ps.length z.fr.length m) := by
  subst hz
  refine ⟨fun C A outer s H f c cl us vs wvs ws es S ρ Q E hr gd e0 hf hc cells hw hg r hp R ho => ?_⟩
  unfold finX at ho
  split at ho
  · rename_i hl
    have hlv : vs.length = ps.length := by rw [← Paired.len hp]; exact hl.1
    have lim : s.heap.NoLimit := e0.mod.nolimit.keeps fun b o e => (e0.bs b o e).1
    obtain ⟨od, sl, doc, pm, ctv, hfo⟩ := fnZ_at e0.hok hf
    refine PySem.W.kla_callFunE hr.depth hfo rfl S0.co S0.gen hbd (NdefX.codeO_at e0.hok hc) ?_
    rw [hb cl c doc pm ctv us (by rw [← r.length]; exact hlv)]
    refine wpAny_pure (wpAny_newFunctionEnv S0.nocell (fun ⟨n, _⟩ hy => S0.par n (List.of_mem_zip hy).1) (fun h₁ hns hsb => ⟨lim.fresh _ hsb, ?_⟩) S0.kind)
    show codeAny _ _ (.expr body (NdefX.envF ((CS k).nf cl c).nf0 f s.heap.objs.size)) _ _
    have kp : ∀ b o, s.heap.get? b = some o → h₁.get? b = some o := fun b o e => hsb.extBut b o (Nat.ne_of_lt (Heap.lt_size e)) (Heap.get?_push_of_some _ e)
    have I : Inv (ncz P w K mg base N ((CS k).nf cl c) f A outer s H E) [] (NdefX.startF N vs (wvs.map some)) H { s with heap := h₁, toks := s.toks + (ps.zip us).length } := NdefX.inv_startN S0 hr.hd e0 hlv r cells hns kp
    have fx : FX (ncz P w K mg base N ((CS k).nf cl c) f A outer s H E) (fmOf T CS C cl ρ H E) lv :=
      ⟨rfl, S0.nd, takes_of (X := ncz P w K mg base N ((CS k).nf cl c) f A outer s H E) rfl rfl rfl rfl, passes_of (X := ncz P w K mg base N ((CS k).nf cl c) f A outer s H E) rfl, hr.deeper _, gd⟩
    have ht := hbody cl c f C A outer s H E ρ fx hg
    have hq : rdE (ncz P w K mg base N ((CS k).nf cl c) f A outer s H E) (fmOf T CS C cl ρ H E) m (NdefX.startF N vs (wvs.map some)) H Q := by
      refine ⟨es.map some ++ (ws.map some ++ List.replicate (N.length - es.length - ws.length) none), S, ρ, ⟨Mv.refl, start_re rfl hp hw⟩, R, ?_⟩
      rw [hl.1, hl.2]
      cases em : m (es.map some ++ (ws.map some ++ List.replicate (N.length - ps.length - (CS k).fr.length) none)) S with
      | ok d S1 => rw [em] at ho; exact fun ρ' H' t R' v rd => ho ρ' H' v t R' rd
      | exc c fs S1 => rw [em] at ho; exact fun ρ' H' cv d t R' xr => ho ρ' H' cv d t R' xr
      | bad => rw [em] at ho; exact ho.elim
    refine PySem.W.kla_codeExpr (wpAny_mono (ht.run [] _ _ H Q I hq) (fun v s' hs => ?_) fun e s' hs => hs)
    obtain ⟨w', H', J', rv, q⟩ := hs
    exact ⟨w', H', J'.os, J'.bare, J'.base, J'.hok, rv, q⟩
  · exact ho.elim
end
/-! ### calls -/
def mCallF (fm : FM) (cap : List (Nat × List Nat)) (mv : AvM) : EM := fun env S => (mv env S).bind fun es S1 => match cnvs cap env es with
  | some es' => fm es' S1
  | none => .bad
def mCallP (cm : Nat → List EV → FM) (cap : List (Nat × List Nat)) (i : Nat) (mv : AvM) : EM := fun env S => match atE (cnvE cap env 3) env i with
  | some (.fn k ws) => (mv env S).bind fun es S1 => match cnvs cap env es with
    | some es' => cm k ws es' S1
    | none => .bad
  | _ => .bad
/-- what the calls of functions lean on -/
structure GX (X : Cx) (F : Fm) (CS : Nat → CloS) : Prop where
  gd : Gd CS X.K X.mg F.C X.s_0.heap F.r0 F.H0
  h0 : X.H_0 = F.H0
  ex : X.ex = []
  hL : ∀ k c, F.L k c = (CS k).nf (cloFrom X.env.cells (CS k).scope.names []) c
section
variable {X : Cx} {F : Fm} {k j i lv : Nat} {CS : Nat → CloS} {ps : List Str} {fm : FM} {x : Str} {d : He.DefD} {p pos : Pos} {e : Expr} {es : List Expr} {mv : AvM} {cap : List (Nat × List Nat)} {cm : Nat → List EV → FM} {ρ : Rho} {H : Hp} {σ : St} {env : Evs} {pins : List (Addr × Obj)} {s : Shared}
theorem GX.all (gx : GX X F CS) (hcap : capB X.N X.env.scope CS cap = true) (I : Inv X pins σ H s) (re : RE X.K X.mg F ρ H env σ) : Gd CS X.K X.mg (Cn F cap env ρ H) s.heap ρ H := by
  have g0 := gx.gd
  rw [← gx.h0] at g0
  have m0 := re.ent
  rw [← gx.h0] at m0
  exact Cn.gd gx.ex gx.hL hcap I re (g0.later gx.ex I m0)
theorem e_callF (fx : FX X F k) (gx : GX X F CS) (hcap : capB X.N X.env.scope CS cap = true) (G : FnG X.prog X.w X.K X.mg X.base F.T CS j x d ps fm) (hjk : j ≤ k) (hg : Gl X x) (hlen : ∀ env S ds S', mv env S = .ok ds S' → ds.length = ps.length)
    (ha : PA X (e :: es) (rdV X F mv)) (hdb : (x == ("__debug__" : Str)) = false := by decide) (he : starEach (e :: es) X.env = (false, eval e X.env) :: starEach es X.env := by rfl) (hpl : (backTo pos (starEach es X.env)).any (·.1) = false := by rfl) :
    PE X (.Call (.Name x p) (e :: es) [] pos) (rdE X F (mCallF fm cap mv)) := by
  obtain ⟨f, fd, hm, Fn, hb, hk, _⟩ := G
  refine ⟨fun pins s σ H Q I h => ?_⟩
  obtain ⟨env, S, ρ, re, rs, o⟩ := h
  refine wpAny_Call_Name_kw (ld_glob I hg hm ?_ hdb)
  refine PySem.W.callWith_K (h₀ := X.base) I.ok.mod.kin hk (thn (ha.run pos pins s σ H (fun vs H1 => ∃ ds S1 ρ1, vs.length = ps.length ∧ RE X.K X.mg F ρ1 H1 env σ ∧ Paired (RV X.K X.mg F ρ1 H1) ds vs ∧ RS X.K X.mg F.T ρ1 S1 H1 ∧ OutE X F σ ρ1 H1 (match cnvs cap env ds with | some es' => fm es' S1 | none => .bad) fun a ρ' _ H' => ∀ v, RD X.K X.mg ρ' H' a v → Q v H') I ⟨env, S, ρ, re, rs, ?_⟩) fun us s1 ⟨vs, H1, I1, r, ds, S1, ρ1, hl, re1, rd, R1, o1⟩ => ⟨I1.kIn, ?_⟩) he hpl
  · cases em : mv env S with
    | ok ds S1 =>
      unfold mCallF at o
      rw [em] at o
      exact fun ρ1 H1 t1 R1 vs hvs => ⟨ds, S1, ρ1, by rw [← Paired.len hvs]; exact hlen env S ds S1 em, re.later t1, hvs, R1, OutE.later t1 o⟩
    | exc c fs S1 => unfold mCallF at o; rw [em] at o; exact o
    | bad => unfold mCallF at o; rw [em] at o; exact o
  · cases ec : cnvs cap env ds with
    | none => rw [ec] at o1; exact o1.elim
    | some es' =>
      rw [ec] at o1
      exact run_m Fn fx hjk hb I1 r hl (gx.all hcap I1 re1) (cnvs_key rd ec) R1 o1
theorem e_callP (fx : FX X F k) (gx : GX X F CS) (hcap : capB X.N X.env.scope CS cap = true) (hC : ∀ k, FnC X.prog X.w X.K X.mg X.base F.T CS lv k (cm k)) (hjk : lv ≤ k) (hN : X.N[i]? = some x) (hv : Vis X.env.scope x)
    (ha : PA X (e :: es) (rdV X F mv)) (hd : (x == ("__debug__" : Str)) = false := by decide) (hcd : (x == ("__classdict__" : Str)) = false := by decide)
    (he : starEach (e :: es) X.env = (false, eval e X.env) :: starEach es X.env := by rfl) (hpl : (backTo pos (starEach es X.env)).any (·.1) = false := by rfl) :
    PE X (.Call (.Name x p) (e :: es) [] pos) (rdE X F (mCallP cm cap i mv)) := by
  refine ⟨fun pins s σ H Q I h => ?_⟩
  obtain ⟨env, S, ρ, re, rs, o⟩ := h
  unfold mCallP at o
  split at o
  · rename_i kk ws hk
    have hk0 := hk
    unfold atE at hk
    split at hk
    · rename_i ev he1
      obtain ⟨u, hu, rv⟩ := Paired.get re.sl he1
      cases u with
      | none => exact rv.elim
      | some vf =>
        have at_ : ∀ {ρ1 : Rho} {H1 : Hp} {s2 : Shared}, Inv X pins σ H1 s2 → RE X.K X.mg F ρ1 H1 env σ → ∃ f cl c wvs, vf = .ref f ∧ PySem.W.FnAt f s2.heap ∧ H1 f = some (FnZ f ((CS kk).nf cl c)) ∧ H1 c = some (LamX.CodeO c (CS kk).qual) ∧ NdefX.CellsAt cl (CS kk).fr (wvs.map some) s2.heap H1 ∧ Paired (RVa X.K X.mg (Cn F cap env ρ1 H1) ρ1 H1) ws wvs ∧ Gd CS X.K X.mg (Cn F cap env ρ1 H1) s2.heap ρ1 H1 := fun {ρ1 H1 s2} I2 re2 => by
          obtain ⟨u2, hu2, rv2⟩ := Paired.get re2.sl he1
          rw [hu] at hu2; cases hu2
          obtain ⟨f, e1, e2⟩ := (show RVa X.K X.mg (Cn F cap env ρ1 H1) ρ1 H1 (.fn kk ws) vf from cnv_key rv2 hk)
          have g := gx.all hcap I2 re2
          obtain ⟨cl, c, wvs, a1, a2, a3, a4, a5, a6⟩ := g kk ws f e2
          obtain ⟨od, sl, doc, pm, ctv, ho⟩ := fnZ_at I2.hok a1
          exact ⟨f, cl, c, wvs, e1, ⟨_, od, _, sl, ho⟩, a1, a3, a5, a6, g⟩
        obtain ⟨f, _, _, _, hvf, _⟩ := at_ I re
        subst hvf
        refine wpAny_Call_Name_kw (thn ((pe_var (pos := p) hN hv hd hcd).run pins s σ H (fun v H1 => v = .ref f ∧ H1 = H) I ⟨_, hu, rfl, rfl⟩) fun uu s1 ⟨v, H1, I1, r1, ev1, eH⟩ => ?_)
        subst ev1
        rw [eH] at I1
        obtain rfl : uu = Value.ref f := r1
        obtain ⟨_, _, _, _, hvf, hfa, _⟩ := at_ I1 re
        cases hvf
        refine PySem.W.callWith_F (first := []) hfa (thn (ha.run pos pins s1 σ H (fun vs H1 => ∃ ds S1 ρ1, RE X.K X.mg F ρ1 H1 env σ ∧ Paired (RV X.K X.mg F ρ1 H1) ds vs ∧ RS X.K X.mg F.T ρ1 S1 H1 ∧ OutE X F σ ρ1 H1 (match cnvs cap env ds with | some es' => cm kk ws es' S1 | none => .bad) fun a ρ' _ H' => ∀ v, RD X.K X.mg ρ' H' a v → Q v H') I1 ⟨env, S, ρ, re, rs, ?_⟩) fun us s2 ⟨vs, H2, I2, r, ds, S1, ρ1, re1, rd, R1, o1⟩ => ?_) he hpl
        · cases em : mv env S with
          | ok ds S1 =>
            rw [em] at o
            exact fun ρ1 H1 t1 R1 vs hvs => ⟨ds, S1, ρ1, re.later t1, hvs, R1, OutE.later t1 o⟩
          | exc c fs S1 => rw [em] at o; exact o
          | bad => rw [em] at o; exact o
        · obtain ⟨_, cl, c, wvs, hvf, hfa, a1, a2, a3, a4, g⟩ := at_ I2 re1
          cases hvf
          refine ⟨hfa, ?_⟩
          cases ec : cnvs cap env ds with
          | none => rw [ec] at o1; exact o1.elim
          | some es' =>
            rw [ec] at o1
            have o1 : OutE X F σ ρ1 H2 (cm kk ws es' S1) fun a ρ' _ H' => ∀ v, RD X.K X.mg ρ' H' a v → Q v H' := o1
            show wpAny _ _ (call (.ref f) us) _ _ _
            refine wpAny_call (codeAny_mono ((hC kk).run _ X.A X.stack s2 H2 f c cl us vs wvs ws es' S1 ρ1 Q (fun cv d H' => F.W cv d σ H') (fx.room.mono hjk) fx.gd I2.env0 a1 a2 a3 a4 g r (cnvs_key rd ec) R1 ?_) fun r s' hq => ?_)
            · cases ef : cm kk ws es' S1 with
              | ok a S' => rw [ef] at o1; exact fun ρ' H' v t R' rd => o1 ρ' H' t R' v rd
              | exc c fs S' => rw [ef] at o1; exact fun ρ' H' cv d t R' xr => o1 ρ' H' cv d t R' xr
              | bad => rw [ef] at o1; exact o1
            · cases r with
              | error e => exact passAt fx.tk σ pins H2 s2 e s' I2 hq
              | ok fl =>
                cases fl with
                | ret u => exact I2.after hq
                | next => exact False.elim hq
                | brk => exact False.elim hq
                | cont => exact False.elim hq
    · cases hk
  · exact o.elim
end
end M3

set_option Elab.async false
set_option linter.all false
set_option maxRecDepth 100000
set_option maxHeartbeats 1000000
/-! M3K: enumerate of tuples and lists, zip. -/
namespace M3
open PySem PySem.Spec PyProof.Rows L2
/-! ### enumerate(tuple) -/
theorem meets_enumerate_T (l : Addr) (items : Array Value) :
    Meets (Builtin.«enumerate.__new__» ⟨[.type "enumerate", .ref l], []⟩) (fun _ R s => s.heap.IsTuple l items ∧
      R (.ok (.ret (.ref (s.heap.push { cls := .type "tuple_iterator", data := .fields #[.ref l, .int 0 0] }).objs.size)))
        { s with heap := (s.heap.push { cls := .type "tuple_iterator", data := .fields #[.ref l, .int 0 0] }).push { cls := .type "enumerate", data := .fields #[.none, .bool false, .ref s.heap.objs.size, rawInt 0, .none, .none] } }) :=
  .of_wp fun prog w A R s h => by
    obtain ⟨hp, g, d, tk, os⟩ := s; obtain ⟨hL0, h⟩ := h
    have hsub := sub_enumerate
    have hL : Heap.IsTuple (Shared.heap ⟨hp, g, d, tk, os⟩) l items := hL0
    wp_walk using wpAny_pyIter_tuple hL
    refine wpAny_stack_any fun st => wpAny_pure ?_
    split
    · rename_i c _ _ _ _ _
      cases (c == Value.type "enumerate")
      · wp_walk using wpAny_pyIter_tuple hL
        exact ⟨_, rfl, h⟩
      · wp_walk using wpAny_pyIter_tuple hL
        exact ⟨_, rfl, h⟩
    · wp_walk using wpAny_pyIter_tuple hL
      exact ⟨_, rfl, h⟩
section
variable {prog : Program} {w : World} {A : Around} {E : Value → Shared → Prop} {s : Shared}
theorem call_enumerate_tup {l : Addr} {items : Array Value} {Q : Value → Shared → Prop} (hL : s.heap.IsTuple l items)
    (h : ∀ h', IsEnum h' (s.heap.objs.size + 1) s.heap.objs.size 0 .none → h'.IsTupleIter s.heap.objs.size l 0 → h'.objs.size = s.heap.objs.size + 2 →
      (∀ b o, s.heap.get? b = some o → h'.get? b = some o) → Q (.ref (s.heap.objs.size + 1)) { s with heap := h' }) :
    wpAny (model prog w) A (call (.type "enumerate") [.ref l]) Q E s := by
  refine callType_new F.called_enumerate (by decide) (F.typeCall_enumerate_1 _) (F.newCall_enumerate_1 _) (fun obj => F.args_object_init_2 obj _) F.entry_enumerate_new
    (meets_enumerate_T l items) ⟨hL, ?_⟩
  have hz : (s.heap.push { cls := .type "tuple_iterator", data := .fields #[.ref l, .int 0 0] }).objs.size = s.heap.objs.size + 1 := Heap.size_push ..
  show _ ∧ _
  rw [hz]
  have he : IsEnum ((s.heap.push { cls := .type "tuple_iterator", data := .fields #[.ref l, .int 0 0] }).push
      { cls := .type "enumerate", data := .fields #[.none, .bool false, .ref s.heap.objs.size, rawInt 0, .none, .none] }) (s.heap.objs.size + 1) s.heap.objs.size 0 .none := by
    have := Heap.get?_push_size (s.heap.push { cls := .type "tuple_iterator", data := .fields #[.ref l, .int 0 0] })
      (o := { cls := .type "enumerate", data := .fields #[.none, .bool false, .ref s.heap.objs.size, rawInt 0, .none, .none] }) rfl
    rw [hz] at this; exact this
  refine ⟨⟨_, he, rfl⟩, h _ he ⟨_, Heap.get?_push_of_some _ (Heap.get?_push_size _ rfl), rfl, rfl⟩ (by rw [Heap.size_push, hz]) fun b o x => Heap.get?_push_of_some _ (Heap.get?_push_of_some _ x)⟩
theorem draws_tup {it a : Addr} {items : Array Value} (hh : A.handled = none) (hne : a ≠ it) :
    Draws prog w A.in1 it [it, a] items.size (fun i x => items[i]? = some x) (fun i h => h.IsTupleIter it a i ∧ h.IsTuple a items) where
  live := fun i h st => let ⟨⟨o, ho, _⟩, _⟩ := st; ⟨o, ho⟩
  frame := fun i h h' st k => let ⟨h1, ⟨o, ho, r⟩⟩ := st; ⟨h1.at fun o q => k it (by simp) o q, ⟨o, k a (by simp) o ho, r⟩⟩
  item := fun i s Q E hi st hQ => RZ.nextOf_tuple_item st.1 st.2 (Array.getElem?_eq_getElem hi) fun h' h1 h2 => hQ _ h' s.toks (Array.getElem?_eq_getElem hi) ⟨h1, st.2.extBut h2.extBut hne⟩ h2
  done := fun s Q E st hE => RZ.nextOf_tuple_end (by first | exact hh | (show A.in1.handled = none; exact hh)) st.1 st.2 (by simp) hE
end
/-- the tuple at a as it stands at each turn, each item in a new pair -/
def IteT (K : PySem.W.Frag) (a : Addr) : It :=
  ⟨fun i H => ∃ (xs : List V) (x : V), SqT K H a xs ∧ xs[i]? = some x, fun i H v H' => ∃ T x, v = .ref T ∧ H T = none ∧ H' = upd H T (.tup [.int (i : Nat), x]) ∧ ∀ xs, SqT K H a xs → xs[i]? = some x, fun i H => ∃ xs : List V, SqT K H a xs ∧ xs.length ≤ i⟩
theorem turn_enumT {P : Program} {w : World} {K : PySem.W.Frag} {elts : List Expr} {kk : Nat} {tpos : Pos} (a e it : Addr) :
    Turn P w K (.Tuple elts kk tpos) (IteT K a) [e, it] e (fun i h => (∃ old, IsEnum h e it ((i : Nat) : Int) old) ∧ h.IsTupleIter it a i ∧ e ≠ it) where
  mem := by simp
  obj := fun i h st b hb => by
    obtain ⟨⟨old, he⟩, ⟨o, ho, hc, hd⟩, _⟩ := st
    have e' : b = e ∨ b = it := by simpa using hb
    rcases e' with z | z
    · rw [z]; exact ⟨_, he, fun v q => nomatch q⟩
    · rw [z]; exact ⟨o, ho, fun v q => by rw [hd] at q; cases q⟩
  keep := fun i h h' st k => let ⟨⟨old, he⟩, hi, hne⟩ := st; ⟨⟨old, k e (by simp) _ he⟩, hi.at fun o q => k it (by simp) o q, hne⟩
  item := by
    intro X hP hw hK hc i pins s σ H E I hf st hg
    subst hP hw hK
    obtain ⟨⟨old, he⟩, hit, hne⟩ := st
    obtain ⟨xs, x, hq, hx⟩ := hg
    obtain ⟨its, rv, p, hz⟩ := I.tuple hq
    obtain ⟨u, hu, ru⟩ := rv.get hx
    have hel : e < s.heap.objs.size := Heap.lt_size he
    have hil : it < s.heap.objs.size := by obtain ⟨_, q, _⟩ := hit; exact Heap.lt_size q
    have hT : s.heap.IsTuple a its.toArray := p
    have hai : a ≠ it := fun z => by
      obtain ⟨o1, q1, c1, _⟩ := hit
      obtain ⟨o2, q2, c2, _⟩ := hT
      rw [z, q1] at q2
      cases q2
      rw [c1] at c2
      exact absurd (Value.type.inj c2) (by decide)
    have hea : e ≠ a := fun z => by
      obtain ⟨o2, q2, c2, _⟩ := hT
      rw [← z, he] at q2
      cases q2
      exact absurd (Value.type.inj c2) (by decide)
    have hlt : i < its.toArray.size := by
      have := (List.getElem?_eq_some_iff.mp hu).1
      simpa using this
    refine wpAny_pyNext_enum_itemD (draws_tup (items := its.toArray) (I.ok.hd hc) hai) he ⟨hit, hT⟩ hlt hne (by simp [hne, hea]) fun x' h' tk hx' ho hit' hTT hsz hk => ?_
    have ex : x' = u := by
      have hx' : its.toArray[i]? = some x' := hx'
      have h2 : its.toArray[i]? = some u := by simpa using hu
      rw [hx'] at h2
      exact Option.some.inj h2
    subst ex
    refine ⟨_, rfl, wpAny_letOwnedTupleGo_enum (s := { s with heap := h', toks := tk + 1 }) ho fun h'' he' sb => ?_⟩
    have hT2 : h''.get? s.heap.objs.size = some { cls := .type "tuple", data := .seq #[.int i tk, x'] } := (sb.2 _ (Nat.ne_of_gt hel)).trans hTT
    have new : ObjOk X.prog X.w (upd H s.heap.objs.size (.tup [.int (i : Nat), x])) h'' s.heap.objs.size (.tup [.int (i : Nat), x]) :=
      ⟨by show 2 ≤ sizeLine; decide, [.int i tk, x'], .cons ⟨_, rfl⟩ (.cons ru .nil), ⟨_, hT2, rfl, _, rfl⟩⟩
    have I1 : Inv X pins σ (upd H s.heap.objs.size (.tup [.int (i : Nat), x])) { s with heap := h'', toks := tk + 1 } :=
      I.turnedNew (ch := [e, it]) (fun b ob hb q => (sb.2 b (fun z => hb (by simp [z]))).trans (hk b ob (fun z => hb (by simp [z])) (fun z => hb (by simp [z])) q)) hf (Nat.le_refl _) new
    refine ⟨.ref s.heap.objs.size, _, I1, rfl, ⟨_, x, rfl, I.hok.fresh (Nat.le_refl _), rfl, fun ys hy => by rw [I.tuple_inj hy hq]; exact hx⟩, ⟨⟨x', ?_⟩, hit'.1.at fun o q => (sb.2 it (Ne.symm hne)).trans q, hne⟩, fun b hb => ?_⟩
    · have e1 : ((i + 1 : Nat) : Int) = (i : Int) + 1 := by omega
      rw [e1]; exact he'
    · have hb' : b < s.heap.objs.size := by
        have e' : b = e ∨ b = it := by simpa using hb
        rcases e' with z | z
        · rw [z]; exact hel
        · rw [z]; exact hil
      rw [upd_ne (Nat.ne_of_lt hb')]
      exact (hf b hb).1
  done := by
    intro X hP hw hK hc i pins s σ H E I hf st hg
    subst hP hw hK
    obtain ⟨⟨old, he⟩, hit, hne⟩ := st
    obtain ⟨xs, hq, hx⟩ := hg
    obtain ⟨its, rv, p, hz⟩ := I.tuple hq
    obtain ⟨f0, f1, f2, f3, f4, f5⟩ := hf it (by simp)
    have hl := rv.length
    have hT : s.heap.IsTuple a its.toArray := p
    have hT0 : s.TypeIs (.ref e) "enumerate" := ⟨_, he, rfl⟩
    unfold pyNext
    refine wpAny_bind (wpAny_attempt (wpAny_callSpecial?_slot (name := PySem.Str.ofString "__next__") hT0 F.slot_enumerate_next
      (wpAny_call_entry F.slot_enumerate_next hT0 F.entry_enumerate_next ?_ (F.args_enumerate_next_1 _))))
    show wpAny _ _ (field (.ref e) 2 >>= _) _ _ _
    refine wpAny_bind (wpAny_field he rfl (x := .ref it) rfl ?_)
    refine wpAny_bind (RZ.nextOf_tuple_end (I.ok.hd hc) hit hT (by simp; omega) fun h' x he' hx' => ?_)
    obtain ⟨o, ho, hcl⟩ := hx'
    refine wpAny_bind (wpAny_isInstance (T := "StopIteration") (b := true) ⟨o, ho, hcl⟩ isSubtype_stop ?_)
    exact wpAny_pure ⟨rfl, I.turned (t' := s.toks) (fun b o hb q => he' b o hb q) f0 f1 f3 f4 f5⟩
  self := fun A i s Q E st h => let ⟨⟨_, he⟩, _⟩ := st; wpAny_pyIter_enum he h
def iEnumA (K : PySem.W.Frag) (ta : TA) : TI := fun σ H R => ta σ H fun vs H1 => ∃ a xs, vs = [.ref a] ∧ ((SqL K H1 a xs ∧ R (Ite K a) H1) ∨ (SqT K H1 a xs ∧ R (IteT K a) H1))
theorem pi_enumA {X : Cx} {e : Expr} {ta : TA} {p pos tpos : Pos} {elts : List Expr} {kk : Nat} (hg : Gl X "enumerate") (hm : X.mg "enumerate" = none) (ha : PA X [e] ta) (hs : starEach [e] X.env = [(false, eval e X.env)] := by rfl) :
    PI X (.Tuple elts kk tpos) (.Call (.Name "enumerate" p) [e] [] pos) (iEnumA X.K ta) := by
  refine ⟨fun pins s σ H R I h => ?_⟩
  refine Call_ (ld_blt I hg hm boot_enumerate (PyProof.Rows.callWith_type1 (thn (ha.run pos pins s σ H _ I h) fun us s1 ⟨vs, H1, I1, r1, q1⟩ => ?_) hs rfl))
  obtain ⟨a, xs, ex, hq⟩ := q1
  subst ex
  have fp : ∀ b, b ∈ [s1.heap.objs.size + 1, s1.heap.objs.size] → FpOk X pins H1 b := fun b hb => by
    have e' : b = s1.heap.objs.size + 1 ∨ b = s1.heap.objs.size := by simpa using hb
    have hle : s1.heap.objs.size ≤ b := by
      rcases e' with z | z
      · rw [z]; exact Nat.le_add_right _ _
      · rw [z]; exact Nat.le_refl _
    exact I1.fpOk hle (I1.hok.fresh hle)
  cases r1 with
  | cons r rr =>
    cases rr
    cases r
    rcases hq with ⟨hq, q⟩ | ⟨hq, q⟩
    · obtain ⟨its, rv, p', hz⟩ := I1.list hq
      refine call_enumerate_list p'.isList fun h' he hit hsz hk => wpAny_pyIter_enum he ?_
      have I2 : Inv X pins σ H1 { s1 with heap := h' } := I1.kept (t' := s1.toks) hk
      exact ⟨s1.heap.objs.size + 1, [s1.heap.objs.size + 1, s1.heap.objs.size], _, _, H1, rfl, I2, turn_enum a (s1.heap.objs.size + 1) s1.heap.objs.size, ⟨⟨.none, he⟩, hit, Nat.succ_ne_self _⟩, fp, q⟩
    · obtain ⟨its, rv, p', hz⟩ := I1.tuple hq
      refine call_enumerate_tup (show s1.heap.IsTuple a its.toArray from p') fun h' he hit hsz hk => wpAny_pyIter_enum he ?_
      have I2 : Inv X pins σ H1 { s1 with heap := h' } := I1.kept (t' := s1.toks) hk
      exact ⟨s1.heap.objs.size + 1, [s1.heap.objs.size + 1, s1.heap.objs.size], _, _, H1, rfl, I2, turn_enumT a (s1.heap.objs.size + 1) s1.heap.objs.size, ⟨⟨.none, he⟩, hit, Nat.succ_ne_self _⟩, fp, q⟩
/-! ### .. as sources -/
section
variable {X : Cx} {F : Fm} {ρ : Rho} {H : Hp} {T : List NdefX.NTab} {a : Addr} {ds : List D} {n : List (Nat × List D)}
theorem lst_key (h : (n = [] ∧ ∃ xs, FzAt X.K ρ H a xs ∧ RDs X.K X.mg ρ H ds xs) ∨ ∃ j, n = [(j, ds)] ∧ ρ.c[j]? = some a) {es : List D} {ρ' : Rho} {S' : Store} {H' : Hp} (t : Mv ρ H ρ' H') (R : RS X.K X.mg T ρ' S' H') (ok : Src.ok (n, es) S') : ∃ xs, SqL X.K H' a xs ∧ RDs X.K X.mg ρ' H' ds xs := by
  rcases h with ⟨rfl, xs, q, r⟩ | ⟨j, rfl, e⟩
  · exact ⟨xs, (q.later t).sq, r.later t⟩
  · obtain ⟨a', ha', xs, hx, r⟩ := R.cell j _ (show S'[j]? = some (.lst ds) from ok (j, ds) (List.mem_singleton.mpr rfl))
    rw [t.ix _ _ e] at ha'; cases ha'
    exact ⟨xs, .of hx, r⟩
theorem srcEL_ok (h : (n = [] ∧ ∃ xs, FzAt X.K ρ H a xs ∧ RDs X.K X.mg ρ H ds xs) ∨ ∃ j, n = [(j, ds)] ∧ ρ.c[j]? = some a) : SrcOk X T (Ite X.K a) (n, enums 0 ds) ρ H := by
  refine ⟨fun ρ' S' H' i t R ok hi => ?_, fun ρ' S' H' t R ok => ?_⟩
  · obtain ⟨xs, q, r⟩ := lst_key h t R ok
    have hi : i < ds.length := by rw [show (enums 0 ds).length = ds.length from enums_length ds 0] at hi; exact hi
    have hl : i < xs.length := by rw [r.length]; exact hi
    refine ⟨⟨xs, xs[i], q, List.getElem?_eq_getElem hl⟩, ?_⟩
    rintro v H2 ⟨p, x, rfl, hp, rfl, hx⟩
    obtain ⟨d, hd, rd⟩ := r.get' (hx xs q)
    obtain ⟨a1, a2, a3⟩ := pair_new (d := .int (i : Nat)) (u := d) R hp mk_int rd
    refine ⟨a1, a2, _, ?_, a3⟩
    have := enums_get ds 0 i d hd
    rw [Nat.zero_add] at this
    exact this
  · obtain ⟨xs, q, r⟩ := lst_key h t R ok
    exact ⟨xs, q, by rw [r.length]; exact Nat.le_of_eq (enums_length ds 0).symm⟩
theorem srcET_ok {xs : List V} (q : TupAt X.K ρ H a xs) (r : RDs X.K X.mg ρ H ds xs) : SrcOk X T (IteT X.K a) ([], enums 0 ds) ρ H := by
  refine ⟨fun ρ' S' H' i t R ok hi => ?_, fun ρ' S' H' t R ok => ?_⟩
  · have hi : i < ds.length := by rw [show (enums 0 ds).length = ds.length from enums_length ds 0] at hi; exact hi
    have hl : i < xs.length := by rw [r.length]; exact hi
    refine ⟨⟨xs, xs[i], (q.later t).sq, List.getElem?_eq_getElem hl⟩, ?_⟩
    rintro v H2 ⟨p, x, rfl, hp, rfl, hx⟩
    obtain ⟨d, hd, rd⟩ := (r.later t).get' (hx xs (q.later t).sq)
    obtain ⟨a1, a2, a3⟩ := pair_new (d := .int (i : Nat)) (u := d) R hp mk_int rd
    refine ⟨a1, a2, _, ?_, a3⟩
    have := enums_get ds 0 i d hd
    rw [Nat.zero_add] at this
    exact this
  · exact ⟨xs, (q.later t).sq, by rw [r.length]; exact Nat.le_of_eq (enums_length ds 0).symm⟩
end
/-- a list or a tuple: what is watched, its items -/
def seqSrc (S : Store) : D → Option (Bool × List (Nat × List D) × List D)
  | .fl es => some (false, [], es)
  | .fz es => some (false, [], es)
  | .tup es => some (true, [], es)
  | .ref n => (match S[n]? with
    | some (.lst es) => some (false, [(n, es)], es)
    | _ => none)
  | _ => none
theorem seqSrc_ok {X : Cx} {T : List NdefX.NTab} {ρ : Rho} {S : Store} {H : Hp} {d : D} {v : V} {b : Bool} {n : List (Nat × List D)} {es : List D} (R : RS X.K X.mg T ρ S H) (h : RD X.K X.mg ρ H d v) (e : seqSrc S d = some (b, n, es)) :
    ∃ a xs, v = .ref a ∧ ((b = true ∧ n = [] ∧ TupAt X.K ρ H a xs ∧ RDs X.K X.mg ρ H es xs) ∨ (b = false ∧ SqL X.K H a xs ∧ ((n = [] ∧ ∃ xs, FzAt X.K ρ H a xs ∧ RDs X.K X.mg ρ H es xs) ∨ ∃ j, n = [(j, es)] ∧ ρ.c[j]? = some a))) := by
  cases d with
  | fl ds =>
    cases e
    obtain ⟨a, xs, rfl, q, rr⟩ := rd_fl h
    exact ⟨a, xs, rfl, .inr ⟨rfl, .of q.1, .inl ⟨rfl, xs, .inl ⟨.inl q.1, q.2⟩, rr⟩⟩⟩
  | fz ds =>
    cases e
    obtain ⟨a, xs, rfl, q, rr⟩ := rd_fz h
    exact ⟨a, xs, rfl, .inr ⟨rfl, q.sq, .inl ⟨rfl, xs, q, rr⟩⟩⟩
  | tup ds =>
    cases e
    obtain ⟨a, xs, rfl, q, rr⟩ := rd_tup h
    exact ⟨a, xs, rfl, .inl ⟨rfl, rfl, q, rr⟩⟩
  | ref m =>
    obtain ⟨a, rfl, q⟩ := rd_ref h
    have e : (match S[m]? with
      | some (.lst es) => some (false, [(m, es)], es)
      | _ => none) = some (b, n, es) := e
    split at e
    · rename_i ds he
      cases e
      obtain ⟨a', ha', xs, hx, r⟩ := R.cell m _ he
      rw [q] at ha'; cases ha'
      exact ⟨a, xs, rfl, .inr ⟨rfl, .of hx, .inr ⟨m, rfl, q⟩⟩⟩
    · cases e
  | _ => cases e
def srcEnum : List D → Store → Rz Src := fun ds S => match ds with
  | [d] => (match seqSrc S d with
    | some (_, n, es) => .ok (n, enums 0 es) S
    | none => .bad)
  | _ => .bad
def iME (ma : AM) : IM := fun env S => (ma env S).bind srcEnum
section
variable {X : Cx} {F : Fm} {e : Expr} {ma : AM} {p pos tpos : Pos} {elts : List Expr} {kk : Nat}
theorem i_enum (hg : Gl X "enumerate") (hm : X.mg "enumerate" = none) (ha : PA X [e] (rdA X F ma)) (hs : starEach [e] X.env = [(false, eval e X.env)] := by rfl) : PI X (.Tuple elts kk tpos) (.Call (.Name "enumerate" p) [e] [] pos) (rdI X F (iME ma)) := by
  refine PI.imp (pi_enumA hg hm ha hs) fun σ H R ⟨env, S, ρ, re, rs, o⟩ => ?_
  refine ⟨env, S, ρ, re, rs, (OutE.bind o).imp fun ds ρ1 S1 H1 t1 R1 o1 vs hvs => ?_⟩
  unfold srcEnum at o1
  split at o1
  · rename_i d
    obtain ⟨v, r, rfl, d1, h2⟩ := RDs.cons_iff.mp hvs
    rw [RDs.nil_iff.mp h2]
    cases es : seqSrc S1 d with
    | none => rw [es] at o1; exact o1.elim
    | some z =>
      obtain ⟨b, n, el⟩ := z
      rw [es] at o1
      obtain ⟨a, xs, rfl, q⟩ := seqSrc_ok R1 d1 es
      rcases q with ⟨rfl, rfl, q, rr⟩ | ⟨rfl, q, hk⟩
      · exact ⟨a, xs, rfl, .inr ⟨q.sq, o1 ρ1 H1 Aft.refl R1 _ (srcET_ok q rr)⟩⟩
      · exact ⟨a, xs, rfl, .inl ⟨q, o1 ρ1 H1 Aft.refl R1 _ (srcEL_ok hk)⟩⟩
  · exact o1.elim
end
end M3

set_option Elab.async false
set_option linter.all false
set_option maxRecDepth 100000
set_option maxHeartbeats 1000000
/-! M3L: instances: made, their fields, their properties, methods. -/
namespace M3
open PySem PySem.Spec L2
/-! ### fields -/
def putD (f : Str) (v : D) : List (Str × D) → List (Str × D)
  | [] => [(f, v)]
  | (g, x) :: r => if g = f then (g, v) :: r else (g, x) :: putD f v r
section
variable {K : PySem.W.Frag} {mg : Str → Option Value} {T : List NdefX.NTab} {ρ : Rho} {S : Store} {H : Hp} {v : V} {d : D}
theorem RFs.put {f : Str} (h : RD K mg ρ H d v) : ∀ {fs : List (Str × D)} {ys : List (Str × V)}, RFs K mg ρ H fs ys → RFs K mg ρ H (putD f d fs) (putF f v ys)
  | [], ys, r => by
    unfold RFs at r; subst r
    unfold putD putF RFs
    exact ⟨v, [], rfl, h, by unfold RFs; rfl⟩
  | (g, x) :: fs, ys, r => by
    unfold RFs at r
    obtain ⟨u, rr, rfl, h1, h2⟩ := r
    unfold putD putF
    by_cases e : g = f
    · rw [if_pos e, if_pos e]
      unfold RFs
      exact ⟨v, rr, rfl, h, h2⟩
    · rw [if_neg e, if_neg e]
      unfold RFs
      exact ⟨u, _, rfl, h1, RFs.put h h2⟩
theorem RFs.look {f : Str} : ∀ {fs : List (Str × D)} {ys : List (Str × V)}, RFs K mg ρ H fs ys → ∀ {d : D}, fs.lookup f = some d → ∃ v, ys.lookup f = some v ∧ RD K mg ρ H d v
  | [], ys, r, d, e => by cases e
  | (g, x) :: fs, ys, r, d, e => by
    unfold RFs at r
    obtain ⟨u, rr, rfl, h1, h2⟩ := r
    rw [List.lookup_cons] at e ⊢
    cases q : (f == g) with
    | true => rw [q] at e; cases e; exact ⟨u, rfl, h1⟩
    | false => rw [q] at e; exact RFs.look h2 e
theorem RFs.len : ∀ {fs : List (Str × D)} {ys : List (Str × V)}, RFs K mg ρ H fs ys → ys.length = fs.length
  | [], ys, r => by unfold RFs at r; subst r; rfl
  | (g, x) :: fs, ys, r => by
    unfold RFs at r
    obtain ⟨u, rr, rfl, h1, h2⟩ := r
    rw [List.length_cons, List.length_cons, RFs.len h2]
/-- an instance: its class, its fields -/
def insOf (S : Store) : D → Option (Str × List (Str × D))
  | .ob c fs => some (c, fs)
  | .ref n => (match S[n]? with
    | some (.ins c fs) => some (c, fs)
    | _ => none)
  | _ => none
theorem insOf_ok (R : RS K mg T ρ S H) (h : RD K mg ρ H d v) {c : Str} {fs : List (Str × D)} (e : insOf S d = some (c, fs)) : ∃ a C dx ys, v = .ref a ∧ H a = some (.ins C dx ys) ∧ mg c = some (.ref C) ∧ RFs K mg ρ H fs ys := by
  cases d with
  | ob c' fs' =>
    cases e
    unfold RD at h
    obtain ⟨a, C, dx, ys, e, q, n, m, r⟩ := h
    exact ⟨a, C, dx, ys, e, q, m, r⟩
  | ref n =>
    obtain ⟨a, rfl, q⟩ := rd_ref h
    have e : (match S[n]? with
      | some (.ins c fs) => some (c, fs)
      | _ => none) = some (c, fs) := e
    split at e
    · rename_i c' fs' he
      cases e
      obtain ⟨a', ha', C, dx, ys, hx, hm, r⟩ := R.cell n _ he
      rw [q] at ha'; cases ha'
      exact ⟨a, C, dx, ys, rfl, hx, hm, r⟩
    · cases e
  | _ => cases e
end
/-! ### what is left behind, at an expression -/
section
variable {X : Cx} {F : Fm} {ρ : Rho} {H : Hp} {S : Store} {σ : St}
theorem OutE.frz {r : Rz D} {Q : VK} (R : RS X.K X.mg F.T ρ S H) (ho : OutE X F σ ρ H (M3.frz S r) fun a ρ' _ H' => ∀ v, RD X.K X.mg ρ' H' a v → Q v H') : OutE X F σ ρ H r fun a ρ' _ H' => ∀ v, RD X.K X.mg ρ' H' a v → Q v H' := by
  unfold M3.frz at ho
  cases r with
  | ok d S' =>
    dsimp only at ho
    split at ho
    · rename_i ok
      cases em : mapR (frzR S' S.length 4) d with
      | none => rw [em] at ho; exact ho.elim
      | some d' =>
        rw [em] at ho
        intro ρ' H' t R' v rd
        have f := t.fewer
        rw [R.len] at f
        exact ho ρ H' t.frz (R.frz R' t ok) v (mapR_ok f (fun n d' a => frzR_ok R' f 4 n d' a) d d' v em rd)
    · exact ho.elim
  | exc c fs S' =>
    dsimp only at ho
    split at ho
    · rename_i ok
      cases em : mapRf (frzR S' S.length 4) fs with
      | none => rw [em] at ho; exact ho.elim
      | some fs' =>
        rw [em] at ho
        rintro ρ' H' cv d t R' ⟨C0, x1, x2, x3⟩
        have f := t.fewer
        rw [R.len] at f
        refine ho ρ H' cv d t.frz (R.frz R' t ok) ⟨C0, x1, x2, ?_⟩
        rcases x3 with ⟨e1, e2⟩ | ⟨dx, ys, e1, e2, e3, e4⟩
        · subst e1
          unfold mapRf at em
          cases em
          exact .inl ⟨rfl, e2⟩
        · exact .inr ⟨dx, ys, e1, e2, f.off e3, mapRf_ok f (fun n d' a => frzR_ok R' f 4 n d' a) fs fs' ys em e4⟩
    · exact ho.elim
  | bad => exact ho
end
/-! ### making -/
def mkR (c : Str) (fm : FM) (es : List EV) (S : Store) : Rz D := match fm (.v (.ref S.length) :: es) (S ++ [.ins c []]) with
  | .ok .non S1 => .ok (.ref S.length) S1
  | .ok _ _ => .bad
  | .exc c fs S1 => .exc c fs S1
  | .bad => .bad
noncomputable def mkA (al : Bool) (c : Str) (fm : FM) (es : List EV) (S : Store) : Rz D := match al with
  | true => mkR c fm es S
  | false => frz S (mkR c fm es S)
theorem guards_make {A : Around} {C : Addr} {us : List Value} {kw : List (Str × Value)} (h : A.guards = some []) : (A.under (.builtin "type.__call__" ⟨.ref C :: us, kw⟩)).guards = some [] := by
  first | exact h | (simp [Around.under, Code.weight, Code.isCreation, Code.isGuard, Code.isCaller, Code.frames, Code.isFrame, guardIds]; exact h)
section
variable {X : Cx} {F : Fm} {k j : Nat} {CS : Nat → CloS} {f C : Addr} {fd : FuncData} {ps : List Str} {fm : FM} {c : Str}
theorem run_mk {pins : List (Addr × Obj)} {σ : St} {H : Hp} {s : Shared} {Q : VK} {us vals : List Value} {vs : List V} {kw : List (Str × Value)} {S : Store} {ρ : Rho} {ds : List D} (al : Bool) (M : Mk X.K C f) (hm : X.mg c = some (.ref C)) (Fn : FnM X.prog X.w X.K X.mg X.base F.T CS j f fd ps fm) (fx : FX X F k) (hjk : j + 1 ≤ k)
    (hb : ∀ (s : Shared) (x : Value), X.K.In s.heap → BindsTo s fd ⟨x :: us, kw⟩ (ps.zip (x :: vals))) (I : Inv X pins σ H s) (r : Vals vs vals) (hl : vs.length + 1 = ps.length) (hp : RDs X.K X.mg ρ H ds vs) (R : RS X.K X.mg F.T ρ S H)
    (o : OutE X F σ ρ H (mkA al c fm (ds.map .v) S) fun a ρ' _ H' => ∀ v, RD X.K X.mg ρ' H' a v → Q v H') : wpAny (model X.prog X.w) X.A (call (.ref C) us kw) (EP X pins σ Q) X.xe s := by
  have o : OutE X F σ ρ H (mkR c fm (ds.map .v) S) fun a ρ' _ H' => ∀ v, RD X.K X.mg ρ' H' a v → Q v H' := by
    cases al with
    | true => exact o
    | false => exact OutE.frz R o
  have nD : H s.heap.objs.size = none := I.hok.fresh (Nat.le_refl _)
  have nx : upd H s.heap.objs.size (.own (s.heap.objs.size + 1)) (s.heap.objs.size + 1) = none := by rw [upd_ne (Nat.ne_of_gt (Nat.lt_succ_self _))]; exact I.hok.fresh (Nat.le_succ _)
  have I2 := Inv.made (C := C) I
  have t1 : Aft ρ H ρ (upd H s.heap.objs.size (.own (s.heap.objs.size + 1))) := Aft.laid nD
  have R1 := R.laid (o := .own (s.heap.objs.size + 1)) nD
  have t2 : Aft ρ H (ρ.push (s.heap.objs.size + 1)) (upd (upd H s.heap.objs.size (.own (s.heap.objs.size + 1))) (s.heap.objs.size + 1) (.ins C s.heap.objs.size [])) := t1.trans (Aft.push nx)
  have R2 : RS X.K X.mg F.T (ρ.push (s.heap.objs.size + 1)) (S ++ [.ins c []]) (upd (upd H s.heap.objs.size (.own (s.heap.objs.size + 1))) (s.heap.objs.size + 1) (.ins C s.heap.objs.size [])) :=
    R1.push nx ⟨C, _, [], upd_same, hm, by unfold RFs; rfl⟩
  have at_ : (ρ.push (s.heap.objs.size + 1)).c[S.length]? = some (s.heap.objs.size + 1) := by
    show (ρ.c ++ [s.heap.objs.size + 1])[S.length]? = some (s.heap.objs.size + 1)
    rw [List.getElem?_append_right (by rw [R.len]; exact Nat.le_refl _), R.len, Nat.sub_self]
    rfl
  have r2 : Vals (V.ref (s.heap.objs.size + 1) :: vs) (Value.ref (s.heap.objs.size + 1) :: vals) := .cons rfl r
  have self_ : RVa X.K X.mg noC (ρ.push (s.heap.objs.size + 1)) (upd (upd H s.heap.objs.size (.own (s.heap.objs.size + 1))) (s.heap.objs.size + 1) (.ins C s.heap.objs.size [])) (.v (.ref S.length)) (V.ref (s.heap.objs.size + 1)) := by
    unfold RVa RD
    exact ⟨_, rfl, at_⟩
  have hp2 : Paired (RVa X.K X.mg noC (ρ.push (s.heap.objs.size + 1)) (upd (upd H s.heap.objs.size (.own (s.heap.objs.size + 1))) (s.heap.objs.size + 1) (.ins C s.heap.objs.size []))) (.v (.ref S.length) :: ds.map .v) (V.ref (s.heap.objs.size + 1) :: vs) :=
    .cons self_ (paired_v (hp.later t2.mv))
  refine wpAny_call (make_map (f := f) I.kIn M.makes M.init (beq_iff_eq.mp M.fn) (codeAny_mono (Fn.run noC _ X.stack _ _ ⟨Value.ref (s.heap.objs.size + 1) :: us, kw⟩ (Value.ref (s.heap.objs.size + 1) :: vals) (V.ref (s.heap.objs.size + 1) :: vs) (.v (.ref S.length) :: ds.map .v) (S ++ [.ins c []]) (ρ.push (s.heap.objs.size + 1))
    (fun v H' => v = .non ∧ Q (.ref (s.heap.objs.size + 1)) H') (fun cv d H' => F.W cv d σ H') ((fx.room.mono hjk).make C us kw) (guards_make fx.gd) (I2.env0.make C us kw) (hb _ _ I2.kIn) r2 hl Gd.none hp2 R2 ?_) fun r s' hq' => ?_))
  · unfold mkR at o
    cases ef : fm (.v (.ref S.length) :: ds.map .v) (S ++ [.ins c []]) with
    | ok a S' =>
      rw [ef] at o
      cases a with
      | non =>
        have o : OutE X F σ ρ H (.ok (.ref S.length) S') fun a ρ' _ H' => ∀ v, RD X.K X.mg ρ' H' a v → Q v H' := o
        intro ρ' H' v t R' rd
        refine ⟨rd_non rd, o ρ' H' (t2.trans t) R' _ ?_⟩
        unfold RD
        exact ⟨_, rfl, t.sub at_⟩
      | _ => exact o.elim
    | exc c fs S' => rw [ef] at o; exact fun ρ' H' cv d t R' xr => o ρ' H' cv d (t2.trans t) R' xr
    | bad => rw [ef] at o; exact o
  · cases r with
    | error e => exact passAt fx.tk σ pins _ _ e s' I2 hq'
    | ok fl =>
      cases fl with
      | ret u =>
        obtain ⟨v, H', I3, rv, ev, q3⟩ := I2.after hq'
        subst ev
        exact ⟨rv, ⟨V.ref (s.heap.objs.size + 1), H', I3, rfl, q3⟩⟩
      | next => exact False.elim hq'
      | brk => exact False.elim hq'
      | cont => exact False.elim hq'
noncomputable def mMake (al : Bool) (c : Str) (fm : FM) (ma : AM) : EM := fun env S => (ma env S).bind fun ds S1 => mkA al c fm (ds.map .v) S1
/-- C(e, ..) -/
theorem e_make (al : Bool) {d : He.DefD} {p pos : Pos} {e : Expr} {es : List Expr} {ma : AM} (fx : FX X F k) (M : Mk X.K C (He.fAd X.K d.at_)) (hm : X.mg c = some (.ref C)) (G : FnA X.prog X.w X.K X.mg X.base F.T CS j d ps fm) (hjk : j + 1 ≤ k) (hg : Gl X c) (hlen : ∀ env S ds S', ma env S = .ok ds S' → ds.length + 1 = ps.length)
    (ha : PA X (e :: es) (rdA X F ma)) (hdb : (c == ("__debug__" : Str)) = false := by decide) (he : starEach (e :: es) X.env = (false, eval e X.env) :: starEach es X.env := by rfl) (hpl : (backTo pos (starEach es X.env)).any (·.1) = false := by rfl) :
    PE X (.Call (.Name c p) (e :: es) [] pos) (rdE X F (mMake al c fm ma)) := by
  obtain ⟨fd, Fn, hb, hk, _⟩ := G
  refine ⟨fun pins s σ H Q I h => ?_⟩
  obtain ⟨env, S, ρ, re, rs, o⟩ := h
  refine wpAny_Call_Name_kw (ld_glob I hg hm ?_ hdb)
  refine PySem.W.callWith_K (h₀ := X.base) I.ok.mod.kin M.kp (thn (ha.run pos pins s σ H (fun vs H1 => ∃ ds S1 ρ1, vs.length + 1 = ps.length ∧ RDs X.K X.mg ρ1 H1 ds vs ∧ RS X.K X.mg F.T ρ1 S1 H1 ∧ OutE X F σ ρ1 H1 (mkA al c fm (ds.map .v) S1) fun a ρ' _ H' => ∀ v, RD X.K X.mg ρ' H' a v → Q v H') I ⟨env, S, ρ, re, rs, ?_⟩) fun us s1 ⟨vs, H1, I1, r, ds, S1, ρ1, hl, rd, R1, o1⟩ => ⟨I1.kIn, ?_⟩) he hpl
  · cases em : ma env S with
    | ok ds S1 =>
      unfold mMake at o
      rw [em] at o
      exact fun ρ1 H1 t1 R1 vs hvs => ⟨ds, S1, ρ1, by rw [hvs.length]; exact hlen env S ds S1 em, hvs, R1, OutE.later t1 o⟩
    | exc c fs S1 => unfold mMake at o; rw [em] at o; exact o
    | bad => unfold mMake at o; rw [em] at o; exact o
  · refine run_mk al M hm Fn fx hjk (vals := us) (kw := []) (fun s x hK => ?_) I1 r hl rd R1 o1
    have b := hb s (x :: us) hK (by rw [List.append_nil, List.length_cons, ← r.length]; exact hl)
    rw [List.append_nil] at b
    exact b
end
/-! ### keywords -/
def perm {α : Type} (ix : List Nat) (l : List α) : List α := ix.filterMap fun i => l[i]?
theorem perm_paired {α β : Type} {G : α → β → Prop} {l₁ : List α} {l₂ : List β} (h : Paired G l₁ l₂) : ∀ ix : List Nat, Paired G (perm ix l₁) (perm ix l₂)
  | [] => .nil
  | i :: ix => by
    unfold perm
    rw [List.filterMap_cons, List.filterMap_cons]
    cases e : l₁[i]? with
    | none =>
      have : l₂[i]? = none := by
        rw [List.getElem?_eq_none_iff] at e ⊢
        rw [← Paired.len h]; exact e
      rw [this]
      exact perm_paired h ix
    | some a =>
      obtain ⟨b, hb, g⟩ := Paired.get h e
      rw [hb]
      exact .cons g (perm_paired h ix)
theorem perm_rds {K : PySem.W.Frag} {mg : Str → Option Value} {ρ : Rho} {H : Hp} {ds : List D} {vs : List V} (h : RDs K mg ρ H ds vs) : ∀ ix : List Nat, RDs K mg ρ H (perm ix ds) (perm ix vs)
  | [] => RDs.nil_iff.mpr rfl
  | i :: ix => by
    unfold perm
    rw [List.filterMap_cons, List.filterMap_cons]
    cases e : ds[i]? with
    | none =>
      have : vs[i]? = none := by
        rw [List.getElem?_eq_none_iff] at e ⊢
        rw [h.length]; exact e
      rw [this]
      exact perm_rds h ix
    | some a =>
      obtain ⟨b, hb, g⟩ := h.get e
      rw [hb]
      exact RDs.cons_iff.mpr ⟨b, _, rfl, g, perm_rds h ix⟩
theorem perm_vals {vs : List V} {us : List Value} (h : Vals vs us) : ∀ ix : List Nat, Vals (perm ix vs) (perm ix us)
  | [] => .nil
  | i :: ix => by
    unfold perm
    rw [List.filterMap_cons, List.filterMap_cons]
    cases e : vs[i]? with
    | none =>
      have : us[i]? = none := by
        rw [List.getElem?_eq_none_iff] at e ⊢
        rw [← h.length]; exact e
      rw [this]
      exact perm_vals h ix
    | some a =>
      obtain ⟨b, hb, g⟩ := h.get e
      rw [hb]
      exact .cons g (perm_vals h ix)
section
variable {X : Cx} {F : Fm} {k j : Nat} {CS : Nat → CloS} {f C : Addr} {fd : FuncData} {ps ks : List Str} {fm : FM} {c x : Str} {d : He.DefD} {p pos kpos : Pos} {e : Expr} {es : List Expr} {kws : List Keyword} {ma mk : AM} {me : EM} {mr : AM} {ix : List Nat} {n m : Nat} {nm : Option Str}
theorem PK.imp {kws : List Keyword} {t t' : TA} (h : PK X kws t) (i : ∀ σ H Q, t' σ H Q → t σ H Q) : PK X kws t' := ⟨fun pos pins s σ H Q I q => h.run pos pins s σ H Q I (i σ H Q q)⟩
theorem k_nil : PK X [] (rdA X F mNil) := PK.imp pk_nil fun σ H Q ⟨env, S, ρ, re, rs, o⟩ => o ρ H Aft.refl rs [] (RDs.nil_iff.mpr rfl)
theorem k_cons (ha : PE X e (rdE X F me)) (hr : PK X kws (rdA X F mr)) : PK X (⟨nm, e, kpos⟩ :: kws) (rdA X F (mCons me mr)) := by
  refine PK.imp (pk_cons ha hr) fun σ H Q ⟨env, S, ρ, re, rs, o⟩ => ?_
  refine ⟨env, S, ρ, re, rs, (OutE.bind o).imp fun x ρ1 S1 H1 t1 R1 o1 v hv => ?_⟩
  refine ⟨env, S1, ρ1, re.later t1, R1, (OutE.bind o1).imp fun xs ρ2 S2 H2 t2 R2 o2 vs hvs => ?_⟩
  exact o2 ρ2 H2 Aft.refl R2 _ (RDs.cons_iff.mpr ⟨v, vs, rfl, hv.later t2.mv, hvs⟩)
/-- how names bind -/
def KwB (d : He.DefD) (ps ks : List Str) (ix : List Nat) (n m : Nat) : Prop := ∀ (kV doc pm : Value) (an : Option Addr) (cdv ct : Value) (us ws : List Value), us.length = n → ws.length = m →
  bindArgs (PySem.W.fnOf d.name d.qual d.params d.body d.scope .none kV doc pm an cdv ct) ⟨us, ks.zip ws⟩ = pure (ps.zip (perm ix (us ++ ws))) ∧ (perm ix (us ++ ws)).length = ps.length
def mCallK (fm : FM) (ix : List Nat) (n m : Nat) (ma mk : AM) : EM := fun env S => (ma env S).bind fun ds S1 => (mk env S1).bind fun zs S2 => if ds.length = n ∧ zs.length = m then fm ((perm ix (ds ++ zs)).map .v) S2 else .bad
theorem vals_app {vs zs : List V} {us ws : List Value} (h : Vals vs us) (g : Vals zs ws) : Vals (vs ++ zs) (us ++ ws) := h.append g
theorem run_mk_kw {pins : List (Addr × Obj)} {σ : St} {H : Hp} {s : Shared} {Q : VK} {us vals : List Value} {kw : List (Str × Value)} {vs : List V} {S : Store} {ρ : Rho} {C : Nat → List EV → Addr → Prop} {evs : List EV} (Fn : FnM X.prog X.w X.K X.mg X.base F.T CS j f fd ps fm) (fx : FX X F k) (hjk : j ≤ k) (hb : BindsTo s fd ⟨us, kw⟩ (ps.zip vals)) (I : Inv X pins σ H s) (r : Vals vs vals) (hl : vs.length = ps.length)
    (hg : Gd CS X.K X.mg C s.heap ρ H) (hp : Paired (RVa X.K X.mg C ρ H) evs vs) (R : RS X.K X.mg F.T ρ S H) (o : OutE X F σ ρ H (fm evs S) fun a ρ' _ H' => ∀ v, RD X.K X.mg ρ' H' a v → Q v H') : wpAny (model X.prog X.w) X.A (call (.ref f) us kw) (EP X pins σ Q) X.xe s := by
  refine wpAny_call (codeAny_mono (Fn.run C X.A X.stack s H ⟨us, kw⟩ vals vs evs S ρ Q (fun cv d H' => F.W cv d σ H') (fx.room.mono hjk) fx.gd I.env0 hb r hl hg hp R ?_) fun r s' hq => ?_)
  · cases ef : fm evs S with
    | ok a S' => rw [ef] at o; exact fun ρ' H' v t R' rd => o ρ' H' t R' v rd
    | exc c fs S' => rw [ef] at o; exact fun ρ' H' cv d t R' xr => o ρ' H' cv d t R' xr
    | bad => rw [ef] at o; exact o
  · cases r with
    | error e => exact passAt fx.tk σ pins H s e s' I hq
    | ok fl =>
      cases fl with
      | ret u => exact I.after hq
      | next => exact False.elim hq
      | brk => exact False.elim hq
      | cont => exact False.elim hq
/-- f(k = v, ..), names alone -/
theorem e_callK0 (fx : FX X F k) (G : FnG X.prog X.w X.K X.mg X.base F.T CS j x d ps fm) (hkb : KwB d ps ks ix 0 m) (hjk : j ≤ k) (hg : Gl X x) (hkw : PK X kws (rdA X F mk)) (hlen : ks.length = m)
    (hall : (backToKw pos (keywordEach kws X.env)).all (·.1.isSome) = true := by rfl) (hks : (backToKw pos (keywordEach kws X.env)).filterMap (·.1) = ks := by rfl) (hdb : (x == ("__debug__" : Str)) = false := by decide)
    (hpl : ((backTo pos (starEach [] X.env)).any (·.1) || (backToKw pos (keywordEach kws X.env)).any (·.1.isNone)) = false := by rfl) : PE X (.Call (.Name x p) [] kws pos) (rdE X F (mCallK fm ix 0 m mNil mk)) := by
  obtain ⟨f, fd, hm, Fn, hb, hk, kV, doc, pm, an, cdv, ct, rfl⟩ := G
  refine ⟨fun pins s σ H Q I h => ?_⟩
  obtain ⟨env, S, ρ, re, rs, o⟩ := h
  refine wpAny_Call_Name_kw (ld_glob I hg hm ?_ hdb)
  refine PySem.W.callWith_KW0 (h₀ := X.base) I.ok.mod.kin hk hall (thn (hkw.run pos pins s σ H (fun vs H1 => ∃ ds S1 ρ1, vs.length = m ∧ RDs X.K X.mg ρ1 H1 ds vs ∧ RS X.K X.mg F.T ρ1 S1 H1 ∧ OutE X F σ ρ1 H1 (fm ((perm ix ds).map .v) S1) fun a ρ' _ H' => ∀ v, RD X.K X.mg ρ' H' a v → Q v H') I ⟨env, S, ρ, re, rs, ?_⟩) fun ws s1 ⟨vs, H1, I1, r, ds, S1, ρ1, hl, rd, R1, o1⟩ => ⟨I1.kIn, ?_⟩) hpl
  · unfold mCallK at o
    have o : OutE X F σ ρ H ((mk env S).bind fun zs S2 => if ([] : List D).length = 0 ∧ zs.length = m then fm ((perm ix ([] ++ zs)).map .v) S2 else .bad) fun a ρ' _ H' => ∀ v, RD X.K X.mg ρ' H' a v → Q v H' := o
    refine (OutE.bind o).imp fun zs ρ1 S1 H1 t1 R1 o1 vs hvs => ?_
    split at o1
    · rename_i hl
      exact ⟨zs, S1, ρ1, by rw [hvs.length]; exact hl.2, hvs, R1, o1⟩
    · exact o1.elim
  · rw [hks]
    obtain ⟨b1, b2⟩ := hkb kV doc pm an cdv ct [] ws rfl (by rw [← r.length]; exact hl)
    refine run_mk_kw Fn fx hjk (vals := perm ix ([] ++ ws)) (BindsTo.of_eq b1) I1 (perm_vals r ix) ?_ Gd.none (paired_v (perm_rds rd ix)) R1 o1
    rw [(perm_vals r ix).length]
    exact b2
/-- C(k = v, ..), names alone -/
def KwM (d : He.DefD) (ps ks : List Str) (ix : List Nat) (m : Nat) : Prop := ∀ (kV doc pm : Value) (an : Option Addr) (cdv ct : Value) (x : Value) (ws : List Value), ws.length = m →
  bindArgs (PySem.W.fnOf d.name d.qual d.params d.body d.scope .none kV doc pm an cdv ct) ⟨[x], ks.zip ws⟩ = pure (ps.zip (x :: perm ix ws)) ∧ (perm ix ws).length + 1 = ps.length
noncomputable def mMakeK (al : Bool) (c : Str) (fm : FM) (ix : List Nat) (m : Nat) (mk : AM) : EM := fun env S => (mk env S).bind fun zs S2 => if zs.length = m then mkA al c fm ((perm ix zs).map .v) S2 else .bad
theorem e_makeK0 (al : Bool) (fx : FX X F k) (M : Mk X.K C (He.fAd X.K d.at_)) (hm : X.mg c = some (.ref C)) (G : FnA X.prog X.w X.K X.mg X.base F.T CS j d ps fm) (hkb : KwM d ps ks ix m) (hjk : j + 1 ≤ k) (hg : Gl X c) (hkw : PK X kws (rdA X F mk))
    (hall : (backToKw pos (keywordEach kws X.env)).all (·.1.isSome) = true := by rfl) (hks : (backToKw pos (keywordEach kws X.env)).filterMap (·.1) = ks := by rfl) (hdb : (c == ("__debug__" : Str)) = false := by decide)
    (hpl : ((backTo pos (starEach [] X.env)).any (·.1) || (backToKw pos (keywordEach kws X.env)).any (·.1.isNone)) = false := by rfl) : PE X (.Call (.Name c p) [] kws pos) (rdE X F (mMakeK al c fm ix m mk)) := by
  obtain ⟨fd, Fn, hb, hk, kV, doc, pm, an, cdv, ct, rfl⟩ := G
  refine ⟨fun pins s σ H Q I h => ?_⟩
  obtain ⟨env, S, ρ, re, rs, o⟩ := h
  refine wpAny_Call_Name_kw (ld_glob I hg hm ?_ hdb)
  refine PySem.W.callWith_KW0 (h₀ := X.base) I.ok.mod.kin M.kp hall (thn (hkw.run pos pins s σ H (fun vs H1 => ∃ ds S1 ρ1, vs.length = m ∧ RDs X.K X.mg ρ1 H1 ds vs ∧ RS X.K X.mg F.T ρ1 S1 H1 ∧ OutE X F σ ρ1 H1 (mkA al c fm ((perm ix ds).map .v) S1) fun a ρ' _ H' => ∀ v, RD X.K X.mg ρ' H' a v → Q v H') I ⟨env, S, ρ, re, rs, ?_⟩) fun ws s1 ⟨vs, H1, I1, r, ds, S1, ρ1, hl, rd, R1, o1⟩ => ⟨I1.kIn, ?_⟩) hpl
  · unfold mMakeK at o
    refine (OutE.bind o).imp fun zs ρ1 S1 H1 t1 R1 o1 vs hvs => ?_
    split at o1
    · rename_i hl
      exact ⟨zs, S1, ρ1, by rw [hvs.length]; exact hl, hvs, R1, o1⟩
    · exact o1.elim
  · rw [hks]
    have b2 := (hkb kV doc pm an cdv ct .none ws (by rw [← r.length]; exact hl)).2
    refine run_mk al M hm Fn fx hjk (vals := perm ix ws) (kw := ks.zip ws) (us := []) (fun s x hK => BindsTo.of_eq (hkb kV doc pm an cdv ct x ws (by rw [← r.length]; exact hl)).1) I1 (perm_vals r ix) ?_ (perm_rds rd ix) R1 o1
    rw [(perm_vals r ix).length]
    exact b2
end
/-! ### attributes -/
section
variable {X : Cx} {F : Fm} {k j : Nat} {CS : Nat → CloS} {pos pos' : Pos} {e o : Expr} {me mo : EM} {f : Str}
/-- a class's property: its getter's mirror -/
def PropG (P : Program) (w : World) (K : PySem.W.Frag) (mg : Str → Option Value) (base : Heap) (T : List NdefX.NTab) (CS : Nat → CloS) (j : Nat) (c f : Str) (fm : FM) : Prop :=
  ∃ C p g fd, mg c = some (.ref C) ∧ Cls K C ∧ PropOf K C f p g ∧ FnM P w K mg base T CS j g fd ["self"] fm ∧ Binds K fd ["self"] []
/-- a class without such an attribute of its own -/
def FldG (K : PySem.W.Frag) (mg : Str → Option Value) (c f : Str) : Prop := ∃ C, mg c = some (.ref C) ∧ Cls K C ∧ NoAttr K C f
/-- no exception -/
def noX : Rz D → Rz D
  | .ok d S => .ok d S
  | _ => .bad
theorem getprop_m {pins : List (Addr × Obj)} {σ : St} {H : Hp} {s : Shared} {Q : VK} {b : Bool} {S : Store} {ρ : Rho} {d : D} {a C dx p g : Addr} {fs : List (Str × V)} {fd : FuncData} {fm : FM} (fx : FX X F k) (hjk : j + 1 ≤ k) (I : Inv X pins σ H s) (ea : H a = some (.ins C dx fs)) (c : Cls X.K C) (hp : PropOf X.K C f p g)
    (Fn : FnM X.prog X.w X.K X.mg X.base F.T CS j g fd ["self"] fm) (hb : Binds X.K fd ["self"] []) (rd : RD X.K X.mg ρ H d (.ref a)) (R : RS X.K X.mg F.T ρ S H) (o : OutE X F σ ρ H (noX (fm [.v d] S)) fun a ρ' _ H' => ∀ v, RD X.K X.mg ρ' H' a v → Q v H') :
    wpAny (model X.prog X.w) X.A (getAttr (.ref a) f b) (EP X pins σ Q) X.xe s := by
  obtain ⟨mA, O, _, _, _, _⟩ := ins_get I.hok ea
  obtain ⟨od, J, _⟩ := O.look
  obtain ⟨rest, hrec⟩ := hp.rec_
  have I1 := I.tok (s.toks + 1)
  have hc : (PySem.W.clsIn X.K C).isSome = true := by
    obtain ⟨cd, hc, _⟩ := PySem.W.any_some c.hd
    rw [hc]
    rfl
  have b1 := hb { s with toks := s.toks + 1 } [.ref a] I1.kIn rfl
  refine PySem.W.get_bind I.kIn J (PySem.W.plainGet_of (c.get f)).1 (PySem.W.findObj_data hc hp.at_ hp.get hp.tak) (PySem.W.plainGet_of (c.get f)).2 (wpAny_call (PySem.W.prop_get (s := { s with toks := s.toks + 1 }) I.kIn hrec ?_))
  refine codeAny_mono (Fn.run noC X.A.in1 X.stack { s with toks := s.toks + 1 } H ⟨[.ref a], []⟩ [.ref a] [.ref a] [.v d] S ρ Q (fun _ _ _ => False) (fx.room.mono hjk).in1 (by exact fx.gd) I1.env0.in1 b1 (.cons rfl .nil) rfl Gd.none (.cons rd .nil) R ?_) fun r s' hq => ?_
  · cases ef : fm [.v d] S with
    | ok a S' => rw [ef] at o; exact fun ρ' H' v t R' rd => o ρ' H' t R' v rd
    | exc c fs S' => rw [ef] at o; exact o.elim
    | bad => rw [ef] at o; exact o.elim
  cases r with
  | error er => exact False.elim ((passes_call (X := X.nox) (W := fun _ _ _ _ => False) LamX.takes0 (fun _ _ _ _ h => h)) pins σ H { s with toks := s.toks + 1 } er s' (I1.wish _) hq)
  | ok fl =>
    cases fl with
    | ret u =>
      obtain ⟨v, H', I3, rv, q3⟩ := I1.after hq
      show wpAny _ _ (handedOut u) _ _ _
      rw [PySem.W.handedOut_of (handed_of rv)]
      exact wpAny_pure ⟨v, H', I3, rv, q3⟩
    | next => exact False.elim hq
    | brk => exact False.elim hq
    | cont => exact False.elim hq
def mAttr (pt : List (Str × FM)) (fc : List Str) (f : Str) (me : EM) : EM := fun env S => (me env S).bind fun d S1 => match insOf S1 d with
  | some (c, fs) => (match pt.lookup c with
    | some fm => noX (fm [.v d] S1)
    | none => if fc.contains c = true then (match fs.lookup f with
      | some v => .ok v S1
      | none => .bad) else .bad)
  | none => .bad
theorem lkS_mem {β : Type} {a : Str} {o : β} : ∀ {l : List (Str × β)}, l.lookup a = some o → (a, o) ∈ l
  | [], h => by cases h
  | (b, u) :: r, h => by
    rw [List.lookup_cons] at h
    split at h
    · rename_i q
      cases h
      rw [beq_iff_eq.mp q]
      exact List.mem_cons_self
    · exact List.mem_cons_of_mem _ (lkS_mem h)
theorem e_attr {pt : List (Str × FM)} {fc : List Str} (fx : FX X F k) (hjk : j + 1 ≤ k) (he : PE X e (rdE X F me)) (hp : ∀ q ∈ pt, PropG X.prog X.w X.K X.mg X.base F.T CS j q.1 f q.2) (hf : ∀ c ∈ fc, FldG X.K X.mg c f)
    (hab : attributeBase e f X.env (eval e X.env) = eval e X.env := by rfl) : PE X (.Attribute e f pos) (rdE X F (mAttr pt fc f me)) := by
  refine ⟨fun pins s σ H Q I h => ?_⟩
  obtain ⟨env, S, ρ, re, rs, o⟩ := h
  refine attr_of hab (thn (he.run pins s σ H (fun v H1 => ∃ d S1 ρ1, RD X.K X.mg ρ1 H1 d v ∧ RS X.K X.mg F.T ρ1 S1 H1 ∧ OutE X F σ ρ1 H1 (match insOf S1 d with
    | some (c, fs) => (match pt.lookup c with
      | some fm => noX (fm [.v d] S1)
      | none => if fc.contains c = true then (match fs.lookup f with
        | some v => .ok v S1
        | none => .bad) else .bad)
    | none => .bad) fun a ρ' _ H' => ∀ v, RD X.K X.mg ρ' H' a v → Q v H') I ⟨env, S, ρ, re, rs, ?_⟩) fun u s1 ⟨v, H1, I1, rx, d, S1, ρ1, rd, R1, o1⟩ => ?_)
  · unfold mAttr at o
    exact (OutE.bind o).imp fun d ρ1 S1 H1 t1 R1 o1 v hv => ⟨d, S1, ρ1, hv, R1, o1⟩
  · cases ei : insOf S1 d with
    | none => rw [ei] at o1; exact o1.elim
    | some q =>
      obtain ⟨c, fs⟩ := q
      rw [ei] at o1
      obtain ⟨a, C, dx, ys, rfl, ea, hm, rr⟩ := insOf_ok R1 rd ei
      obtain rfl : u = Value.ref a := rx
      dsimp only at o1
      cases ep : pt.lookup c with
      | some fm =>
        rw [ep] at o1
        obtain ⟨C', p, g, fd, hm', hc, hpr, Fn, hb⟩ := hp _ (lkS_mem ep)
        rw [hm] at hm'; cases hm'
        exact getprop_m fx hjk I1 ea hc hpr Fn hb rd R1 o1
      | none =>
        rw [ep] at o1
        dsimp only at o1
        split at o1
        · rename_i hcc
          obtain ⟨C', hm', hc, hn⟩ := hf c (by simpa using hcc)
          rw [hm] at hm'; cases hm'
          cases el : fs.lookup f with
          | none => rw [el] at o1; exact o1.elim
          | some d' =>
            rw [el] at o1
            obtain ⟨v', hv', rv'⟩ := rr.look el
            exact getattr_ok I1 ea hc hn hv' fun u' s2 I2 ru => ⟨v', H1, I2, ru, o1 ρ1 H1 Aft.refl R1 v' rv'⟩
        · exact o1.elim
/-- o.f = e -/
def mFldSet (fc : List Str) (f : Str) (mo mv : EM) : SM := fun env S => (mv env S).st env fun y S1 => (mo env S1).st env fun x S2 => match x with
  | .ref n => (match S2[n]? with
    | some (.ins c fs) => if fc.contains c = true ∧ fs.length < 1000 then .nx env (S2.set n (.ins c (putD f y fs))) else .bad
    | _ => .bad)
  | _ => .bad
theorem s_fld {value : Expr} {mv : EM} {fc : List Str} (ho : PE X o (rdE X F mo)) (hv : PE X value (rdE X F mv)) (hf : ∀ c ∈ fc, FldG X.K X.mg c f) (hs : swapsWith value (some (.Attribute o f pos')) pos.line X.env = pure false := by rfl) : PS X (.Assign [.Attribute o f pos'] value pos) (rdS X F (mFldSet fc f mo mv)) := by
  refine PS.imp (ps_fld ho hv hs) fun D σ H ⟨env, S, ρ, re, rs, o⟩ => ?_
  refine ⟨env, S, ρ, re, rs, (OutS.st re o).imp fun y ρ1 S1 H1 t1 R1 o1 v hv => ?_⟩
  refine ⟨env, S1, ρ1, re.later t1, R1, (OutS.st (re.later t1) o1).imp fun x ρ2 S2 H2 t2 R2 o2 u hu => ?_⟩
  cases x with
  | ref n =>
    obtain ⟨a, rfl, q⟩ := rd_ref hu
    dsimp only at o2
    split at o2
    · rename_i c fs es
      split at o2
      · rename_i hc
        obtain ⟨a', ha', C, dx, ys, hx, hm, r⟩ := R2.cell n _ es
        rw [q] at ha'; cases ha'
        obtain ⟨C', hm', hcl, hn⟩ := hf c (by simpa using hc.1)
        rw [hm] at hm'; cases hm'
        have hmem : a ∈ ρ2.c := List.mem_of_getElem? q
        have t3 : Aft ρ2 H2 ρ2 (upd H2 a (.ins C dx (putF f v ys))) := Aft.write hmem hx fun ps z => by cases z
        refine ⟨a, C, dx, ys, rfl, hx, hcl, hn, by rw [r.len]; exact hc.2, o2 ρ2 _ _ t3 (R2.write es q ⟨C, dx, _, upd_same, hm, (RFs.later t3.mv _ _ r).put (RD.later t3.mv _ _ (hv.later t2.mv))⟩) ((re.later t1).later (t2.trans t3))⟩
      · exact o2.elim
    · exact o2.elim
  | _ => exact o2.elim
end
end M3

set_option Elab.async false
set_option linter.all false
set_option maxRecDepth 100000
set_option maxHeartbeats 1000000
/-! M3M: blocks, zip, repeats, own classes' isinstance, further methods. -/
namespace M3
open PySem PySem.Spec L2
theorem FX.blk {X : Cx} {F : Fm} {k : Nat} (fx : FX X F k) {s : Shared} {H : Hp} {scope : Scope} {ce : Env} {fp : List Addr} : FX (X.blk s H scope ce fp) F.nox k := ⟨fx.calm, fx.nd, LamX.takes0, PassesOwn.never, fx.room, fx.gd⟩
/-! ### zip -/
section
variable {X : Cx} {F : Fm} {ρ : Rho} {H : Hp} {T : List NdefX.NTab} {a b : Addr} {ds us : List D} {n m : List (Nat × List D)}
theorem srcZL_ok (h : (n = [] ∧ ∃ xs, FzAt X.K ρ H a xs ∧ RDs X.K X.mg ρ H ds xs) ∨ ∃ j, n = [(j, ds)] ∧ ρ.c[j]? = some a) (g : (m = [] ∧ ∃ xs, FzAt X.K ρ H b xs ∧ RDs X.K X.mg ρ H us xs) ∨ ∃ j, m = [(j, us)] ∧ ρ.c[j]? = some b) : SrcOk X T (Itz X.K a b) (n ++ m, zips ds us) ρ H := by
  have ok1 : ∀ {S' : Store}, Src.ok (n ++ m, zips ds us) S' → Src.ok (n, ds) S' ∧ Src.ok (m, us) S' := fun {S'} ok => ⟨fun p hp => ok p (List.mem_append_left _ hp), fun p hp => ok p (List.mem_append_right _ hp)⟩
  refine ⟨fun ρ' S' H' i t R ok hi => ?_, fun ρ' S' H' t R ok => ?_⟩
  · obtain ⟨xs, q, r⟩ := lst_key h t R (ok1 ok).1
    obtain ⟨ys, q', r'⟩ := lst_key g t R (ok1 ok).2
    have hi : i < min ds.length us.length := by rw [← zips_length]; exact hi
    have h1 : i < xs.length := by rw [r.length]; omega
    have h2 : i < ys.length := by rw [r'.length]; omega
    refine ⟨⟨xs, ys, xs[i], ys[i], q, q', List.getElem?_eq_getElem h1, List.getElem?_eq_getElem h2⟩, ?_⟩
    rintro v H2 ⟨p, x, y, rfl, hp, rfl, hx, hy⟩
    obtain ⟨d, hd, rd⟩ := r.get' (hx xs q)
    obtain ⟨u, hu, ru⟩ := r'.get' (hy ys q')
    obtain ⟨a1, a2, a3⟩ := pair_new R hp rd ru
    exact ⟨a1, a2, _, zips_get ds us i d u hd hu, a3⟩
  · obtain ⟨xs, q, r⟩ := lst_key h t R (ok1 ok).1
    obtain ⟨ys, q', r'⟩ := lst_key g t R (ok1 ok).2
    refine ⟨xs, ys, q, q', ?_⟩
    show xs.length ≤ (zips ds us).length ∨ ys.length ≤ (zips ds us).length
    rw [zips_length, r.length, r'.length]
    omega
theorem srcZT_ok {xs ys : List V} (q : TupAt X.K ρ H a xs) (r : RDs X.K X.mg ρ H ds xs) (q' : TupAt X.K ρ H b ys) (r' : RDs X.K X.mg ρ H us ys) : SrcOk X T (RZ.ItzT X.K a b) ([], zips ds us) ρ H := by
  refine ⟨fun ρ' S' H' i t R ok hi => ?_, fun ρ' S' H' t R ok => ?_⟩
  · have hi : i < min ds.length us.length := by rw [← zips_length]; exact hi
    have h1 : i < xs.length := by rw [r.length]; omega
    have h2 : i < ys.length := by rw [r'.length]; omega
    refine ⟨⟨xs, ys, xs[i], ys[i], (q.later t).sq, (q'.later t).sq, List.getElem?_eq_getElem h1, List.getElem?_eq_getElem h2⟩, ?_⟩
    rintro v H2 ⟨p, x, y, rfl, hp, rfl, hx, hy⟩
    obtain ⟨d, hd, rd⟩ := (r.later t).get' (hx xs (q.later t).sq)
    obtain ⟨u, hu, ru⟩ := (r'.later t).get' (hy ys (q'.later t).sq)
    obtain ⟨a1, a2, a3⟩ := pair_new R hp rd ru
    exact ⟨a1, a2, _, zips_get ds us i d u hd hu, a3⟩
  · refine ⟨xs, ys, (q.later t).sq, (q'.later t).sq, ?_⟩
    show xs.length ≤ (zips ds us).length ∨ ys.length ≤ (zips ds us).length
    rw [zips_length, r.length, r'.length]
    omega
end
def srcZip : List D → Store → Rz Src := fun ds S => match ds with
  | [d, u] => (match seqSrc S d, seqSrc S u with
    | some (true, _, es), some (true, _, us) => .ok ([], zips es us) S
    | some (false, n, es), some (false, m, us) => .ok (n ++ m, zips es us) S
    | _, _ => .bad)
  | _ => .bad
def iMZ (ma : AM) : IM := fun env S => (ma env S).bind srcZip
section
variable {X : Cx} {F : Fm} {e e2 : Expr} {ma : AM} {p pos tpos : Pos} {elts : List Expr} {kk : Nat}
theorem i_zip (hg : Gl X "zip") (hm : X.mg "zip" = none) (ha : PA X [e, e2] (rdA X F ma)) (hs : starEach [e, e2] X.env = (false, eval e X.env) :: starEach [e2] X.env := by rfl) (hpl : (backTo pos (starEach [e2] X.env)).any (·.1) = false := by rfl) : PI X (.Tuple elts kk tpos) (.Call (.Name "zip" p) [e, e2] [] pos) (rdI X F (iMZ ma)) := by
  refine PI.imp (RZ.pi_zipA hg hm ha hs hpl) fun σ H R ⟨env, S, ρ, re, rs, o⟩ => ?_
  refine ⟨env, S, ρ, re, rs, (OutE.bind o).imp fun ds ρ1 S1 H1 t1 R1 o1 vs hvs => ?_⟩
  unfold srcZip at o1
  split at o1
  · rename_i d u
    obtain ⟨v, r, rfl, d1, h2⟩ := RDs.cons_iff.mp hvs
    obtain ⟨w, r', rfl, d2, h3⟩ := RDs.cons_iff.mp h2
    rw [RDs.nil_iff.mp h3]
    split at o1
    · rename_i n es m us e1 e2
      obtain ⟨a, xs, rfl, q⟩ := seqSrc_ok R1 d1 e1
      obtain ⟨b, ys, rfl, q'⟩ := seqSrc_ok R1 d2 e2
      rcases q with ⟨_, rfl, q, rr⟩ | ⟨z, _⟩
      · rcases q' with ⟨_, rfl, q', rr'⟩ | ⟨z, _⟩
        · exact ⟨a, b, xs, ys, rfl, .inr ⟨q.sq, q'.sq, o1 ρ1 H1 Aft.refl R1 _ (srcZT_ok q rr q' rr')⟩⟩
        · cases z
      · cases z
    · rename_i n es m us e1 e2
      obtain ⟨a, xs, rfl, q⟩ := seqSrc_ok R1 d1 e1
      obtain ⟨b, ys, rfl, q'⟩ := seqSrc_ok R1 d2 e2
      rcases q with ⟨z, _⟩ | ⟨_, q, hk⟩
      · cases z
      · rcases q' with ⟨z, _⟩ | ⟨_, q', hk'⟩
        · cases z
        · exact ⟨a, b, xs, ys, rfl, .inl ⟨q, q', o1 ρ1 H1 Aft.refl R1 _ (srcZL_ok hk hk')⟩⟩
    · exact o1.elim
  · exact o1.elim
end
/-! ### repeats -/
def mulS (x : Str) (n : Nat) : Str := ⟨(List.replicate n x.cps).foldl (· ++ ·) #[]⟩
def rMulS : R2 := fun x y H Q => ∃ z n, x = .str z ∧ y = .int n ∧ -(2 ^ 62) ≤ n ∧ n < 2 ^ 62 ∧ z.length * n.toNat ≤ 16777216 ∧ Q (.str (mulS z n.toNat)) H
theorem mulS_one (x : Str) : mulS x 1 = x := by
  unfold mulS
  simp
theorem mulS_empty {x : Str} (h : x.length = 0) : ∀ n, mulS x n = x
  | 0 => (congrArg Str.mk (show x.cps = #[] from Array.eq_empty_of_size_eq_zero h)).symm
  | n + 1 => by
    have e : x.cps = #[] := Array.eq_empty_of_size_eq_zero h
    have ih := mulS_empty h n
    have z : mulS x (n + 1) = mulS x n := by
      unfold mulS
      rw [List.replicate_succ, List.foldl_cons, e, Array.append_empty]
    rw [z]; exact ih
theorem op_mulS {X : Cx} : OpR X (binaryOp .Mult) rMulS := by
  intro pins s σ H x y v u Q I rx ry h
  obtain ⟨z, n, rfl, rfl, h1, h2, h3, q⟩ := h
  obtain ⟨t, rfl⟩ := rx
  obtain ⟨t', rfl⟩ := ry
  have hlt : ¬ n < 1 → z.length * n.toNat ≤ 16777216 := fun _ => h3
  refine PySem.P.mul_str (x := z) (n := n) ?_ (fun hn hx => ?_) (fun hn hx => PyProof.Rows.short24 h3) ?_
  · have a : ¬ n < -(2 ^ 63 : Int) := by omega
    have b : ¬ n ≥ 2 ^ 63 := by omega
    rw [decide_eq_false a, decide_eq_false b]; rfl
  · have hp : 0 < n := by omega
    have e : (z.length : Int) * n ≤ 16777216 := by
      obtain ⟨k, rfl⟩ : ∃ k : Nat, n = (k : Int) := ⟨n.toNat, (Int.toNat_of_nonneg (by omega)).symm⟩
      have h4 : z.length * k ≤ 16777216 := h3
      generalize hq : z.length * k = q at h4
      have h5 : (z.length : Int) * (k : Int) = (q : Int) := by rw [← hq, Int.natCast_mul]
      rw [h5]
      omega
    have e2 : (z.length : Int) ≤ (2 ^ 63 - 1) / n := (Int.le_ediv_iff_mul_le hp).mpr (by omega)
    omega
  · have fin : ∀ (w : Str) (k : Nat), w = mulS z n.toNat → (EP X pins σ Q) (.str w k) { s with toks := s.toks + 1 } := fun w k e => ⟨.str (mulS z n.toNat), H, I.tok _, ⟨k, by rw [e]⟩, q⟩
    split
    · rename_i hn
      have e0 : n.toNat = 0 := by omega
      refine ⟨by decide, ?_⟩
      exact fin _ _ (by rw [e0]; rfl)
    · rename_i hn
      split
      · rename_i hx
        have ee : z = mulS z n.toNat := by
          rcases Bool.or_eq_true_iff.mp hx with e | e
          · have : n = 1 := by simpa using e
            subst this
            exact (mulS_one z).symm
          · exact (mulS_empty (by simpa using e) _).symm
        exact ⟨.str (mulS z n.toNat), H, I, ⟨t, by rw [← ee]⟩, q⟩
      · exact ⟨by
          rw [sizeLine_eq]
          rename_i hx
          have hz2 : (mulS z n.toNat).length = z.length * n.toNat := by
            unfold mulS
            show ((List.replicate n.toNat z.cps).foldl (· ++ ·) #[]).size = z.cps.size * n.toNat
            have key : ∀ (k : Nat) (acc : Array Nat), ((List.replicate k z.cps).foldl (· ++ ·) acc).size = acc.size + z.cps.size * k := fun k => by
              induction k with
              | zero => intro acc; simp
              | succ k ih =>
                intro acc
                rw [List.replicate_succ, List.foldl_cons, ih, Array.size_append, Nat.mul_succ]
                omega
            rw [key]
            simp
          have : (mulS z n.toNat).length ≤ 16777216 := by omega
          exact this, fin _ _ rfl⟩
def gMulA : Store → D → D → Option Gv := fun S x y => match x, y with
  | .int i, .int j => if cMul i j = true then some (.d (.int (i * j))) else none
  | .str z, .int n => if inRng n = true ∧ z.length * n.toNat ≤ 16777216 then some (.d (.str (mulS z n.toNat))) else none
  | x, .int n => (match lstOwn S x with
    | some ds => if inRng n = true ∧ ds.length * n.toNat ≤ 16777216 then some (.l (List.replicate n.toNat ds).flatten) else none
    | none => none)
  | _, _ => none
def rMulA : R2 := fun x y H Q => (rI CMul fun i j => .int (i * j)) x y H Q ∨ (rMulS x y H Q ∨ rRep x y H Q)
theorem or_mulA {X : Cx} : OpR X (binaryOp .Mult) rMulA := op_mul.or (op_mulS.or op_rep)
theorem RDs.flat {K : PySem.W.Frag} {mg : Str → Option Value} {ρ : Rho} {H : Hp} {ds : List D} {xs : List V} (r : RDs K mg ρ H ds xs) : ∀ n, RDs K mg ρ H (List.replicate n ds).flatten (List.replicate n xs).flatten
  | 0 => RDs.nil_iff.mpr rfl
  | n + 1 => by
    rw [List.replicate_succ, List.replicate_succ, List.flatten_cons, List.flatten_cons]
    exact r.append (RDs.flat r n)
theorem om_mulA {X : Cx} : OpM X rMulA gMulA := by
  intro T ρ S H x y v u Q R hx hy o
  have hz : sizeLine = 16777216 := sizeLine_eq
  have lists : ∀ n, y = .int n → GvOk X ρ H (match lstOwn S x with
    | some ds => if inRng n = true ∧ ds.length * n.toNat ≤ 16777216 then some (.l (List.replicate n.toNat ds).flatten) else none
    | none => none) Q → rMulA v u H Q := fun n hn o9 => by
    subst hn
    cases e : lstOwn S x with
    | none => rw [e] at o9; exact o9.elim
    | some ds =>
      rw [e] at o9
      obtain ⟨a, xs, rfl, q, r⟩ := lstOwn_ok R hx e
      dsimp only at o9
      split at o9
      · rename_i hc
        have hi := inRng_ok hc.1
        exact .inr (.inr ⟨a, n, xs, rfl, rd_int hy, q, by omega, by omega, by rw [r.length]; omega, fun p hp => o9.2 p _ hp (r.flat _)⟩)
      · exact o9.elim
  cases y with
  | int n =>
    cases x with
    | int i =>
      have o : GvOk X ρ H (if cMul i n = true then some (.d (.int (i * n))) else none) Q := o
      split at o
      · rename_i h
        exact .inl ⟨i, n, rd_int hx, rd_int hy, cMul_ok h, o _ mk_int⟩
      · exact o.elim
    | str z =>
      have o : GvOk X ρ H (if inRng n = true ∧ z.length * n.toNat ≤ 16777216 then some (.d (.str (mulS z n.toNat))) else none) Q := o
      split at o
      · rename_i h
        have hi := inRng_ok h.1
        exact .inr (.inl ⟨z, n, rd_str hx, rd_int hy, hi.1, hi.2, h.2, o _ mk_str⟩)
      · exact o.elim
    | _ => exact lists n rfl o
  | _ => cases x <;> exact o.elim
/-! ### isinstance of own classes -/
/-- what the written part says of these classes -/
structure KindsOk (K : PySem.W.Frag) (mg : Str → Option Value) (cs : List Str) : Prop where
  bi : ∀ c ∈ cs, ∀ C, mg c = some (.ref C) → ∀ kd : Kd, PySem.W.kitOne K (.type kd.ty) (.ref C) = some false
  own : ∀ c ∈ cs, ∀ C, mg c = some (.ref C) → ∀ c' ∈ cs, ∀ C', mg c' = some (.ref C') → PySem.W.kitOne K (.ref C') (.ref C) = some (decide (c' = c))
  ins : ∀ c ∈ cs, ∀ C, mg c = some (.ref C) → Cls K C ∧ PySem.W.findIn K (.ref C) "__class__" = some (some (.builtin "object.__class__")) ∧ PySem.W.specialIn K (.builtin "object.__class__") "__get__" = some (some (.builtin "getset_descriptor.__get__")) ∧ PySem.W.takesIn K (.builtin "object.__class__") = some true ∧ PySem.W.mroIn K C (.type "object") = some true
def gIsiC (cs : List Str) : Store → List D → Option Gv := fun S xs => match xs with
  | [x, .gl c] => if cs.contains c = true then (match insOf S x with
    | some (c', _) => if cs.contains c' = true then some (.d (.bl (decide (c' = c)))) else none
    | none => (match kindOf S x with
      | some _ => some (.d (.bl false))
      | none => none)) else none
  | _ => none
theorem e_gl {X : Cx} {F : Fm} {x : Str} {C : Addr} {pos : Pos} (hg : Gl X x) (hm : X.mg x = some (.ref C)) (hd : (x == ("__debug__" : Str)) = false := by decide) : PE X (.Name x pos) (rdE X F (mC (.gl x))) :=
  e_glob hg hm (v := .ref C) rfl (fun _ _ => by unfold RD; exact ⟨C, rfl, hm⟩) hd
theorem om_isiC {X : Cx} {cs : List Str} (hk : KindsOk X.K X.mg cs) : ClM X (rIsi X.K) (gIsiC cs) := by
  intro T ρ S H xs vs Q R hx o
  unfold gIsiC at o
  split at o
  · rename_i x c
    obtain ⟨v, u, rfl, h, h'⟩ := two_rds hx
    unfold RD at h'
    obtain ⟨C, rfl, hm⟩ := h'
    split at o
    · rename_i hc
      have hc : c ∈ cs := by simpa using hc
      split at o
      · rename_i c' fs ei
        split at o
        · rename_i hc'
          have hc' : c' ∈ cs := by simpa using hc'
          obtain ⟨a, C', dx, ys, rfl, ea, hm', rr⟩ := insOf_ok R h ei
          obtain ⟨k1, k2, k3, k4, k5⟩ := hk.ins c' hc' C' hm'
          refine ⟨.ref a, .ref C, .ref C', .ref C, _, rfl, .own C, .base (.ins ea k1 k2 k3 k4 k5), hk.own c hc C hm c' hc' C' hm', o _ mk_bl⟩
        · exact o.elim
      · split at o
        · rename_i kd ek
          exact ⟨v, .ref C, _, .ref C, _, rfl, .own C, tyX_of R h ek, hk.bi c hc C hm kd, o _ mk_bl⟩
        · exact o.elim
    · exact o.elim
  · exact o.elim
/-! ### methods of a list that change nothing -/
def MrM (X : Cx) (r : V → List V → Hp → VK → Prop) (g : Store → D → List D → Option Gv) : Prop := ∀ (T : List NdefX.NTab) (ρ : Rho) (S : Store) (H : Hp) (x : D) (as : List D) (v : V) (vs : List V) (Q : VK), RS X.K X.mg T ρ S H → RD X.K X.mg ρ H x v → RDs X.K X.mg ρ H as vs → GvOk X ρ H (g S x as) Q → r v vs H Q
def mMr (al : Bool) (g : Store → D → List D → Option Gv) (mo : EM) (ma : AM) : EM := fun env S => (mo env S).bind fun x S1 => match lstOf S1 x with
  | some _ => (ma env S1).bind fun as S2 => Gv.fin al (g S2 x as) S2
  | none => .bad
theorem e_mr {X : Cx} {F : Fm} (al : Bool) {o e : Expr} {es : List Expr} {mo : EM} {ma : AM} {name : Str} {apos cpos : Pos} {id : String} {r : V → List V → Hp → VK → Prop} {g : Store → D → List D → Option Gv} (pa : PlainAttrs "list") (slot : Slot "list" name id) (hty : typeOf (.builtin id) = pure (.type "method_descriptor")) (hm : MtR X id r) (hg : MrM X r g)
    (ho : PE X o (rdE X F mo)) (ha : PA X (e :: es) (rdA X F ma))
    (hbase : attributeBase o name X.env (eval o X.env) = eval o X.env := by rfl)
    (hfew : ((backTo cpos (starEach (e :: es) X.env)).all (fun x => !x.1) && (backToKw cpos (keywordEach [] X.env)).all (fun x => x.1.isSome)
      && decide ((e :: es).length + ([] : List Keyword).length + (if ([] : List Keyword).isEmpty then 0 else 1) < 30)) = true := by rfl)
    (hline : (apos.endLine == cpos.line) = true := by rfl) (hs : starEach (e :: es) X.env = (false, eval e X.env) :: starEach es X.env := by rfl) (hplain : (backTo cpos (starEach es X.env)).any (·.1) = false := by rfl) :
    PE X (.Call (.Attribute o name apos) (e :: es) [] cpos) (rdE X F (mMr al g mo ma)) := by
  refine PE.imp (pe_bm pa slot hty hm ho ha hbase hfew hline hs hplain) fun σ H Q ⟨env, S, ρ, re, rs, o⟩ => ?_
  refine ⟨env, S, ρ, re, rs, (OutE.bind o).imp fun x ρ1 S1 H1 t1 R1 o1 v hv => ?_⟩
  split at o1
  · rename_i l el
    obtain ⟨a, xs, rfl, q, r⟩ := lstOf_ok R1 hv el
    refine ⟨.inl ⟨rfl, xs, q⟩, env, S1, ρ1, re.later t1, R1, (OutE.bind o1).imp fun as ρ2 S2 H2 t2 R2 o2 vs hvs => ?_⟩
    exact hg F.T ρ2 S2 H2 x as _ vs Q R2 (hv.later t2.mv) hvs (GvOk.of R2 o2)
  · exact o1.elim
def gIndex : Store → D → List D → Option Gv := fun S x as => match as with
  | [y] => (match toP S x, toP S y with
    | some (.list ps), some p => if SeqAt.shaped (.list ps) = true ∧ SeqAt.shaped p = true then (match ps.findIdx? fun z => PyData.eqv z p with
      | some j => some (.d (.int (j : Nat)))
      | none => none) else none
    | _, _ => none)
  | _ => none
theorem mr_index {X : Cx} : MrM X (rIndexD X.K) gIndex := by
  intro T ρ S H x as v vs Q R hx ha o
  unfold gIndex at o
  split at o
  · rename_i y
    obtain ⟨u, rfl, hu⟩ := one_rds ha
    split at o
    · rename_i ps p e1 e2
      split at o
      · rename_i hs
        split at o
        · rename_i j ej
          have d1 := toP_ok R hx e1
          have d2 := toP_ok R hu e2
          obtain ⟨hj, h1, h2⟩ := List.findIdx?_eq_some_iff_getElem.mp ej
          have hv : ∃ a, v = .ref a := by
            cases d1 with
            | lst _ _ => exact ⟨_, rfl⟩
          obtain ⟨a, rfl⟩ := hv
          refine ⟨a, u, p, ps, j, ps[j], rfl, rfl, d1, d2, hs.1, hs.2, List.getElem?_eq_getElem hj, h1, fun m z hm hz => ?_, o _ mk_int⟩
          obtain ⟨hml, rfl⟩ := List.getElem?_eq_some_iff.mp hz
          simpa using h2 m hm
        · exact o.elim
      · exact o.elim
    · exact o.elim
  · exact o.elim
/-- l.count(x) -/
def rCountD (K : PySem.W.Frag) : V → List V → Hp → VK → Prop := fun x xs H Q => ∃ (a : Addr) (y : V) (d : PyData) (ds : List PyData), x = V.ref a ∧ xs = [y] ∧ Dp K H (V.ref a) (.list ds) ∧ Dp K H y d ∧
  SeqAt.shaped (.list ds) = true ∧ SeqAt.shaped d = true ∧ Q (.int (ds.countP fun z => PyData.eqv z d : Nat)) H
theorem mt_countD {X : Cx} (hu : X.A.units + 65 < cLine) : MtR X "list.count" (rCountD X.K) := by
  intro pins s σ H x xs v us Q I rx rxs h
  obtain ⟨a, y, d, ds, rfl, rfl, hl, hy, sl, sd, q⟩ := h
  cases rx
  cases rxs with
  | cons ry rt =>
    rename_i uy ut
    cases rt
    obtain ⟨bs, r1⟩ := Dp.reads I d y uy hy ry
    have hxs : PyData.canLayAll0 ds = true := SeqAt.canLay_of_shaped sl
    have hroom : X.A.units + 1 + min (PyData.depthAll ds) d.depth < cLine := PyProof.Rows.room_in_shaped sd hu
    cases hl with
    | lst hs ha =>
      obtain ⟨its, rv, ⟨⟨cls, dd, data, sls⟩, n, ho, hc, hdn, hdt⟩, hlen⟩ := I.list hs
      simp only at hc hdt
      subst hc hdt
      obtain ⟨as, h4⟩ := Dp.readsAll I ds _ its ha rv
      have hmap : its.map (SeqAt.readOf s.heap) = ds := SeqAt.readsAll_map ds its as hxs h4
      refine call_meets PySem.F.slot_list_count ⟨_, ho, rfl⟩ PySem.F.entry_list_count (PySem.F.args_list_count_2 _ _)
        (SeqAt.list_countAt a its.toArray n dd sls uy (fun u => PyData.eqv (SeqAt.readOf s.heap u) d)) ⟨ho, SeqAt.items_eqAt (vs := its.toArray) (show ReadsAll s.heap its.toArray.toList ds as from h4) r1 hxs (SeqAt.canLay_of_shaped sd) hroom, ?_⟩
      have ec : its.toArray.toList.countP (fun u => PyData.eqv (SeqAt.readOf s.heap u) d) = ds.countP (fun z => PyData.eqv z d) := by
        rw [← hmap, List.countP_map]
        rfl
      refine ⟨.int (ds.countP fun z => PyData.eqv z d : Nat), H, I.tok _, ⟨s.toks, ?_⟩, q⟩
      show Value.int ((its.toArray.toList.countP (fun u => PyData.eqv (SeqAt.readOf s.heap u) d) : Nat) : Int) s.toks = Value.int ((ds.countP (fun z => PyData.eqv z d) : Nat) : Int) s.toks
      rw [ec]
def gCount : Store → D → List D → Option Gv := fun S x as => match as with
  | [y] => (match toP S x, toP S y with
    | some (.list ps), some p => if SeqAt.shaped (.list ps) = true ∧ SeqAt.shaped p = true then some (.d (.int (ps.countP fun z => PyData.eqv z p : Nat))) else none
    | _, _ => none)
  | _ => none
theorem mr_count {X : Cx} : MrM X (rCountD X.K) gCount := by
  intro T ρ S H x as v vs Q R hx ha o
  unfold gCount at o
  split at o
  · rename_i y
    obtain ⟨u, rfl, hu⟩ := one_rds ha
    split at o
    · rename_i ps p e1 e2
      split at o
      · rename_i hs
        have d1 := toP_ok R hx e1
        have d2 := toP_ok R hu e2
        have hv : ∃ a, v = .ref a := by
          cases d1 with
          | lst _ _ => exact ⟨_, rfl⟩
        obtain ⟨a, rfl⟩ := hv
        exact ⟨a, u, p, ps, rfl, rfl, d1, d2, hs.1, hs.2, o _ mk_int⟩
      · exact o.elim
    · exact o.elim
  · exact o.elim
/-! ### sep.join(..) -/
def strsOf : List D → Option (List Str)
  | [] => some []
  | .str x :: ds => (match strsOf ds with
    | some xs => some (x :: xs)
    | none => none)
  | _ => none
theorem strsOf_ok {K : PySem.W.Frag} {mg : Str → Option Value} {ρ : Rho} {H : Hp} : ∀ {ds : List D} {vs : List V} {xs : List Str}, RDs K mg ρ H ds vs → strsOf ds = some xs → vs = xs.map V.str
  | [], vs, xs, h, e => by cases e; exact RDs.nil_iff.mp h
  | d :: ds, vs, xs, h, e => by
    obtain ⟨v, r, rfl, h1, h2⟩ := RDs.cons_iff.mp h
    cases d with
    | str x =>
      have e : (match strsOf ds with
        | some xs => some (x :: xs)
        | none => none) = some xs := e
      cases e2 : strsOf ds with
      | none => rw [e2] at e; cases e
      | some ys =>
        rw [e2] at e; cases e
        rw [rd_str h1, strsOf_ok h2 e2]
        rfl
    | _ => cases e
def mJoin (mo me : EM) : EM := fun env S => (mo env S).bind fun x S1 => match x with
  | .str a => (me env S1).bind fun y S2 => (match seqOf S2 y with
    | some ds => (match strsOf ds with
      | some ys => if (ys.map (·.length)).sum + ys.length * a.length ≤ 16777216 then .ok (.str (Txt.join a ys)) S2 else .bad
      | none => .bad)
    | none => .bad)
  | _ => .bad
theorem e_join {X : Cx} {F : Fm} {o e : Expr} {mo me : EM} {apos pos : Pos} (ho : PE X o (rdE X F mo)) (he : PE X e (rdE X F me)) (hs : starEach [e] X.env = [(false, eval e X.env)] := by rfl) (hbase : attributeBase o "join" X.env (eval o X.env) = eval o X.env := by rfl) (hline : (apos.endLine == pos.line) = true := by rfl) :
    PE X (.Call (.Attribute o "join" apos) [e] [] pos) (rdE X F (mJoin mo me)) := by
  refine PE.imp (pe_join ho he hs hbase hline) fun σ H Q ⟨env, S, ρ, re, rs, o⟩ => ?_
  refine ⟨env, S, ρ, re, rs, (OutE.bind o).imp fun x ρ1 S1 H1 t1 R1 o1 v hv => ?_⟩
  cases x with
  | str a =>
    dsimp only at o1
    refine ⟨⟨a, rd_str hv⟩, env, S1, ρ1, re.later t1, R1, (OutE.bind o1).imp fun y ρ2 S2 H2 t2 R2 o2 u hu => ?_⟩
    split at o2
    · rename_i ds es
      split at o2
      · rename_i ys ey
        split at o2
        · rename_i hl
          obtain ⟨p, xs, rfl, q, r⟩ := seqOf_ok R2 hu es
          have e := strsOf_ok r ey
          subst e
          exact ⟨a, p, ys, rd_str hv, rfl, q, hl, o2 ρ2 H2 Aft.refl R2 _ mk_str⟩
        · exact o2.elim
      · exact o2.elim
    · exact o2.elim
  | _ => exact o1.elim
end M3

set_option Elab.async false
set_option linter.all false
set_option maxRecDepth 100000
set_option maxHeartbeats 1000000
/-! M3P: what a law's head tells: defs, properties, tables, further facts. -/
namespace M3
open PySem PySem.Spec L2 He
/-- the getter behind a class's property -/
def pAd (K : PySem.W.Frag) (p : Str × Option Str) : Addr := match PySem.W.recIn K (fAd K p) "property" with
  | some (.ref g :: _) => g
  | _ => 0
def fnWp (K : PySem.W.Frag) (p : Str × Option Str) : FnW := match K.lookup (pAd K p) with
  | some ⟨_, _, .func fd, _⟩ => some (fd.name, fd.qualname, fd.params, fd.body, fd.scope, fd.globals, fd.closure, fd.builtins)
  | _ => none
def okP (K : PySem.W.Frag) (d : DefD) : Bool := (match d.at_.2 with
    | some f => eqO (PySem.W.findIn K (.ref (ga K d.at_.1)) f) (some (some (.ref (fAd K d.at_))))
    | none => false) && (eqO (PySem.W.specialIn K (.ref (fAd K d.at_)) "__get__") (some (some (.builtin "property.__get__"))) && (decide (PySem.W.takesIn K (.ref (fAd K d.at_)) = some true) && ((match PySem.W.recIn K (fAd K d.at_) "property" with
    | some (.ref _ :: _) => true
    | _ => false) && (match K.lookup (pAd K d.at_) with
    | some ⟨_, _, .func fd, _⟩ => PySem.W.codeIn K fd.code d.qual && (dflB K fd.defaults [] && kwdB K fd.kwdefaults [])
    | _ => false))))
theorem propD {K : PySem.W.Frag} {d : DefD} (e : fnWp K d.at_ = d.val) (c : okP K d = true) : (∃ f, d.at_.2 = some f ∧ PropOf K (ga K d.at_.1) f (fAd K d.at_) (pAd K d.at_)) ∧
    ∃ oc od kV doc pm an cdv ct osl, K.lookup (pAd K d.at_) = some ⟨oc, od, .func (PySem.W.fnOf d.name d.qual d.params d.body d.scope .none kV doc pm an cdv ct), osl⟩ ∧ PySem.W.codeIn K cdv d.qual = true := by
  unfold okP at c
  obtain ⟨c1, c⟩ := ba c
  obtain ⟨c2, c⟩ := ba c
  obtain ⟨c3, c⟩ := ba c
  obtain ⟨c4, c⟩ := ba c
  refine ⟨?_, ?_⟩
  · cases hf : d.at_.2 with
    | none => rw [hf] at c1; cases c1
    | some f =>
      rw [hf] at c1
      refine ⟨f, rfl, eqO_ok c1, eqO_ok c2, of_decide_eq_true c3, ?_⟩
      unfold pAd
      cases hr : PySem.W.recIn K (fAd K d.at_) "property" with
      | none => rw [hr] at c4; cases c4
      | some l =>
        cases l with
        | nil => rw [hr] at c4; cases c4
        | cons x r =>
          cases x with
          | ref g => exact ⟨r, rfl⟩
          | _ => rw [hr] at c4; cases c4
  · unfold fnWp at e
    cases q : K.lookup (pAd K d.at_) with
    | none => rw [q] at c; cases c
    | some o =>
      obtain ⟨oc, od, dt, osl⟩ := o
      rw [q] at c e
      cases dt with
      | func fd =>
        obtain ⟨n1, n2, n3, n4, n5, n6, n7, n8, n9, n10, n11, n12, n13, n14, n15⟩ := fd
        have e2 : (some (n1, n2, n3, n4, n5, n6, n7, n15) : FnW) = some (d.name, d.qual, d.params, .stmts d.body, d.scope, mainGlobals, [], builtinsNs) := e
        simp only [Option.some.injEq, Prod.mk.injEq] at e2
        obtain ⟨h1, h2, h3, h4, h5, h6, h7, h8⟩ := e2
        subst h1 h2 h3 h4 h5 h6 h7 h8
        have c3 : (PySem.W.codeIn K n13 d.qual && (dflB K n8 [] && kwdB K n9 [])) = true := c
        obtain ⟨k1, k2⟩ := ba c3
        obtain ⟨k3, k4⟩ := ba k2
        have z8 : n8 = .none := by
          rcases dflB_ok k3 with ⟨_, z⟩ | ⟨z, _⟩
          · exact z
          · exact absurd rfl z
        subst z8
        exact ⟨oc, od, n9, n10, n11, n12, n13, n14, osl, rfl, k1⟩
      | _ => cases c
/-- a property by its getter's body -/
theorem propG {P : Program} {w : World} {K : PySem.W.Frag} {mg : Str → Option Value} {base : Heap} {T : List NdefX.NTab} {CS : Nat → CloS} {k : Nat} {d : DefD} {N : List Str} {m : SM} {c f : Str} (e : fnWp K d.at_ = d.val) (c0 : okP K d = true) (hd : d.at_ = (c, some f)) (hm : mg c = some (.ref (ga K c))) (hc : Cls K (ga K c)) (S : FnScope N ["self"] d.scope)
    (hb : ∀ (kV doc pm : Value) (an : Option Addr) (cdv ct : Value) (us : List Value), us.length = 1 → bindArgs (PySem.W.fnOf d.name d.qual d.params d.body d.scope .none kV doc pm an cdv ct) ⟨us, []⟩ = pure ((["self"] : List Str).zip us))
    (hbody : ∀ (f : Addr) (cdv : Value) (C : Nat → List EV → Addr → Prop) (A : Around) (outer : List Env) (s : Shared) (H : Hp) (E : XK) (ρ : Rho),
      FX (XD P w K mg base N d f cdv A outer s H E) (FD T CS C d f cdv s ρ H E) k →
      PSs (XD P w K mg base N d f cdv A outer s H E) d.body (rdS (XD P w K mg base N d f cdv A outer s H E) (FD T CS C d f cdv s ρ H E) m)) :
    PropG P w K mg base T CS (k + 1) c f (frzM (finM N.length m)) := by
  obtain ⟨⟨f', hf, hp⟩, oc, od, kV, doc, pm, an, cdv, ct, osl, lk, hcd⟩ := propD e c0
  rw [hd] at hp hf lk
  cases hf
  refine ⟨_, _, _, _, hm, hc, hp, (fnm_of lk hcd S fun C A outer s H E ρ fx gd => hbody _ cdv C A outer s H E ρ fx).frz, ?_⟩
  exact .all (hb kV doc pm an cdv ct)
/-! ### the Hook -/
abbrev AlP : Type := AlX × List FnW
/-- what is told -/
structure SaysP (fa : List Fa) (fn pd : List DefD) (tf : List Defn) (ex : PySem.W.Frag → Bool) (w : World) (h : Heap) (K : PySem.W.Frag) : Prop where
  x : SaysX fa fn [] tf (fun K => ex K && pd.all fun d => okP K d) w h K
  p : pd.map (fun d => fnWp K d.at_) = pd.map DefD.val
def obsP (n : Nat) (fa : List Fa) (fn pd : List DefD) (tf : List Defn) (ex : PySem.W.Frag → Bool) (g : Addr → Option Obj) : AlP := (obsX n fa fn [] tf (fun K => ex K && pd.all fun d => okP K d) g, pd.map fun d => fnWp (frT g (asD g n)) d.at_)
def hookP (n : Nat) (fa : List Fa) (fn pd : List DefD) (tf : List Defn) (ex : PySem.W.Frag → Bool) : PySem.W.Hook where
  α := AlP
  obs := fun s => obsP n fa fn pd tf ex s.heap.get?
  val := fun w => (valX fn [] w, pd.map DefD.val)
  says := fun w h => ∃ K : PySem.W.Frag, K.In h ∧ SaysP fa fn pd tf ex w h K
  of := fun _ _ e => ⟨_, frT_in, saysX_of (congrArg (fun z : AlP => z.1) e), congrArg (fun z : AlP => z.2) e⟩
  keeps := fun _ _ _ ⟨K, hK, c⟩ k => ⟨K, PySem.W.Frag.In.keeps hK k, ⟨⟨c.x.t, c.x.more, c.x.hd, c.x.out, fun p hp => k _ _ (c.x.empty p hp)⟩, c.p⟩⟩
theorem obsP_eq {n : Nat} {fa : List Fa} {fn pd : List DefD} {tf : List Defn} {ex : PySem.W.Frag → Bool} {g : Addr → Option Obj} {s : Shared} (h : ∀ a, g a = s.heap.get? a) : obsP n fa fn pd tf ex g = (hookP n fa fn pd tf ex).obs s := by
  have e : g = s.heap.get? := funext h
  rw [e] <;> rfl
/-! ### what the defs lean on -/
structure Ctx (fa : List Fa) (fn pd : List DefD) (tf : List Defn) (ex : PySem.W.Frag → Bool) (K : PySem.W.Frag) (mg : Str → Option Value) (base : Heap) : Prop where
  d : SaysD fa fn K
  p : pd.map (fun d => fnWp K d.at_) = pd.map DefD.val
  okp : pd.all (fun d => okP K d) = true
  m : ex K = true
  kb : K.In base
  gb : base.Ns mainGlobals mg
  tb : ∀ q ∈ tf, LamX.TabB base mg (cT K q).1 (cT K q).2
/-- the tables, each with the names of the whole text -/
abbrev tabs (tf : List Defn) (nm : Nat → Nat → Str) (K : PySem.W.Frag) : List NdefX.NTab := tf.map fun q => ((cT K q).2, nm)
section
variable {fa : List Fa} {fn pd : List DefD} {tf : List Defn} {ex : PySem.W.Frag → Bool} {K : PySem.W.Frag} {mg : Str → Option Value} {base : Heap} {nm : Nat → Nat → Str}
theorem Ctx.glo (c : Ctx fa fn pd tf ex K mg base) (i : Nat) {x : Str} (h : fa[i]? = some (.glo x) := by rfl) : mg x = some (.ref (ga K x)) := glo_ok c.kb c.gb (c.d.fact i h)
theorem Ctx.free (c : Ctx fa fn pd tf ex K mg base) (i : Nat) {x : Str} (h : fa[i]? = some (.free x) := by rfl) : mg x = none := free_ok c.kb c.gb (c.d.fact i h)
theorem Ctx.int (c : Ctx fa fn pd tf ex K mg base) (i : Nat) {x : Str} {z : Int} (h : fa[i]? = some (.int x z) := by rfl) : ∃ t, mg x = some (.int z t) := int_ok c.kb c.gb (c.d.fact i h)
theorem Ctx.str (c : Ctx fa fn pd tf ex K mg base) (i : Nat) {x z : Str} (h : fa[i]? = some (.str x z) := by rfl) : ∃ t, mg x = some (.str z t) := str_ok c.kb c.gb (c.d.fact i h)
theorem Ctx.cls (c : Ctx fa fn pd tf ex K mg base) (i : Nat) {x : Str} (h : fa[i]? = some (.cls x) := by rfl) : Cls K (ga K x) := cls_ok (c.d.fact i h)
theorem Ctx.noat (c : Ctx fa fn pd tf ex K mg base) (i : Nat) {x f : Str} (h : fa[i]? = some (.noat x f) := by rfl) : NoAttr K (ga K x) f := noat_ok (c.d.fact i h)
theorem Ctx.mkr (c : Ctx fa fn pd tf ex K mg base) (i : Nat) {x : Str} (h : fa[i]? = some (.mkr x) := by rfl) : Mk K (ga K x) (ma K (ga K x) "__init__") := mkr_ok (c.d.fact i h)
theorem Ctx.meth (c : Ctx fa fn pd tf ex K mg base) (i : Nat) {x m : Str} (h : fa[i]? = some (.meth x m) := by rfl) : Meth K (ga K x) m (ma K (ga K x) m) := meth_ok (c.d.fact i h)
theorem Ctx.prop (c : Ctx fa fn pd tf ex K mg base) (i : Nat) {d : DefD} (h : pd[i]? = some d := by rfl) : fnWp K d.at_ = d.val ∧ okP K d = true := by
  refine ⟨?_, List.all_eq_true.mp c.okp d (List.mem_of_getElem? h)⟩
  have e := congrArg (fun l => l[i]?) c.p
  simp only [List.getElem?_map, h, Option.map_some] at e
  exact Option.some.inj e
theorem Ctx.tab (c : Ctx fa fn pd tf ex K mg base) (i : Nat) {q : Defn} (h : tf[i]? = some q := by rfl) : LamX.TabB base mg (codeOf K q) (cT K q).2 := c.tb q (List.mem_of_getElem? h)
theorem tabs_mem (i : Nat) {q : Defn} (h : tf[i]? = some q := by rfl) : ((cT K q).2, nm) ∈ tabs tf nm K := List.mem_map.mpr ⟨q, List.mem_of_getElem? h, rfl⟩
theorem tabs_one {P : Addr} : ∀ p ∈ tabs tf nm K, p.1 = P → p.2 = nm := fun p hp _ => by
  obtain ⟨q, _, rfl⟩ := List.mem_map.mp hp
  rfl
/-- a module's tuple -/
theorem tup_look {K : PySem.W.Frag} {x : Str} {vs : List Dv} (h : tupB K x vs = true) : ∃ o its n, K.lookup (ga K x) = some o ∧ o.cls = .type "tuple" ∧ o.data = .seq its n ∧ its.size ≤ sizeLine ∧ Vals (vs.map (Dv.v K)) its.toList := by
  unfold tupB at h
  cases q : K.lookup (ga K x) with
  | none => rw [q] at h; cases h
  | some o =>
    obtain ⟨oc, od, dt, osl⟩ := o
    rw [q] at h
    cases oc with
    | type c =>
      cases dt with
      | seq its n =>
        obtain ⟨h1, h2⟩ := ba h
        obtain ⟨h3, h4⟩ := ba h2
        exact ⟨_, its, n, rfl, congrArg Value.type (of_decide_eq_true h1), rfl, of_decide_eq_true h3, relAll_ok h4⟩
      | _ => cases h
    | _ => cases dt <;> cases h
end
end M3

set_option Elab.async false
set_option linter.all false
set_option maxRecDepth 100000
set_option maxHeartbeats 1000000
/-! M3Q: what is walked, by its kind; small words for the printed derivations. -/
namespace M3
open PySem PySem.Spec L2 He
section
variable {X : Cx} {F : Fm} {k : Nat} {e tg : Expr} {me : EM} {pos : Pos}
theorem PI.or {tg it : Expr} {t t' : TI} (h : PI X tg it t) (g : PI X tg it t') : PI X tg it (fun σ H R => t σ H R ∨ t' σ H R) := ⟨fun pins s σ H R I q => q.elim (h.run pins s σ H R I) (g.run pins s σ H R I)⟩
def srcAny : D → Store → Rz Src := fun d S => match d with
  | .str x => .ok ([], signs x) S
  | .tup ds => .ok ([], ds) S
  | d => srcOf d S
def iMA (me : EM) : IM := fun env S => (me env S).bind srcAny
theorem i_seq (he : PE X e (rdE X F me)) : PI X tg e (rdI X F (iMA me)) := by
  refine PI.imp (PI.or (i_list he) (PI.or (i_tup he) (i_str he))) fun σ H R ⟨env, S, ρ, re, rs, o⟩ => ?_
  unfold iMA at o
  cases em : me env S with
  | ok d S' =>
    rw [em] at o
    cases d with
    | str x => exact .inr (.inr ⟨env, S, ρ, re, rs, by unfold iMS; rw [em]; exact o⟩)
    | tup x => exact .inr (.inl ⟨env, S, ρ, re, rs, by unfold iMT; rw [em]; exact o⟩)
    | _ => exact .inl ⟨env, S, ρ, re, rs, by unfold iM; rw [em]; exact o⟩
  | exc c fs S' => rw [em] at o; exact .inl ⟨env, S, ρ, re, rs, by unfold iM; rw [em]; exact o⟩
  | bad => rw [em] at o; exact o.elim
theorem s_par3 {i j l : Nat} {ma : AM} {st : Stmt} (hp : PS X st (tPar3 i j l (rdA X F ma))) : PS X st (rdS X F (mPar3 i j l ma)) := by
  refine PS.imp hp fun D σ H ⟨env, S, ρ, re, rs, o⟩ => ?_
  refine ⟨env, S, ρ, re, rs, (OutS.st re o).imp fun ds ρ1 S1 H1 t1 R1 o1 vs hvs => ?_⟩
  match ds, o1, hvs with
  | [d, d', d''], o1, hvs =>
    obtain ⟨v, r, rfl, d1, h2⟩ := RDs.cons_iff.mp hvs
    obtain ⟨w, r', rfl, d2, h3⟩ := RDs.cons_iff.mp h2
    obtain ⟨u, r'', rfl, d3, h4⟩ := RDs.cons_iff.mp h3
    rw [RDs.nil_iff.mp h4]
    exact ⟨v, w, u, rfl, o1 ρ1 H1 _ Aft.refl R1 ((((re.later t1).set (e := .v d) d1 i).set (e := .v d') d2 j).set (e := .v d'') d3 l)⟩
  | [], o1, _ => exact o1.elim
  | [_], o1, _ => exact o1.elim
  | [_, _], o1, _ => exact o1.elim
  | _ :: _ :: _ :: _ :: _, o1, _ => exact o1.elim
/-- a module's tuple of texts -/
theorem e_gtup' {K : PySem.W.Frag} {x : Str} {zs : List Str} (hK : X.K = K) (hm : X.mg x = some (.ref (ga K x))) (h : tupB K x (zs.map Dv.str) = true) (hg : Gl X x) (hd : (x == ("__debug__" : Str)) = false := by decide) : PE X (.Name x pos) (rdE X F (mC (.tup (zs.map .str)))) := by
  subst hK
  obtain ⟨o, its, n, h1, h2, h3, h4, h5⟩ := tup_look h
  refine e_gtup ⟨_, o, its, n, hm, h1, h2, h3, h4, ?_⟩ hg hd
  have : (zs.map Dv.str).map (Dv.v X.K) = zs.map V.str := by rw [List.map_map]; rfl
  rw [← this]
  exact h5
end
section
variable {X : Cx} {F : Fm} {e : Expr} {me : EM} {pos : Pos}
def mNeg (me : EM) : EM := fun env S => (me env S).bind fun x S1 => match x with
  | .int i => .ok (.int (-i)) S1
  | _ => .bad
theorem e_neg (he : PE X e (rdE X F me)) : PE X (.UnaryOp .USub e pos) (rdE X F (mNeg me)) := by
  refine PE.imp (pe_un un_neg he) fun σ H Q ⟨env, S, ρ, re, rs, o⟩ => ?_
  refine ⟨env, S, ρ, re, rs, (OutE.bind o).imp fun x ρ1 S1 H1 t1 R1 o1 v hv => ?_⟩
  cases x with
  | int i => exact ⟨i, rd_int hv, o1 ρ1 H1 Aft.refl R1 _ mk_int⟩
  | _ => exact o1.elim
end
theorem all_nil {α : Type} {P : α → Prop} : ∀ q ∈ ([] : List α), P q := fun _ h => by cases h
theorem all_cons {α : Type} {P : α → Prop} {a : α} {l : List α} (h : P a) (t : ∀ q ∈ l, P q) : ∀ q ∈ a :: l, P q := fun q hq => by
  rcases List.mem_cons.mp hq with e | e
  · rw [e]; exact h
  · exact t q e
theorem PropG.mono {P : Program} {w : World} {K : PySem.W.Frag} {mg : Str → Option Value} {base : Heap} {T : List NdefX.NTab} {CS : Nat → CloS} {j k : Nat} {c f : Str} {fm : FM} (G : PropG P w K mg base T CS j c f fm) (h : j ≤ k) : PropG P w K mg base T CS k c f fm := by
  obtain ⟨C, p, g, fd, a, b, d, e, r⟩ := G
  exact ⟨C, p, g, fd, a, b, d, e.mono h, r⟩
theorem ex_at {l : List Bool} (h : l.all (fun b => b) = true) (i : Nat) {b : Bool} (e : l[i]? = some b := by rfl) : b = true := List.all_eq_true.mp h b (List.mem_of_getElem? e)
theorem gxD {P : Program} {w : World} {K : PySem.W.Frag} {mg : Str → Option Value} {base : Heap} {T : List NdefX.NTab} {CS : Nat → CloS} {N : List Str} {d : He.DefD} {f : Addr} {cdv : Value} {C : Nat → List EV → Addr → Prop} {A : Around} {outer : List Env} {s : Shared} {H : Hp} {E : XK} {ρ : Rho} (gd : Gd CS K mg C s.heap ρ H) : GX (XD P w K mg base N d f cdv A outer s H E) (FD T CS C d f cdv s ρ H E) CS := ⟨gd, rfl, rfl, fun _ _ => rfl⟩
theorem gxZ {P : Program} {w : World} {K : PySem.W.Frag} {mg : Str → Option Value} {base : Heap} {T : List NdefX.NTab} {CS : Nat → CloS} {N : List Str} {z : CloS} {cl : List (Str × Addr)} {c f : Addr} {C : Nat → List EV → Addr → Prop} {A : Around} {outer : List Env} {s : Shared} {H : Hp} {E : XK} {ρ : Rho} (gd : Gd CS K mg C s.heap ρ H) : GX (ncz P w K mg base N (z.nf cl c) f A outer s H E) (fmOf T CS C cl ρ H E) CS := ⟨gd, rfl, rfl, fun _ _ => rfl⟩
/-- .. without taking away what is left behind -/
theorem fnU {P : Program} {w : World} {K : PySem.W.Frag} {mg : Str → Option Value} {base : Heap} {T : List NdefX.NTab} {CS : Nat → CloS} {k : Nat} {d : He.DefD} {N ps : List Str} {m : SM} (hF : ∃ fd, FunD K d.name d.qual d.params d.body d.scope (d.dvs K) (d.kws K) (He.fAd K d.at_) fd) (hd : d.dfl = []) (hk : d.kwd = []) (S : FnScope N ps d.scope)
    (hb : ∀ (kV doc pm : Value) (an : Option Addr) (cdv ct : Value) (us : List Value), us.length = ps.length → bindArgs (PySem.W.fnOf d.name d.qual d.params d.body d.scope .none kV doc pm an cdv ct) ⟨us, []⟩ = pure (ps.zip us))
    (hbody : ∀ (f : Addr) (cdv : Value) (C : Nat → List EV → Addr → Prop) (A : Around) (outer : List Env) (s : Shared) (H : Hp) (E : XK) (ρ : Rho), cdv = .ref (He.codeOf K d.at_) →
      FX (XD P w K mg base N d f cdv A outer s H E) (FD T CS C d f cdv s ρ H E) k → Gd CS K mg C s.heap ρ H →
      PSs (XD P w K mg base N d f cdv A outer s H E) d.body (rdS (XD P w K mg base N d f cdv A outer s H E) (FD T CS C d f cdv s ρ H E) m)) :
    FnA P w K mg base T CS (k + 1) d ps (finM N.length m) := by
  obtain ⟨fd, F⟩ := hF
  have e1 : d.dvs K = [] := by unfold He.DefD.dvs; rw [hd]; rfl
  have e2 : d.kws K = [] := by unfold He.DefD.kws; rw [hk]; rfl
  rw [e1, e2] at F
  have hB := F.bindsN hb
  have hK := F.kp
  obtain ⟨oc, od, dV, kV, doc, pm, an, cdv, ct, osl, rfl, lk, hcd, hD, _⟩ := F.ex
  rcases hD with ⟨_, rfl⟩ | ⟨e, _⟩
  · obtain ⟨c, hc⟩ := He.codeIn_ref hcd
    have hcc : cdv = .ref (He.codeOf K d.at_) := by rw [He.codeOf_eq lk hc]; exact hc
    exact ⟨_, fnm_of lk hcd S fun C A outer s H E ρ fx gd => hbody _ cdv C A outer s H E ρ hcc fx gd, hB, hK, kV, doc, pm, an, cdv, ct, rfl⟩
  · exact absurd rfl e
theorem FnG.mono {P : Program} {w : World} {K : PySem.W.Frag} {mg : Str → Option Value} {base : Heap} {T : List NdefX.NTab} {CS : Nat → CloS} {j k : Nat} {x : Str} {d : He.DefD} {ps : List Str} {fm : FM} (G : FnG P w K mg base T CS j x d ps fm) (h : j ≤ k) : FnG P w K mg base T CS k x d ps fm := by
  obtain ⟨f, fd, a, b, c⟩ := G
  exact ⟨f, fd, a, b.mono h, c⟩
theorem lenA_v {ma : AvM} : True := True.intro
theorem lv_nil {n : Nat} (h : n = 0) : ∀ env S ds S', vNil env S = .ok ds S' → ds.length = n := fun env S ds S' e => by
  unfold vNil at e
  cases e
  exact h.symm
theorem lv_d {me : EM} {mr : AvM} {n : Nat} (h : ∀ env S ds S', mr env S = .ok ds S' → ds.length = n) : ∀ env S ds S', vD me mr env S = .ok ds S' → ds.length = n + 1 := fun env S ds S' e => by
  unfold vD at e
  cases e1 : me env S with
  | ok a S1 =>
    rw [e1] at e
    cases e2 : mr env S1 with
    | ok xs S2 =>
      rw [Rz.bind_ok, e2] at e
      cases e
      exact congrArg (· + 1) (h _ _ _ _ e2)
    | exc c fs S2 => rw [Rz.bind_ok, e2] at e; cases e
    | bad => rw [Rz.bind_ok, e2] at e; cases e
  | exc c fs S2 => rw [e1] at e; cases e
  | bad => rw [e1] at e; cases e
theorem lv_f {i : Nat} {mr : AvM} {n : Nat} (h : ∀ env S ds S', mr env S = .ok ds S' → ds.length = n) : ∀ env S ds S', vF i mr env S = .ok ds S' → ds.length = n + 1 := fun env S ds S' e => by
  unfold vF at e
  split at e
  · cases e2 : mr env S with
    | ok xs S2 =>
      rw [e2] at e
      cases e
      exact congrArg (· + 1) (h _ _ _ _ e2)
    | exc c fs S2 => rw [e2] at e; cases e
    | bad => rw [e2] at e; cases e
  · cases e
theorem lv_l {k : Nat} {mr : AvM} {n : Nat} (h : ∀ env S ds S', mr env S = .ok ds S' → ds.length = n) : ∀ env S ds S', vL k mr env S = .ok ds S' → ds.length = n + 1 := fun env S ds S' e => by
  unfold vL at e
  cases e2 : mr env S with
  | ok xs S2 =>
    rw [e2] at e
    cases e
    exact congrArg (· + 1) (h _ _ _ _ e2)
  | exc c fs S2 => rw [e2] at e; cases e
  | bad => rw [e2] at e; cases e
def kindsB (K : PySem.W.Frag) (cs : List Str) : Bool := decide (PySem.W.specialIn K (.builtin "object.__class__") "__get__" = some (some (.builtin "getset_descriptor.__get__"))) && (decide (PySem.W.takesIn K (.builtin "object.__class__") = some true) && cs.all fun c =>
  ([Kd.non, Kd.bl, Kd.int, Kd.str, Kd.tup, Kd.lst].all fun kd => decide (PySem.W.kitOne K (.type kd.ty) (.ref (ga K c)) = some false)) && ((cs.all fun c' => decide (PySem.W.kitOne K (.ref (ga K c')) (.ref (ga K c)) = some (decide (c' = c)))) &&
    (decide (PySem.W.findIn K (.ref (ga K c)) "__class__" = some (some (.builtin "object.__class__"))) && decide (PySem.W.mroIn K (ga K c) (.type "object") = some true))))
theorem kindsOk {K : PySem.W.Frag} {mg : Str → Option Value} {cs : List Str} (h : kindsB K cs = true) (hm : ∀ c ∈ cs, mg c = some (.ref (ga K c)) ∧ Cls K (ga K c)) : KindsOk K mg cs := by
  unfold kindsB at h
  obtain ⟨h1, h⟩ := ba h
  obtain ⟨h2, h⟩ := ba h
  have at_ := fun c hc => List.all_eq_true.mp h c hc
  refine ⟨fun c hc C e kd => ?_, fun c hc C e c' hc' C' e' => ?_, fun c hc C e => ?_⟩
  · rw [(hm c hc).1] at e; cases e
    obtain ⟨a, _⟩ := ba (at_ c hc)
    exact of_decide_eq_true (List.all_eq_true.mp a kd (by cases kd <;> decide))
  · rw [(hm c hc).1] at e; cases e
    rw [(hm c' hc').1] at e'; cases e'
    obtain ⟨_, a⟩ := ba (at_ c hc)
    exact of_decide_eq_true (List.all_eq_true.mp (ba a).1 c' hc')
  · rw [(hm c hc).1] at e; cases e
    obtain ⟨_, a⟩ := ba (at_ c hc)
    obtain ⟨a1, a2⟩ := ba (ba a).2
    exact ⟨(hm c hc).2, of_decide_eq_true a1, of_decide_eq_true h1, of_decide_eq_true h2, of_decide_eq_true a2⟩
/-- the expressions of a text, by their places -/
def exRet : Stmt → Expr
  | .Return (some e) _ => e
  | .Expr e _ => e
  | .Assign _ e _ => e
  | .For _ e _ _ _ => e
  | _ => .Constant .none 0 ⟨0, 0, 0, 0⟩
def exArg (i : Nat) : Expr → Expr
  | .Call _ es _ _ => es.getD i (.Constant .none 0 ⟨0, 0, 0, 0⟩)
  | .IfExp c a b _ => if i = 0 then c else if i = 1 then a else b
  | .Subscript a b _ => if i = 0 then a else b
  | .BinOp a _ b _ => if i = 0 then a else b
  | .Compare a _ bs _ => if i = 0 then a else bs.getD (i - 1) (.Constant .none 0 ⟨0, 0, 0, 0⟩)
  | .BoolOp _ es _ => es.getD i (.Constant .none 0 ⟨0, 0, 0, 0⟩)
  | .UnaryOp _ e _ => e
  | e => e
def lamA : Expr → Arguments
  | .Lambda a _ _ _ => a
  | _ => default
def lamB : Expr → Expr
  | .Lambda _ b _ _ => b
  | e => e
def lamS : Expr → Scope
  | .Lambda _ _ s _ => s
  | _ => default
def stN (i : Nat) (l : List Stmt) : Stmt := l.getD i (.Pass ⟨0, 0, 0, 0⟩)
end M3

set_option Elab.async false
set_option linter.all false
set_option maxRecDepth 100000
set_option maxHeartbeats 1000000
/-! M3R: data in their order: <, sorted. -/
namespace M3
open PySem PySem.Spec L2
open PySem.W (EachIs AllAlike Sortable dataLe dataLt alike)
/-! ### x < y of alike data -/
def rLtD (K : PySem.W.Frag) : R2 := fun x y H Q => ∃ p q, Dp K H x p ∧ Dp K H y q ∧ alike p q = true ∧ p ≠ .none ∧ p.depth ≤ 64 ∧ Q (.bl (dataLt p q)) H
def isNoneP : PyData → Bool
  | .none => true
  | _ => false
theorem op_ltD {X : Cx} (hu : X.A.units + 64 < cLine) : OpR X (compareOp .Lt) (rLtD X.K) := by
  intro pins s σ H x y v u Q I rx ry h
  obtain ⟨p, q, hp, hq, ha, hn, hd, hQ⟩ := h
  obtain ⟨as, r1⟩ := Dp.reads I p x v hp rx
  obtain ⟨bs, r2⟩ := Dp.reads I q y u hq ry
  exact PySem.W.rcLt_alike p q X.A s v u as bs r1 r2 ha hn (by have := Nat.min_le_left p.depth q.depth; omega) X.prog X.w X.xe _ ⟨.bl _, H, I, rfl, hQ⟩
def rLtB (K : PySem.W.Frag) : R2 := fun x y H Q => rLtA x y H Q ∨ rLtD K x y H Q
theorem or_ltB {X : Cx} {F : Fm} {k : Nat} (fx : FX X F k) : OpR X (compareOp .Lt) (rLtB X.K) := or_lt.or (op_ltD fx.room.units)
def gLtB : Store → D → D → Option Gv := fun S x y => match gLt S x y with
  | some r => some r
  | none => match toP S x, toP S y with
    | some p, some q => if alike p q = true ∧ isNoneP p = false ∧ p.depth ≤ 64 then some (.d (.bl (dataLt p q))) else none
    | _, _ => none
theorem om_ltB {X : Cx} : OpM X (rLtB X.K) gLtB := by
  intro T ρ S H x y v u Q R hx hy o
  unfold gLtB at o
  cases e : gLt S x y with
  | some r => rw [e] at o; exact .inl (om_lt T ρ S H x y v u Q R hx hy (by rw [e]; exact o))
  | none =>
    rw [e] at o
    dsimp only at o
    split at o
    · rename_i p q e1 e2
      split at o
      · rename_i hc
        exact .inr ⟨p, q, toP_ok R hx e1, toP_ok R hy e2, hc.1, fun z => by rw [z] at hc; exact absurd hc.2.1 (by decide), hc.2.2, o _ mk_bl⟩
      · exact o.elim
    · exact o.elim
/-! ### sorted -/
def rSortedD (K : PySem.W.Frag) : List V → Hp → VK → Prop := fun vs H Q => ∃ (p : Addr) (xs : List V) (ps : List PyData), vs = [.ref p] ∧ SqL K H p xs ∧ DpAll K H xs ps ∧ AllAlike ps ∧ Sortable ps ∧ (∀ q ∈ ps, q.depth ≤ 60) ∧
  ∀ l, H l = none → Q (.ref l) (upd H l (.lst (((xs.zip ps).mergeSort (dataLe false (·.2))).map (·.1))))
theorem dpAll_len {K : PySem.W.Frag} {H : Hp} : ∀ {xs : List V} {ps : List PyData}, DpAll K H xs ps → xs.length = ps.length
  | _, _, .nil => rfl
  | _, _, .cons _ t => by rw [List.length_cons, List.length_cons, dpAll_len t]
theorem each1 : ∀ {xs : List V} {us : List Value} {ps : List PyData}, Vals xs us → xs.length = ps.length → EachIs (fun u (b : V × PyData) => RelV b.1 u) us (xs.zip ps)
  | _, _, [], .nil, _ => .nil
  | _, _, p :: ps, .cons r t, h => .cons r (each1 t (by simpa using h))
  | _, _, [], .cons r t, h => by simp at h
theorem each2 {h : Heap} : ∀ {xs : List V} {us : List Value} {ps : List PyData} {as : List Addr}, ReadsAll h us ps as → xs.length = ps.length → EachIs (fun v (b : V × PyData) => ∃ as, Reads h v b.2 as) us (xs.zip ps)
  | [], us, [], as, r, _ => by cases r; exact .nil
  | x :: xs, us, p :: ps, as, r, hl => by
    cases r with
    | cons h1 h2 => exact .cons ⟨_, h1⟩ (each2 h2 (by simpa using hl))
  | [], us, p :: ps, as, r, hl => by simp at hl
  | x :: xs, us, [], as, r, hl => by simp at hl
theorem each3 : ∀ {us : List Value} {bs : List (V × PyData)}, EachIs (fun u (b : V × PyData) => RelV b.1 u) us bs → Vals (bs.map (·.1)) us
  | _, _, .nil => .nil
  | _, _, .cons r t => .cons r (each3 t)
theorem zip_snd {α β : Type} : ∀ {xs : List α} {ps : List β}, xs.length = ps.length → (xs.zip ps).map (·.2) = ps
  | [], [], _ => rfl
  | x :: xs, p :: ps, h => by rw [List.zip_cons_cons, List.map_cons, zip_snd (by simpa using h)]
  | [], p :: ps, h => by simp at h
  | x :: xs, [], h => by simp at h
theorem cr_sortedD {X : Cx} {F : Fm} {k : Nat} (fx : FX X F k) : CallR X (.builtin "sorted") (rSortedD X.K) := by
  intro pins s σ H vs us Q I r h
  obtain ⟨p, xs, ps, rfl, hs, hd, ha, hk, hdp, q⟩ := h
  obtain ⟨its, rv, hl, hz⟩ := I.list hs
  obtain ⟨u, rfl, ru⟩ := vals1 r
  obtain rfl : u = Value.ref p := ru
  have hlen := dpAll_len hd
  obtain ⟨as, ra⟩ := Dp.readsAll I ps xs its hd rv
  have hb : (xs.zip ps).map (·.2) = ps := zip_snd hlen
  have zl : (xs.zip ps).length = xs.length := by rw [List.length_zip, hlen, Nat.min_self]
  have hu := fx.room.units
  refine PySem.W.sorted_data (enc := fun b : V × PyData => b.2) (bs := xs.zip ps) (R := fun u b => RelV b.1 u) (vs := its) hl.isList (each1 rv hlen) (each2 ra hlen) (by rw [hb]; exact ha) (by rw [hb]; exact hk) (by rw [zl]; exact hz) (fun b hm => ?_) fun out ho eo => ?_
  · have h2 : b.2 ∈ ps := (List.of_mem_zip hm).2
    have := hdp _ h2
    show X.A.units + 2 + b.2.depth < cLine
    omega
  · obtain ⟨n, hn⟩ := PyProof.Rows.sortedAll_at s.heap its out.toArray
    have rr := each3 eo
    have zz : (((xs.zip ps).mergeSort (dataLe false (·.2))).map (·.1)).length ≤ sizeLine := by
      rw [List.length_map, List.length_mergeSort, zl]
      exact hz
    refine ⟨.ref (s.heap.objs.size + 1), upd H (s.heap.objs.size + 1) (.lst (((xs.zip ps).mergeSort (dataLe false (·.2))).map (·.1))), I.laid (t' := s.toks) (fun b o e => PyProof.Rows.sortedAll_old e) (Nat.le_succ _) ⟨zz, out, n, rr, hn⟩, rfl, q _ (I.hok.fresh (Nat.le_succ _))⟩
def sortDs {α : Type} (ds : List α) (ps : List PyData) : List α := ((ds.zip ps).mergeSort (dataLe false (·.2))).map (·.1)
def alikeB (ps : List PyData) : Bool := ps.all fun d => ps.all fun e => alike d e
def isTupC : PyData → Bool
  | .tuple (_ :: _) => true
  | _ => false
def isTup : PyData → Bool
  | .tuple _ => true
  | _ => false
def sortableB (ps : List PyData) : Bool := (ps.all isTupC) || ps.all fun d => !isNoneP d && !isTup d
theorem alikeB_ok {ps : List PyData} (h : alikeB ps = true) : AllAlike ps := fun d hd e he => List.all_eq_true.mp (List.all_eq_true.mp h d hd) e he
theorem sortableB_ok {ps : List PyData} (h : sortableB ps = true) : Sortable ps := by
  rcases Bool.or_eq_true_iff.mp h with h | h
  · refine .inl fun d hd => ?_
    have z := List.all_eq_true.mp h d hd
    cases d with
    | tuple l =>
      cases l with
      | nil => cases z
      | cons x r => exact ⟨x, r, rfl⟩
    | _ => cases z
  · refine .inr fun d hd => ?_
    have z := List.all_eq_true.mp h d hd
    refine ⟨fun e => ?_, fun xs e => ?_⟩
    · rw [e] at z; cases z
    · rw [e] at z; cases z
def toPs (S : Store) (ds : List D) : Option (List PyData) := pdRs (pdK S 4) ds
def gSorted : Store → List D → Option Gv := fun S xs => match xs with
  | [x] => (match lstOf S x with
    | some ds => (match toPs S ds with
      | some ps => if alikeB ps = true ∧ sortableB ps = true ∧ (ps.all fun q => decide (q.depth ≤ 60)) = true ∧ ds.length ≤ 16777216 then some (.l (sortDs ds ps)) else none
      | none => none)
    | none => none)
  | _ => none
/-- sorting is the same for what is alike place by place -/
theorem sort_rel {K : PySem.W.Frag} {mg : Str → Option Value} {ρ : Rho} {H : Hp} {ds : List D} {xs : List V} {ps : List PyData} (r : RDs K mg ρ H ds xs) (hl : ds.length = ps.length) : RDs K mg ρ H (sortDs ds ps) (sortDs xs ps) := by
  have key : ∀ (l : List (V × D × PyData)), (∀ t ∈ l, RD K mg ρ H t.2.1 t.1) → RDs K mg ρ H (l.map (·.2.1)) (l.map (·.1)) := by
    intro l
    induction l with
    | nil => intro _; exact RDs.nil_iff.mpr rfl
    | cons t l ih => intro h; exact RDs.cons_iff.mpr ⟨_, _, rfl, h t List.mem_cons_self, ih fun u hu => h u (List.mem_cons_of_mem _ hu)⟩
  have made : ∀ {ds : List D} {xs : List V} {ps : List PyData}, RDs K mg ρ H ds xs → ds.length = ps.length → ∃ l : List (V × D × PyData), l.map (fun t => (t.2.1, t.2.2)) = ds.zip ps ∧ l.map (fun t => (t.1, t.2.2)) = xs.zip ps ∧ ∀ t ∈ l, RD K mg ρ H t.2.1 t.1 := by
    intro ds
    induction ds with
    | nil => intro xs ps r hl; rw [RDs.nil_iff.mp r]; exact ⟨[], rfl, rfl, fun t h => by cases h⟩
    | cons d ds ih =>
      intro xs ps r hl
      obtain ⟨v, rr, rfl, h1, h2⟩ := RDs.cons_iff.mp r
      cases ps with
      | nil => simp at hl
      | cons p ps =>
        obtain ⟨l, e1, e2, e3⟩ := ih h2 (by simpa using hl)
        refine ⟨(v, d, p) :: l, by rw [List.map_cons, e1]; rfl, by rw [List.map_cons, e2]; rfl, fun t ht => ?_⟩
        rcases List.mem_cons.mp ht with z | z
        · rw [z]; exact h1
        · exact e3 t z
  obtain ⟨l, e1, e2, e3⟩ := made r hl
  have m1 : (l.mergeSort (dataLe false (·.2.2))).map (fun t => (t.2.1, t.2.2)) = (ds.zip ps).mergeSort (dataLe false (·.2)) := by
    rw [← e1]
    exact List.map_mergeSort fun _ _ _ _ => rfl
  have m2 : (l.mergeSort (dataLe false (·.2.2))).map (fun t => (t.1, t.2.2)) = (xs.zip ps).mergeSort (dataLe false (·.2)) := by
    rw [← e2]
    exact List.map_mergeSort fun _ _ _ _ => rfl
  have z := key (l.mergeSort (dataLe false (·.2.2))) fun t ht => e3 t (List.mem_mergeSort.mp ht)
  unfold sortDs
  rw [← m1, ← m2, List.map_map, List.map_map]
  exact z
theorem om_sorted {X : Cx} : ClM X (rSortedD X.K) gSorted := by
  intro T ρ S H xs vs Q R hx o
  unfold gSorted at o
  split at o
  · rename_i x
    obtain ⟨v, rfl, h⟩ := one_rds hx
    split at o
    · rename_i ds el
      obtain ⟨a, ys, rfl, q, r⟩ := lstOf_ok R h el
      split at o
      · rename_i ps ep
        split at o
        · rename_i hc
          have hd := pdRs_ok (fun n p a => pdK_ok R 4 n p a) ds ys ps r ep
          have hl : ds.length = ps.length := by rw [← r.length]; exact dpAll_len hd
          refine ⟨a, ys, ps, rfl, q, hd, alikeB_ok hc.1, sortableB_ok hc.2.1, fun z hz => of_decide_eq_true (List.all_eq_true.mp hc.2.2.1 z hz), fun l hn => o.2 l _ hn (sort_rel r hl)⟩
        · exact o.elim
      · exact o.elim
    · exact o.elim
  · exact o.elim
end M3

set_option Elab.async false
set_option linter.all false
set_option maxRecDepth 100000
set_option maxHeartbeats 2000000
/-! M3S: sets of keys of any kind: made of a list or a tuple, counted, sorted. -/
namespace M3
open PySem PySem.Spec PyProof.Rows L2
section
variable {P : Program} {w : World} {κ : Type} [DecidableEq κ] (knd : KeyKind P w κ)
open Classical in
noncomputable def kyG (v : Value) : Option κ := if h : ∃ k, knd.is k v = true then some h.choose else none
theorem kyG_of {k : κ} {v : Value} (h : knd.is k v = true) : kyG knd v = some k := by
  unfold kyG
  have e : ∃ k, knd.is k v = true := ⟨k, h⟩
  rw [dif_pos e]
  exact congrArg some (knd.inj v _ _ e.choose_spec h)
theorem kyG_is {k : κ} {v : Value} (h : kyG knd v = some k) : knd.is k v = true := by
  unfold kyG at h
  split at h
  · rename_i e
    rw [← Option.some.inj h]
    exact e.choose_spec
  · cases h
noncomputable abbrev eyG (e : Int × Value) : Option κ := kyG knd e.2
/-- the set at a: S its members, n their number; its table rises and can be walked -/
def SetG (h : Heap) (a : Addr) (S : κ → Bool) (n : Nat) : Prop :=
  ∃ o es ep t, h.get? a = some o ∧ o.ExactSet ∧ o.data = .set es ep t ∧ ElemsOf knd es.toList ∧ (es.toList.map (eyG knd)).Nodup ∧ (∀ k, S k = true ↔ some k ∈ es.toList.map (eyG knd)) ∧
    es.size < scanBound ∧ t.fits es.size = true ∧ es.size = n ∧ Ris t.place.toList ∧ (w.params.followText "set-order" = true ∨ t.led = true)
variable {knd}
theorem SetG.at {h h' : Heap} {a : Addr} {S : κ → Bool} {n : Nat} (R : SetG knd h a S n) (k : ∀ o, h.get? a = some o → h'.get? a = some o) : SetG knd h' a S n := by
  obtain ⟨o, es, ep, t, ho, r⟩ := R
  exact ⟨o, es, ep, t, k o ho, r⟩
theorem SetG.congr {h : Heap} {a : Addr} {S S' : κ → Bool} {n : Nat} (R : SetG knd h a S n) (e : ∀ k, S' k = S k) : SetG knd h a S' n := by
  have q : S' = S := funext e
  rw [q]; exact R
variable (knd)
theorem memG {l : List (Int × Value)} (k : κ) : some k ∈ l.map (eyG knd) ↔ ∃ e ∈ l, knd.is k e.2 = true := by
  rw [List.mem_map]
  exact ⟨fun ⟨e, he, q⟩ => ⟨e, he, kyG_is knd q⟩, fun ⟨e, he, q⟩ => ⟨e, he, kyG_of knd q⟩⟩
theorem newG {h : Heap} {a : Addr} {ns : List κ} (ho : h.get? a = some { cls := .type "set", dict := none, data := .set #[] 0 (.fresh 0 0 (!w.params.followText "set-order")) }) : SetG knd h a (fun j => decide (j ∈ ns.take 0)) 0 :=
  ⟨_, #[], 0, _, ho, ⟨rfl, rfl, rfl⟩, rfl, (fun e he => by simp at he), (by simp), (fun k => by simp), (by decide), (by rfl), rfl, List.Pairwise.nil, by
    show _ ∨ (!w.params.followText "set-order") = true
    cases w.params.followText "set-order"
    · exact .inr rfl
    · exact .inl rfl⟩
end
section
variable {P : Program} {w : World} {κ : Type} [DecidableEq κ] {knd : KeyKind P w κ} {A : Around} {E : Value → Shared → Prop} {s : Shared} {a : Addr} {S : κ → Bool} {n : Nat}
theorem setG_tail {g : Bool → Sem Unit} (hg : ∀ (b : Bool) (s₁ : Shared) (Q' : Unit → Shared → Prop), Q' () s₁ → wpAny (model P w) A (g b) Q' E s₁)
    {o : Obj} {es : Array (Int × Value)} {ep : Nat} {t : SetTable} (ho : s.heap.get? a = some o) (hex : o.ExactSet) (hd : o.data = .set es ep t)
    {es1 : Array (Int × Value)} {t2 : SetTable} {S' : κ → Bool} (g1 : ElemsOf knd es1.toList) (nd1 : (es1.toList.map (eyG knd)).Nodup) (m1 : ∀ k, S' k = true ↔ some k ∈ es1.toList.map (eyG knd))
    (hb1 : es1.size < scanBound) (hf2 : t2.fits es1.size = true) (hr : Ris t2.place.toList) (hl : w.params.followText "set-order" = true ∨ t2.led = true) {wasDummy : Bool} {R : Option Bool → Shared → Prop}
    (hR : ∀ h', Heap.SameBut a s.heap h' → SetG knd h' a S' es1.size → R (some true) { s with heap := h' }) :
    wpAny (model P w) A (do
        storeSet a es1 t2
        if (!wasDummy && t2.tooFull) = true then do
            g (relayAll t2 es1 (SetTable.grown es1.size)).2.2
            storeSet a (relayAll t2 es1 (SetTable.grown es1.size)).1 (relayAll t2 es1 (SetTable.grown es1.size)).2.1
            pure (some true)
          else pure (some true)) R E s := by
  refine wpAny_bind (wpAny_storeSet_of ho hd ?_ (fits_of_scanBound hb1))
  have ho1 := store_at (es' := es1) (t' := t2) ho hd
  have sb1 := Heap.SameBut.update s.heap a (Obj.putSet es1 t2)
  split
  · have pm := relayAll_perm t2 es1 (SetTable.grown es1.size)
    have hf3 := relayAll_fits t2 es1 (SetTable.grown es1.size)
    have hr3 := relayAll_ris t2 es1 (SetTable.grown es1.size)
    have hl3 := relayAll_led t2 es1 (SetTable.grown es1.size)
    generalize relayAll t2 es1 (SetTable.grown es1.size) = Z at pm hf3 hr3 hl3 ⊢
    obtain ⟨es2, t3, gave⟩ := Z
    dsimp only at pm hf3 hr3 hl3 ⊢
    have hsz : es2.size = es1.size := by rw [← Array.length_toList, pm.length_eq, Array.length_toList]
    have hb2 : es2.size < scanBound := by rw [hsz]; exact hb1
    refine wpAny_bind (hg _ _ _ ?_)
    refine wpAny_bind (wpAny_storeSet_of ho1 rfl ?_ (fits_of_scanBound hb2))
    have ho2 := store_at (es' := es2) (t' := t3) ho1 rfl
    refine wpAny_pure (hR _ (sb1.trans (Heap.SameBut.update _ a _)) ?_)
    exact ⟨_, es2, _, t3, ho2, hex, rfl, fun e he => g1 e (pm.mem_iff.mp he), (pm.map (eyG knd)).nodup_iff.mpr nd1, fun k => (m1 k).trans (pm.map (eyG knd)).mem_iff.symm, hb2, hf3, hsz, hr3,
      hl.imp id fun z => by rw [hl3]; exact z⟩
  · exact wpAny_pure (hR _ sb1 ⟨_, es1, _, t2, ho1, hex, rfl, g1, nd1, m1, hb1, hf2, rfl, hr, hl⟩)

variable (knd)
theorem setG_hashed {k : κ} {v : Value} (hkey : knd.is k v = true) (hsc : v.scannable = true) {Q : Bool → Shared → Prop} (R : SetG knd s.heap a S n) (room : n + 1 < scanBound)
    (hQ : ∀ h', Heap.SameBut a s.heap h' → SetG knd h' a (fun j => S j || decide (j = k)) (if S k = true then n else n + 1) → Q (!S k) { s with heap := h' }) :
    wpAny (model P w) A (setAddHashed a v (knd.hash k)) Q E s := by
  obtain ⟨o, es, ep, t, ho, hex, hd, g, nd, hm, hb, hf, hn, hr, hl⟩ := R
  have hel : ElemsOf knd es.toList := g
  unfold setAddHashed setAddHashedIn
  refine wpAny_holding (wpAny_bind (wpAny_setState_of ho hd hf ?_))
  dsimp only
  rw [byScan_of hsc hb hel]
  simp only [↓reduceIte]
  unfold setAddByScan
  refine wpAny_bind ?_
  refine wpAny_bind (wpAny_rule ?_)
  refine wpAny_bind (wpAny_setScan_of hkey ho hd hf hel ?_)
  cases hfi : List.findIdx? (fun e => knd.is k e.2) es.toList with
  | some j =>
    dsimp only
    obtain ⟨hj, pj, _⟩ := List.findIdx?_eq_some_iff_getElem.mp hfi
    have hSk : S k = true := (hm k).2 ((memG knd k).2 ⟨es.toList[j], List.getElem_mem hj, pj⟩)
    refine wpAny_pure (wpAny_pure ?_)
    have q := hQ s.heap (Heap.SameBut.refl a s.heap) ⟨o, es, ep, t, ho, hex, hd, g, nd, fun i => by
      rw [Bool.or_eq_true, decide_eq_true_eq, ← hm i]
      exact ⟨fun z => z.elim id (fun e => e ▸ hSk), .inl⟩, hb, hf, by rw [if_pos hSk]; exact hn, hr, hl⟩
    rw [hSk] at q
    exact q
  | none =>
    dsimp only
    have hnk : some k ∉ es.toList.map (eyG knd) := fun z => by
      obtain ⟨e, he, q⟩ := (memG knd k).1 z
      have c := List.findIdx?_eq_none_iff.mp hfi e he
      rw [q] at c
      cases c
    have hSk : S k = false := by
      cases q : S k with
      | false => rfl
      | true => exact absurd ((hm k).1 q) hnk
    have hgw : ∀ (b : Bool) {s₁ : Shared} {Q' : Unit → Shared → Prop}, Q' () s₁ → wpAny (model P w) A (match b with | true => rule "set.scan.the-table-gave-way" | false => pure ()) Q' E s₁ :=
      fun b s₁ Q' q => by cases b <;> first | exact wpAny_pure q | exact wpAny_rule q
    have pm := layNew_perm t es (knd.hash k) v
    have hf1 := layNew_fits t es (knd.hash k) v
    have hr1 := layNew_ris t es (knd.hash k) v hr
    have hl1 := layNew_led t es (knd.hash k) v
    generalize layNew t es (knd.hash k) v = Z at pm hf1 hr1 hl1 ⊢
    obtain ⟨es1, t1, wasDummy, gave⟩ := Z
    dsimp only at pm hf1 hr1 hl1 ⊢
    rw [Array.toList_push] at pm
    have pc : es1.toList.Perm ((knd.hash k, v) :: es.toList) := pm.trans (List.perm_append_singleton _ _)
    have pk : (es1.toList.map (eyG knd)).Perm (some k :: es.toList.map (eyG knd)) := by
      have z := pc.map (eyG knd)
      rw [List.map_cons, show eyG knd (knd.hash k, v) = some k from kyG_of knd hkey] at z
      exact z
    have g1 : ElemsOf knd es1.toList := fun e he => by
      rcases List.mem_cons.mp (pc.mem_iff.mp he) with z | z
      · rw [z]; exact ⟨⟨k, hkey, rfl⟩, hsc⟩
      · exact g e z
    have nd1 : (es1.toList.map (eyG knd)).Nodup := pk.nodup_iff.mpr (List.nodup_cons.mpr ⟨hnk, nd⟩)
    have m1 : ∀ i, (S i || decide (i = k)) = true ↔ some i ∈ es1.toList.map (eyG knd) := fun i => by
      rw [Bool.or_eq_true, decide_eq_true_eq, hm i, pk.mem_iff, List.mem_cons, Option.some.injEq]
      exact Or.comm
    have hsz : es1.size = n + 1 := by rw [← Array.length_toList, pc.length_eq, List.length_cons, Array.length_toList, hn]
    have hb1 : es1.size < scanBound := by rw [hsz]; exact room
    have hled : w.params.followText "set-order" = true ∨ t1.led = true := hl.imp id fun z => by rw [hl1]; exact z
    have fin : ∀ h', Heap.SameBut a s.heap h' → SetG knd h' a (fun j => S j || decide (j = k)) es1.size → Q true { s with heap := h' } := fun h' sb r => by
      have q := hQ h' sb
      rw [hSk] at q
      rw [hsz] at r
      exact q r
    refine wpAny_bind (hgw _ ?_)
    split
    · refine wpAny_bind ?_
      rw [hashByValue_scannable 8 hsc]
      refine wpAny_pure ?_
      refine setG_tail (knd := knd) ?_ ho hex hd g1 nd1 m1 hb1 ?_ ?_ ?_ ?_
      · intro b s₁ Q' q; cases b <;> first | exact wpAny_pure q | exact wpAny_rule q
      · first | (split <;> first | exact hf1 | exact SetTable.fits_plain_off hf1) | exact hf1
      · first | (split <;> exact hr1) | exact hr1
      · first | (split <;> exact hled) | exact hled
      · intro h' sb r; dsimp only; exact wpAny_pure (fin h' sb r)
    · refine wpAny_bind (wpAny_pure ?_)
      simp only [↓reduceIte]
      refine setG_tail (knd := knd) ?_ ho hex hd g1 nd1 m1 hb1 hf1 hr1 hled ?_
      · intro b s₁ Q' q; cases b <;> first | exact wpAny_pure q | exact wpAny_rule q
      · intro h' sb r; dsimp only; exact wpAny_pure (fin h' sb r)

theorem updG {I : Addr} {fp wr : List Addr} {G : Array GenState → Array GenState → Prop} {n : Nat} {Pv : Nat → Value → Prop} {St : Nat → Shared → Prop} {R : Result → Shared → Prop}
    (W : WalksS P w A.in1 I fp wr G n Pv St) (S : Addr) (hSf : S ∉ fp) (ns : List κ) (hn : n = ns.length) (hb : ns.length + 1 < scanBound) (hval : ∀ i v, Pv i v → ∃ k, ns[i]? = some k ∧ knd.is k v = true ∧ v.scannable = true) :
    ∀ (k i : Nat) (s : Shared), n - i = k → i ≤ n → St i s → (∃ c, c ≤ i ∧ SetG knd s.heap S (fun j => decide (j ∈ ns.take i)) c) →
      (∀ s' c, Moved (S :: wr) G s s' → c ≤ n → SetG knd s'.heap S (fun j => decide (j ∈ ns)) c → R (.ok (.ret .none)) s') →
      codeAny (model P w) A (.builtin "set.update.loop" ⟨[.ref S, .ref I], []⟩) R s := by
  have hSw : S ∉ wr := fun h => hSf (W.sub _ h)
  have hsub : ∀ b ∈ wr, b ∈ S :: wr := fun b hb => List.mem_cons_of_mem _ hb
  intro k
  induction k with
  | zero =>
    intro i s hk' hi hst ⟨c, hc, hS⟩ hR
    have hin : i = n := by omega
    subst hin
    refine codeAny_builtin PyProof.Rows.F.entry_set_update_loop ?_
    rw [Around.under_plainId PyProof.Rows.F.plain_set_update_loop _]
    show wpAny _ A.in1 (pyNext (.ref I) >>= _) _ _ s
    refine wpAny_bind (W.done s _ _ hst fun s' hm => ?_)
    show wpAny _ A.in1 (ret Value.none) _ _ s'
    have e : ns.take i = ns := List.take_of_length_le (by omega)
    rw [e] at hS
    exact wpAny_pure (hR s' c (hm.mono hsub) hc (hS.at fun o e => hm.heap S o hSw e))
  | succ k ih =>
    intro i s hk' hi hst ⟨c, hc, hS⟩ hR
    have hlt : i < n := by omega
    refine codeAny_builtin PyProof.Rows.F.entry_set_update_loop ?_
    rw [Around.under_plainId PyProof.Rows.F.plain_set_update_loop _]
    show wpAny _ A.in1 (pyNext (.ref I) >>= _) _ _ s
    refine wpAny_bind (W.item i s _ _ hlt hst fun v s' hP hst' hm => ?_)
    obtain ⟨z, hz, hk1, hk2⟩ := hval i v hP
    have hS' : SetG knd s'.heap S (fun j => decide (j ∈ ns.take i)) c := hS.at fun o e => hm.heap S o hSw e
    show wpAny _ A.in1 (holding [v] (setAdd S v) >>= _) _ _ s'
    refine wpAny_bind (wpAny_holding ?_)
    unfold setAdd
    refine wpAny_holding ?_
    refine wpAny_bind (knd.pyHash (k := z) hk1 ?_)
    refine setG_hashed knd hk1 hk2 (s := { s' with toks := s'.toks + 1 }) hS' (by omega) fun h' hsb hS2 => ?_
    have hS3 : SetG knd h' S (fun j => decide (j ∈ ns.take (i + 1))) (if decide (z ∈ ns.take i) = true then c else c + 1) := hS2.congr fun j => by
      rw [List.take_add_one, hz]
      simp [List.mem_append]
    have hc3 : (if decide (z ∈ ns.take i) = true then c else c + 1) ≤ i + 1 := by
      split <;> omega
    refine wpAny_pure ⟨plainId_quiet PyProof.Rows.F.plain_set_update_loop _, ih (i + 1) _ (by omega) hlt (W.frame _ s' _ _ hst' (Nat.le_succ _) fun b hb o e => ?_) ⟨_, hc3, hS3⟩ fun s'' c2 hm'' hc'' hS'' => ?_⟩
    · rw [hsb.2 b (fun h : b = S => hSf (by rw [← h]; exact hb))]; exact e
    · refine hR s'' c2 (Moved.trans W.gtrans ((hm.mono hsub).then_heap (Nat.le_succ _) fun b o hb e => ?_) hm'') hc'' hS''
      rw [hsb.2 b (fun h : b = S => hb (by rw [h]; exact List.mem_cons_self))]; exact e

set_option maxRecDepth 100000 in
set_option maxHeartbeats 3200000 in
theorem callG_tup {l : Addr} {items : Array Value} (ns : List κ) {Q : Value → Shared → Prop} (hh : A.handled = none) (hl : s.heap.IsTuple l items) (hisz : items.size = ns.length) (hval : ∀ (i : Nat) (v : Value), items[i]? = some v → ∃ k, ns[i]? = some k ∧ knd.is k v = true ∧ v.scannable = true) (hb : ns.length + 1 < scanBound)
    (h : ∀ (h' : Heap) (tk c : Nat), SetG knd h' s.heap.objs.size (fun j => decide (j ∈ ns)) c → c ≤ ns.length → (∀ b o, s.heap.get? b = some o → h'.get? b = some o) → Q (.ref s.heap.objs.size) { s with heap := h', toks := tk }) :
    wpAny (model P w) A (call (.type "set") [.ref l]) Q E s := by
  obtain ⟨c, tl, hmro⟩ := PySem.F.called_set.mro
  have hmade := PySem.F.called_set.made
  have hsub := PySem.F.called_set.sub
  refine wpAny_call (codeAny_of_tree ?_)
  show wpAny _ _ (callAny (.type "set") _) _ _ _
  refine wpAny_pure ⟨Code.quiet_builtin _ (by decide +kernel), codeAny_builtin PySem.F.entry_type_call ?_⟩
  rw [Around.under_plain (weight_type_call_type "set" [.ref l] []) rfl]
  have h1 := PySem.F.called_set.notType
  have h2 := PySem.F.called_set.canCreate
  have hct := PySem.F.typeCall_set_1 (.ref l)
  repeat (any_goals (first | assumption | wp_step))

  refine codeAny_mono (L2.code_set_led1 (.ref l) (E := E) (Q₁ := fun obj s₁ => obj = .ref s.heap.objs.size ∧ s₁ = { s with heap := s.heap.push { cls := .type "set", dict := none, data := .set #[] 0 (.fresh 0 0 (!w.params.followText "set-order")) } }) ⟨rfl, rfl⟩) fun r s₁ hr => ?_
  cases r with
  | error e => exact hr
  | ok fl =>
    cases fl with
    | ret obj =>
      obtain ⟨rfl, rfl⟩ := hr
      have hS : (s.heap.push { cls := .type "set", dict := none, data := .set #[] 0 (.fresh 0 0 (!w.params.followText "set-order")) }).get? s.heap.objs.size = some { cls := .type "set", dict := none, data := .set #[] 0 (.fresh 0 0 (!w.params.followText "set-order")) } := Heap.get?_push_size _ rfl
      have hT : Shared.TypeIs { s with heap := s.heap.push { cls := .type "set", dict := none, data := .set #[] 0 (.fresh 0 0 (!w.params.followText "set-order")) } } (.ref s.heap.objs.size) "set" := ⟨_, hS, rfl⟩
      have hli := PySem.F.called_set.init.lookup
      have hbi := PySem.F.called_set.init.bind (.ref s.heap.objs.size)
      repeat (any_goals (first | assumption | wp_step))

      refine codeAny_mono (codeAny_call_builtin (R := wants (fun r s₂ => r = .none ∧ ∃ h' tk c, s₂ = { s with heap := h', toks := tk } ∧ SetG knd h' s.heap.objs.size (fun j => decide (j ∈ ns)) c ∧ c ≤ ns.length ∧
          (∀ b o, s.heap.get? b = some o → h'.get? b = some o)) E) PySem.F.called_set.init.plain PySem.F.entry_set_init (check_set_init_1 hT ?_)) fun r₂ s₂ hr₂ => ?_
      · obtain ⟨ol, hol, hcl, nl, hdl⟩ := hl
        obtain ⟨ocls, odict, odata, oslots⟩ := ol
        simp only at hcl hdl
        subst hcl; subst hdl
        have hol' : (s.heap.push { cls := .type "set", dict := none, data := .set #[] 0 (.fresh 0 0 (!w.params.followText "set-order")) }).get? l = some { cls := .type "tuple", dict := odict, data := .seq items nl, slots := oslots } := Heap.get?_push_of_some _ hol
        have hsls := PySem.F.sub_tuple_set
        have hslf := PySem.F.sub_tuple_frozenset
        have hne : (Value.type "tuple" == Value.type "dict") = false := by decide
        have hl1 : (s.heap.push { cls := .type "set", dict := none, data := .set #[] 0 (.fresh 0 0 (!w.params.followText "set-order")) }).IsTuple l items := ⟨_, hol', rfl, nl, rfl⟩
        unfold Builtin.«set.__init__» noKeywords Builtin.Frozenset.updateFrom
        generalize hPI : pyIter = PI
        wp_walk
        subst hPI

        refine wpAny_pyIter_tuple hl1 ?_
        refine wpAny_bind (wpAny_runValue ?_)
        have hlS : l < s.heap.objs.size := Heap.lt_size hol
        have hh3 : A.in1.in1.in1.handled = none := by simp [hh]
        have hz1 : (s.heap.push { cls := .type "set", dict := none, data := .set #[] 0 (.fresh 0 0 (!w.params.followText "set-order")) }).objs.size = s.heap.objs.size + 1 := Heap.size_push ..
        have hneI : l ≠ (s.heap.push { cls := .type "set", dict := none, data := .set #[] 0 (.fresh 0 0 (!w.params.followText "set-order")) }).objs.size := by
          rw [Heap.size_push]; exact Nat.ne_of_lt (Nat.lt_succ_of_lt hlS)
        have hSf : s.heap.objs.size ∉ [(s.heap.push { cls := .type "set", dict := none, data := .set #[] 0 (.fresh 0 0 (!w.params.followText "set-order")) }).objs.size, l] := by
          rw [Heap.size_push]; simp only [List.mem_cons, List.mem_singleton, List.not_mem_nil, or_false, not_or]
          exact ⟨Nat.ne_of_lt (Nat.lt_succ_self _), Nat.ne_of_gt hlS⟩
        refine updG knd ((Walks.tuple hh3 _ l hneI items).toS) s.heap.objs.size
          hSf ns hisz hb hval (items.size - 0) 0 _ (by omega) (Nat.zero_le _)
          ⟨⟨_, Heap.get?_push_size _ rfl, rfl, rfl⟩, (hl1.push _)⟩ ?hS0 ?hR
        case hS0 =>
          have hget : ((s.heap.push { cls := .type "set", dict := none, data := .set #[] 0 (.fresh 0 0 (!w.params.followText "set-order")) }).push { cls := .type "tuple_iterator", data := .fields #[.ref l, .int 0 0] }).get? s.heap.objs.size
              = some { cls := .type "set", dict := none, data := .set #[] 0 (.fresh 0 0 (!w.params.followText "set-order")) } := Heap.get?_push_of_some _ hS
          exact ⟨0, Nat.le_refl 0, newG knd hget⟩
        case hR =>
          intro s' c' hm hc' hS'
          obtain ⟨h', g2, d', tk', os'⟩ := s'
          have eg : g2 = s.gens := hm.gens
          have ed : d' = s.drawn := hm.drawn
          have eo : os' = s.os := hm.os
          subst eg; subst ed; subst eo
          show wpAny _ _ _ _ _ _
          refine wpAny_pure ?_
          show wpAny _ _ (ret Value.none) _ _ _
          rw [hisz] at hc'
          refine wpAny_pure ⟨rfl, h', tk', c', rfl, hS', hc', fun b o e => ?_⟩
          have hb0 : b < s.heap.objs.size := Heap.lt_size e
          have hb1 : b ≠ s.heap.objs.size := Nat.ne_of_lt hb0
          have hb2 : b ≠ (s.heap.push { cls := .type "set", dict := none, data := .set #[] 0 (.fresh 0 0 (!w.params.followText "set-order")) }).objs.size := by
            rw [Heap.size_push]; exact Nat.ne_of_lt (Nat.lt_succ_of_lt hb0)
          exact hm.heap b o (by simp only [List.mem_cons, List.mem_singleton, List.not_mem_nil, or_false, not_or]; exact ⟨hb1, hb2⟩) (Heap.get?_push_of_some _ (Heap.get?_push_of_some _ e))

      · cases r₂ with
        | error e => exact hr₂
        | ok fl₂ =>
          cases fl₂ with
          | ret r =>
            obtain ⟨rfl, h', tk, c', rfl, hS', hc', hk'⟩ := hr₂
            repeat (any_goals (first | assumption | wp_step))
            exact h _ _ _ hS' hc' hk'
          | _ => exact hr₂.elim
    | _ => exact hr.elim

set_option maxRecDepth 100000 in
set_option maxHeartbeats 3200000 in
theorem callG_lst {l : Addr} {items : Array Value} (ns : List κ) {Q : Value → Shared → Prop} (hh : A.handled = none) (hl : s.heap.IsList l items) (hisz : items.size = ns.length) (hval : ∀ (i : Nat) (v : Value), items[i]? = some v → ∃ k, ns[i]? = some k ∧ knd.is k v = true ∧ v.scannable = true) (hb : ns.length + 1 < scanBound)
    (h : ∀ (h' : Heap) (tk c : Nat), SetG knd h' s.heap.objs.size (fun j => decide (j ∈ ns)) c → c ≤ ns.length → (∀ b o, s.heap.get? b = some o → h'.get? b = some o) → Q (.ref s.heap.objs.size) { s with heap := h', toks := tk }) :
    wpAny (model P w) A (call (.type "set") [.ref l]) Q E s := by
  obtain ⟨c, tl, hmro⟩ := PySem.F.called_set.mro
  have hmade := PySem.F.called_set.made
  have hsub := PySem.F.called_set.sub
  refine wpAny_call (codeAny_of_tree ?_)
  show wpAny _ _ (callAny (.type "set") _) _ _ _
  refine wpAny_pure ⟨Code.quiet_builtin _ (by decide +kernel), codeAny_builtin PySem.F.entry_type_call ?_⟩
  rw [Around.under_plain (weight_type_call_type "set" [.ref l] []) rfl]
  have h1 := PySem.F.called_set.notType
  have h2 := PySem.F.called_set.canCreate
  have hct := PySem.F.typeCall_set_1 (.ref l)
  repeat (any_goals (first | assumption | wp_step))

  refine codeAny_mono (L2.code_set_led1 (.ref l) (E := E) (Q₁ := fun obj s₁ => obj = .ref s.heap.objs.size ∧ s₁ = { s with heap := s.heap.push { cls := .type "set", dict := none, data := .set #[] 0 (.fresh 0 0 (!w.params.followText "set-order")) } }) ⟨rfl, rfl⟩) fun r s₁ hr => ?_
  cases r with
  | error e => exact hr
  | ok fl =>
    cases fl with
    | ret obj =>
      obtain ⟨rfl, rfl⟩ := hr
      have hS : (s.heap.push { cls := .type "set", dict := none, data := .set #[] 0 (.fresh 0 0 (!w.params.followText "set-order")) }).get? s.heap.objs.size = some { cls := .type "set", dict := none, data := .set #[] 0 (.fresh 0 0 (!w.params.followText "set-order")) } := Heap.get?_push_size _ rfl
      have hT : Shared.TypeIs { s with heap := s.heap.push { cls := .type "set", dict := none, data := .set #[] 0 (.fresh 0 0 (!w.params.followText "set-order")) } } (.ref s.heap.objs.size) "set" := ⟨_, hS, rfl⟩
      have hli := PySem.F.called_set.init.lookup
      have hbi := PySem.F.called_set.init.bind (.ref s.heap.objs.size)
      repeat (any_goals (first | assumption | wp_step))

      refine codeAny_mono (codeAny_call_builtin (R := wants (fun r s₂ => r = .none ∧ ∃ h' tk c, s₂ = { s with heap := h', toks := tk } ∧ SetG knd h' s.heap.objs.size (fun j => decide (j ∈ ns)) c ∧ c ≤ ns.length ∧
          (∀ b o, s.heap.get? b = some o → h'.get? b = some o)) E) PySem.F.called_set.init.plain PySem.F.entry_set_init (check_set_init_1 hT ?_)) fun r₂ s₂ hr₂ => ?_
      · obtain ⟨ol, hol, hcl, nl, hdl⟩ := hl
        obtain ⟨ocls, odict, odata, oslots⟩ := ol
        simp only at hcl hdl
        subst hcl; subst hdl
        have hol' : (s.heap.push { cls := .type "set", dict := none, data := .set #[] 0 (.fresh 0 0 (!w.params.followText "set-order")) }).get? l = some { cls := .type "list", dict := odict, data := .seq items nl, slots := oslots } := Heap.get?_push_of_some _ hol
        have hsls := PySem.F.sub_list_set
        have hslf := PySem.F.sub_list_frozenset
        have hne : (Value.type "list" == Value.type "dict") = false := by decide
        have hl1 : (s.heap.push { cls := .type "set", dict := none, data := .set #[] 0 (.fresh 0 0 (!w.params.followText "set-order")) }).IsList l items := ⟨_, hol', rfl, nl, rfl⟩
        unfold Builtin.«set.__init__» noKeywords Builtin.Frozenset.updateFrom
        generalize hPI : pyIter = PI
        wp_walk
        subst hPI

        refine wpAny_pyIter_list hl1 ?_
        refine wpAny_bind (wpAny_runValue ?_)
        have hlS : l < s.heap.objs.size := Heap.lt_size hol
        have hh3 : A.in1.in1.in1.handled = none := by simp [hh]
        have hz1 : (s.heap.push { cls := .type "set", dict := none, data := .set #[] 0 (.fresh 0 0 (!w.params.followText "set-order")) }).objs.size = s.heap.objs.size + 1 := Heap.size_push ..
        have hneI : l ≠ (s.heap.push { cls := .type "set", dict := none, data := .set #[] 0 (.fresh 0 0 (!w.params.followText "set-order")) }).objs.size := by
          rw [Heap.size_push]; exact Nat.ne_of_lt (Nat.lt_succ_of_lt hlS)
        have hSf : s.heap.objs.size ∉ [(s.heap.push { cls := .type "set", dict := none, data := .set #[] 0 (.fresh 0 0 (!w.params.followText "set-order")) }).objs.size, l] := by
          rw [Heap.size_push]; simp only [List.mem_cons, List.mem_singleton, List.not_mem_nil, or_false, not_or]
          exact ⟨Nat.ne_of_lt (Nat.lt_succ_self _), Nat.ne_of_gt hlS⟩
        refine updG knd ((Walks.list hh3 _ l hneI items).toS) s.heap.objs.size
          hSf ns hisz hb hval (items.size - 0) 0 _ (by omega) (Nat.zero_le _)
          ⟨⟨_, Heap.get?_push_size _ rfl, rfl, rfl⟩, (hl1.push _)⟩ ?hS0 ?hR
        case hS0 =>
          have hget : ((s.heap.push { cls := .type "set", dict := none, data := .set #[] 0 (.fresh 0 0 (!w.params.followText "set-order")) }).push { cls := .type "list_iterator", data := .fields #[.ref l, .int 0 0] }).get? s.heap.objs.size
              = some { cls := .type "set", dict := none, data := .set #[] 0 (.fresh 0 0 (!w.params.followText "set-order")) } := Heap.get?_push_of_some _ hS
          exact ⟨0, Nat.le_refl 0, newG knd hget⟩
        case hR =>
          intro s' c' hm hc' hS'
          obtain ⟨h', g2, d', tk', os'⟩ := s'
          have eg : g2 = s.gens := hm.gens
          have ed : d' = s.drawn := hm.drawn
          have eo : os' = s.os := hm.os
          subst eg; subst ed; subst eo
          show wpAny _ _ _ _ _ _
          refine wpAny_pure ?_
          show wpAny _ _ (ret Value.none) _ _ _
          rw [hisz] at hc'
          refine wpAny_pure ⟨rfl, h', tk', c', rfl, hS', hc', fun b o e => ?_⟩
          have hb0 : b < s.heap.objs.size := Heap.lt_size e
          have hb1 : b ≠ s.heap.objs.size := Nat.ne_of_lt hb0
          have hb2 : b ≠ (s.heap.push { cls := .type "set", dict := none, data := .set #[] 0 (.fresh 0 0 (!w.params.followText "set-order")) }).objs.size := by
            rw [Heap.size_push]; exact Nat.ne_of_lt (Nat.lt_succ_of_lt hb0)
          exact hm.heap b o (by simp only [List.mem_cons, List.mem_singleton, List.not_mem_nil, or_false, not_or]; exact ⟨hb1, hb2⟩) (Heap.get?_push_of_some _ (Heap.get?_push_of_some _ e))

      · cases r₂ with
        | error e => exact hr₂
        | ok fl₂ =>
          cases fl₂ with
          | ret r =>
            obtain ⟨rfl, h', tk, c', rfl, hS', hc', hk'⟩ := hr₂
            repeat (any_goals (first | assumption | wp_step))
            exact h _ _ _ hS' hc' hk'
          | _ => exact hr₂.elim
    | _ => exact hr.elim

end
end M3

set_option Elab.async false
set_option linter.all false
set_option maxRecDepth 100000
set_option maxHeartbeats 2000000
/-! M3T: len(set(..)), sorted(set(..)) of ints or texts. -/
namespace M3
open PySem PySem.Spec PyProof.Rows L2
open PySem.W (EachIs AllAlike Sortable dataLe alike)
/-- keys of one kind, in their order -/
structure KT (P : Program) (w : World) (κ : Type) [DecidableEq κ] where
  knd : PySem.KeyKind P w κ
  vOf : κ → V
  enc : κ → PyData
  le : κ → κ → Bool
  rel : ∀ k v, knd.is k v = true ↔ RelV (vOf k) v
  scan : ∀ k v, knd.is k v = true → v.scannable = true
  reads : ∀ k v (h : Heap), knd.is k v = true → Reads h v (enc k) []
  hle : dataLe false enc = le
  trans : ∀ a b c, le a b = true → le b c = true → le a c = true
  total : ∀ a b, (le a b || le b a) = true
  anti : ∀ a b, le a b = true → le b a = true → a = b
  alk : ∀ a b, alike (enc a) (enc b) = true
  oth : ∀ a, enc a ≠ .none ∧ ∀ xs, enc a ≠ .tuple xs
  dep : ∀ a, (enc a).depth = 0
def leI (a b : Int) : Bool := decide (a ≤ b)
def leS (a b : Str) : Bool := decide (a.cps.toList ≤ b.cps.toList)
def ktI (P : Program) (w : World) : KT P w Int where
  knd := PySem.intKind P w
  vOf := V.int
  enc := PyData.int
  le := leI
  rel := fun k v => ⟨fun h => by obtain ⟨t, rfl⟩ := Value.isInt_shape h; exact ⟨t, rfl⟩, fun ⟨t, e⟩ => by rw [e]; exact intKind_is P w k t⟩
  scan := fun k v h => by obtain ⟨t, rfl⟩ := Value.isInt_shape h; rfl
  reads := fun k v h q => by obtain ⟨t, rfl⟩ := Value.isInt_shape q; exact .int k t
  hle := PySem.W.dataLe_int fun k => k
  trans := fun a b c h g => by unfold leI at *; simp only [decide_eq_true_eq] at *; omega
  total := fun a b => by unfold leI; simp only [Bool.or_eq_true, decide_eq_true_eq]; omega
  anti := fun a b h g => by unfold leI at *; simp only [decide_eq_true_eq] at *; omega
  alk := fun a b => by simp [alike]
  oth := fun a => ⟨fun e => (by cases e), fun xs e => (by cases e)⟩
  dep := fun a => by simp [PyData.depth]
def ktS (P : Program) (w : World) : KT P w Str where
  knd := PySem.strKind P w
  vOf := V.str
  enc := PyData.str
  le := leS
  rel := fun k v => ⟨fun h => by obtain ⟨t, rfl⟩ := Value.isStrOf_shape h; exact ⟨t, rfl⟩, fun ⟨t, e⟩ => by rw [e]; exact strKind_is P w k t⟩
  scan := fun k v h => by obtain ⟨t, rfl⟩ := Value.isStrOf_shape h; rfl
  reads := fun k v h q => by obtain ⟨t, rfl⟩ := Value.isStrOf_shape q; exact .str k t
  hle := PySem.W.dataLe_str fun k => k
  trans := fun a b c h g => by unfold leS at *; simp only [decide_eq_true_eq] at *; exact List.le_trans h g
  total := fun a b => by unfold leS; simp only [Bool.or_eq_true, decide_eq_true_eq]; exact List.le_total _ _
  anti := fun a b h g => by unfold leS at *; simp only [decide_eq_true_eq] at *; exact PySem.W.str_of_cps (List.le_antisymm h g)
  alk := fun a b => by simp [alike]
  oth := fun a => ⟨fun e => (by cases e), fun xs e => (by cases e)⟩
  dep := fun a => by simp [PyData.depth]
/-! ### one list of all -/
section
variable {κ : Type} [DecidableEq κ]
def dedG : List κ → List κ
  | [] => []
  | k :: r => if k ∈ dedG r then dedG r else k :: dedG r
theorem dedG_mem : ∀ (l : List κ) (k : κ), k ∈ dedG l ↔ k ∈ l
  | [], k => Iff.rfl
  | x :: r, k => by
    unfold dedG
    by_cases h : x ∈ dedG r
    · rw [if_pos h, dedG_mem r, List.mem_cons]
      refine ⟨.inr, fun z => z.elim (fun e => ?_) id⟩
      rw [e]; exact (dedG_mem r x).mp h
    · rw [if_neg h, List.mem_cons, List.mem_cons, dedG_mem r]
theorem dedG_nodup : ∀ l : List κ, (dedG l).Nodup
  | [] => List.nodup_nil
  | x :: r => by
    unfold dedG
    by_cases h : x ∈ dedG r
    · rw [if_pos h]; exact dedG_nodup r
    · rw [if_neg h]; exact List.nodup_cons.mpr ⟨h, dedG_nodup r⟩
theorem perm_nodup {l m : List κ} (hl : l.Nodup) (hm : m.Nodup) (h : ∀ k, k ∈ l ↔ k ∈ m) : l.Perm m := (List.perm_ext_iff_of_nodup hl hm).mpr h
theorem sorted_one {le : κ → κ → Bool} (anti : ∀ a b, le a b = true → le b a = true → a = b) : ∀ {l m : List κ}, l.Perm m → l.Pairwise (fun a b => le a b = true) → m.Pairwise (fun a b => le a b = true) → l = m
  | [], m, p, _, _ => (List.Perm.eq_nil p.symm).symm
  | x :: l, [], p, _, _ => absurd p.length_eq (by simp)
  | x :: l, y :: m, p, hl, hm => by
    obtain ⟨l1, l2⟩ := List.pairwise_cons.mp hl
    obtain ⟨m1, m2⟩ := List.pairwise_cons.mp hm
    have e : x = y := by
      rcases List.mem_cons.mp (p.mem_iff.mp (List.mem_cons_self (a := x) (l := l))) with e | hx
      · exact e
      · rcases List.mem_cons.mp (p.mem_iff.mpr (List.mem_cons_self (a := y) (l := m))) with e | hy
        · exact e.symm
        · exact anti x y (l1 y hy) (m1 x hx)
    subst e
    rw [sorted_one anti p.cons_inv l2 m2]
end
theorem nodup_some {κ : Type} : ∀ {l : List κ}, (l.map some).Nodup → l.Nodup
  | [], _ => List.nodup_nil
  | x :: l, h => by
    rw [List.map_cons] at h
    obtain ⟨h1, h2⟩ := List.nodup_cons.mp h
    exact List.nodup_cons.mpr ⟨fun m => h1 (List.mem_map.mpr ⟨x, m, rfl⟩), nodup_some h2⟩
/-! ### the calls -/
section
variable {P : Program} {w : World} {κ : Type} [DecidableEq κ] {A : Around} {E : Value → Shared → Prop} {s : Shared} {a : Addr} {S : κ → Bool} {n : Nat}
theorem SetG.size {knd : PySem.KeyKind P w κ} {h : Heap} (R : SetG knd h a S n) {L : List κ} (nd : L.Nodup) (hm : ∀ k, k ∈ L ↔ S k = true) : n = L.length := by
  obtain ⟨o, es, ep, t, ho, hx, hd, g, nde, m, hb, hf, hn, _⟩ := R
  have all : ∀ (l : List (Int × Value)), PySem.ElemsOf knd l → ∃ ks : List κ, l.map (eyG knd) = ks.map some := by
    intro l
    induction l with
    | nil => intro _; exact ⟨[], rfl⟩
    | cons e l ih =>
      intro g
      obtain ⟨⟨k, hk, _⟩, _⟩ := g e List.mem_cons_self
      obtain ⟨ks, e1⟩ := ih fun x hx => g x (List.mem_cons_of_mem _ hx)
      exact ⟨k :: ks, by rw [List.map_cons, e1, List.map_cons, show eyG knd e = some k from kyG_of knd hk]⟩
  obtain ⟨ks, e1⟩ := all _ g
  rw [e1] at nde m
  have ndk : ks.Nodup := nodup_some nde
  have pm : ks.Perm L := perm_nodup ndk nd fun k => by
    rw [hm k, m k, List.mem_map]
    exact ⟨fun h => ⟨k, h, rfl⟩, fun ⟨x, hx, e⟩ => by rw [← Option.some.inj e]; exact hx⟩
  rw [← pm.length_eq, ← hn, ← Array.length_toList, ← List.length_map (f := eyG knd), e1, List.length_map]
theorem sorted_setG (T : KT P w κ) {Q : Value → Shared → Prop} (R : SetG T.knd s.heap a S n) (hh : A.handled = none) (hu : A.units + 64 < cLine) {L : List κ} (nd : L.Nodup) (hm : ∀ k, k ∈ L ↔ S k = true)
    (hQ : ∀ s' p (out : List Value) (c : Nat), (∀ b o, s.heap.get? b = some o → s'.heap.get? b = some o) → s'.gens = s.gens → s'.os = s.os → s.heap.objs.size ≤ p →
      s'.heap.get? p = some (seqObj "list" out.toArray c) → Vals ((L.mergeSort T.le).map T.vOf) out → Q (.ref p) s') :
    wpAny (model P w) A (call (.builtin "sorted") [.ref a]) Q E s := by
  have hsz := R.size nd hm
  obtain ⟨o, es, ep, t, ho, hex, hd, g, nde, m, hb, hf, hn, hr, hl⟩ := R
  refine Calls.call_function_entry kind_sorted plain_sorted entry_sorted (args_sorted1 _) ?_
  unfold Builtin.«sorted»
  refine wpAny_bind (m := checkCount "sorted" 1 1 _) (wpAny_pure ?_)
  refine wpAny_bind (collect_set (A := A.in1) hh ⟨o, ho, hex.1, hd⟩ hf hb hr hl fun s1 vs k1 hz g1 o1 pm => ?_)
  have each : ∀ (l : List Value), (∀ v ∈ l, ∃ k, T.knd.is k v = true) → ∃ ks : List κ, l.map (kyG T.knd) = ks.map some ∧ EachIs (fun u k => T.knd.is k u = true) l ks := by
    intro l
    induction l with
    | nil => intro _; exact ⟨[], rfl, .nil⟩
    | cons v l ih =>
      intro h
      obtain ⟨k, hk⟩ := h v List.mem_cons_self
      obtain ⟨ks, e1, e2⟩ := ih fun x hx => h x (List.mem_cons_of_mem _ hx)
      exact ⟨k :: ks, by rw [List.map_cons, e1, List.map_cons, kyG_of T.knd hk], .cons hk e2⟩
  obtain ⟨ks, ek, ee⟩ := each vs fun v hv => by
    obtain ⟨e, he, q⟩ := List.mem_map.mp (pm.mem_iff.mp hv)
    obtain ⟨⟨k, hk, _⟩, _⟩ := g e he
    exact ⟨k, by rw [← q]; exact hk⟩
  have p1 : (ks.map some).Perm (es.toList.map (eyG T.knd)) := by
    rw [← ek]
    have := pm.map (kyG T.knd)
    rw [List.map_map] at this
    exact this
  have ndk : ks.Nodup := nodup_some (p1.nodup_iff.mpr nde)
  have pL : ks.Perm L := perm_nodup ndk nd fun k => by
    rw [hm k, m k, ← p1.mem_iff, List.mem_map]
    exact ⟨fun h => ⟨k, h, rfl⟩, fun ⟨x, hx, e⟩ => by rw [← Option.some.inj e]; exact hx⟩
  have hvl : vs.length = n := by rw [pm.length_eq, List.length_map, Array.length_toList]; exact hn
  have hnb : n < 4096 := by rw [← hn]; exact hb
  have hsl := sizeLine_eq
  refine wpAny_bind (wpAny_newList ?_ (by rw [hvl]; omega))
  have hoL : (s1.heap.push (seqObj "list" vs.toArray 0)).get? s1.heap.objs.size = some (seqObj "list" vs.toArray 0) := Heap.get?_push_size _ rfl
  have hal : AllAlike (ks.map T.enc) := .of fun b b' => T.alk b b'
  have hso : Sortable (ks.map T.enc) := .others fun b => T.oth b
  refine wpAny_bind (wpAny_holding (PySem.W.list_sort_data (bs := ks) (enc := T.enc) (R := fun u k => RelV (T.vOf k) u) (vs := vs) hoL (ee.mono fun u k h => (T.rel k u).mp h) (ee.mono fun u k h => ⟨[], T.reads k u _ h, by simp⟩) hal hso (by rw [← ee.length, hvl]; omega) (fun b _ => ?_) fun out hlo eo => ?_))
  · rw [T.dep b]
    show A.units + 1 + 1 + 0 < cLine
    omega
  · rw [T.hle] at eo
    obtain ⟨c, hc⟩ := sortedHeap_at (vs := vs) (out := out.toArray) hoL
    have s1' : (ks.mergeSort T.le).Pairwise fun a b => T.le a b = true := List.pairwise_mergeSort T.trans T.total ks
    have s2' : (L.mergeSort T.le).Pairwise fun a b => T.le a b = true := List.pairwise_mergeSort T.trans T.total L
    have eq : ks.mergeSort T.le = L.mergeSort T.le := sorted_one T.anti ((List.mergeSort_perm ks T.le).trans (pL.trans (List.mergeSort_perm L T.le).symm)) s1' s2'
    rw [eq] at eo
    have vo : ∀ {us : List Value} {bs : List κ}, EachIs (fun u k => RelV (T.vOf k) u) us bs → Vals (bs.map T.vOf) us := by
      intro us bs h
      induction h with
      | nil => exact .nil
      | cons r _ ih => exact .cons r ih
    refine wpAny_pure ⟨_, rfl, hQ _ s1.heap.objs.size out c (fun b u e => ?_) g1 o1 hz hc (vo eo)⟩
    have q := k1 b u e
    have hlt := Heap.lt_size q
    show (sortedHeap (s1.heap.push (seqObj "list" vs.toArray 0)) s1.heap.objs.size vs out.toArray).get? b = some u
    rw [sortedHeap_old (Nat.ne_of_lt hlt) (by rw [size_push']; exact Nat.lt_succ_of_lt hlt)]
    exact Heap.get?_push_of_some _ q
end
/-! ### the expressions -/
section
variable {X : Cx} {κ : Type} [DecidableEq κ] {a : Expr} {ta : TE} {p p2 q pos : Pos}
theorem mk_set (T : KT X.prog X.w κ) {pins : List (Addr × Obj)} {σ : L2.St} {H : Hp} {s : Shared} {l : Addr} {ks : List κ} {Q : Value → Shared → Prop} (hc : X.calm = true) (I : Inv X pins σ H s) (hq : SqL X.K H l (ks.map T.vOf) ∨ SqT X.K H l (ks.map T.vOf)) (hl : ks.length < 4000)
    (h : ∀ (h' : Heap) (tk c : Nat), SetG T.knd h' s.heap.objs.size (fun j => decide (j ∈ ks)) c → (∀ b o, s.heap.get? b = some o → h'.get? b = some o) → Q (.ref s.heap.objs.size) { s with heap := h', toks := tk }) :
    wpAny (model X.prog X.w) X.A (call (.type "set") [.ref l]) Q X.xe s := by
  have hv : ∀ {its : List Value}, Vals (ks.map T.vOf) its → its.toArray.size = ks.length ∧ ∀ (i : Nat) (v : Value), its.toArray[i]? = some v → ∃ k, ks[i]? = some k ∧ T.knd.is k v = true ∧ v.scannable = true := fun {its} r => by
    refine ⟨by rw [List.size_toArray, ← r.length, List.length_map], fun i v e => ?_⟩
    have e : its[i]? = some v := by simpa using e
    have hi : i < ks.length := by rw [← List.length_map (f := T.vOf), r.length]; exact (List.getElem?_eq_some_iff.mp e).1
    obtain ⟨u, hu, ru⟩ := r.get (i := i) (by rw [List.getElem?_map, List.getElem?_eq_getElem hi]; rfl)
    rw [e] at hu
    cases hu
    have z := (T.rel ks[i] v).mpr ru
    exact ⟨ks[i], List.getElem?_eq_getElem hi, z, T.scan _ _ z⟩
  have hb : ks.length + 1 < scanBound := by unfold scanBound; omega
  rcases hq with hq | hq
  · obtain ⟨its, r, pl, hz⟩ := I.list hq
    exact callG_lst T.knd ks (I.ok.hd hc) pl.isList (hv r).1 (hv r).2 hb fun h' tk c hS _ hk => h h' tk c hS hk
  · obtain ⟨its, r, pl, hz⟩ := I.tuple hq
    exact callG_tup T.knd ks (I.ok.hd hc) pl (hv r).1 (hv r).2 hb fun h' tk c hS _ hk => h h' tk c hS hk
def tLenG (T : KT X.prog X.w κ) (ta : TE) : TE := fun σ H Q => ta σ H fun x H1 => ∃ l, ∃ ks : List κ, x = .ref l ∧ (SqL X.K H1 l (ks.map T.vOf) ∨ SqT X.K H1 l (ks.map T.vOf)) ∧ ks.length < 4000 ∧ Q (.int (dedG ks).length) H1
theorem pe_lenG (T : KT X.prog X.w κ) (hc : X.calm = true) (hg : Gl X "len") (hm : X.mg "len" = none) (hg2 : Gl X "set") (hm2 : X.mg "set" = none) (ha : PE X a ta)
    (na : starEach [a] X.env = (false, eval a X.env) :: starEach [] X.env := by rfl) : PE X (.Call (.Name "len" p) [.Call (.Name "set" p2) [a] [] q] [] pos) (tLenG T ta) := by
  refine ⟨fun pins s σ H Q I h => ?_⟩
  refine Call_ (ld_blt I hg hm boot_len ?_)
  refine PyProof.Rows.callWith_builtin1 (PyProof.Rows.args_cons ?_ rfl) rfl rfl
  refine Call_ (ld_blt I hg2 hm2 boot_set ?_)
  refine PyProof.Rows.callWith_type1 (PyProof.Rows.args_cons (thn (ha.run pins s σ H _ I h) fun v s1 ⟨x, H1, I1, r1, q1⟩ => PyProof.Rows.args_nil ?_) na) na rfl
  obtain ⟨l, ks, rfl, hq, h1, q1⟩ := q1
  cases r1
  refine mk_set T hc I1 hq h1 fun h' tk c hS hk => ?_
  have hc2 := hS.size (dedG_nodup ks) fun k => by rw [dedG_mem, decide_eq_true_eq]
  obtain ⟨o, es, ep, t, ho, hex, hd, _, _, _, hb, hf, hn, _⟩ := hS
  have I2 : Inv X pins σ H1 { s1 with heap := h', toks := tk } := I1.kept fun b o e => hk b o e
  refine PyProof.Rows.args_nil ?_
  have hb2 : es.size < 4096 := hb
  refine call_len_set ho hex hd hf (by omega) ⟨.int (dedG ks).length, H1, I2.tok _, ⟨_, by rw [hn, hc2]⟩, q1⟩
def tSortG (T : KT X.prog X.w κ) (ta : TE) : TE := fun σ H Q => ta σ H fun x H1 => ∃ l, ∃ ks : List κ, x = .ref l ∧ (SqL X.K H1 l (ks.map T.vOf) ∨ SqT X.K H1 l (ks.map T.vOf)) ∧ ks.length < 4000 ∧ ∀ p, H1 p = none → Q (.ref p) (upd H1 p (.lst (((dedG ks).mergeSort T.le).map T.vOf)))
theorem pe_sortG (T : KT X.prog X.w κ) (hc : X.calm = true) (hu : X.A.units + 64 < cLine) (hg : Gl X "sorted") (hm : X.mg "sorted" = none) (hg2 : Gl X "set") (hm2 : X.mg "set" = none) (ha : PE X a ta)
    (na : starEach [a] X.env = (false, eval a X.env) :: starEach [] X.env := by rfl) : PE X (.Call (.Name "sorted" p) [.Call (.Name "set" p2) [a] [] q] [] pos) (tSortG T ta) := by
  refine ⟨fun pins s σ H Q I h => ?_⟩
  refine Call_ (ld_blt I hg hm boot_sorted ?_)
  refine PyProof.Rows.callWith_builtin1 (PyProof.Rows.args_cons ?_ rfl) rfl rfl
  refine Call_ (ld_blt I hg2 hm2 boot_set ?_)
  refine PyProof.Rows.callWith_type1 (PyProof.Rows.args_cons (thn (ha.run pins s σ H _ I h) fun v s1 ⟨x, H1, I1, r1, q1⟩ => PyProof.Rows.args_nil ?_) na) na rfl
  obtain ⟨l, ks, rfl, hq, h1, q1⟩ := q1
  cases r1
  refine mk_set T hc I1 hq h1 fun h' tk c hS hk => ?_
  have I2 : Inv X pins σ H1 { s1 with heap := h', toks := tk } := I1.kept fun b o e => hk b o e
  have hdl : (dedG ks).length ≤ ks.length := by
    have : ∀ l : List κ, (dedG l).length ≤ l.length := by
      intro l
      induction l with
      | nil => exact Nat.le_refl _
      | cons x r ih =>
        unfold dedG
        split
        · rw [List.length_cons]; omega
        · rw [List.length_cons, List.length_cons]; omega
    exact this ks
  refine PyProof.Rows.args_nil (sorted_setG T hS (I.ok.hd hc) hu (dedG_nodup ks) (fun k => by rw [dedG_mem, decide_eq_true_eq]) fun s' p out c2 kp kg ko hp hn rv => ?_)
  have hsl := sizeLine_eq
  have hzz : (((dedG ks).mergeSort T.le).map T.vOf).length ≤ sizeLine := by rw [List.length_map, List.length_mergeSort]; omega
  have hn0 : H1 p = none := I2.hok.fresh hp
  have J : Inv X pins σ (upd H1 p (.lst (((dedG ks).mergeSort T.le).map T.vOf))) { ({ s1 with heap := h', toks := tk } : Shared) with heap := s'.heap, gens := s'.gens, drawn := s'.drawn, toks := s'.toks } :=
    I2.call (ch := []) (Un.laid kp hp hn0) (I2.hok.laid kp hp ⟨hzz, out, c2, rv, hn⟩) (by rw [kg]; exact I2.bare) (fun _ z => nomatch z)
  have e : s' = { s1 with heap := s'.heap, gens := s'.gens, drawn := s'.drawn, toks := s'.toks } := by
    cases s'
    cases s1
    cases ko
    rfl
  rw [e]
  exact ⟨.ref p, _, J, rfl, q1 p hn0⟩
end
/-! ### .. as mirrors -/
def keysI : List D → Option (List Int)
  | [] => some []
  | .int i :: ds => (match keysI ds with
    | some is => some (i :: is)
    | none => none)
  | _ => none
theorem keysI_ok {K : PySem.W.Frag} {mg : Str → Option Value} {ρ : Rho} {H : Hp} : ∀ {ds : List D} {vs : List V} {xs : List Int}, RDs K mg ρ H ds vs → keysI ds = some xs → vs = xs.map V.int
  | [], vs, xs, h, e => by cases e; exact RDs.nil_iff.mp h
  | d :: ds, vs, xs, h, e => by
    obtain ⟨v, r, rfl, h1, h2⟩ := RDs.cons_iff.mp h
    cases d with
    | int x =>
      have e : (match keysI ds with
        | some xs => some (x :: xs)
        | none => none) = some xs := e
      cases e2 : keysI ds with
      | none => rw [e2] at e; cases e
      | some ys =>
        rw [e2] at e; cases e
        rw [rd_int h1, keysI_ok h2 e2]
        rfl
    | _ => cases e
section
variable {X : Cx} {F : Fm} {k : Nat} {a : Expr} {me : EM} {p p2 q pos : Pos}
theorem PE.or {e : Expr} {t t' : TE} (h : PE X e t) (g : PE X e t') : PE X e (fun σ H Q => t σ H Q ∨ t' σ H Q) := ⟨fun pins s σ H Q I q => q.elim (h.run pins s σ H Q I) (g.run pins s σ H Q I)⟩
def lenSetD (S : Store) (d : D) : Option Nat := match seqOf S d with
  | some ds => (match keysI ds with
    | some is => if is.length < 4000 then some (dedG is).length else none
    | none => (match strsOf ds with
      | some xs => if xs.length < 4000 then some (dedG xs).length else none
      | none => none))
  | none => none
def mLenSet (me : EM) : EM := fun env S => (me env S).bind fun d S1 => match lenSetD S1 d with
  | some n => .ok (.int n) S1
  | none => .bad
theorem e_lenSet (fx : FX X F k) (hg : Gl X "len") (hm : X.mg "len" = none) (hg2 : Gl X "set") (hm2 : X.mg "set" = none) (ha : PE X a (rdE X F me))
    (na : starEach [a] X.env = (false, eval a X.env) :: starEach [] X.env := by rfl) : PE X (.Call (.Name "len" p) [.Call (.Name "set" p2) [a] [] q] [] pos) (rdE X F (mLenSet me)) := by
  refine PE.imp (PE.or (pe_lenG (ktI X.prog X.w) fx.calm hg hm hg2 hm2 ha na) (pe_lenG (ktS X.prog X.w) fx.calm hg hm hg2 hm2 ha na)) fun σ H Q ⟨env, S, ρ, re, rs, o⟩ => ?_
  unfold mLenSet at o
  have key : ∀ (d : D) (S1 : Store) (ds : List D), seqOf S1 d = some ds → True := fun _ _ _ _ => True.intro
  by_cases hI : ∃ d S1 ds is, me env S = .ok d S1 ∧ seqOf S1 d = some ds ∧ keysI ds = some is
  · obtain ⟨d, S1, ds, is, em, es, ek⟩ := hI
    left
    rw [em] at o
    refine ⟨env, S, ρ, re, rs, ?_⟩
    rw [em]
    intro ρ1 H1 t1 R1 v hv
    obtain ⟨l, xs, rfl, hq, r⟩ := seqOf_ok R1 hv es
    have e := keysI_ok r ek
    subst e
    have o : OutE X F σ ρ H (match lenSetD S1 d with
      | some n => Rz.ok (.int n) S1
      | none => .bad) fun a ρ' _ H' => ∀ v, RD X.K X.mg ρ' H' a v → Q v H' := o
    unfold lenSetD at o
    rw [es] at o
    dsimp only at o
    rw [ek] at o
    dsimp only at o
    by_cases hl : is.length < 4000
    · rw [if_pos hl] at o
      exact ⟨l, is, rfl, hq, hl, o ρ1 H1 t1 R1 _ mk_int⟩
    · rw [if_neg hl] at o; exact o.elim
  · right
    refine ⟨env, S, ρ, re, rs, ?_⟩
    cases em : me env S with
    | ok d S1 =>
      rw [em] at o
      intro ρ1 H1 t1 R1 v hv
      have o : OutE X F σ ρ H (match lenSetD S1 d with
        | some n => Rz.ok (.int n) S1
        | none => .bad) fun a ρ' _ H' => ∀ v, RD X.K X.mg ρ' H' a v → Q v H' := o
      unfold lenSetD at o
      cases es : seqOf S1 d with
      | none => rw [es] at o; exact o.elim
      | some ds =>
        rw [es] at o
        dsimp only at o
        cases ek : keysI ds with
        | some is => exact absurd ⟨d, S1, ds, is, em, es, ek⟩ hI
        | none =>
          rw [ek] at o
          dsimp only at o
          obtain ⟨l, xs, rfl, hq, r⟩ := seqOf_ok R1 hv es
          cases ex : strsOf ds with
          | none => rw [ex] at o; exact o.elim
          | some ys =>
            rw [ex] at o
            dsimp only at o
            have e := strsOf_ok r ex
            subst e
            by_cases hl : ys.length < 4000
            · rw [if_pos hl] at o
              exact ⟨l, ys, rfl, hq, hl, o ρ1 H1 t1 R1 _ mk_int⟩
            · rw [if_neg hl] at o; exact o.elim
    | exc c fs S1 => rw [em] at o; exact o
    | bad => rw [em] at o; exact o.elim
def sortSetD (S : Store) (d : D) : Option Gv := match seqOf S d with
  | some ds => (match keysI ds with
    | some is => if is.length < 4000 then some (.l (((dedG is).mergeSort leI).map .int)) else none
    | none => (match strsOf ds with
      | some xs => if xs.length < 4000 then some (.l (((dedG xs).mergeSort leS).map .str)) else none
      | none => none))
  | none => none
def mSortSet (al : Bool) (me : EM) : EM := fun env S => (me env S).bind fun d S1 => Gv.fin al (sortSetD S1 d) S1
theorem rds_map {α : Type} {K : PySem.W.Frag} {mg : Str → Option Value} {ρ : Rho} {H : Hp} {f : α → D} {g : α → V} (h : ∀ a, RD K mg ρ H (f a) (g a)) : ∀ l : List α, RDs K mg ρ H (l.map f) (l.map g)
  | [] => RDs.nil_iff.mpr rfl
  | a :: l => RDs.cons_iff.mpr ⟨_, _, rfl, h a, rds_map h l⟩
theorem e_sortSet (al : Bool) (fx : FX X F k) (hg : Gl X "sorted") (hm : X.mg "sorted" = none) (hg2 : Gl X "set") (hm2 : X.mg "set" = none) (ha : PE X a (rdE X F me))
    (na : starEach [a] X.env = (false, eval a X.env) :: starEach [] X.env := by rfl) : PE X (.Call (.Name "sorted" p) [.Call (.Name "set" p2) [a] [] q] [] pos) (rdE X F (mSortSet al me)) := by
  refine PE.imp (PE.or (pe_sortG (ktI X.prog X.w) fx.calm fx.room.units hg hm hg2 hm2 ha na) (pe_sortG (ktS X.prog X.w) fx.calm fx.room.units hg hm hg2 hm2 ha na)) fun σ H Q ⟨env, S, ρ, re, rs, o⟩ => ?_
  unfold mSortSet at o
  by_cases hI : ∃ d S1 ds is, me env S = .ok d S1 ∧ seqOf S1 d = some ds ∧ keysI ds = some is
  · obtain ⟨d, S1, ds, is, em, es, ek⟩ := hI
    left
    rw [em] at o
    refine ⟨env, S, ρ, re, rs, ?_⟩
    rw [em]
    intro ρ1 H1 t1 R1 v hv
    obtain ⟨l, xs, rfl, hq, r⟩ := seqOf_ok R1 hv es
    have e := keysI_ok r ek
    subst e
    have o : OutE X F σ ρ H (Gv.fin al (sortSetD S1 d) S1) fun a ρ' _ H' => ∀ v, RD X.K X.mg ρ' H' a v → Q v H' := o
    unfold sortSetD at o
    rw [es] at o
    dsimp only at o
    rw [ek] at o
    dsimp only at o
    by_cases hl : is.length < 4000
    · rw [if_pos hl] at o
      have z := GvOk.of R1 (OutE.later t1 o)
      exact ⟨l, is, rfl, hq, hl, fun p hp => z.2 p _ hp (rds_map (fun _ => mk_int) _)⟩
    · rw [if_neg hl] at o; exact o.elim
  · right
    refine ⟨env, S, ρ, re, rs, ?_⟩
    cases em : me env S with
    | ok d S1 =>
      rw [em] at o
      intro ρ1 H1 t1 R1 v hv
      have o : OutE X F σ ρ H (Gv.fin al (sortSetD S1 d) S1) fun a ρ' _ H' => ∀ v, RD X.K X.mg ρ' H' a v → Q v H' := o
      unfold sortSetD at o
      cases es : seqOf S1 d with
      | none => rw [es] at o; exact o.elim
      | some ds =>
        rw [es] at o
        dsimp only at o
        cases ek : keysI ds with
        | some is => exact absurd ⟨d, S1, ds, is, em, es, ek⟩ hI
        | none =>
          rw [ek] at o
          dsimp only at o
          obtain ⟨l, xs, rfl, hq, r⟩ := seqOf_ok R1 hv es
          cases ex : strsOf ds with
          | none => rw [ex] at o; exact o.elim
          | some ys =>
            rw [ex] at o
            dsimp only at o
            have e := strsOf_ok r ex
            subst e
            by_cases hl : ys.length < 4000
            · rw [if_pos hl] at o
              have z := GvOk.of R1 (OutE.later t1 o)
              exact ⟨l, ys, rfl, hq, hl, fun p hp => z.2 p _ hp (rds_map (fun _ => mk_str) _)⟩
            · rw [if_neg hl] at o; exact o.elim
    | exc c fs S1 => rw [em] at o; exact o
    | bad => rw [em] at o; exact o.elim
end
end M3

set_option Elab.async false
set_option linter.all false
set_option maxRecDepth 100000
set_option maxHeartbeats 1000000
/-! M3U: == and != of instances with an own ==. -/
namespace M3
open PySem PySem.Spec L2
/-- what the written part says of a class with an own == -/
structure EqK (K : PySem.W.Frag) (C f : Addr) : Prop where
  eq : PySem.W.findIn K (.ref C) "__eq__" = some (some (.ref f))
  fn : PySem.W.isFn K (.ref f) = true
  ne : PySem.W.findIn K (.ref C) "__ne__" = some (some (.builtin "object.__ne__"))
  ob : PySem.W.mroIn K C (.type "object") = some true
  tup : PySem.W.mroIn K C (.type "tuple") = some false
  non : PySem.W.mroIn K C (.type "NoneType") = some false
section
variable {prog : Program} {w : World} {A : Around} {E : Value → Shared → Prop} {s : Shared} {K : PySem.W.Frag} {a C f : Addr} {ox : Obj} {od : Option Obj} {u v : Value}
theorem ifBoundB_K {M : Model} {x : Addr} {name : Str} {id : String} {args : List Value} {Q : Option Value → Shared → Prop} (X : K.In s.heap) (I : PySem.W.InstAt s.heap x ox C od) (hs : PySem.W.findIn K (.ref C) name = some (some (.builtin id))) (hb : ∀ self, bindSpecial (.builtin id) self = pure (.builtin id, [self]))
    (h : wpAny M A (call (.builtin id) (.ref x :: args)) (fun v => Q (some v)) E s) : wpAny M A (callSpecialIfBound? (.ref x) name args) Q E s := by
  simp only [callSpecialIfBound?, bindSpecialIfBound?]
  refine wpAny_holding (wpAny_bind (wpAny_bind (wpAny_bind (I.type.here ((PySem.W.looks_findIn X hs).here ?_)))))
  simp only [hb]
  refine wpAny_bind (wpAny_askSetting (wpAny_ite ?_))
  have fin : wpAny M A (call (.builtin id) ([.ref x] ++ args) >>= fun v => pure (some v)) Q E s := wpAny_bind (wpAny_mono h (fun v s' h' => wpAny_pure h') fun _ _ h' => h')
  split
  · exact wpAny_bind (wpAny_pure (wpAny_pure fin))
  · exact wpAny_tryCatch (wpAny_bind (wpAny_pure (wpAny_pure fin)))
/-- the own == gives a bool -/
theorem try_eq {Q : Option Value → Shared → Prop} (X : K.In s.heap) (I : PySem.W.InstAt s.heap a ox C od) (h : EqK K C f) (hc : wpAny (model prog w) A (call (.ref f) [.ref a, u]) (fun v s' => ∃ b, v = .bool b ∧ Q (some (.bool b)) s') E s) :
    wpAny (model prog w) A (tryCompare (.ref a) "__eq__" u) Q E s := by
  unfold tryCompare
  refine wpAny_bind (PySem.W.ifBound_K X I h.eq h.fn (wpAny_mono hc (fun v s' hv => ?_) fun _ _ e => e))
  obtain ⟨b, rfl, q⟩ := hv
  exact wpAny_pure q
theorem try_ne {Q : Option Value → Shared → Prop} (hu : A.units + 1 < cLine) (X : K.In s.heap) (I : PySem.W.InstAt s.heap a ox C od) (h : EqK K C f) (hc : wpAny (model prog w) A.in1 (call (.ref f) [.ref a, u]) (fun v s' => ∃ b, v = .bool b ∧ Q (some (.bool (!b))) s') E s) :
    wpAny (model prog w) A (tryCompare (.ref a) "__ne__" u) Q E s := by
  unfold tryCompare
  refine wpAny_bind (ifBoundB_K X I h.ne F.cmp_object.ne.bind (wpAny_call (codeAny_call_builtin F.cmp_object.ne.plain F.cmpEntry_ne (PySem.W.check_slot F.cmpKind_ne F.cmpSplit_ne ?_ (F.cmpArgs_ne _ _) ?_))))
  · exact I.type.andThen (PySem.W.looks_subIn X (t := .ref C) h.ob)
  · unfold Builtin.«object.__ne__»
    repeat (first
      | with_reducible refine wpAny_cRoomFor (A := A.in1) hu ?_
      | (refine wpAny_bind (m := callSpecialIfBound? (.ref a) (Str.ofString "__eq__") [u]) (PySem.W.ifBound_K X I h.eq h.fn (wpAny_mono hc (fun r s' hr => by
          obtain ⟨b, rfl, hq⟩ := hr
          repeat (first | exact hq | exact wpAny_pure hq | exact wpAny_truthy_bool hq | (refine wpAny_bind (m := truthy (.bool _)) (wpAny_truthy_bool ?_)) | wp_step)) fun _ _ e => e)))
      | wp_step)
/-- the instance stands left -/
theorem rich_eqL {Q : Value → Shared → Prop} {tb : Value} (hu : A.units < cLine) (X : K.In s.heap) (I : PySem.W.InstAt s.heap a ox C od) (h : EqK K C f) (ht : PySem.W.Looks (model prog w) s.heap (typeOf u) tb) (hn : PySem.W.notFirst K C tb = true)
    (hc : wpAny (model prog w) A (call (.ref f) [.ref a, u]) (fun v s' => ∃ b, v = .bool b ∧ Q (.bool b) s') E s) : wpAny (model prog w) A (richCompare .Eq (.ref a) u) Q E s := by
  unfold richCompare
  simp only [oneThing_ref]
  refine wpAny_holding (wpAny_bind (wpAny_cRoomFor hu ?_))
  rw [cmpInfo_Eq]
  dsimp only
  refine wpAny_bind (I.type.here (wpAny_bind (ht.here ?_)))
  have one : wpAny (model prog w) A (tryCompare (.ref a) "__eq__" u) (fun r s' => ∃ v, r = some v ∧ Q v s') E s := try_eq X I h (wpAny_mono hc (fun v s' ⟨b, e, q⟩ => ⟨b, e, _, rfl, q⟩) fun _ _ e => e)
  split
  · rename_i q
    have e : PySem.W.subIn K tb (.ref C) = some false := by
      rcases Bool.or_eq_true_iff.mp hn with e | e
      · rw [beq_iff_eq.mp e] at q; simp at q
      · exact beq_iff_eq.mp e
    refine wpAny_bind ((PySem.W.looks_subIn X e).here ?_)
    simp only [Bool.false_eq_true, if_false]
    refine wpAny_bind (wpAny_mono one (fun r s' z => ?_) fun _ _ e => e)
    obtain ⟨v, rfl, hq⟩ := z
    exact wpAny_pure hq
  · refine wpAny_bind (wpAny_pure ?_)
    simp only [Bool.false_eq_true, if_false]
    refine wpAny_bind (wpAny_mono one (fun r s' z => ?_) fun _ _ e => e)
    obtain ⟨v, rfl, hq⟩ := z
    exact wpAny_pure hq
theorem rich_neL {Q : Value → Shared → Prop} {tb : Value} (hu : A.units + 1 < cLine) (X : K.In s.heap) (I : PySem.W.InstAt s.heap a ox C od) (h : EqK K C f) (ht : PySem.W.Looks (model prog w) s.heap (typeOf u) tb) (hn : PySem.W.notFirst K C tb = true)
    (hc : wpAny (model prog w) A.in1 (call (.ref f) [.ref a, u]) (fun v s' => ∃ b, v = .bool b ∧ Q (.bool (!b)) s') E s) : wpAny (model prog w) A (richCompare .NotEq (.ref a) u) Q E s := by
  unfold richCompare
  simp only [oneThing_ref]
  refine wpAny_holding (wpAny_bind (wpAny_cRoomFor (Nat.lt_of_succ_lt hu) ?_))
  rw [cmpInfo_NotEq]
  dsimp only
  refine wpAny_bind (I.type.here (wpAny_bind (ht.here ?_)))
  have one : wpAny (model prog w) A (tryCompare (.ref a) "__ne__" u) (fun r s' => ∃ v, r = some v ∧ Q v s') E s := try_ne hu X I h (wpAny_mono hc (fun v s' ⟨b, e, q⟩ => ⟨b, e, _, rfl, q⟩) fun _ _ e => e)
  split
  · rename_i q
    have e : PySem.W.subIn K tb (.ref C) = some false := by
      rcases Bool.or_eq_true_iff.mp hn with e | e
      · rw [beq_iff_eq.mp e] at q; simp at q
      · exact beq_iff_eq.mp e
    refine wpAny_bind ((PySem.W.looks_subIn X e).here ?_)
    simp only [Bool.false_eq_true, if_false]
    refine wpAny_bind (wpAny_mono one (fun r s' z => ?_) fun _ _ e => e)
    obtain ⟨v, rfl, hq⟩ := z
    exact wpAny_pure hq
  · refine wpAny_bind (wpAny_pure ?_)
    simp only [Bool.false_eq_true, if_false]
    refine wpAny_bind (wpAny_mono one (fun r s' z => ?_) fun _ _ e => e)
    obtain ⟨v, rfl, hq⟩ := z
    exact wpAny_pure hq
/-- the instance stands right, the left one knows nothing of it -/
theorem rich_eqR {Q : Value → Shared → Prop} {T ida : String} (hu : A.units < cLine) (X : K.In s.heap) (I : PySem.W.InstAt s.heap a ox C od) (h : EqK K C f) (hT : s.TypeIs u T) (hm : PySem.W.mroIn K C (.type T) = some false) (h1 : Slot T "__eq__" ida)
    (hd : ∀ Q' : Value → Shared → Prop, Q' .notImplemented s → wpAny (model prog w) A (call (.builtin ida) [u, .ref a]) Q' E s)
    (hc : wpAny (model prog w) A (call (.ref f) [.ref a, u]) (fun v s' => ∃ b, v = .bool b ∧ Q (.bool b) s') E s) : wpAny (model prog w) A (richCompare .Eq u (.ref a)) Q E s := by
  simp only [richCompare, cmpInfo_Eq, hT.oneThing_none]
  refine wpAny_holding (wpAny_bind (wpAny_cRoomFor hu ?_))
  refine wpAny_bind (wpAny_typeOf hT (wpAny_bind (I.type.here ?_)))
  rw [show (Value.type T != Value.ref C) = true from by simp]
  simp only [if_true]
  refine wpAny_bind ((PySem.W.looks_subIn X (t := .ref C) hm).here ?_)
  simp only [Bool.false_eq_true, if_false, Bool.not_false, if_true]
  refine wpAny_bind (m := tryCompare u _ (.ref a)) (wpAny_tryCompare_declines hT h1 (hd _ ⟨rfl, ?_⟩))
  refine wpAny_bind (m := tryCompare (.ref a) _ u) (try_eq X I h (wpAny_mono hc (fun v s' ⟨b, e, q⟩ => ⟨b, e, ?_⟩) fun _ _ e => e))
  exact wpAny_pure q
theorem rich_neR {Q : Value → Shared → Prop} {T ida : String} (hu : A.units + 1 < cLine) (X : K.In s.heap) (I : PySem.W.InstAt s.heap a ox C od) (h : EqK K C f) (hT : s.TypeIs u T) (hm : PySem.W.mroIn K C (.type T) = some false) (h1 : Slot T "__ne__" ida)
    (hd : ∀ Q' : Value → Shared → Prop, Q' .notImplemented s → wpAny (model prog w) A (call (.builtin ida) [u, .ref a]) Q' E s)
    (hc : wpAny (model prog w) A.in1 (call (.ref f) [.ref a, u]) (fun v s' => ∃ b, v = .bool b ∧ Q (.bool (!b)) s') E s) : wpAny (model prog w) A (richCompare .NotEq u (.ref a)) Q E s := by
  simp only [richCompare, cmpInfo_NotEq, hT.oneThing_none]
  refine wpAny_holding (wpAny_bind (wpAny_cRoomFor (Nat.lt_of_succ_lt hu) ?_))
  refine wpAny_bind (wpAny_typeOf hT (wpAny_bind (I.type.here ?_)))
  rw [show (Value.type T != Value.ref C) = true from by simp]
  simp only [if_true]
  refine wpAny_bind ((PySem.W.looks_subIn X (t := .ref C) hm).here ?_)
  simp only [Bool.false_eq_true, if_false, Bool.not_false, if_true]
  refine wpAny_bind (m := tryCompare u _ (.ref a)) (wpAny_tryCompare_declines hT h1 (hd _ ⟨rfl, ?_⟩))
  refine wpAny_bind (m := tryCompare (.ref a) _ u) (try_ne hu X I h (wpAny_mono hc (fun v s' ⟨b, e, q⟩ => ⟨b, e, ?_⟩) fun _ _ e => e))
  exact wpAny_pure q
/-- a tuple knows nothing of an instance -/
theorem tup_eq_dec {l : Addr} {items : Array Value} (X : K.In s.heap) (I : PySem.W.InstAt s.heap a ox C od) (h : EqK K C f) (hl : PyProof.Rows.IsTup s.heap l items) : ∀ Q' : Value → Shared → Prop, Q' .notImplemented s → wpAny (model prog w) A (call (.builtin "tuple.__eq__") [.ref l, .ref a]) Q' E s := by
  intro Q' q
  obtain ⟨o, e, hc, n, d⟩ := hl
  refine wpAny_call_entry F.slot_tuple_eq ⟨o, e, hc⟩ F.entry_tuple_eq ?_ (F.args_tuple_eq_2 _ _)
  have li : PySem.W.Looks (model prog w) s.heap (isInstance (.ref a) (.type "tuple")) false := I.type.andThen (PySem.W.looks_subIn X (t := .ref C) h.tup)
  unfold Builtin.«tuple.__eq__»
  repeat (first | (with_reducible refine wpAny_bind (li.here ?_)) | wp_step)
  exact ⟨_, rfl, q⟩
theorem tup_ne_dec {l : Addr} {items : Array Value} (X : K.In s.heap) (I : PySem.W.InstAt s.heap a ox C od) (h : EqK K C f) (hl : PyProof.Rows.IsTup s.heap l items) : ∀ Q' : Value → Shared → Prop, Q' .notImplemented s → wpAny (model prog w) A (call (.builtin "tuple.__ne__") [.ref l, .ref a]) Q' E s := by
  intro Q' q
  obtain ⟨o, e, hc, n, d⟩ := hl
  refine wpAny_call_entry F.slot_tuple_ne ⟨o, e, hc⟩ F.entry_tuple_ne ?_ (F.args_tuple_ne_2 _ _)
  have li : PySem.W.Looks (model prog w) s.heap (isInstance (.ref a) (.type "tuple")) false := I.type.andThen (PySem.W.looks_subIn X (t := .ref C) h.tup)
  unfold Builtin.«tuple.__ne__»
  repeat (first | (with_reducible refine wpAny_bind (li.here ?_)) | wp_step)
  exact ⟨_, rfl, q⟩
theorem non_eq_dec : ∀ Q' : Value → Shared → Prop, Q' .notImplemented s → wpAny (model prog w) A (call (.builtin "NoneType.__eq__") [.none, .ref a]) Q' E s :=
  fun Q' q => call_gives F.slot_NoneType_eq rfl F.entry_NoneType_eq (F.args_NoneType_eq_2 _ _) (PySem.SeqAt.NoneType___eq___none_ref_0 a) q
theorem non_ne_dec : ∀ Q' : Value → Shared → Prop, Q' .notImplemented s → wpAny (model prog w) A (call (.builtin "NoneType.__ne__") [.none, .ref a]) Q' E s :=
  fun Q' q => call_gives F.slot_NoneType_ne rfl F.entry_NoneType_ne (F.args_NoneType_ne_2 _ _) (PySem.SeqAt.NoneType___ne___none_ref_0 a) q
end
/-! ### == and != as mirrors -/
def EqG (P : Program) (w : World) (K : PySem.W.Frag) (mg : Str → Option Value) (base : Heap) (T : List NdefX.NTab) (CS : Nat → CloS) (j : Nat) (c : Str) (fm : FM) : Prop :=
  ∃ C f fd ps, mg c = some (.ref C) ∧ EqK K C f ∧ FnM P w K mg base T CS j f fd ps fm ∧ Binds K fd ps [] ∧ ps.length = 2
def bx (n b : Bool) : Bool := match n with
  | true => !b
  | false => b
def boolX (n : Bool) : Rz D → Rz D
  | .ok (.bl b) S => .ok (.bl (bx n b)) S
  | _ => .bad
def othOk (S : Store) (c : Str) (y : D) : Bool := match insOf S y with
  | some (c', _) => c' == c
  | none => (match y with
    | .tup _ => true
    | .non => true
    | .int _ => true
    | .bl _ => true
    | .str _ => true
    | .fl _ => true
    | _ => false)
def leftOk : D → Bool
  | .tup _ => true
  | .non => true
  | _ => false
def cmpO (n : Bool) (et : List (Str × FM)) (S : Store) (x y : D) : Rz D := match insOf S x with
  | some (c, _) => (match et.lookup c with
    | some fm => if othOk S c y = true then boolX n (fm [.v x, .v y] S) else .bad
    | none => .bad)
  | none => (match insOf S y with
    | some (c, _) => (match et.lookup c with
      | some fm => if leftOk x = true then boolX n (fm [.v y, .v x] S) else .bad
      | none => .bad)
    | none => .bad)
def mCmpO (n : Bool) (et : List (Str × FM)) (ma mb : EM) : EM := fun env S => (ma env S).bind fun x S1 => (mb env S1).bind fun y S2 => match insOf S2 x, insOf S2 y with
  | none, none => Gv.fin false ((match n with
    | true => gNe
    | false => gEq) S2 x y) S2
  | _, _ => cmpO n et S2 x y
theorem boolX_inv {n : Bool} {r : Rz D} {d : D} {S' : Store} (e : boolX n r = .ok d S') : ∃ b, r = .ok (.bl b) S' ∧ d = .bl (bx n b) := by
  unfold boolX at e
  split at e
  · cases e; exact ⟨_, rfl, rfl⟩
  · cases e
section
variable {X : Cx} {F : Fm} {k j : Nat} {CS : Nat → CloS} {pos : Pos} {a b : Expr} {ma mb : EM}
theorem eq_call {A : Around} {pins : List (Addr × Obj)} {σ : St} {H : Hp} {s : Shared} {Q : Bool → Hp → Prop} {S S' : Store} {ρ : Rho} {x y : D} {l f : Addr} {v : V} {u : Value} {fd : FuncData} {ps : List Str} {fm : FM} {b : Bool}
    (hr : Room j A) (hg : A.guards = some []) (e0 : Env0 X.prog X.w X.K X.mg X.base A X.stack s H) (I : Inv X pins σ H s) (Fn : FnM X.prog X.w X.K X.mg X.base F.T CS j f fd ps fm) (hb : Binds X.K fd ps []) (hl : ps.length = 2)
    (rx : RD X.K X.mg ρ H x (.ref l)) (ry : RD X.K X.mg ρ H y v) (ru : RelV v u) (R : RS X.K X.mg F.T ρ S H) (e : fm [.v x, .v y] S = .ok (.bl b) S') (o : ∀ ρ' H', Aft ρ H ρ' H' → RS X.K X.mg F.T ρ' S' H' → Q b H') :
    wpAny (model X.prog X.w) A (call (.ref f) [.ref l, u]) (fun v s' => ∃ b, v = .bool b ∧ ∃ H', Inv X pins σ H' s' ∧ Q b H') X.xe s := by
  have b1 := hb s [.ref l, u] I.kIn (by simpa using hl.symm)
  refine wpAny_call (codeAny_mono (Fn.run noC A X.stack s H ⟨[.ref l, u], []⟩ [.ref l, u] [.ref l, v] [.v x, .v y] S ρ (fun v H' => ∃ b, v = .bl b ∧ Q b H') (fun _ _ _ => False) hr hg e0 (by simpa using b1) (.cons rfl (.cons ru .nil)) (by simpa using hl.symm) Gd.none (.cons rx (.cons ry .nil)) R ?_) fun r s' hq => ?_)
  · rw [e]
    exact fun ρ' H' v t R' rd => ⟨b, rd_bl rd, o ρ' H' t R'⟩
  cases r with
  | error er => exact False.elim ((passes_call (X := X.nox) (W := fun _ _ _ _ => False) LamX.takes0 (fun _ _ _ _ h => h)) pins σ H s er s' (I.wish _) hq)
  | ok fl =>
    cases fl with
    | ret u =>
      obtain ⟨v, H', I3, rv, b, rfl, q3⟩ := I.after hq
      cases rv
      exact ⟨b, rfl, H', I3, q3⟩
    | next => exact False.elim hq
    | brk => exact False.elim hq
    | cont => exact False.elim hq
def rCmpO (X : Cx) (F : Fm) (n : Bool) (et : List (Str × FM)) : R2 := fun x y H Q => ∃ dx dy S ρ d S', RD X.K X.mg ρ H dx x ∧ RD X.K X.mg ρ H dy y ∧ RS X.K X.mg F.T ρ S H ∧ cmpO n et S dx dy = .ok d S' ∧ ∀ ρ' H', Aft ρ H ρ' H' → RS X.K X.mg F.T ρ' S' H' → ∀ v, RD X.K X.mg ρ' H' d v → Q v H'
theorem nf_tup {K : PySem.W.Frag} {C : Addr} : PySem.W.notFirst K C (.type "tuple") = true := rfl
theorem nf_non {K : PySem.W.Frag} {C : Addr} : PySem.W.notFirst K C (.type "NoneType") = true := rfl
theorem nf_self {K : PySem.W.Frag} {C : Addr} : PySem.W.notFirst K C (.ref C) = true := by simp [PySem.W.notFirst]
theorem oth_ok {pins : List (Addr × Obj)} {σ : St} {H : Hp} {s : Shared} {S : Store} {ρ : Rho} {c : Str} {C : Addr} {y : D} {v : V} {u : Value} {P : Program} {w : World} (I : Inv X pins σ H s) (R : RS X.K X.mg F.T ρ S H) (hm : X.mg c = some (.ref C)) (ry : RD X.K X.mg ρ H y v) (ru : RelV v u) (h : othOk S c y = true) :
    ∃ tb, PySem.W.Looks (model P w) s.heap (typeOf u) tb ∧ PySem.W.notFirst X.K C tb = true := by
  unfold othOk at h
  split at h
  · rename_i c' fs ei
    obtain ⟨a, C', dx, ys, rfl, ea, hm', rr⟩ := insOf_ok R ry ei
    rw [beq_iff_eq.mp h, hm] at hm'
    cases hm'
    obtain rfl : u = Value.ref a := ru
    obtain ⟨mA, J, _⟩ := ins_get I.hok ea
    obtain ⟨od, J, _⟩ := J.look
    exact ⟨_, J.type, nf_self⟩
  · split at h
    · obtain ⟨a, xs, rfl, ht, _⟩ := rd_tup ry
      obtain rfl : u = Value.ref a := ru
      obtain ⟨its, _, ⟨o, e, hc, _⟩, _⟩ := I.tuple ht.sq
      exact ⟨.type "tuple", hc ▸ (PySem.W.Looks.ld e).andThen .now, nf_tup⟩
    · obtain rfl := rd_non ry
      cases ru
      exact ⟨.type "NoneType", PySem.W.Looks.of_pure rfl, nf_non⟩
    · obtain rfl := rd_int ry
      obtain ⟨t, rfl⟩ := ru
      exact ⟨.type "int", PySem.W.Looks.of_pure rfl, rfl⟩
    · obtain rfl := rd_bl ry
      cases ru
      exact ⟨.type "bool", PySem.W.Looks.of_pure rfl, rfl⟩
    · obtain rfl := rd_str ry
      obtain ⟨t, rfl⟩ := ru
      exact ⟨.type "str", PySem.W.Looks.of_pure rfl, rfl⟩
    · obtain ⟨a, xs, rfl, ht, _⟩ := rd_fl ry
      obtain rfl : u = Value.ref a := ru
      obtain ⟨its, _, ⟨o, n, e, hc, _⟩, _⟩ := I.list ht.sq
      exact ⟨.type "list", hc ▸ (PySem.W.Looks.ld e).andThen .now, rfl⟩
    · cases h
theorem or_eqO {et : List (Str × FM)} (fx : FX X F k) (hjk : j + 1 ≤ k) (he : ∀ q ∈ et, EqG X.prog X.w X.K X.mg X.base F.T CS j q.1 q.2) : OpR X (compareOp .Eq) (rCmpO X F false et) := by
  intro pins s σ H x y v u Q I rx ry h
  obtain ⟨dx, dy, S, ρ, d, S', hx, hy, R, e, o⟩ := h
  unfold compareOp
  unfold cmpO at e
  split at e
  · rename_i c fs ei
    split at e
    · rename_i fm el
      split at e
      · rename_i ho
        obtain ⟨a, C, dX, ys, rfl, ea, hm, rr⟩ := insOf_ok R hx ei
        obtain rfl : v = Value.ref a := rx
        obtain ⟨C', f, fd, ps, hm', hk, Fn, hb, hl⟩ := he _ (lkS_mem el)
        rw [hm] at hm'; cases hm'
        obtain ⟨b, eb, rfl⟩ := boolX_inv e
        obtain ⟨tb, ht, hn⟩ := oth_ok (P := X.prog) (w := X.w) I R hm hy ry ho
        obtain ⟨mA, J, _⟩ := ins_get I.hok ea
        obtain ⟨od, J, _⟩ := J.look
        exact rich_eqL (by have := fx.room.un; omega) I.kIn J hk ht hn (wpAny_mono (eq_call (Q := fun b H' => Q (.bl b) H') (fx.room.mono (Nat.le_of_succ_le hjk)) fx.gd I.env0 I Fn hb hl hx hy ry R eb (fun ρ' H' t R' => o ρ' H' t R' _ mk_bl)) (fun v s' ⟨b, e, H', I', q⟩ => ⟨b, e, .bl b, H', I', rfl, q⟩) fun _ _ e => e)
      · cases e
    · cases e
  · split at e
    · rename_i c fs ei
      split at e
      · rename_i fm el
        split at e
        · rename_i ho
          obtain ⟨a, C, dX, ys, rfl, ea, hm, rr⟩ := insOf_ok R hy ei
          obtain rfl : u = Value.ref a := ry
          obtain ⟨C', f, fd, ps, hm', hk, Fn, hb, hl⟩ := he _ (lkS_mem el)
          rw [hm] at hm'; cases hm'
          obtain ⟨b, eb, rfl⟩ := boolX_inv e
          obtain ⟨mA, J, _⟩ := ins_get I.hok ea
          obtain ⟨od, J, _⟩ := J.look
          have hc : wpAny (model X.prog X.w) X.A (call (.ref f) [.ref a, v]) (fun v s' => ∃ b, v = .bool b ∧ EP X pins σ Q (.bool b) s') X.xe s := wpAny_mono (eq_call (Q := fun b H' => Q (.bl b) H') (fx.room.mono (Nat.le_of_succ_le hjk)) fx.gd I.env0 I Fn hb hl hy hx rx R eb (fun ρ' H' t R' => o ρ' H' t R' _ mk_bl)) (fun v s' ⟨b, e, H', I', q⟩ => ⟨b, e, .bl b, H', I', rfl, q⟩) fun _ _ e => e
          unfold leftOk at ho
          split at ho
          · obtain ⟨l, xs, rfl, ht, _⟩ := rd_tup hx
            obtain rfl : v = Value.ref l := rx
            obtain ⟨its, _, ht, _⟩ := I.tuple ht.sq
            obtain ⟨o', e1, e2, e3⟩ := id ht
            exact rich_eqR (by have := fx.room.un; omega) I.kIn J hk ⟨o', e1, e2⟩ hk.tup PySem.F.slot_tuple_eq (tup_eq_dec I.kIn J hk ht) hc
          · obtain rfl := rd_non hx
            cases rx
            exact rich_eqR (by have := fx.room.un; omega) I.kIn J hk rfl hk.non PySem.F.slot_NoneType_eq non_eq_dec hc
          · cases ho
        · cases e
      · cases e
    · cases e
theorem or_neO {et : List (Str × FM)} (fx : FX X F k) (hjk : j + 1 ≤ k) (he : ∀ q ∈ et, EqG X.prog X.w X.K X.mg X.base F.T CS j q.1 q.2) : OpR X (compareOp .NotEq) (rCmpO X F true et) := by
  intro pins s σ H x y v u Q I rx ry h
  obtain ⟨dx, dy, S, ρ, d, S', hx, hy, R, e, o⟩ := h
  unfold compareOp
  unfold cmpO at e
  split at e
  · rename_i c fs ei
    split at e
    · rename_i fm el
      split at e
      · rename_i ho
        obtain ⟨a, C, dX, ys, rfl, ea, hm, rr⟩ := insOf_ok R hx ei
        obtain rfl : v = Value.ref a := rx
        obtain ⟨C', f, fd, ps, hm', hk, Fn, hb, hl⟩ := he _ (lkS_mem el)
        rw [hm] at hm'; cases hm'
        obtain ⟨b, eb, rfl⟩ := boolX_inv e
        obtain ⟨tb, ht, hn⟩ := oth_ok (P := X.prog) (w := X.w) I R hm hy ry ho
        obtain ⟨mA, J, _⟩ := ins_get I.hok ea
        obtain ⟨od, J, _⟩ := J.look
        exact rich_neL (by have := fx.room.un; omega) I.kIn J hk ht hn (wpAny_mono (eq_call (Q := fun b H' => Q (.bl (!b)) H') (fx.room.mono hjk).in1 fx.gd I.env0.in1 I Fn hb hl hx hy ry R eb (fun ρ' H' t R' => o ρ' H' t R' _ mk_bl)) (fun v s' ⟨b, e, H', I', q⟩ => ⟨b, e, .bl (!b), H', I', rfl, q⟩) fun _ _ e => e)
      · cases e
    · cases e
  · split at e
    · rename_i c fs ei
      split at e
      · rename_i fm el
        split at e
        · rename_i ho
          obtain ⟨a, C, dX, ys, rfl, ea, hm, rr⟩ := insOf_ok R hy ei
          obtain rfl : u = Value.ref a := ry
          obtain ⟨C', f, fd, ps, hm', hk, Fn, hb, hl⟩ := he _ (lkS_mem el)
          rw [hm] at hm'; cases hm'
          obtain ⟨b, eb, rfl⟩ := boolX_inv e
          obtain ⟨mA, J, _⟩ := ins_get I.hok ea
          obtain ⟨od, J, _⟩ := J.look
          have hc : wpAny (model X.prog X.w) X.A.in1 (call (.ref f) [.ref a, v]) (fun v s' => ∃ b, v = .bool b ∧ EP X pins σ Q (.bool (!b)) s') X.xe s := wpAny_mono (eq_call (Q := fun b H' => Q (.bl (!b)) H') (fx.room.mono hjk).in1 fx.gd I.env0.in1 I Fn hb hl hy hx rx R eb (fun ρ' H' t R' => o ρ' H' t R' _ mk_bl)) (fun v s' ⟨b, e, H', I', q⟩ => ⟨b, e, .bl (!b), H', I', rfl, q⟩) fun _ _ e => e
          unfold leftOk at ho
          split at ho
          · obtain ⟨l, xs, rfl, ht, _⟩ := rd_tup hx
            obtain rfl : v = Value.ref l := rx
            obtain ⟨its, _, ht, _⟩ := I.tuple ht.sq
            obtain ⟨o', e1, e2, e3⟩ := id ht
            exact rich_neR (by have := fx.room.un; omega) I.kIn J hk ⟨o', e1, e2⟩ hk.tup PySem.F.slot_tuple_ne (tup_ne_dec I.kIn J hk ht) hc
          · obtain rfl := rd_non hx
            cases rx
            exact rich_neR (by have := fx.room.un; omega) I.kIn J hk rfl hk.non PySem.F.slot_NoneType_ne non_ne_dec hc
          · cases ho
        · cases e
      · cases e
    · cases e
def gCmp (n : Bool) : Store → D → D → Option Gv := fun S x y => match n with
  | true => gNe S x y
  | false => gEq S x y
theorem rd_cmpO {r : R2} {n : Bool} {et : List (Str × FM)} (ho : OpM X r (gCmp n)) {σ : St} {H : Hp} {Q : VK} (h : rdE X F (mCmpO n et ma mb) σ H Q) : tOp (fun x y H Q => r x y H Q ∨ rCmpO X F n et x y H Q) (rdE X F ma) (rdE X F mb) σ H Q := by
  obtain ⟨env, S, ρ, re, rs, o⟩ := h
  refine ⟨env, S, ρ, re, rs, (OutE.bind o).imp fun x ρ1 S1 H1 t1 R1 o1 v hv => ?_⟩
  refine ⟨env, S1, ρ1, re.later t1, R1, (OutE.bind o1).imp fun y ρ2 S2 H2 t2 R2 o2 u hu => ?_⟩
  have key : ∀ {S2 : Store} {ρ2 : Rho} {H2 : Hp}, RS X.K X.mg F.T ρ2 S2 H2 → RD X.K X.mg ρ2 H2 x v → RD X.K X.mg ρ2 H2 y u → (OutE X F σ ρ2 H2 (cmpO n et S2 x y) fun a ρ' _ H' => ∀ v, RD X.K X.mg ρ' H' a v → Q v H') → rCmpO X F n et v u H2 Q := by
    intro S2 ρ2 H2 R2 hv hu o2
    cases ec : cmpO n et S2 x y with
    | ok d S' => rw [ec] at o2; exact ⟨x, y, S2, ρ2, d, S', hv, hu, R2, ec, fun ρ' H' t R' w rw' => o2 ρ' H' t R' w rw'⟩
    | exc c fs S' =>
      exfalso
      unfold cmpO at ec
      unfold boolX at ec
      repeat (split at ec <;> try (cases ec))
    | bad => rw [ec] at o2; exact o2.elim
  split at o2
  · refine .inl (ho F.T ρ2 S2 H2 x y v u Q R2 (hv.later t2.mv) hu (GvOk.of (F := F) (σ := σ) (S := S2) (al := false) R2 ?_))
    unfold gCmp
    cases n <;> exact o2
  · exact .inr (key R2 (hv.later t2.mv) hu o2)
theorem om_cEq : OpM X (rEqA X.K) (gCmp false) := om_eq
theorem om_cNe : OpM X (rNeA X.K) (gCmp true) := om_ne
section
variable {et : List (Str × FM)} (fx : FX X F k) (hjk : j + 1 ≤ k) (he : ∀ q ∈ et, EqG X.prog X.w X.K X.mg X.base F.T CS j q.1 q.2) (ha : PE X a (rdE X F ma)) (hb : PE X b (rdE X F mb))
include fx hjk he ha hb
theorem e_eqO (hm : behindInMarks .Eq b = false) : PE X (.Compare a [.Eq] [b] pos) (rdE X F (mCmpO false et ma mb)) :=
  PE.imp (pe_cmpR ((or_eq fx).or (or_eqO fx hjk he)) ha hb hm) fun _ _ _ h => rd_cmpO om_cEq h
theorem e_neO (hm : behindInMarks .NotEq b = false) : PE X (.Compare a [.NotEq] [b] pos) (rdE X F (mCmpO true et ma mb)) :=
  PE.imp (pe_cmpR ((or_ne fx).or (or_neO fx hjk he)) ha hb hm) fun _ _ _ h => rd_cmpO om_cNe h
theorem t_eqO (hm : behindInMarks .Eq b = false) : PT X (.Compare a [.Eq] [b] pos) (rdT X F (mB (mCmpO false et ma mb))) :=
  PT.imp (pt_cmpR ((or_eq fx).or (or_eqO fx hjk he)) ha hb hm) fun _ _ _ h => rd_test (fun _ _ _ h => rd_cmpO om_cEq h) h
theorem t_neO (hm : behindInMarks .NotEq b = false) : PT X (.Compare a [.NotEq] [b] pos) (rdT X F (mB (mCmpO true et ma mb))) :=
  PT.imp (pt_cmpR ((or_ne fx).or (or_neO fx hjk he)) ha hb hm) fun _ _ _ h => rd_test (fun _ _ _ h => rd_cmpO om_cNe h) h
end
end
/-! ### truth of instances -/
def TruO (K : PySem.W.Frag) (mg : Str → Option Value) (c : Str) : Prop := ∃ C, mg c = some (.ref C) ∧ PySem.W.findIn K (.ref C) "__bool__" = some none ∧ PySem.W.findIn K (.ref C) "__len__" = some none
def truO (cs : List Str) (S : Store) (d : D) : Option Bool := match insOf S d with
  | some (c, _) => if cs.contains c = true then some true else none
  | none => truD S d
def mTO (cs : List Str) (m : EM) : TM := fun env S => (m env S).bind fun d S1 => match truO cs S1 d with
  | some b => .ok b S1
  | none => .bad
section
variable {X : Cx} {F : Fm} {a : Expr} {ma : EM}
theorem tru_ob : TruR X (fun x H Q => ∃ l C dx fs, x = .ref l ∧ H l = some (.ins C dx fs) ∧ PySem.W.findIn X.K (.ref C) "__bool__" = some none ∧ PySem.W.findIn X.K (.ref C) "__len__" = some none ∧ Q true H) := by
  intro pins s σ H x v Q I rx h
  obtain ⟨l, C, dx, fs, rfl, e, h1, h2, q⟩ := h
  obtain rfl : v = Value.ref l := rx
  obtain ⟨mA, J, _⟩ := ins_get I.hok e
  obtain ⟨od, J, _⟩ := J.look
  obtain ⟨m, hF⟩ := I.fr
  exact PySem.W.truthy_K0 hF I.ok.mod.kin J h1 h2 ⟨H, I, q⟩
theorem t_truthO {cs : List Str} (hcs : ∀ c ∈ cs, TruO X.K X.mg c) (ha : PE X a (rdE X F ma)) (he : ∀ whole, isTrue a X.env whole = (do let v ← whole; standAt a.pos; holding [v] (truthy v)) := by intro _; rfl) : PT X a (rdT X F (mTO cs ma)) := by
  refine PT.imp (pt_truthR (r := fun x H Q => (∃ k, TruV X.K x H k ∧ Q k H) ∨ ∃ l C dx fs, x = .ref l ∧ H l = some (.ins C dx fs) ∧ PySem.W.findIn X.K (.ref C) "__bool__" = some none ∧ PySem.W.findIn X.K (.ref C) "__len__" = some none ∧ Q true H) ha (fun pins s σ H x v Q I rx h => h.elim (tru_ok pins s σ H x v Q I rx) (tru_ob pins s σ H x v Q I rx)) he) fun σ H Q ⟨env, S, ρ, re, rs, o⟩ => ?_
  refine ⟨env, S, ρ, re, rs, (OutE.bind o).imp fun x ρ1 S1 H1 t1 R1 o1 v hv => ?_⟩
  split at o1
  · rename_i b hb
    unfold truO at hb
    split at hb
    · rename_i c fs ei
      split at hb
      · rename_i hc
        cases hb
        obtain ⟨l, C, dx, ys, rfl, ea, hm, rr⟩ := insOf_ok R1 hv ei
        obtain ⟨C', hm', h1, h2⟩ := hcs c (by simpa using hc)
        rw [hm] at hm'; cases hm'
        exact .inr ⟨l, C, dx, ys, rfl, ea, h1, h2, o1 ρ1 H1 Aft.refl R1⟩
      · cases hb
    · exact .inl ⟨b, truD_ok R1 hv hb, o1 ρ1 H1 Aft.refl R1⟩
  · exact o1.elim
end
/-! ### the facts, looked up -/
open He
def eqB (K : PySem.W.Frag) (c : Str) (p : Str × Option Str) : Bool :=
  decide (PySem.W.findIn K (.ref (ga K c)) "__eq__" = some (some (.ref (fAd K p)))) && (PySem.W.isFn K (.ref (fAd K p)) && (decide (PySem.W.findIn K (.ref (ga K c)) "__ne__" = some (some (.builtin "object.__ne__"))) &&
    (decide (PySem.W.mroIn K (ga K c) (.type "object") = some true) && (decide (PySem.W.mroIn K (ga K c) (.type "tuple") = some false) && decide (PySem.W.mroIn K (ga K c) (.type "NoneType") = some false)))))
theorem eqB_ok {K : PySem.W.Frag} {c : Str} {p : Str × Option Str} (h : eqB K c p = true) : EqK K (ga K c) (fAd K p) := by
  obtain ⟨h1, h⟩ := ba h
  obtain ⟨h2, h⟩ := ba h
  obtain ⟨h3, h⟩ := ba h
  obtain ⟨h4, h⟩ := ba h
  obtain ⟨h5, h6⟩ := ba h
  exact ⟨of_decide_eq_true h1, h2, of_decide_eq_true h3, of_decide_eq_true h4, of_decide_eq_true h5, of_decide_eq_true h6⟩
theorem eqG_of {P : Program} {w : World} {K : PySem.W.Frag} {mg : Str → Option Value} {base : Heap} {T : List NdefX.NTab} {CS : Nat → CloS} {i j : Nat} {c : Str} {d : DefD} {ps : List Str} {fm : FM} (h : eqB K c d.at_ = true) (hm : mg c = some (.ref (ga K c))) (G : FnA P w K mg base T CS i d ps fm) (hij : i ≤ j) (hl : ps.length = 2) : EqG P w K mg base T CS j c fm := by
  obtain ⟨fd, Fn, hb, _⟩ := G
  exact ⟨_, _, fd, ps, hm, eqB_ok h, Fn.mono hij, hb, hl⟩
def truB (K : PySem.W.Frag) (c : Str) : Bool := decide (PySem.W.findIn K (.ref (ga K c)) "__bool__" = some none) && decide (PySem.W.findIn K (.ref (ga K c)) "__len__" = some none)
theorem truO_of {K : PySem.W.Frag} {mg : Str → Option Value} {c : Str} (h : truB K c = true) (hm : mg c = some (.ref (ga K c))) : TruO K mg c := by
  obtain ⟨h1, h2⟩ := ba h
  exact ⟨_, hm, of_decide_eq_true h1, of_decide_eq_true h2⟩
end M3

set_option Elab.async false
set_option linter.all false
set_option maxRecDepth 100000
set_option maxHeartbeats 1000000
/-! M3V: a law's call, by the law's mirror. -/
namespace M3
open PySem PySem.Spec
/-- the abstract heap at the law's call: the script as it lies, the tables empty -/
def headH (K : PySem.W.Frag) (a : Addr) (o : Obj) (xs : List L2.V) (ts : List Addr) : L2.Hp := fun b => if b = a ∧ K.lookup a = none then some (.frz o (.lst xs)) else if b ∈ ts then some (.tbl #[]) else none
section
variable {K : PySem.W.Frag} {a : Addr} {o : Obj} {xs : List L2.V} {ts : List Addr}
theorem headH_inv {b : Addr} {u : L2.HO} (h : headH K a o xs ts b = some u) : (b = a ∧ K.lookup a = none ∧ u = .frz o (.lst xs)) ∨ (b ∈ ts ∧ u = .tbl #[]) := by
  unfold headH at h
  split at h
  · rename_i q
    cases h
    exact .inl ⟨q.1, q.2, rfl⟩
  · split at h
    · rename_i q
      cases h
      exact .inr ⟨q, rfl⟩
    · cases h
theorem headH_tab {b : Addr} (ha : a ∉ ts) (hb : b ∈ ts) : headH K a o xs ts b = some (.tbl #[]) := by
  unfold headH
  have h1 : ¬ (b = a ∧ K.lookup a = none) := fun q => ha (q.1 ▸ hb)
  exact (if_neg h1).trans (if_pos hb)
theorem headH_a (hk : K.lookup a = none) : headH K a o xs ts a = some (.frz o (.lst xs)) := if_pos ⟨rfl, hk⟩
end
section
open L2 PyProof.Rows
variable {P : Program} {w : World} {K : PySem.W.Frag} {mg mb : Str → Option Value} {k : Nat} {CS : Nat → CloS} {fa a : Addr} {T : List NdefX.NTab} {cs : List (Addr × Addr)} {x : Str} {fm : FM} {s : Shared} {vs : List Value} {ns : List Int}
theorem law_callM (KX : K.In s.heap) (hns : s.heap.Ns mainGlobals mg) (hb : s.heap.Ns builtinsNs mb) (hbb : ∀ x : Str, x ≠ "__name__" → mb x = bootBuiltins x) (hlim : s.heap.NoLimit) (hg : s.gens = #[])
    (hT : ∀ p ∈ cs, s.heap.get? p.2 = some { cls := .none, data := .fields #[] }) (nT : ∀ p ∈ cs, K.lookup p.2 = none) (C : ∀ p ∈ cs, PySem.W.codeHdIn K p.1 p.2 = true) (eT : T.map (·.1) = cs.map (·.2))
    (hbm : ∃ (bm : Addr) (ob : Obj), mg "__builtins__" = some (.ref bm) ∧ bm ≠ builtinsNs ∧ s.heap.get? bm = some ob ∧ ob.cls = .type "module" ∧ ob.dict = some builtinsNs ∧ ob.data = .plain)
    (ha : s.heap.get? a = some { cls := .type "list", data := .seq vs.toArray }) (hi : IntsAre vs ns) (hl : ns.length ≤ sizeLine) (hr : Room k callerA)
    (F : ∀ base : Heap, K.In base → base.Ns mainGlobals mg → (∀ p ∈ cs, LamX.TabB base mg p.1 p.2) → ∃ fd, FnM P w K mg base T CS k fa fd [x] fm ∧ Binds K fd [x] [])
    {S' : Store} (hm : fm [.v (.fz (ns.map D.int))] [] = .ok (.bl true) S') :
    codeAny (model P w) callerA (.call (.ref fa) ⟨[.ref a], []⟩) (fun r s' => r = .ok (.ret (.bool true)) ∧ OldK s.heap s'.heap ∧ s'.os = s.os ∧ AllBare s'.gens) s := by
  have rv := vals_ints hi
  have lenV := hi.length
  have isT : ∀ b ∈ cs.map (·.2), s.heap.get? b = some { cls := .none, data := .fields #[] } := fun b hb => by
    obtain ⟨p, hp, rfl⟩ := List.mem_map.mp hb
    exact hT p hp
  have aT : a ∉ cs.map (·.2) := fun z => by
    have q := isT a z
    rw [ha] at q
    cases q
  let H : Hp := headH K a { cls := .type "list", data := .seq vs.toArray } (ns.map V.int) (cs.map (·.2))
  have inv : ∀ {b : Addr} {u : HO}, H b = some u → (b = a ∧ K.lookup a = none ∧ u = .frz { cls := .type "list", data := .seq vs.toArray } (.lst (ns.map V.int))) ∨ (b ∈ cs.map (·.2) ∧ u = .tbl #[]) := headH_inv
  have free : ∀ {b : Addr} {o : Obj}, s.heap.get? b = some o → (∀ v n, o.data ≠ .seq v n) → o.data ≠ .fields #[] → H b = none := fun {b o} e h1 h2 => by
    cases q : H b with
    | none => rfl
    | some u =>
      rcases inv q with ⟨rfl, _, _⟩ | ⟨hb, _⟩
      · rw [ha] at e; cases e; exact absurd rfl (h1 _ _)
      · rw [isT b hb] at e; cases e; exact absurd rfl h2
  have atK : ∀ {b : Addr} {o : Obj}, K.lookup b = some o → H b = none := fun {b o} e => by
    cases q : H b with
    | none => rfl
    | some u =>
      rcases inv q with ⟨rfl, h, _⟩ | ⟨hb, _⟩
      · rw [h] at e; cases e
      · obtain ⟨p, hp, rfl⟩ := List.mem_map.mp hb
        rw [nT p hp] at e; cases e
  have nsB : ∀ {b : Addr} {m : Str → Option Value}, s.heap.Ns b m → (hidT s.heap H).Ns b m := fun {b m} ⟨o, es, ep, e, d, r⟩ => ⟨o, es, ep, hidT_get e (free e (fun v n z => by rw [d] at z; cases z) fun z => by rw [d] at z; cases z), d, r⟩
  have hK : K.In (hidT s.heap H) := fun b o e => hidT_get (KX b o e) (atK e)
  have hM : L2.Mod K mg (hidT s.heap H) := ⟨hK, nsB hns, ⟨mb, nsB hb, hbb⟩, let ⟨mc, h1, h2⟩ := hlim; ⟨mc, nsB h1, h2⟩⟩
  have plainG : ∀ {o : Obj}, s.heap.get? mainGlobals = some o → o.data ≠ .plain ∧ o.data ≠ .fields #[] := fun {o} e => by
    obtain ⟨o', es, ep, e', d, _⟩ := hns
    rw [e] at e'; cases e'
    rw [d]
    exact ⟨fun z => (by cases z), fun z => (by cases z)⟩
  have TB : ∀ p ∈ cs, LamX.TabB (hidT s.heap H) mg p.1 p.2 := fun p hp => by
    obtain ⟨bm, ob, b1, b2, b3, b4, b5, b6⟩ := hbm
    refine NdefX.tabB_of_K hK (C p hp) ⟨bm, ob, b1, b2, fun q => ?_, fun q => ?_, hidT_get b3 (free b3 (fun v n z => by rw [b6] at z; cases z) fun z => by rw [b6] at z; cases z), b4, b5, b6⟩ fun z => ?_
    · exact (plainG (q ▸ b3)).1 b6
    · rw [q, hT p hp] at b3
      cases b3
      cases b6
    · have q := hT p hp
      rw [← z] at q
      exact (plainG q).2 rfl
  have hok : HOk P w H s.heap := fun b u q => by
    rcases inv q with ⟨rfl, _, rfl⟩ | ⟨hb, rfl⟩
    · exact ⟨ha, by rw [List.length_map]; exact hl, vs, _, rv, ha⟩
    · exact isT b hb
  have tabT : ∀ p ∈ cs, H p.2 = some (.tbl #[]) := fun p hp => headH_tab aT (List.mem_map.mpr ⟨p, hp, rfl⟩)
  have e0 : Env0 P w K mg (hidT s.heap H) callerA [] s H := ⟨rfl, hM, fun b o e => of_hidT e, Nat.le_of_eq (hidT_size _ _), trivial, fun b hb => absurd (show b ∈ ([] : List Addr) from hb) (by simp), hok, .of_eq hg⟩
  have rds : ∀ (l : List Int), RDs K mg ⟨[], []⟩ H (l.map D.int) (l.map V.int) := fun l => by
    induction l with
    | nil => exact RDs.nil_iff.mpr rfl
    | cons i l ih => exact RDs.cons_iff.mpr ⟨_, _, rfl, by unfold RD; rfl, ih⟩
  have scr : RD K mg ⟨[], []⟩ H (.fz (ns.map D.int)) (.ref a) := by
    unfold RD
    refine ⟨a, ns.map V.int, rfl, ?_, rds ns⟩
    cases hk : K.lookup a with
    | none => exact .inl ⟨.inr ⟨_, headH_a hk⟩, by simp [Rho.off]⟩
    | some o =>
      have e := KX a o hk
      rw [ha] at e
      cases e
      exact .inr ⟨_, vs.toArray, _, hk, rfl, rfl, rfl, by rw [List.size_toArray, lenV]; exact hl, by simpa using rv⟩
  have tabsN : NdefX.TabsN T H := fun p hp => by
    have : p.1 ∈ cs.map (·.2) := eT ▸ List.mem_map.mpr ⟨p, hp, rfl⟩
    exact ⟨#[], headH_tab aT this, by first | trivial | simp [TriplesOk] | decide, fun pos cv h => by cases h⟩
  have R : RS K mg T ⟨[], []⟩ [] H := ⟨rfl, List.nodup_nil, fun n c e => (by simp at e), tabsN, fun a h => (by cases h)⟩
  obtain ⟨fd, Fn, hbind⟩ := F _ hK (nsB hns) TB
  refine codeAny_mono (Fn.run noC callerA [] s H ⟨[.ref a], []⟩ [.ref a] [.ref a] [.v (.fz (ns.map D.int))] [] ⟨[], []⟩ (fun v _ => v = .bl true) (fun _ _ _ => False) hr rfl e0 (by simpa using hbind s [.ref a] KX rfl) (.cons rfl .nil) rfl Gd.none (.cons scr .nil) R (by rw [hm]; exact fun ρ' H' v t R' rd => rd_bl rd)) fun r s' h => ?_
  cases r with
  | error e =>
    obtain ⟨_, _, _, _, _, _, _, _, _, _, _, _, z⟩ := h
    exact z.elim
  | ok fl =>
    cases fl with
    | next => exact False.elim h
    | brk => exact False.elim h
    | cont => exact False.elim h
    | ret u =>
      obtain ⟨v, H', os, bare, un, hok', r', q⟩ := h
      obtain rfl : v = .bl true := q
      obtain rfl : u = Value.bool true := r'
      have keep : ∀ {b o}, b ∉ cs.map (·.2) → s.heap.get? b = some o → s'.heap.get? b = some o := fun {b o} nb e => by
        cases q : H b with
        | none => exact un.keep b o e q (by simp [frs]) (by simp)
        | some u =>
          rcases inv q with ⟨rfl, _, rfl⟩ | ⟨z, _⟩
          · obtain ⟨z, _⟩ := hok' b _ (un.frzs b _ _ q)
            rw [ha] at e; cases e
            exact z
          · exact absurd z nb
      have grown : ∀ p ∈ cs, ∃ more : Array Value, s'.heap.get? p.2 = some { cls := .none, data := .fields more } := fun p hp => by
        obtain ⟨more, z⟩ := un.tbls p.2 #[] (tabT p hp)
        exact ⟨_, hok' p.2 _ z⟩
      refine ⟨rfl, ⟨fun b o e => ?_, fun b o e => ?_⟩, os, bare⟩
      · by_cases hb : b ∈ cs.map (·.2)
        · obtain ⟨p, hp, rfl⟩ := List.mem_map.mp hb
          obtain ⟨more, hm⟩ := grown p hp
          rw [hT p hp] at e
          cases e
          exact .inr (.inl ⟨((PySem.W.codeHd_of_K KX (C p hp)).tab (hT p hp)).isCodeTable, rfl, #[], more, rfl, by rw [Array.empty_append]; exact hm⟩)
        · exact .inl (keep hb e)
      · by_cases hb : b ∈ cs.map (·.2)
        · obtain ⟨p, hp, rfl⟩ := List.mem_map.mp hb
          exact ⟨_, (grown p hp).choose_spec⟩
        · exact ⟨o, keep hb e⟩
end
section
open L2 PyProof.Rows He
theorem walk_ofM {l : PySem.W.OpenLaw} {n k nh : Nat} {q : Program} {loose : List Str} {XP : (Str → Option Value) → Heap → Prop} {d : DefRec} {x : Str} {fa : List Fa} {fn pd : List DefD} {tf : List Defn} {ex : PySem.W.Frag → Bool} {nm : Nat → Nat → Str} {CS : Nat → CloS} {dl : DefD} {fm : FM}
    (hn : l.most = some n) (hn2 : n ≤ sizeLine) (hdf : d.params.defaults = []) (hr : Room k callerA) (hat : dl.at_ = (d.name, none)) (i : Nat) (hfa : fa[i]? = some (.glo d.name))
    (G : ∀ {w : World} {K : PySem.W.Frag} {mg : Str → Option Value} {base : Heap}, M3.Ctx fa fn pd tf ex K mg base → FnA l.prog w K mg base (tabs tf nm K) CS k dl [x] fm)
    (hm : ∀ ns : List Int, ns.length ≤ n → (∀ z ∈ ns, Builtin.Int.intBits z ≤ 1048576) → ∃ S', fm [.v (.fz (ns.map D.int))] [] = .ok (.bl true) S') :
    PySem.W.WalkO q loose XP (hookP nh fa fn pd tf ex).says l.row.toRowW d [] (fun f vs => PySem.call f vs) := by
  refine Att.attach_callB hn hdf fun w s₀ s₁ mg mb fa' o pm cd doc a vs ns G' Y ho hd hcd hmg hobj hints hlen hbits hg => ?_
  obtain ⟨K, KX, c⟩ := Y
  obtain ⟨S', hm⟩ := hm ns hlen hbits
  obtain ⟨m1, m2⟩ := ba c.x.more
  have mk : ∀ base : Heap, K.In base → base.Ns mainGlobals mg → (∀ p ∈ tf.map (cT K), LamX.TabB base mg p.1 p.2) → M3.Ctx fa fn pd tf ex K mg base := fun base hK hN hT => ⟨c.x.t.d, c.p, m2, m1, hK, hN, fun q hq => hT _ (List.mem_map.mpr ⟨q, hq, rfl⟩)⟩
  have e : fa' = fAd K dl.at_ := by
    have h2 : mg d.name = some (.ref (ga K d.name)) := glo_ok KX G'.T.g (c.x.t.d.fact i hfa)
    rw [hmg] at h2
    cases h2
    rw [hat]
    rfl
  subst e
  refine law_callM (CS := CS) (x := x) (T := tabs tf nm K) (cs := tf.map (cT K)) KX G'.T.g G'.T.b G'.T.builtins G'.T.nolimit hg (fun p hp => ?_) (fun p hp => ?_) (fun p hp => ?_) (by simp [tabs, List.map_map, Function.comp_def]) G'.T.bmain hobj hints (Nat.le_trans hlen hn2) hr (fun base hK hN hT => ?_) hm
  · obtain ⟨q, hq, rfl⟩ := List.mem_map.mp hp
    exact c.x.empty q hq
  · obtain ⟨q, hq, rfl⟩ := List.mem_map.mp hp
    exact c.x.out q hq
  · obtain ⟨q, hq, rfl⟩ := List.mem_map.mp hp
    exact c.x.hd q hq
  · obtain ⟨fd, Fn, hb, _⟩ := G (mk base hK hN hT)
    exact ⟨fd, Fn, hb⟩
end
end M3

set_option Elab.async false
set_option linter.all false
set_option maxRecDepth 100000
set_option maxHeartbeats 1000000
/-! M3W: the plain law: loops, what is left behind a call, the urn. -/
namespace M3
open PySem
/-! ### data without parts of the store from L on -/
mutual
theorem mapR_cl {S : Store} {L k : Nat} : ∀ d : D, clD L d = true → mapR (frzR S L k) d = some d
  | .ref n, h => by
    unfold clD at h
    have h := of_decide_eq_true h
    unfold mapR
    cases k <;> (unfold frzR; rw [if_pos h])
  | .tup ds, h => by unfold clD at h; unfold mapR; rw [mapRs_cl ds h]; rfl
  | .fl ds, h => by unfold clD at h; unfold mapR; rw [mapRs_cl ds h]; rfl
  | .fz ds, h => by unfold clD at h; unfold mapR; rw [mapRs_cl ds h]; rfl
  | .ob c fs, h => by unfold clD at h; unfold mapR; rw [mapRf_cl fs h]; rfl
  | .non, _ => rfl
  | .bl _, _ => rfl
  | .int _, _ => rfl
  | .str _, _ => rfl
  | .ty _, _ => rfl
  | .gl _, _ => rfl
theorem mapRs_cl {S : Store} {L k : Nat} : ∀ ds : List D, clDs L ds = true → mapRs (frzR S L k) ds = some ds
  | [], _ => rfl
  | d :: ds, h => by
    unfold clDs at h
    obtain ⟨h1, h2⟩ := Bool.and_eq_true_iff.mp h
    unfold mapRs
    rw [mapR_cl d h1, mapRs_cl ds h2]
theorem mapRf_cl {S : Store} {L k : Nat} : ∀ ds : List (Str × D), clDf L ds = true → mapRf (frzR S L k) ds = some ds
  | [], _ => rfl
  | (f, d) :: ds, h => by
    unfold clDf at h
    obtain ⟨h1, h2⟩ := Bool.and_eq_true_iff.mp h
    unfold mapRf
    rw [mapR_cl d h1, mapRf_cl ds h2]
end
theorem frzM_ok {fm : FM} {es : List EV} {S S1 : Store} {d d' : D} (h : fm es S = .ok d S1) (ok : frzOk S S1) (m : mapR (frzR S1 S.length 4) d = some d') : frzM fm es S = .ok d' (S1.take S.length) := by
  unfold frzM frz
  rw [h]
  dsimp only
  rw [if_pos ok, m]
theorem frzOk_set {S ext : Store} {n : Nat} {c : Cell} (hc : clC S.length c = true) : frzOk S (S.set n c ++ ext) := by
  refine ⟨by simp, fun i hi => ?_⟩
  rw [List.getElem?_append_left (by simpa using hi)]
  by_cases e : n = i
  · subst e
    exact .inr ⟨c, List.getElem?_set_self hi, hc⟩
  · exact .inl (List.getElem?_set_ne e)
theorem take_set {S ext : Store} {n : Nat} {c : Cell} : (S.set n c ++ ext).take S.length = S.set n c := by
  rw [List.take_append_of_le_length (by simp), List.take_of_length_le (by simp)]
/-- a call that changes no thing of the store -/
theorem frzM_pure {fm : FM} {es : List EV} {S ext : Store} {d d' : D} (h : fm es S = .ok d (S ++ ext)) (m : mapR (frzR (S ++ ext) S.length 4) d = some d') : frzM fm es S = .ok d' S := by
  have e := frzM_ok h ⟨by simp, fun i hi => .inl (List.getElem?_append_left hi)⟩ m
  rwa [List.take_left] at e
theorem frzM_cl {fm : FM} {es : List EV} {S : Store} {d : D} (h : fm es S = .ok d S) (c : clD S.length d = true) : frzM fm es S = .ok d S :=
  frzM_pure (ext := []) (by rw [List.append_nil]; exact h) (by rw [List.append_nil]; exact mapR_cl d c)
/-! ### loops -/
theorem forG_nx {s : Src} {tg : GM} {body : SM} (hs : s.1 = []) (I : List D → Evs → Store → Prop) (step : ∀ d r env S, I (d :: r) env S → ∃ p e S1, tg d env S = some p ∧ body p.1 p.2 = .nx e S1 ∧ I r e S1) :
    ∀ (ds : List D) (env : Evs) (S : Store), I ds env S → ∃ env' S', forG s tg body ds env S = .nx env' S' ∧ I [] env' S'
  | [], env, S, h => by
    obtain ⟨a, b⟩ := s
    cases hs
    unfold forG
    rw [okS_none, if_pos rfl]
    exact ⟨env, S, rfl, h⟩
  | d :: r, env, S, h => by
    obtain ⟨p, e, S1, h1, h2, h3⟩ := step d r env S h
    obtain ⟨env', S', h4, h5⟩ := forG_nx hs I step r e S1 h3
    refine ⟨env', S', ?_, h5⟩
    obtain ⟨a, b⟩ := s
    cases hs
    unfold forG
    rw [okS_none, if_pos rfl, h1]
    dsimp only
    rw [h2]
    exact h4
theorem lcG_map {s : Src} {tg : GM} {tt : TM} {me : EM} {env : Evs} {S : Store} {f : D → D} (hs : s.1 = []) : ∀ (ds : List D), (∀ d ∈ ds, ∃ env', tg d env S = some (env', S) ∧ tt env' S = .ok true S ∧ me env' S = .ok (f d) S) → lcG s tg tt me env ds S = some (ds.map f, S)
  | [], _ => by
    obtain ⟨a, b⟩ := s
    cases hs
    unfold lcG
    rw [okS_none, if_pos rfl]
    rfl
  | d :: r, h => by
    obtain ⟨env', h1, h2, h3⟩ := h d List.mem_cons_self
    have h4 := lcG_map (f := f) hs r fun d hd => h d (List.mem_cons_of_mem _ hd)
    obtain ⟨a, b⟩ := s
    cases hs
    unfold lcG
    rw [okS_none, if_pos rfl, h1]
    dsimp only
    rw [h2]
    dsimp only
    rw [h3]
    dsimp only
    rw [h4]
    rfl
theorem lcG_inv {s : Src} {tg : GM} {tt : TM} {me : EM} {env : Evs} (hs : s.1 = []) (I : List D → List D → Store → Prop) (step : ∀ d r xs S, I (d :: r) xs S → ∃ p x S1 S2, tg d env S = some p ∧ tt p.1 p.2 = .ok true S1 ∧ me p.1 S1 = .ok x S2 ∧ I r (xs ++ [x]) S2) :
    ∀ (ds xs : List D) (S : Store), I ds xs S → ∃ ys S', lcG s tg tt me env ds S = some (ys, S') ∧ I [] (xs ++ ys) S'
  | [], xs, S, h => by
    obtain ⟨a, b⟩ := s
    cases hs
    unfold lcG
    rw [okS_none, if_pos rfl]
    exact ⟨[], S, rfl, by rw [List.append_nil]; exact h⟩
  | d :: r, xs, S, h => by
    obtain ⟨p, x, S1, S2, h1, h2, h3, h4⟩ := step d r xs S h
    obtain ⟨ys, S', h5, h6⟩ := lcG_inv hs I step r (xs ++ [x]) S2 h4
    refine ⟨x :: ys, S', ?_, by rw [List.append_assoc] at h6; exact h6⟩
    obtain ⟨a, b⟩ := s
    cases hs
    unfold lcG
    rw [okS_none, if_pos rfl, h1]
    dsimp only
    rw [h2]
    dsimp only
    rw [h3]
    dsimp only
    rw [h5]
/-! ### the urn -/
abbrev uc (u : Int × Int × Int) : Cell := .lst [.int u.1, .int u.2.1, .int u.2.2]
def Urn (S : Store) (n : Nat) : Prop := ∃ u, S[n]? = some (uc u)
theorem Urn.lt {S : Store} {n : Nat} (h : Urn S n) : n < S.length := by
  obtain ⟨u, h⟩ := h
  exact (List.getElem?_eq_some_iff.mp h).1
theorem Urn.set {S : Store} {n : Nat} (h : Urn S n) (u : Int × Int × Int) : Urn (S.set n (uc u)) n := ⟨u, List.getElem?_set_self h.lt⟩
theorem Urn.app {S : Store} {n : Nat} (h : Urn S n) (ext : Store) : Urn (S ++ ext) n := by
  obtain ⟨u, e⟩ := id h
  exact ⟨u, by rw [List.getElem?_append_left h.lt]; exact e⟩
theorem set_app {S ext : Store} {n : Nat} {c : Cell} (h : n < S.length) : (S ++ ext).set n c = S.set n c ++ ext := List.set_append_left _ _ h
/-- ends with a datum, nothing but the urn is changed -/
def Dr (S : Store) (n : Nat) (r : Rz D) (P : D → Prop) : Prop := ∃ d u, r = .ok d (S.set n (uc u)) ∧ P d
theorem clC_uc {L : Nat} (u : Int × Int × Int) : clC L (uc u) = true := rfl
theorem dr_frz {fm : FM} {es : List EV} {S ext : Store} {n : Nat} {P : D → Prop} {d d' : D} {u : Int × Int × Int} (h : fm es S = .ok d (S.set n (uc u) ++ ext)) (m : mapR (frzR (S.set n (uc u) ++ ext) S.length 4) d = some d') (p : P d') : Dr S n (frzM fm es S) P :=
  ⟨d', u, by rw [frzM_ok h (frzOk_set (clC_uc u)) m, take_set], p⟩
theorem dr_frz0 {fm : FM} {es : List EV} {S : Store} {n : Nat} {P : D → Prop} {d : D} {u : Int × Int × Int} (h : fm es S = .ok d (S.set n (uc u))) (c : clD S.length d = true) (p : P d) : Dr S n (frzM fm es S) P :=
  dr_frz (ext := []) (u := u) (by rw [List.append_nil]; exact h) (mapR_cl d c) p
theorem Dr.imp {S : Store} {n : Nat} {r : Rz D} {P Q : D → Prop} (h : Dr S n r P) (i : ∀ d, P d → Q d) : Dr S n r Q := by
  obtain ⟨d, u, e, p⟩ := h
  exact ⟨d, u, e, i d p⟩
/-! ### sorting -/
open PySem.W (dataLe dataLt alike keyToks)
theorem sortDs_map (f : D → PyData) (ds : List D) : sortDs ds (ds.map f) = ds.mergeSort (dataLe false f) := by
  unfold sortDs
  have e : ds.zip (ds.map f) = ds.map fun d => (d, f d) := by
    induction ds with
    | nil => rfl
    | cons d ds ih => rw [List.map_cons, List.zip_cons_cons, ih, List.map_cons]
  have h := List.map_mergeSort (r := dataLe false f) (s := dataLe false (·.2)) (f := fun d : D => (d, f d)) (l := ds) fun _ _ _ _ => rfl
  rw [e, ← h, List.map_map]
  exact List.map_id _
theorem sort_perm (f : D → PyData) (ds : List D) : (ds.mergeSort (dataLe false f)).Perm ds := List.mergeSort_perm _ _
theorem sort_le (f : D → PyData) (ds : List D) : (ds.mergeSort (dataLe false f)).Pairwise fun a b => dataLe false f a b = true :=
  List.pairwise_mergeSort (fun a b c h1 h2 => (PySem.W.sortLe_total _ _ _).trans a b c h1 h2) (fun a b => by
    have := (PySem.W.sortLe_total (PyProof.Rows.listOrd PyProof.Rows.itemOrd) false fun b => keyToks (f b)).total a b
    rcases this with h | h
    · exact Bool.or_eq_true_iff.mpr (.inl h)
    · exact Bool.or_eq_true_iff.mpr (.inr h)) ds
theorem sort_lt (f : D → PyData) (ds : List D) (nd : ds.Pairwise fun a b => keyToks (f a) ≠ keyToks (f b)) : (ds.mergeSort (dataLe false f)).Pairwise fun a b => dataLt (f a) (f b) = true := by
  have h2 : (ds.mergeSort (dataLe false f)).Pairwise fun a b => keyToks (f a) ≠ keyToks (f b) := (sort_perm f ds).symm.pairwise nd fun h => Ne.symm h
  refine ((sort_le f ds).and h2).imp fun {a b} h => ?_
  obtain ⟨h3, h4⟩ := h
  cases e : dataLt (f a) (f b) with
  | true => rfl
  | false =>
    have h5 : dataLt (f b) (f a) = false := by
      have h3 : (!dataLt (f b) (f a)) = true := h3
      simpa using h3
    exact absurd (PyProof.Rows.lex_total _ _ e h5) h4
/-! ### tests over lists -/
theorem bools_true {α : Type} : ∀ l : List α, bools (l.map fun _ => D.bl true) = some (l.map fun _ => true)
  | [] => rfl
  | a :: l => by
    show (bools (l.map fun _ => D.bl true)).map (true :: ·) = _
    rw [bools_true l]
    rfl
theorem gAll_true {α : Type} {S : Store} (l : List α) : gAll S [.fl (l.map fun _ => D.bl true)] = some (.d (.bl true)) := by
  unfold gAll
  show (bools (l.map fun _ => D.bl true)).map _ = _
  rw [bools_true]
  have : (l.map fun _ => true).all id = true := by simp
  simp [this]
theorem toVs_strs : ∀ zs : List Str, toVs (zs.map D.str) = some (zs.map L2.V.str)
  | [] => rfl
  | z :: zs => by
    rw [List.map_cons]
    unfold toVs
    rw [toVs_strs zs]
    rfl
theorem inD_strs {S : Store} {a : Str} {y : D} {zs : List Str} (hy : seqOf S y = some (zs.map D.str)) (h : ∀ z, y ≠ .str z) : inD S (.str a) y = some (decide (a ∈ zs)) := by
  have key : L2.inV (.str a) (zs.map L2.V.str) = decide (a ∈ zs) := by
    have e : L2.inV (.str a) (zs.map L2.V.str) = zs.any fun z => z == a := by
      unfold L2.inV
      rw [List.any_map]
      rfl
    rw [e, Bool.eq_iff_iff, List.any_eq_true, decide_eq_true_eq]
    exact ⟨fun ⟨z, h1, h2⟩ => (beq_iff_eq.mp h2) ▸ h1, fun h => ⟨a, h, beq_iff_eq.mpr rfl⟩⟩
  cases y with
  | str z => exact absurd rfl (h z)
  | _ =>
    unfold inD
    dsimp only
    rw [hy]
    dsimp only
    rw [toVs_strs]
    show some (L2.inV (.str a) _) = _
    rw [key]
/-! ### data with nothing of the store in them -/
mutual
def pdD : D → PyData
  | .non => .none
  | .bl b => .bool b
  | .int i => .int i
  | .str x => .str x
  | .tup ds => .tuple (pdDs ds)
  | .fl ds => .list (pdDs ds)
  | .fz ds => .list (pdDs ds)
  | .ref _ => .none
  | .ty _ => .none
  | .gl _ => .none
  | .ob _ _ => .none
def pdDs : List D → List PyData
  | [] => []
  | d :: ds => pdD d :: pdDs ds
end
mutual
/-- without parts of the store, no instance, no class -/
def plD : D → Bool
  | .non => true
  | .bl _ => true
  | .int _ => true
  | .str x => (PyData.str x).canLay0
  | .tup ds => plDs ds
  | .fl ds => plDs ds
  | .fz ds => plDs ds
  | .ref _ => false
  | .ty _ => false
  | .gl _ => false
  | .ob _ _ => false
def plDs : List D → Bool
  | [] => true
  | d :: ds => plD d && plDs ds
end
mutual
theorem plD_ok {r : Nat → Option PyData} : ∀ d : D, plD d = true → pdR r d = some (pdD d) ∧ (pdD d).canLay0 = true
  | .non, _ => by unfold pdR pdD; exact ⟨rfl, by unfold PyData.canLay0; rfl⟩
  | .bl b, _ => by unfold pdR pdD; exact ⟨rfl, by unfold PyData.canLay0; rfl⟩
  | .int i, _ => by unfold pdR pdD; exact ⟨rfl, by unfold PyData.canLay0; rfl⟩
  | .str x, h => by unfold plD at h; unfold pdR pdD; exact ⟨rfl, h⟩
  | .tup ds, h => by
    unfold plD at h
    obtain ⟨h1, h2⟩ := plDs_ok (r := r) ds h
    unfold pdR pdD
    rw [h1]
    exact ⟨rfl, by unfold PyData.canLay0; exact h2⟩
  | .fl ds, h => by
    unfold plD at h
    obtain ⟨h1, h2⟩ := plDs_ok (r := r) ds h
    unfold pdR pdD
    rw [h1]
    exact ⟨rfl, by unfold PyData.canLay0; exact h2⟩
  | .fz ds, h => by
    unfold plD at h
    obtain ⟨h1, h2⟩ := plDs_ok (r := r) ds h
    unfold pdR pdD
    rw [h1]
    exact ⟨rfl, by unfold PyData.canLay0; exact h2⟩
  | .ref _, h => by unfold plD at h; cases h
  | .ty _, h => by unfold plD at h; cases h
  | .gl _, h => by unfold plD at h; cases h
  | .ob _ _, h => by unfold plD at h; cases h
theorem plDs_ok {r : Nat → Option PyData} : ∀ ds : List D, plDs ds = true → pdRs r ds = some (pdDs ds) ∧ PyData.canLayAll0 (pdDs ds) = true
  | [], _ => by unfold pdRs pdDs; exact ⟨rfl, by unfold PyData.canLayAll0; rfl⟩
  | d :: ds, h => by
    unfold plDs at h
    obtain ⟨h1, h2⟩ := Bool.and_eq_true_iff.mp h
    obtain ⟨h3, h4⟩ := plD_ok (r := r) d h1
    obtain ⟨h5, h6⟩ := plDs_ok (r := r) ds h2
    unfold pdRs pdDs
    rw [h3, h5]
    exact ⟨rfl, by unfold PyData.canLayAll0; rw [h4, h6]; rfl⟩
end
/-- x == y of such data that are no single ones of a kind -/
theorem gEq_pl {S : Store} {x y : D} (hx : plD x = true) (hy : plD y = true) (dx : (pdD x).depth ≤ 64) (dy : (pdD y).depth ≤ 64) (hf : eqF x y = none) : gEq S x y = some (.d (.bl (PyData.eqv (pdD x) (pdD y)))) := by
  unfold gEq eqD
  rw [hf]
  obtain ⟨h1, h2⟩ := plD_ok (r := pdK S 4) x hx
  obtain ⟨h3, h4⟩ := plD_ok (r := pdK S 4) y hy
  have e1 : toP S x = some (pdD x) := h1
  have e2 : toP S y = some (pdD y) := h3
  dsimp only
  rw [e1, e2]
  dsimp only
  have s1 : SeqAt.shaped (pdD x) = true := by unfold SeqAt.shaped; rw [h2]; simp [dx]
  have s2 : SeqAt.shaped (pdD y) = true := by unfold SeqAt.shaped; rw [h4]; simp [dy]
  rw [s1, s2]
  rfl
theorem gEq_nil {S : Store} {xs : List D} (hx : plDs xs = true) (dx : (pdD (.tup xs)).depth ≤ 64) : gEq S (.tup xs) (.tup []) = some (.d (.bl xs.isEmpty)) := by
  rw [gEq_pl (by unfold plD; exact hx) rfl dx (by decide) rfl]
  cases xs with
  | nil => rfl
  | cons x xs =>
    simp only [pdD, pdDs, PyData.eqv]
    rfl
/-! ### sorted(set(..)) of what ascends -/
theorem dedG_nodup_eq {κ : Type} [DecidableEq κ] : ∀ {l : List κ}, l.Nodup → dedG l = l
  | [], _ => rfl
  | k :: r, h => by
    obtain ⟨h1, h2⟩ := List.nodup_cons.mp h
    unfold dedG
    rw [dedG_nodup_eq h2, if_neg h1]
theorem strsOf_map : ∀ zs : List Str, strsOf (zs.map D.str) = some zs
  | [] => rfl
  | z :: zs => by
    rw [List.map_cons]
    unfold strsOf
    rw [strsOf_map zs]
    try rfl
theorem sortSetD_asc {S : Store} {zs : List Str} (hl : zs.length < 4000) (hlt : zs.Pairwise fun a b => a.cps.toList < b.cps.toList) (h0 : zs ≠ []) : sortSetD S (.fl (zs.map D.str)) = some (.l (zs.map D.str)) := by
  have nd : zs.Nodup := hlt.imp fun {a b} h e => by rw [e] at h; exact absurd h (List.lt_irrefl _)
  have s : zs.mergeSort leS = zs := List.mergeSort_of_pairwise (hlt.imp fun {a b} h => by
    unfold leS
    exact decide_eq_true (List.le_of_lt h))
  unfold sortSetD
  have e1 : seqOf S (.fl (zs.map D.str)) = some (zs.map D.str) := rfl
  rw [e1]
  dsimp only
  have e2 : keysI (zs.map D.str) = none := by
    cases zs with
    | nil => exact absurd rfl h0
    | cons z zs => rfl
  rw [e2]
  dsimp only
  rw [strsOf_map]
  dsimp only
  rw [if_pos hl, dedG_nodup_eq nd, s]
end M3

set_option Elab.async false
set_option linter.all false
set_option maxRecDepth 100000
set_option maxHeartbeats 1000000
/-! M3X: the plain law: small data, their repr and ==, sorting of texts and of pairs. -/
namespace M3
open PySem
open PySem.W (dataLe dataLt alike alikeAll keyToks)
/-- a datum with nothing of the store: its weight, its depth -/
structure Sm (w k : Nat) (d : D) : Prop where
  pl : plD d = true
  dp : (pdD d).depth ≤ k
  wt : (pdD d).weight ≤ w
  sh : (pdD d).intsShort 13 = true
  ok : (pdD d).showable = true
structure Sms (w k : Nat) (ds : List D) : Prop where
  pl : plDs ds = true
  dp : PyData.depthAll (pdDs ds) ≤ k
  wt : PyData.weightAll (pdDs ds) ≤ w
  sh : PyData.intsShortAll 13 (pdDs ds) = true
  ok : PyData.showableAll (pdDs ds) = true
theorem Sm.mono {w k w' k' : Nat} {d : D} (h : Sm w k d) (hw : w ≤ w') (hk : k ≤ k') : Sm w' k' d := ⟨h.pl, Nat.le_trans h.dp hk, Nat.le_trans h.wt hw, h.sh, h.ok⟩
theorem Sms.mono {w k w' k' : Nat} {ds : List D} (h : Sms w k ds) (hw : w ≤ w') (hk : k ≤ k') : Sms w' k' ds := ⟨h.pl, Nat.le_trans h.dp hk, Nat.le_trans h.wt hw, h.sh, h.ok⟩
theorem Sms.nil {w k : Nat} : Sms w k [] := ⟨rfl, Nat.zero_le _, Nat.zero_le _, rfl, rfl⟩
theorem Sms.cons {w w' k : Nat} {d : D} {ds : List D} (h : Sm w k d) (hs : Sms w' k ds) : Sms (w + 1 + w') k (d :: ds) := by
  refine ⟨?_, ?_, ?_, ?_, ?_⟩
  · unfold plDs; rw [h.pl, hs.pl]; rfl
  · unfold pdDs PyData.depthAll; exact Nat.max_le.mpr ⟨h.dp, hs.dp⟩
  · unfold pdDs PyData.weightAll; have := h.wt; have := hs.wt; omega
  · unfold pdDs PyData.intsShortAll; rw [h.sh, hs.sh]; rfl
  · unfold pdDs PyData.showableAll; rw [h.ok, hs.ok]; rfl
theorem Sms.of {w k : Nat} : ∀ {ds : List D}, (∀ d ∈ ds, Sm w k d) → Sms (ds.length * (w + 1)) k ds
  | [], _ => Sms.nil
  | d :: ds, h => (Sms.cons (h d List.mem_cons_self) (Sms.of fun x hx => h x (List.mem_cons_of_mem _ hx))).mono (by rw [List.length_cons, Nat.succ_mul]; omega) (Nat.le_refl _)
theorem Sms.each {w k : Nat} : ∀ {ds : List D}, Sms w k ds → ∀ d ∈ ds, Sm w k d
  | d :: ds, h, x, hx => by
    obtain ⟨h1, h2, h3, h4, h5⟩ := h
    unfold plDs at h1
    unfold pdDs at h2 h3 h4 h5
    unfold PyData.depthAll at h2
    unfold PyData.weightAll at h3
    unfold PyData.intsShortAll at h4
    unfold PyData.showableAll at h5
    rw [Bool.and_eq_true] at h1 h4 h5
    rw [Nat.max_le] at h2
    rcases List.mem_cons.mp hx with rfl | hx
    · exact ⟨h1.1, h2.1, by omega, h4.1, h5.1⟩
    · exact Sms.each (ds := ds) ⟨h1.2, h2.2, by omega, h4.2, h5.2⟩ x hx
theorem Sms.take {w k i : Nat} {ds : List D} (h : Sms w k ds) : Sms (ds.length * (w + 1)) k (ds.take i) :=
  (Sms.of (w := w) fun d hd => h.each d (List.mem_of_mem_take hd)).mono (Nat.mul_le_mul_right _ (by rw [List.length_take]; omega)) (Nat.le_refl _)
theorem Sms.tup {w k : Nat} {ds : List D} (h : Sms w k ds) : Sm w (k + 1) (.tup ds) := by
  refine ⟨?_, ?_, ?_, ?_, ?_⟩
  · unfold plD; exact h.pl
  · unfold pdD PyData.depth; have := h.dp; omega
  · unfold pdD PyData.weight; exact h.wt
  · unfold pdD PyData.intsShort; exact h.sh
  · unfold pdD PyData.showable; exact h.ok
theorem Sms.tk {w k i : Nat} {ds : List D} (h : Sms w k ds) (hk : k ≤ 63) : plDs (ds.take i) = true ∧ (pdD (.tup (ds.take i))).depth ≤ 64 := by
  have h2 := Sms.take (i := i) h
  exact ⟨h2.pl, Nat.le_trans h2.tup.dp (by omega)⟩
theorem Sms.fl {w k : Nat} {ds : List D} (h : Sms w k ds) : Sm w (k + 1) (.fl ds) := by
  refine ⟨?_, ?_, ?_, ?_, ?_⟩
  · unfold plD; exact h.pl
  · unfold pdD PyData.depth; have := h.dp; omega
  · unfold pdD PyData.weight; exact h.wt
  · unfold pdD PyData.intsShort; exact h.sh
  · unfold pdD PyData.showable; exact h.ok
theorem Sm.str {z : Str} {w k : Nat} (h : ∀ c ∈ z.cps.toList, c < 0x110000) (hw : z.length ≤ w) : Sm w k (.str z) := by
  refine ⟨?_, Nat.zero_le _, hw, ?_, ?_⟩
  · unfold plD PyData.canLay0 PyData.strOk
    rw [Array.all_eq_true_iff_forall_mem]
    intro c hc
    exact decide_eq_true (h c (Array.mem_toList_iff.mpr hc))
  · unfold pdD PyData.intsShort; rfl
  · unfold pdD PyData.showable; rfl
theorem Sm.non {w k : Nat} : Sm w k .non := ⟨rfl, Nat.zero_le _, Nat.zero_le _, rfl, rfl⟩
theorem Sm.bl {w k : Nat} {b : Bool} : Sm w k (.bl b) := ⟨rfl, Nat.zero_le _, Nat.zero_le _, by unfold pdD PyData.intsShort; rfl, by unfold pdD PyData.showable; rfl⟩
/-- figures and numbers below 128 -/
theorem Sm.int {w k : Nat} {i : Int} (h0 : 0 ≤ i) (h : i < 128) (hw : 7 ≤ w) : Sm w k (.int i) := by
  obtain ⟨n, rfl⟩ := Int.eq_ofNat_of_zero_le h0
  have hn : n < 128 := by omega
  have key : ∀ m : Fin 128, (PyData.weight (.int (m.val : Int)) ≤ 7 ∧ PyData.intsShort 13 (.int (m.val : Int)) = true) ∧ PyData.showable (.int (m.val : Int)) = true := by decide +kernel
  have := key ⟨n, hn⟩
  exact ⟨rfl, Nat.zero_le _, Nat.le_trans this.1.1 hw, this.1.2, this.2⟩
theorem Sm.lay {w k : Nat} {d : D} (h : Sm w k d) : (pdD d).canLay0 = true := (plD_ok (r := fun _ => none) d h.pl).2
theorem Sm.repr {w k : Nat} {S : Store} {d : D} (h : Sm w k d) (hw : w ≤ 1048576 := by decide) (hk : k ≤ 60 := by decide) : gRepr S [d] = some (.d (.str (pdD d).shown)) := by
  have e1 : toP S d = some (pdD d) := (plD_ok (r := pdK S 4) d h.pl).1
  have l0 : PyData.layable0 (pdD d) = true := by
    unfold PyData.layable0
    rw [h.lay]
    have h1 := h.dp
    have h2 := h.wt
    have e : (2 : Nat) ^ 20 = 1048576 := by decide
    rw [e]
    simp only [Bool.and_eq_true, decide_eq_true_eq, true_and]
    omega
  have h3 := PyProof.Rows.shown_le13 l0 h.sh
  unfold gRepr reprD
  dsimp only
  rw [e1]
  dsimp only
  rw [if_pos ⟨h.ok, Nat.le_trans h.dp hk, PyData.hasDict_of_canLay _ h.lay, Nat.le_trans h3 (by decide)⟩]
  rfl
mutual
theorem cl_pl {L : Nat} : ∀ d : D, plD d = true → clD L d = true
  | .non, _ => rfl
  | .bl _, _ => rfl
  | .int _, _ => rfl
  | .str _, _ => rfl
  | .tup ds, h => by unfold clD; exact cls_pl ds (by unfold plD at h; exact h)
  | .fl ds, h => by unfold clD; exact cls_pl ds (by unfold plD at h; exact h)
  | .fz ds, h => by unfold clD; exact cls_pl ds (by unfold plD at h; exact h)
  | .ref _, h => by unfold plD at h; cases h
  | .ty _, h => by unfold plD at h; cases h
  | .gl _, h => by unfold plD at h; cases h
  | .ob _ _, h => by unfold plD at h; cases h
theorem cls_pl {L : Nat} : ∀ ds : List D, plDs ds = true → clDs L ds = true
  | [], _ => by unfold clDs; rfl
  | d :: ds, h => by
    unfold plDs at h
    rw [Bool.and_eq_true] at h
    unfold clDs
    rw [cl_pl d h.1, cls_pl ds h.2]
    rfl
end
theorem Sm.cl {w k L : Nat} {d : D} (h : Sm w k d) : clD L d = true := cl_pl d h.pl
theorem Sm.toP {w k : Nat} {S : Store} {d : D} (h : Sm w k d) : toP S d = some (pdD d) := (plD_ok (r := pdK S 4) d h.pl).1
theorem Sm.eq {w k w' k' : Nat} {S : Store} {x y : D} (h : Sm w k x) (h' : Sm w' k' y) (hf : eqF x y = none) (hk : k ≤ 64 := by decide) (hk' : k' ≤ 64 := by decide) : gEq S x y = some (.d (.bl (PyData.eqv (pdD x) (pdD y)))) :=
  gEq_pl h.pl h'.pl (Nat.le_trans h.dp hk) (Nat.le_trans h'.dp hk') hf
theorem Sm.ne {w k w' k' : Nat} {S : Store} {x y : D} (h : Sm w k x) (h' : Sm w' k' y) (hf : eqF x y = none) (hk : k ≤ 64 := by decide) (hk' : k' ≤ 64 := by decide) : gNe S x y = some (.d (.bl (!PyData.eqv (pdD x) (pdD y)))) := by
  have e := h.eq (S := S) h' hf hk hk'
  unfold gEq at e
  unfold gNe
  cases q : eqD S x y with
  | none => rw [q] at e; cases e
  | some b =>
    rw [q] at e
    have e : some (Gv.d (.bl b)) = some (Gv.d (.bl (PyData.eqv (pdD x) (pdD y)))) := e
    injection e with e; injection e with e; injection e with e
    rw [e]; rfl
/-! ### sorted(..) -/
theorem toPs_pl {S : Store} {ds : List D} (h : plDs ds = true) : toPs S ds = some (ds.map pdD) := by
  unfold toPs
  rw [(plDs_ok (r := pdK S 4) ds h).1]
  congr 1
  clear h
  induction ds with
  | nil => rfl
  | cons d ds ih => unfold pdDs; rw [ih]; rfl
theorem gSorted_ex {S : Store} {x : D} {ds : List D} {k : Nat} (hx : lstOf S x = some ds) (hp : plDs ds = true) (al : ∀ a ∈ ds, ∀ b ∈ ds, alike (pdD a) (pdD b) = true) (so : sortableB (ds.map pdD) = true) (dp : ∀ d ∈ ds, (pdD d).depth ≤ 60) (hl : ds.length ≤ 16777216)
    (nd : ds.Pairwise fun a b => keyToks (pdD a) ≠ keyToks (pdD b)) : ∃ es, gSorted S [x] = some (.l es) ∧ es.Perm ds ∧ es.Pairwise fun a b => dataLt (pdD a) (pdD b) = true := by
  have h1 : alikeB (ds.map pdD) = true := by
    unfold alikeB
    rw [List.all_eq_true]
    intro a ha
    rw [List.all_eq_true]
    intro b hb
    obtain ⟨a', ha', rfl⟩ := List.mem_map.mp ha
    obtain ⟨b', hb', rfl⟩ := List.mem_map.mp hb
    exact al a' ha' b' hb'
  have h2 : ((ds.map pdD).all fun q => decide (q.depth ≤ 60)) = true := by
    rw [List.all_eq_true]
    intro a ha
    obtain ⟨a', ha', rfl⟩ := List.mem_map.mp ha
    exact decide_eq_true (dp a' ha')
  refine ⟨ds.mergeSort (dataLe false pdD), ?_, sort_perm pdD ds, sort_lt pdD ds nd⟩
  unfold gSorted
  dsimp only
  rw [hx]
  dsimp only
  rw [toPs_pl hp]
  dsimp only
  rw [if_pos ⟨h1, so, h2, hl⟩, sortDs_map]
theorem perm_map_inv {α β : Type} (f : α → β) : ∀ {l : List β} {zs : List α}, l.Perm (zs.map f) → ∃ ys : List α, l = ys.map f ∧ ys.Perm zs := by
  intro l zs h
  induction l generalizing zs with
  | nil =>
    have := h.length_eq
    cases zs with
    | nil => exact ⟨[], rfl, .refl _⟩
    | cons z zs => simp at this
  | cons x l ih =>
    obtain ⟨z, hz, rfl⟩ := List.mem_map.mp (h.subset List.mem_cons_self)
    obtain ⟨s, t, rfl⟩ := List.append_of_mem hz
    have h2 : l.Perm ((s ++ t).map f) := by
      have h3 : (f z :: l).Perm (f z :: (s ++ t).map f) := h.trans (by
        rw [List.map_append, List.map_cons, List.map_append]
        exact List.perm_middle)
      exact (List.perm_cons _).mp h3
    obtain ⟨ys, e, p⟩ := ih h2
    exact ⟨z :: ys, by rw [e]; rfl, (p.cons z).trans List.perm_middle.symm⟩
theorem plDs_of {ds : List D} (h : ∀ d ∈ ds, plD d = true) : plDs ds = true := by
  induction ds with
  | nil => rfl
  | cons d ds ih =>
    unfold plDs
    rw [h d List.mem_cons_self, ih fun x hx => h x (List.mem_cons_of_mem _ hx)]
    rfl
theorem cps_inj {a b : Str} (h : a.cps.toList = b.cps.toList) : a = b := PySem.W.str_of_cps h
/-- sorted(..) of unlike texts -/
theorem gSorted_strs {S : Store} {x : D} {zs : List Str} (hx : lstOf S x = some (zs.map .str)) (hp : ∀ z ∈ zs, plD (.str z) = true) (hl : zs.length ≤ 16777216) (nd : zs.Nodup) :
    ∃ ys : List Str, gSorted S [x] = some (.l (ys.map .str)) ∧ ys.Perm zs ∧ ys.Pairwise fun a b => a.cps.toList < b.cps.toList := by
  obtain ⟨es, e1, e2, e3⟩ := gSorted_ex (k := 0) hx (plDs_of fun d hd => by
      obtain ⟨z, hz, rfl⟩ := List.mem_map.mp hd
      exact hp z hz) (fun a ha b hb => by
      obtain ⟨z, hz, rfl⟩ := List.mem_map.mp ha
      obtain ⟨y, hy, rfl⟩ := List.mem_map.mp hb
      unfold pdD alike; rfl) (by
      unfold sortableB
      rw [Bool.or_eq_true]
      refine .inr ?_
      rw [List.all_eq_true]
      intro d hd
      obtain ⟨d', hd', rfl⟩ := List.mem_map.mp hd
      obtain ⟨z, hz, rfl⟩ := List.mem_map.mp hd'
      rfl) (fun d hd => by
      obtain ⟨z, hz, rfl⟩ := List.mem_map.mp hd
      exact Nat.zero_le _) (by rw [List.length_map]; exact hl) (by
      rw [List.pairwise_map]
      refine nd.imp fun {a b} h e => h ?_
      unfold pdD keyToks at e
      injection e with e
      injection e with e
      exact cps_inj e)
  obtain ⟨ys, rfl, p⟩ := perm_map_inv D.str e2
  refine ⟨ys, e1, p, ?_⟩
  rw [List.pairwise_map] at e3
  refine e3.imp fun {a b} h => ?_
  unfold pdD at h
  rw [PySem.W.dataLt_str] at h
  exact of_decide_eq_true h
/-! ### pairs of texts -/
abbrev pairD (p : Str × Str) : D := .tup [.str p.1, .str p.2]
theorem toks_pair (p : Str × Str) : keyToks (pdD (pairD p)) = [.inl 1, .inr p.1.cps.toList, .inl 1, .inr p.2.cps.toList, .inl 0] := by
  unfold pairD pdD pdDs pdDs pdDs keyToks
  simp [PySem.W.keyToksAll, pdD, keyToks]
theorem alike_pair (p q : Str × Str) : alike (pdD (pairD p)) (pdD (pairD q)) = true := by
  simp [pairD, pdD, pdDs, alike, alikeAll]
theorem lt_pair {p q : Str × Str} : dataLt (pdD (pairD p)) (pdD (pairD q)) = true ↔ p.1.cps.toList < q.1.cps.toList ∨ (p.1 = q.1 ∧ p.2.cps.toList < q.2.cps.toList) := by
  unfold dataLt
  rw [toks_pair, toks_pair]
  have s1 : ∀ (x : Int ⊕ List Nat) a b, PyProof.Rows.lexLt PyProof.Rows.itemOrd (x :: a) (x :: b) = PyProof.Rows.lexLt PyProof.Rows.itemOrd a b := fun x a b => PyProof.Rows.lex_self (O := PyProof.Rows.itemOrd) x a b
  have at_ : ∀ (x y : List Nat), PyProof.Rows.itemLt (.inr x) (.inr y) = decide (x < y) := fun x y => by
    have h := PySem.W.dataLt_str ⟨x.toArray⟩ ⟨y.toArray⟩
    unfold dataLt at h
    have e : ∀ w : List Nat, keyToks (.str ⟨w.toArray⟩) = [.inr w] := fun w => by unfold keyToks; rfl
    rw [e, e, PySem.W.lex_one] at h
    exact h
  rw [s1]
  by_cases e : p.1 = q.1
  · rw [e, s1, s1]
    by_cases e2 : p.2 = q.2
    · rw [e2, s1, s1]
      simp [PyProof.Rows.lexLt]
    · have hne : (Sum.inr p.2.cps.toList : Int ⊕ List Nat) ≠ .inr q.2.cps.toList := fun h => e2 (cps_inj (Sum.inr.inj h))
      rw [PySem.W.lex_atom hne, PySem.W.lex_one, at_, decide_eq_true_eq]
      exact ⟨fun h => .inr ⟨rfl, h⟩, fun h => h.elim (fun h => absurd h (List.lt_irrefl _)) (·.2)⟩
  · have hne : (Sum.inr p.1.cps.toList : Int ⊕ List Nat) ≠ .inr q.1.cps.toList := fun h => e (cps_inj (Sum.inr.inj h))
    rw [PySem.W.lex_atom hne, PySem.W.lex_one, at_, decide_eq_true_eq]
    simp [e]
theorem gLtB_pl {S : Store} {x y : D} (hx : plD x = true) (hy : plD y = true) (n : gLt S x y = none) (al : alike (pdD x) (pdD y) = true) (nn : isNoneP (pdD x) = false) (dp : (pdD x).depth ≤ 64) : gLtB S x y = some (.d (.bl (dataLt (pdD x) (pdD y)))) := by
  unfold gLtB
  rw [n]
  have e1 : toP S x = some (pdD x) := (plD_ok (r := pdK S 4) x hx).1
  have e2 : toP S y = some (pdD y) := (plD_ok (r := pdK S 4) y hy).1
  dsimp only
  rw [e1, e2]
  dsimp only
  rw [if_pos ⟨al, nn, dp⟩]
/-- sorted(..) of unlike pairs of texts -/
theorem gSorted_pairs {S : Store} {x : D} {ps : List (Str × Str)} (hx : lstOf S x = some (ps.map pairD)) (hp : ∀ p ∈ ps, plD (.str p.1) = true ∧ plD (.str p.2) = true) (hl : ps.length ≤ 16777216) (nd : ps.Nodup) :
    ∃ qs : List (Str × Str), gSorted S [x] = some (.l (qs.map pairD)) ∧ qs.Perm ps ∧ qs.Pairwise fun a b => dataLt (pdD (pairD a)) (pdD (pairD b)) = true := by
  obtain ⟨es, e1, e2, e3⟩ := gSorted_ex (k := 0) hx (plDs_of fun d hd => by
      obtain ⟨z, hz, rfl⟩ := List.mem_map.mp hd
      obtain ⟨h1, h2⟩ := hp z hz
      unfold plD plDs plDs plDs
      rw [h1, h2]; rfl) (fun a ha b hb => by
      obtain ⟨z, hz, rfl⟩ := List.mem_map.mp ha
      obtain ⟨y, hy, rfl⟩ := List.mem_map.mp hb
      exact alike_pair z y) (by
      unfold sortableB
      rw [Bool.or_eq_true]
      refine .inl ?_
      rw [List.all_eq_true]
      intro d hd
      obtain ⟨d', hd', rfl⟩ := List.mem_map.mp hd
      obtain ⟨z, hz, rfl⟩ := List.mem_map.mp hd'
      rfl) (fun d hd => by
      obtain ⟨z, hz, rfl⟩ := List.mem_map.mp hd
      show PyData.depth (.tuple [.str z.1, .str z.2]) ≤ 60
      simp [PyData.depth, PyData.depthAll]) (by rw [List.length_map]; exact hl) (by
      rw [List.pairwise_map]
      refine nd.imp fun {a b} h e => h ?_
      rw [toks_pair, toks_pair] at e
      simp only [List.cons.injEq, Sum.inr.injEq, true_and, and_true] at e
      exact Prod.ext (cps_inj e.1) (cps_inj e.2))
  obtain ⟨ys, rfl, p⟩ := perm_map_inv pairD e2
  refine ⟨ys, e1, p, ?_⟩
  rw [List.pairwise_map] at e3
  exact e3
end M3

set_option Elab.async false
set_option linter.all false
set_option maxRecDepth 100000
set_option maxHeartbeats 1000000
/-! M3Y: going through mirrors backwards: what must hold ahead of one for its end to be so. -/
namespace M3
open PySem
abbrev XP := Str → List (Str × D) → Store → Prop
abbrev xNo : XP := fun _ _ _ => False
def WE {α : Type} (X : XP) (r : Rz α) (P : α → Store → Prop) : Prop := match r with
  | .ok a S => P a S
  | .exc c fs S => X c fs S
  | .bad => False
/-- how a block may end -/
structure SP where
  nx : Evs → Store → Prop
  rt : D → Store → Prop
  bk : Evs → Store → Prop
  ct : Evs → Store → Prop
  ex : Str → List (Str × D) → Evs → Store → Prop
def WS (r : So) (Q : SP) : Prop := match r with
  | .nx e S => Q.nx e S
  | .ret d S => Q.rt d S
  | .bk e S => Q.bk e S
  | .ct e S => Q.ct e S
  | .exc c fs e S => Q.ex c fs e S
  | .bad => False
/-- a block that goes on or returns -/
def SP.of (N : Evs → Store → Prop) (R : D → Store → Prop) (X : XP) : SP := ⟨N, R, fun _ _ => False, fun _ _ => False, fun c fs _ S => X c fs S⟩
abbrev SP.thn (Q : SP) (N : Evs → Store → Prop) : SP := { Q with nx := N }
abbrev SP.x (Q : SP) (env : Evs) : XP := fun c fs S => Q.ex c fs env S
section
variable {α β : Type} {X : XP} {env : Evs} {S : Store} {Q : SP}
theorem WE.imp {r : Rz α} {P P' : α → Store → Prop} (h : WE X r P) (i : ∀ a S, P a S → P' a S) : WE X r P' := by
  cases r with
  | ok a S => exact i a S h
  | exc c fs S => exact h
  | bad => exact h
theorem WE.ok {r : Rz α} {P : α → Store → Prop} (h : WE xNo r P) : ∃ a S, r = .ok a S ∧ P a S := by
  cases r with
  | ok a S => exact ⟨a, S, rfl, h⟩
  | exc c fs S => exact h.elim
  | bad => exact h.elim
theorem w_eq {r : Rz α} {a : α} {T : Store} {P : α → Store → Prop} (e : r = .ok a T) (p : P a T) : WE X r P := by rw [e]; exact p
theorem w_ok {a : α} {T : Store} {P : α → Store → Prop} (p : P a T) : WE X (.ok a T) P := p
theorem w_bind {r : Rz α} {f : α → Store → Rz β} {P : β → Store → Prop} (h : WE X r fun a S => WE X (f a S) P) : WE X (r.bind f) P := by
  cases r with
  | ok a S => exact h
  | exc c fs S => exact h
  | bad => exact h
theorem w_st {r : Rz α} {f : α → Store → So} (h : WE (Q.x env) r fun a S => WS (f a S) Q) : WS (r.st env f) Q := by
  cases r with
  | ok a S => exact h
  | exc c fs S => exact h
  | bad => exact h
/-! ### expressions -/
variable {P : D → Store → Prop} {ma mb mc me : EM} {mr : AM} {t u : TM}
theorem w_var {i : Nat} {d : D} (h : env[i]? = some (some (.v d))) (p : P d S) : WE X (mVar i env S) P := by
  unfold mVar; rw [h]; exact p
theorem w_c {d : D} (p : P d S) : WE X (mC d env S) P := p
theorem w_nil {P : List D → Store → Prop} (p : P [] S) : WE X (mNil env S) P := p
theorem w_cons {P : List D → Store → Prop} (h : WE X (ma env S) fun x S1 => WE X (mr env S1) fun xs S2 => P (x :: xs) S2) : WE X (mCons ma mr env S) P := by
  unfold mCons
  exact w_bind (h.imp fun x S1 h => w_bind h)
theorem w_call {fm : FM} (h : WE X (mr env S) fun ds S1 => WE X (fm (ds.map .v) S1) P) : WE X (mCall fm mr env S) P := w_bind h
theorem w_bin {al : Bool} {g : Store → D → D → Option Gv} (h : WE X (ma env S) fun x S1 => WE X (mb env S1) fun y S2 => WE X (Gv.fin al (g S2 x y) S2) P) : WE X (mBin al g ma mb env S) P := by
  unfold mBin
  exact w_bind (h.imp fun x S1 h => w_bind h)
theorem w_cb {al : Bool} {g : Store → List D → Option Gv} (h : WE X (mr env S) fun ds S1 => WE X (Gv.fin al (g S1 ds) S1) P) : WE X (mCB al g mr env S) P := w_bind h
theorem w_tup (h : WE X (mr env S) fun ds S1 => ds.length ≤ 16777216 ∧ P (.tup ds) S1) : WE X (mTup mr env S) P := by
  unfold mTup
  refine w_bind (h.imp fun ds S1 h => ?_)
  unfold Gv.fin
  dsimp only
  rw [if_pos h.1]
  exact h.2
theorem w_lst (h : WE X (mr env S) fun ds S1 => ds.length ≤ 16777216 ∧ P (.fl ds) S1) : WE X (mLst false mr env S) P := by
  unfold mLst
  refine w_bind (h.imp fun ds S1 h => ?_)
  unfold Gv.fin
  dsimp only
  rw [if_pos h.1]
  exact h.2
theorem w_lsta (h : WE X (mr env S) fun ds S1 => ds.length ≤ 16777216 ∧ P (.ref S1.length) (S1 ++ [.lst ds])) : WE X (mLst true mr env S) P := by
  unfold mLst
  refine w_bind (h.imp fun ds S1 h => ?_)
  unfold Gv.fin
  dsimp only
  rw [if_pos h.1]
  exact h.2
theorem w_gd {al : Bool} {g : Option Gv} {x : D} (h : g = some (.d x)) (p : P x S) : WE X (Gv.fin al g S) P := by subst h; exact p
theorem w_gl {g : Option Gv} {ds : List D} (h : g = some (.l ds)) (hl : ds.length ≤ 16777216) (p : P (.fl ds) S) : WE X (Gv.fin false g S) P := by
  subst h
  unfold Gv.fin
  dsimp only
  rw [if_pos hl]
  exact p
theorem w_ga {g : Option Gv} {ds : List D} (h : g = some (.l ds)) (hl : ds.length ≤ 16777216) (p : P (.ref S.length) (S ++ [.lst ds])) : WE X (Gv.fin true g S) P := by
  subst h
  unfold Gv.fin
  dsimp only
  rw [if_pos hl]
  exact p
theorem w_gt {al : Bool} {g : Option Gv} {ds : List D} (h : g = some (.t ds)) (hl : ds.length ≤ 16777216) (p : P (.tup ds) S) : WE X (Gv.fin al g S) P := by
  subst h
  unfold Gv.fin
  dsimp only
  rw [if_pos hl]
  exact p
theorem w_neg (h : WE X (me env S) fun d S1 => ∃ i, d = .int i ∧ P (.int (-i)) S1) : WE X (mNeg me env S) P := by
  unfold mNeg
  refine w_bind (h.imp fun d S1 h => ?_)
  obtain ⟨i, rfl, p⟩ := h
  exact p
theorem w_and (h : WE X (ma env S) fun d S1 => ∃ b, d = .bl b ∧ (b = true → WE X (mb env S1) P) ∧ (b = false → P (.bl false) S1)) : WE X (mAnd ma mb env S) P := by
  unfold mAnd
  refine w_bind (h.imp fun d S1 h => ?_)
  obtain ⟨b, rfl, p, q⟩ := h
  cases b with
  | true => exact p rfl
  | false => exact q rfl
theorem w_or (h : WE X (ma env S) fun d S1 => ∃ b, d = .bl b ∧ (b = true → P (.bl true) S1) ∧ (b = false → WE X (mb env S1) P)) : WE X (mOr ma mb env S) P := by
  unfold mOr
  refine w_bind (h.imp fun d S1 h => ?_)
  obtain ⟨b, rfl, p, q⟩ := h
  cases b with
  | true => exact p rfl
  | false => exact q rfl
theorem w_not (h : WE X (ma env S) fun d S1 => ∃ b, d = .bl b ∧ P (.bl (!b)) S1) : WE X (mNot ma env S) P := by
  unfold mNot
  refine w_bind (h.imp fun d S1 h => ?_)
  obtain ⟨b, rfl, p⟩ := h
  exact p
theorem w_if (h : WE X (t env S) fun b S1 => (b = true → WE X (ma env S1) P) ∧ (b = false → WE X (mb env S1) P)) : WE X (mIf t ma mb env S) P := by
  unfold mIf
  refine w_bind (h.imp fun b S1 h => ?_)
  cases b with
  | true => exact h.1 rfl
  | false => exact h.2 rfl
theorem w_oN {P : Option Int → Store → Prop} (p : P none S) : WE X (mONone env S) P := p
theorem w_oS {P : Option Int → Store → Prop} (h : WE X (me env S) fun d S1 => ∃ i, d = .int i ∧ inRng i = true ∧ P (some i) S1) : WE X (mOSome me env S) P := by
  unfold mOSome
  refine w_bind (h.imp fun d S1 h => ?_)
  obtain ⟨i, rfl, q, p⟩ := h
  simp only [q, if_true]
  first | exact p | (try rw [if_pos rfl]; exact p)
theorem w_sl {al : Bool} {ml mh : OM} (h : WE X (me env S) fun x S1 => WE X (ml env S1) fun lo S2 => WE X (mh env S2) fun hi S3 => WE X (Gv.fin al (slD S3 x lo hi) S3) P) : WE X (mSl al me ml mh env S) P := by
  unfold mSl
  exact w_bind (h.imp fun x S1 h => w_bind (h.imp fun lo S2 h => w_bind h))
/-! ### tests -/
variable {B : Bool → Store → Prop}
theorem w_b (h : WE X (me env S) fun d S1 => ∃ b, d = .bl b ∧ B b S1) : WE X (mB me env S) B := by
  unfold mB
  refine w_bind (h.imp fun d S1 h => ?_)
  obtain ⟨b, rfl, p⟩ := h
  exact p
theorem w_t (h : WE X (me env S) fun d S1 => ∃ b, truD S1 d = some b ∧ B b S1) : WE X (mT me env S) B := by
  unfold mT
  refine w_bind (h.imp fun d S1 h => ?_)
  obtain ⟨b, e, p⟩ := h
  unfold asT
  rw [e]
  exact p
theorem w_to {cs : List Str} (h : WE X (me env S) fun d S1 => ∃ b, truO cs S1 d = some b ∧ B b S1) : WE X (mTO cs me env S) B := by
  unfold mTO
  refine w_bind (h.imp fun d S1 h => ?_)
  obtain ⟨b, e, p⟩ := h
  rw [e]
  exact p
theorem w_nt (h : WE X (t env S) fun b S1 => B (!b) S1) : WE X (mNotT t env S) B := by
  unfold mNotT
  exact w_bind h
theorem w_at (h : WE X (t env S) fun b S1 => (b = true → WE X (u env S1) B) ∧ (b = false → B false S1)) : WE X (mAndT t u env S) B := by
  unfold mAndT
  refine w_bind (h.imp fun b S1 h => ?_)
  cases b with
  | true => exact h.1 rfl
  | false => exact h.2 rfl
theorem w_ot (h : WE X (t env S) fun b S1 => (b = true → B true S1) ∧ (b = false → WE X (u env S1) B)) : WE X (mOrT t u env S) B := by
  unfold mOrT
  refine w_bind (h.imp fun b S1 h => ?_)
  cases b with
  | true => exact h.1 rfl
  | false => exact h.2 rfl
theorem w_chain {g g' : Store → D → D → Option Gv} (h : WE X (ma env S) fun x S1 => WE X (mb env S1) fun y S2 => ∃ b, g S2 x y = some (.d (.bl b)) ∧ (b = true → WE X (mc env S2) fun z S3 => WE X (Gv.fin false (g' S3 y z) S3) P) ∧ (b = false → P (.bl false) S2)) : WE X (mChain g g' ma mb mc env S) P := by
  unfold mChain
  refine w_bind (h.imp fun x S1 h => w_bind (h.imp fun y S2 h => ?_))
  obtain ⟨b, e, h1, h2⟩ := h
  rw [e]
  cases b with
  | true =>
    have h2 : WE X ((mc env S2).bind fun z S4 => Gv.fin false (g' S4 y z) S4) P := w_bind (h1 rfl)
    exact h2
  | false => exact h2 rfl
theorem w_yes (h : B true S) : WE X (mYes env S) B := h
/-! ### changes of lists -/
theorem w_mu {g : Mu} {n : Nat} {l0 : List D} (ho : WE X (ma env S) fun d S1 => d = .ref n ∧ S1[n]? = some (.lst l0) ∧ WE X (mr env S1) fun as S2 => ∃ l d l', S2[n]? = some (.lst l) ∧ g l as = some (d, l') ∧ P d (S2.set n (.lst l'))) : WE X (mMu g ma mr env S) P := by
  unfold mMu
  refine w_bind (ho.imp fun d S1 h => ?_)
  obtain ⟨rfl, e, h⟩ := h
  dsimp only
  rw [e]
  refine w_bind (h.imp fun as S2 h => ?_)
  obtain ⟨l, d, l', e1, e2, p⟩ := h
  rw [e1]
  dsimp only
  rw [e2]
  exact p
/-- xs.append(e), xs a name -/
theorem w_app {i n : Nat} {l0 : List D} (h : env[i]? = some (some (.v (.ref n)))) (e : S[n]? = some (.lst l0)) (ha : WE X (me env S) fun d S2 => ∃ l, S2[n]? = some (.lst l) ∧ l.length < 16777216 ∧ P .non (S2.set n (.lst (l ++ [d])))) : WE X (mMu muAppend (mVar i) (mCons me mNil) env S) P := by
  refine w_mu (n := n) (l0 := l0) (w_var h ⟨rfl, e, w_cons (ha.imp fun d S2 h => w_nil ?_)⟩)
  obtain ⟨l, e1, hl, p⟩ := h
  exact ⟨l, .non, l ++ [d], e1, by unfold muAppend; dsimp only; rw [if_pos hl], p⟩
/-! ### blocks -/
variable {m m' : SM}
theorem s_seq' (h : WS (m env S) (Q.thn fun e S1 => WS (m' e S1) Q)) : WS (mSeq m m' env S) Q := by
  unfold mSeq
  cases e : m env S with
  | nx e' S1 => rw [e] at h; exact h
  | ret d S1 => rw [e] at h; exact h
  | bk e' S1 => rw [e] at h; exact h
  | ct e' S1 => rw [e] at h; exact h
  | exc c fs e' S1 => rw [e] at h; exact h
  | bad => rw [e] at h; exact h
theorem WS.imp {r : So} {Q' : SP} (h : WS r Q) (n : ∀ e S, Q.nx e S → Q'.nx e S) (rt : ∀ d S, Q.rt d S → Q'.rt d S) (bk : ∀ e S, Q.bk e S → Q'.bk e S) (ct : ∀ e S, Q.ct e S → Q'.ct e S) (ex : ∀ c fs e S, Q.ex c fs e S → Q'.ex c fs e S) : WS r Q' := by
  cases r with
  | nx e S => exact n e S h
  | ret d S => exact rt d S h
  | bk e S => exact bk e S h
  | ct e S => exact ct e S h
  | exc c fs e S => exact ex c fs e S h
  | bad => exact h
/-- a statement with a word for what is so behind it -/
theorem s_mid (M : Evs → Store → Prop) (h : WS (m env S) (Q.thn M)) (k : ∀ e T, M e T → WS (m' e T) Q) : WS (mSeq m m' env S) Q :=
  s_seq' (WS.imp h k (fun _ _ h => h) (fun _ _ h => h) (fun _ _ h => h) (fun _ _ _ _ h => h))
/-- a statement that returns or leaves all as it is -/
theorem s_if0 (h : WS (m env S) (Q.thn fun e T => e = env ∧ T = S)) (k : WS (m' env S) Q) : WS (mSeq m m' env S) Q :=
  s_seq' (WS.imp h (fun e T h => by obtain ⟨rfl, rfl⟩ := h; exact k) (fun _ _ h => h) (fun _ _ h => h) (fun _ _ h => h) (fun _ _ _ _ h => h))
theorem s_skip' (h : Q.nx env S) : WS (mSkip env S) Q := h
theorem s_set' {i : Nat} (h : WE (Q.x env) (me env S) fun d S1 => Q.nx (env.set i (some (.v d))) S1) : WS (mSet i me env S) Q := w_st h
theorem s_ret' (h : WE (Q.x env) (me env S) fun d S1 => Q.rt d S1) : WS (mRet me env S) Q := w_st h
theorem s_expr' (h : WE (Q.x env) (me env S) fun _ S1 => Q.nx env S1) : WS (mExpr me env S) Q := w_st h
theorem s_par' {i j : Nat} (h : WE (Q.x env) (mr env S) fun ds S1 => ∃ d d', ds = [d, d'] ∧ Q.nx ((env.set i (some (.v d))).set j (some (.v d'))) S1) : WS (mPar i j mr env S) Q := by
  unfold mPar
  refine w_st (h.imp fun ds S1 h => ?_)
  obtain ⟨d, d', rfl, q⟩ := h
  exact q
theorem s_par3' {i j l : Nat} (h : WE (Q.x env) (mr env S) fun ds S1 => ∃ d d' d'', ds = [d, d', d''] ∧ Q.nx (((env.set i (some (.v d))).set j (some (.v d'))).set l (some (.v d''))) S1) : WS (mPar3 i j l mr env S) Q := by
  unfold mPar3
  refine w_st (h.imp fun ds S1 h => ?_)
  obtain ⟨d, d', d'', rfl, q⟩ := h
  exact q
theorem s_asg' {g : GM} (h : WE (Q.x env) (me env S) fun d S1 => ∃ p, g d env S1 = some p ∧ Q.nx p.1 p.2) : WS (mAsg me g env S) Q := by
  unfold mAsg
  refine w_st (h.imp fun d S1 h => ?_)
  obtain ⟨p, e, q⟩ := h
  rw [e]
  exact q
theorem s_ifs (h : WE (Q.x env) (t env S) fun b S1 => (b = true → WS (m env S1) Q) ∧ (b = false → WS (m' env S1) Q)) : WS (mIfS t m m' env S) Q := by
  unfold mIfS
  refine w_st (h.imp fun b S1 h => ?_)
  cases b with
  | true => exact h.1 rfl
  | false => exact h.2 rfl
/-! ### loops -/
theorem s_forW {mi : IM} {tg : GM} (h : WE (Q.x env) (mi env S) fun s S1 => WS (forG s tg m s.2 env S1) Q) : WS (mFor mi tg m env S) Q := by
  unfold mFor
  exact w_st h
theorem forG_w {s : Src} {tg : GM} (I : List D → Evs → Store → Prop) (ok : ∀ r env S, I r env S → okS s S = true)
    (step : ∀ d r env S, I (d :: r) env S → ∃ p, tg d env S = some p ∧ WS (m p.1 p.2) ⟨I r, Q.rt, Q.nx, I r, Q.ex⟩) (done : ∀ env S, I [] env S → Q.nx env S) : ∀ (ds : List D) (env : Evs) (S : Store), I ds env S → WS (forG s tg m ds env S) Q
  | [], env, S, h => by
    unfold forG
    rw [ok [] env S h, if_pos rfl]
    exact done env S h
  | d :: r, env, S, h => by
    obtain ⟨p, e, h2⟩ := step d r env S h
    unfold forG
    rw [ok _ env S h, if_pos rfl, e]
    dsimp only
    cases eb : m p.1 p.2 with
    | nx e' S1 => rw [eb] at h2; exact forG_w I ok step done r e' S1 h2
    | ct e' S1 => rw [eb] at h2; exact forG_w I ok step done r e' S1 h2
    | bk e' S1 => rw [eb] at h2; exact h2
    | ret d' S1 => rw [eb] at h2; exact h2
    | exc c fs e' S1 => rw [eb] at h2; exact h2
    | bad => rw [eb] at h2; exact h2
theorem lcG_w {s : Src} {tg : GM} (I : List D → List D → Store → Prop) (ok : ∀ r xs S, I r xs S → okS s S = true)
    (step : ∀ d r xs S, I (d :: r) xs S → ∃ p, tg d env S = some p ∧ WE xNo (t p.1 p.2) fun b S1 => (b = true → WE xNo (me p.1 S1) fun x S2 => I r (xs ++ [x]) S2) ∧ (b = false → I r xs S1)) :
    ∀ (ds xs : List D) (S : Store), I ds xs S → ∃ ys S', lcG s tg t me env ds S = some (ys, S') ∧ I [] (xs ++ ys) S'
  | [], xs, S, h => by
    unfold lcG
    rw [ok [] xs S h, if_pos rfl]
    exact ⟨[], S, rfl, by rw [List.append_nil]; exact h⟩
  | d :: r, xs, S, h => by
    obtain ⟨p, e, h2⟩ := step d r xs S h
    unfold lcG
    rw [ok _ xs S h, if_pos rfl, e]
    dsimp only
    cases et : t p.1 p.2 with
    | ok b S1 =>
      rw [et] at h2
      cases b with
      | true =>
        dsimp only
        have h3 := h2.1 rfl
        cases em : me p.1 S1 with
        | ok x S2 =>
          rw [em] at h3
          dsimp only
          obtain ⟨ys, S', e5, h5⟩ := lcG_w I ok step r (xs ++ [x]) S2 h3
          rw [e5]
          exact ⟨x :: ys, S', rfl, by rw [List.append_assoc] at h5; exact h5⟩
        | exc c fs S2 => rw [em] at h3; exact h3.elim
        | bad => rw [em] at h3; exact h3.elim
      | false =>
        dsimp only
        exact lcG_w I ok step r xs S1 (h2.2 rfl)
    | exc c fs S1 => rw [et] at h2; exact h2.elim
    | bad => rw [et] at h2; exact h2.elim
theorem w_lc {mi : IM} {tg : GM} {own : List Nat} (h : WE X (mi env S) fun s S1 => ∃ I : List D → List D → Store → Prop, I s.2 [] S1 ∧ (∀ r xs S, I r xs S → okS s S = true) ∧
    (∀ d r xs S, I (d :: r) xs S → ∃ p, tg d (wipeE env own) S = some p ∧ WE xNo (t p.1 p.2) fun b S1 => (b = true → WE xNo (me p.1 S1) fun x S2 => I r (xs ++ [x]) S2) ∧ (b = false → I r xs S1)) ∧
    ∀ xs S', I [] xs S' → xs.length ≤ 16777216 ∧ P (.fl xs) S') : WE X (mLc false mi tg t me own env S) P := by
  unfold mLc
  refine w_bind (h.imp fun s S1 h => ?_)
  obtain ⟨I, h0, ok, step, done⟩ := h
  obtain ⟨ys, S', e, h5⟩ := lcG_w I ok step s.2 [] S1 h0
  obtain ⟨h6, h7⟩ := done _ _ h5
  rw [e]
  unfold lcEnd Gv.fin
  dsimp only
  rw [if_pos h6]
  exact h7
/-- [e for x in ..], nothing changed -/
theorem w_lcm {mi : IM} {i : Nat} {ds : List D} {f : D → D} (hi : mi env S = .ok ([], ds) S) (hl : ds.length ≤ 16777216) (hf : ∀ d ∈ ds, WE xNo (me (((env.set i none)).set i (some (.v d))) S) fun x S' => x = f d ∧ S' = S) (p : P (.fl (ds.map f)) S) : WE X (mLc false mi (gmName i) mYes me [i] env S) P := by
  have e := lcG_map (s := ([], ds)) (tg := gmName i) (tt := mYes) (me := me) (env := wipeE env [i]) (S := S) (f := f) rfl ds fun d hd => by
    obtain ⟨x, S', e1, rfl, rfl⟩ := (hf d hd).ok
    exact ⟨_, rfl, rfl, e1⟩
  unfold mLc
  refine w_bind (w_eq hi ?_)
  dsimp only
  rw [e]
  unfold lcEnd Gv.fin
  dsimp only
  rw [List.nil_append, if_pos (by rw [List.length_map]; exact hl)]
  exact p
/-- the same, the source by steps -/
theorem w_lcv {mi : IM} {i : Nat} (h : WE X (mi env S) fun s S1 => s.1 = [] ∧ s.2.length ≤ 16777216 ∧ ∃ f : D → D, (∀ d ∈ s.2, WE xNo (me ((env.set i none).set i (some (.v d))) S1) fun x S' => x = f d ∧ S' = S1) ∧ P (.fl (s.2.map f)) S1) : WE X (mLc false mi (gmName i) mYes me [i] env S) P := by
  unfold mLc
  refine w_bind (h.imp fun s S1 h => ?_)
  obtain ⟨h0, hl, f, hf, p⟩ := h
  have e := lcG_map (s := s) (tg := gmName i) (tt := mYes) (me := me) (env := wipeE env [i]) (S := S1) (f := f) h0 s.2 fun d hd => by
    obtain ⟨x, S', e1, rfl, rfl⟩ := (hf d hd).ok
    exact ⟨_, rfl, rfl, e1⟩
  rw [e]
  unfold lcEnd Gv.fin
  dsimp only
  rw [List.nil_append, if_pos (by rw [List.length_map]; exact hl)]
  exact p
/-- [e for x in .. if t], nothing changed -/
theorem lcG_filter {s : Src} {tg : GM} {tt : TM} {me : EM} {env : Evs} {S : Store} {p : D → Bool} {f : D → D} (hs : s.1 = []) : ∀ (ds : List D), (∀ d ∈ ds, ∃ env', tg d env S = some (env', S) ∧ tt env' S = .ok (p d) S ∧ (p d = true → me env' S = .ok (f d) S)) → lcG s tg tt me env ds S = some ((ds.filter p).map f, S)
  | [], _ => by
    obtain ⟨a, b⟩ := s
    cases hs
    unfold lcG
    rw [okS_none, if_pos rfl]
    rfl
  | d :: r, h => by
    obtain ⟨env', h1, h2, h3⟩ := h d List.mem_cons_self
    have h4 := lcG_filter (p := p) (f := f) hs r fun d hd => h d (List.mem_cons_of_mem _ hd)
    obtain ⟨a, b⟩ := s
    cases hs
    unfold lcG
    rw [okS_none, if_pos rfl, h1]
    dsimp only
    rw [h2, List.filter_cons]
    cases e : p d with
    | true =>
      dsimp only
      rw [h3 e]
      dsimp only
      rw [h4]
      rfl
    | false =>
      dsimp only
      rw [h4]
      rfl
theorem w_lcf {mi : IM} {i : Nat} (h : WE X (mi env S) fun s S1 => s.1 = [] ∧ s.2.length ≤ 16777216 ∧ ∃ (p : D → Bool) (f : D → D), (∀ d ∈ s.2, WE xNo (t ((env.set i none).set i (some (.v d))) S1) fun b S' => b = p d ∧ S' = S1) ∧ (∀ d ∈ s.2, p d = true → WE xNo (me ((env.set i none).set i (some (.v d))) S1) fun x S' => x = f d ∧ S' = S1) ∧ P (.fl ((s.2.filter p).map f)) S1) : WE X (mLc false mi (gmName i) t me [i] env S) P := by
  unfold mLc
  refine w_bind (h.imp fun s S1 h => ?_)
  obtain ⟨h0, hl, p, f, ht, hf, q⟩ := h
  have e := lcG_filter (s := s) (tg := gmName i) (tt := t) (me := me) (env := wipeE env [i]) (S := S1) (p := p) (f := f) h0 s.2 fun d hd => by
    obtain ⟨b, S', e1, rfl, rfl⟩ := (ht d hd).ok
    refine ⟨_, rfl, e1, fun hp => ?_⟩
    obtain ⟨x, S', e1, rfl, rfl⟩ := (hf d hd hp).ok
    exact e1
  rw [e]
  unfold lcEnd Gv.fin
  dsimp only
  rw [List.nil_append, if_pos (by rw [List.length_map]; exact Nat.le_trans (List.length_filter_le _ _) hl)]
  exact q
theorem w_mrG {al : Bool} {g : Store → D → List D → Option Gv} (h : WE X (ma env S) fun x S1 => (lstOf S1 x).isSome = true ∧ WE X (mr env S1) fun as S2 => WE X (Gv.fin al (g S2 x as) S2) P) : WE X (mMr al g ma mr env S) P := by
  unfold mMr
  refine w_bind (h.imp fun x S1 h => ?_)
  obtain ⟨e, h⟩ := h
  obtain ⟨q, e⟩ := Option.isSome_iff_exists.mp e
  rw [e]
  exact w_bind h
theorem w_join (h : WE X (ma env S) fun x S1 => ∃ a, x = .str a ∧ WE X (mb env S1) fun y S2 => ∃ ds ys, seqOf S2 y = some ds ∧ strsOf ds = some ys ∧ (ys.map (·.length)).sum + ys.length * a.length ≤ 16777216 ∧ P (.str (Txt.join a ys)) S2) : WE X (mJoin ma mb env S) P := by
  unfold mJoin
  refine w_bind (h.imp fun x S1 h => ?_)
  obtain ⟨a, rfl, h⟩ := h
  refine w_bind (h.imp fun y S2 h => ?_)
  obtain ⟨ds, ys, e1, e2, e3, p⟩ := h
  rw [e1]
  dsimp only
  rw [e2]
  dsimp only
  rw [if_pos e3]
  exact p
/-- [e for .. in x], any target, nothing changed -/
theorem w_lcg {mi : IM} {tg : GM} {own : List Nat} (h : WE X (mi env S) fun s S1 => s.1 = [] ∧ s.2.length ≤ 16777216 ∧ ∃ f : D → D, (∀ d ∈ s.2, ∃ env', tg d (wipeE env own) S1 = some (env', S1) ∧ WE xNo (me env' S1) fun x S' => x = f d ∧ S' = S1) ∧ P (.fl (s.2.map f)) S1) : WE X (mLc false mi tg mYes me own env S) P := by
  unfold mLc
  refine w_bind (h.imp fun s S1 h => ?_)
  obtain ⟨h0, hl, f, hf, p⟩ := h
  have e := lcG_map (s := s) (tg := tg) (tt := mYes) (me := me) (env := wipeE env own) (S := S1) (f := f) h0 s.2 fun d hd => by
    obtain ⟨env', e0, h1⟩ := hf d hd
    obtain ⟨x, S', e1, rfl, rfl⟩ := h1.ok
    exact ⟨env', e0, rfl, e1⟩
  rw [e]
  unfold lcEnd Gv.fin
  dsimp only
  rw [List.nil_append, if_pos (by rw [List.length_map]; exact hl)]
  exact p
theorem w_ma {P : Src → Store → Prop} (h : WE X (me env S) fun d S1 => WE X (srcAny d S1) P) : WE X (iMA me env S) P := w_bind h
theorem w_mr1 {P : Src → Store → Prop} (h : WE X (mr env S) fun ds S1 => ∃ j, ds = [.int j] ∧ inRng j = true ∧ P ([], upto 0 j.toNat) S1) : WE X (iMR1 mr env S) P := by
  unfold iMR1
  refine w_bind (h.imp fun ds S1 h => ?_)
  obtain ⟨j, rfl, q, p⟩ := h
  unfold srcRng1
  dsimp only
  rw [if_pos q]
  exact p
/-! ### a def -/
theorem finM_w {fm : FM} {k : Nat} {es : List EV} (h : WS (m (env0 k es) S) (SP.of (fun _ T => P .non T) P X)) : WE X (finM k m es S) P := by
  unfold finM
  cases e : m (env0 k es) S with
  | nx e' S1 => rw [e] at h; exact h
  | ret d S1 => rw [e] at h; exact h
  | bk e' S1 => rw [e] at h; exact h.elim
  | ct e' S1 => rw [e] at h; exact h.elim
  | exc c fs e' S1 => rw [e] at h; exact h
  | bad => rw [e] at h; exact h.elim
/-- what is left of a result behind a call that changes the urn alone -/
def Lf (S : Store) (n : Nat) (P : D → Prop) : D → Store → Prop := fun d T => ∃ u ext d', T = S.set n (uc u) ++ ext ∧ mapR (frzR T S.length 4) d = some d' ∧ P d'
theorem dr_w {n k : Nat} {es : List EV} {P : D → Prop} (h : WS (m (env0 k es) S) (SP.of (fun _ T => Lf S n P .non T) (Lf S n P) xNo)) : Dr S n (frzM (finM k m) es S) P := by
  obtain ⟨d, T, e, u, ext, d', rfl, e2, p⟩ := (finM_w (P := Lf S n P) (X := xNo) (fm := finM k m) h).ok
  exact dr_frz e e2 p
theorem dr_w0 {n k : Nat} {es : List EV} {P : D → Prop} (U : Urn S n) (h : ∀ u, S = S.set n (uc u) ++ [] → WS (m (env0 k es) (S.set n (uc u) ++ [])) (SP.of (fun _ T => Lf S n P .non T) (Lf S n P) xNo)) : Dr S n (frzM (finM k m) es S) P := by
  obtain ⟨u, e⟩ := id U
  have e2 : S = S.set n (uc u) ++ [] := by
    obtain ⟨hn, e⟩ := List.getElem?_eq_some_iff.mp e
    rw [← e, List.set_getElem_self, List.append_nil]
  refine dr_w ?_
  have h2 := h u e2
  rwa [← e2] at h2
theorem set_extU {ext : Store} {n : Nat} {c c' : Cell} (h : n < S.length) : (S.set n c ++ ext).set n c' = S.set n c' ++ ext := by
  rw [set_app (by simpa using h), List.set_set]
/-- a drawing call -/
theorem w_dr {n : Nat} {r : Rz D} {u0 : Int × Int × Int} {ext : Store} {R : D → Prop} (hn : n < S.length) (h : Dr (S.set n (uc u0) ++ ext) n r R) (k : ∀ d u, R d → P d (S.set n (uc u) ++ ext)) : WE X r P := by
  obtain ⟨d, u, rfl, p⟩ := h
  rw [set_extU hn]
  exact k d u p
/-- a new empty list -/
theorem w_nilU {n : Nat} {u : Int × Int × Int} {ext : Store} (p : P (.ref (S.length + ext.length)) (S.set n (uc u) ++ (ext ++ [.lst []]))) : WE X (mLst true mNil env (S.set n (uc u) ++ ext)) P := by
  refine w_lsta (w_nil ⟨Nat.zero_le _, ?_⟩)
  rw [List.append_assoc, List.length_append, List.length_set]
  exact p
theorem Urn.at {n : Nat} (h : n < S.length) (u : Int × Int × Int) (ext : Store) : Urn (S.set n (uc u) ++ ext) n := ⟨u, by rw [List.getElem?_append_left (by simpa using h)]; exact List.getElem?_set_self h⟩
/-- a call that changes nothing -/
theorem pure_w {k : Nat} {es : List EV} {Pd : D → Prop} (h : WS (m (env0 k es) S) (SP.of (fun _ T => T = S ∧ Pd .non) (fun d T => T = S ∧ clD S.length d = true ∧ Pd d) xNo)) : ∃ d, frzM (finM k m) es S = .ok d S ∧ Pd d := by
  obtain ⟨d, T, e, rfl, h2, h3⟩ := (finM_w (P := fun d T => T = S ∧ clD S.length d = true ∧ Pd d) (X := xNo) (fm := finM k m) (h.imp (fun _ _ h => ⟨h.1, rfl, h.2⟩) (fun _ _ h => h) (fun _ _ h => h) (fun _ _ h => h) (fun _ _ _ _ h => h))).ok
  exact ⟨d, frzM_cl e h2, h3⟩
theorem pure_eq {k : Nat} {es : List EV} {d0 : D} (hc : clD S.length d0 = true) (h : WS (m (env0 k es) S) (SP.of (fun _ T => T = S ∧ D.non = d0) (fun d T => T = S ∧ d = d0) xNo)) : frzM (finM k m) es S = .ok d0 S := by
  obtain ⟨d, e, rfl⟩ := pure_w (m := m) (k := k) (es := es) (S := S) (Pd := fun d => d = d0) (h.imp (fun _ _ h => ⟨h.1, h.2⟩) (fun d T h => ⟨h.1, by rw [h.2]; exact hc, h.2⟩) (fun _ _ h => h) (fun _ _ h => h) (fun _ _ _ _ h => h))
  exact e
/-- a closure that changes nothing -/
theorem clo_eq {n p q : Nat} {ws es : List EV} {d0 : D} (hl : es.length = p ∧ ws.length = q) (h : WS (m (es.map some ++ (ws.map some ++ List.replicate (n - p - q) none)) S) (SP.of (fun _ T => T = S ∧ D.non = d0) (fun d T => T = S ∧ d = d0) xNo)) : finC n p q m ws es S = .ok d0 S := by
  unfold finC
  rw [if_pos hl]
  cases e : m (es.map some ++ (ws.map some ++ List.replicate (n - p - q) none)) S with
  | nx e' T => rw [e] at h; obtain ⟨rfl, h2⟩ := h; rw [← h2]; rfl
  | ret d T => rw [e] at h; obtain ⟨rfl, rfl⟩ := h; rfl
  | bk e' T => rw [e] at h; exact h.elim
  | ct e' T => rw [e] at h; exact h.elim
  | exc c fs e' T => rw [e] at h; exact h.elim
  | bad => rw [e] at h; exact h.elim
/-- the same, with new things of its own behind -/
theorem pure_wx {k : Nat} {es : List EV} {Pd : D → Prop} (h : WS (m (env0 k es) S) (SP.of (fun _ T => (∃ ext, T = S ++ ext) ∧ Pd .non) (fun d T => (∃ ext, T = S ++ ext) ∧ ∃ d', mapR (frzR T S.length 4) d = some d' ∧ Pd d') xNo)) : ∃ d, frzM (finM k m) es S = .ok d S ∧ Pd d := by
  obtain ⟨d, T, e, ⟨ext, rfl⟩, d', h2, h3⟩ := (finM_w (P := fun d T => (∃ ext, T = S ++ ext) ∧ ∃ d', mapR (frzR T S.length 4) d = some d' ∧ Pd d') (X := xNo) (fm := finM k m) (h.imp (fun _ _ h => ⟨h.1, .non, rfl, h.2⟩) (fun _ _ h => h) (fun _ _ h => h) (fun _ _ h => h) (fun _ _ _ _ h => h))).ok
  exact ⟨d', frzM_pure e h2, h3⟩
/-- a list that was made here, as it comes back -/
theorem frz_at {T : Store} {L m k : Nat} {ds : List D} (hm : L ≤ m) (h : T[m]? = some (.lst ds)) (hc : clDs L ds = true) : mapR (frzR T L (k + 1)) (.ref m) = some (.fl ds) := by
  unfold mapR frzR
  rw [if_neg (by omega), h]
  dsimp only
  rw [mapRs_cl ds hc]
  rfl
theorem slD_str {z : Str} {lo hi : Option Int} (h : z.length ≤ 16777216) : slD S (.str z) lo hi = some (.d (.str (Txt.slice z lo hi))) := if_pos h
theorem gAdd_str {a b : Str} (h : a.length + b.length ≤ 16777216) : gAdd S (.str a) (.str b) = some (.d (.str (a ++ b))) := if_pos h
/-- a part of a tuple -/
theorem w_slt {al : Bool} {ds : List D} {lo hi : Option Int} (hl : ds.length ≤ 16777216) (p : P (.tup (cutD ds lo hi)) S) : WE X (Gv.fin al (slD S (.tup ds) lo hi) S) P := by
  have e : slD S (.tup ds) lo hi = if HT.sIx ds.length 0 lo = 0 ∧ HT.sIx ds.length ds.length hi = ds.length then some (.d (.tup ds)) else some (.t (cutD ds lo hi)) := rfl
  rw [e]
  split
  · rename_i h
    have e2 : cutD ds lo hi = ds := by
      unfold cutD
      rw [h.1, h.2]
      simp
    rw [e2] at p
    exact p
  · refine w_gt rfl ?_ p
    unfold cutD
    rw [List.length_take, List.length_drop]
    omega
theorem w_catT {al : Bool} {a b : List D} (hl : a.length + b.length ≤ 16777216) (p : P (.tup (a ++ b)) S) : WE X (Gv.fin al (gAdd S (.tup a) (.tup b)) S) P := by
  have e : gAdd S (.tup a) (.tup b) = catT a b := if_pos hl
  rw [e]
  cases a with
  | nil => exact p
  | cons x a =>
    cases b with
    | nil => rw [List.append_nil] at p; exact p
    | cons y b => exact w_gt (ds := x :: a ++ y :: b) rfl (by rw [List.length_append]; exact hl) p
theorem w_make {al : Bool} {c : Str} {fm : FM} (h : WE X (mr env S) fun ds S1 => WE X (mkA al c fm (ds.map .v) S1) P) : WE X (mMake al c fm mr env S) P := by
  unfold mMake
  exact w_bind h
theorem w_makeK {al : Bool} {c : Str} {fm : FM} {ix : List Nat} {k : Nat} (h : WE X (mr env S) fun ds S1 => ds.length = k ∧ WE X (mkA al c fm ((perm ix ds).map .v) S1) P) : WE X (mMakeK al c fm ix k mr env S) P := by
  unfold mMakeK
  refine w_bind (h.imp fun ds S1 h => ?_)
  rw [if_pos h.1]
  exact h.2
/-- a property of an instance -/
theorem w_prop {pt : List (Str × FM)} {fc : List Str} {f : Str} (h : WE X (me env S) fun d S1 => ∃ c fs fm a T, insOf S1 d = some (c, fs) ∧ pt.lookup c = some fm ∧ fm [.v d] S1 = .ok a T ∧ P a T) : WE X (mAttr pt fc f me env S) P := by
  unfold mAttr
  refine w_bind (h.imp fun d S1 h => ?_)
  obtain ⟨c, fs, fm, a, T, e1, e2, e3, p⟩ := h
  rw [e1]
  dsimp only
  rw [e2]
  dsimp only
  rw [e3]
  exact p
theorem w_cmpN {n : Bool} {et : List (Str × FM)} (h : WE X (ma env S) fun x S1 => WE X (mb env S1) fun y S2 => insOf S2 x = none ∧ insOf S2 y = none ∧ ∃ z, gCmp n S2 x y = some (.d z) ∧ P z S2) : WE X (mCmpO n et ma mb env S) P := by
  unfold mCmpO
  refine w_bind (h.imp fun x S1 h => w_bind (h.imp fun y S2 h => ?_))
  obtain ⟨e1, e2, z, e3, p⟩ := h
  rw [e1, e2]
  dsimp only
  refine w_gd ?_ p
  rw [← e3]
  cases n <;> rfl
theorem w_cmpO {n : Bool} {et : List (Str × FM)} (h : WE X (ma env S) fun x S1 => WE X (mb env S1) fun y S2 => (insOf S2 x).isSome = true ∧ ∃ z T, cmpO n et S2 x y = .ok z T ∧ P z T) : WE X (mCmpO n et ma mb env S) P := by
  unfold mCmpO
  refine w_bind (h.imp fun x S1 h => w_bind (h.imp fun y S2 h => ?_))
  obtain ⟨e1, z, T, e3, p⟩ := h
  obtain ⟨q, e1⟩ := Option.isSome_iff_exists.mp e1
  rw [e1]
  cases insOf S2 y <;> exact w_eq e3 p
theorem cut_from {xs : List D} {i : Int} (h : 0 ≤ i) : cutD xs (some i) none = xs.drop i.toNat := by
  obtain ⟨k, rfl⟩ := Int.eq_ofNat_of_zero_le h
  have h0 : HT.sIx xs.length xs.length none = xs.length := rfl
  unfold cutD
  rw [HT.sIx_nat, h0, Int.toNat_natCast]
  rcases Nat.le_total k xs.length with hk | hk
  · rw [Nat.min_eq_left hk, List.take_of_length_le (by rw [List.length_drop]; omega)]
  · rw [Nat.min_eq_right hk, List.drop_eq_nil_of_le hk, List.drop_eq_nil_of_le (Nat.le_refl _), List.take_nil]
theorem cut_to {xs : List D} {i : Int} (h : 0 ≤ i) : cutD xs none (some i) = xs.take i.toNat := by
  obtain ⟨k, rfl⟩ := Int.eq_ofNat_of_zero_le h
  have h0 : HT.sIx xs.length 0 none = 0 := rfl
  unfold cutD
  rw [HT.sIx_nat, h0, List.drop_zero, Nat.sub_zero, Int.toNat_natCast, List.take_eq_take_iff]
  omega
theorem cut_mid {xs : List D} {i j : Int} (h : 0 ≤ i) (h2 : 0 ≤ j) : cutD xs (some i) (some j) = (xs.drop i.toNat).take (j.toNat - i.toNat) := by
  obtain ⟨k, rfl⟩ := Int.eq_ofNat_of_zero_le h
  obtain ⟨m, rfl⟩ := Int.eq_ofNat_of_zero_le h2
  unfold cutD
  rw [HT.sIx_nat, HT.sIx_nat, Int.toNat_natCast, Int.toNat_natCast]
  rcases Nat.le_total k xs.length with hk | hk
  · rw [Nat.min_eq_left hk, List.take_eq_take_iff, List.length_drop]
    omega
  · rw [Nat.min_eq_right hk, List.drop_eq_nil_of_le hk, List.drop_eq_nil_of_le (Nat.le_refl _), List.take_nil, List.take_nil]
theorem cut_init {xs : List D} : cutD xs none (some (-1)) = xs.dropLast := by
  have h0 : HT.sIx xs.length 0 none = 0 := rfl
  have h1 : HT.sIx xs.length xs.length (some (-1)) = xs.length - 1 := by
    show (-1 + (xs.length : Int)).toNat = _
    omega
  unfold cutD
  rw [h0, h1, List.drop_zero, Nat.sub_zero, List.dropLast_eq_take]
theorem gIx_tup {xs : List D} {i : Nat} {d : D} (h : xs[i]? = some d) : gIx S (.tup xs) (.int i) = some (.d d) := by
  obtain ⟨hi, e⟩ := List.getElem?_eq_some_iff.mp h
  show (L2.atI xs (i : Int)).map _ = _
  unfold L2.atI L2.ixN
  rw [if_pos (by omega), if_pos (by omega)]
  show (xs[(i : Int).toNat]?).map _ = _
  rw [Int.toNat_natCast, h]
  rfl
theorem gIx_fl {xs : List D} {i : Nat} {d : D} (h : xs[i]? = some d) : gIx S (.fl xs) (.int i) = some (.d d) := gIx_tup (S := S) h
theorem gIx_fz {xs : List D} {i : Nat} {d : D} (h : xs[i]? = some d) : gIx S (.fz xs) (.int i) = some (.d d) := gIx_tup (S := S) h
theorem gAdd_fl {a b : List D} (h : a.length + b.length ≤ 16777216) : gAdd S (.fl a) (.fl b) = some (.l (a ++ b)) := if_pos h
theorem gMulA_str {z : Str} {n : Int} (hn : inRng n = true) (h : z.length * n.toNat ≤ 16777216) : gMulA S (.str z) (.int n) = some (.d (.str (mulS z n.toNat))) := if_pos ⟨hn, h⟩
theorem gIx_str {z : Str} {i c : Nat} (hz : z.length ≤ 16777216) (h : z.cps.toList[i]? = some c) : gIx S (.str z) (.int i) = some (.d (.str ⟨#[c]⟩)) := by
  obtain ⟨hi, e⟩ := List.getElem?_eq_some_iff.mp h
  unfold gIx ixD L2.atI L2.ixN
  dsimp only
  rw [if_pos hz, if_pos (by omega), if_pos (by omega)]
  show ((z.cps.toList[(i : Int).toNat]?).map _).map _ = _
  rw [Int.toNat_natCast, h]
  rfl
theorem s_fld' {fc : List Str} {f : Str} (h : WE (Q.x env) (mb env S) fun y S1 => WE (Q.x env) (ma env S1) fun x S2 => ∃ n c fs, x = .ref n ∧ S2[n]? = some (.ins c fs) ∧ fc.contains c = true ∧ fs.length < 1000 ∧ Q.nx env (S2.set n (.ins c (putD f y fs)))) : WS (mFldSet fc f ma mb env S) Q := by
  unfold mFldSet
  refine w_st (h.imp fun y S1 h => w_st (h.imp fun x S2 h => ?_))
  obtain ⟨n, c, fs, rfl, e, h1, h2, q⟩ := h
  dsimp only
  rw [e]
  dsimp only
  rw [if_pos ⟨h1, h2⟩]
  exact q
/-- an init that sets one field: the instance as data -/
theorem mk_ob {c f : Str} {fm : FM} {es : List EV} {p : D} (h : fm (.v (.ref S.length) :: es) (S ++ [.ins c []]) = .ok .non (S ++ [.ins c [(f, p)]])) (hc : clD S.length p = true) : mkA false c fm es S = .ok (.ob c [(f, p)]) S := by
  have e1 : mkR c fm es S = .ok (.ref S.length) (S ++ [.ins c [(f, p)]]) := by
    unfold mkR
    rw [h]
  show M3.frz S (mkR _ _ _ S) = _
  rw [e1]
  have g1 : (S ++ [Cell.ins c [(f, p)]])[S.length]? = some (.ins c [(f, p)]) := by simp
  unfold M3.frz
  dsimp only
  rw [if_pos ⟨by simp, fun i hi => .inl (List.getElem?_append_left hi)⟩]
  unfold mapR frzR
  rw [if_neg (Nat.lt_irrefl _), g1]
  dsimp only
  unfold mapRf mapRf
  rw [mapR_cl _ hc]
  dsimp only
  rw [List.take_left]
  rfl
/-- an init by its body -/
theorem init_eq {k : Nat} {c f : Str} {es : List EV} {p : D} (hc : clD (S.length + 1) p = true) (h : WS (m (env0 k (.v (.ref S.length) :: es)) (S ++ [Cell.ins c []])) (SP.of (fun _ T => T = (S ++ [Cell.ins c []]).set S.length (.ins c [(f, p)])) (fun _ _ => False) xNo)) : frzM (finM k m) (.v (.ref S.length) :: es) (S ++ [Cell.ins c []]) = .ok .non (S ++ [.ins c [(f, p)]]) := by
  have hL : S.length < (S ++ [Cell.ins c []]).length := by simp
  obtain ⟨d, T, e, rfl, rfl⟩ := (finM_w (P := fun d T => d = .non ∧ T = (S ++ [Cell.ins c []]).set S.length (.ins c [(f, p)])) (X := xNo) (fm := finM k m) (h.imp (fun _ _ h => ⟨rfl, h⟩) (fun _ _ h => h.elim) (fun _ _ h => h) (fun _ _ h => h) (fun _ _ _ _ h => h))).ok
  have e1 := frzM_ok (fm := finM k m) (es := .v (.ref S.length) :: es) (S := S ++ [Cell.ins c []]) (S1 := (S ++ [Cell.ins c []]).set S.length (.ins c [(f, p)]) ++ []) (d := .non) (d' := .non) (by rw [e, List.append_nil]) (frzOk_set (c := .ins c [(f, p)]) (by show (clD _ p && true) = true; rw [List.length_append]; rw [show S.length + [Cell.ins c []].length = S.length + 1 from rfl, hc]; rfl)) rfl
  rw [take_set] at e1
  rw [e1]
  congr 1
  rw [List.set_append_right _ _ (Nat.le_refl _), Nat.sub_self]
  rfl
end
end M3

set_option Elab.async false
set_option linter.all false
set_option maxRecDepth 100000
set_option maxHeartbeats 1000000
/-! M3Z: t[::-1] of tuples and lists, list(range(..)). -/
namespace M3
open PySem PySem.Spec L2 PyProof.Rows
section
variable {prog : Program} {w : World} {A : Around} {E : Value → Shared → Prop} {s : Shared}
theorem places_rev (n : Nat) : Builtin.Slice.slicePlaces ((n : Int) - 1) (-1) (-1) = n := by
  unfold Builtin.Slice.slicePlaces
  rw [if_neg (by decide)]
  by_cases h : (n : Int) - 1 > -1
  · rw [if_pos h, show (-(-1) : Int) = 1 by decide, Int.ediv_one]
    omega
  · rw [if_neg h]
    omega
theorem applied_rev {sl : Addr} {vs : Value} {n : Nat} {Q : Int × Int × Nat → Shared → Prop} (hs : s.heap.IsSliceOf sl .none .none vs) (ps : IsPart vs (some (-1))) (h : Q ((n : Int) - 1, -1, n) s) : wpAny (model prog w) A (Builtin.Slice.sliceApplied (.ref sl) (pure (n : Int))) Q E s := by
  obtain ⟨os, hos, hcs, hds⟩ := id hs
  unfold Builtin.Slice.sliceApplied Builtin.Slice.sliceFields
  refine wpAny_bind (wpAny_bind (wpAny_field hos hds (x := .none) rfl (wpAny_bind (wpAny_field hos hds (x := .none) rfl (wpAny_bind (wpAny_field hos hds (x := vs) rfl (wpAny_pure ?_)))))))
  refine wpAny_bind (HT.slicePart_ ps ?_)
  show wpAny _ _ (if ((-1 : Int) == 0) = true then _ else _) _ _ s
  rw [if_neg (by decide)]
  refine wpAny_bind (slicePart_none (wpAny_bind (slicePart_none (wpAny_bind (wpAny_pure ?_)))))
  have e : Builtin.Slice.sliceAdjust none none (-1) (n : Int) = ((n : Int) - 1, -1) := rfl
  show wpAny _ _ (match Builtin.Slice.sliceAdjust none none (-1) (n : Int) with | (lo, hi) => pure (lo, (-1 : Int), Builtin.Slice.slicePlaces lo hi (-1))) _ _ s
  rw [e]
  show wpAny _ _ (pure ((n : Int) - 1, (-1 : Int), Builtin.Slice.slicePlaces ((n : Int) - 1) (-1) (-1))) _ _ s
  rw [places_rev]
  exact wpAny_pure h
theorem pick_rev (xs : Array Value) : ((List.range xs.size).filterMap fun (m : Nat) => xs[((xs.size : Int) - 1 + (m : Int) * (-1)).toNat]?).toArray = xs.toList.reverse.toArray := by
  have e : (List.range xs.size).filterMap (fun (m : Nat) => xs[((xs.size : Int) - 1 + (m : Int) * (-1)).toNat]?) = ((List.range xs.size).map fun k => xs.size - 1 - k).filterMap (xs[·]?) := by
    rw [List.filterMap_map]
    have key : ∀ l : List Nat, (∀ m ∈ l, m < xs.size) → l.filterMap (fun (m : Nat) => xs[((xs.size : Int) - 1 + (m : Int) * (-1)).toNat]?) = l.filterMap ((xs[·]?) ∘ fun k => xs.size - 1 - k) := by
      intro l
      induction l with
      | nil => intro _; rfl
      | cons m l ih =>
        intro h
        have hm := h m List.mem_cons_self
        have e1 : ((xs.size : Int) - 1 + (m : Int) * (-1)).toNat = xs.size - 1 - m := by omega
        have e2 : (fun (m : Nat) => xs[((xs.size : Int) - 1 + (m : Int) * (-1)).toNat]?) m = ((xs[·]?) ∘ fun k => xs.size - 1 - k) m := by
          show xs[((xs.size : Int) - 1 + (m : Int) * (-1)).toNat]? = xs[xs.size - 1 - m]?
          rw [e1]
        rw [List.filterMap_cons, List.filterMap_cons, ih fun x hx => h x (List.mem_cons_of_mem _ hx), show xs[((xs.size : Int) - 1 + (m : Int) * (-1)).toNat]? = ((xs[·]?) ∘ fun k => xs.size - 1 - k) m from e2]
    exact key _ fun m hm => List.mem_range.mp hm
  rw [e, PySem.W.krv_range, List.filterMap_reverse, PySem.W.krv_all]
theorem getItem_tuple_rev {t sl : Addr} {items : Array Value} {vs : Value} {Q : Value → Shared → Prop} (ht : IsTup s.heap t items) (hs : s.heap.IsSliceOf sl .none .none vs) (ps : IsPart vs (some (-1)))
    (h : Q (.ref s.heap.objs.size) { s with heap := s.heap.push { cls := .type "tuple", data := .seq items.toList.reverse.toArray } })
    (hsz : items.size ≤ sizeLine) : wpAny (model prog w) A (getItem (.ref t) (.ref sl)) Q E s := by
  have hrev : sizeOk (.seq items.toList.reverse.toArray) := by
    show items.toList.reverse.toArray.size ≤ sizeLine
    rw [List.size_toArray, List.length_reverse, Array.length_toList]
    omega
  obtain ⟨os, hos, hcs, hds⟩ := id hs
  have hTs : s.TypeIs (.ref sl) "slice" := ⟨os, hos, hcs⟩
  unfold getItem
  try with_reducible refine wpAny_holding ?_
  first | refine wpAny_bind (wpAny_pure ?_) | skip
  refine wpAny_bind (wpAny_sequenceKey ht.typeIs (by decide) ?_)
  refine wpAny_bind (wpAny_callSpecial?_slot (name := Str.ofString "__getitem__") ht.typeIs PyProof.Rows.slot_tuple_getitem
    (wpAny_call_entry PyProof.Rows.slot_tuple_getitem ht.typeIs entry_tuple_getitem ?_ (args_tuple_getitem _ _)))
  show wpAny _ _ (Builtin.Tuple.tupleItemsOf (.ref t) >>= _) _ _ s
  refine wpAny_bind (tupleItemsOf_ ht ?_)
  refine wpAny_bind (wpAny_typeOf hTs ?_)
  rw [if_pos (by decide)]
  refine wpAny_bind (applied_rev hs ps ?_)
  have hno : ¬ (((((items.size : Int) - 1) == 0) && ((-1 : Int) == 1) && (items.size == items.size)) = true) := by
    rw [show ((-1 : Int) == 1) = false by decide]
    simp
  show wpAny _ _ (if (((((items.size : Int) - 1) == 0) && ((-1 : Int) == 1) && (items.size == items.size)) = true) then _ else _) _ _ s
  rw [if_neg hno, pick_rev]
  first
    | exact wpAny_bind (m := Builtin.Tuple.tupleExact _) (wpAny_newObj_type (wpAny_pure ⟨_, rfl, wpAny_pure h⟩) hrev)
    | exact wpAny_bind (m := Builtin.Tuple.tupleExact _) (wpAny_newObj_type (wpAny_bind (wpAny_pure (wpAny_pure ⟨_, rfl, wpAny_pure h⟩))) hrev)
    | exact wpAny_bind (wpAny_bind (m := Builtin.Tuple.tupleExact _) (wpAny_newObj_type (wpAny_pure (wpAny_pure ⟨_, rfl, wpAny_pure h⟩)) hrev))
    | exact wpAny_bind (wpAny_bind (m := Builtin.Tuple.tupleExact _) (wpAny_newObj_type (wpAny_pure ⟨_, rfl, wpAny_pure h⟩) hrev))
end
/-! ### t[::-1] -/
section
variable {X : Cx} {F : Fm} {k : Nat}
def tRevT (K : PySem.W.Frag) (te : TE) : TE := fun σ H Q => te σ H fun x H1 => ∃ a xs, x = .ref a ∧ SqT K H1 a xs ∧ ∀ p, H1 p = none → Q (.ref p) (upd H1 p (.tup xs.reverse))
theorem pe_revT {e : Expr} {te : TE} {k : Nat} {p1 p2 p3 pos : Pos} (he : PE X e te) : PE X (.Subscript e (.Slice none none (some (.UnaryOp .USub (.Constant (.int 1) k p1) p2)) p3) pos) (tRevT X.K te) := by
  refine ⟨fun pins s σ H Q I h => ?_⟩
  refine Subscript_ (thn (he.run pins s σ H _ I h) fun v s1 ⟨x, H1, I1, r1, q1⟩ => ?_)
  obtain ⟨a, xs, ex, hx, q⟩ := q1
  subst ex
  cases r1
  have hst : PO X (some (.UnaryOp .USub (.Constant (.int 1) k p1) p2)) (tPart (tUn (rU fun i => .int (-i)) (tC (.int 1)))) := po_some (pe_un un_neg pe_int)
  refine wpAny_Slice (thn (po_none.run pins s1 σ H1 (fun o H2 => o = none ∧ H2 = H1) I1 ⟨rfl, rfl⟩) fun vl s2 ⟨l, H2, I2, pl, el, e2⟩ => ?_)
  subst el e2
  refine thn (po_none.run pins s2 σ H2 (fun o H3 => o = none ∧ H3 = H2) I2 ⟨rfl, rfl⟩) fun vu s3 ⟨u, H3, I3, pu, eu, e3⟩ => ?_
  subst eu e3
  refine thn (hst.run pins s3 σ H3 (fun o H4 => o = some (-1) ∧ H4 = H3) I3 ⟨1, rfl, -1, rfl, rfl, rfl⟩) fun vs s4 ⟨o, H4, I4, ps, eo, e4⟩ => ?_
  subst eo e4
  cases pl
  cases pu
  have I5 : Inv X pins σ H4 { s4 with heap := s4.heap.push { cls := .type "slice", data := .fields #[.none, .none, vs] } } := I4.kept (t' := s4.toks) fun b ob q => Heap.get?_push_of_some _ q
  obtain ⟨its, r, ht, hz⟩ := I5.tuple hx
  have hlen := r.length
  show wpAny (model X.prog X.w) X.A (subscriptTail e (.Slice none none (some (.UnaryOp .USub (.Constant (.int 1) k p1) p2)) p3) (.ref a) (.ref s4.heap.objs.size)) (EP X pins σ Q) X.xe { s4 with heap := s4.heap.push { cls := .type "slice", data := .fields #[.none, .none, vs] } }
  refine tail_any (ops := [.ref a, .ref s4.heap.objs.size]) ht.typeIs (PyProof.Rows.slot_tuple_getitem.lookup) ?_ (by with_unfolding_all rfl)
  refine getItem_tuple_rev ht (Heap.IsSliceOf.new _ .none .none vs) ps ?_ (by rw [List.size_toArray]; omega)
  refine ⟨.ref _, _, I5.laid (t' := s4.toks) (o := .tup xs.reverse) (fun b ob q => Heap.get?_push_of_some _ q) (Nat.le_refl _) ?_, rfl, q _ (I5.hok.fresh (Nat.le_refl _))⟩
  exact ⟨by rw [List.length_reverse]; exact hz, _, r.reverse, IsTup.new _ _⟩
theorem RDs.rev {K : PySem.W.Frag} {mg : Str → Option Value} {ρ : Rho} {H : Hp} : ∀ {ds : List D} {vs : List V}, RDs K mg ρ H ds vs → RDs K mg ρ H ds.reverse vs.reverse
  | [], vs, h => by rw [RDs.nil_iff.mp h]; exact RDs.nil_iff.mpr rfl
  | d :: ds, vs, h => by
    obtain ⟨v, r, rfl, h1, h2⟩ := RDs.cons_iff.mp h
    rw [List.reverse_cons, List.reverse_cons]
    exact (RDs.rev h2).append (RDs.cons_iff.mpr ⟨_, _, rfl, h1, RDs.nil_iff.mpr rfl⟩)
def gRev : Store → D → Option Gv := fun S x => match x with
  | .tup ds => some (.t ds.reverse)
  | x => (lstOf S x).map fun ds => .l ds.reverse
def mRev (al : Bool) (me : EM) : EM := fun env S => (me env S).bind fun x S1 => Gv.fin al (gRev S1 x) S1
theorem e_rev (al : Bool) {e : Expr} {me : EM} {k : Nat} {p1 p2 p3 pos : Pos} (he : PE X e (rdE X F me)) : PE X (.Subscript e (.Slice none none (some (.UnaryOp .USub (.Constant (.int 1) k p1) p2)) p3) pos) (rdE X F (mRev al me)) := by
  refine PE.imp (PE.or (pe_revT he) (pe_revL he)) fun σ H Q ⟨env, S, ρ, re, rs, o⟩ => ?_
  unfold mRev at o
  cases em : me env S with
  | ok d S' =>
    rw [em] at o
    have key : ∀ ρ1 H1, Aft ρ H ρ1 H1 → RS X.K X.mg F.T ρ1 S' H1 → GvOk X ρ1 H1 (gRev S' d) Q := fun ρ1 H1 t1 R1 => GvOk.of (al := al) (F := F) (σ := σ) R1 (OutE.later t1 o)
    have gen : (∀ ds, d ≠ .tup ds) → tRevL X.K (rdE X F me) σ H Q := fun nt => by
      refine ⟨env, S, ρ, re, rs, ?_⟩
      rw [em]
      intro ρ1 H1 t1 R1 v hv
      have g := key ρ1 H1 t1 R1
      have e2 : gRev S' d = (lstOf S' d).map fun ds => .l ds.reverse := by
        cases d with
        | tup ds => exact absurd rfl (nt ds)
        | _ => rfl
      rw [e2] at g
      cases el : lstOf S' d with
      | none => rw [el] at g; exact g.elim
      | some ds =>
        rw [el] at g
        obtain ⟨a, xs, rfl, q, r⟩ := lstOf_ok R1 hv el
        exact ⟨a, xs, rfl, q, fun p hp => g.2 p _ hp (RDs.rev r)⟩
    cases d with
    | tup ds =>
      refine .inl ⟨env, S, ρ, re, rs, ?_⟩
      rw [em]
      intro ρ1 H1 t1 R1 v hv
      have g := key ρ1 H1 t1 R1
      obtain ⟨a, xs, rfl, q, r⟩ := rd_tup hv
      exact ⟨a, xs, rfl, q.sq, fun p hp => g.2 p _ hp (RDs.rev r)⟩
    | _ => exact .inr (gen fun ds h => by cases h)
  | exc c fs S' =>
    rw [em] at o
    refine .inl ⟨env, S, ρ, re, rs, ?_⟩
    rw [em]
    exact o
  | bad => rw [em] at o; exact o.elim
/-! ### list(range(n)) -/
theorem upto_eq (lo : Int) : ∀ k : Nat, upto lo k = (List.range k).map fun (i : Nat) => D.int (lo + i)
  | 0 => rfl
  | k + 1 => by
    unfold upto
    rw [upto_eq (lo + 1) k, List.range_succ_eq_map, List.map_cons, List.map_map]
    congr 1
    · simp
    · refine List.map_congr_left fun i _ => ?_
      show D.int _ = D.int _
      congr 1
      simp
      omega
theorem upto_rg {K : PySem.W.Frag} {mg : Str → Option Value} {ρ : Rho} {H : Hp} (a b : Int) : RDs K mg ρ H (upto a (b - a).toNat) (rgV a b) := by
  rw [upto_eq]
  exact rds_map (f := fun i : Nat => D.int (a + i)) (g := fun i : Nat => V.int (a + i)) (fun i => mk_int) _
def gLstR (a b : Int) : Option Gv := if (inRng a && inRng b && decide ((b - a).toNat ≤ 16777216)) = true then some (.l (upto a (b - a).toNat)) else none
def mLstR1 (al : Bool) (me : EM) : EM := fun env S => (me env S).bind fun x S1 => match x with
  | .int j => Gv.fin al (gLstR 0 j) S1
  | _ => .bad
def mLstR2 (al : Bool) (ma mb : EM) : EM := fun env S => (ma env S).bind fun x S1 => (mb env S1).bind fun y S2 => match x, y with
  | .int i, .int j => Gv.fin al (gLstR i j) S2
  | _, _ => .bad
theorem gLstR_ok {ρ : Rho} {H : Hp} {a b : Int} {Q : VK} (g : GvOk X ρ H (gLstR a b) Q) : RgOk a b ∧ ∀ q, H q = none → Q (.ref q) (upd H q (.lst (rgV a b))) := by
  unfold gLstR at g
  split at g
  · rename_i h
    simp only [Bool.and_eq_true, decide_eq_true_eq] at h
    obtain ⟨⟨h1, h2⟩, h3⟩ := h
    have r1 := inRng_ok h1
    have r2 := inRng_ok h2
    exact ⟨⟨r1.1, r1.2, r2.1, r2.2, by have : (2 : Nat) ^ 24 = 16777216 := by decide
                                       omega⟩, fun q hq => g.2 q _ hq (upto_rg a b)⟩
  · exact g.elim
theorem e_lstR1 (al : Bool) {e : Expr} {me : EM} {p p2 pos pos2 : Pos} (fx : FX X F k) (hg : Gl X "list") (hm : X.mg "list" = none) (hg2 : Gl X "range") (hm2 : X.mg "range" = none) (he : PE X e (rdE X F me))
    (na : starEach [.Call (.Name "range" p2) [e] [] pos2] X.env = (false, eval (.Call (.Name "range" p2) [e] [] pos2) X.env) :: starEach [] X.env := by rfl) (na2 : starEach [e] X.env = (false, eval e X.env) :: starEach [] X.env := by rfl) : PE X (.Call (.Name "list" p) [.Call (.Name "range" p2) [e] [] pos2] [] pos) (rdE X F (mLstR1 al me)) := by
  refine PE.imp (pe_listRg fx.calm hg hm (prg_1 hg2 hm2 he na2) na) fun σ H Q ⟨env, S, ρ, re, rs, o⟩ => ?_
  refine ⟨env, S, ρ, re, rs, (OutE.bind o).imp fun x ρ1 S1 H1 t1 R1 o1 v hv => ?_⟩
  cases x with
  | int j => exact ⟨j, rd_int hv, gLstR_ok (GvOk.of R1 o1)⟩
  | _ => exact o1.elim
theorem e_lstR2 (al : Bool) {e e' : Expr} {me me' : EM} {p p2 pos pos2 : Pos} (fx : FX X F k) (hg : Gl X "list") (hm : X.mg "list" = none) (hg2 : Gl X "range") (hm2 : X.mg "range" = none) (he : PE X e (rdE X F me)) (he' : PE X e' (rdE X F me'))
    (na : starEach [.Call (.Name "range" p2) [e, e'] [] pos2] X.env = (false, eval (.Call (.Name "range" p2) [e, e'] [] pos2) X.env) :: starEach [] X.env := by rfl) (na2 : starEach [e, e'] X.env = (false, eval e X.env) :: starEach [e'] X.env := by rfl) (na3 : starEach [e'] X.env = (false, eval e' X.env) :: starEach [] X.env := by rfl) (hp : (backTo pos2 (starEach [e'] X.env)).any (·.1) = false := by rfl) : PE X (.Call (.Name "list" p) [.Call (.Name "range" p2) [e, e'] [] pos2] [] pos) (rdE X F (mLstR2 al me me')) := by
  refine PE.imp (pe_listRg fx.calm hg hm (prg_2 hg2 hm2 he he' na2 na3 hp) na) fun σ H Q ⟨env, S, ρ, re, rs, o⟩ => ?_
  refine ⟨env, S, ρ, re, rs, (OutE.bind o).imp fun x ρ1 S1 H1 t1 R1 o1 v hv => ?_⟩
  refine ⟨env, S1, ρ1, re.later t1, R1, (OutE.bind o1).imp fun y ρ2 S2 H2 t2 R2 o2 u hu => ?_⟩
  cases x with
  | int i =>
    cases y with
    | int j => exact ⟨i, j, by rw [rd_int hv], by rw [rd_int hu], gLstR_ok (GvOk.of R2 o2)⟩
    | _ => exact o2.elim
  | _ => exact o2.elim
/-! ### is, is not of bools -/
def gIsB : Store → D → D → Option Gv := fun _ x y => match x, y with
  | .bl a, .bl b => some (.d (.bl (decide (a = b))))
  | _, _ => none
def gNotB : Store → D → D → Option Gv := fun _ x y => match x, y with
  | .bl a, .bl b => some (.d (.bl (!decide (a = b))))
  | _, _ => none
theorem om_isB : OpM X rIsB gIsB := by
  intro T ρ S H x y v u Q R hx hy o
  unfold gIsB at o
  split at o
  · exact ⟨_, _, rd_bl hx, rd_bl hy, o _ mk_bl⟩
  · exact o.elim
theorem om_notB : OpM X rNotB gNotB := by
  intro T ρ S H x y v u Q R hx hy o
  unfold gNotB at o
  split at o
  · exact ⟨_, _, rd_bl hx, rd_bl hy, o _ mk_bl⟩
  · exact o.elim
end
end M3

set_option Elab.async false
set_option linter.all false
set_option maxRecDepth 100000
set_option maxHeartbeats 1000000
/-! M3N: methods of own classes; starred items. -/
namespace M3
open PySem PySem.Spec L2
section
variable {X : Cx} {F : Fm} {k j : Nat} {CS : Nat → CloS} {f C : Addr} {fd : FuncData} {ps ks : List Str} {fm : FM} {c x m : Str} {d : He.DefD} {p pos kpos apos : Pos} {o e : Expr} {es : List Expr} {kws : List Keyword} {mo : EM} {ma mk : AM} {ix : List Nat} {n : Nat}
/-- a class's method: its mirror -/
def MethG (P : Program) (w : World) (K : PySem.W.Frag) (mg : Str → Option Value) (base : Heap) (T : List NdefX.NTab) (CS : Nat → CloS) (j : Nat) (c m : Str) (d : He.DefD) (ps : List Str) (fm : FM) : Prop :=
  ∃ C fd, mg c = some (.ref C) ∧ Cls K C ∧ Meth K C m (He.fAd K d.at_) ∧ FnM P w K mg base T CS j (He.fAd K d.at_) fd ps fm ∧ Binds K fd ps [] ∧ IsD d fd
theorem methG {P : Program} {w : World} {K : PySem.W.Frag} {mg : Str → Option Value} {base : Heap} {T : List NdefX.NTab} {C : Addr} (hm : mg c = some (.ref C)) (hc : Cls K C) (mt : Meth K C m (He.fAd K d.at_)) (G : FnA P w K mg base T CS j d ps fm) : MethG P w K mg base T CS j c m d ps fm := by
  obtain ⟨fd, Fn, hb, _, i⟩ := G
  exact ⟨C, fd, hm, hc, mt, Fn, hb, i⟩
theorem MethG.mono {P : Program} {w : World} {K : PySem.W.Frag} {mg : Str → Option Value} {base : Heap} {T : List NdefX.NTab} {i : Nat} (h : MethG P w K mg base T CS j c m d ps fm) (hi : j ≤ i) : MethG P w K mg base T CS i c m d ps fm := by
  obtain ⟨C, fd, a, b, e, Fn, r⟩ := h
  exact ⟨C, fd, a, b, e, Fn.mono hi, r⟩
def mMt (pt : List (Str × Nat × FM)) (m : Str) (ma : AM) (env : Evs) (d : D) (S1 : Store) : Rz D := match insOf S1 d with
  | some (c, fs) => (match pt.lookup c with
    | some q => if (fs.lookup m).isNone = true then (ma env S1).bind fun ds S2 => if ds.length + 1 = q.1 then q.2 (.v d :: ds.map .v) S2 else .bad else .bad
    | none => .bad)
  | none => .bad
/-- o.m(e, ..): the class tells the method -/
def mMeth (pt : List (Str × Nat × FM)) (m : Str) (mo : EM) (ma : AM) : EM := fun env S => (mo env S).bind fun d S1 => mMt pt m ma env d S1
def MtOk (X : Cx) (F : Fm) (CS : Nat → CloS) (j : Nat) (m : Str) (q : Str × Nat × FM) : Prop := ∃ d ps, MethG X.prog X.w X.K X.mg X.base F.T CS j q.1 m d ps q.2.2 ∧ ps.length = q.2.1
theorem RFs_none {K : PySem.W.Frag} {mg : Str → Option Value} {ρ : Rho} {H : Hp} {m : Str} : ∀ {fs : List (Str × D)} {ys : List (Str × V)}, RFs K mg ρ H fs ys → fs.lookup m = none → ys.lookup m = none
  | [], ys, r, _ => by unfold RFs at r; subst r; rfl
  | (g, x) :: fs, ys, r, h => by
    unfold RFs at r
    obtain ⟨u, rr, rfl, h1, h2⟩ := r
    rw [List.lookup_cons] at h ⊢
    split at h
    · cases h
    · exact RFs_none h2 h
theorem mt_bind {σ : St} {H : Hp} {Q : VK} {env : Evs} {S : Store} {ρ : Rho} {pt : List (Str × Nat × FM)} (re : RE X.K X.mg F ρ H env σ) (o : OutE X F σ ρ H (mMeth pt m mo ma env S) fun a ρ' _ H' => ∀ v, RD X.K X.mg ρ' H' a v → Q v H') :
    OutE X F σ ρ H (mo env S) fun d ρ1 S1 H1 => ∀ v, RD X.K X.mg ρ1 H1 d v → ∃ d S1' ρ1', RE X.K X.mg F ρ1' H1 env σ ∧ RD X.K X.mg ρ1' H1 d v ∧ RS X.K X.mg F.T ρ1' S1' H1 ∧ OutE X F σ ρ1' H1 (mMt pt m ma env d S1') fun a ρ' _ H' => ∀ v, RD X.K X.mg ρ' H' a v → Q v H' := by
  unfold mMeth at o
  exact (OutE.bind o).imp fun d ρ1 S1 H1 t1 R1 o1 v hv => ⟨d, S1, ρ1, re.later t1, hv, R1, o1⟩
theorem e_meth {pt : List (Str × Nat × FM)} {pl : Sem Bool} (fx : FX X F k) (hjk : j ≤ k) (ho : PE X o (rdE X F mo)) (hp : ∀ q ∈ pt, MtOk X F CS j m q) (ha : PA X (e :: es) (rdA X F ma))
    (hst : starEach (e :: es) X.env = (false, eval e X.env) :: starEach es X.env := by rfl) (hpl : (backTo pos (starEach es X.env)).any (·.1) = false := by rfl)
    (ht : eval (.Call (.Attribute o m apos) (e :: es) [] pos) X.env = (do
      let ov ← eval o X.env
      standAt apos.atName
      let (f, first) ← holding [ov] (getMethod ov m pl)
      callWith pos f first (backTo pos (starEach (e :: es) X.env)) (backToKw pos (keywordEach [] X.env))) := by rfl) :
    PE X (.Call (.Attribute o m apos) (e :: es) [] pos) (rdE X F (mMeth pt m mo ma)) := by
  refine ⟨fun pins s σ H Q I h => ?_⟩
  obtain ⟨env, S, ρ, re, rs, o⟩ := h
  refine PySem.W.methodCall_KW (pl := pl) (thn (ho.run pins s σ H (fun v H1 => ∃ d S1' ρ1', RE X.K X.mg F ρ1' H1 env σ ∧ RD X.K X.mg ρ1' H1 d v ∧ RS X.K X.mg F.T ρ1' S1' H1 ∧ OutE X F σ ρ1' H1 (mMt pt m ma env d S1') fun a ρ' _ H' => ∀ v, RD X.K X.mg ρ' H' a v → Q v H') I ⟨env, S, ρ, re, rs, mt_bind re o⟩) fun u s1 ⟨v, H1, I1, rx, d, S1, ρ1, re1, rd, R1, o1⟩ => ?_) ht
  unfold mMt at o1
  cases ei : insOf S1 d with
  | none => rw [ei] at o1; exact o1.elim
  | some q =>
    obtain ⟨c, fs⟩ := q
    rw [ei] at o1
    obtain ⟨a, C, dx, ys, rfl, ea, hm, rr⟩ := insOf_ok R1 rd ei
    obtain rfl : u = Value.ref a := rx
    dsimp only at o1
    cases ep : pt.lookup c with
    | none => rw [ep] at o1; exact o1.elim
    | some q =>
      rw [ep] at o1
      dsimp only at o1
      split at o1
      · rename_i hn
        obtain ⟨dd, ps, ⟨C', fd, hm', hc, mt, Fn, hb, _⟩, hlen⟩ := hp _ (lkS_mem ep)
        rw [hm] at hm'; cases hm'
        refine getmeth_ok I1 ea hc mt (RFs_none rr (Option.isNone_iff_eq_none.mp hn)) ?_
        refine PySem.W.callWith_K (first := [.ref a]) (h₀ := X.base) I1.ok.mod.kin mt.kp (thn (ha.run pos pins s1 σ H1 (fun vs H2 => ∃ ds S2 ρ2, vs.length + 1 = ps.length ∧ RD X.K X.mg ρ2 H2 d (.ref a) ∧ RDs X.K X.mg ρ2 H2 ds vs ∧ RS X.K X.mg F.T ρ2 S2 H2 ∧ OutE X F σ ρ2 H2 (q.2 (.v d :: ds.map .v) S2) fun a ρ' _ H' => ∀ v, RD X.K X.mg ρ' H' a v → Q v H') I1 ⟨env, S1, ρ1, re1, R1, ?_⟩) fun us s2 ⟨vs, H2, I2, r, ds, S2, ρ2, hl, rd2, rds, R2, o2⟩ => ⟨I2.kIn, ?_⟩) hst hpl
        · refine (OutE.bind o1).imp fun ds ρ2 S2 H2 t2 R2 o2 vs hvs => ?_
          split at o2
          · rename_i hq
            exact ⟨ds, S2, ρ2, by rw [hvs.length, hlen]; exact hq, rd.later t2.mv, hvs, R2, o2⟩
          · exact o2.elim
        · exact run_m (us := .ref a :: us) (vs := .ref a :: vs) Fn fx hjk hb I2 (.cons rfl r) (by rw [List.length_cons]; exact hl) Gd.none (.cons (show RVa X.K X.mg noC ρ2 H2 (.v d) (.ref a) from rd2) (paired_v rds)) R2 o2
      · exact o1.elim
/-- o.m() -/
theorem e_meth0 {pt : List (Str × Nat × FM)} {pl : Sem Bool} (fx : FX X F k) (hjk : j ≤ k) (ho : PE X o (rdE X F mo)) (hp : ∀ q ∈ pt, MtOk X F CS j m q)
    (ht : eval (.Call (.Attribute o m apos) [] [] pos) X.env = (do
      let ov ← eval o X.env
      standAt apos.atName
      let (f, first) ← holding [ov] (getMethod ov m pl)
      callWith pos f first (backTo pos (starEach [] X.env)) (backToKw pos (keywordEach [] X.env))) := by rfl) :
    PE X (.Call (.Attribute o m apos) [] [] pos) (rdE X F (mMeth pt m mo mNil)) := by
  refine ⟨fun pins s σ H Q I h => ?_⟩
  obtain ⟨env, S, ρ, re, rs, o⟩ := h
  refine PySem.W.methodCall_KW (pl := pl) (thn (ho.run pins s σ H (fun v H1 => ∃ d S1' ρ1', RE X.K X.mg F ρ1' H1 env σ ∧ RD X.K X.mg ρ1' H1 d v ∧ RS X.K X.mg F.T ρ1' S1' H1 ∧ OutE X F σ ρ1' H1 (mMt pt m mNil env d S1') fun a ρ' _ H' => ∀ v, RD X.K X.mg ρ' H' a v → Q v H') I ⟨env, S, ρ, re, rs, mt_bind re o⟩) fun u s1 ⟨v, H1, I1, rx, d, S1, ρ1, re1, rd, R1, o1⟩ => ?_) ht
  unfold mMt at o1
  cases ei : insOf S1 d with
  | none => rw [ei] at o1; exact o1.elim
  | some q =>
    obtain ⟨c, fs⟩ := q
    rw [ei] at o1
    obtain ⟨a, C, dx, ys, rfl, ea, hm, rr⟩ := insOf_ok R1 rd ei
    obtain rfl : u = Value.ref a := rx
    dsimp only at o1
    cases ep : pt.lookup c with
    | none => rw [ep] at o1; exact o1.elim
    | some q =>
      rw [ep] at o1
      dsimp only at o1
      split at o1
      · rename_i hn
        obtain ⟨dd, ps, ⟨C', fd, hm', hc, mt, Fn, hb, _⟩, hlen⟩ := hp _ (lkS_mem ep)
        rw [hm] at hm'; cases hm'
        have o1 : OutE X F σ ρ1 H1 (if ([] : List D).length + 1 = q.1 then q.2 [.v d] S1 else .bad) fun a ρ' _ H' => ∀ v, RD X.K X.mg ρ' H' a v → Q v H' := o1
        split at o1
        · rename_i hq
          refine getmeth_ok I1 ea hc mt (RFs_none rr (Option.isNone_iff_eq_none.mp hn)) ?_
          exact PySem.W.callWith_K0 (first := [.ref a]) I1.kIn mt.kp (run_m (us := [.ref a]) (vs := [.ref a]) Fn fx hjk hb I1 (.cons rfl .nil) (by rw [hlen]; exact hq) Gd.none (.cons (show RVa X.K X.mg noC ρ1 H1 (.v d) (.ref a) from rd) .nil) R1 o1)
        · exact o1.elim
      · exact o1.elim
/-- o.m(k = v, ..), names alone; one class -/
def mMtK (c m : Str) (fm : FM) (ix : List Nat) (n : Nat) (mk : AM) (env : Evs) (d : D) (S1 : Store) : Rz D := match insOf S1 d with
  | some (c', fs) => if c' = c ∧ (fs.lookup m).isNone = true then (mk env S1).bind fun ds S2 => if ds.length = n then fm (.v d :: (perm ix ds).map .v) S2 else .bad else .bad
  | none => .bad
def mMethK (c m : Str) (fm : FM) (ix : List Nat) (n : Nat) (mo : EM) (mk : AM) : EM := fun env S => (mo env S).bind fun d S1 => mMtK c m fm ix n mk env d S1
theorem e_methK {pl : Sem Bool} (fx : FX X F k) (hjk : j ≤ k) (ho : PE X o (rdE X F mo)) (G : MethG X.prog X.w X.K X.mg X.base F.T CS j c m d ps fm) (hkb : KwM d ps ks ix n) (hkw : PK X kws (rdA X F mk))
    (hall : (backToKw pos (keywordEach kws X.env)).all (·.1.isSome) = true := by rfl) (hks : (backToKw pos (keywordEach kws X.env)).filterMap (·.1) = ks := by rfl)
    (hpl : ((backTo pos (starEach [] X.env)).any (·.1) || (backToKw pos (keywordEach kws X.env)).any (·.1.isNone)) = false := by rfl)
    (ht : eval (.Call (.Attribute o m apos) [] kws pos) X.env = (do
      let ov ← eval o X.env
      standAt apos.atName
      let (f, first) ← holding [ov] (getMethod ov m pl)
      callWith pos f first (backTo pos (starEach [] X.env)) (backToKw pos (keywordEach kws X.env))) := by rfl) :
    PE X (.Call (.Attribute o m apos) [] kws pos) (rdE X F (mMethK c m fm ix n mo mk)) := by
  obtain ⟨C', fd, hm', hc, mt, Fn, hb, kV, doc, pm, an, cdv, ct, rfl⟩ := G
  refine ⟨fun pins s σ H Q I h => ?_⟩
  obtain ⟨env, S, ρ, re, rs, o⟩ := h
  refine PySem.W.methodCall_KW (pl := pl) (thn (ho.run pins s σ H (fun v H1 => ∃ d S1' ρ1', RE X.K X.mg F ρ1' H1 env σ ∧ RD X.K X.mg ρ1' H1 d v ∧ RS X.K X.mg F.T ρ1' S1' H1 ∧ OutE X F σ ρ1' H1 (mMtK c m fm ix n mk env d S1') fun a ρ' _ H' => ∀ v, RD X.K X.mg ρ' H' a v → Q v H') I ⟨env, S, ρ, re, rs, ?_⟩) fun u s1 ⟨v, H1, I1, rx, d, S1, ρ1, re1, rd, R1, o1⟩ => ?_) ht
  · unfold mMethK at o
    exact (OutE.bind o).imp fun d ρ1 S1 H1 t1 R1 o1 v hv => ⟨d, S1, ρ1, re.later t1, hv, R1, o1⟩
  unfold mMtK at o1
  cases ei : insOf S1 d with
  | none => rw [ei] at o1; exact o1.elim
  | some q =>
    obtain ⟨c', fs⟩ := q
    rw [ei] at o1
    obtain ⟨a, C, dx, ys, rfl, ea, hm, rr⟩ := insOf_ok R1 rd ei
    obtain rfl : u = Value.ref a := rx
    dsimp only at o1
    split at o1
    · rename_i hn
      obtain ⟨rfl, hn⟩ := hn
      rw [hm] at hm'; cases hm'
      refine getmeth_ok I1 ea hc mt (RFs_none rr (Option.isNone_iff_eq_none.mp hn)) ?_
      refine PySem.W.callWith_KW0 (first := [.ref a]) (h₀ := X.base) I1.ok.mod.kin mt.kp hall (thn (hkw.run pos pins s1 σ H1 (fun vs H2 => ∃ ds S2 ρ2, vs.length = n ∧ RD X.K X.mg ρ2 H2 d (.ref a) ∧ RDs X.K X.mg ρ2 H2 ds vs ∧ RS X.K X.mg F.T ρ2 S2 H2 ∧ OutE X F σ ρ2 H2 (fm (.v d :: (perm ix ds).map .v) S2) fun a ρ' _ H' => ∀ v, RD X.K X.mg ρ' H' a v → Q v H') I1 ⟨env, S1, ρ1, re1, R1, ?_⟩) fun ws s2 ⟨vs, H2, I2, r, ds, S2, ρ2, hl, rd2, rds, R2, o2⟩ => ⟨I2.kIn, ?_⟩) hpl
      · refine (OutE.bind o1).imp fun ds ρ2 S2 H2 t2 R2 o2 vs hvs => ?_
        split at o2
        · rename_i hq
          exact ⟨ds, S2, ρ2, by rw [hvs.length]; exact hq, rd.later t2.mv, hvs, R2, o2⟩
        · exact o2.elim
      · rw [hks]
        obtain ⟨b1, b2⟩ := hkb kV doc pm an cdv ct (.ref a) ws (by rw [← r.length]; exact hl)
        refine run_mk_kw (us := [.ref a]) (vals := .ref a :: perm ix ws) (vs := .ref a :: perm ix vs) Fn fx hjk (BindsTo.of_eq b1) I2 (.cons rfl (perm_vals r ix)) ?_ Gd.none (.cons (show RVa X.K X.mg noC ρ2 H2 (.v d) (.ref a) from rd2) (paired_v (perm_rds rds ix))) R2 o2
        rw [List.length_cons, (perm_vals r ix).length]
        exact b2
    · exact o1.elim
end
end M3

set_option Elab.async false
set_option linter.all false
set_option maxRecDepth 100000
set_option maxHeartbeats 1000000
/-! M3O: comprehensions of two clauses; starred items. -/
namespace M3
open PySem PySem.Spec L2
section
variable {X : Cx} {F : Fm} {k : Nat} {pos p : Pos} {es : List Expr} {a : Expr}
/-! ### *e among items -/
def mStar (me : EM) (mr : AM) : AM := fun env S => (me env S).bind fun d S1 => match d with
  | .tup ds => (mr env S1).bind fun es S2 => .ok (ds ++ es) S2
  | .fl ds => (mr env S1).bind fun es S2 => .ok (ds ++ es) S2
  | .fz ds => (mr env S1).bind fun es S2 => .ok (ds ++ es) S2
  | _ => .bad
theorem a_star {ma : EM} {mr : AM} (ha : PE X a (rdE X F ma)) (hr : PA X es (rdA X F mr)) (hs : starEach (.Starred a p :: es) X.env = (true, eval a X.env) :: starEach es X.env := by rfl) : PA X (.Starred a p :: es) (rdA X F (mStar ma mr)) := by
  refine PA.imp (StX.pa_star ha hr hs) fun σ H Q ⟨env, S, ρ, re, rs, o⟩ => ?_
  refine ⟨env, S, ρ, re, rs, (OutE.bind o).imp fun d ρ1 S1 H1 t1 R1 o1 v hv => ?_⟩
  cases d with
  | tup ds =>
    unfold RD at hv
    obtain ⟨a, xs, rfl, q, r⟩ := hv
    exact ⟨a, xs, rfl, .inl q.sq, env, S1, ρ1, re.later t1, R1, (OutE.bind o1).imp fun es ρ2 S2 H2 t2 R2 o2 vs hvs => o2 ρ2 H2 Aft.refl R2 _ ((r.later t2.mv).append hvs)⟩
  | fl ds =>
    unfold RD at hv
    obtain ⟨a, xs, rfl, q, r⟩ := hv
    exact ⟨a, xs, rfl, .inr q.sq, env, S1, ρ1, re.later t1, R1, (OutE.bind o1).imp fun es ρ2 S2 H2 t2 R2 o2 vs hvs => o2 ρ2 H2 Aft.refl R2 _ ((r.later t2.mv).append hvs)⟩
  | fz ds =>
    unfold RD at hv
    obtain ⟨a, xs, rfl, q, r⟩ := hv
    exact ⟨a, xs, rfl, .inr q.sq, env, S1, ρ1, re.later t1, R1, (OutE.bind o1).imp fun es ρ2 S2 H2 t2 R2 o2 vs hvs => o2 ρ2 H2 Aft.refl R2 _ ((r.later t2.mv).append hvs)⟩
  | _ => exact o1.elim
/-! ### two clauses -/
noncomputable def lcO (s : Src) (tg : GM) (tt : TM) (body : Evs → Store → Option (List D × Store)) (env : Evs) : List D → Store → Option (List D × Store)
  | [], S => if okS s S = true then some ([], S) else none
  | d :: r, S => if okS s S = true then (match tg d env S with
    | none => none
    | some p => match tt p.1 p.2 with
      | .ok true S1 => (match body p.1 S1 with
        | some q1 => (match lcO s tg tt body env r q1.2 with
          | some q => some (q1.1 ++ q.1, q.2)
          | none => none)
        | none => none)
      | .ok false S1 => lcO s tg tt body env r S1
      | _ => none) else none
noncomputable def lcBody (mi1 : IM) (tg1 : GM) (tt1 : TM) (me : EM) (own1 : List Nat) : Evs → Store → Option (List D × Store) := fun env S => match mi1 env S with
  | .ok s S1 => lcG s tg1 tt1 me (wipeE env own1) s.2 S1
  | _ => none
noncomputable def mLc2 (al : Bool) (mi : IM) (tg : GM) (tt : TM) (mi1 : IM) (tg1 : GM) (tt1 : TM) (me : EM) (own own1 : List Nat) : EM := fun env S => (mi env S).bind fun s S1 => lcEnd al [] (lcO s tg tt (lcBody mi1 tg1 tt1 me own1) (wipeE env own) s.2 S1)
/-- how the list that grows stands -/
structure LcI (X : Cx) (F : Fm) (D0 : Addr) (env : Evs) (σ : St) (ρ1 : Rho) (H1 : Hp) (ρb : Rho) (acc : List D) (accV : List V) (S' : Store) (H' : Hp) : Prop where
  t : Aft ρ1 H1 ρb H'
  re : RE X.K X.mg F.nox (ρb.ban D0) H' env σ
  rs : RS X.K X.mg F.T (ρb.ban D0) S' H'
  mv : Mv ρ1 H1 (ρb.ban D0) H'
  at_ : H' D0 = some (.lst accV)
  no : D0 ∉ ρb.c
  r : RDs X.K X.mg (ρb.ban D0) H' acc accV
variable {D0 : Addr} {env : Evs} {σ : St} {ρ1 ρb ρ5 : Rho} {H1 H' H5 : Hp} {acc : List D} {accV : List V} {S' S5 : Store}
theorem ban_eq (t : Aft (ρb.ban D0) H' ρ5 H5) : ρ5 = (⟨ρ5.c, ρb.t⟩ : Rho).ban D0 := by
  have := t.ban
  obtain ⟨c5, t5'⟩ := ρ5
  exact congrArg (Rho.mk c5) this
theorem LcI.move (h : LcI X F D0 env σ ρ1 H1 ρb acc accV S' H') (t : Aft (ρb.ban D0) H' ρ5 H5) (R : RS X.K X.mg F.T ρ5 S5 H5) : LcI X F D0 env σ ρ1 H1 ⟨ρ5.c, ρb.t⟩ acc accV S5 H5 := by
  have e5 := ban_eq t
  refine ⟨h.t.trans t.unban, ?_, ?_, ?_, t.keep D0 _ h.at_ h.no (fun ps z => by cases z), fun m => (t.fresh D0 m).elim h.no fun z => some_none h.at_ z, ?_⟩
  · rw [← e5]; exact h.re.later t
  · rw [← e5]; exact R
  · rw [← e5]; exact h.mv.trans t.mv
  · rw [← e5]; exact h.r.later t.mv
theorem LcI.push {z : D} {v : V} (h : LcI X F D0 env σ ρ1 H1 ρb acc accV S' H') (hD : H1 D0 = none) (t : Aft (ρb.ban D0) H' ρ5 H5) (R : RS X.K X.mg F.T ρ5 S5 H5) (hv : RD X.K X.mg ρ5 H5 z v) :
    LcI X F D0 env σ ρ1 H1 ⟨ρ5.c, ρb.t⟩ (acc ++ [z]) (accV ++ [v]) S5 (upd H5 D0 (.lst (accV ++ [v]))) ∧ Mv ρ5 H5 ((⟨ρ5.c, ρb.t⟩ : Rho).ban D0) (upd H5 D0 (.lst (accV ++ [v]))) := by
  have e6 := ban_eq t
  have d6 := t.keep D0 _ h.at_ h.no fun ps z => by cases z
  have n6 : D0 ∉ ρ5.c := fun m => (t.fresh D0 m).elim h.no fun z => some_none h.at_ z
  have m7 : Mv ρ5 H5 ρ5 (upd H5 D0 (.lst (accV ++ [v]))) := by rw [e6]; exact Mv.banned
  refine ⟨⟨(h.t.trans t.unban).over hD, ?_, ?_, ?_, upd_same, n6, ?_⟩, by rw [← e6]; exact m7⟩
  · rw [← e6]; exact (h.re.later t).mv m7
  · rw [← e6]
    exact R.mv m7 rfl (fun a m => upd_ne (fun z => n6 (by rw [← z]; exact m))) (tabs_upd R.tab (fun ps z => by rw [d6] at z; cases z) fun c z => by rw [d6] at z; exact codeO_nelst (Option.some.inj z)) (ban_updL R.ban)
  · rw [← e6]; exact (h.mv.trans t.mv).trans m7
  · rw [← e6]; exact ((h.r.later t.mv).later m7).append (RDs.cons_iff.mpr ⟨v, [], rfl, hv.later m7, RDs.nil_iff.mpr rfl⟩)
/-- what is left of the inner turns, then of the outer ones -/
noncomputable def lcThen (r1 : Option (List D × Store)) (k : Store → Option (List D × Store)) : Option (List D × Store) := match r1 with
  | some q1 => (match k q1.2 with
    | some q => some (q1.1 ++ q.1, q.2)
    | none => none)
  | none => none
theorem lcEnd_len {σ : St} {ρ : Rho} {H : Hp} {al : Bool} {acc : List D} {q : List D × Store} {P : D → Rho → Store → Hp → Prop} (o : OutE X F σ ρ H (lcEnd al acc (some q)) P) : acc.length + q.1.length ≤ sizeLine := by
  unfold lcEnd Gv.fin at o
  dsimp only at o
  split at o
  · rename_i hq
    rw [List.length_append] at hq
    exact hq
  · exact o.elim
theorem lcThen_nil {S : Store} {kk : Store → Option (List D × Store)} : lcThen (some ([], S)) kk = kk S := by
  unfold lcThen
  dsimp only
  cases kk S with
  | none => rfl
  | some q => rfl
theorem rd_lc2 {al : Bool} {mi mi1 : IM} {g g1 : GM} {is is1 : List Nat} {tt tt1 : TM} {me : EM} {own own1 : List Nat} (his : ∀ i ∈ is, i ∈ own) (his1 : ∀ i ∈ is1, i ∈ own1) {σ : St} {H : Hp} {Q : VK} (h : rdE X F (mLc2 al mi g tt mi1 g1 tt1 me own own1) σ H Q) :
    tLc2 (rdI X F mi) (RdG X F.nox g is) (rdT X F.nox tt) (rdI X F.nox mi1) (RdG X F.nox g1 is1) (rdT X F.nox tt1) (rdE X F.nox me) own own1 σ H Q := by
  obtain ⟨env, S, ρ, re, rs, o⟩ := h
  refine ⟨env, S, ρ, re, rs, (OutE.bind o).imp fun s ρ1 S1 H1 t1 R1 o1 J sok D hD => ?_⟩
  have hz : sizeLine = 16777216 := sizeLine_eq
  have oD : ρ1.off D := R1.offs hD
  have reW : RE X.K X.mg F.nox ρ1 H1 (wipeE env own) (wipe σ own) := ⟨((re.later t1).wipe own).ent, ((re.later t1).wipe own).sl⟩
  have m0 : Mv ρ1 H1 (ρ1.ban D) (upd H1 D (.lst [])) := Mv.ban hD
  have Rban : RS X.K X.mg F.T (ρ1.ban D) S1 (upd H1 D (.lst [])) := R1.mv m0 rfl (fun a m => upd_ne (fun z => oD.1 (by rw [← z]; exact m))) (R1.laid (o := .lst []) hD).tab fun a m => by
    rcases List.mem_cons.mp m with z | z
    · exact ⟨by rw [z]; exact oD.1, _, by rw [z]; exact upd_same⟩
    · exact ban_upd R1.ban (R1.offs hD).2 a z
  refine ⟨fun i n H' => ∃ S' ρb acc accV, LcI X F D (wipeE env own) (wipe σ own) ρ1 H1 ρb acc accV S' H' ∧ i ≤ s.2.length ∧ n = s.2.length - i ∧
      OutE X F σ ρ1 H1 (lcEnd al acc (lcO s g tt (lcBody mi1 g1 tt1 me own1) (wipeE env own) (s.2.drop i) S')) fun a ρ' _ H' => ∀ v, RD X.K X.mg ρ' H' a v → Q v H',
    ⟨s.2.length, S1, ρ1, [], [], ⟨Aft.laid hD, reW.mv m0, Rban, m0, upd_same, oD.1, RDs.nil_iff.mpr rfl⟩, Nat.zero_le _, rfl, o1⟩, ?_⟩
  rintro i n H' ⟨S', ρb, acc, accV, L, hi, rfl, o2⟩
  by_cases hl : i < s.2.length
  · rw [List.drop_eq_getElem_cons hl] at o2
    unfold lcO at o2
    by_cases hok : okS s S' = true
    · rw [if_pos hok] at o2
      obtain ⟨jg, jy⟩ := sok.go _ S' H' i L.mv L.rs (okS_ok hok) hl
      refine .inr ⟨jg, fun H3 => ∃ S' ρb acc accV, LcI X F D (wipeE env own) (wipe σ own) ρ1 H1 ρb acc accV S' H3 ∧ i + 1 ≤ s.2.length ∧
        OutE X F σ ρ1 H1 (lcEnd al acc (lcO s g tt (lcBody mi1 g1 tt1 me own1) (wipeE env own) (s.2.drop (i + 1)) S')) fun a ρ' _ H' => ∀ v, RD X.K X.mg ρ' H' a v → Q v H', ?_, ?_⟩
      · rintro H3 ⟨S3, ρ3, acc3, av3, a1, a2, a3⟩
        exact ⟨s.2.length - (i + 1), by omega, S3, ρ3, acc3, av3, a1, a2, rfl, a3⟩
      · intro x H3 y
        obtain ⟨t3, R3, d, hd, rd⟩ := jy x H3 y
        rw [List.getElem?_eq_getElem hl] at hd
        cases hd
        refine ⟨_, wipeE env own, S', ρb.ban D, L.re.later t3, R3, rd, ?_⟩
        cases eg : g s.2[i] (wipeE env own) S' with
        | none => rw [eg] at o2; exact o2.elim
        | some p =>
          rw [eg] at o2
          dsimp only at o2
          refine fun ρ4 H4 σ4 t4 R4 re4 w4 => ⟨by rw [w4 own his, wipe_idem], p.1, p.2, ρ4, re4, R4, ?_⟩
          have t24 : Aft (ρb.ban D) H' ρ4 H4 := t3.trans t4
          cases et : tt p.1 p.2 with
          | exc c fs S5 => rw [et] at o2; exact o2.elim
          | bad => rw [et] at o2; exact o2.elim
          | ok b S5 =>
            rw [et] at o2
            refine fun ρ5 H5 t5 R5 => ?_
            have t25 := t24.trans t5
            cases b with
            | false =>
              dsimp only at o2
              show if false = true then _ else _
              rw [if_neg (by decide)]
              exact ⟨S5, _, acc, accV, L.move t25 R5, hl, o2⟩
            | true =>
              dsimp only at o2
              show if true = true then _ else _
              rw [if_pos rfl]
              refine ⟨p.1, S5, ρ5, re4.later t5, R5, ?_⟩
              cases em : mi1 p.1 S5 with
              | exc c fs S6 => rw [show lcBody mi1 g1 tt1 me own1 p.1 S5 = none from by unfold lcBody; rw [em]] at o2; exact o2.elim
              | bad => rw [show lcBody mi1 g1 tt1 me own1 p.1 S5 = none from by unfold lcBody; rw [em]] at o2; exact o2.elim
              | ok s1 S6 =>
                rw [show lcBody mi1 g1 tt1 me own1 p.1 S5 = lcG s1 g1 tt1 me (wipeE p.1 own1) s1.2 S6 from by unfold lcBody; rw [em]] at o2
                have o2 : OutE X F σ ρ1 H1 (lcEnd al acc (lcThen (lcG s1 g1 tt1 me (wipeE p.1 own1) s1.2 S6) (lcO s g tt (lcBody mi1 g1 tt1 me own1) (wipeE env own) (s.2.drop (i + 1))))) fun a ρ' _ H' => ∀ v, RD X.K X.mg ρ' H' a v → Q v H' := o2
                refine fun ρ6 H6 t6 R6 J1 sok1 => ?_
                have t26 := t25.trans t6
                have L6 := L.move t26 R6
                have e6 := ban_eq t26
                have reI : RE X.K X.mg F.nox ρ6 H6 (wipeE p.1 own1) (wipe σ4 own1) := ((re4.later t5).later t6).wipe own1
                refine ⟨fun j k H' => ∃ S' ρb acc accV, LcI X F D (wipeE env own) (wipe σ own) ρ1 H1 ρb acc accV S' H' ∧ RE X.K X.mg F.nox (ρb.ban D) H' (wipeE p.1 own1) (wipe σ4 own1) ∧ Mv ρ6 H6 (ρb.ban D) H' ∧ j ≤ s1.2.length ∧ k = s1.2.length - j ∧
                    OutE X F σ ρ1 H1 (lcEnd al acc (lcThen (lcG s1 g1 tt1 me (wipeE p.1 own1) (s1.2.drop j) S') (lcO s g tt (lcBody mi1 g1 tt1 me own1) (wipeE env own) (s.2.drop (i + 1))))) fun a ρ' _ H' => ∀ v, RD X.K X.mg ρ' H' a v → Q v H',
                  ⟨s1.2.length, S6, _, acc, accV, L6, by rw [← e6]; exact reI, by rw [← e6]; exact Mv.refl, Nat.zero_le _, rfl, o2⟩, ?_⟩
                rintro j k H' ⟨S7, ρc, acc7, accV7, L7, re7, mv7, hj, rfl, o7⟩
                by_cases hl1 : j < s1.2.length
                · rw [List.drop_eq_getElem_cons hl1] at o7
                  unfold lcG at o7
                  by_cases hok1 : okS s1 S7 = true
                  · rw [if_pos hok1] at o7
                    obtain ⟨jg1, jy1⟩ := sok1.go _ S7 H' j mv7 L7.rs (okS_ok hok1) hl1
                    refine .inr ⟨jg1, fun H3 => ∃ S' ρb acc accV, LcI X F D (wipeE env own) (wipe σ own) ρ1 H1 ρb acc accV S' H3 ∧ RE X.K X.mg F.nox (ρb.ban D) H3 (wipeE p.1 own1) (wipe σ4 own1) ∧ Mv ρ6 H6 (ρb.ban D) H3 ∧ j + 1 ≤ s1.2.length ∧
                      OutE X F σ ρ1 H1 (lcEnd al acc (lcThen (lcG s1 g1 tt1 me (wipeE p.1 own1) (s1.2.drop (j + 1)) S') (lcO s g tt (lcBody mi1 g1 tt1 me own1) (wipeE env own) (s.2.drop (i + 1))))) fun a ρ' _ H' => ∀ v, RD X.K X.mg ρ' H' a v → Q v H', ?_, ?_⟩
                    · rintro H3 ⟨S3, ρ3, acc3, av3, a1, a2, a3, a4, a5⟩
                      exact ⟨s1.2.length - (j + 1), by omega, S3, ρ3, acc3, av3, a1, a2, a3, a4, rfl, a5⟩
                    · intro x H8 y
                      obtain ⟨t8, R8, d, hd, rd⟩ := jy1 x H8 y
                      rw [List.getElem?_eq_getElem hl1] at hd
                      cases hd
                      refine ⟨_, wipeE p.1 own1, S7, ρc.ban D, re7.later t8, R8, rd, ?_⟩
                      cases eg1 : g1 s1.2[j] (wipeE p.1 own1) S7 with
                      | none => rw [eg1] at o7; exact o7.elim
                      | some p1 =>
                        rw [eg1] at o7
                        dsimp only at o7
                        refine fun ρ9 H9 σ9 t9 R9 re9 w9 => ⟨by rw [w9 own1 his1, wipe_idem], p1.1, p1.2, ρ9, re9, R9, ?_⟩
                        have t89 : Aft (ρc.ban D) H' ρ9 H9 := t8.trans t9
                        cases et1 : tt1 p1.1 p1.2 with
                        | exc c fs S5 => rw [et1] at o7; exact o7.elim
                        | bad => rw [et1] at o7; exact o7.elim
                        | ok b S10 =>
                          rw [et1] at o7
                          refine fun ρ10 H10 t10 R10 => ?_
                          have tA := t89.trans t10
                          have eA := ban_eq tA
                          cases b with
                          | false =>
                            dsimp only at o7
                            show if false = true then _ else _
                            rw [if_neg (by decide)]
                            exact ⟨S10, _, acc7, accV7, L7.move tA R10, by rw [← eA]; exact re7.later tA, by rw [← eA]; exact mv7.trans tA.mv, hl1, o7⟩
                          | true =>
                            dsimp only at o7
                            show if true = true then _ else _
                            rw [if_pos rfl]
                            refine ⟨p1.1, S10, ρ10, re9.later t10, R10, ?_⟩
                            cases em1 : me p1.1 S10 with
                            | exc c fs S6 => rw [em1] at o7; exact o7.elim
                            | bad => rw [em1] at o7; exact o7.elim
                            | ok z S11 =>
                              rw [em1] at o7
                              dsimp only at o7
                              refine fun ρ11 H11 t11 R11 v hv => ?_
                              have tB := tA.trans t11
                              obtain ⟨LB, mB⟩ := L7.push hD tB R11 hv
                              have d11 := tB.keep D _ L7.at_ L7.no (fun ps z => by cases z)
                              cases eq : lcG s1 g1 tt1 me (wipeE p.1 own1) (s1.2.drop (j + 1)) S11 with
                              | none => rw [eq] at o7; exact o7.elim
                              | some q =>
                                rw [eq] at o7
                                cases ek : lcO s g tt (lcBody mi1 g1 tt1 me own1) (wipeE env own) (s.2.drop (i + 1)) q.2 with
                                | none => unfold lcThen at o7; dsimp only at o7; rw [ek] at o7; exact o7.elim
                                | some q2 =>
                                  unfold lcThen at o7
                                  dsimp only at o7
                                  rw [ek] at o7
                                  have hlen := lcEnd_len o7
                                  refine ⟨accV7, d11, by have := L7.r.length; simp only [List.length_append, List.length_cons] at hlen; omega, S11, _, acc7 ++ [z], accV7 ++ [v], LB, (re7.later tB).mv mB, (mv7.trans tB.mv).trans mB, hl1, ?_⟩
                                  show OutE X F σ ρ1 H1 (lcEnd al (acc7 ++ [z]) (lcThen (lcG s1 g1 tt1 me (wipeE p.1 own1) (s1.2.drop (j + 1)) S11) (lcO s g tt (lcBody mi1 g1 tt1 me own1) (wipeE env own) (s.2.drop (i + 1))))) _
                                  rw [eq]
                                  unfold lcThen
                                  dsimp only
                                  rw [ek]
                                  show OutE X F σ ρ1 H1 (Gv.fin al (some (.l ((acc7 ++ [z]) ++ (q.1 ++ q2.1)))) q2.2) _
                                  rw [List.append_assoc]
                                  exact o7
                  · rw [if_neg hok1] at o7; exact o7.elim
                · have e : j = s1.2.length := by omega
                  subst e
                  rw [List.drop_length] at o7
                  unfold lcG at o7
                  by_cases hok1 : okS s1 S7 = true
                  · rw [if_pos hok1, lcThen_nil] at o7
                    exact .inl ⟨sok1.stop _ S7 H' mv7 L7.rs (okS_ok hok1), S7, ρc, acc7, accV7, L7, hl, o7⟩
                  · rw [if_neg hok1] at o7; exact o7.elim
    · rw [if_neg hok] at o2; exact o2.elim
  · have e : i = s.2.length := by omega
    subst e
    rw [List.drop_length] at o2
    unfold lcO at o2
    by_cases hok : okS s S' = true
    · rw [if_pos hok] at o2
      refine .inl ⟨sok.stop _ S' H' L.mv L.rs (okS_ok hok), ?_⟩
      have o3 : OutE X F σ ρ1 H1 (Gv.fin al (some (.l (acc ++ []))) S') fun a ρ' _ H' => ∀ v, RD X.K X.mg ρ' H' a v → Q v H' := o2
      rw [List.append_nil] at o3
      unfold Gv.fin at o3
      dsimp only at o3
      split at o3
      · cases al with
        | false =>
          refine o3 ρb H' L.t (L.rs.mv Mv.free rfl (fun _ _ => rfl) L.rs.tab fun a m => L.rs.ban a (List.mem_cons_of_mem _ m)) (.ref D) ?_
          unfold RD
          exact ⟨D, accV, rfl, ⟨L.at_, ⟨L.no, by rw [L.t.ban]; exact oD.2⟩⟩, L.r.later Mv.free⟩
        | true =>
          refine o3 (ρb.push D) H' (L.t.take hD) (L.rs.adopt L.at_ ⟨L.no, by rw [L.t.ban]; exact oD.2⟩ L.r) (.ref D) ?_
          unfold RD
          refine ⟨D, rfl, ?_⟩
          have hl : ρb.c.length = S'.length := L.rs.len
          show (ρb.c ++ [D])[S'.length]? = some D
          rw [List.getElem?_append_right (by omega), hl, Nat.sub_self]
          rfl
      · exact o3.elim
    · rw [if_neg hok] at o2; exact o2.elim
theorem rdI_blk {mi : IM} {tg it : Expr} {s : Shared} {H0 : Hp} {scope : Scope} {env : Env} {fp : List Addr} (h : PI (X.blk s H0 scope env fp) tg it (rdI (X.blk s H0 scope env fp) F mi)) : PI (X.blk s H0 scope env fp) tg it (rdI X F mi) :=
  PI.imp h fun σ H R ⟨env, S, ρ, re, rs, o⟩ => ⟨env, S, ρ, re, rs, OutE.imp (X := X) o fun _ _ _ _ _ _ h J sok => h J ⟨sok.go, sok.stop⟩⟩
section
variable {ol ol1 : List Nat} {elt tg iter tg1 iter1 : Expr} {ifs ifs1 : List Expr} {scope : Scope} {own : List (Str × Nat)} {mi mi1 : IM} {g g1 : GM} {is is1 : List Nat} {mt mt1 : TM} {me : EM}
theorem e_lc2 (al : Bool) (fx : FX X F k) (hi : PI X tg iter (rdI X F mi)) (ok : BlkOk X.N X.env.scope scope own) (hv : ∀ i ∈ ol1, i ∈ ol)
    (hg : ∀ (s : Shared) (H : Hp) (C : Addr) (cl : List (Str × Addr)) (fp : List Addr), PG (X.blk s H scope (compEnvC scope cl C X.env) fp) tg (RdG (X.blk s H scope (compEnvC scope cl C X.env) fp) F.nox g is))
    (ht : ∀ (s : Shared) (H : Hp) (C : Addr) (cl : List (Str × Addr)) (fp : List Addr), PTs (X.blk s H scope (compEnvC scope cl C X.env) fp) ifs (rdT (X.blk s H scope (compEnvC scope cl C X.env) fp) F.nox mt))
    (hi1 : ∀ (s : Shared) (H : Hp) (C : Addr) (cl : List (Str × Addr)) (fp : List Addr), PI (X.blk s H scope (compEnvC scope cl C X.env) fp) tg1 iter1 (rdI (X.blk s H scope (compEnvC scope cl C X.env) fp) F.nox mi1))
    (hg1 : ∀ (s : Shared) (H : Hp) (C : Addr) (cl : List (Str × Addr)) (fp : List Addr), PG (X.blk s H scope (compEnvC scope cl C X.env) fp) tg1 (RdG (X.blk s H scope (compEnvC scope cl C X.env) fp) F.nox g1 is1))
    (ht1 : ∀ (s : Shared) (H : Hp) (C : Addr) (cl : List (Str × Addr)) (fp : List Addr), PTs (X.blk s H scope (compEnvC scope cl C X.env) fp) ifs1 (rdT (X.blk s H scope (compEnvC scope cl C X.env) fp) F.nox mt1))
    (he : ∀ (s : Shared) (H : Hp) (C : Addr) (cl : List (Str × Addr)) (fp : List Addr), PE (X.blk s H scope (compEnvC scope cl C X.env) fp) elt (rdE (X.blk s H scope (compEnvC scope cl C X.env) fp) F.nox me))
    (his : ∀ i ∈ is, i ∈ ol) (his1 : ∀ i ∈ is1, i ∈ ol1) (how : own.map (·.2) = ol := by rfl) (hs : ∀ x, foldedSetIterable iter X.env x = pure x := by intro _; rfl) (hs1 : ∀ env x, foldedSetIterable iter1 env x = pure x := by intro _ _; rfl) :
    PE X (.ListComp elt [⟨tg, iter, ifs, 0⟩, ⟨tg1, iter1, ifs1, 0⟩] scope pos) (rdE X F (mLc2 al mi g mt mi1 g1 mt1 me ol ol1)) := by
  subst how
  exact PE.imp (pe_lc2 (g := RdG X F.nox g is) (tt := rdT X F.nox mt) (wi1 := rdI X F.nox mi1) (g1 := RdG X F.nox g1 is1) (tt1 := rdT X F.nox mt1) (te := rdE X F.nox me) fx.calm fx.nd hi ok hv hg ht (fun s H C cl fp => rdI_blk (hi1 s H C cl fp)) hg1 ht1 he hs hs1) fun _ _ _ h => rd_lc2 his his1 h
theorem s_setLc2 (al : Bool) {i : Nat} {y : Str} {py spos : Pos} (fx : FX X F k) (hy : X.N[i]? = some y) (hyl : X.env.scope.names.lookup y = some .local)
    (hsw : swapsWith (.ListComp elt [⟨tg, iter, ifs, 0⟩, ⟨tg1, iter1, ifs1, 0⟩] scope pos) (some (.Name y py)) spos.line X.env = pure true) (hi : PI X tg iter (rdI X F mi)) (ok : BlkOk X.N X.env.scope scope own) (hv : ∀ i ∈ ol1, i ∈ ol)
    (hg : ∀ (s : Shared) (H : Hp) (C : Addr) (cl : List (Str × Addr)) (fp : List Addr), PG (X.blk s H scope (compEnvC scope cl C X.env) fp) tg (RdG (X.blk s H scope (compEnvC scope cl C X.env) fp) F.nox g is))
    (ht : ∀ (s : Shared) (H : Hp) (C : Addr) (cl : List (Str × Addr)) (fp : List Addr), PTs (X.blk s H scope (compEnvC scope cl C X.env) fp) ifs (rdT (X.blk s H scope (compEnvC scope cl C X.env) fp) F.nox mt))
    (hi1 : ∀ (s : Shared) (H : Hp) (C : Addr) (cl : List (Str × Addr)) (fp : List Addr), PI (X.blk s H scope (compEnvC scope cl C X.env) fp) tg1 iter1 (rdI (X.blk s H scope (compEnvC scope cl C X.env) fp) F.nox mi1))
    (hg1 : ∀ (s : Shared) (H : Hp) (C : Addr) (cl : List (Str × Addr)) (fp : List Addr), PG (X.blk s H scope (compEnvC scope cl C X.env) fp) tg1 (RdG (X.blk s H scope (compEnvC scope cl C X.env) fp) F.nox g1 is1))
    (ht1 : ∀ (s : Shared) (H : Hp) (C : Addr) (cl : List (Str × Addr)) (fp : List Addr), PTs (X.blk s H scope (compEnvC scope cl C X.env) fp) ifs1 (rdT (X.blk s H scope (compEnvC scope cl C X.env) fp) F.nox mt1))
    (he : ∀ (s : Shared) (H : Hp) (C : Addr) (cl : List (Str × Addr)) (fp : List Addr), PE (X.blk s H scope (compEnvC scope cl C X.env) fp) elt (rdE (X.blk s H scope (compEnvC scope cl C X.env) fp) F.nox me))
    (his : ∀ i ∈ is, i ∈ ol) (his1 : ∀ i ∈ is1, i ∈ ol1) (how : own.map (·.2) = ol := by rfl) (hs : ∀ x, foldedSetIterable iter X.env x = pure x := by intro _; rfl) (hs1 : ∀ env x, foldedSetIterable iter1 env x = pure x := by intro _ _; rfl) :
    PS X (.Assign [.Name y py] (.ListComp elt [⟨tg, iter, ifs, 0⟩, ⟨tg1, iter1, ifs1, 0⟩] scope pos) spos) (rdS X F (mSet i (mLc2 al mi g mt mi1 g1 mt1 me ol ol1))) := by
  subst how
  exact s_set (PS.imp (ps_setLc2 (g := RdG X F.nox g is) (tt := rdT X F.nox mt) (wi1 := rdI X F.nox mi1) (g1 := RdG X F.nox g1 is1) (tt1 := rdT X F.nox mt1) (te := rdE X F.nox me) fx.calm fx.nd hy hyl hsw hi ok hv hg ht (fun s H C cl fp => rdI_blk (hi1 s H C cl fp)) hg1 ht1 he hs hs1) fun _ _ _ h => rd_lc2 his his1 h)
end
end
/-! ### list of a text -/
theorem call_listS {X : Cx} (hc : X.calm = true) : CallR X (.type "list") (fun xs H Q => ∃ z : Str, xs = [.str z] ∧ z.length ≤ sizeLine ∧ ∀ l, H l = none → Q (.ref l) (upd H l (.lst (z.cps.toList.map fun c => V.str ⟨#[c]⟩)))) := by
  intro pins s σ H xs us Q I r h
  obtain ⟨z, rfl, hz, q⟩ := h
  obtain ⟨u, rfl, t, rfl⟩ := vals1 r
  refine PySem.call_list_str (hn := hz) (I.ok.hd hc) z t fun h' tk acc' c' hk hS hacc => ?_
  refine ⟨.ref s.heap.objs.size, upd H s.heap.objs.size (.lst (z.cps.toList.map fun c => V.str ⟨#[c]⟩)), I.laid hk (Nat.le_refl _) (show ObjOk X.prog X.w _ _ _ (.lst (z.cps.toList.map fun c => V.str ⟨#[c]⟩)) from ⟨?_, acc'.toList, c', ?_, ?_⟩), rfl, q _ (I.hok.fresh (Nat.le_refl _))⟩
  · rw [List.length_map, Array.length_toList]; exact hz
  · have el : acc'.toList.length = acc'.size := by simp
    refine vals_of_at (by rw [List.length_map, el, hacc.1, Array.length_toList]) fun j x w h1 h2 => ?_
    obtain ⟨c, u, hc', rfl⟩ := hacc.2 j w (by rw [← Array.getElem?_toList]; exact h2)
    rw [List.getElem?_map, Array.getElem?_toList, hc'] at h1
    cases h1
    exact ⟨_, rfl⟩
  · rw [Array.toArray_toList]; exact hS
def gListS : Store → List D → Option Gv := fun S xs => match xs with
  | [.str z] => if z.length ≤ 16777216 then some (.l (signs z)) else none
  | xs => gList S xs
theorem signs_rds {K : PySem.W.Frag} {mg : Str → Option Value} {ρ : Rho} {H : Hp} : ∀ cs : List Nat, RDs K mg ρ H (cs.map fun c => D.str ⟨#[c]⟩) (cs.map fun c => V.str ⟨#[c]⟩)
  | [] => RDs.nil_iff.mpr rfl
  | c :: cs => RDs.cons_iff.mpr ⟨_, _, rfl, by unfold RD; rfl, signs_rds cs⟩
theorem om_listS {X : Cx} : ClM X (fun xs H Q => (∃ p ys, xs = [.ref p] ∧ (SqL X.K H p ys ∨ SqT X.K H p ys) ∧ ∀ l, H l = none → Q (.ref l) (upd H l (.lst ys))) ∨ (∃ z : Str, xs = [.str z] ∧ z.length ≤ sizeLine ∧ ∀ l, H l = none → Q (.ref l) (upd H l (.lst (z.cps.toList.map fun c => V.str ⟨#[c]⟩))))) gListS := by
  intro T ρ S H xs vs Q R hx o
  have hz : sizeLine = 16777216 := sizeLine_eq
  unfold gListS at o
  split at o
  · rename_i z
    obtain ⟨v, rfl, h⟩ := one_rds hx
    obtain rfl := rd_str h
    split at o
    · rename_i hl
      exact .inr ⟨z, rfl, by omega, fun l hl' => o.2 l _ hl' (signs_rds _)⟩
    · exact o.elim
  · exact .inl (om_list T ρ S H _ vs Q R hx o)
end M3

set_option Elab.async false
set_option linter.all false
set_option maxRecDepth 100000
set_option maxHeartbeats 4000000
/-! QR: texts of tuples of small words and numbers below 100 are alike only where the data are. -/
namespace QR
open PySem M3
mutual
def okP : PyData → Bool
  | .int i => decide (0 ≤ i ∧ i < 100)
  | .str x => x.cps.toList.all fun c => decide (97 ≤ c ∧ c ≤ 122)
  | .tuple xs => okPs xs
  | _ => false
def okPs : List PyData → Bool
  | [] => true
  | x :: xs => okP x && okPs xs
end
abbrev txt (d : PyData) : List Nat := d.shown.cps.toList
theorem cat_tl (a b : Str) : (a ++ b).cps.toList = a.cps.toList ++ b.cps.toList := by
  have e := SX.S_cat a.cps.toList b.cps.toList
  rw [SX.S_tl, SX.S_tl] at e
  rw [e]
theorem span_one {p : Nat → Bool} : ∀ {a b r q : List Nat}, (∀ c ∈ a, p c = true) → (∀ c ∈ b, p c = true) → (∀ c ∈ r.head?, p c = false) → (∀ c ∈ q.head?, p c = false) → a ++ r = b ++ q → a = b ∧ r = q
  | [], [], r, q, _, _, _, _, h => ⟨rfl, h⟩
  | x :: a, [], r, q, ha, _, _, hq, h => by
    have h : x :: (a ++ r) = q := h
    have := hq x (by rw [← h]; rfl)
    rw [ha x List.mem_cons_self] at this
    cases this
  | [], y :: b, r, q, _, hb, hr, _, h => by
    have h : r = y :: (b ++ q) := h
    have := hr y (by rw [h]; rfl)
    rw [hb y List.mem_cons_self] at this
    cases this
  | x :: a, y :: b, r, q, ha, hb, hr, hq, h => by
    have h : x :: (a ++ r) = y :: (b ++ q) := h
    obtain ⟨e1, h2⟩ := List.cons.inj h
    obtain ⟨e2, e3⟩ := span_one (fun c hc => ha c (List.mem_cons_of_mem _ hc)) (fun c hc => hb c (List.mem_cons_of_mem _ hc)) hr hq h2
    exact ⟨by rw [e1, e2], e3⟩
def dig (c : Nat) : Bool := decide (48 ≤ c ∧ c ≤ 57)
def val (l : List Nat) : Nat := l.foldl (fun n c => n * 10 + (c - 48)) 0
theorem int_txt : ∀ k : Fin 100, ((∀ c ∈ txt (.int (k.val : Int)), dig c = true) ∧ txt (.int (k.val : Int)) ≠ []) ∧ val (txt (.int (k.val : Int))) = k.val := by decide +kernel
theorem letter_print : ∀ k : Fin 26, PySem.Builtin.Str.reprChar 39 (97 + k.val) = [97 + k.val] := by decide +kernel
theorem str_txt {x : Str} (h : okP (.str x) = true) : txt (.str x) = 39 :: (x.cps.toList ++ [39]) := by
  unfold okP at h
  rw [List.all_eq_true] at h
  have hq : reprQuote x = 39 := by
    unfold reprQuote
    have : x.cps.contains 39 = false := by
      rw [← Array.contains_toList]
      rw [Bool.eq_false_iff]
      intro e
      have := of_decide_eq_true (h 39 (by simpa using e))
      omega
    rw [this]
    rfl
  have key : ∀ (l : List Nat) (acc : Array Nat), (∀ c ∈ l, 97 ≤ c ∧ c ≤ 122) → (l.foldl (fun out c => out ++ (PySem.Builtin.Str.reprChar 39 c).toArray) acc).toList = acc.toList ++ l := by
    intro l
    induction l with
    | nil => intro acc _; simp
    | cons c l ih =>
      intro acc hl
      obtain ⟨h1, h2⟩ := hl c List.mem_cons_self
      have e := letter_print ⟨c - 97, by omega⟩
      have e2 : 97 + (c - 97) = c := by omega
      simp only [e2] at e
      rw [List.foldl_cons, ih _ fun y hy => hl y (List.mem_cons_of_mem _ hy), e]
      simp
  unfold txt PyData.shown reprText
  rw [hq, Array.toList_push, ← Array.foldl_toList, key _ _ fun c hc => of_decide_eq_true (h c hc)]
  rfl
/-- what stands behind one thing of a tuple of two or more -/
def tl : List PyData → List Nat
  | [] => [41]
  | x :: xs => 44 :: 32 :: (txt x ++ tl xs)
def bd : List PyData → List Nat
  | [] => [41]
  | [x] => txt x ++ [44, 41]
  | x :: y :: r => txt x ++ tl (y :: r)
theorem tl_cons (x : PyData) (xs : List PyData) : tl (x :: xs) = 44 :: 32 :: (txt x ++ tl xs) := by rw [tl]
theorem join_tl : ∀ (x : PyData) (xs : List PyData), (Str.join ", " (PyData.shownAll (x :: xs))).cps.toList ++ [41] = txt x ++ tl xs
  | x, [] => by
    unfold PyData.shownAll PyData.shownAll Str.join tl
    rfl
  | x, y :: r => by
    have ih := join_tl y r
    unfold PyData.shownAll
    have e : Str.join ", " (PyData.shown x :: PyData.shownAll (y :: r)) = PyData.shown x ++ ", " ++ Str.join ", " (PyData.shownAll (y :: r)) := by
      unfold PyData.shownAll
      rfl
    rw [e, cat_tl, cat_tl, List.append_assoc, List.append_assoc, ih, tl_cons]
    rfl
theorem tup_txt (xs : List PyData) : txt (.tuple xs) = 40 :: bd xs := by
  unfold txt PyData.shown tupleText
  match xs with
  | [] => unfold PyData.shownAll; rfl
  | [x] =>
    unfold PyData.shownAll PyData.shownAll
    rw [cat_tl, cat_tl]
    rfl
  | x :: y :: r =>
    have hl : ((PyData.shownAll (x :: y :: r)).length == 1) = false := by
      unfold PyData.shownAll PyData.shownAll
      simp
    rw [hl, cat_tl, cat_tl]
    have := join_tl x (y :: r)
    show [40] ++ (Str.join ", " (PyData.shownAll (x :: y :: r))).cps.toList ++ [41] = _
    rw [List.append_assoc, this]
    rfl
def stp (r : List Nat) : Prop := ∀ c ∈ r.head?, c = 44 ∨ c = 41
theorem stp_dig {r : List Nat} (h : stp r) : ∀ c ∈ r.head?, dig c = false := fun c hc => by
  rcases h c hc with rfl | rfl <;> rfl
theorem hd_txt {d : PyData} (h : okP d = true) : ∃ c r, txt d = c :: r ∧ match d with
    | .int _ => dig c = true
    | .str _ => c = 39
    | _ => c = 40 := by
  match d, h with
  | .int i, h =>
    unfold okP at h
    obtain ⟨h0, h1⟩ := of_decide_eq_true h
    obtain ⟨k, rfl⟩ := Int.eq_ofNat_of_zero_le h0
    obtain ⟨⟨a, b⟩, _⟩ := int_txt ⟨k, by omega⟩
    match e : txt (.int (k : Int)), b with
    | c :: r, _ =>
      refine ⟨c, r, rfl, ?_⟩
      exact a c (by show c ∈ txt (.int (k : Int)); rw [e]; exact List.mem_cons_self)
  | .str x, h => exact ⟨39, _, str_txt h, rfl⟩
  | .tuple xs, _ => exact ⟨40, _, tup_txt xs, rfl⟩
  | .none, h => unfold okP at h; cases h
  | .bool _, h => unfold okP at h; cases h
  | .list _, h => unfold okP at h; cases h
  | .dict _, h => unfold okP at h; cases h
theorem hd_ne {d : PyData} {r : List Nat} {c : Nat} {q : List Nat} (h : okP d = true) (hc : c = 41 ∨ c = 44) (e : txt d ++ r = c :: q) : False := by
  obtain ⟨x, s, e1, e2⟩ := hd_txt h
  rw [e1] at e
  obtain ⟨rfl, _⟩ := List.cons.inj e
  match d, h with
  | .int i, h => rcases hc with rfl | rfl <;> cases e2
  | .str x, h => rcases hc with h | h <;> (rw [h] at e2; cases e2)
  | .tuple xs, h => rcases hc with h | h <;> (rw [h] at e2; cases e2)
  | .none, h => unfold okP at h; cases h
  | .bool _, h => unfold okP at h; cases h
  | .list _, h => unfold okP at h; cases h
  | .dict _, h => unfold okP at h; cases h
theorem stp_tl (xs : List PyData) (r : List Nat) : stp (tl xs ++ r) := by
  cases xs with
  | nil => unfold tl; intro c hc; injection hc with hc; exact .inr hc.symm
  | cons x xs => unfold tl; intro c hc; injection hc with hc; exact .inl hc.symm
mutual
theorem pref : ∀ (d e : PyData), okP d = true → okP e = true → ∀ r q, stp r → stp q → txt d ++ r = txt e ++ q → d = e ∧ r = q
  | .int i, e, hd, he, r, q, sr, sq, h => by
    match e, he with
    | .int j, he =>
      unfold okP at hd he
      obtain ⟨h0, h1⟩ := of_decide_eq_true hd
      obtain ⟨g0, g1⟩ := of_decide_eq_true he
      obtain ⟨k, rfl⟩ := Int.eq_ofNat_of_zero_le h0
      obtain ⟨m, rfl⟩ := Int.eq_ofNat_of_zero_le g0
      obtain ⟨⟨a, _⟩, v⟩ := int_txt ⟨k, by omega⟩
      obtain ⟨⟨a', _⟩, v'⟩ := int_txt ⟨m, by omega⟩
      obtain ⟨e1, e2⟩ := span_one a a' (stp_dig sr) (stp_dig sq) h
      have v : val (txt (.int (k : Int))) = k := v
      have v' : val (txt (.int (m : Int))) = m := v'
      have e1 : txt (.int (k : Int)) = txt (.int (m : Int)) := e1
      rw [e1, v'] at v
      rw [v]
      exact ⟨rfl, e2⟩
    | .str y, he =>
      obtain ⟨c, s, e1, e2⟩ := hd_txt hd
      rw [e1, str_txt he] at h
      obtain ⟨rfl, _⟩ := List.cons.inj h
      cases e2
    | .tuple ys, he =>
      obtain ⟨c, s, e1, e2⟩ := hd_txt hd
      rw [e1, tup_txt] at h
      obtain ⟨rfl, _⟩ := List.cons.inj h
      cases e2
    | .none, h => unfold okP at h; cases h
    | .bool _, h => unfold okP at h; cases h
    | .list _, h => unfold okP at h; cases h
    | .dict _, h => unfold okP at h; cases h
  | .str x, e, hd, he, r, q, sr, sq, h => by
    match e, he with
    | .int j, he =>
      obtain ⟨c, s, e1, e2⟩ := hd_txt he
      rw [e1, str_txt hd] at h
      obtain ⟨rfl, _⟩ := List.cons.inj h
      cases e2
    | .str y, he =>
      rw [str_txt hd, str_txt he] at h
      rw [List.cons_append, List.cons_append, List.append_assoc, List.append_assoc] at h
      obtain ⟨_, h⟩ := List.cons.inj h
      unfold okP at hd he
      rw [List.all_eq_true] at hd he
      obtain ⟨e1, e2⟩ := span_one (p := fun c => !(c == 39)) (fun c hc => by have := of_decide_eq_true (hd c hc); simp; omega) (fun c hc => by have := of_decide_eq_true (he c hc); simp; omega) (fun c hc => by injection hc with hc; rw [← hc]; rfl) (fun c hc => by injection hc with hc; rw [← hc]; rfl) h
      have e3 : x = y := PySem.W.str_of_cps e1
      rw [e3]
      exact ⟨rfl, (List.cons.inj e2).2⟩
    | .tuple ys, he =>
      rw [str_txt hd, tup_txt] at h
      obtain ⟨h, _⟩ := List.cons.inj h
      cases h
    | .none, h => unfold okP at h; cases h
    | .bool _, h => unfold okP at h; cases h
    | .list _, h => unfold okP at h; cases h
    | .dict _, h => unfold okP at h; cases h
  | .tuple xs, e, hd, he, r, q, sr, sq, h => by
    match e, he with
    | .int j, he =>
      obtain ⟨c, s, e1, e2⟩ := hd_txt he
      rw [e1, tup_txt] at h
      obtain ⟨rfl, _⟩ := List.cons.inj h
      cases e2
    | .str y, he =>
      rw [str_txt he, tup_txt] at h
      obtain ⟨h, _⟩ := List.cons.inj h
      cases h
    | .tuple ys, he =>
      rw [tup_txt, tup_txt] at h
      obtain ⟨_, h⟩ := List.cons.inj h
      unfold okP at hd he
      obtain ⟨e1, e2⟩ := prefB xs ys hd he r q h
      rw [e1]
      exact ⟨rfl, e2⟩
    | .none, h => unfold okP at h; cases h
    | .bool _, h => unfold okP at h; cases h
    | .list _, h => unfold okP at h; cases h
    | .dict _, h => unfold okP at h; cases h
  | .none, _, h, _, _, _, _, _, _ => by unfold okP at h; cases h
  | .bool _, _, h, _, _, _, _, _, _ => by unfold okP at h; cases h
  | .list _, _, h, _, _, _, _, _, _ => by unfold okP at h; cases h
  | .dict _, _, h, _, _, _, _, _, _ => by unfold okP at h; cases h
theorem prefT : ∀ (xs ys : List PyData), okPs xs = true → okPs ys = true → ∀ r q, tl xs ++ r = tl ys ++ q → xs = ys ∧ r = q
  | [], [], _, _, r, q, h => ⟨rfl, (List.cons.inj h).2⟩
  | [], y :: ys, _, _, r, q, h => by
    unfold tl at h
    obtain ⟨h, _⟩ := List.cons.inj h
    cases h
  | x :: xs, [], _, _, r, q, h => by
    unfold tl at h
    obtain ⟨h, _⟩ := List.cons.inj h
    cases h
  | x :: xs, y :: ys, hx, hy, r, q, h => by
    unfold tl at h
    unfold okPs at hx hy
    obtain ⟨hx1, hx2⟩ := Bool.and_eq_true_iff.mp hx
    obtain ⟨hy1, hy2⟩ := Bool.and_eq_true_iff.mp hy
    rw [List.cons_append, List.cons_append, List.cons_append, List.cons_append, List.append_assoc, List.append_assoc] at h
    obtain ⟨_, h⟩ := List.cons.inj h
    obtain ⟨_, h⟩ := List.cons.inj h
    obtain ⟨e1, h2⟩ := pref x y hx1 hy1 _ _ (stp_tl xs r) (stp_tl ys q) h
    obtain ⟨e2, h3⟩ := prefT xs ys hx2 hy2 r q h2
    rw [e1, e2]
    exact ⟨rfl, h3⟩
theorem prefB : ∀ (xs ys : List PyData), okPs xs = true → okPs ys = true → ∀ r q, bd xs ++ r = bd ys ++ q → xs = ys ∧ r = q
  | [], [], _, _, r, q, h => ⟨rfl, (List.cons.inj h).2⟩
  | [], [y], _, hy, r, q, h => by
    unfold okPs at hy
    unfold bd at h
    rw [List.append_assoc] at h
    exact (hd_ne (Bool.and_eq_true_iff.mp hy).1 (.inl rfl) h.symm).elim
  | [], y :: z :: ys, _, hy, r, q, h => by
    unfold okPs at hy
    unfold bd at h
    rw [List.append_assoc] at h
    exact (hd_ne (Bool.and_eq_true_iff.mp hy).1 (.inl rfl) h.symm).elim
  | [x], [], hx, _, r, q, h => by
    unfold okPs at hx
    unfold bd at h
    rw [List.append_assoc] at h
    exact (hd_ne (Bool.and_eq_true_iff.mp hx).1 (.inl rfl) h).elim
  | x :: z :: xs, [], hx, _, r, q, h => by
    unfold okPs at hx
    unfold bd at h
    rw [List.append_assoc] at h
    exact (hd_ne (Bool.and_eq_true_iff.mp hx).1 (.inl rfl) h).elim
  | [x], [y], hx, hy, r, q, h => by
    unfold okPs at hx hy
    unfold bd at h
    rw [List.append_assoc, List.append_assoc] at h
    obtain ⟨e1, h2⟩ := pref x y (Bool.and_eq_true_iff.mp hx).1 (Bool.and_eq_true_iff.mp hy).1 _ _ (fun c hc => by injection hc with hc; exact .inl hc.symm) (fun c hc => by injection hc with hc; exact .inl hc.symm) h
    rw [e1]
    exact ⟨rfl, (List.cons.inj (List.cons.inj h2).2).2⟩
  | [x], y :: z :: ys, hx, hy, r, q, h => by
    unfold okPs at hx hy
    unfold bd at h
    rw [List.append_assoc, List.append_assoc] at h
    obtain ⟨e1, h2⟩ := pref x y (Bool.and_eq_true_iff.mp hx).1 (Bool.and_eq_true_iff.mp hy).1 _ _ (fun c hc => by injection hc with hc; exact .inl hc.symm) (stp_tl _ _) h
    unfold tl at h2
    have h3 := (List.cons.inj (List.cons.inj h2).2).1
    cases h3
  | x :: z :: xs, [y], hx, hy, r, q, h => by
    unfold okPs at hx hy
    unfold bd at h
    rw [List.append_assoc, List.append_assoc] at h
    obtain ⟨e1, h2⟩ := pref x y (Bool.and_eq_true_iff.mp hx).1 (Bool.and_eq_true_iff.mp hy).1 _ _ (stp_tl _ _) (fun c hc => by injection hc with hc; exact .inl hc.symm) h
    unfold tl at h2
    have h3 := (List.cons.inj (List.cons.inj h2).2).1
    cases h3
  | x :: z :: xs, y :: w :: ys, hx, hy, r, q, h => by
    unfold okPs at hx hy
    unfold bd at h
    rw [List.append_assoc, List.append_assoc] at h
    obtain ⟨hx1, hx2⟩ := Bool.and_eq_true_iff.mp hx
    obtain ⟨hy1, hy2⟩ := Bool.and_eq_true_iff.mp hy
    obtain ⟨e1, h2⟩ := pref x y hx1 hy1 _ _ (stp_tl _ _) (stp_tl _ _) h
    obtain ⟨e2, h3⟩ := prefT (z :: xs) (w :: ys) hx2 hy2 r q h2
    rw [e1, e2]
    exact ⟨rfl, h3⟩
end
mutual
theorem eqv_ok : ∀ (d e : PyData), okP d = true → okP e = true → (PyData.eqv d e = true ↔ d = e)
  | .int i, .int j, _, _ => by unfold PyData.eqv; simp
  | .str x, .str y, _, _ => by unfold PyData.eqv; simp
  | .tuple xs, .tuple ys, hx, hy => by
    unfold okP at hx hy
    unfold PyData.eqv
    rw [eqvs_ok xs ys hx hy]
    exact ⟨fun h => by rw [h], fun h => by injection h⟩
  | .int i, .str y, _, _ => by unfold PyData.eqv; simp
  | .int i, .tuple y, _, _ => by unfold PyData.eqv; simp
  | .str i, .int y, _, _ => by unfold PyData.eqv; simp
  | .str i, .tuple y, _, _ => by unfold PyData.eqv; simp
  | .tuple i, .int y, _, _ => by unfold PyData.eqv; simp
  | .tuple i, .str y, _, _ => by unfold PyData.eqv; simp
  | .none, _, h, _ => by unfold okP at h; cases h
  | .bool _, _, h, _ => by unfold okP at h; cases h
  | .list _, _, h, _ => by unfold okP at h; cases h
  | .dict _, _, h, _ => by unfold okP at h; cases h
  | _, .none, _, h => by unfold okP at h; cases h
  | _, .bool _, _, h => by unfold okP at h; cases h
  | _, .list _, _, h => by unfold okP at h; cases h
  | _, .dict _, _, h => by unfold okP at h; cases h
theorem eqvs_ok : ∀ (xs ys : List PyData), okPs xs = true → okPs ys = true → (PyData.eqvAll xs ys = true ↔ xs = ys)
  | [], [], _, _ => by unfold PyData.eqvAll; simp
  | [], y :: ys, _, _ => by unfold PyData.eqvAll; simp
  | x :: xs, [], _, _ => by unfold PyData.eqvAll; simp
  | x :: xs, y :: ys, hx, hy => by
    unfold okPs at hx hy
    obtain ⟨hx1, hx2⟩ := Bool.and_eq_true_iff.mp hx
    obtain ⟨hy1, hy2⟩ := Bool.and_eq_true_iff.mp hy
    unfold PyData.eqvAll
    rw [Bool.and_eq_true, eqv_ok x y hx1 hy1, eqvs_ok xs ys hx2 hy2, List.cons.injEq]
end
/-- alike texts, alike data -/
theorem shown_eqv {d e : PyData} (hd : okP d = true) (he : okP e = true) : PyData.eqv d e = decide (d.shown = e.shown) := by
  rw [Bool.eq_iff_iff, eqv_ok d e hd he, decide_eq_true_eq]
  exact ⟨fun h => by rw [h], fun h => (pref d e hd he [] [] (fun c hc => by cases hc) (fun c hc => by cases hc) (by unfold txt; rw [h])).1⟩
end QR

set_option Elab.async false
set_option linter.all false
set_option maxRecDepth 100000
set_option maxHeartbeats 4000000
namespace LW
open PySem PySem.Spec L2 M3 He PyProof.Rows
abbrev Vals := @L2.Vals
def top (i : Nat) : Stmt := PySem.Challenge.pw_flagslate_k02_frames_made_and_their_aske.main.body.getD i (.Pass ⟨0, 0, 0, 0⟩)
def d42 : DefD := ⟨("_law_draw", none), "_law_draw", "_law_draw", defArgs (top 51), defBody (top 51), defScope (top 51), [], []⟩
def d43 : DefD := ⟨("_law_of", none), "_law_of", "_law_of", defArgs (top 52), defBody (top 52), defScope (top 52), [], []⟩
def d45 : DefD := ⟨("_law_mixed", none), "_law_mixed", "_law_mixed", defArgs (top 54), defBody (top 54), defScope (top 54), [], []⟩
def d44 : DefD := ⟨("_law_unlike", none), "_law_unlike", "_law_unlike", defArgs (top 53), defBody (top 53), defScope (top 53), [], []⟩
def d47 : DefD := ⟨("_law_words", none), "_law_words", "_law_words", defArgs (top 56), defBody (top 56), defScope (top 56), [], []⟩
def d48 : DefD := ⟨("_law_names", none), "_law_names", "_law_names", defArgs (top 57), defBody (top 57), defScope (top 57), [], []⟩
def d49 : DefD := ⟨("_law_frame", none), "_law_frame", "_law_frame", defArgs (top 58), defBody (top 58), defScope (top 58), [], []⟩
def d11 : DefD := ⟨("wrong_at", none), "wrong_at", "wrong_at", defArgs (top 17), defBody (top 17), defScope (top 17), [], []⟩
def d10 : DefD := ⟨("is_ascending", none), "is_ascending", "is_ascending", defArgs (top 16), defBody (top 16), defScope (top 16), [], []⟩
def d9 : DefD := ⟨("is_tuple_of", none), "is_tuple_of", "is_tuple_of", defArgs (top 15), defBody (top 15), defScope (top 15), [], []⟩
def d13 : DefD := ⟨("is_letters", none), "is_letters", "is_letters", defArgs (top 19), defBody (top 19), defScope (top 19), [], []⟩
def d14 : DefD := ⟨("is_name", none), "is_name", "is_name", defArgs (top 20), defBody (top 20), defScope (top 20), [], []⟩
def d15 : DefD := ⟨("are_names", none), "are_names", "are_names", defArgs (top 21), defBody (top 21), defScope (top 21), [], []⟩
def d17 : DefD := ⟨("is_trait", none), "is_trait", "is_trait", defArgs (top 33), defBody (top 33), defScope (top 33), [], []⟩
def d20 : DefD := ⟨("is_behind", none), "is_behind", "is_behind", defArgs (top 36), defBody (top 36), defScope (top 36), [], []⟩
def d21 : DefD := ⟨("groups_of", none), "groups_of", "groups_of", defArgs (top 37), defBody (top 37), defScope (top 37), [], []⟩
def d22 : DefD := ⟨("check_traits", none), "check_traits", "check_traits", defArgs (top 38), defBody (top 38), defScope (top 38), [], []⟩
def d6 : DefD := ⟨("is_whole", none), "is_whole", "is_whole", defArgs (top 12), defBody (top 12), defScope (top 12), [], []⟩
def d7 : DefD := ⟨("is_number", none), "is_number", "is_number", defArgs (top 13), defBody (top 13), defScope (top 13), [], []⟩
def d18 : DefD := ⟨("is_layer", none), "is_layer", "is_layer", defArgs (top 34), defBody (top 34), defScope (top 34), [], []⟩
def d23 : DefD := ⟨("check_layers", none), "check_layers", "check_layers", defArgs (top 39), defBody (top 39), defScope (top 39), [], []⟩
def d12 : DefD := ⟨("wrong_from_one", none), "wrong_from_one", "wrong_from_one", defArgs (top 18), defBody (top 18), defScope (top 18), [], []⟩
def d16 : DefD := ⟨("is_one_of", none), "is_one_of", "is_one_of", defArgs (top 22), defBody (top 22), defScope (top 22), [], []⟩
def d19 : DefD := ⟨("is_flag", none), "is_flag", "is_flag", defArgs (top 35), defBody (top 35), defScope (top 35), [], []⟩
def d24 : DefD := ⟨("check_flags", none), "check_flags", "check_flags", defArgs (top 40), defBody (top 40), defScope (top 40), [], []⟩
def d8 : DefD := ⟨("check_number", none), "check_number", "check_number", defArgs (top 14), defBody (top 14), defScope (top 14), [], []⟩
def d25 : DefD := ⟨("Frame", some "__init__"), "__init__", "Frame.__init__", defArgs (inClass (top 41) 0), defBody (inClass (top 41) 0), defScope (inClass (top 41) 0), [], []⟩
def d52 : DefD := ⟨("_law_made", none), "_law_made", "_law_made", defArgs (top 61), defBody (top 61), defScope (top 61), [], []⟩
def d46 : DefD := ⟨("_law_is", none), "_law_is", "_law_is", defArgs (top 55), defBody (top 55), defScope (top 55), [], []⟩
def d53 : DefD := ⟨("_law_other", none), "_law_other", "_law_other", defArgs (top 62), defBody (top 62), defScope (top 62), [], []⟩
def d31 : DefD := ⟨("Frame", some "__eq__"), "__eq__", "Frame.__eq__", defArgs (inClass (top 41) 6), defBody (inClass (top 41) 6), defScope (inClass (top 41) 6), [], []⟩
def d51 : DefD := ⟨("_law_bucket", none), "_law_bucket", "_law_bucket", defArgs (top 60), defBody (top 60), defScope (top 60), [], []⟩
def d34 : DefD := ⟨("all_values", none), "all_values", "all_values", defArgs (top 42), defBody (top 42), defScope (top 42), [], []⟩
def d35 : DefD := ⟨("all_askers", none), "all_askers", "all_askers", defArgs (top 43), defBody (top 43), defScope (top 43), [], []⟩
def d32 : DefD := ⟨("Frame", some "askers"), "askers", "Frame.askers", defArgs (inClass (top 41) 7), defBody (inClass (top 41) 7), defScope (inClass (top 41) 7), [], []⟩
def d50 : DefD := ⟨("_law_askers", none), "_law_askers", "_law_askers", defArgs (top 59), defBody (top 59), defScope (top 59), [], []⟩
def d39 : DefD := ⟨("check_layer", none), "check_layer", "check_layer", defArgs (top 47), defBody (top 47), defScope (top 47), [], []⟩
def d36 : DefD := ⟨("bucket_of", none), "bucket_of", "bucket_of", defArgs (top 44), defBody (top 44), defScope (top 44), [], []⟩
def d33 : DefD := ⟨("Frame", some "bucket"), "bucket", "Frame.bucket", defArgs (inClass (top 41) 8), defBody (inClass (top 41) 8), defScope (inClass (top 41) 8), [], []⟩
def d38 : DefD := ⟨("check_frame", none), "check_frame", "check_frame", defArgs (top 46), defBody (top 46), defScope (top 46), [], []⟩
def d37 : DefD := ⟨("is_even_by", none), "is_even_by", "is_even_by", defArgs (top 45), defBody (top 45), defScope (top 45), [], []⟩
def d40 : DefD := ⟨("is_even", none), "is_even", "is_even", defArgs (top 48), defBody (top 48), defScope (top 48), [], []⟩
def d54 : DefD := ⟨("_law_right", none), "_law_right", "_law_right", defArgs (top 63), defBody (top 63), defScope (top 63), [], []⟩
def d41 : DefD := ⟨("_law_well", none), "_law_well", "_law_well", defArgs (top 50), defBody (top 50), defScope (top 50), [], []⟩
def d55 : DefD := ⟨("law", none), "law", "law", defArgs (top 64), defBody (top 64), defScope (top 64), [], []⟩
def d26 : DefD := ⟨("Frame", some "traits"), "traits", "Frame.traits", defArgs (inClass (top 41) 1), defBody (inClass (top 41) 1), defScope (inClass (top 41) 1), [], []⟩
def d30 : DefD := ⟨("Frame", some "parts"), "parts", "Frame.parts", defArgs (inClass (top 41) 5), defBody (inClass (top 41) 5), defScope (inClass (top 41) 5), [], []⟩
def d27 : DefD := ⟨("Frame", some "layers"), "layers", "Frame.layers", defArgs (inClass (top 41) 2), defBody (inClass (top 41) 2), defScope (inClass (top 41) 2), [], []⟩
def d28 : DefD := ⟨("Frame", some "flags"), "flags", "Frame.flags", defArgs (inClass (top 41) 3), defBody (inClass (top 41) 3), defScope (inClass (top 41) 3), [], []⟩
def d29 : DefD := ⟨("Frame", some "end"), "end", "Frame.end", defArgs (inClass (top 41) 4), defBody (inClass (top 41) 4), defScope (inClass (top 41) 4), [], []⟩
def fn : List DefD := [d42, d43, d45, d44, d47, d48, d49, d11, d10, d9, d13, d14, d15, d17, d20, d21, d22, d6, d7, d18, d23, d12, d16, d19, d24, d8, d25, d52, d46, d53, d31, d51, d34, d35, d32, d50, d39, d36, d33, d38, d37, d40, d54, d41, d55]
def pd : List DefD := [d26, d30, d27, d28, d29]
def fa0 : List Fa := [.free "divmod", .free "int", .glo "_law_draw", .free "len", .free "list", .free "range", .glo "_law_unlike", .glo "_law_of", .glo "_law_words", .glo "_law_mixed", .glo "_law_names", .glo "Frame", .free "sorted", .free "tuple", .free "isinstance", .free "enumerate", .free "zip", .free "all", .free "str", .str "SMALL_LETTERS" "abcdefghijklmnopqrstuvwxyz", .glo "WORDS", .glo "is_letters", .int "MOST_IN_NAME" 8, .glo "is_name", .free "set", .glo "are_names", .int "MOST_VALUES" 4, .glo "is_tuple_of", .glo "is_ascending", .glo "groups_of"]
def fa1 : List Fa := [.int "MOST_GROUPS" 12, .glo "is_behind", .glo "is_trait", .int "MOST_TRAITS" 3, .glo "wrong_at", .free "bool", .glo "is_whole", .glo "is_number", .int "IDS" 100, .glo "is_layer", .int "MOST_LAYERS" 3, .int "MOST_VARIANTS" 4, .glo "is_one_of", .glo "is_flag", .free "sum", .int "MOST_STICKY" 2, .int "MOST_FLAGS" 4, .glo "wrong_from_one", .glo "check_traits", .glo "check_layers", .glo "check_flags", .glo "check_number", .int "MOST_END" 20, .cls "Frame", .noat "Frame" "_parts", .mkr "Frame", .free "repr", .free "min", .glo "all_values", .glo "all_askers"]
def fa2 : List Fa := [.glo "check_layer", .glo "bucket_of", .glo "check_frame", .glo "is_even_by", .glo "_law_frame", .glo "_law_made", .glo "_law_is", .glo "_law_askers", .meth "Frame" "askers", .glo "_law_bucket", .meth "Frame" "bucket", .glo "is_even", .glo "_law_other", .free "abs", .free "max", .glo "_law_right", .glo "_law_well", .glo "law"]
def fa : List Fa := fa0 ++ fa1 ++ fa2
def tf : List Defn := [("check_traits", none), ("check_layers", none), ("check_flags", none)]
def z_WORDS : List Str := [PySem.Str.ofString "all", PySem.Str.ofString "any", PySem.Str.ofString "apart", PySem.Str.ofString "approve", PySem.Str.ofString "bucket", PySem.Str.ofString "close", PySem.Str.ofString "dark", PySem.Str.ofString "days", PySem.Str.ofString "else", PySem.Str.ofString "flag", PySem.Str.ofString "grant", PySem.Str.ofString "ids", PySem.Str.ofString "issue", PySem.Str.ofString "killed", PySem.Str.ofString "layer", PySem.Str.ofString "may", PySem.Str.ofString "no", PySem.Str.ofString "none", PySem.Str.ofString "not", PySem.Str.ofString "place", PySem.Str.ofString "propose", PySem.Str.ofString "report", PySem.Str.ofString "show", PySem.Str.ofString "split", PySem.Str.ofString "step", PySem.Str.ofString "trait", PySem.Str.ofString "up", PySem.Str.ofString "yes"]
def KCS : List Str := ["Frame"]
def exl (K : PySem.W.Frag) : List Bool := [truB K "Frame", He.tupB K "WORDS" (z_WORDS.map He.Dv.str), eqB K "Frame" d31.at_]
def ex (K : PySem.W.Frag) : Bool := (exl K).all (fun b => b) && kindsB K KCS
def NM : Nat → Nat → Str := fun l k => if l = 103 ∧ k = 4 then "check_traits.<locals>.is_right" else if l = 109 ∧ k = 4 then "check_layers.<locals>.is_right" else if l = 115 ∧ k = 4 then "check_flags.<locals>.is_right" else ""
def zst0 : Stmt := (stN 0 (defBody (top 38)))
abbrev cs0 : CloS := ⟨"is_right", "check_traits.<locals>.is_right", (C8.fnArgs zst0), (.stmts (C8.fnBody zst0)), (C8.fnScope zst0), []⟩
def zst1 : Stmt := (stN 0 (defBody (top 39)))
abbrev cs1 : CloS := ⟨"is_right", "check_layers.<locals>.is_right", (C8.fnArgs zst1), (.stmts (C8.fnBody zst1)), (C8.fnScope zst1), ["names"]⟩
def zst2 : Stmt := (stN 0 (defBody (top 40)))
abbrev cs2 : CloS := ⟨"is_right", "check_flags.<locals>.is_right", (C8.fnArgs zst2), (.stmts (C8.fnBody zst2)), (C8.fnScope zst2), ["names"]⟩
def CS : Nat → CloS := fun k => match k with
  | 0 => cs0
  | 1 => cs1
  | 2 => cs2
  | _ => ⟨"", "", default, .stmts [], default, []⟩
abbrev TT (K : PySem.W.Frag) : List NdefX.NTab := tabs tf NM K
abbrev Cx (K : PySem.W.Frag) (mg : Str → Option Value) (base : Heap) : Prop := M3.Ctx fa fn pd tf ex K mg base
theorem exlOk {K : PySem.W.Frag} {mg : Str → Option Value} {base : Heap} (c : Cx K mg base) : (exl K).all (fun b => b) = true := (ba c.m).1
theorem KOK {K : PySem.W.Frag} {mg : Str → Option Value} {base : Heap} (c : Cx K mg base) : KindsOk K mg KCS := kindsOk (ba c.m).2 (all_cons ⟨c.glo 11, c.cls 53⟩ all_nil)
theorem km_Frame___init___2_3_1_0 : KwM d25 ["self", "traits", "layers", "flags", "end"] ["end", "flags", "traits", "layers"] [2, 3, 1, 0] 4 := fun _ _ _ _ _ _ x ws h => match ws, h with
  | [a0, a1, a2, a3], _ => ⟨rfl, rfl⟩
theorem km_Frame_bucket_1_0 : KwM d33 ["self", "layer", "id_number"] ["id_number", "layer"] [1, 0] 2 := fun _ _ _ _ _ _ x ws h => match ws, h with
  | [a0, a1], _ => ⟨rfl, rfl⟩
theorem kb_is_even_1_0 : KwB d40 ["frame", "layer"] ["layer", "frame"] [1, 0] 0 2 := fun _ _ _ _ _ _ us ws h1 h2 => match us, ws, h1, h2 with
  | [], [a0, a1], _, _ => ⟨rfl, rfl⟩
/-! _law_draw -/
theorem sc__law_draw : FnScope ["well", "limit", "figure", "mixed"] ["well", "limit"] d42.scope := ⟨rfl, rfl, rfl, by decide +kernel, rfl, by decide +kernel, by decide +kernel⟩
noncomputable def s__law_draw : SM :=
    (mSeq (mIfS (mB (mBin false gGt (mBin false gIx (mVar 0) (mC (.int 0))) (mC (.int 0)))) (mSeq (mAsg (mCB false gDivmod (mCons (mBin false gIx (mVar 0) (mC (.int 0))) (mCons (mVar 1) mNil))) (gmTup 2 (gmCons (gmSub (mVar 0) (mC (.int 0))) (gmCons (gmName 2) gmNil))))
    (mRet (mVar 2))) mSkip)
    (mSeq (mAsg (mBin false gAdd (mBin false gIx (mVar 0) (mC (.int 2))) (mC (.int 1))) (gmSub (mVar 0) (mC (.int 2))))
    (mSeq (mSet 3 (mBin false gMod (mCB false gInt1 (mCons (mBin false gAdd (mBin false gMulA (mBin false gIx (mVar 0) (mC (.int 1))) (mC (.int 40009))) (mBin false gMulA (mC (.int 15013)) (mBin false gIx (mVar 0) (mC (.int 2))))) mNil)) (mC (.int 2147483629))))
    (mSeq (mAsg (mBin false gMod (mCB false gInt1 (mCons (mBin false gAdd (mBin false gMulA (mVar 3) (mBin false gAdd (mBin false gMod (mCB false gInt1 (mCons (mVar 3) mNil)) (mC (.int 5003))) (mC (.int 20011)))) (mBin false gIx (mVar 0) (mC (.int 2)))) mNil)) (mC (.int 2147483629))) (gmSub (mVar 0) (mC (.int 1))))
    (mRet (mBin false gMod (mCB false gInt1 (mCons (mBin false gDiv (mBin false gIx (mVar 0) (mC (.int 1))) (mC (.int 1031))) mNil)) (mVar 1)))))))
noncomputable def m__law_draw : FM := frzM (finM 4 (s__law_draw))
theorem G__law_draw {P : Program} {w : World} {K : PySem.W.Frag} {mg : Str → Option Value} {base : Heap} (c : Cx K mg base) : FnA P w K mg base (TT K) CS 1 d42 ["well", "limit"] m__law_draw :=
  fnA (c.d.def_ 0) rfl rfl sc__law_draw (fun _ _ _ _ _ _ us h => match us, h with | [_, _], _ => rfl) fun f cdv C A outer s H E ρ hcd fx gd =>
    (ss_cons (s_if (t_cmp op_gt om_gt (e_ix (e_var (pv 0)) e_int (fun _ _ => rfl)) e_int rfl) (ss_cons (s_asg (e_callB false call_divmod om_divmod rfl (c.free 0) boot_divmod (a_cons (e_ix (e_var (pv 0)) e_int (fun _ _ => rfl)) (a_cons (e_var (pv 1)) a_nil))) (g_tup fx (g_cons (g_sub (e_var (pv 0)) e_int) (g_cons (g_name (i := 2) (pg_name fx.nd rfl (by first | exact Or.inl rfl | exact Or.inr rfl))) g_nil))))
    (ss_one (s_ret (e_var (pv 2))))) ss_nil)
    (ss_cons (s_asg (e_bin false or_add om_add (e_ix (e_var (pv 0)) e_int (fun _ _ => rfl)) e_int) (g_sub (e_var (pv 0)) e_int))
    (ss_cons (s_set (ps_set (i := 3) fx.nd rfl (by first | exact Or.inl rfl | exact Or.inr rfl) (e_bin false op_mod om_mod (e_callTy false call_int1 om_int1 rfl (c.free 1) boot_int (a_cons (e_bin false or_add om_add (e_bin false or_mulA om_mulA (e_ix (e_var (pv 0)) e_int (fun _ _ => rfl)) e_int) (e_bin false or_mulA om_mulA e_int (e_ix (e_var (pv 0)) e_int (fun _ _ => rfl)))) a_nil)) e_int)))
    (ss_cons (s_asg (e_bin false op_mod om_mod (e_callTy false call_int1 om_int1 rfl (c.free 1) boot_int (a_cons (e_bin false or_add om_add (e_bin false or_mulA om_mulA (e_var (pv 3)) (e_bin false or_add om_add (e_bin false op_mod om_mod (e_callTy false call_int1 om_int1 rfl (c.free 1) boot_int (a_cons (e_var (pv 3)) a_nil)) e_int) e_int)) (e_ix (e_var (pv 0)) e_int (fun _ _ => rfl))) a_nil)) e_int) (g_sub (e_var (pv 0)) e_int))
    (ss_one (s_ret (e_bin false op_mod om_mod (e_callTy false call_int1 om_int1 rfl (c.free 1) boot_int (a_cons (e_bin false op_fdiv om_div (e_ix (e_var (pv 0)) e_int (fun _ _ => rfl)) e_int) a_nil)) (e_var (pv 1)))))))))
/-! _law_of -/
theorem sc__law_of : FnScope ["well", "some"] ["well", "some"] d43.scope := ⟨rfl, rfl, rfl, by decide +kernel, rfl, by decide +kernel, by decide +kernel⟩
noncomputable def s__law_of : SM :=
    (mRet (mBin false gIx (mVar 1) (mCall m__law_draw (mCons (mVar 0) (mCons (mCB false gLen (mCons (mVar 1) mNil)) mNil)))))
noncomputable def m__law_of : FM := frzM (finM 2 (s__law_of))
theorem G__law_of {P : Program} {w : World} {K : PySem.W.Frag} {mg : Str → Option Value} {base : Heap} (c : Cx K mg base) : FnA P w K mg base (TT K) CS 2 d43 ["well", "some"] m__law_of :=
  fnA (c.d.def_ 1) rfl rfl sc__law_of (fun _ _ _ _ _ _ us h => match us, h with | [_, _], _ => rfl) fun f cdv C A outer s H E ρ hcd fx gd =>
    (ss_one (s_ret (e_ix (e_var (pv 1)) (e_callG fx ((G__law_draw c).g (c.glo 2)) (by decide) rfl (len_cons (len_cons (len_nil rfl))) (a_cons (e_var (pv 0)) (a_cons (e_callB false call_len om_len rfl (c.free 3) boot_len (a_cons (e_var (pv 1)) a_nil)) a_nil))) (fun _ _ => rfl))))
/-! _law_mixed -/
theorem sc__law_mixed : FnScope ["well", "some", "left", "found", "turn"] ["well", "some"] d45.scope := ⟨rfl, rfl, rfl, by decide +kernel, rfl, by decide +kernel, by decide +kernel⟩
noncomputable def s__law_mixed : SM :=
    (mSeq (mPar 2 3 (mCons (mCB true gListS (mCons (mVar 1) mNil)) (mCons (mLst true mNil) mNil)))
    (mSeq (mFor (iMR1 (mCons (mCB false gLen (mCons (mVar 1) mNil)) mNil)) (gmName 4) (mExpr (mMu muAppend (mVar 3) (mCons (mMu muPopAt (mVar 2) (mCons (mCall m__law_draw (mCons (mVar 0) (mCons (mCB false gLen (mCons (mVar 2) mNil)) mNil))) mNil)) mNil))))
    (mRet (mVar 3))))
noncomputable def m__law_mixed : FM := frzM (finM 5 (s__law_mixed))
theorem G__law_mixed {P : Program} {w : World} {K : PySem.W.Frag} {mg : Str → Option Value} {base : Heap} (c : Cx K mg base) : FnA P w K mg base (TT K) CS 2 d45 ["well", "some"] m__law_mixed :=
  fnA (c.d.def_ 2) rfl rfl sc__law_mixed (fun _ _ _ _ _ _ us h => match us, h with | [_, _], _ => rfl) fun f cdv C A outer s H E ρ hcd fx gd =>
    (ss_cons (s_par (ps_par (i := 2) (j := 3) fx.calm fx.nd rfl rfl (by decide) rfl rfl (a_cons (e_callTy true (CallR.or call_list_of (call_listS fx.calm)) om_listS rfl (c.free 4) boot_list (a_cons (e_var (pv 1)) a_nil)) (a_cons (e_lst true a_nil) a_nil)) (by first | rfl | kernel_rfl)))
    (ss_cons (s_for fx (i_range1 rfl (c.free 5) (a_cons (e_callB false call_len om_len rfl (c.free 3) boot_len (a_cons (e_var (pv 1)) a_nil)) a_nil)) (g_name (i := 4) (pg_name fx.nd rfl (by first | exact Or.inl rfl | exact Or.inr rfl))) (ss_one (s_expr (e_append (e_var (pv 3)) (a_cons (e_popAt (e_var (pv 2)) (a_cons (e_callG fx ((G__law_draw c).g (c.glo 2)) (by decide) rfl (len_cons (len_cons (len_nil rfl))) (a_cons (e_var (pv 0)) (a_cons (e_callB false call_len om_len rfl (c.free 3) boot_len (a_cons (e_var (pv 2)) a_nil)) a_nil))) a_nil)) a_nil)))))
    (ss_one (s_ret (e_var (pv 3))))))
/-! _law_unlike -/
theorem sc__law_unlike : FnScope ["well", "some", "many", "left", "turn"] ["well", "some", "many"] d44.scope := ⟨rfl, rfl, rfl, by decide +kernel, rfl, by decide +kernel, by decide +kernel⟩
noncomputable def s__law_unlike : SM :=
    (mSeq (mSet 3 (mCB true gListS (mCons (mVar 1) mNil)))
    (mSeq (mFor (iMR1 (mCons (mBin false gSub (mCB false gLen (mCons (mVar 1) mNil)) (mVar 2)) mNil)) (gmName 4) (mExpr (mMu muPopAt (mVar 3) (mCons (mCall m__law_draw (mCons (mVar 0) (mCons (mCB false gLen (mCons (mVar 3) mNil)) mNil))) mNil))))
    (mRet (mVar 3))))
noncomputable def m__law_unlike : FM := frzM (finM 5 (s__law_unlike))
theorem G__law_unlike {P : Program} {w : World} {K : PySem.W.Frag} {mg : Str → Option Value} {base : Heap} (c : Cx K mg base) : FnA P w K mg base (TT K) CS 2 d44 ["well", "some", "many"] m__law_unlike :=
  fnA (c.d.def_ 3) rfl rfl sc__law_unlike (fun _ _ _ _ _ _ us h => match us, h with | [_, _, _], _ => rfl) fun f cdv C A outer s H E ρ hcd fx gd =>
    (ss_cons (s_set (ps_set (i := 3) fx.nd rfl (by first | exact Or.inl rfl | exact Or.inr rfl) (e_callTy true (CallR.or call_list_of (call_listS fx.calm)) om_listS rfl (c.free 4) boot_list (a_cons (e_var (pv 1)) a_nil))))
    (ss_cons (s_for fx (i_range1 rfl (c.free 5) (a_cons (e_bin false op_sub om_sub (e_callB false call_len om_len rfl (c.free 3) boot_len (a_cons (e_var (pv 1)) a_nil)) (e_var (pv 2))) a_nil)) (g_name (i := 4) (pg_name fx.nd rfl (by first | exact Or.inl rfl | exact Or.inr rfl))) (ss_one (s_expr (e_popAt (e_var (pv 3)) (a_cons (e_callG fx ((G__law_draw c).g (c.glo 2)) (by decide) rfl (len_cons (len_cons (len_nil rfl))) (a_cons (e_var (pv 0)) (a_cons (e_callB false call_len om_len rfl (c.free 3) boot_len (a_cons (e_var (pv 3)) a_nil)) a_nil))) a_nil)))))
    (ss_one (s_ret (e_var (pv 3))))))
/-! _law_words -/
theorem sc__law_words : FnScope ["some"] [] d47.scope := ⟨rfl, rfl, rfl, by decide +kernel, rfl, by decide +kernel, by decide +kernel⟩
noncomputable def s__law_words : SM :=
    (mSeq (mSet 0 (mLst false (mCons (mC (.str "all")) (mCons (mC (.str "any")) (mCons (mC (.str "apart")) (mCons (mC (.str "approve")) (mCons (mC (.str "bucket")) (mCons (mC (.str "close")) (mCons (mC (.str "dark")) (mCons (mC (.str "days")) (mCons (mC (.str "else")) (mCons (mC (.str "flag")) (mCons (mC (.str "grant")) (mCons (mC (.str "ids")) mNil))))))))))))))
    (mSeq (mSet 0 (mBin false gAdd (mVar 0) (mLst false (mCons (mC (.str "issue")) (mCons (mC (.str "killed")) (mCons (mC (.str "layer")) (mCons (mC (.str "may")) (mCons (mC (.str "no")) (mCons (mC (.str "none")) (mCons (mC (.str "not")) (mCons (mC (.str "place")) (mCons (mC (.str "propose")) (mCons (mC (.str "report")) (mCons (mC (.str "show")) mNil))))))))))))))
    (mSeq (mSet 0 (mBin false gAdd (mVar 0) (mLst false (mCons (mC (.str "split")) (mCons (mC (.str "step")) mNil)))))
    (mRet (mBin false gAdd (mVar 0) (mLst false (mCons (mC (.str "trait")) (mCons (mC (.str "up")) (mCons (mC (.str "yes")) mNil)))))))))
noncomputable def m__law_words : FM := frzM (finM 1 (s__law_words))
theorem G__law_words {P : Program} {w : World} {K : PySem.W.Frag} {mg : Str → Option Value} {base : Heap} (c : Cx K mg base) : FnA P w K mg base (TT K) CS 1 d47 [] m__law_words :=
  fnA (c.d.def_ 4) rfl rfl sc__law_words (fun _ _ _ _ _ _ us h => match us, h with | [], _ => rfl) fun f cdv C A outer s H E ρ hcd fx gd =>
    (ss_cons (s_set (ps_set (i := 0) fx.nd rfl (by first | exact Or.inl rfl | exact Or.inr rfl) (e_lst false (a_cons e_str (a_cons e_str (a_cons e_str (a_cons e_str (a_cons e_str (a_cons e_str (a_cons e_str (a_cons e_str (a_cons e_str (a_cons e_str (a_cons e_str (a_cons e_str a_nil)))))))))))))))
    (ss_cons (s_set (ps_set (i := 0) fx.nd rfl (by first | exact Or.inl rfl | exact Or.inr rfl) (e_bin false or_add om_add (e_var (pv 0)) (e_lst false (a_cons e_str (a_cons e_str (a_cons e_str (a_cons e_str (a_cons e_str (a_cons e_str (a_cons e_str (a_cons e_str (a_cons e_str (a_cons e_str (a_cons e_str a_nil)))))))))))))))
    (ss_cons (s_set (ps_set (i := 0) fx.nd rfl (by first | exact Or.inl rfl | exact Or.inr rfl) (e_bin false or_add om_add (e_var (pv 0)) (e_lst false (a_cons e_str (a_cons e_str a_nil))))))
    (ss_one (s_ret (e_bin false or_add om_add (e_var (pv 0)) (e_lst false (a_cons e_str (a_cons e_str (a_cons e_str a_nil))))))))))
/-! _law_names -/
theorem sc__law_names : FnScope ["well", "many", "found", "letters", "letter", "name", "turn"] ["well", "many"] d48.scope := ⟨rfl, rfl, rfl, by decide +kernel, rfl, by decide +kernel, by decide +kernel⟩
noncomputable def s__law_names : SM :=
    (mSeq (mPar 2 3 (mCons (mLst true mNil) (mCons (mC (.str "abcdefghijklmnopqrstuvwxyz")) mNil)))
    (mSeq (mFor (iMA (mCall m__law_unlike (mCons (mVar 0) (mCons (mSl false (mVar 3) mONone (mOSome (mC (.int 25)))) (mCons (mVar 1) mNil))))) (gmName 4) (mSeq (mSet 5 (mVar 4))
    (mSeq (mFor (iMR1 (mCons (mCall m__law_of (mCons (mVar 0) (mCons (mTup (mCons (mC (.int 0)) (mCons (mC (.int 0)) (mCons (mC (.int 1)) (mCons (mC (.int 2)) (mCons (mC (.int 4)) (mCons (mC (.int 7)) mNil))))))) mNil))) mNil)) (gmName 6) (mSet 5 (mBin false gAdd (mVar 5) (mBin false gIx (mVar 3) (mCall m__law_draw (mCons (mVar 0) (mCons (mC (.int 26)) mNil)))))))
    (mExpr (mMu muAppend (mVar 2) (mCons (mIf (mB (mBin false gIn (mVar 5) (mCall m__law_words mNil))) (mBin false gAdd (mSl false (mVar 5) mONone (mOSome (mC (.int 7)))) (mC (.str "q"))) (mVar 5)) mNil))))))
    (mRet (mVar 2))))
noncomputable def m__law_names : FM := frzM (finM 7 (s__law_names))
theorem G__law_names {P : Program} {w : World} {K : PySem.W.Frag} {mg : Str → Option Value} {base : Heap} (c : Cx K mg base) : FnA P w K mg base (TT K) CS 3 d48 ["well", "many"] m__law_names :=
  fnA (c.d.def_ 5) rfl rfl sc__law_names (fun _ _ _ _ _ _ us h => match us, h with | [_, _], _ => rfl) fun f cdv C A outer s H E ρ hcd fx gd =>
    (ss_cons (s_par (ps_par (i := 2) (j := 3) fx.calm fx.nd rfl rfl (by decide) rfl rfl (a_cons (e_lst true a_nil) (a_cons e_str a_nil)) (by first | rfl | kernel_rfl)))
    (ss_cons (s_for fx (i_seq (e_callG fx ((G__law_unlike c).g (c.glo 6)) (by decide) rfl (len_cons (len_cons (len_cons (len_nil rfl)))) (a_cons (e_var (pv 0)) (a_cons (e_sl false (e_var (pv 3)) o_none (o_some e_int)) (a_cons (e_var (pv 1)) a_nil))))) (g_name (i := 4) (pg_name fx.nd rfl (by first | exact Or.inl rfl | exact Or.inr rfl))) (ss_cons (s_set (ps_set (i := 5) fx.nd rfl (by first | exact Or.inl rfl | exact Or.inr rfl) (e_var (pv 4))))
    (ss_cons (s_for fx (i_range1 rfl (c.free 5) (a_cons (e_callG fx ((G__law_of c).g (c.glo 7)) (by decide) rfl (len_cons (len_cons (len_nil rfl))) (a_cons (e_var (pv 0)) (a_cons (e_tup (a_cons e_int (a_cons e_int (a_cons e_int (a_cons e_int (a_cons e_int (a_cons e_int a_nil))))))) a_nil))) a_nil)) (g_name (i := 6) (pg_name fx.nd rfl (by first | exact Or.inl rfl | exact Or.inr rfl))) (ss_one (s_set (ps_set (i := 5) fx.nd rfl (by first | exact Or.inl rfl | exact Or.inr rfl) (e_bin false or_add om_add (e_var (pv 5)) (e_ix (e_var (pv 3)) (e_callG fx ((G__law_draw c).g (c.glo 2)) (by decide) rfl (len_cons (len_cons (len_nil rfl))) (a_cons (e_var (pv 0)) (a_cons e_int a_nil))) (fun _ _ => rfl)))))))
    (ss_one (s_expr (e_append (e_var (pv 2)) (a_cons (e_if (t_cmp (or_in fx) om_in (e_var (pv 5)) (e_callG0 fx ((G__law_words c).g (c.glo 8)) (by decide) rfl) rfl) (e_bin false or_add om_add (e_sl false (e_var (pv 5)) o_none (o_some e_int)) e_str) (e_var (pv 5))) a_nil)))))))
    (ss_one (s_ret (e_var (pv 2))))))
/-! _law_frame -/
theorem sc__law_frame : FnScope ["well", "great", "most", "traits", "product", "names", "name", "many", "layers", "flags", "left", "variants", "sticky"] ["well"] d49.scope := ⟨rfl, rfl, rfl, by decide +kernel, rfl, by decide +kernel, by decide +kernel⟩
noncomputable def s__law_frame : SM :=
    (mSeq (mPar 1 2 (mCons (mBin false gEq (mCall m__law_draw (mCons (mVar 0) (mCons (mC (.int 12)) mNil))) (mC (.int 0))) (mCons (mCall m__law_of (mCons (mVar 0) (mCons (mTup (mCons (mC (.int 1)) (mCons (mC (.int 1)) (mCons (mC (.int 1)) (mCons (mC (.int 2)) (mCons (mC (.int 2)) (mCons (mC (.int 3)) mNil))))))) mNil))) mNil)))
    (mSeq (mPar3 3 4 5 (mCons (mLst true mNil) (mCons (mC (.int 1)) (mCons (mCall m__law_mixed (mCons (mVar 0) (mCons (mCall m__law_names (mCons (mVar 0) (mCons (mC (.int 10)) mNil))) mNil))) mNil))))
    (mSeq (mFor (iMA (mCB false gSorted (mCons (mIf (mTO KCS (mVar 1)) (mSl false (mVar 5) mONone (mOSome (mC (.int 3)))) (mSl false (mVar 5) mONone (mOSome (mCall m__law_draw (mCons (mVar 0) (mCons (mBin false gAdd (mVar 2) (mC (.int 1))) mNil)))))) mNil))) (gmName 6) (mSeq (mSet 7 (mBin false gAdd (mC (.int 2)) (mCall m__law_draw (mCons (mVar 0) (mCons (mC (.int 3)) mNil)))))
    (mIfS (mB (mBin false gLe (mBin false gMulA (mVar 4) (mVar 7)) (mIf (mTO KCS (mVar 1)) (mC (.int 12)) (mC (.int 4))))) (mSeq (mExpr (mMu muAppend (mVar 3) (mCons (mTup (mCons (mVar 6) (mCons (mCB false gTuple (mCons (mCall m__law_names (mCons (mVar 0) (mCons (mVar 7) mNil))) mNil)) mNil))) mNil)))
    (mSet 4 (mBin false gMulA (mVar 4) (mVar 7)))) mSkip)))
    (mSeq (mSet 8 (mLst true mNil))
    (mSeq (mFor (iMA (mCB false gSorted (mCons (mIf (mTO KCS (mVar 1)) (mSl false (mVar 5) (mOSome (mC (.int 3))) (mOSome (mC (.int 6)))) (mSl false (mVar 5) (mOSome (mC (.int 3))) (mOSome (mBin false gAdd (mC (.int 3)) (mCall m__law_draw (mCons (mVar 0) (mCons (mC (.int 4)) mNil))))))) mNil))) (gmName 6) (mExpr (mMu muAppend (mVar 8) (mCons (mTup (mCons (mVar 6) (mCons (mBin false gAdd (mC (.int 1)) (mCall m__law_draw (mCons (mVar 0) (mCons (mCall m__law_of (mCons (mVar 0) (mCons (mTup (mCons (mC (.int 9)) (mCons (mC (.int 99)) mNil))) mNil))) mNil)))) (mCons (mCall m__law_draw (mCons (mVar 0) (mCons (mCall m__law_of (mCons (mVar 0) (mCons (mTup (mCons (mC (.int 1)) (mCons (mC (.int 100)) mNil))) mNil))) mNil))) mNil)))) mNil))))
    (mSeq (mPar 9 10 (mCons (mLst true mNil) (mCons (mC (.int 2)) mNil)))
    (mSeq (mFor (iMA (mCB false gSorted (mCons (mIf (mTO KCS (mVar 1)) (mSl false (mVar 5) (mOSome (mC (.int 6))) mONone) (mSl false (mVar 5) (mOSome (mC (.int 6))) (mOSome (mBin false gAdd (mC (.int 7)) (mCall m__law_draw (mCons (mVar 0) (mCons (mC (.int 3)) mNil))))))) mNil))) (gmName 6) (mSeq (mSet 11 (mCB false gTuple (mCons (mCall m__law_mixed (mCons (mVar 0) (mCons (mCall m__law_names (mCons (mVar 0) (mCons (mBin false gAdd (mC (.int 2)) (mCall m__law_draw (mCons (mVar 0) (mCons (mC (.int 3)) mNil)))) mNil))) mNil))) mNil)))
    (mSeq (mSet 12 (mIf (mB (mBin false gGt (mVar 10) (mC (.int 0)))) (mCall m__law_draw (mCons (mVar 0) (mCons (mC (.int 2)) mNil))) (mC (.int 0))))
    (mSeq (mSet 10 (mBin false gSub (mVar 10) (mVar 12)))
    (mExpr (mMu muAppend (mVar 9) (mCons (mTup (mCons (mVar 6) (mCons (mVar 11) (mCons (mCall m__law_of (mCons (mVar 0) (mCons (mVar 11) mNil))) (mCons (mVar 12) mNil))))) mNil)))))))
    (mRet (mTup (mCons (mCB false gTuple (mCons (mVar 3) mNil)) (mCons (mCB false gTuple (mCons (mVar 8) mNil)) (mCons (mCB false gTuple (mCons (mVar 9) mNil)) (mCons (mIf (mTO KCS (mVar 1)) (mC (.int 20)) (mCall m__law_of (mCons (mVar 0) (mCons (mTup (mCons (mC (.int 0)) (mCons (mC (.int 2)) (mCons (mC (.int 6)) (mCons (mCall m__law_draw (mCons (mVar 0) (mCons (mC (.int 21)) mNil))) mNil))))) mNil)))) mNil)))))))))))))
noncomputable def m__law_frame : FM := frzM (finM 13 (s__law_frame))
theorem G__law_frame {P : Program} {w : World} {K : PySem.W.Frag} {mg : Str → Option Value} {base : Heap} (c : Cx K mg base) : FnA P w K mg base (TT K) CS 4 d49 ["well"] m__law_frame :=
  fnA (c.d.def_ 6) rfl rfl sc__law_frame (fun _ _ _ _ _ _ us h => match us, h with | [_], _ => rfl) fun f cdv C A outer s H E ρ hcd fx gd =>
    (ss_cons (s_par (ps_par (i := 1) (j := 2) fx.calm fx.nd rfl rfl (by decide) rfl rfl (a_cons (e_cmp (or_eq fx) om_eq (e_callG fx ((G__law_draw c).g (c.glo 2)) (by decide) rfl (len_cons (len_cons (len_nil rfl))) (a_cons (e_var (pv 0)) (a_cons e_int a_nil))) e_int rfl) (a_cons (e_callG fx ((G__law_of c).g (c.glo 7)) (by decide) rfl (len_cons (len_cons (len_nil rfl))) (a_cons (e_var (pv 0)) (a_cons (e_tup (a_cons e_int (a_cons e_int (a_cons e_int (a_cons e_int (a_cons e_int (a_cons e_int a_nil))))))) a_nil))) a_nil)) (by first | rfl | kernel_rfl)))
    (ss_cons (s_par3 (ps_par3 (i := 3) (j := 4) (l := 5) fx.calm fx.nd rfl rfl rfl (by decide) (by decide) (by decide) rfl rfl rfl (a_cons (e_lst true a_nil) (a_cons e_int (a_cons (e_callG fx ((G__law_mixed c).g (c.glo 9)) (by decide) rfl (len_cons (len_cons (len_nil rfl))) (a_cons (e_var (pv 0)) (a_cons (e_callG fx ((G__law_names c).g (c.glo 10)) (by decide) rfl (len_cons (len_cons (len_nil rfl))) (a_cons (e_var (pv 0)) (a_cons e_int a_nil))) a_nil))) a_nil))) (by first | rfl | kernel_rfl)))
    (ss_cons (s_for fx (i_seq (e_callB false (cr_sortedD fx) om_sorted rfl (c.free 12) boot_sorted (a_cons (e_if (t_truthO (cs := KCS) (all_cons (truO_of (ex_at (exlOk c) 0) (c.glo 11)) all_nil) (e_var (pv 1))) (e_sl false (e_var (pv 5)) o_none (o_some e_int)) (e_sl false (e_var (pv 5)) o_none (o_some (e_callG fx ((G__law_draw c).g (c.glo 2)) (by decide) rfl (len_cons (len_cons (len_nil rfl))) (a_cons (e_var (pv 0)) (a_cons (e_bin false or_add om_add (e_var (pv 2)) e_int) a_nil)))))) a_nil))) (g_name (i := 6) (pg_name fx.nd rfl (by first | exact Or.inl rfl | exact Or.inr rfl))) (ss_cons (s_set (ps_set (i := 7) fx.nd rfl (by first | exact Or.inl rfl | exact Or.inr rfl) (e_bin false or_add om_add e_int (e_callG fx ((G__law_draw c).g (c.glo 2)) (by decide) rfl (len_cons (len_cons (len_nil rfl))) (a_cons (e_var (pv 0)) (a_cons e_int a_nil))))))
    (ss_one (s_if (t_cmp op_le om_le (e_bin false or_mulA om_mulA (e_var (pv 4)) (e_var (pv 7))) (e_if (t_truthO (cs := KCS) (all_cons (truO_of (ex_at (exlOk c) 0) (c.glo 11)) all_nil) (e_var (pv 1))) e_int e_int) rfl) (ss_cons (s_expr (e_append (e_var (pv 3)) (a_cons (e_tup (a_cons (e_var (pv 6)) (a_cons (e_callTy false call_tuple_of om_tuple rfl (c.free 13) boot_tuple (a_cons (e_callG fx ((G__law_names c).g (c.glo 10)) (by decide) rfl (len_cons (len_cons (len_nil rfl))) (a_cons (e_var (pv 0)) (a_cons (e_var (pv 7)) a_nil))) a_nil)) a_nil))) a_nil)))
    (ss_one (s_set (ps_set (i := 4) fx.nd rfl (by first | exact Or.inl rfl | exact Or.inr rfl) (e_bin false or_mulA om_mulA (e_var (pv 4)) (e_var (pv 7))))))) ss_nil))))
    (ss_cons (s_set (ps_set (i := 8) fx.nd rfl (by first | exact Or.inl rfl | exact Or.inr rfl) (e_lst true a_nil)))
    (ss_cons (s_for fx (i_seq (e_callB false (cr_sortedD fx) om_sorted rfl (c.free 12) boot_sorted (a_cons (e_if (t_truthO (cs := KCS) (all_cons (truO_of (ex_at (exlOk c) 0) (c.glo 11)) all_nil) (e_var (pv 1))) (e_sl false (e_var (pv 5)) (o_some e_int) (o_some e_int)) (e_sl false (e_var (pv 5)) (o_some e_int) (o_some (e_bin false or_add om_add e_int (e_callG fx ((G__law_draw c).g (c.glo 2)) (by decide) rfl (len_cons (len_cons (len_nil rfl))) (a_cons (e_var (pv 0)) (a_cons e_int a_nil))))))) a_nil))) (g_name (i := 6) (pg_name fx.nd rfl (by first | exact Or.inl rfl | exact Or.inr rfl))) (ss_one (s_expr (e_append (e_var (pv 8)) (a_cons (e_tup (a_cons (e_var (pv 6)) (a_cons (e_bin false or_add om_add e_int (e_callG fx ((G__law_draw c).g (c.glo 2)) (by decide) rfl (len_cons (len_cons (len_nil rfl))) (a_cons (e_var (pv 0)) (a_cons (e_callG fx ((G__law_of c).g (c.glo 7)) (by decide) rfl (len_cons (len_cons (len_nil rfl))) (a_cons (e_var (pv 0)) (a_cons (e_tup (a_cons e_int (a_cons e_int a_nil))) a_nil))) a_nil)))) (a_cons (e_callG fx ((G__law_draw c).g (c.glo 2)) (by decide) rfl (len_cons (len_cons (len_nil rfl))) (a_cons (e_var (pv 0)) (a_cons (e_callG fx ((G__law_of c).g (c.glo 7)) (by decide) rfl (len_cons (len_cons (len_nil rfl))) (a_cons (e_var (pv 0)) (a_cons (e_tup (a_cons e_int (a_cons e_int a_nil))) a_nil))) a_nil))) a_nil)))) a_nil)))))
    (ss_cons (s_par (ps_par (i := 9) (j := 10) fx.calm fx.nd rfl rfl (by decide) rfl rfl (a_cons (e_lst true a_nil) (a_cons e_int a_nil)) (by first | rfl | kernel_rfl)))
    (ss_cons (s_for fx (i_seq (e_callB false (cr_sortedD fx) om_sorted rfl (c.free 12) boot_sorted (a_cons (e_if (t_truthO (cs := KCS) (all_cons (truO_of (ex_at (exlOk c) 0) (c.glo 11)) all_nil) (e_var (pv 1))) (e_sl false (e_var (pv 5)) (o_some e_int) o_none) (e_sl false (e_var (pv 5)) (o_some e_int) (o_some (e_bin false or_add om_add e_int (e_callG fx ((G__law_draw c).g (c.glo 2)) (by decide) rfl (len_cons (len_cons (len_nil rfl))) (a_cons (e_var (pv 0)) (a_cons e_int a_nil))))))) a_nil))) (g_name (i := 6) (pg_name fx.nd rfl (by first | exact Or.inl rfl | exact Or.inr rfl))) (ss_cons (s_set (ps_set (i := 11) fx.nd rfl (by first | exact Or.inl rfl | exact Or.inr rfl) (e_callTy false call_tuple_of om_tuple rfl (c.free 13) boot_tuple (a_cons (e_callG fx ((G__law_mixed c).g (c.glo 9)) (by decide) rfl (len_cons (len_cons (len_nil rfl))) (a_cons (e_var (pv 0)) (a_cons (e_callG fx ((G__law_names c).g (c.glo 10)) (by decide) rfl (len_cons (len_cons (len_nil rfl))) (a_cons (e_var (pv 0)) (a_cons (e_bin false or_add om_add e_int (e_callG fx ((G__law_draw c).g (c.glo 2)) (by decide) rfl (len_cons (len_cons (len_nil rfl))) (a_cons (e_var (pv 0)) (a_cons e_int a_nil)))) a_nil))) a_nil))) a_nil))))
    (ss_cons (s_set (ps_set (i := 12) fx.nd rfl (by first | exact Or.inl rfl | exact Or.inr rfl) (e_if (t_cmp op_gt om_gt (e_var (pv 10)) e_int rfl) (e_callG fx ((G__law_draw c).g (c.glo 2)) (by decide) rfl (len_cons (len_cons (len_nil rfl))) (a_cons (e_var (pv 0)) (a_cons e_int a_nil))) e_int)))
    (ss_cons (s_set (ps_set (i := 10) fx.nd rfl (by first | exact Or.inl rfl | exact Or.inr rfl) (e_bin false op_sub om_sub (e_var (pv 10)) (e_var (pv 12)))))
    (ss_one (s_expr (e_append (e_var (pv 9)) (a_cons (e_tup (a_cons (e_var (pv 6)) (a_cons (e_var (pv 11)) (a_cons (e_callG fx ((G__law_of c).g (c.glo 7)) (by decide) rfl (len_cons (len_cons (len_nil rfl))) (a_cons (e_var (pv 0)) (a_cons (e_var (pv 11)) a_nil))) (a_cons (e_var (pv 12)) a_nil))))) a_nil))))))))
    (ss_one (s_ret (e_tup (a_cons (e_callTy false call_tuple_of om_tuple rfl (c.free 13) boot_tuple (a_cons (e_var (pv 3)) a_nil)) (a_cons (e_callTy false call_tuple_of om_tuple rfl (c.free 13) boot_tuple (a_cons (e_var (pv 8)) a_nil)) (a_cons (e_callTy false call_tuple_of om_tuple rfl (c.free 13) boot_tuple (a_cons (e_var (pv 9)) a_nil)) (a_cons (e_if (t_truthO (cs := KCS) (all_cons (truO_of (ex_at (exlOk c) 0) (c.glo 11)) all_nil) (e_var (pv 1))) e_int (e_callG fx ((G__law_of c).g (c.glo 7)) (by decide) rfl (len_cons (len_cons (len_nil rfl))) (a_cons (e_var (pv 0)) (a_cons (e_tup (a_cons e_int (a_cons e_int (a_cons e_int (a_cons (e_callG fx ((G__law_draw c).g (c.glo 2)) (by decide) rfl (len_cons (len_cons (len_nil rfl))) (a_cons (e_var (pv 0)) (a_cons e_int a_nil))) a_nil))))) a_nil)))) a_nil))))))))))))))
/-! wrong_at -/
theorem sc_wrong_at : FnScope ["values", "most", "is_right", "at", "value"] ["values", "most", "is_right"] d11.scope := ⟨rfl, rfl, rfl, by decide +kernel, rfl, by decide +kernel, by decide +kernel⟩
noncomputable def s_wrong_at (cm : Nat → List EV → FM) : SM :=
    (mSeq (mIfS (mNotT (mT (mCB false gIsi (mCons (mVar 0) (mCons (mC (.ty "tuple")) mNil))))) (mRet (mLst false (mCons (mC .non) mNil))) mSkip)
    (mSeq (mFor (iME (mCons (mVar 0) mNil)) (gmTup 2 (gmCons (gmName 3) (gmCons (gmName 4) gmNil))) (mIfS (mOrT (mB (mBin false gEq (mVar 3) (mVar 1))) (mNotT (mT (mCallP cm [] 2 (vD (mVar 4) (vD (mSl false (mVar 0) mONone (mOSome (mVar 3))) vNil)))))) (mRet (mLst false (mCons (mVar 3) mNil))) mSkip))
    (mRet (mLst false mNil))))
noncomputable def m_wrong_at (cm : Nat → List EV → FM) : FM := frzM (finM 5 (s_wrong_at cm))
theorem G_wrong_at {P : Program} {w : World} {K : PySem.W.Frag} {mg : Str → Option Value} {base : Heap} (c : Cx K mg base) (kk : Nat) (hkk : 0 ≤ kk) (cm : Nat → List EV → FM) (hC : ∀ i, FnC P w K mg base (TT K) CS kk i (cm i)) : FnA P w K mg base (TT K) CS (kk + 1) d11 ["values", "most", "is_right"] (m_wrong_at cm) :=
  have hk0 : kk ≤ kk + 0 := by omega
  fnA (c.d.def_ 7) rfl rfl sc_wrong_at (fun _ _ _ _ _ _ us h => match us, h with | [_, _, _], _ => rfl) fun f cdv C A outer s H E ρ hcd fx gd =>
    (ss_cons (s_if (t_not (t_truth (e_callB false call_isi om_isi rfl (c.free 14) boot_isinstance (a_cons (e_var (pv 0)) (a_cons (e_ty rfl (c.free 13) boot_tuple) a_nil))))) (ss_one (s_ret (e_lst false (a_cons e_non a_nil)))) ss_nil)
    (ss_cons (s_for fx (i_enum rfl (c.free 15) (a_cons (e_var (pv 0)) a_nil)) (g_tup fx (g_cons (g_name (i := 3) (pg_name fx.nd rfl (by first | exact Or.inl rfl | exact Or.inr rfl))) (g_cons (g_name (i := 4) (pg_name fx.nd rfl (by first | exact Or.inl rfl | exact Or.inr rfl))) g_nil))) (ss_one (s_if (PW.pt (t_or (t_cmp (or_eq fx) om_eq (e_var (pv 3)) (e_var (pv 1)) rfl) (t_or1 (t_not (t_truth (e_callP (i := 2) (cap := []) fx (gxD gd) (by rfl) hC hk0 rfl (by first | exact Or.inl rfl | exact Or.inr (Or.inl rfl) | exact Or.inr (Or.inr rfl)) (v_d (e_var (pv 4)) (v_d (e_sl false (e_var (pv 0)) o_none (o_some (e_var (pv 3)))) v_nil)))))))) (ss_one (s_ret (e_lst false (a_cons (e_var (pv 3)) a_nil)))) ss_nil)))
    (ss_one (s_ret (e_lst false a_nil)))))
/-! is_ascending -/
theorem sc_is_ascending : FnScope ["values", "one", "two"] ["values"] d10.scope := ⟨rfl, rfl, rfl, by decide +kernel, rfl, by decide +kernel, by decide +kernel⟩
noncomputable def s_is_ascending : SM :=
    (mRet (mCB false gAll (mCons (mLc false (iMZ (mCons (mVar 0) (mCons (mSl false (mVar 0) (mOSome (mC (.int 1))) mONone) mNil))) (gmTup 2 (gmCons (gmName 1) (gmCons (gmName 2) gmNil))) mYes (mBin false gLtB (mVar 1) (mVar 2)) [1, 2]) mNil)))
noncomputable def m_is_ascending : FM := frzM (finM 3 (s_is_ascending))
theorem G_is_ascending {P : Program} {w : World} {K : PySem.W.Frag} {mg : Str → Option Value} {base : Heap} (c : Cx K mg base) : FnA P w K mg base (TT K) CS 1 d10 ["values"] m_is_ascending :=
  fnA (c.d.def_ 8) rfl rfl sc_is_ascending (fun _ _ _ _ _ _ us h => match us, h with | [_], _ => rfl) fun f cdv C A outer s H E ρ hcd fx gd =>
    (ss_one (s_ret (e_callB false (cr_all fx.calm) om_all rfl (c.free 17) boot_all (a_cons (e_lc false fx (i_zip rfl (c.free 16) (a_cons (e_var (pv 0)) (a_cons (e_sl false (e_var (pv 0)) (o_some e_int) o_none) a_nil))) (blkOk_by (own := [("one", 1), ("two", 2)]) (by rfl)) (fun _ _ _ _ _ => (g_tup (FX.blk fx) (g_cons (g_name (i := 1) (pg_name (FX.blk fx).nd rfl (by first | exact Or.inl rfl | exact Or.inr rfl))) (g_cons (g_name (i := 2) (pg_name (FX.blk fx).nd rfl (by first | exact Or.inl rfl | exact Or.inr rfl))) g_nil)))) (fun _ _ _ _ _ => ts_nil) (fun _ _ _ _ _ => (e_cmp (or_ltB (FX.blk fx)) om_ltB (e_var (pv 1)) (e_var (pv 2)) rfl)) (by decide)) a_nil))))
/-! is_tuple_of -/
theorem sc_is_tuple_of : FnScope ["value", "many"] ["value", "many"] d9.scope := ⟨rfl, rfl, rfl, by decide +kernel, rfl, by decide +kernel, by decide +kernel⟩
noncomputable def s_is_tuple_of : SM :=
    (mRet (mAnd (mCB false gIsi (mCons (mVar 0) (mCons (mC (.ty "tuple")) mNil))) (mBin false gEq (mCB false gLen (mCons (mVar 0) mNil)) (mVar 1))))
noncomputable def m_is_tuple_of : FM := frzM (finM 2 (s_is_tuple_of))
theorem G_is_tuple_of {P : Program} {w : World} {K : PySem.W.Frag} {mg : Str → Option Value} {base : Heap} (c : Cx K mg base) : FnA P w K mg base (TT K) CS 1 d9 ["value", "many"] m_is_tuple_of :=
  fnA (c.d.def_ 9) rfl rfl sc_is_tuple_of (fun _ _ _ _ _ _ us h => match us, h with | [_, _], _ => rfl) fun f cdv C A outer s H E ρ hcd fx gd =>
    (ss_one (s_ret (e_and (e_callB false call_isi om_isi rfl (c.free 14) boot_isinstance (a_cons (e_var (pv 0)) (a_cons (e_ty rfl (c.free 13) boot_tuple) a_nil))) (e_one (e_cmp (or_eq fx) om_eq (e_callB false call_len om_len rfl (c.free 3) boot_len (a_cons (e_var (pv 0)) a_nil)) (e_var (pv 1)) rfl)))))
/-! is_letters -/
theorem sc_is_letters : FnScope ["value", "least", "most", "letter"] ["value", "least", "most"] d13.scope := ⟨rfl, rfl, rfl, by decide +kernel, rfl, by decide +kernel, by decide +kernel⟩
noncomputable def s_is_letters : SM :=
    (mSeq (mIfS (mOrT (mNotT (mT (mCB false gIsi (mCons (mVar 0) (mCons (mC (.ty "str")) mNil))))) (mNotT (mB (mChain gLe gLe (mVar 1) (mCB false gLen (mCons (mVar 0) mNil)) (mVar 2))))) (mRet (mC (.bl false))) mSkip)
    (mRet (mCB false gAll (mCons (mLc false (iMA (mVar 0)) (gmName 3) mYes (mBin false gIn (mVar 3) (mC (.str "abcdefghijklmnopqrstuvwxyz"))) [3]) mNil))))
noncomputable def m_is_letters : FM := frzM (finM 4 (s_is_letters))
theorem G_is_letters {P : Program} {w : World} {K : PySem.W.Frag} {mg : Str → Option Value} {base : Heap} (c : Cx K mg base) : FnA P w K mg base (TT K) CS 1 d13 ["value", "least", "most"] m_is_letters :=
  fnA (c.d.def_ 10) rfl rfl sc_is_letters (fun _ _ _ _ _ _ us h => match us, h with | [_, _, _], _ => rfl) fun f cdv C A outer s H E ρ hcd fx gd =>
    (ss_cons (s_if (PW.pt (t_or (t_not (t_truth (e_callB false call_isi om_isi rfl (c.free 14) boot_isinstance (a_cons (e_var (pv 0)) (a_cons (e_ty rfl (c.free 18) boot_str) a_nil))))) (t_or1 (t_not (t_chain op_le op_le om_le om_le (e_var (pv 1)) (e_callB false call_len om_len rfl (c.free 3) boot_len (a_cons (e_var (pv 0)) a_nil)) (e_var (pv 2))))))) (ss_one (s_ret e_bl)) ss_nil)
    (ss_one (s_ret (e_callB false (cr_all fx.calm) om_all rfl (c.free 17) boot_all (a_cons (e_lc false fx (i_seq (e_var (pv 0))) (blkOk_by (own := [("letter", 3)]) (by rfl)) (fun _ _ _ _ _ => (g_name (i := 3) (pg_name (FX.blk fx).nd rfl (by first | exact Or.inl rfl | exact Or.inr rfl)))) (fun _ _ _ _ _ => ts_nil) (fun _ _ _ _ _ => (e_cmp (or_in (FX.blk fx)) om_in (e_var (pv 3)) (e_gstr (c.str 19) rfl) rfl)) (by decide)) a_nil)))))
/-! is_name -/
theorem sc_is_name : FnScope ["value"] ["value"] d14.scope := ⟨rfl, rfl, rfl, by decide +kernel, rfl, by decide +kernel, by decide +kernel⟩
noncomputable def s_is_name : SM :=
    (mRet (mAnd (mCall m_is_letters (mCons (mVar 0) (mCons (mC (.int 1)) (mCons (mC (.int 8)) mNil)))) (mBin false gNotIn (mVar 0) (mC (.tup (z_WORDS.map .str))))))
noncomputable def m_is_name : FM := frzM (finM 1 (s_is_name))
theorem G_is_name {P : Program} {w : World} {K : PySem.W.Frag} {mg : Str → Option Value} {base : Heap} (c : Cx K mg base) : FnA P w K mg base (TT K) CS 2 d14 ["value"] m_is_name :=
  fnA (c.d.def_ 11) rfl rfl sc_is_name (fun _ _ _ _ _ _ us h => match us, h with | [_], _ => rfl) fun f cdv C A outer s H E ρ hcd fx gd =>
    (ss_one (s_ret (e_and (e_callG fx ((G_is_letters c).g (c.glo 21)) (by decide) rfl (len_cons (len_cons (len_cons (len_nil rfl)))) (a_cons (e_var (pv 0)) (a_cons e_int (a_cons (e_gint (c.int 22) rfl) a_nil)))) (e_one (e_cmp (or_notin fx) om_notin (e_var (pv 0)) (e_gtup' (zs := z_WORDS) rfl (c.glo 20) (ex_at (exlOk c) 1) rfl) rfl)))))
/-! are_names -/
theorem sc_are_names : FnScope ["value", "least", "most", "name"] ["value", "least", "most"] d15.scope := ⟨rfl, rfl, rfl, by decide +kernel, rfl, by decide +kernel, by decide +kernel⟩
noncomputable def s_are_names : SM :=
    (mSeq (mIfS (mOrT (mNotT (mT (mCB false gIsi (mCons (mVar 0) (mCons (mC (.ty "tuple")) mNil))))) (mOrT (mNotT (mB (mChain gLe gLe (mVar 1) (mCB false gLen (mCons (mVar 0) mNil)) (mVar 2)))) (mNotT (mT (mCB false gAll (mCons (mLc false (iMA (mVar 0)) (gmName 3) mYes (mCall m_is_name (mCons (mVar 3) mNil)) [3]) mNil)))))) (mRet (mC (.bl false))) mSkip)
    (mRet (mBin false gEq (mLenSet (mVar 0)) (mCB false gLen (mCons (mVar 0) mNil)))))
noncomputable def m_are_names : FM := frzM (finM 4 (s_are_names))
theorem G_are_names {P : Program} {w : World} {K : PySem.W.Frag} {mg : Str → Option Value} {base : Heap} (c : Cx K mg base) : FnA P w K mg base (TT K) CS 3 d15 ["value", "least", "most"] m_are_names :=
  fnA (c.d.def_ 12) rfl rfl sc_are_names (fun _ _ _ _ _ _ us h => match us, h with | [_, _, _], _ => rfl) fun f cdv C A outer s H E ρ hcd fx gd =>
    (ss_cons (s_if (PW.pt (t_or (t_not (t_truth (e_callB false call_isi om_isi rfl (c.free 14) boot_isinstance (a_cons (e_var (pv 0)) (a_cons (e_ty rfl (c.free 13) boot_tuple) a_nil))))) (t_or (t_not (t_chain op_le op_le om_le om_le (e_var (pv 1)) (e_callB false call_len om_len rfl (c.free 3) boot_len (a_cons (e_var (pv 0)) a_nil)) (e_var (pv 2)))) (t_or1 (t_not (t_truth (e_callB false (cr_all fx.calm) om_all rfl (c.free 17) boot_all (a_cons (e_lc false fx (i_seq (e_var (pv 0))) (blkOk_by (own := [("name", 3)]) (by rfl)) (fun _ _ _ _ _ => (g_name (i := 3) (pg_name (FX.blk fx).nd rfl (by first | exact Or.inl rfl | exact Or.inr rfl)))) (fun _ _ _ _ _ => ts_nil) (fun _ _ _ _ _ => (e_callG (FX.blk fx) ((G_is_name c).g (c.glo 23)) (by decide) rfl (len_cons (len_nil rfl)) (a_cons (e_var (pv 3)) a_nil))) (by decide)) a_nil)))))))) (ss_one (s_ret e_bl)) ss_nil)
    (ss_one (s_ret (e_cmp (or_eq fx) om_eq (e_lenSet fx rfl (c.free 3) rfl (c.free 24) (e_var (pv 0))) (e_callB false call_len om_len rfl (c.free 3) boot_len (a_cons (e_var (pv 0)) a_nil)) rfl))))
/-! is_trait -/
theorem sc_is_trait : FnScope ["value"] ["value"] d17.scope := ⟨rfl, rfl, rfl, by decide +kernel, rfl, by decide +kernel, by decide +kernel⟩
noncomputable def s_is_trait : SM :=
    (mSeq (mIfS (mOrT (mNotT (mT (mCall m_is_tuple_of (mCons (mVar 0) (mCons (mC (.int 2)) mNil))))) (mOrT (mNotT (mT (mCall m_is_name (mCons (mBin false gIx (mVar 0) (mC (.int 0))) mNil)))) (mNotT (mT (mCall m_are_names (mCons (mBin false gIx (mVar 0) (mC (.int 1))) (mCons (mC (.int 2)) (mCons (mC (.int 4)) mNil)))))))) (mRet (mC (.bl false))) mSkip)
    (mRet (mCall m_is_ascending (mCons (mBin false gIx (mVar 0) (mC (.int 1))) mNil))))
noncomputable def m_is_trait : FM := frzM (finM 1 (s_is_trait))
theorem G_is_trait {P : Program} {w : World} {K : PySem.W.Frag} {mg : Str → Option Value} {base : Heap} (c : Cx K mg base) : FnA P w K mg base (TT K) CS 4 d17 ["value"] m_is_trait :=
  fnA (c.d.def_ 13) rfl rfl sc_is_trait (fun _ _ _ _ _ _ us h => match us, h with | [_], _ => rfl) fun f cdv C A outer s H E ρ hcd fx gd =>
    (ss_cons (s_if (PW.pt (t_or (t_not (t_truth (e_callG fx ((G_is_tuple_of c).g (c.glo 27)) (by decide) rfl (len_cons (len_cons (len_nil rfl))) (a_cons (e_var (pv 0)) (a_cons e_int a_nil))))) (t_or (t_not (t_truth (e_callG fx ((G_is_name c).g (c.glo 23)) (by decide) rfl (len_cons (len_nil rfl)) (a_cons (e_ix (e_var (pv 0)) e_int (fun _ _ => rfl)) a_nil)))) (t_or1 (t_not (t_truth (e_callG fx ((G_are_names c).g (c.glo 25)) (by decide) rfl (len_cons (len_cons (len_cons (len_nil rfl)))) (a_cons (e_ix (e_var (pv 0)) e_int (fun _ _ => rfl)) (a_cons e_int (a_cons (e_gint (c.int 26) rfl) a_nil)))))))))) (ss_one (s_ret e_bl)) ss_nil)
    (ss_one (s_ret (e_callG fx ((G_is_ascending c).g (c.glo 28)) (by decide) rfl (len_cons (len_nil rfl)) (a_cons (e_ix (e_var (pv 0)) e_int (fun _ _ => rfl)) a_nil)))))
/-! is_behind -/
theorem sc_is_behind : FnScope ["value", "before", "names"] ["value", "before", "names"] d20.scope := ⟨rfl, rfl, rfl, by decide +kernel, rfl, by decide +kernel, by decide +kernel⟩
noncomputable def s_is_behind : SM :=
    (mRet (mAnd (mBin false gNotIn (mBin false gIx (mVar 0) (mC (.int 0))) (mVar 2)) (mOr (mBin false gEq (mVar 1) (mTup mNil)) (mBin false gLtB (mBin false gIx (mBin false gIx (mVar 1) (mNeg (mC (.int 1)))) (mC (.int 0))) (mBin false gIx (mVar 0) (mC (.int 0)))))))
noncomputable def m_is_behind : FM := frzM (finM 3 (s_is_behind))
theorem G_is_behind {P : Program} {w : World} {K : PySem.W.Frag} {mg : Str → Option Value} {base : Heap} (c : Cx K mg base) : FnA P w K mg base (TT K) CS 1 d20 ["value", "before", "names"] m_is_behind :=
  fnA (c.d.def_ 14) rfl rfl sc_is_behind (fun _ _ _ _ _ _ us h => match us, h with | [_, _, _], _ => rfl) fun f cdv C A outer s H E ρ hcd fx gd =>
    (ss_one (s_ret (e_and (e_cmp (or_notin fx) om_notin (e_ix (e_var (pv 0)) e_int (fun _ _ => rfl)) (e_var (pv 2)) rfl) (e_one (e_or (e_cmp (or_eq fx) om_eq (e_var (pv 1)) (e_tup a_nil) rfl) (e_one (e_cmp (or_ltB fx) om_ltB (e_ix (e_ix (e_var (pv 1)) (e_neg e_int) (fun _ _ => rfl)) e_int (fun _ _ => rfl)) (e_ix (e_var (pv 0)) e_int (fun _ _ => rfl)) rfl)))))))
/-! groups_of -/
theorem sc_groups_of : FnScope ["traits", "many", "_", "values"] ["traits"] d21.scope := ⟨rfl, rfl, rfl, by decide +kernel, rfl, by decide +kernel, by decide +kernel⟩
noncomputable def s_groups_of : SM :=
    (mSeq (mSet 1 (mC (.int 1)))
    (mSeq (mFor (iMA (mVar 0)) (gmTup 2 (gmCons (gmName 2) (gmCons (gmName 3) gmNil))) (mSet 1 (mBin false gMulA (mVar 1) (mCB false gLen (mCons (mVar 3) mNil)))))
    (mRet (mVar 1))))
noncomputable def m_groups_of : FM := frzM (finM 4 (s_groups_of))
theorem G_groups_of {P : Program} {w : World} {K : PySem.W.Frag} {mg : Str → Option Value} {base : Heap} (c : Cx K mg base) : FnA P w K mg base (TT K) CS 1 d21 ["traits"] m_groups_of :=
  fnA (c.d.def_ 15) rfl rfl sc_groups_of (fun _ _ _ _ _ _ us h => match us, h with | [_], _ => rfl) fun f cdv C A outer s H E ρ hcd fx gd =>
    (ss_cons (s_set (ps_set (i := 1) fx.nd rfl (by first | exact Or.inl rfl | exact Or.inr rfl) e_int))
    (ss_cons (s_for fx (i_seq (e_var (pv 0))) (g_tup fx (g_cons (g_name (i := 2) (pg_name fx.nd rfl (by first | exact Or.inl rfl | exact Or.inr rfl))) (g_cons (g_name (i := 3) (pg_name fx.nd rfl (by first | exact Or.inl rfl | exact Or.inr rfl))) g_nil))) (ss_one (s_set (ps_set (i := 1) fx.nd rfl (by first | exact Or.inl rfl | exact Or.inr rfl) (e_bin false or_mulA om_mulA (e_var (pv 1)) (e_callB false call_len om_len rfl (c.free 3) boot_len (a_cons (e_var (pv 3)) a_nil)))))))
    (ss_one (s_ret (e_var (pv 1))))))
/-! check_traits -/
noncomputable def s_c0 : SM := (mRet (mAnd (mCall m_is_trait (mCons (mVar 0) mNil)) (mAnd (mCall m_is_behind (mCons (mVar 0) (mCons (mVar 1) (mCons (mLst false mNil) mNil)))) (mBin false gLe (mCall m_groups_of (mCons (mBin false gAdd (mVar 1) (mTup (mCons (mVar 0) mNil))) mNil)) (mC (.int 12))))))
noncomputable def m_c0 : List EV → FM := finC 2 2 0 s_c0
theorem C_0 {P : Program} {w : World} {K : PySem.W.Frag} {mg : Str → Option Value} {base : Heap} (c : Cx K mg base) : FnC P w K mg base (TT K) CS 5 0 m_c0 :=
  fnc_st (z := cs0) rfl rfl (N := ["each", "before"]) (ps := ["each", "before"]) (NdefX.nscope_by (by decide +kernel)) (fun _ _ _ _ _ us h => match us, h with | [_, _], _ => rfl) fun cl cc f C A outer s H E ρ fx gd =>
    (ss_one (s_ret (e_and (e_callG fx ((G_is_trait c).g (c.glo 32)) (by decide) rfl (len_cons (len_nil rfl)) (a_cons (e_var (pv 0)) a_nil)) (e_and (e_callG fx ((G_is_behind c).g (c.glo 31)) (by decide) rfl (len_cons (len_cons (len_cons (len_nil rfl)))) (a_cons (e_var (pv 0)) (a_cons (e_var (pv 1)) (a_cons (e_lst false a_nil) a_nil)))) (e_one (e_cmp op_le om_le (e_callG fx ((G_groups_of c).g (c.glo 29)) (by decide) rfl (len_cons (len_nil rfl)) (a_cons (e_bin false or_add om_add (e_var (pv 1)) (e_tup (a_cons (e_var (pv 0)) a_nil))) a_nil)) (e_gint (c.int 30) rfl) rfl))))))
noncomputable def cm_check_traits : Nat → List EV → FM := fun k => if k = 0 then m_c0 else cBad
theorem HC_check_traits {P : Program} {w : World} {K : PySem.W.Frag} {mg : Str → Option Value} {base : Heap} (c : Cx K mg base) : ∀ k, FnC P w K mg base (TT K) CS 5 k (cm_check_traits k) := fun k => by
  unfold cm_check_traits
  by_cases h0 : k = 0
  · subst h0; rw [if_pos rfl]; exact (C_0 c).mono (by decide)
  rw [if_neg h0]
  exact FnC.bad
theorem sc_check_traits : FnScope ["value", "is_right", "at"] ["value"] d22.scope := ⟨rfl, rfl, rfl, by decide +kernel, rfl, by decide +kernel, by decide +kernel⟩
noncomputable def s_check_traits : SM :=
    (mSeq (mNdef 1 0)
    (mFor (iMA (mCallF (m_wrong_at cm_check_traits) [(0, [])] (vD (mVar 0) (vD (mC (.int 3)) (vF 1 vNil))))) (gmName 2) mNever))
noncomputable def m_check_traits : FM := frzM (finM 3 (s_check_traits))
theorem G_check_traits {P : Program} {w : World} {K : PySem.W.Frag} {mg : Str → Option Value} {base : Heap} (c : Cx K mg base) : FnA P w K mg base (TT K) CS 7 d22 ["value"] m_check_traits :=
  fnA (c.d.def_ 16) rfl rfl sc_check_traits (fun _ _ _ _ _ _ us h => match us, h with | [_], _ => rfl) fun f cdv C A outer s H E ρ hcd fx gd =>
    (ss_cons (s_ndef (j := 0) (NdefX.ps_ndefMS (i := 1) (st := zst0) (nm := NM) rfl (c.tab 0) hcd (tabs_mem 0) (by first | rfl | kernel_rfl) tabs_one (NdefX.ndef_free (fr := []) (by rfl)) rfl rfl rfl fx.nd rfl (by first | exact Or.inl rfl | exact Or.inr rfl) (.inl rfl)) (fun _ _ => rfl) (fun _ => rfl))
    (ss_one (s_for fx (i_seq (e_callF (cap := [(0, [])]) fx (gxD gd) (by rfl) ((G_wrong_at c _ (by decide) cm_check_traits (HC_check_traits c)).g (c.glo 34)) (by decide) rfl (lv_d (lv_d (lv_f (lv_nil rfl)))) (v_d (e_var (pv 0)) (v_d (e_gint (c.int 33) rfl) (v_f (pv 1) v_nil))))) (g_name (i := 2) (pg_name fx.nd rfl (by first | exact Or.inl rfl | exact Or.inr rfl))) (ss_one s_never))))
/-! is_whole -/
theorem sc_is_whole : FnScope ["value"] ["value"] d6.scope := ⟨rfl, rfl, rfl, by decide +kernel, rfl, by decide +kernel, by decide +kernel⟩
noncomputable def s_is_whole : SM :=
    (mRet (mAnd (mCB false gIsi (mCons (mVar 0) (mCons (mC (.ty "int")) mNil))) (mNot (mCB false gIsi (mCons (mVar 0) (mCons (mC (.ty "bool")) mNil))))))
noncomputable def m_is_whole : FM := frzM (finM 1 (s_is_whole))
theorem G_is_whole {P : Program} {w : World} {K : PySem.W.Frag} {mg : Str → Option Value} {base : Heap} (c : Cx K mg base) : FnA P w K mg base (TT K) CS 1 d6 ["value"] m_is_whole :=
  fnA (c.d.def_ 17) rfl rfl sc_is_whole (fun _ _ _ _ _ _ us h => match us, h with | [_], _ => rfl) fun f cdv C A outer s H E ρ hcd fx gd =>
    (ss_one (s_ret (e_and (e_callB false call_isi om_isi rfl (c.free 14) boot_isinstance (a_cons (e_var (pv 0)) (a_cons (e_ty rfl (c.free 1) boot_int) a_nil))) (e_one (e_not (e_callB false call_isi om_isi rfl (c.free 14) boot_isinstance (a_cons (e_var (pv 0)) (a_cons (e_ty rfl (c.free 35) boot_bool) a_nil))))))))
/-! is_number -/
theorem sc_is_number : FnScope ["value", "low", "high"] ["value", "low", "high"] d7.scope := ⟨rfl, rfl, rfl, by decide +kernel, rfl, by decide +kernel, by decide +kernel⟩
noncomputable def s_is_number : SM :=
    (mSeq (mIfS (mOrT (mNotT (mT (mCall m_is_whole (mCons (mVar 0) mNil)))) (mAndT (mB (mBin false gNotN (mVar 1) (mC .non))) (mB (mBin false gLtB (mVar 0) (mVar 1))))) (mRet (mC (.bl false))) mSkip)
    (mRet (mOr (mBin false gIsN (mVar 2) (mC .non)) (mBin false gLe (mVar 0) (mVar 2)))))
noncomputable def m_is_number : FM := frzM (finM 3 (s_is_number))
theorem G_is_number {P : Program} {w : World} {K : PySem.W.Frag} {mg : Str → Option Value} {base : Heap} (c : Cx K mg base) : FnA P w K mg base (TT K) CS 2 d7 ["value", "low", "high"] m_is_number :=
  fnA (c.d.def_ 18) rfl rfl sc_is_number (fun _ _ _ _ _ _ us h => match us, h with | [_, _, _], _ => rfl) fun f cdv C A outer s H E ρ hcd fx gd =>
    (ss_cons (s_if (PW.pt (t_or (t_not (t_truth (e_callG fx ((G_is_whole c).g (c.glo 36)) (by decide) rfl (len_cons (len_nil rfl)) (a_cons (e_var (pv 0)) a_nil)))) (t_or1 (PW.pt (t_and (t_cmp op_notN om_notN (e_var (pv 1)) e_non rfl) (t_and1 (t_cmp (or_ltB fx) om_ltB (e_var (pv 0)) (e_var (pv 1)) rfl))))))) (ss_one (s_ret e_bl)) ss_nil)
    (ss_one (s_ret (e_or (e_cmp op_isN om_isN (e_var (pv 2)) e_non rfl) (e_one (e_cmp op_le om_le (e_var (pv 0)) (e_var (pv 2)) rfl))))))
/-! is_layer -/
theorem sc_is_layer : FnScope ["value"] ["value"] d18.scope := ⟨rfl, rfl, rfl, by decide +kernel, rfl, by decide +kernel, by decide +kernel⟩
noncomputable def s_is_layer : SM :=
    (mSeq (mIfS (mOrT (mNotT (mT (mCall m_is_tuple_of (mCons (mVar 0) (mCons (mC (.int 3)) mNil))))) (mNotT (mT (mCall m_is_name (mCons (mBin false gIx (mVar 0) (mC (.int 0))) mNil))))) (mRet (mC (.bl false))) mSkip)
    (mRet (mAnd (mCall m_is_number (mCons (mBin false gIx (mVar 0) (mC (.int 1))) (mCons (mC (.int 1)) (mCons (mBin false gSub (mC (.int 100)) (mC (.int 1))) mNil)))) (mCall m_is_number (mCons (mBin false gIx (mVar 0) (mC (.int 2))) (mCons (mC (.int 0)) (mCons (mBin false gSub (mC (.int 100)) (mC (.int 1))) mNil)))))))
noncomputable def m_is_layer : FM := frzM (finM 1 (s_is_layer))
theorem G_is_layer {P : Program} {w : World} {K : PySem.W.Frag} {mg : Str → Option Value} {base : Heap} (c : Cx K mg base) : FnA P w K mg base (TT K) CS 3 d18 ["value"] m_is_layer :=
  fnA (c.d.def_ 19) rfl rfl sc_is_layer (fun _ _ _ _ _ _ us h => match us, h with | [_], _ => rfl) fun f cdv C A outer s H E ρ hcd fx gd =>
    (ss_cons (s_if (PW.pt (t_or (t_not (t_truth (e_callG fx ((G_is_tuple_of c).g (c.glo 27)) (by decide) rfl (len_cons (len_cons (len_nil rfl))) (a_cons (e_var (pv 0)) (a_cons e_int a_nil))))) (t_or1 (t_not (t_truth (e_callG fx ((G_is_name c).g (c.glo 23)) (by decide) rfl (len_cons (len_nil rfl)) (a_cons (e_ix (e_var (pv 0)) e_int (fun _ _ => rfl)) a_nil))))))) (ss_one (s_ret e_bl)) ss_nil)
    (ss_one (s_ret (e_and (e_callG fx ((G_is_number c).g (c.glo 37)) (by decide) rfl (len_cons (len_cons (len_cons (len_nil rfl)))) (a_cons (e_ix (e_var (pv 0)) e_int (fun _ _ => rfl)) (a_cons e_int (a_cons (e_bin false op_sub om_sub (e_gint (c.int 38) rfl) e_int) a_nil)))) (e_one (e_callG fx ((G_is_number c).g (c.glo 37)) (by decide) rfl (len_cons (len_cons (len_cons (len_nil rfl)))) (a_cons (e_ix (e_var (pv 0)) e_int (fun _ _ => rfl)) (a_cons e_int (a_cons (e_bin false op_sub om_sub (e_gint (c.int 38) rfl) e_int) a_nil)))))))))
/-! check_layers -/
noncomputable def s_c1 : SM := (mRet (mAnd (mCall m_is_layer (mCons (mVar 0) mNil)) (mCall m_is_behind (mCons (mVar 0) (mCons (mVar 1) (mCons (mVar 2) mNil))))))
noncomputable def m_c1 : List EV → FM := finC 3 2 1 s_c1
theorem C_1 {P : Program} {w : World} {K : PySem.W.Frag} {mg : Str → Option Value} {base : Heap} (c : Cx K mg base) : FnC P w K mg base (TT K) CS 4 1 m_c1 :=
  fnc_st (z := cs1) rfl rfl (N := ["each", "before", "names"]) (ps := ["each", "before"]) (NdefX.nscope_by (by decide +kernel)) (fun _ _ _ _ _ us h => match us, h with | [_, _], _ => rfl) fun cl cc f C A outer s H E ρ fx gd =>
    (ss_one (s_ret (e_and (e_callG fx ((G_is_layer c).g (c.glo 39)) (by decide) rfl (len_cons (len_nil rfl)) (a_cons (e_var (pv 0)) a_nil)) (e_one (e_callG fx ((G_is_behind c).g (c.glo 31)) (by decide) rfl (len_cons (len_cons (len_cons (len_nil rfl)))) (a_cons (e_var (pv 0)) (a_cons (e_var (pv 1)) (a_cons (e_var (pv 2)) a_nil))))))))
noncomputable def cm_check_layers : Nat → List EV → FM := fun k => if k = 1 then m_c1 else cBad
theorem HC_check_layers {P : Program} {w : World} {K : PySem.W.Frag} {mg : Str → Option Value} {base : Heap} (c : Cx K mg base) : ∀ k, FnC P w K mg base (TT K) CS 4 k (cm_check_layers k) := fun k => by
  unfold cm_check_layers
  by_cases h1 : k = 1
  · subst h1; rw [if_pos rfl]; exact (C_1 c).mono (by decide)
  rw [if_neg h1]
  exact FnC.bad
theorem sc_check_layers : FnScope ["value", "names", "is_right", "at"] ["value", "names"] d23.scope := ⟨rfl, rfl, rfl, by decide +kernel, rfl, by decide +kernel, by decide +kernel⟩
noncomputable def s_check_layers : SM :=
    (mSeq (mNdef 2 1)
    (mFor (iMA (mCallF (m_wrong_at cm_check_layers) [(1, [1])] (vD (mVar 0) (vD (mC (.int 3)) (vF 2 vNil))))) (gmName 3) mNever))
noncomputable def m_check_layers : FM := frzM (finM 4 (s_check_layers))
theorem G_check_layers {P : Program} {w : World} {K : PySem.W.Frag} {mg : Str → Option Value} {base : Heap} (c : Cx K mg base) : FnA P w K mg base (TT K) CS 6 d23 ["value", "names"] m_check_layers :=
  fnA (c.d.def_ 20) rfl rfl sc_check_layers (fun _ _ _ _ _ _ us h => match us, h with | [_, _], _ => rfl) fun f cdv C A outer s H E ρ hcd fx gd =>
    (ss_cons (s_ndef (j := 1) (NdefX.ps_ndefMS (i := 2) (st := zst1) (nm := NM) rfl (c.tab 1) hcd (tabs_mem 1) (by first | rfl | kernel_rfl) tabs_one (NdefX.ndef_free (fr := ["names"]) (by rfl)) rfl rfl rfl fx.nd rfl (by first | exact Or.inl rfl | exact Or.inr rfl) (.inl rfl)) (fun _ _ => rfl) (fun _ => rfl))
    (ss_one (s_for fx (i_seq (e_callF (cap := [(1, [1])]) fx (gxD gd) (by rfl) ((G_wrong_at c _ (by decide) cm_check_layers (HC_check_layers c)).g (c.glo 34)) (by decide) rfl (lv_d (lv_d (lv_f (lv_nil rfl)))) (v_d (e_var (pv 0)) (v_d (e_gint (c.int 40) rfl) (v_f (pv 2) v_nil))))) (g_name (i := 3) (pg_name fx.nd rfl (by first | exact Or.inl rfl | exact Or.inr rfl))) (ss_one s_never))))
/-! wrong_from_one -/
theorem sc_wrong_from_one : FnScope ["values", "most", "is_right"] ["values", "most", "is_right"] d12.scope := ⟨rfl, rfl, rfl, by decide +kernel, rfl, by decide +kernel, by decide +kernel⟩
noncomputable def s_wrong_from_one (cm : Nat → List EV → FM) : SM :=
    (mRet (mIf (mB (mBin false gEq (mVar 0) (mTup mNil))) (mLst false (mCons (mC .non) mNil)) (mCallF (m_wrong_at cm) [] (vD (mVar 0) (vD (mVar 1) (vF 2 vNil))))))
noncomputable def m_wrong_from_one (cm : Nat → List EV → FM) : FM := frzM (finM 3 (s_wrong_from_one cm))
theorem G_wrong_from_one {P : Program} {w : World} {K : PySem.W.Frag} {mg : Str → Option Value} {base : Heap} (c : Cx K mg base) (kk : Nat) (hkk : 0 ≤ kk) (cm : Nat → List EV → FM) (hC : ∀ i, FnC P w K mg base (TT K) CS kk i (cm i)) : FnA P w K mg base (TT K) CS (kk + 2) d12 ["values", "most", "is_right"] (m_wrong_from_one cm) :=
  have hk0 : kk ≤ kk + 1 := by omega
  fnA (c.d.def_ 21) rfl rfl sc_wrong_from_one (fun _ _ _ _ _ _ us h => match us, h with | [_, _, _], _ => rfl) fun f cdv C A outer s H E ρ hcd fx gd =>
    (ss_one (s_ret (e_if (t_cmp (or_eq fx) om_eq (e_var (pv 0)) (e_tup a_nil) rfl) (e_lst false (a_cons e_non a_nil)) (e_callF (cap := []) fx (gxD gd) (by rfl) ((G_wrong_at c kk hkk cm hC).g (c.glo 34)) (by omega) rfl (lv_d (lv_d (lv_f (lv_nil rfl)))) (v_d (e_var (pv 0)) (v_d (e_var (pv 1)) (v_f (pv 2) v_nil)))))))
/-! is_one_of -/
theorem sc_is_one_of : FnScope ["value", "words"] ["value", "words"] d16.scope := ⟨rfl, rfl, rfl, by decide +kernel, rfl, by decide +kernel, by decide +kernel⟩
noncomputable def s_is_one_of : SM :=
    (mRet (mAnd (mCB false gIsi (mCons (mVar 0) (mCons (mC (.ty "str")) mNil))) (mBin false gIn (mVar 0) (mVar 1))))
noncomputable def m_is_one_of : FM := frzM (finM 2 (s_is_one_of))
theorem G_is_one_of {P : Program} {w : World} {K : PySem.W.Frag} {mg : Str → Option Value} {base : Heap} (c : Cx K mg base) : FnA P w K mg base (TT K) CS 1 d16 ["value", "words"] m_is_one_of :=
  fnA (c.d.def_ 22) rfl rfl sc_is_one_of (fun _ _ _ _ _ _ us h => match us, h with | [_, _], _ => rfl) fun f cdv C A outer s H E ρ hcd fx gd =>
    (ss_one (s_ret (e_and (e_callB false call_isi om_isi rfl (c.free 14) boot_isinstance (a_cons (e_var (pv 0)) (a_cons (e_ty rfl (c.free 18) boot_str) a_nil))) (e_one (e_cmp (or_in fx) om_in (e_var (pv 0)) (e_var (pv 1)) rfl)))))
/-! is_flag -/
theorem sc_is_flag : FnScope ["value"] ["value"] d19.scope := ⟨rfl, rfl, rfl, by decide +kernel, rfl, by decide +kernel, by decide +kernel⟩
noncomputable def s_is_flag : SM :=
    (mSeq (mIfS (mOrT (mNotT (mT (mCall m_is_tuple_of (mCons (mVar 0) (mCons (mC (.int 4)) mNil))))) (mOrT (mNotT (mT (mCall m_is_name (mCons (mBin false gIx (mVar 0) (mC (.int 0))) mNil)))) (mNotT (mT (mCall m_are_names (mCons (mBin false gIx (mVar 0) (mC (.int 1))) (mCons (mC (.int 2)) (mCons (mC (.int 4)) mNil)))))))) (mRet (mC (.bl false))) mSkip)
    (mRet (mAnd (mCall m_is_one_of (mCons (mBin false gIx (mVar 0) (mC (.int 2))) (mCons (mBin false gIx (mVar 0) (mC (.int 1))) mNil))) (mCall m_is_number (mCons (mBin false gIx (mVar 0) (mC (.int 3))) (mCons (mC (.int 0)) (mCons (mC (.int 1)) mNil)))))))
noncomputable def m_is_flag : FM := frzM (finM 1 (s_is_flag))
theorem G_is_flag {P : Program} {w : World} {K : PySem.W.Frag} {mg : Str → Option Value} {base : Heap} (c : Cx K mg base) : FnA P w K mg base (TT K) CS 4 d19 ["value"] m_is_flag :=
  fnA (c.d.def_ 23) rfl rfl sc_is_flag (fun _ _ _ _ _ _ us h => match us, h with | [_], _ => rfl) fun f cdv C A outer s H E ρ hcd fx gd =>
    (ss_cons (s_if (PW.pt (t_or (t_not (t_truth (e_callG fx ((G_is_tuple_of c).g (c.glo 27)) (by decide) rfl (len_cons (len_cons (len_nil rfl))) (a_cons (e_var (pv 0)) (a_cons e_int a_nil))))) (t_or (t_not (t_truth (e_callG fx ((G_is_name c).g (c.glo 23)) (by decide) rfl (len_cons (len_nil rfl)) (a_cons (e_ix (e_var (pv 0)) e_int (fun _ _ => rfl)) a_nil)))) (t_or1 (t_not (t_truth (e_callG fx ((G_are_names c).g (c.glo 25)) (by decide) rfl (len_cons (len_cons (len_cons (len_nil rfl)))) (a_cons (e_ix (e_var (pv 0)) e_int (fun _ _ => rfl)) (a_cons e_int (a_cons (e_gint (c.int 41) rfl) a_nil)))))))))) (ss_one (s_ret e_bl)) ss_nil)
    (ss_one (s_ret (e_and (e_callG fx ((G_is_one_of c).g (c.glo 42)) (by decide) rfl (len_cons (len_cons (len_nil rfl))) (a_cons (e_ix (e_var (pv 0)) e_int (fun _ _ => rfl)) (a_cons (e_ix (e_var (pv 0)) e_int (fun _ _ => rfl)) a_nil))) (e_one (e_callG fx ((G_is_number c).g (c.glo 37)) (by decide) rfl (len_cons (len_cons (len_cons (len_nil rfl)))) (a_cons (e_ix (e_var (pv 0)) e_int (fun _ _ => rfl)) (a_cons e_int (a_cons e_int a_nil)))))))))
/-! check_flags -/
noncomputable def s_c2 : SM := (mSeq (mIfS (mOrT (mNotT (mT (mCall m_is_flag (mCons (mVar 0) mNil)))) (mNotT (mT (mCall m_is_behind (mCons (mVar 0) (mCons (mVar 1) (mCons (mVar 2) mNil))))))) (mRet (mC (.bl false))) mSkip)
    (mRet (mBin false gLe (mCB false gSum (mCons (mLc false (iMA (mBin false gAdd (mVar 1) (mTup (mCons (mVar 0) mNil)))) (gmName 3) mYes (mBin false gIx (mVar 3) (mC (.int 3))) [3]) mNil)) (mC (.int 2)))))
noncomputable def m_c2 : List EV → FM := finC 4 2 1 s_c2
theorem C_2 {P : Program} {w : World} {K : PySem.W.Frag} {mg : Str → Option Value} {base : Heap} (c : Cx K mg base) : FnC P w K mg base (TT K) CS 5 2 m_c2 :=
  fnc_st (z := cs2) rfl rfl (N := ["each", "before", "names", "flag"]) (ps := ["each", "before"]) (NdefX.nscope_by (by decide +kernel)) (fun _ _ _ _ _ us h => match us, h with | [_, _], _ => rfl) fun cl cc f C A outer s H E ρ fx gd =>
    (ss_cons (s_if (PW.pt (t_or (t_not (t_truth (e_callG fx ((G_is_flag c).g (c.glo 43)) (by decide) rfl (len_cons (len_nil rfl)) (a_cons (e_var (pv 0)) a_nil)))) (t_or1 (t_not (t_truth (e_callG fx ((G_is_behind c).g (c.glo 31)) (by decide) rfl (len_cons (len_cons (len_cons (len_nil rfl)))) (a_cons (e_var (pv 0)) (a_cons (e_var (pv 1)) (a_cons (e_var (pv 2)) a_nil))))))))) (ss_one (s_ret e_bl)) ss_nil)
    (ss_one (s_ret (e_cmp op_le om_le (e_callB false (cr_sum fx.calm) om_sum rfl (c.free 44) boot_sum (a_cons (e_lc false fx (i_seq (e_bin false or_add om_add (e_var (pv 1)) (e_tup (a_cons (e_var (pv 0)) a_nil)))) (blkOk_by (own := [("flag", 3)]) (by rfl)) (fun _ _ _ _ _ => (g_name (i := 3) (pg_name (FX.blk fx).nd rfl (by first | exact Or.inl rfl | exact Or.inr rfl)))) (fun _ _ _ _ _ => ts_nil) (fun _ _ _ _ _ => (e_ix (e_var (pv 3)) e_int (fun _ _ => rfl))) (by decide)) a_nil)) (e_gint (c.int 45) rfl) rfl))))
noncomputable def cm_check_flags : Nat → List EV → FM := fun k => if k = 2 then m_c2 else cBad
theorem HC_check_flags {P : Program} {w : World} {K : PySem.W.Frag} {mg : Str → Option Value} {base : Heap} (c : Cx K mg base) : ∀ k, FnC P w K mg base (TT K) CS 5 k (cm_check_flags k) := fun k => by
  unfold cm_check_flags
  by_cases h2 : k = 2
  · subst h2; rw [if_pos rfl]; exact (C_2 c).mono (by decide)
  rw [if_neg h2]
  exact FnC.bad
theorem sc_check_flags : FnScope ["value", "names", "is_right", "at"] ["value", "names"] d24.scope := ⟨rfl, rfl, rfl, by decide +kernel, rfl, by decide +kernel, by decide +kernel⟩
noncomputable def s_check_flags : SM :=
    (mSeq (mNdef 2 2)
    (mFor (iMA (mCallF (m_wrong_from_one cm_check_flags) [(2, [1])] (vD (mVar 0) (vD (mC (.int 4)) (vF 2 vNil))))) (gmName 3) mNever))
noncomputable def m_check_flags : FM := frzM (finM 4 (s_check_flags))
theorem G_check_flags {P : Program} {w : World} {K : PySem.W.Frag} {mg : Str → Option Value} {base : Heap} (c : Cx K mg base) : FnA P w K mg base (TT K) CS 8 d24 ["value", "names"] m_check_flags :=
  fnA (c.d.def_ 24) rfl rfl sc_check_flags (fun _ _ _ _ _ _ us h => match us, h with | [_, _], _ => rfl) fun f cdv C A outer s H E ρ hcd fx gd =>
    (ss_cons (s_ndef (j := 2) (NdefX.ps_ndefMS (i := 2) (st := zst2) (nm := NM) rfl (c.tab 2) hcd (tabs_mem 2) (by first | rfl | kernel_rfl) tabs_one (NdefX.ndef_free (fr := ["names"]) (by rfl)) rfl rfl rfl fx.nd rfl (by first | exact Or.inl rfl | exact Or.inr rfl) (.inl rfl)) (fun _ _ => rfl) (fun _ => rfl))
    (ss_one (s_for fx (i_seq (e_callF (cap := [(2, [1])]) fx (gxD gd) (by rfl) ((G_wrong_from_one c _ (by decide) cm_check_flags (HC_check_flags c)).g (c.glo 47)) (by decide) rfl (lv_d (lv_d (lv_f (lv_nil rfl)))) (v_d (e_var (pv 0)) (v_d (e_gint (c.int 46) rfl) (v_f (pv 2) v_nil))))) (g_name (i := 3) (pg_name fx.nd rfl (by first | exact Or.inl rfl | exact Or.inr rfl))) (ss_one s_never))))
/-! check_number -/
theorem sc_check_number : FnScope ["value", "low", "high"] ["value", "low", "high"] d8.scope := ⟨rfl, rfl, rfl, by decide +kernel, rfl, by decide +kernel, by decide +kernel⟩
noncomputable def s_check_number : SM :=
    (mIfS (mNotT (mT (mCall m_is_number (mCons (mVar 0) (mCons (mVar 1) (mCons (mVar 2) mNil)))))) mNever mSkip)
noncomputable def m_check_number : FM := frzM (finM 3 (s_check_number))
theorem G_check_number {P : Program} {w : World} {K : PySem.W.Frag} {mg : Str → Option Value} {base : Heap} (c : Cx K mg base) : FnA P w K mg base (TT K) CS 3 d8 ["value", "low", "high"] m_check_number :=
  fnA (c.d.def_ 25) rfl rfl sc_check_number (fun _ _ _ _ _ _ us h => match us, h with | [_, _, _], _ => rfl) fun f cdv C A outer s H E ρ hcd fx gd =>
    (ss_one (s_if (t_not (t_truth (e_callG fx ((G_is_number c).g (c.glo 37)) (by decide) rfl (len_cons (len_cons (len_cons (len_nil rfl)))) (a_cons (e_var (pv 0)) (a_cons (e_var (pv 1)) (a_cons (e_var (pv 2)) a_nil)))))) (ss_one s_never) ss_nil))
/-! Frame.__init__ -/
theorem sc_Frame___init__ : FnScope ["self", "traits", "layers", "flags", "end", "names", "trait", "layer"] ["self", "traits", "layers", "flags", "end"] d25.scope := ⟨rfl, rfl, rfl, by decide +kernel, rfl, by decide +kernel, by decide +kernel⟩
noncomputable def s_Frame___init__ : SM :=
    (mSeq (mExpr (mCall m_check_traits (mCons (mVar 1) mNil)))
    (mSeq (mSet 5 (mLc false (iMA (mVar 1)) (gmName 6) mYes (mBin false gIx (mVar 6) (mC (.int 0))) [6]))
    (mSeq (mExpr (mCall m_check_layers (mCons (mVar 2) (mCons (mVar 5) mNil))))
    (mSeq (mExpr (mCall m_check_flags (mCons (mVar 3) (mCons (mBin false gAdd (mVar 5) (mLc false (iMA (mVar 2)) (gmName 7) mYes (mBin false gIx (mVar 7) (mC (.int 0))) [7])) mNil))))
    (mSeq (mExpr (mCall m_check_number (mCons (mVar 4) (mCons (mC (.int 0)) (mCons (mC (.int 20)) mNil)))))
    (mFldSet ["Frame"] "_parts" (mVar 0) (mTup (mCons (mVar 1) (mCons (mVar 2) (mCons (mVar 3) (mCons (mVar 4) mNil)))))))))))
noncomputable def m_Frame___init__ : FM := frzM (finM 8 (s_Frame___init__))
theorem G_Frame___init__ {P : Program} {w : World} {K : PySem.W.Frag} {mg : Str → Option Value} {base : Heap} (c : Cx K mg base) : FnA P w K mg base (TT K) CS 9 d25 ["self", "traits", "layers", "flags", "end"] m_Frame___init__ :=
  fnA (c.d.def_ 26) rfl rfl sc_Frame___init__ (fun _ _ _ _ _ _ us h => match us, h with | [_, _, _, _, _], _ => rfl) fun f cdv C A outer s H E ρ hcd fx gd =>
    (ss_cons (s_expr (e_callG fx ((G_check_traits c).g (c.glo 48)) (by decide) rfl (len_cons (len_nil rfl)) (a_cons (e_var (pv 1)) a_nil)))
    (ss_cons (s_setLc false (i := 5) fx rfl rfl rfl (i_seq (e_var (pv 1))) (blkOk_by (own := [("trait", 6)]) (by rfl)) (fun _ _ _ _ _ => (g_name (i := 6) (pg_name (FX.blk fx).nd rfl (by first | exact Or.inl rfl | exact Or.inr rfl)))) (fun _ _ _ _ _ => ts_nil) (fun _ _ _ _ _ => (e_ix (e_var (pv 6)) e_int (fun _ _ => rfl))) (by decide))
    (ss_cons (s_expr (e_callG fx ((G_check_layers c).g (c.glo 49)) (by decide) rfl (len_cons (len_cons (len_nil rfl))) (a_cons (e_var (pv 2)) (a_cons (e_var (pv 5)) a_nil))))
    (ss_cons (s_expr (e_callG fx ((G_check_flags c).g (c.glo 50)) (by decide) rfl (len_cons (len_cons (len_nil rfl))) (a_cons (e_var (pv 3)) (a_cons (e_bin false or_add om_add (e_var (pv 5)) (e_lc false fx (i_seq (e_var (pv 2))) (blkOk_by (own := [("layer", 7)]) (by rfl)) (fun _ _ _ _ _ => (g_name (i := 7) (pg_name (FX.blk fx).nd rfl (by first | exact Or.inl rfl | exact Or.inr rfl)))) (fun _ _ _ _ _ => ts_nil) (fun _ _ _ _ _ => (e_ix (e_var (pv 7)) e_int (fun _ _ => rfl))) (by decide))) a_nil))))
    (ss_cons (s_expr (e_callG fx ((G_check_number c).g (c.glo 51)) (by decide) rfl (len_cons (len_cons (len_cons (len_nil rfl)))) (a_cons (e_var (pv 4)) (a_cons e_int (a_cons (e_gint (c.int 52) rfl) a_nil)))))
    (ss_one (s_fld (fc := ["Frame"]) (e_var (pv 0)) (e_tup (a_cons (e_var (pv 1)) (a_cons (e_var (pv 2)) (a_cons (e_var (pv 3)) (a_cons (e_var (pv 4)) a_nil))))) (all_cons ⟨_, c.glo 11, c.cls 53, c.noat 54⟩ all_nil))))))))
/-! _law_made -/
theorem sc__law_made : FnScope ["parts"] ["parts"] d52.scope := ⟨rfl, rfl, rfl, by decide +kernel, rfl, by decide +kernel, by decide +kernel⟩
noncomputable def s__law_made : SM :=
    (mRet (mMake false "Frame" m_Frame___init__ (mCons (mBin false gIx (mVar 0) (mC (.int 0))) (mCons (mBin false gIx (mVar 0) (mC (.int 1))) (mCons (mBin false gIx (mVar 0) (mC (.int 2))) (mCons (mBin false gIx (mVar 0) (mC (.int 3))) mNil))))))
noncomputable def m__law_made : FM := frzM (finM 1 (s__law_made))
theorem G__law_made {P : Program} {w : World} {K : PySem.W.Frag} {mg : Str → Option Value} {base : Heap} (c : Cx K mg base) : FnA P w K mg base (TT K) CS 11 d52 ["parts"] m__law_made :=
  fnA (c.d.def_ 27) rfl rfl sc__law_made (fun _ _ _ _ _ _ us h => match us, h with | [_], _ => rfl) fun f cdv C A outer s H E ρ hcd fx gd =>
    (ss_one (s_ret (e_make (d := d25) false fx (c.mkr 55) (c.glo 11) (G_Frame___init__ c) (by decide) rfl (fun env S ds S1 h => congrArg (· + 1) ((len_cons (len_cons (len_cons (len_cons (len_nil rfl))))) env S ds S1 h)) (a_cons (e_ix (e_var (pv 0)) e_int (fun _ _ => rfl)) (a_cons (e_ix (e_var (pv 0)) e_int (fun _ _ => rfl)) (a_cons (e_ix (e_var (pv 0)) e_int (fun _ _ => rfl)) (a_cons (e_ix (e_var (pv 0)) e_int (fun _ _ => rfl)) a_nil)))))))
/-! _law_is -/
theorem sc__law_is : FnScope ["told", "due"] ["told", "due"] d46.scope := ⟨rfl, rfl, rfl, by decide +kernel, rfl, by decide +kernel, by decide +kernel⟩
noncomputable def s__law_is : SM :=
    (mRet (mBin false gEq (mCB false gRepr (mCons (mVar 0) mNil)) (mCB false gRepr (mCons (mVar 1) mNil))))
noncomputable def m__law_is : FM := frzM (finM 2 (s__law_is))
theorem G__law_is {P : Program} {w : World} {K : PySem.W.Frag} {mg : Str → Option Value} {base : Heap} (c : Cx K mg base) : FnA P w K mg base (TT K) CS 1 d46 ["told", "due"] m__law_is :=
  fnA (c.d.def_ 28) rfl rfl sc__law_is (fun _ _ _ _ _ _ us h => match us, h with | [_, _], _ => rfl) fun f cdv C A outer s H E ρ hcd fx gd =>
    (ss_one (s_ret (e_cmp (or_eq fx) om_eq (e_callB false (call_reprD fx) om_repr rfl (c.free 56) boot_repr (a_cons (e_var (pv 0)) a_nil)) (e_callB false (call_reprD fx) om_repr rfl (c.free 56) boot_repr (a_cons (e_var (pv 1)) a_nil)) rfl)))
/-! _law_other -/
theorem sc__law_other : FnScope ["well", "parts", "traits", "layers", "flags", "end", "way", "at", "name", "variants", "off", "sticky", "to", "layer", "trait", "values"] ["well", "parts"] d53.scope := ⟨rfl, rfl, rfl, by decide +kernel, rfl, by decide +kernel, by decide +kernel⟩
noncomputable def s__law_other : SM :=
    (mSeq (mAsg (mVar 1) (gmTup 4 (gmCons (gmName 2) (gmCons (gmName 3) (gmCons (gmName 4) (gmCons (gmName 5) gmNil))))))
    (mSeq (mPar 6 7 (mCons (mCall m__law_draw (mCons (mVar 0) (mCons (mC (.int 6)) mNil))) (mCons (mCall m__law_draw (mCons (mVar 0) (mCons (mCB false gLen (mCons (mVar 4) mNil)) mNil))) mNil)))
    (mSeq (mAsg (mBin false gIx (mVar 4) (mVar 7)) (gmTup 4 (gmCons (gmName 8) (gmCons (gmName 9) (gmCons (gmName 10) (gmCons (gmName 11) gmNil))))))
    (mSeq (mIfS (mAndT (mB (mBin false gEq (mVar 6) (mC (.int 0)))) (mB (mBin false gNe (mVar 3) (mTup mNil)))) (mSeq (mSet 12 (mCall m__law_draw (mCons (mVar 0) (mCons (mCB false gLen (mCons (mVar 3) mNil)) mNil))))
    (mSeq (mSet 13 (mTup (mCons (mBin false gIx (mBin false gIx (mVar 3) (mVar 12)) (mC (.int 0))) (mCons (mBin false gAdd (mC (.int 1)) (mCall m__law_draw (mCons (mVar 0) (mCons (mC (.int 99)) mNil)))) (mCons (mCall m__law_draw (mCons (mVar 0) (mCons (mC (.int 100)) mNil))) mNil)))))
    (mRet (mTup (mCons (mVar 2) (mCons (mBin false gAdd (mBin false gAdd (mSl false (mVar 3) mONone (mOSome (mVar 12))) (mTup (mCons (mVar 13) mNil))) (mSl false (mVar 3) (mOSome (mBin false gAdd (mVar 12) (mC (.int 1)))) mONone)) (mCons (mVar 4) (mCons (mVar 5) mNil)))))))) mSkip)
    (mSeq (mIfS (mB (mBin false gEq (mVar 6) (mC (.int 1)))) (mRet (mTup (mCons (mVar 2) (mCons (mVar 3) (mCons (mVar 4) (mCons (mCB false gMin2 (mCons (mC (.int 20)) (mCons (mBin false gAdd (mVar 5) (mC (.int 1))) mNil))) mNil)))))) mSkip)
    (mSeq (mIfS (mB (mBin false gEq (mVar 6) (mC (.int 2)))) (mSet 10 (mCall m__law_of (mCons (mVar 0) (mCons (mVar 9) mNil)))) mSkip)
    (mSeq (mIfS (mB (mBin false gEq (mVar 6) (mC (.int 3)))) (mSet 9 (mRev false (mVar 9))) mSkip)
    (mSeq (mIfS (mB (mBin false gEq (mVar 6) (mC (.int 4)))) (mSet 11 (mC (.int 0))) mSkip)
    (mSeq (mIfS (mAndT (mB (mBin false gEq (mVar 6) (mC (.int 5)))) (mB (mBin false gNe (mVar 2) (mTup mNil)))) (mSeq (mAsg (mBin false gIx (mVar 2) (mNeg (mC (.int 1)))) (gmTup 2 (gmCons (gmName 14) (gmCons (gmName 15) gmNil))))
    (mRet (mTup (mCons (mBin false gAdd (mSl false (mVar 2) mONone (mOSome (mNeg (mC (.int 1))))) (mTup (mCons (mTup (mCons (mVar 14) (mCons (mBin false gAdd (mSl false (mVar 15) mONone (mOSome (mNeg (mC (.int 1))))) (mTup (mCons (mBin false gAdd (mSl false (mBin false gIx (mVar 15) (mNeg (mC (.int 1)))) mONone (mOSome (mC (.int 7)))) (mC (.str "z"))) mNil))) mNil))) mNil))) (mCons (mVar 3) (mCons (mVar 4) (mCons (mVar 5) mNil))))))) mSkip)
    (mRet (mTup (mCons (mVar 2) (mCons (mVar 3) (mCons (mBin false gAdd (mBin false gAdd (mSl false (mVar 4) mONone (mOSome (mVar 7))) (mTup (mCons (mTup (mCons (mVar 8) (mCons (mVar 9) (mCons (mVar 10) (mCons (mVar 11) mNil))))) mNil))) (mSl false (mVar 4) (mOSome (mBin false gAdd (mVar 7) (mC (.int 1)))) mONone)) (mCons (mVar 5) mNil)))))))))))))))
noncomputable def m__law_other : FM := frzM (finM 16 (s__law_other))
theorem G__law_other {P : Program} {w : World} {K : PySem.W.Frag} {mg : Str → Option Value} {base : Heap} (c : Cx K mg base) : FnA P w K mg base (TT K) CS 3 d53 ["well", "parts"] m__law_other :=
  fnA (c.d.def_ 29) rfl rfl sc__law_other (fun _ _ _ _ _ _ us h => match us, h with | [_, _], _ => rfl) fun f cdv C A outer s H E ρ hcd fx gd =>
    (ss_cons (s_asg (e_var (pv 1)) (g_tup fx (g_cons (g_name (i := 2) (pg_name fx.nd rfl (by first | exact Or.inl rfl | exact Or.inr rfl))) (g_cons (g_name (i := 3) (pg_name fx.nd rfl (by first | exact Or.inl rfl | exact Or.inr rfl))) (g_cons (g_name (i := 4) (pg_name fx.nd rfl (by first | exact Or.inl rfl | exact Or.inr rfl))) (g_cons (g_name (i := 5) (pg_name fx.nd rfl (by first | exact Or.inl rfl | exact Or.inr rfl))) g_nil))))))
    (ss_cons (s_par (ps_par (i := 6) (j := 7) fx.calm fx.nd rfl rfl (by decide) rfl rfl (a_cons (e_callG fx ((G__law_draw c).g (c.glo 2)) (by decide) rfl (len_cons (len_cons (len_nil rfl))) (a_cons (e_var (pv 0)) (a_cons e_int a_nil))) (a_cons (e_callG fx ((G__law_draw c).g (c.glo 2)) (by decide) rfl (len_cons (len_cons (len_nil rfl))) (a_cons (e_var (pv 0)) (a_cons (e_callB false call_len om_len rfl (c.free 3) boot_len (a_cons (e_var (pv 4)) a_nil)) a_nil))) a_nil)) (by first | rfl | kernel_rfl)))
    (ss_cons (s_asg (e_ix (e_var (pv 4)) (e_var (pv 7)) (fun _ _ => rfl)) (g_tup fx (g_cons (g_name (i := 8) (pg_name fx.nd rfl (by first | exact Or.inl rfl | exact Or.inr rfl))) (g_cons (g_name (i := 9) (pg_name fx.nd rfl (by first | exact Or.inl rfl | exact Or.inr rfl))) (g_cons (g_name (i := 10) (pg_name fx.nd rfl (by first | exact Or.inl rfl | exact Or.inr rfl))) (g_cons (g_name (i := 11) (pg_name fx.nd rfl (by first | exact Or.inl rfl | exact Or.inr rfl))) g_nil))))))
    (ss_cons (s_if (PW.pt (t_and (t_cmp (or_eq fx) om_eq (e_var (pv 6)) e_int rfl) (t_and1 (t_cmp (or_ne fx) om_ne (e_var (pv 3)) (e_tup a_nil) rfl)))) (ss_cons (s_set (ps_set (i := 12) fx.nd rfl (by first | exact Or.inl rfl | exact Or.inr rfl) (e_callG fx ((G__law_draw c).g (c.glo 2)) (by decide) rfl (len_cons (len_cons (len_nil rfl))) (a_cons (e_var (pv 0)) (a_cons (e_callB false call_len om_len rfl (c.free 3) boot_len (a_cons (e_var (pv 3)) a_nil)) a_nil)))))
    (ss_cons (s_set (ps_set (i := 13) fx.nd rfl (by first | exact Or.inl rfl | exact Or.inr rfl) (e_tup (a_cons (e_ix (e_ix (e_var (pv 3)) (e_var (pv 12)) (fun _ _ => rfl)) e_int (fun _ _ => rfl)) (a_cons (e_bin false or_add om_add e_int (e_callG fx ((G__law_draw c).g (c.glo 2)) (by decide) rfl (len_cons (len_cons (len_nil rfl))) (a_cons (e_var (pv 0)) (a_cons e_int a_nil)))) (a_cons (e_callG fx ((G__law_draw c).g (c.glo 2)) (by decide) rfl (len_cons (len_cons (len_nil rfl))) (a_cons (e_var (pv 0)) (a_cons e_int a_nil))) a_nil))))))
    (ss_one (s_ret (e_tup (a_cons (e_var (pv 2)) (a_cons (e_bin false or_add om_add (e_bin false or_add om_add (e_sl false (e_var (pv 3)) o_none (o_some (e_var (pv 12)))) (e_tup (a_cons (e_var (pv 13)) a_nil))) (e_sl false (e_var (pv 3)) (o_some (e_bin false or_add om_add (e_var (pv 12)) e_int)) o_none)) (a_cons (e_var (pv 4)) (a_cons (e_var (pv 5)) a_nil))))))))) ss_nil)
    (ss_cons (s_if (t_cmp (or_eq fx) om_eq (e_var (pv 6)) e_int rfl) (ss_one (s_ret (e_tup (a_cons (e_var (pv 2)) (a_cons (e_var (pv 3)) (a_cons (e_var (pv 4)) (a_cons (e_callB false (call_min2 fx.calm) om_min2 rfl (c.free 57) boot_min (a_cons e_int (a_cons (e_bin false or_add om_add (e_var (pv 5)) e_int) a_nil))) a_nil))))))) ss_nil)
    (ss_cons (s_if (t_cmp (or_eq fx) om_eq (e_var (pv 6)) e_int rfl) (ss_one (s_set (ps_set (i := 10) fx.nd rfl (by first | exact Or.inl rfl | exact Or.inr rfl) (e_callG fx ((G__law_of c).g (c.glo 7)) (by decide) rfl (len_cons (len_cons (len_nil rfl))) (a_cons (e_var (pv 0)) (a_cons (e_var (pv 9)) a_nil)))))) ss_nil)
    (ss_cons (s_if (t_cmp (or_eq fx) om_eq (e_var (pv 6)) e_int rfl) (ss_one (s_set (ps_set (i := 9) fx.nd rfl (by first | exact Or.inl rfl | exact Or.inr rfl) (e_rev false (e_var (pv 9)))))) ss_nil)
    (ss_cons (s_if (t_cmp (or_eq fx) om_eq (e_var (pv 6)) e_int rfl) (ss_one (s_set (ps_set (i := 11) fx.nd rfl (by first | exact Or.inl rfl | exact Or.inr rfl) e_int))) ss_nil)
    (ss_cons (s_if (PW.pt (t_and (t_cmp (or_eq fx) om_eq (e_var (pv 6)) e_int rfl) (t_and1 (t_cmp (or_ne fx) om_ne (e_var (pv 2)) (e_tup a_nil) rfl)))) (ss_cons (s_asg (e_ix (e_var (pv 2)) (e_neg e_int) (fun _ _ => rfl)) (g_tup fx (g_cons (g_name (i := 14) (pg_name fx.nd rfl (by first | exact Or.inl rfl | exact Or.inr rfl))) (g_cons (g_name (i := 15) (pg_name fx.nd rfl (by first | exact Or.inl rfl | exact Or.inr rfl))) g_nil))))
    (ss_one (s_ret (e_tup (a_cons (e_bin false or_add om_add (e_sl false (e_var (pv 2)) o_none (o_some (e_neg e_int))) (e_tup (a_cons (e_tup (a_cons (e_var (pv 14)) (a_cons (e_bin false or_add om_add (e_sl false (e_var (pv 15)) o_none (o_some (e_neg e_int))) (e_tup (a_cons (e_bin false or_add om_add (e_sl false (e_ix (e_var (pv 15)) (e_neg e_int) (fun _ _ => rfl)) o_none (o_some e_int)) e_str) a_nil))) a_nil))) a_nil))) (a_cons (e_var (pv 3)) (a_cons (e_var (pv 4)) (a_cons (e_var (pv 5)) a_nil)))))))) ss_nil)
    (ss_one (s_ret (e_tup (a_cons (e_var (pv 2)) (a_cons (e_var (pv 3)) (a_cons (e_bin false or_add om_add (e_bin false or_add om_add (e_sl false (e_var (pv 4)) o_none (o_some (e_var (pv 7)))) (e_tup (a_cons (e_tup (a_cons (e_var (pv 8)) (a_cons (e_var (pv 9)) (a_cons (e_var (pv 10)) (a_cons (e_var (pv 11)) a_nil))))) a_nil))) (e_sl false (e_var (pv 4)) (o_some (e_bin false or_add om_add (e_var (pv 7)) e_int)) o_none)) (a_cons (e_var (pv 5)) a_nil))))))))))))))))
/-! Frame.__eq__ -/
theorem sc_Frame___eq__ : FnScope ["self", "other"] ["self", "other"] d31.scope := ⟨rfl, rfl, rfl, by decide +kernel, rfl, by decide +kernel, by decide +kernel⟩
noncomputable def s_Frame___eq__ : SM :=
    (mRet (mAnd (mCB false (gIsiC KCS) (mCons (mVar 1) (mCons (mC (.gl "Frame")) mNil))) (mBin false gEq (mAttr [] ["Frame"] "_parts" (mVar 0)) (mAttr [] ["Frame"] "_parts" (mVar 1)))))
noncomputable def m_Frame___eq__ : FM := frzM (finM 2 (s_Frame___eq__))
theorem G_Frame___eq__ {P : Program} {w : World} {K : PySem.W.Frag} {mg : Str → Option Value} {base : Heap} (c : Cx K mg base) : FnA P w K mg base (TT K) CS 2 d31 ["self", "other"] m_Frame___eq__ :=
  fnA (c.d.def_ 30) rfl rfl sc_Frame___eq__ (fun _ _ _ _ _ _ us h => match us, h with | [_, _], _ => rfl) fun f cdv C A outer s H E ρ hcd fx gd =>
    (ss_one (s_ret (e_and (e_callB false call_isi (om_isiC (KOK c)) rfl (c.free 14) boot_isinstance (a_cons (e_var (pv 1)) (a_cons (e_gl rfl (c.glo 11)) a_nil))) (e_one (e_cmp (or_eq fx) om_eq (e_attr (CS := CS) (j := 0) (pt := []) (fc := ["Frame"]) fx (by decide) (e_var (pv 0)) all_nil (all_cons ⟨_, c.glo 11, c.cls 53, c.noat 54⟩ all_nil)) (e_attr (CS := CS) (j := 0) (pt := []) (fc := ["Frame"]) fx (by decide) (e_var (pv 1)) all_nil (all_cons ⟨_, c.glo 11, c.cls 53, c.noat 54⟩ all_nil)) rfl)))))
/-! _law_bucket -/
theorem sc__law_bucket : FnScope ["frame", "name", "number", "layer", "each"] ["frame", "name", "number"] d51.scope := ⟨rfl, rfl, rfl, by decide +kernel, rfl, by decide +kernel, by decide +kernel⟩
noncomputable def s__law_bucket : SM :=
    (mSeq (mSet 3 (mBin false gIx (mLc false (iMA (mBin false gIx (mVar 0) (mC (.int 1)))) (gmName 4) (mB (mBin false gEq (mBin false gIx (mVar 4) (mC (.int 0))) (mVar 1))) (mVar 4) [4]) (mC (.int 0))))
    (mRet (mBin false gSub (mBin false gAdd (mBin false gMulA (mBin false gIx (mVar 3) (mC (.int 1))) (mVar 2)) (mBin false gIx (mVar 3) (mC (.int 2)))) (mBin false gMulA (mBin false gDiv (mBin false gAdd (mBin false gMulA (mBin false gIx (mVar 3) (mC (.int 1))) (mVar 2)) (mBin false gIx (mVar 3) (mC (.int 2)))) (mC (.int 100))) (mC (.int 100))))))
noncomputable def m__law_bucket : FM := frzM (finM 5 (s__law_bucket))
theorem G__law_bucket {P : Program} {w : World} {K : PySem.W.Frag} {mg : Str → Option Value} {base : Heap} (c : Cx K mg base) : FnA P w K mg base (TT K) CS 1 d51 ["frame", "name", "number"] m__law_bucket :=
  fnA (c.d.def_ 31) rfl rfl sc__law_bucket (fun _ _ _ _ _ _ us h => match us, h with | [_, _, _], _ => rfl) fun f cdv C A outer s H E ρ hcd fx gd =>
    (ss_cons (s_set (ps_set (i := 3) fx.nd rfl (by first | exact Or.inl rfl | exact Or.inr rfl) (e_ix (e_lc false fx (i_seq (e_ix (e_var (pv 0)) e_int (fun _ _ => rfl))) (blkOk_by (own := [("each", 4)]) (by rfl)) (fun _ _ _ _ _ => (g_name (i := 4) (pg_name (FX.blk fx).nd rfl (by first | exact Or.inl rfl | exact Or.inr rfl)))) (fun _ _ _ _ _ => (ts_one (t_cmp (or_eq (FX.blk fx)) om_eq (e_ix (e_var (pv 4)) e_int (fun _ _ => rfl)) (e_var (pv 1)) rfl))) (fun _ _ _ _ _ => (e_var (pv 4))) (by decide)) e_int (fun _ _ => rfl))))
    (ss_one (s_ret (e_bin false op_sub om_sub (e_bin false or_add om_add (e_bin false or_mulA om_mulA (e_ix (e_var (pv 3)) e_int (fun _ _ => rfl)) (e_var (pv 2))) (e_ix (e_var (pv 3)) e_int (fun _ _ => rfl))) (e_bin false or_mulA om_mulA (e_bin false op_fdiv om_div (e_bin false or_add om_add (e_bin false or_mulA om_mulA (e_ix (e_var (pv 3)) e_int (fun _ _ => rfl)) (e_var (pv 2))) (e_ix (e_var (pv 3)) e_int (fun _ _ => rfl))) e_int) e_int)))))
/-! Frame.traits -/
theorem sc_Frame_traits : FnScope ["self"] ["self"] d26.scope := ⟨rfl, rfl, rfl, by decide +kernel, rfl, by decide +kernel, by decide +kernel⟩
noncomputable def s_Frame_traits : SM :=
    (mRet (mBin false gIx (mAttr [] ["Frame"] "_parts" (mVar 0)) (mC (.int 0))))
noncomputable def m_Frame_traits : FM := frzM (finM 1 (s_Frame_traits))
theorem PG_Frame_traits {P : Program} {w : World} {K : PySem.W.Frag} {mg : Str → Option Value} {base : Heap} (c : Cx K mg base) : PropG P w K mg base (TT K) CS 2 "Frame" "traits" m_Frame_traits :=
  propG (c.prop 0).1 (c.prop 0).2 rfl (c.glo 11) (c.cls 53) sc_Frame_traits (fun _ _ _ _ _ _ us h => match us, h with | [_], _ => rfl) fun f cdv C A outer s H E ρ fx =>
    (ss_one (s_ret (e_ix (e_attr (CS := CS) (j := 0) (pt := []) (fc := ["Frame"]) fx (by decide) (e_var (pv 0)) all_nil (all_cons ⟨_, c.glo 11, c.cls 53, c.noat 54⟩ all_nil)) e_int (fun _ _ => rfl))))
/-! all_values -/
theorem sc_all_values : FnScope ["frame", "found", "_", "values", "one", "value"] ["frame"] d34.scope := ⟨rfl, rfl, rfl, by decide +kernel, rfl, by decide +kernel, by decide +kernel⟩
noncomputable def s_all_values : SM :=
    (mSeq (mSet 1 (mLst false (mCons (mTup mNil) mNil)))
    (mSeq (mFor (iMA (mAttr [("Frame", m_Frame_traits)] [] "traits" (mVar 0))) (gmTup 2 (gmCons (gmName 2) (gmCons (gmName 3) gmNil))) (mSet 1 (mLc2 false (iMA (mVar 1)) (gmName 4) mYes (iMA (mVar 3)) (gmName 5) mYes (mTup (mStar (mVar 4) (mCons (mVar 5) mNil))) [4, 5] [5])))
    (mRet (mVar 1))))
noncomputable def m_all_values : FM := frzM (finM 6 (s_all_values))
theorem G_all_values {P : Program} {w : World} {K : PySem.W.Frag} {mg : Str → Option Value} {base : Heap} (c : Cx K mg base) : FnA P w K mg base (TT K) CS 4 d34 ["frame"] m_all_values :=
  fnA (c.d.def_ 32) rfl rfl sc_all_values (fun _ _ _ _ _ _ us h => match us, h with | [_], _ => rfl) fun f cdv C A outer s H E ρ hcd fx gd =>
    (ss_cons (s_set (ps_set (i := 1) fx.nd rfl (by first | exact Or.inl rfl | exact Or.inr rfl) (e_lst false (a_cons (e_tup a_nil) a_nil))))
    (ss_cons (s_for fx (i_seq (e_attr (CS := CS) (j := 2) (pt := [("Frame", m_Frame_traits)]) (fc := []) fx (by decide) (e_var (pv 0)) (all_cons (PropG.mono (PG_Frame_traits c) (by decide)) all_nil) all_nil)) (g_tup fx (g_cons (g_name (i := 2) (pg_name fx.nd rfl (by first | exact Or.inl rfl | exact Or.inr rfl))) (g_cons (g_name (i := 3) (pg_name fx.nd rfl (by first | exact Or.inl rfl | exact Or.inr rfl))) g_nil))) (ss_one (s_setLc2 false (i := 1) fx rfl rfl rfl (i_seq (e_var (pv 1))) (blkOk_by (own := [("one", 4), ("value", 5)]) (by rfl)) (by decide) (fun _ _ _ _ _ => (g_name (i := 4) (pg_name (FX.blk fx).nd rfl (by first | exact Or.inl rfl | exact Or.inr rfl)))) (fun _ _ _ _ _ => ts_nil) (fun _ _ _ _ _ => (i_seq (e_var (pv 3)))) (fun _ _ _ _ _ => (g_name (i := 5) (pg_name (FX.blk fx).nd rfl (by first | exact Or.inl rfl | exact Or.inr rfl)))) (fun _ _ _ _ _ => ts_nil) (fun _ _ _ _ _ => (e_tup (a_star (e_var (pv 4)) (a_cons (e_var (pv 5)) a_nil)))) (by decide) (by decide))))
    (ss_one (s_ret (e_var (pv 1))))))
/-! all_askers -/
theorem sc_all_askers : FnScope ["frame", "groups", "number", "values"] ["frame"] d35.scope := ⟨rfl, rfl, rfl, by decide +kernel, rfl, by decide +kernel, by decide +kernel⟩
noncomputable def s_all_askers : SM :=
    (mSeq (mSet 1 (mCall m_all_values (mCons (mVar 0) mNil)))
    (mRet (mLc2 false (iMR1 (mCons (mC (.int 100)) mNil)) (gmName 2) mYes (iMA (mVar 1)) (gmName 3) mYes (mTup (mCons (mVar 2) (mCons (mVar 3) mNil))) [2, 3] [3])))
noncomputable def m_all_askers : FM := frzM (finM 4 (s_all_askers))
theorem G_all_askers {P : Program} {w : World} {K : PySem.W.Frag} {mg : Str → Option Value} {base : Heap} (c : Cx K mg base) : FnA P w K mg base (TT K) CS 5 d35 ["frame"] m_all_askers :=
  fnA (c.d.def_ 33) rfl rfl sc_all_askers (fun _ _ _ _ _ _ us h => match us, h with | [_], _ => rfl) fun f cdv C A outer s H E ρ hcd fx gd =>
    (ss_cons (s_set (ps_set (i := 1) fx.nd rfl (by first | exact Or.inl rfl | exact Or.inr rfl) (e_callG fx ((G_all_values c).g (c.glo 58)) (by decide) rfl (len_cons (len_nil rfl)) (a_cons (e_var (pv 0)) a_nil))))
    (ss_one (s_ret (e_lc2 false fx (i_range1 rfl (c.free 5) (a_cons (e_gint (c.int 38) rfl) a_nil)) (blkOk_by (own := [("number", 2), ("values", 3)]) (by rfl)) (by decide) (fun _ _ _ _ _ => (g_name (i := 2) (pg_name (FX.blk fx).nd rfl (by first | exact Or.inl rfl | exact Or.inr rfl)))) (fun _ _ _ _ _ => ts_nil) (fun _ _ _ _ _ => (i_seq (e_var (pv 1)))) (fun _ _ _ _ _ => (g_name (i := 3) (pg_name (FX.blk fx).nd rfl (by first | exact Or.inl rfl | exact Or.inr rfl)))) (fun _ _ _ _ _ => ts_nil) (fun _ _ _ _ _ => (e_tup (a_cons (e_var (pv 2)) (a_cons (e_var (pv 3)) a_nil)))) (by decide) (by decide)))))
/-! Frame.askers -/
theorem sc_Frame_askers : FnScope ["self"] ["self"] d32.scope := ⟨rfl, rfl, rfl, by decide +kernel, rfl, by decide +kernel, by decide +kernel⟩
noncomputable def s_Frame_askers : SM :=
    (mRet (mCB false gTuple (mCons (mCall m_all_askers (mCons (mVar 0) mNil)) mNil)))
noncomputable def m_Frame_askers : FM := frzM (finM 1 (s_Frame_askers))
theorem G_Frame_askers {P : Program} {w : World} {K : PySem.W.Frag} {mg : Str → Option Value} {base : Heap} (c : Cx K mg base) : FnA P w K mg base (TT K) CS 6 d32 ["self"] m_Frame_askers :=
  fnA (c.d.def_ 34) rfl rfl sc_Frame_askers (fun _ _ _ _ _ _ us h => match us, h with | [_], _ => rfl) fun f cdv C A outer s H E ρ hcd fx gd =>
    (ss_one (s_ret (e_callTy false call_tuple_of om_tuple rfl (c.free 13) boot_tuple (a_cons (e_callG fx ((G_all_askers c).g (c.glo 59)) (by decide) rfl (len_cons (len_nil rfl)) (a_cons (e_var (pv 0)) a_nil)) a_nil))))
/-! _law_askers -/
theorem sc__law_askers : FnScope ["frame", "rows", "name", "values", "more", "row", "found", "number", "value"] ["frame"] d50.scope := ⟨rfl, rfl, rfl, by decide +kernel, rfl, by decide +kernel, by decide +kernel⟩
noncomputable def s__law_askers : SM :=
    (mSeq (mSet 1 (mLst false (mCons (mTup mNil) mNil)))
    (mSeq (mFor (iMA (mBin false gIx (mVar 0) (mC (.int 0)))) (gmTup 2 (gmCons (gmName 2) (gmCons (gmName 3) gmNil))) (mSeq (mSet 4 (mLst false mNil))
    (mSeq (mFor (iMA (mVar 1)) (gmName 5) (mSet 4 (mBin false gAdd (mVar 4) (mLc false (iMA (mVar 3)) (gmName 8) mYes (mBin false gAdd (mVar 5) (mTup (mCons (mVar 8) mNil))) [8]))))
    (mSet 1 (mVar 4)))))
    (mSeq (mSet 6 (mLst false mNil))
    (mSeq (mFor (iMR1 (mCons (mC (.int 100)) mNil)) (gmName 7) (mSet 6 (mBin false gAdd (mVar 6) (mLc false (iMA (mVar 1)) (gmName 5) mYes (mTup (mCons (mVar 7) (mCons (mVar 5) mNil))) [5]))))
    (mRet (mVar 6))))))
noncomputable def m__law_askers : FM := frzM (finM 9 (s__law_askers))
theorem G__law_askers {P : Program} {w : World} {K : PySem.W.Frag} {mg : Str → Option Value} {base : Heap} (c : Cx K mg base) : FnA P w K mg base (TT K) CS 1 d50 ["frame"] m__law_askers :=
  fnA (c.d.def_ 35) rfl rfl sc__law_askers (fun _ _ _ _ _ _ us h => match us, h with | [_], _ => rfl) fun f cdv C A outer s H E ρ hcd fx gd =>
    (ss_cons (s_set (ps_set (i := 1) fx.nd rfl (by first | exact Or.inl rfl | exact Or.inr rfl) (e_lst false (a_cons (e_tup a_nil) a_nil))))
    (ss_cons (s_for fx (i_seq (e_ix (e_var (pv 0)) e_int (fun _ _ => rfl))) (g_tup fx (g_cons (g_name (i := 2) (pg_name fx.nd rfl (by first | exact Or.inl rfl | exact Or.inr rfl))) (g_cons (g_name (i := 3) (pg_name fx.nd rfl (by first | exact Or.inl rfl | exact Or.inr rfl))) g_nil))) (ss_cons (s_set (ps_set (i := 4) fx.nd rfl (by first | exact Or.inl rfl | exact Or.inr rfl) (e_lst false a_nil)))
    (ss_cons (s_for fx (i_seq (e_var (pv 1))) (g_name (i := 5) (pg_name fx.nd rfl (by first | exact Or.inl rfl | exact Or.inr rfl))) (ss_one (s_set (ps_set (i := 4) fx.nd rfl (by first | exact Or.inl rfl | exact Or.inr rfl) (e_bin false or_add om_add (e_var (pv 4)) (e_lc false fx (i_seq (e_var (pv 3))) (blkOk_by (own := [("value", 8)]) (by rfl)) (fun _ _ _ _ _ => (g_name (i := 8) (pg_name (FX.blk fx).nd rfl (by first | exact Or.inl rfl | exact Or.inr rfl)))) (fun _ _ _ _ _ => ts_nil) (fun _ _ _ _ _ => (e_bin false or_add om_add (e_var (pv 5)) (e_tup (a_cons (e_var (pv 8)) a_nil)))) (by decide)))))))
    (ss_one (s_set (ps_set (i := 1) fx.nd rfl (by first | exact Or.inl rfl | exact Or.inr rfl) (e_var (pv 4))))))))
    (ss_cons (s_set (ps_set (i := 6) fx.nd rfl (by first | exact Or.inl rfl | exact Or.inr rfl) (e_lst false a_nil)))
    (ss_cons (s_for fx (i_range1 rfl (c.free 5) (a_cons e_int a_nil)) (g_name (i := 7) (pg_name fx.nd rfl (by first | exact Or.inl rfl | exact Or.inr rfl))) (ss_one (s_set (ps_set (i := 6) fx.nd rfl (by first | exact Or.inl rfl | exact Or.inr rfl) (e_bin false or_add om_add (e_var (pv 6)) (e_lc false fx (i_seq (e_var (pv 1))) (blkOk_by (own := [("row", 5)]) (by rfl)) (fun _ _ _ _ _ => (g_name (i := 5) (pg_name (FX.blk fx).nd rfl (by first | exact Or.inl rfl | exact Or.inr rfl)))) (fun _ _ _ _ _ => ts_nil) (fun _ _ _ _ _ => (e_tup (a_cons (e_var (pv 7)) (a_cons (e_var (pv 5)) a_nil)))) (by decide)))))))
    (ss_one (s_ret (e_var (pv 6))))))))
/-! Frame.parts -/
theorem sc_Frame_parts : FnScope ["self"] ["self"] d30.scope := ⟨rfl, rfl, rfl, by decide +kernel, rfl, by decide +kernel, by decide +kernel⟩
noncomputable def s_Frame_parts : SM :=
    (mRet (mAttr [] ["Frame"] "_parts" (mVar 0)))
noncomputable def m_Frame_parts : FM := frzM (finM 1 (s_Frame_parts))
theorem PG_Frame_parts {P : Program} {w : World} {K : PySem.W.Frag} {mg : Str → Option Value} {base : Heap} (c : Cx K mg base) : PropG P w K mg base (TT K) CS 2 "Frame" "parts" m_Frame_parts :=
  propG (c.prop 1).1 (c.prop 1).2 rfl (c.glo 11) (c.cls 53) sc_Frame_parts (fun _ _ _ _ _ _ us h => match us, h with | [_], _ => rfl) fun f cdv C A outer s H E ρ fx =>
    (ss_one (s_ret (e_attr (CS := CS) (j := 0) (pt := []) (fc := ["Frame"]) fx (by decide) (e_var (pv 0)) all_nil (all_cons ⟨_, c.glo 11, c.cls 53, c.noat 54⟩ all_nil))))
/-! Frame.layers -/
theorem sc_Frame_layers : FnScope ["self"] ["self"] d27.scope := ⟨rfl, rfl, rfl, by decide +kernel, rfl, by decide +kernel, by decide +kernel⟩
noncomputable def s_Frame_layers : SM :=
    (mRet (mBin false gIx (mAttr [] ["Frame"] "_parts" (mVar 0)) (mC (.int 1))))
noncomputable def m_Frame_layers : FM := frzM (finM 1 (s_Frame_layers))
theorem PG_Frame_layers {P : Program} {w : World} {K : PySem.W.Frag} {mg : Str → Option Value} {base : Heap} (c : Cx K mg base) : PropG P w K mg base (TT K) CS 2 "Frame" "layers" m_Frame_layers :=
  propG (c.prop 2).1 (c.prop 2).2 rfl (c.glo 11) (c.cls 53) sc_Frame_layers (fun _ _ _ _ _ _ us h => match us, h with | [_], _ => rfl) fun f cdv C A outer s H E ρ fx =>
    (ss_one (s_ret (e_ix (e_attr (CS := CS) (j := 0) (pt := []) (fc := ["Frame"]) fx (by decide) (e_var (pv 0)) all_nil (all_cons ⟨_, c.glo 11, c.cls 53, c.noat 54⟩ all_nil)) e_int (fun _ _ => rfl))))
/-! check_layer -/
theorem sc_check_layer : FnScope ["frame", "value", "layer"] ["frame", "value"] d39.scope := ⟨rfl, rfl, rfl, by decide +kernel, rfl, by decide +kernel, by decide +kernel⟩
noncomputable def s_check_layer : SM :=
    (mIfS (mNotT (mT (mCall m_is_one_of (mCons (mVar 1) (mCons (mLc false (iMA (mAttr [("Frame", m_Frame_layers)] [] "layers" (mVar 0))) (gmName 2) mYes (mBin false gIx (mVar 2) (mC (.int 0))) [2]) mNil))))) mNever mSkip)
noncomputable def m_check_layer : FM := frzM (finM 3 (s_check_layer))
theorem G_check_layer {P : Program} {w : World} {K : PySem.W.Frag} {mg : Str → Option Value} {base : Heap} (c : Cx K mg base) : FnA P w K mg base (TT K) CS 4 d39 ["frame", "value"] m_check_layer :=
  fnA (c.d.def_ 36) rfl rfl sc_check_layer (fun _ _ _ _ _ _ us h => match us, h with | [_, _], _ => rfl) fun f cdv C A outer s H E ρ hcd fx gd =>
    (ss_one (s_if (t_not (t_truth (e_callG fx ((G_is_one_of c).g (c.glo 42)) (by decide) rfl (len_cons (len_cons (len_nil rfl))) (a_cons (e_var (pv 1)) (a_cons (e_lc false fx (i_seq (e_attr (CS := CS) (j := 2) (pt := [("Frame", m_Frame_layers)]) (fc := []) fx (by decide) (e_var (pv 0)) (all_cons (PropG.mono (PG_Frame_layers c) (by decide)) all_nil) all_nil)) (blkOk_by (own := [("layer", 2)]) (by rfl)) (fun _ _ _ _ _ => (g_name (i := 2) (pg_name (FX.blk fx).nd rfl (by first | exact Or.inl rfl | exact Or.inr rfl)))) (fun _ _ _ _ _ => ts_nil) (fun _ _ _ _ _ => (e_ix (e_var (pv 2)) e_int (fun _ _ => rfl))) (by decide)) a_nil))))) (ss_one s_never) ss_nil))
/-! bucket_of -/
theorem sc_bucket_of : FnScope ["frame", "name", "number", "_", "times", "more", "layer"] ["frame", "name", "number"] d36.scope := ⟨rfl, rfl, rfl, by decide +kernel, rfl, by decide +kernel, by decide +kernel⟩
noncomputable def s_bucket_of : SM :=
    (mSeq (mAsg (mBin false gIx (mLc false (iMA (mAttr [("Frame", m_Frame_layers)] [] "layers" (mVar 0))) (gmName 6) (mB (mBin false gEq (mBin false gIx (mVar 6) (mC (.int 0))) (mVar 1))) (mVar 6) [6]) (mC (.int 0))) (gmTup 3 (gmCons (gmName 3) (gmCons (gmName 4) (gmCons (gmName 5) gmNil)))))
    (mRet (mBin false gMod (mBin false gAdd (mBin false gMulA (mVar 4) (mVar 2)) (mVar 5)) (mC (.int 100)))))
noncomputable def m_bucket_of : FM := frzM (finM 7 (s_bucket_of))
theorem G_bucket_of {P : Program} {w : World} {K : PySem.W.Frag} {mg : Str → Option Value} {base : Heap} (c : Cx K mg base) : FnA P w K mg base (TT K) CS 4 d36 ["frame", "name", "number"] m_bucket_of :=
  fnA (c.d.def_ 37) rfl rfl sc_bucket_of (fun _ _ _ _ _ _ us h => match us, h with | [_, _, _], _ => rfl) fun f cdv C A outer s H E ρ hcd fx gd =>
    (ss_cons (s_asg (e_ix (e_lc false fx (i_seq (e_attr (CS := CS) (j := 2) (pt := [("Frame", m_Frame_layers)]) (fc := []) fx (by decide) (e_var (pv 0)) (all_cons (PropG.mono (PG_Frame_layers c) (by decide)) all_nil) all_nil)) (blkOk_by (own := [("layer", 6)]) (by rfl)) (fun _ _ _ _ _ => (g_name (i := 6) (pg_name (FX.blk fx).nd rfl (by first | exact Or.inl rfl | exact Or.inr rfl)))) (fun _ _ _ _ _ => (ts_one (t_cmp (or_eq (FX.blk fx)) om_eq (e_ix (e_var (pv 6)) e_int (fun _ _ => rfl)) (e_var (pv 1)) rfl))) (fun _ _ _ _ _ => (e_var (pv 6))) (by decide)) e_int (fun _ _ => rfl)) (g_tup fx (g_cons (g_name (i := 3) (pg_name fx.nd rfl (by first | exact Or.inl rfl | exact Or.inr rfl))) (g_cons (g_name (i := 4) (pg_name fx.nd rfl (by first | exact Or.inl rfl | exact Or.inr rfl))) (g_cons (g_name (i := 5) (pg_name fx.nd rfl (by first | exact Or.inl rfl | exact Or.inr rfl))) g_nil)))))
    (ss_one (s_ret (e_bin false op_mod om_mod (e_bin false or_add om_add (e_bin false or_mulA om_mulA (e_var (pv 4)) (e_var (pv 2))) (e_var (pv 5))) (e_gint (c.int 38) rfl)))))
/-! Frame.bucket -/
theorem sc_Frame_bucket : FnScope ["self", "layer", "id_number"] ["self", "layer", "id_number"] d33.scope := ⟨rfl, rfl, rfl, by decide +kernel, rfl, by decide +kernel, by decide +kernel⟩
noncomputable def s_Frame_bucket : SM :=
    (mSeq (mExpr (mCall m_check_layer (mCons (mVar 0) (mCons (mVar 1) mNil))))
    (mSeq (mExpr (mCall m_check_number (mCons (mVar 2) (mCons (mC (.int 0)) (mCons (mBin false gSub (mC (.int 100)) (mC (.int 1))) mNil)))))
    (mRet (mCall m_bucket_of (mCons (mVar 0) (mCons (mVar 1) (mCons (mVar 2) mNil)))))))
noncomputable def m_Frame_bucket : FM := frzM (finM 3 (s_Frame_bucket))
theorem G_Frame_bucket {P : Program} {w : World} {K : PySem.W.Frag} {mg : Str → Option Value} {base : Heap} (c : Cx K mg base) : FnA P w K mg base (TT K) CS 5 d33 ["self", "layer", "id_number"] m_Frame_bucket :=
  fnA (c.d.def_ 38) rfl rfl sc_Frame_bucket (fun _ _ _ _ _ _ us h => match us, h with | [_, _, _], _ => rfl) fun f cdv C A outer s H E ρ hcd fx gd =>
    (ss_cons (s_expr (e_callG fx ((G_check_layer c).g (c.glo 60)) (by decide) rfl (len_cons (len_cons (len_nil rfl))) (a_cons (e_var (pv 0)) (a_cons (e_var (pv 1)) a_nil))))
    (ss_cons (s_expr (e_callG fx ((G_check_number c).g (c.glo 51)) (by decide) rfl (len_cons (len_cons (len_cons (len_nil rfl)))) (a_cons (e_var (pv 2)) (a_cons e_int (a_cons (e_bin false op_sub om_sub (e_gint (c.int 38) rfl) e_int) a_nil)))))
    (ss_one (s_ret (e_callG fx ((G_bucket_of c).g (c.glo 61)) (by decide) rfl (len_cons (len_cons (len_cons (len_nil rfl)))) (a_cons (e_var (pv 0)) (a_cons (e_var (pv 1)) (a_cons (e_var (pv 2)) a_nil))))))))
/-! check_frame -/
theorem sc_check_frame : FnScope ["value"] ["value"] d38.scope := ⟨rfl, rfl, rfl, by decide +kernel, rfl, by decide +kernel, by decide +kernel⟩
noncomputable def s_check_frame : SM :=
    (mIfS (mNotT (mT (mCB false (gIsiC KCS) (mCons (mVar 0) (mCons (mC (.gl "Frame")) mNil))))) mNever mSkip)
noncomputable def m_check_frame : FM := frzM (finM 1 (s_check_frame))
theorem G_check_frame {P : Program} {w : World} {K : PySem.W.Frag} {mg : Str → Option Value} {base : Heap} (c : Cx K mg base) : FnA P w K mg base (TT K) CS 1 d38 ["value"] m_check_frame :=
  fnA (c.d.def_ 39) rfl rfl sc_check_frame (fun _ _ _ _ _ _ us h => match us, h with | [_], _ => rfl) fun f cdv C A outer s H E ρ hcd fx gd =>
    (ss_one (s_if (t_not (t_truth (e_callB false call_isi (om_isiC (KOK c)) rfl (c.free 14) boot_isinstance (a_cons (e_var (pv 0)) (a_cons (e_gl rfl (c.glo 11)) a_nil))))) (ss_one s_never) ss_nil))
/-! is_even_by -/
theorem sc_is_even_by : FnScope ["frame", "layer", "number"] ["frame", "layer"] d37.scope := ⟨rfl, rfl, rfl, by decide +kernel, rfl, by decide +kernel, by decide +kernel⟩
noncomputable def s_is_even_by : SM :=
    (mRet (mBin false gEq (mLenSet (mLc false (iMR1 (mCons (mC (.int 100)) mNil)) (gmName 2) mYes (mCall m_bucket_of (mCons (mVar 0) (mCons (mVar 1) (mCons (mVar 2) mNil)))) [2])) (mC (.int 100))))
noncomputable def m_is_even_by : FM := frzM (finM 3 (s_is_even_by))
theorem G_is_even_by {P : Program} {w : World} {K : PySem.W.Frag} {mg : Str → Option Value} {base : Heap} (c : Cx K mg base) : FnA P w K mg base (TT K) CS 5 d37 ["frame", "layer"] m_is_even_by :=
  fnA (c.d.def_ 40) rfl rfl sc_is_even_by (fun _ _ _ _ _ _ us h => match us, h with | [_, _], _ => rfl) fun f cdv C A outer s H E ρ hcd fx gd =>
    (ss_one (s_ret (e_cmp (or_eq fx) om_eq (e_lenSet fx rfl (c.free 3) rfl (c.free 24) (e_lc false fx (i_range1 rfl (c.free 5) (a_cons (e_gint (c.int 38) rfl) a_nil)) (blkOk_by (own := [("number", 2)]) (by rfl)) (fun _ _ _ _ _ => (g_name (i := 2) (pg_name (FX.blk fx).nd rfl (by first | exact Or.inl rfl | exact Or.inr rfl)))) (fun _ _ _ _ _ => ts_nil) (fun _ _ _ _ _ => (e_callG (FX.blk fx) ((G_bucket_of c).g (c.glo 61)) (by decide) rfl (len_cons (len_cons (len_cons (len_nil rfl)))) (a_cons (e_var (pv 0)) (a_cons (e_var (pv 1)) (a_cons (e_var (pv 2)) a_nil))))) (by decide))) (e_gint (c.int 38) rfl) rfl)))
/-! is_even -/
theorem sc_is_even : FnScope ["frame", "layer"] ["frame", "layer"] d40.scope := ⟨rfl, rfl, rfl, by decide +kernel, rfl, by decide +kernel, by decide +kernel⟩
noncomputable def s_is_even : SM :=
    (mSeq (mExpr (mCall m_check_frame (mCons (mVar 0) mNil)))
    (mSeq (mExpr (mCall m_check_layer (mCons (mVar 0) (mCons (mVar 1) mNil))))
    (mRet (mCall m_is_even_by (mCons (mVar 0) (mCons (mVar 1) mNil))))))
noncomputable def m_is_even : FM := frzM (finM 2 (s_is_even))
theorem G_is_even {P : Program} {w : World} {K : PySem.W.Frag} {mg : Str → Option Value} {base : Heap} (c : Cx K mg base) : FnA P w K mg base (TT K) CS 6 d40 ["frame", "layer"] m_is_even :=
  fnA (c.d.def_ 41) rfl rfl sc_is_even (fun _ _ _ _ _ _ us h => match us, h with | [_, _], _ => rfl) fun f cdv C A outer s H E ρ hcd fx gd =>
    (ss_cons (s_expr (e_callG fx ((G_check_frame c).g (c.glo 62)) (by decide) rfl (len_cons (len_nil rfl)) (a_cons (e_var (pv 0)) a_nil)))
    (ss_cons (s_expr (e_callG fx ((G_check_layer c).g (c.glo 60)) (by decide) rfl (len_cons (len_cons (len_nil rfl))) (a_cons (e_var (pv 0)) (a_cons (e_var (pv 1)) a_nil))))
    (ss_one (s_ret (e_callG fx ((G_is_even_by c).g (c.glo 63)) (by decide) rfl (len_cons (len_cons (len_nil rfl))) (a_cons (e_var (pv 0)) (a_cons (e_var (pv 1)) a_nil)))))))
/-! Frame.flags -/
theorem sc_Frame_flags : FnScope ["self"] ["self"] d28.scope := ⟨rfl, rfl, rfl, by decide +kernel, rfl, by decide +kernel, by decide +kernel⟩
noncomputable def s_Frame_flags : SM :=
    (mRet (mBin false gIx (mAttr [] ["Frame"] "_parts" (mVar 0)) (mC (.int 2))))
noncomputable def m_Frame_flags : FM := frzM (finM 1 (s_Frame_flags))
theorem PG_Frame_flags {P : Program} {w : World} {K : PySem.W.Frag} {mg : Str → Option Value} {base : Heap} (c : Cx K mg base) : PropG P w K mg base (TT K) CS 2 "Frame" "flags" m_Frame_flags :=
  propG (c.prop 3).1 (c.prop 3).2 rfl (c.glo 11) (c.cls 53) sc_Frame_flags (fun _ _ _ _ _ _ us h => match us, h with | [_], _ => rfl) fun f cdv C A outer s H E ρ fx =>
    (ss_one (s_ret (e_ix (e_attr (CS := CS) (j := 0) (pt := []) (fc := ["Frame"]) fx (by decide) (e_var (pv 0)) all_nil (all_cons ⟨_, c.glo 11, c.cls 53, c.noat 54⟩ all_nil)) e_int (fun _ _ => rfl))))
/-! Frame.end -/
theorem sc_Frame_end : FnScope ["self"] ["self"] d29.scope := ⟨rfl, rfl, rfl, by decide +kernel, rfl, by decide +kernel, by decide +kernel⟩
noncomputable def s_Frame_end : SM :=
    (mRet (mBin false gIx (mAttr [] ["Frame"] "_parts" (mVar 0)) (mC (.int 3))))
noncomputable def m_Frame_end : FM := frzM (finM 1 (s_Frame_end))
theorem PG_Frame_end {P : Program} {w : World} {K : PySem.W.Frag} {mg : Str → Option Value} {base : Heap} (c : Cx K mg base) : PropG P w K mg base (TT K) CS 2 "Frame" "end" m_Frame_end :=
  propG (c.prop 4).1 (c.prop 4).2 rfl (c.glo 11) (c.cls 53) sc_Frame_end (fun _ _ _ _ _ _ us h => match us, h with | [_], _ => rfl) fun f cdv C A outer s H E ρ fx =>
    (ss_one (s_ret (e_ix (e_attr (CS := CS) (j := 0) (pt := []) (fc := ["Frame"]) fx (by decide) (e_var (pv 0)) all_nil (all_cons ⟨_, c.glo 11, c.cls 53, c.noat 54⟩ all_nil)) e_int (fun _ _ => rfl))))
/-! _law_right -/
theorem sc__law_right : FnScope ["well", "parts", "traits", "layers", "flags", "end", "frame", "named", "own", "name", "times", "more", "numbers", "every", "due", "is_all", "turn", "other", "mate", "told", "number"] ["well"] d54.scope := ⟨rfl, rfl, rfl, by decide +kernel, rfl, by decide +kernel, by decide +kernel⟩
noncomputable def s__law_right : SM :=
    (mSeq (mSet 1 (mCall m__law_frame (mCons (mVar 0) mNil)))
    (mSeq (mAsg (mVar 1) (gmTup 4 (gmCons (gmName 2) (gmCons (gmName 3) (gmCons (gmName 4) (gmCons (gmName 5) gmNil))))))
    (mSeq (mAsg (mTup (mCons (mCall m__law_made (mCons (mVar 1) mNil)) (mCons (mMakeK false "Frame" m_Frame___init__ [2, 3, 1, 0] 4 (mCons (mVar 5) (mCons (mVar 4) (mCons (mVar 2) (mCons (mVar 3) mNil))))) mNil))) (gmTup 2 (gmCons (gmName 6) (gmCons (gmName 7) gmNil))))
    (mSeq (mFor (iMA (mTup (mCons (mVar 6) (mCons (mVar 7) mNil)))) (gmName 8) (mIfS (mNotT (mT (mCall m__law_is (mCons (mLst false (mCons (mTup (mCons (mAttr [("Frame", m_Frame_traits)] [] "traits" (mVar 8)) (mCons (mAttr [("Frame", m_Frame_layers)] [] "layers" (mVar 8)) (mCons (mAttr [("Frame", m_Frame_flags)] [] "flags" (mVar 8)) (mCons (mAttr [("Frame", m_Frame_end)] [] "end" (mVar 8)) mNil))))) (mCons (mAttr [("Frame", m_Frame_parts)] [] "parts" (mVar 8)) mNil))) (mCons (mLst false (mCons (mVar 1) (mCons (mVar 1) mNil))) mNil))))) (mRet (mC (.bl false))) mSkip))
    (mSeq (mIfS (mNotT (mT (mCall m__law_is (mCons (mMeth [("Frame", 1, m_Frame_askers)] "askers" (mVar 6) mNil) (mCons (mCB false gTuple (mCons (mCall m__law_askers (mCons (mVar 1) mNil)) mNil)) mNil))))) (mRet (mC (.bl false))) mSkip)
    (mSeq (mFor (iMA (mVar 3)) (gmTup 3 (gmCons (gmName 9) (gmCons (gmName 10) (gmCons (gmName 11) gmNil)))) (mSeq (mPar 12 13 (mCons (mLst false (mCons (mC (.int 0)) (mCons (mC (.int 99)) (mCons (mCall m__law_draw (mCons (mVar 0) (mCons (mC (.int 100)) mNil))) (mCons (mCall m__law_draw (mCons (mVar 0) (mCons (mC (.int 100)) mNil))) mNil))))) (mCons (mLstR1 false (mC (.int 100))) mNil)))
    (mSeq (mSet 14 (mLc false (iMA (mVar 12)) (gmName 20) mYes (mCall m__law_bucket (mCons (mVar 1) (mCons (mVar 9) (mCons (mVar 20) mNil)))) [20]))
    (mSeq (mIfS (mNotT (mT (mCall m__law_is (mCons (mLc false (iMA (mVar 12)) (gmName 20) mYes (mMeth [("Frame", 3, m_Frame_bucket)] "bucket" (mVar 6) (mCons (mVar 9) (mCons (mVar 20) mNil))) [20]) (mCons (mVar 14) mNil))))) (mRet (mC (.bl false))) mSkip)
    (mSeq (mIfS (mNotT (mT (mCall m__law_is (mCons (mMethK "Frame" "bucket" m_Frame_bucket [1, 0] 2 (mVar 7) (mCons (mBin false gIx (mVar 12) (mC (.int 2))) (mCons (mVar 9) mNil))) (mCons (mBin false gIx (mVar 14) (mC (.int 2))) mNil))))) (mRet (mC (.bl false))) mSkip)
    (mSeq (mSet 15 (mBin false gEq (mCB false gSorted (mCons (mLc false (iMA (mVar 13)) (gmName 20) mYes (mCall m__law_bucket (mCons (mVar 1) (mCons (mVar 9) (mCons (mVar 20) mNil)))) [20]) mNil)) (mVar 13)))
    (mIfS (mNotT (mT (mCall m__law_is (mCons (mLst false (mCons (mCall m_is_even (mCons (mVar 6) (mCons (mVar 9) mNil))) (mCons (mCallK m_is_even [1, 0] 0 2 mNil (mCons (mVar 9) (mCons (mVar 6) mNil))) mNil))) (mCons (mLst false (mCons (mVar 15) (mCons (mVar 15) mNil))) mNil))))) (mRet (mC (.bl false))) mSkip)))))))
    (mSeq (mFor (iMR1 (mCons (mC (.int 4)) mNil)) (gmName 16) (mSeq (mSet 17 (mCall m__law_other (mCons (mVar 0) (mCons (mVar 1) mNil))))
    (mSeq (mPar 18 14 (mCons (mCall m__law_made (mCons (mVar 17) mNil)) (mCons (mBin false gEq (mCB false gRepr (mCons (mVar 17) mNil)) (mCB false gRepr (mCons (mVar 1) mNil))) mNil)))
    (mIfS (mNotT (mT (mCall m__law_is (mCons (mLst false (mCons (mCmpO false [("Frame", m_Frame___eq__)] (mVar 6) (mVar 18)) (mCons (mCmpO false [("Frame", m_Frame___eq__)] (mVar 18) (mVar 7)) (mCons (mCmpO true [("Frame", m_Frame___eq__)] (mVar 6) (mVar 18)) mNil)))) (mCons (mLst false (mCons (mVar 14) (mCons (mVar 14) (mCons (mNot (mVar 14)) mNil)))) mNil))))) (mRet (mC (.bl false))) mSkip))))
    (mSeq (mSet 19 (mLc false (iMA (mTup (mCons (mVar 1) (mCons (mC .non) (mCons (mC (.int 0)) (mCons (mC (.str "")) (mCons (mC (.str "frame")) (mCons (mTup (mCons (mVar 6) mNil)) (mCons (mLst false (mCons (mVar 6) mNil)) mNil))))))))) (gmName 17) mYes (mCmpO false [("Frame", m_Frame___eq__)] (mVar 6) (mVar 17)) [17]))
    (mRet (mAnd (mCall m__law_is (mCons (mVar 19) (mCons (mBin false gMulA (mLst false (mCons (mC (.bl false)) mNil)) (mC (.int 7))) mNil))) (mCall m__law_is (mCons (mCmpO true [("Frame", m_Frame___eq__)] (mVar 6) (mVar 1)) (mCons (mC (.bl true)) mNil)))))))))))))
noncomputable def m__law_right : FM := frzM (finM 21 (s__law_right))
theorem G__law_right {P : Program} {w : World} {K : PySem.W.Frag} {mg : Str → Option Value} {base : Heap} (c : Cx K mg base) : FnA P w K mg base (TT K) CS 12 d54 ["well"] m__law_right :=
  fnA (c.d.def_ 42) rfl rfl sc__law_right (fun _ _ _ _ _ _ us h => match us, h with | [_], _ => rfl) fun f cdv C A outer s H E ρ hcd fx gd =>
    (ss_cons (s_set (ps_set (i := 1) fx.nd rfl (by first | exact Or.inl rfl | exact Or.inr rfl) (e_callG fx ((G__law_frame c).g (c.glo 64)) (by decide) rfl (len_cons (len_nil rfl)) (a_cons (e_var (pv 0)) a_nil))))
    (ss_cons (s_asg (e_var (pv 1)) (g_tup fx (g_cons (g_name (i := 2) (pg_name fx.nd rfl (by first | exact Or.inl rfl | exact Or.inr rfl))) (g_cons (g_name (i := 3) (pg_name fx.nd rfl (by first | exact Or.inl rfl | exact Or.inr rfl))) (g_cons (g_name (i := 4) (pg_name fx.nd rfl (by first | exact Or.inl rfl | exact Or.inr rfl))) (g_cons (g_name (i := 5) (pg_name fx.nd rfl (by first | exact Or.inl rfl | exact Or.inr rfl))) g_nil))))))
    (ss_cons (s_asg (e_tup (a_cons (e_callG fx ((G__law_made c).g (c.glo 65)) (by decide) rfl (len_cons (len_nil rfl)) (a_cons (e_var (pv 1)) a_nil)) (a_cons (e_makeK0 (d := d25) false fx (c.mkr 55) (c.glo 11) (G_Frame___init__ c) km_Frame___init___2_3_1_0 (by decide) rfl (k_cons (e_var (pv 5)) (k_cons (e_var (pv 4)) (k_cons (e_var (pv 2)) (k_cons (e_var (pv 3)) k_nil))))) a_nil))) (g_tup fx (g_cons (g_name (i := 6) (pg_name fx.nd rfl (by first | exact Or.inl rfl | exact Or.inr rfl))) (g_cons (g_name (i := 7) (pg_name fx.nd rfl (by first | exact Or.inl rfl | exact Or.inr rfl))) g_nil))))
    (ss_cons (s_for fx (i_seq (e_tup (a_cons (e_var (pv 6)) (a_cons (e_var (pv 7)) a_nil)))) (g_name (i := 8) (pg_name fx.nd rfl (by first | exact Or.inl rfl | exact Or.inr rfl))) (ss_one (s_if (t_not (t_truth (e_callG fx ((G__law_is c).g (c.glo 66)) (by decide) rfl (len_cons (len_cons (len_nil rfl))) (a_cons (e_lst false (a_cons (e_tup (a_cons (e_attr (CS := CS) (j := 2) (pt := [("Frame", m_Frame_traits)]) (fc := []) fx (by decide) (e_var (pv 8)) (all_cons (PropG.mono (PG_Frame_traits c) (by decide)) all_nil) all_nil) (a_cons (e_attr (CS := CS) (j := 2) (pt := [("Frame", m_Frame_layers)]) (fc := []) fx (by decide) (e_var (pv 8)) (all_cons (PropG.mono (PG_Frame_layers c) (by decide)) all_nil) all_nil) (a_cons (e_attr (CS := CS) (j := 2) (pt := [("Frame", m_Frame_flags)]) (fc := []) fx (by decide) (e_var (pv 8)) (all_cons (PropG.mono (PG_Frame_flags c) (by decide)) all_nil) all_nil) (a_cons (e_attr (CS := CS) (j := 2) (pt := [("Frame", m_Frame_end)]) (fc := []) fx (by decide) (e_var (pv 8)) (all_cons (PropG.mono (PG_Frame_end c) (by decide)) all_nil) all_nil) a_nil))))) (a_cons (e_attr (CS := CS) (j := 2) (pt := [("Frame", m_Frame_parts)]) (fc := []) fx (by decide) (e_var (pv 8)) (all_cons (PropG.mono (PG_Frame_parts c) (by decide)) all_nil) all_nil) a_nil))) (a_cons (e_lst false (a_cons (e_var (pv 1)) (a_cons (e_var (pv 1)) a_nil))) a_nil))))) (ss_one (s_ret e_bl)) ss_nil)))
    (ss_cons (s_if (t_not (t_truth (e_callG fx ((G__law_is c).g (c.glo 66)) (by decide) rfl (len_cons (len_cons (len_nil rfl))) (a_cons (e_meth0 (CS := CS) (j := 6) (pt := [("Frame", 1, m_Frame_askers)]) fx (by decide) (e_var (pv 6)) (all_cons ⟨_, _, MethG.mono (methG (d := d32) (c := "Frame") (m := "askers") (c.glo 11) (c.cls 53) (c.meth 68) (G_Frame_askers c)) (by decide), rfl⟩ all_nil)) (a_cons (e_callTy false call_tuple_of om_tuple rfl (c.free 13) boot_tuple (a_cons (e_callG fx ((G__law_askers c).g (c.glo 67)) (by decide) rfl (len_cons (len_nil rfl)) (a_cons (e_var (pv 1)) a_nil)) a_nil)) a_nil))))) (ss_one (s_ret e_bl)) ss_nil)
    (ss_cons (s_for fx (i_seq (e_var (pv 3))) (g_tup fx (g_cons (g_name (i := 9) (pg_name fx.nd rfl (by first | exact Or.inl rfl | exact Or.inr rfl))) (g_cons (g_name (i := 10) (pg_name fx.nd rfl (by first | exact Or.inl rfl | exact Or.inr rfl))) (g_cons (g_name (i := 11) (pg_name fx.nd rfl (by first | exact Or.inl rfl | exact Or.inr rfl))) g_nil)))) (ss_cons (s_par (ps_par (i := 12) (j := 13) fx.calm fx.nd rfl rfl (by decide) rfl rfl (a_cons (e_lst false (a_cons e_int (a_cons e_int (a_cons (e_callG fx ((G__law_draw c).g (c.glo 2)) (by decide) rfl (len_cons (len_cons (len_nil rfl))) (a_cons (e_var (pv 0)) (a_cons e_int a_nil))) (a_cons (e_callG fx ((G__law_draw c).g (c.glo 2)) (by decide) rfl (len_cons (len_cons (len_nil rfl))) (a_cons (e_var (pv 0)) (a_cons e_int a_nil))) a_nil))))) (a_cons (e_lstR1 false fx rfl (c.free 4) rfl (c.free 5) e_int) a_nil)) (by first | rfl | kernel_rfl)))
    (ss_cons (s_setLc false (i := 14) fx rfl rfl rfl (i_seq (e_var (pv 12))) (blkOk_by (own := [("number", 20)]) (by rfl)) (fun _ _ _ _ _ => (g_name (i := 20) (pg_name (FX.blk fx).nd rfl (by first | exact Or.inl rfl | exact Or.inr rfl)))) (fun _ _ _ _ _ => ts_nil) (fun _ _ _ _ _ => (e_callG (FX.blk fx) ((G__law_bucket c).g (c.glo 69)) (by decide) rfl (len_cons (len_cons (len_cons (len_nil rfl)))) (a_cons (e_var (pv 1)) (a_cons (e_var (pv 9)) (a_cons (e_var (pv 20)) a_nil))))) (by decide))
    (ss_cons (s_if (t_not (t_truth (e_callG fx ((G__law_is c).g (c.glo 66)) (by decide) rfl (len_cons (len_cons (len_nil rfl))) (a_cons (e_lc false fx (i_seq (e_var (pv 12))) (blkOk_by (own := [("number", 20)]) (by rfl)) (fun _ _ _ _ _ => (g_name (i := 20) (pg_name (FX.blk fx).nd rfl (by first | exact Or.inl rfl | exact Or.inr rfl)))) (fun _ _ _ _ _ => ts_nil) (fun _ _ _ _ _ => (e_meth (CS := CS) (j := 5) (pt := [("Frame", 3, m_Frame_bucket)]) (FX.blk fx) (by decide) (e_var (pv 6)) (all_cons ⟨_, _, MethG.mono (methG (d := d33) (c := "Frame") (m := "bucket") (c.glo 11) (c.cls 53) (c.meth 70) (G_Frame_bucket c)) (by decide), rfl⟩ all_nil) (a_cons (e_var (pv 9)) (a_cons (e_var (pv 20)) a_nil)))) (by decide)) (a_cons (e_var (pv 14)) a_nil))))) (ss_one (s_ret e_bl)) ss_nil)
    (ss_cons (s_if (t_not (t_truth (e_callG fx ((G__law_is c).g (c.glo 66)) (by decide) rfl (len_cons (len_cons (len_nil rfl))) (a_cons (e_methK (CS := CS) fx (by decide) (e_var (pv 7)) (methG (d := d33) (c := "Frame") (m := "bucket") (c.glo 11) (c.cls 53) (c.meth 70) (G_Frame_bucket c)) km_Frame_bucket_1_0 (k_cons (e_ix (e_var (pv 12)) e_int (fun _ _ => rfl)) (k_cons (e_var (pv 9)) k_nil))) (a_cons (e_ix (e_var (pv 14)) e_int (fun _ _ => rfl)) a_nil))))) (ss_one (s_ret e_bl)) ss_nil)
    (ss_cons (s_set (ps_set (i := 15) fx.nd rfl (by first | exact Or.inl rfl | exact Or.inr rfl) (e_cmp (or_eq fx) om_eq (e_callB false (cr_sortedD fx) om_sorted rfl (c.free 12) boot_sorted (a_cons (e_lc false fx (i_seq (e_var (pv 13))) (blkOk_by (own := [("number", 20)]) (by rfl)) (fun _ _ _ _ _ => (g_name (i := 20) (pg_name (FX.blk fx).nd rfl (by first | exact Or.inl rfl | exact Or.inr rfl)))) (fun _ _ _ _ _ => ts_nil) (fun _ _ _ _ _ => (e_callG (FX.blk fx) ((G__law_bucket c).g (c.glo 69)) (by decide) rfl (len_cons (len_cons (len_cons (len_nil rfl)))) (a_cons (e_var (pv 1)) (a_cons (e_var (pv 9)) (a_cons (e_var (pv 20)) a_nil))))) (by decide)) a_nil)) (e_var (pv 13)) rfl)))
    (ss_one (s_if (t_not (t_truth (e_callG fx ((G__law_is c).g (c.glo 66)) (by decide) rfl (len_cons (len_cons (len_nil rfl))) (a_cons (e_lst false (a_cons (e_callG fx ((G_is_even c).g (c.glo 71)) (by decide) rfl (len_cons (len_cons (len_nil rfl))) (a_cons (e_var (pv 6)) (a_cons (e_var (pv 9)) a_nil))) (a_cons (e_callK0 fx ((G_is_even c).g (c.glo 71)) kb_is_even_1_0 (by decide) rfl (k_cons (e_var (pv 9)) (k_cons (e_var (pv 6)) k_nil)) rfl) a_nil))) (a_cons (e_lst false (a_cons (e_var (pv 15)) (a_cons (e_var (pv 15)) a_nil))) a_nil))))) (ss_one (s_ret e_bl)) ss_nil))))))))
    (ss_cons (s_for fx (i_range1 rfl (c.free 5) (a_cons e_int a_nil)) (g_name (i := 16) (pg_name fx.nd rfl (by first | exact Or.inl rfl | exact Or.inr rfl))) (ss_cons (s_set (ps_set (i := 17) fx.nd rfl (by first | exact Or.inl rfl | exact Or.inr rfl) (e_callG fx ((G__law_other c).g (c.glo 72)) (by decide) rfl (len_cons (len_cons (len_nil rfl))) (a_cons (e_var (pv 0)) (a_cons (e_var (pv 1)) a_nil)))))
    (ss_cons (s_par (ps_par (i := 18) (j := 14) fx.calm fx.nd rfl rfl (by decide) rfl rfl (a_cons (e_callG fx ((G__law_made c).g (c.glo 65)) (by decide) rfl (len_cons (len_nil rfl)) (a_cons (e_var (pv 17)) a_nil)) (a_cons (e_cmp (or_eq fx) om_eq (e_callB false (call_reprD fx) om_repr rfl (c.free 56) boot_repr (a_cons (e_var (pv 17)) a_nil)) (e_callB false (call_reprD fx) om_repr rfl (c.free 56) boot_repr (a_cons (e_var (pv 1)) a_nil)) rfl) a_nil)) (by first | rfl | kernel_rfl)))
    (ss_one (s_if (t_not (t_truth (e_callG fx ((G__law_is c).g (c.glo 66)) (by decide) rfl (len_cons (len_cons (len_nil rfl))) (a_cons (e_lst false (a_cons (e_eqO (CS := CS) (j := 2) (et := [("Frame", m_Frame___eq__)]) fx (by decide) (all_cons (eqG_of (d := d31) (ex_at (exlOk c) 2) (c.glo 11) (G_Frame___eq__ c) (by decide) rfl) all_nil) (e_var (pv 6)) (e_var (pv 18)) rfl) (a_cons (e_eqO (CS := CS) (j := 2) (et := [("Frame", m_Frame___eq__)]) fx (by decide) (all_cons (eqG_of (d := d31) (ex_at (exlOk c) 2) (c.glo 11) (G_Frame___eq__ c) (by decide) rfl) all_nil) (e_var (pv 18)) (e_var (pv 7)) rfl) (a_cons (e_neO (CS := CS) (j := 2) (et := [("Frame", m_Frame___eq__)]) fx (by decide) (all_cons (eqG_of (d := d31) (ex_at (exlOk c) 2) (c.glo 11) (G_Frame___eq__ c) (by decide) rfl) all_nil) (e_var (pv 6)) (e_var (pv 18)) rfl) a_nil)))) (a_cons (e_lst false (a_cons (e_var (pv 14)) (a_cons (e_var (pv 14)) (a_cons (e_not (e_var (pv 14))) a_nil)))) a_nil))))) (ss_one (s_ret e_bl)) ss_nil)))))
    (ss_cons (s_setLc false (i := 19) fx rfl rfl rfl (i_seq (e_tup (a_cons (e_var (pv 1)) (a_cons e_non (a_cons e_int (a_cons e_str (a_cons e_str (a_cons (e_tup (a_cons (e_var (pv 6)) a_nil)) (a_cons (e_lst false (a_cons (e_var (pv 6)) a_nil)) a_nil))))))))) (blkOk_by (own := [("other", 17)]) (by rfl)) (fun _ _ _ _ _ => (g_name (i := 17) (pg_name (FX.blk fx).nd rfl (by first | exact Or.inl rfl | exact Or.inr rfl)))) (fun _ _ _ _ _ => ts_nil) (fun _ _ _ _ _ => (e_eqO (CS := CS) (j := 2) (et := [("Frame", m_Frame___eq__)]) (FX.blk fx) (by decide) (all_cons (eqG_of (d := d31) (ex_at (exlOk c) 2) (c.glo 11) (G_Frame___eq__ c) (by decide) rfl) all_nil) (e_var (pv 6)) (e_var (pv 17)) rfl)) (by decide))
    (ss_one (s_ret (e_and (e_callG fx ((G__law_is c).g (c.glo 66)) (by decide) rfl (len_cons (len_cons (len_nil rfl))) (a_cons (e_var (pv 19)) (a_cons (e_bin false or_mulA om_mulA (e_lst false (a_cons e_bl a_nil)) e_int) a_nil))) (e_one (e_callG fx ((G__law_is c).g (c.glo 66)) (by decide) rfl (len_cons (len_cons (len_nil rfl))) (a_cons (e_neO (CS := CS) (j := 2) (et := [("Frame", m_Frame___eq__)]) fx (by decide) (all_cons (eqG_of (d := d31) (ex_at (exlOk c) 2) (c.glo 11) (G_Frame___eq__ c) (by decide) rfl) all_nil) (e_var (pv 6)) (e_var (pv 1)) rfl) (a_cons e_bl a_nil)))))))))))))))
/-! _law_well -/
theorem sc__law_well : FnScope ["script", "lap", "stirred", "cell", "own"] ["script", "lap"] d41.scope := ⟨rfl, rfl, rfl, by decide +kernel, rfl, by decide +kernel, by decide +kernel⟩
noncomputable def s__law_well : SM :=
    (mSeq (mSet 2 (mBin false gAdd (mC (.int 481966)) (mBin false gMulA (mC (.int 5231)) (mVar 1))))
    (mSeq (mFor (iMA (mSl false (mVar 0) mONone (mOSome (mC (.int 9))))) (gmName 3) (mSet 2 (mBin false gMod (mCB false gInt1 (mCons (mBin false gAdd (mBin false gAdd (mBin false gMulA (mVar 2) (mC (.int 47521))) (mBin false gMod (mCB false gInt1 (mCons (mVar 3) mNil)) (mC (.int 2147483549)))) (mC (.int 41))) mNil)) (mC (.int 2147483629)))))
    (mSeq (mSet 4 (mIf (mB (mBin false gLtB (mVar 1) (mCB false gLen (mCons (mVar 0) mNil)))) (mCB false gInt1 (mCons (mBin false gIx (mVar 0) (mVar 1)) mNil)) (mC (.int 0))))
    (mSeq (mSet 2 (mBin false gMod (mCB false gInt1 (mCons (mBin false gAdd (mBin false gAdd (mBin false gMulA (mVar 2) (mC (.int 61))) (mBin false gMulA (mBin false gMod (mCB false gInt1 (mCons (mVar 4) mNil)) (mC (.int 2147483549))) (mC (.int 16007)))) (mC (.int 17))) mNil)) (mC (.int 2147483629))))
    (mRet (mLst true (mCons (mIf (mOrT (mB (mBin false gLtB (mVar 4) (mC (.int 0)))) (mB (mBin false gGe (mVar 4) (mBin false gPow (mC (.int 10)) (mC (.int 15)))))) (mCB false gAbs (mCons (mVar 4) mNil)) (mC (.int 0))) (mCons (mVar 2) (mCons (mC (.int 0)) mNil)))))))))
noncomputable def m__law_well : FM := (finM 5 (s__law_well))
theorem G__law_well {P : Program} {w : World} {K : PySem.W.Frag} {mg : Str → Option Value} {base : Heap} (c : Cx K mg base) : FnA P w K mg base (TT K) CS 1 d41 ["script", "lap"] m__law_well :=
  fnU (c.d.def_ 43) rfl rfl sc__law_well (fun _ _ _ _ _ _ us h => match us, h with | [_, _], _ => rfl) fun f cdv C A outer s H E ρ hcd fx gd =>
    (ss_cons (s_set (ps_set (i := 2) fx.nd rfl (by first | exact Or.inl rfl | exact Or.inr rfl) (e_bin false or_add om_add e_int (e_bin false or_mulA om_mulA e_int (e_var (pv 1))))))
    (ss_cons (s_for fx (i_seq (e_sl false (e_var (pv 0)) o_none (o_some e_int))) (g_name (i := 3) (pg_name fx.nd rfl (by first | exact Or.inl rfl | exact Or.inr rfl))) (ss_one (s_set (ps_set (i := 2) fx.nd rfl (by first | exact Or.inl rfl | exact Or.inr rfl) (e_bin false op_mod om_mod (e_callTy false call_int1 om_int1 rfl (c.free 1) boot_int (a_cons (e_bin false or_add om_add (e_bin false or_add om_add (e_bin false or_mulA om_mulA (e_var (pv 2)) e_int) (e_bin false op_mod om_mod (e_callTy false call_int1 om_int1 rfl (c.free 1) boot_int (a_cons (e_var (pv 3)) a_nil)) e_int)) e_int) a_nil)) e_int)))))
    (ss_cons (s_set (ps_set (i := 4) fx.nd rfl (by first | exact Or.inl rfl | exact Or.inr rfl) (e_if (t_cmp (or_ltB fx) om_ltB (e_var (pv 1)) (e_callB false call_len om_len rfl (c.free 3) boot_len (a_cons (e_var (pv 0)) a_nil)) rfl) (e_callTy false call_int1 om_int1 rfl (c.free 1) boot_int (a_cons (e_ix (e_var (pv 0)) (e_var (pv 1)) (fun _ _ => rfl)) a_nil)) e_int)))
    (ss_cons (s_set (ps_set (i := 2) fx.nd rfl (by first | exact Or.inl rfl | exact Or.inr rfl) (e_bin false op_mod om_mod (e_callTy false call_int1 om_int1 rfl (c.free 1) boot_int (a_cons (e_bin false or_add om_add (e_bin false or_add om_add (e_bin false or_mulA om_mulA (e_var (pv 2)) e_int) (e_bin false or_mulA om_mulA (e_bin false op_mod om_mod (e_callTy false call_int1 om_int1 rfl (c.free 1) boot_int (a_cons (e_var (pv 4)) a_nil)) e_int) e_int)) e_int) a_nil)) e_int)))
    (ss_one (s_ret (e_lst true (a_cons (e_if (PW.pt (t_or (t_cmp (or_ltB fx) om_ltB (e_var (pv 4)) e_int rfl) (t_or1 (t_cmp op_ge om_ge (e_var (pv 4)) (e_bin false op_pow om_pow e_int e_int) rfl)))) (e_callB false call_abs om_abs rfl (c.free 73) boot_abs (a_cons (e_var (pv 4)) a_nil)) e_int) (a_cons (e_var (pv 2)) (a_cons e_int a_nil))))))))))
/-! law -/
theorem sc_law : FnScope ["script", "lap"] ["script"] d55.scope := ⟨rfl, rfl, rfl, by decide +kernel, rfl, by decide +kernel, by decide +kernel⟩
noncomputable def s_law : SM :=
    (mRet (mCB false gAll (mCons (mLc false (iMR1 (mCons (mCB false gMax2 (mCons (mC (.int 1)) (mCons (mCB false gMin2 (mCons (mCB false gLen (mCons (mVar 0) mNil)) (mCons (mC (.int 3)) mNil))) mNil))) mNil)) (gmName 1) mYes (mCall m__law_right (mCons (mCall m__law_well (mCons (mVar 0) (mCons (mVar 1) mNil))) mNil)) [1]) mNil)))
noncomputable def m_law : FM := frzM (finM 2 (s_law))
theorem G_law {P : Program} {w : World} {K : PySem.W.Frag} {mg : Str → Option Value} {base : Heap} (c : Cx K mg base) : FnA P w K mg base (TT K) CS 13 d55 ["script"] m_law :=
  fnA (c.d.def_ 44) rfl rfl sc_law (fun _ _ _ _ _ _ us h => match us, h with | [_], _ => rfl) fun f cdv C A outer s H E ρ hcd fx gd =>
    (ss_one (s_ret (e_callB false (cr_all fx.calm) om_all rfl (c.free 17) boot_all (a_cons (e_lc false fx (i_range1 rfl (c.free 5) (a_cons (e_callB false (call_max2 fx.calm) om_max2 rfl (c.free 74) boot_max (a_cons e_int (a_cons (e_callB false (call_min2 fx.calm) om_min2 rfl (c.free 57) boot_min (a_cons (e_callB false call_len om_len rfl (c.free 3) boot_len (a_cons (e_var (pv 0)) a_nil)) (a_cons e_int a_nil))) a_nil))) a_nil)) (blkOk_by (own := [("lap", 1)]) (by rfl)) (fun _ _ _ _ _ => (g_name (i := 1) (pg_name (FX.blk fx).nd rfl (by first | exact Or.inl rfl | exact Or.inr rfl)))) (fun _ _ _ _ _ => ts_nil) (fun _ _ _ _ _ => (e_callG (FX.blk fx) ((G__law_right c).g (c.glo 75)) (by decide) rfl (len_cons (len_nil rfl)) (a_cons (e_callG (FX.blk fx) ((G__law_well c).g (c.glo 76)) (by decide) rfl (len_cons (len_cons (len_nil rfl))) (a_cons (e_var (pv 0)) (a_cons (e_var (pv 1)) a_nil))) a_nil))) (by decide)) a_nil))))
end LW

set_option Elab.async false
set_option linter.all false
set_option maxRecDepth 100000
set_option maxHeartbeats 4000000
namespace LW
open PySem M3
def stir (b c : Int) : Int := (b * 40009 + 15013 * (c + 1)) % 2147483629
def nextB (b c : Int) : Int := (stir b c * (stir b c % 5003 + 20011) + (c + 1)) % 2147483629
theorem take_ok {S : Store} {n : Nat} {a b c many : Int} (h : S[n]? = some (uc (a, b, c))) (hm : 0 < many) (hmm : many < 1073741824) :
    ∃ r u, s__law_draw (env0 4 [.v (.ref n), .v (.int many)]) S = .ret (.int r) (S.set n (uc u)) ∧ 0 ≤ r ∧ r < many := by
  have hn : n < S.length := Urn.lt ⟨_, h⟩
  have hmod : ∀ x : Int, 0 ≤ x % many ∧ x % many < many := fun x => ⟨Int.emod_nonneg _ (by omega), Int.emod_lt_of_pos _ hm⟩
  by_cases h0 : 0 < a
  · refine ⟨a % many, (a / many, b, c), ?_, (hmod a).1, (hmod a).2⟩
    simp [env0, mSeq, mIfS, mB, mBin, mVar, mC, Rz.bind, Rz.st, gIx, ixD, seqOf, tupOf, lstOf, L2.atI, L2.ixN, Gv.fin, asB, gGt, gInt, mAsg, mCB, mCons, mNil, gDivmod, gmTup, gmCons, gmSub, gmName, gmNil, mRet, mSet, mSkip, gAdd, gMulA, gInt1, gMod, gDiv, s__law_draw, cDiv, h, h0, hm, hmm]
  · have s1 : 0 ≤ stir b c ∧ stir b c < 2147483629 := ⟨Int.emod_nonneg _ (by decide), Int.emod_lt_of_pos _ (by decide)⟩
    refine ⟨(nextB b c / 1031) % many, (a, nextB b c, c + 1), ?_, (hmod _).1, (hmod _).2⟩
    have e1 : (b * 40009 + 15013 * (c + 1)) % 2147483629 = stir b c := rfl
    have m1 : cMul b 40009 = true := by unfold cMul; simp
    have m2 : cMul 15013 (c + 1) = true := by unfold cMul; simp
    have m4 : cMul (stir b c) (stir b c % 5003 + 20011) = true := by unfold cMul; simp; omega
    have m5 : cDiv (nextB b c) 1031 = true := by unfold cDiv; simp
    have e2 : (stir b c * (stir b c % 5003 + 20011) + (c + 1)) % 2147483629 = nextB b c := rfl
    have hs : ∀ x, (S.set n x)[n]? = some x := fun x => List.getElem?_set_self hn
    simp [env0, mSeq, mIfS, mB, mBin, mVar, mC, Rz.bind, Rz.st, gIx, ixD, seqOf, tupOf, lstOf, L2.atI, L2.ixN, Gv.fin, asB, gGt, gInt, mAsg, mCB, mCons, mNil, gDivmod, gmTup, gmCons, gmSub, gmName, gmNil, mRet, mSet, mSkip, gAdd, gMulA, gInt1, gMod, gDiv, s__law_draw, h, hs, h0, hm, m1, m2, m4, m5, e1, e2]
theorem take_dr {S : Store} {n : Nat} {many : Int} (h : Urn S n) (hm : 0 < many) (hmm : many < 1073741824) : Dr S n (m__law_draw [.v (.ref n), .v (.int many)] S) fun d => ∃ r : Int, d = .int r ∧ 0 ≤ r ∧ r < many := by
  obtain ⟨⟨a, b, c⟩, h⟩ := h
  obtain ⟨r, u, e, h1, h2⟩ := take_ok h hm hmm
  exact dr_frz0 (d := .int r) (u := u) (by unfold finM; rw [e]; rfl) rfl ⟨r, rfl, h1, h2⟩
theorem atI_mem {ds : List D} {r : Int} (h : 0 ≤ r) (h2 : r < ds.length) : ∃ d, L2.atI ds r = some d ∧ d ∈ ds := by
  unfold L2.atI L2.ixN
  rw [if_pos h, if_pos h2]
  have : r.toNat < ds.length := by omega
  exact ⟨ds[r.toNat], by simp [this], List.getElem_mem _⟩
theorem of_dr {S : Store} {n : Nat} {ds : List D} (h : Urn S n) (h0 : ds ≠ []) (hl : ds.length < 1073741824) (hc : ∀ d ∈ ds, clD S.length d = true) : Dr S n (m__law_of [.v (.ref n), .v (.fl ds)] S) (· ∈ ds) := by
  have hp : 0 < ds.length := List.length_pos_iff.mpr h0
  obtain ⟨d, u, e, r, rfl, h1, h2⟩ := take_dr (many := ds.length) h (by omega) (by omega)
  obtain ⟨x, e2, hx⟩ := atI_mem (ds := ds) h1 h2
  have gl : gLen S [.fl ds] = some (.d (.int ds.length)) := by unfold gLen; simp [seqOf, tupOf, lstOf]
  refine dr_frz0 (d := x) (u := u) ?_ (hc x hx) hx
  have e3 : ixD (S.set n (uc u)) (.fl ds) (.int r) = some x := e2
  simp only [finM, s__law_of, env0, mRet, mBin, mVar, mCall, mCons, mCB, mNil, Rz.bind, Rz.st, gl, Gv.fin, List.map_cons, List.map_nil, List.cons_append, List.nil_append, List.getElem?_cons_zero, List.getElem?_cons_succ, e, gIx, e3, Option.map_some, So.fin]
theorem set_ext {S ext : Store} {n : Nat} {c c' : Cell} (h : n < S.length) : (S.set n c ++ ext).set n c' = S.set n c' ++ ext := by
  rw [set_app (by simpa using h), List.set_set]
theorem at_ext0 {S : Store} {n : Nat} {c : Cell} {x : Cell} {r : Store} : (S.set n c ++ x :: r)[S.length]? = some x := by
  rw [List.getElem?_append_right (by simp)]; simp
theorem at_ext1 {S : Store} {n : Nat} {c : Cell} {x y : Cell} {r : Store} : (S.set n c ++ x :: y :: r)[S.length + 1]? = some y := by
  rw [List.getElem?_append_right (by simp)]; simp
theorem set_ext0 {S : Store} {n : Nat} {c : Cell} {x x' : Cell} {r : Store} : (S.set n c ++ x :: r).set S.length x' = S.set n c ++ x' :: r := by
  rw [List.set_append_right _ _ (by simp)]; simp
theorem set_ext1 {S : Store} {n : Nat} {c : Cell} {x y y' : Cell} {r : Store} : (S.set n c ++ x :: y :: r).set (S.length + 1) y' = S.set n c ++ x :: y' :: r := by
  rw [List.set_append_right _ _ (by simp)]; simp
theorem set_self {S : Store} {n : Nat} {u : Int × Int × Int} (h : S[n]? = some (uc u)) : S = S.set n (uc u) := by
  obtain ⟨hn, e⟩ := List.getElem?_eq_some_iff.mp h
  rw [← e, List.set_getElem_self]
theorem clDs_of {L : Nat} : ∀ {ds : List D}, (∀ d ∈ ds, clD L d = true) → clDs L ds = true
  | [], _ => by unfold clDs; rfl
  | d :: ds, h => by
    unfold clDs
    rw [h d List.mem_cons_self, clDs_of fun x hx => h x (List.mem_cons_of_mem _ hx)]
    rfl
theorem frz_lst {T : Store} {L m k : Nat} {ds : List D} (hm : L ≤ m) (h : T[m]? = some (.lst ds)) (hc : clDs L ds = true) : mapR (frzR T L (k + 1)) (.ref m) = some (.fl ds) := by
  unfold mapR frzR
  rw [if_neg (by omega), h]
  dsimp only
  rw [mapRs_cl ds hc]
  rfl
theorem inRng_of {r : Int} (h : 0 ≤ r) (h2 : r < 1073741824) : inRng r = true := by
  unfold inRng
  simp only [Bool.and_eq_true, decide_eq_true_eq]
  omega
/-! ### wrong_at finds nothing -/
theorem wrong_at_ok {cm : Nat → List EV → FM} {k : Nat} {ws : List EV} {S : Store} {xs : List D} {most : D} (hl : xs.length ≤ 16777216) (hm : ∀ i : Nat, i < xs.length → gEq S (.int i) most = some (.d (.bl false)))
    (hr : ∀ (i : Nat) (h : i < xs.length), cm k ws [.v xs[i], .v (.tup (xs.take i))] S = .ok (.bl true) S) : m_wrong_at cm [.v (.tup xs), .v most, .fn k ws] S = .ok (.fl []) S := by
  refine frzM_cl ?_ rfl
  show (s_wrong_at cm (env0 5 [.v (.tup xs), .v most, .fn k ws]) S).fin = _
  have sl : ∀ i : Nat, i < xs.length → slD S (.tup xs) none (some (i : Int)) = some (.t (xs.take i)) := by
    intro i hi
    have h1 : HT.sIx xs.length xs.length (some (i : Int)) = i := (HT.sIx_nat _ _ _).trans (Nat.min_eq_left (by omega))
    have h0 : HT.sIx xs.length 0 none = 0 := rfl
    unfold slD
    dsimp only
    rw [h1, h0, if_neg (by omega)]
    unfold cutD
    rw [h1, h0]
    simp
  let I : List D → Evs → Store → Prop := fun r env T => ∃ (j : Nat) (e3 e4 : Option EV), r = enums j (xs.drop j) ∧ T = S ∧ env = [some (.v (.tup xs)), some (.v most), some (.fn k ws), e3, e4]
  obtain ⟨env', T', f1, j, e3, e4, _, rfl, rfl⟩ := forG_nx (s := ([], enums 0 xs)) (tg := gmTup 2 (gmCons (gmName 3) (gmCons (gmName 4) gmNil))) (body := mIfS (mOrT (mB (mBin false gEq (mVar 3) (mVar 1))) (mNotT (mT (mCallP cm [] 2 (vD (mVar 4) (vD (mSl false (mVar 0) mONone (mOSome (mVar 3))) vNil)))))) (mRet (mLst false (mCons (mVar 3) mNil))) mSkip) rfl I
    (fun d r env T ⟨j, e3, e4, he, hT, henv⟩ => by
      subst hT henv
      have hj : j < xs.length := by
        rcases Nat.lt_or_ge j xs.length with h | h
        · exact h
        · rw [List.drop_eq_nil_of_le h] at he; cases he
      rw [List.drop_eq_getElem_cons hj] at he
      unfold enums at he
      obtain ⟨rfl, rfl⟩ := List.cons.inj he
      refine ⟨_, _, _, rfl, ?_, ⟨j + 1, some (.v (.int j)), some (.v xs[j]), rfl, rfl, rfl⟩⟩
      have hle : min j xs.length ≤ 16777216 := by omega
      simp [mIfS, mOrT, mB, mBin, mVar, Rz.bind, Rz.st, hm j hj, Gv.fin, asB, mNotT, mT, mCallP, atE, cnvE, cnvs, vD, vNil, mSl, mONone, mOSome, sl j hj, hle, hr j hj, asT, truD, mSkip]) (enums 0 xs) [some (.v (.tup xs)), some (.v most), some (.fn k ws), none, none] S ⟨0, none, none, rfl, rfl, rfl⟩
  have hk : gIsi T' [.tup xs, .ty "tuple"] = some (.d (.bl true)) := rfl
  have e1 : iME (mCons (mVar 0) mNil) [some (.v (.tup xs)), some (.v most), some (.fn k ws), none, none] T' = .ok ([], enums 0 xs) T' := by
    simp [iME, mCons, mVar, mNil, Rz.bind, srcEnum, seqSrc]
  unfold s_wrong_at
  simp [mSeq, env0, mIfS, mNotT, mT, mCB, mCons, mVar, mC, mNil, Rz.bind, Rz.st, hk, Gv.fin, asT, truD, mSkip, mFor, e1, f1, mRet, mLst, So.fin]
/-! ### names -/
abbrev abc : Str := "abcdefghijklmnopqrstuvwxyz"
theorem is_letters_ok {S : Store} {z : Str} (h1 : 1 ≤ z.length) (h8 : z.length ≤ 8) (ha : ∀ c ∈ z.cps.toList, c ∈ abc.cps.toList) : m_is_letters [.v (.str z), .v (.int 1), .v (.int 8)] S = .ok (.bl true) S := by
  refine frzM_cl ?_ rfl
  show (s_is_letters (env0 4 [.v (.str z), .v (.int 1), .v (.int 8)]) S).fin = _
  have hk : gIsi S [.str z, .ty "str"] = some (.d (.bl true)) := rfl
  have hl : (signs z).length ≤ 16777216 := by
    unfold signs
    rw [List.length_map, Array.length_toList]
    show z.length ≤ _
    omega
  have hz : z.length ≤ 16777216 := by omega
  have lc := lcG_map (s := ([], signs z)) (tg := gmName 3) (tt := mYes) (me := mBin false gIn (mVar 3) (mC (.str abc))) (env := [some (.v (.str z)), some (.v (.int 1)), some (.v (.int 8)), none]) (S := S) (f := fun _ => .bl true) rfl (signs z) (fun d hd => by
    obtain ⟨c, hc, rfl⟩ := List.mem_map.mp hd
    refine ⟨_, rfl, rfl, ?_⟩
    simp [mBin, mVar, mC, Rz.bind, gIn, inD, ha c hc, Gv.fin])
  have e1 : mLc false (iMA (mVar 0)) (gmName 3) mYes (mBin false gIn (mVar 3) (mC (.str abc))) [3] [some (.v (.str z)), some (.v (.int 1)), some (.v (.int 8)), none] S = .ok (.fl ((signs z).map fun _ => .bl true)) S := by
    simp [mLc, iMA, mVar, Rz.bind, srcAny, wipeE, lc, lcEnd, Gv.fin, hl]
  have e2 : gAll S [.fl ((signs z).map fun _ => D.bl true)] = some (.d (.bl true)) := gAll_true _
  have g1 : (1 : Int) ≤ z.length := by omega
  have g8 : (z.length : Int) ≤ 8 := by omega
  simp [s_is_letters, mSeq, env0, mIfS, mOrT, mNotT, mT, mCB, mCons, mVar, mC, mNil, Rz.bind, Rz.st, hk, Gv.fin, asT, truD, mB, mChain, gLe, gInt, gLen, hz, asB, g1, g8, mSkip, mRet, e1, e2, So.fin]
def Alph (z : Str) : Prop := ∀ c ∈ z.cps.toList, c ∈ abc.cps.toList
/-- a name, by its text -/
def Nm (z : Str) : Prop := 1 ≤ z.length ∧ z.length ≤ 8 ∧ Alph z ∧ z ∉ z_WORDS
theorem is_name_ok {S : Store} {z : Str} (h : Nm z) : m_is_name [.v (.str z)] S = .ok (.bl true) S := by
  refine frzM_cl ?_ rfl
  show (s_is_name (env0 1 [.v (.str z)]) S).fin = _
  have e1 := is_letters_ok (S := S) h.1 h.2.1 h.2.2.1
  have e2 : inD S (.str z) (.tup (z_WORDS.map .str)) = some false := by
    rw [inD_strs (zs := z_WORDS) rfl fun z e => by cases e]
    simp [h.2.2.2]
  simp [s_is_name, env0, mRet, mAnd, mCall, mCons, mVar, mC, mNil, Rz.bind, Rz.st, e1, asB, mBin, gNotIn, e2, Gv.fin, So.fin]
theorem is_tuple_of_ok {S : Store} {xs : List D} {k : Int} (h : (xs.length : Int) = k) : m_is_tuple_of [.v (.tup xs), .v (.int k)] S = .ok (.bl true) S := by
  refine frzM_cl ?_ rfl
  show (s_is_tuple_of (env0 2 [.v (.tup xs), .v (.int k)]) S).fin = _
  have hk : gIsi S [.tup xs, .ty "tuple"] = some (.d (.bl true)) := rfl
  simp [s_is_tuple_of, env0, mRet, mAnd, mCB, mCons, mVar, mC, mNil, Rz.bind, Rz.st, hk, asB, mBin, gEq, eqD, eqF, gLen, seqOf, tupOf, lstOf, h, Gv.fin, So.fin]
theorem last_take {xs : List D} {i : Nat} (h0 : 0 < i) (hi : i < xs.length) : L2.atI (xs.take i) (-1) = some xs[i - 1] := by
  have hl : (xs.take i).length = i := by rw [List.length_take]; omega
  unfold L2.atI L2.ixN
  rw [hl, if_neg (by decide), if_pos (by omega)]
  have e : (-1 + (i : Int)).toNat = i - 1 := by omega
  show (xs.take i)[(-1 + (i : Int)).toNat]? = _
  rw [e, List.getElem?_take_of_lt (by omega), List.getElem?_eq_getElem (by omega)]
theorem wrong_from_one_ok {cm : Nat → List EV → FM} {k : Nat} {ws : List EV} {S : Store} {xs : List D} {most : D} (h0 : xs ≠ []) (hp : plDs xs = true) (hd : (pdD (.tup xs)).depth ≤ 64) (hl : xs.length ≤ 16777216) (hm : ∀ i : Nat, i < xs.length → gEq S (.int i) most = some (.d (.bl false)))
    (hr : ∀ (i : Nat) (h : i < xs.length), cm k ws [.v xs[i], .v (.tup (xs.take i))] S = .ok (.bl true) S) : m_wrong_from_one cm [.v (.tup xs), .v most, .fn k ws] S = .ok (.fl []) S := by
  refine frzM_cl ?_ rfl
  show (s_wrong_from_one cm (env0 3 [.v (.tup xs), .v most, .fn k ws]) S).fin = _
  have e1 := gEq_nil (S := S) hp hd
  have e2 : xs.isEmpty = false := by
    cases xs with
    | nil => exact absurd rfl h0
    | cons _ _ => rfl
  rw [e2] at e1
  have w := wrong_at_ok (cm := cm) (k := k) (ws := ws) hl hm hr
  simp [s_wrong_from_one, env0, mRet, mIf, mB, mBin, mVar, mTup, mNil, Rz.bind, Rz.st, e1, Gv.fin, asB, mCallF, vD, vF, vNil, cnvs, cnvE, w, So.fin]
/-! ### numbers, edits -/
theorem is_whole_ok {S : Store} {i : Int} : m_is_whole [.v (.int i)] S = .ok (.bl true) S := by
  refine frzM_cl ?_ rfl
  show (s_is_whole (env0 1 [.v (.int i)]) S).fin = _
  have h1 : gIsi S [.int i, .ty "int"] = some (.d (.bl true)) := rfl
  have h2 : gIsi S [.int i, .ty "bool"] = some (.d (.bl false)) := rfl
  simp [s_is_whole, env0, mRet, mAnd, mCB, mCons, mVar, mC, mNil, Rz.bind, Rz.st, h1, h2, asB, mNot, Gv.fin, So.fin]
theorem is_number_ok {S : Store} {i a b : Int} (h1 : a ≤ i) (h2 : i ≤ b) : m_is_number [.v (.int i), .v (.int a), .v (.int b)] S = .ok (.bl true) S := by
  refine frzM_cl ?_ rfl
  show (s_is_number (env0 3 [.v (.int i), .v (.int a), .v (.int b)]) S).fin = _
  have h3 : ¬ i < a := by omega
  simp [s_is_number, env0, mSeq, mIfS, mOrT, mNotT, mT, mCall, mCons, mVar, mC, mNil, Rz.bind, Rz.st, is_whole_ok, asT, truD, mAndT, mB, mBin, gNotN, isNon, Gv.fin, asB, gLtB, gLt, h3, mSkip, mRet, mOr, gIsN, gLe, gInt, h2, So.fin]
theorem cat_tl (a b : Str) : (a ++ b).cps.toList = a.cps.toList ++ b.cps.toList := by
  have e := SX.S_cat a.cps.toList b.cps.toList
  rw [SX.S_tl, SX.S_tl] at e
  rw [e]
theorem len_tl (z : Str) : z.cps.toList.length = z.length := by simp [Str.length]
theorem to_tl {z : Str} {i : Int} (h : 0 ≤ i) : (Txt.slice z none (some i)).cps.toList = z.cps.toList.take i.toNat := by
  have e := SX.slice_to (a := z.cps.toList) h
  rw [SX.S_tl] at e
  rw [e]
theorem from_tl {z : Str} {i : Int} (h : 0 ≤ i) : (Txt.slice z (some i) none).cps.toList = z.cps.toList.drop i.toNat := by
  have e := SX.slice_from (a := z.cps.toList) h
  rw [SX.S_tl] at e
  rw [e]
theorem abc_at : ∀ j : Fin 26, abc.cps.toList[j.val]? = some (97 + j.val) := by decide +kernel
theorem abc_get {j : Nat} (h : j < 26) : abc.cps.toList[j]? = some (97 + j) := abc_at ⟨j, h⟩
theorem abc_len : abc.length = 26 := by decide +kernel
theorem abc_mem : ∀ c ∈ abc.cps.toList, 97 ≤ c ∧ c ≤ 122 := by decide +kernel
theorem q_mem : (113 : Nat) ∈ abc.cps.toList := by decide +kernel
theorem words_no : ∀ w ∈ z_WORDS, 2 ≤ w.cps.toList.length ∧ (113 : Nat) ∉ w.cps.toList := by decide +kernel
theorem nm_q {z : Str} (h1 : z.length ≤ 8) (ha : Alph z) (hq : (113 : Nat) ∈ z.cps.toList) : Nm z := by
  refine ⟨?_, h1, ha, fun h => (words_no z h).2 hq⟩
  have := List.length_pos_of_mem hq
  rw [len_tl] at this
  exact this
theorem nm_1 {z : Str} {c : Nat} (h : z.cps.toList = [c]) (hc : c ∈ abc.cps.toList) : Nm z := by
  have hl : z.length = 1 := by rw [← len_tl, h]; rfl
  refine ⟨by omega, by omega, fun x hx => ?_, fun hw => ?_⟩
  · rw [h] at hx; rw [List.mem_singleton.mp hx]; exact hc
  · have := (words_no z hw).1; rw [len_tl] at this; omega
theorem of_str_dr {S : Store} {n : Nat} {z : Str} (h : Urn S n) (h0 : 0 < z.length) (hl : z.length < 1000000) : Dr S n (m__law_of [.v (.ref n), .v (.str z)] S) fun d => ∃ c, c ∈ z.cps.toList ∧ d = .str ⟨#[c]⟩ := by
  obtain ⟨d, u, e, r, rfl, h1, h2⟩ := take_dr (many := z.length) h (by omega) (by omega)
  have gl : gLen S [.str z] = some (.d (.int z.length)) := by unfold gLen; simp; omega
  have hr : r.toNat < z.cps.toList.length := by rw [len_tl]; omega
  have e3 : ixD (S.set n (uc u)) (.str z) (.int r) = some (.str ⟨#[z.cps.toList[r.toNat]]⟩) := by
    unfold ixD L2.atI L2.ixN
    dsimp only
    rw [if_pos (by omega), if_pos h1, len_tl, if_pos (by omega)]
    show Option.map _ (z.cps.toList[r.toNat]?) = _
    rw [List.getElem?_eq_getElem hr]
    rfl
  refine dr_frz0 (d := .str ⟨#[z.cps.toList[r.toNat]]⟩) (u := u) ?_ rfl ⟨_, List.getElem_mem hr, rfl⟩
  simp only [finM, s__law_of, env0, mRet, mBin, mVar, mCall, mCons, mCB, mNil, Rz.bind, Rz.st, gl, Gv.fin, List.map_cons, List.map_nil, List.cons_append, List.nil_append, List.getElem?_cons_zero, List.getElem?_cons_succ, e, gIx, e3, Option.map_some, So.fin]
/-- one of some numbers -/
theorem of_ints {S : Store} {n : Nat} {is : List Int} (h : Urn S n) (h0 : is ≠ []) (hl : is.length < 1000) : Dr S n (m__law_of [.v (.ref n), .v (.fl (is.map .int))] S) fun d => ∃ i, i ∈ is ∧ d = .int i :=
  (of_dr h (fun e => h0 (List.map_eq_nil_iff.mp e)) (by rw [List.length_map]; omega) fun d hd => by
    obtain ⟨i, _, rfl⟩ := List.mem_map.mp hd
    rfl).imp fun d hd => by
    obtain ⟨i, hi, rfl⟩ := List.mem_map.mp hd
    exact ⟨i, hi, rfl⟩
theorem upto_cons {d : D} {r : List D} {i : Nat} {k : Nat} (h : d :: r = upto i k) : ∃ m, k = m + 1 ∧ d = .int i ∧ r = upto ((i + 1 : Nat) : Int) m := by
  cases k with
  | zero => cases h
  | succ m =>
    unfold upto at h
    injection h with h1 h2
    exact ⟨m, rfl, h1, h2⟩
section
variable {S : Store} {n : Nat} {c : Cell}
theorem atE {ext : Store} (k : Nat) : (S.set n c ++ ext)[S.length + k]? = ext[k]? := by
  rw [List.getElem?_append_right (by simp)]; simp
theorem setE {ext : Store} (k : Nat) (x : Cell) : (S.set n c ++ ext).set (S.length + k) x = S.set n c ++ ext.set k x := by
  rw [List.set_append_right _ _ (by simp)]; simp
end
theorem abc_small : ∀ c ∈ abc.cps.toList, c < 0x110000 := by decide +kernel
theorem Nm.sm {z : Str} (h : Nm z) : Sm 8 0 (.str z) := Sm.str (fun c hc => abc_small c (h.2.2.1 c hc)) h.2.1
theorem pw_get {α : Type} {R : α → α → Prop} {l : List α} (h : l.Pairwise R) (i : Nat) (hi : i + 1 < l.length) : R l[i] l[i + 1] := List.pairwise_iff_getElem.mp h i (i + 1) (by omega) hi (by omega)
theorem gLt_tup {S : Store} {a b : List D} : gLt S (.tup a) (.tup b) = none := rfl
end LW

set_option Elab.async false
set_option linter.all false
set_option maxRecDepth 100000
set_option maxHeartbeats 4000000
namespace LW
open PySem M3
theorem gLen_ref {T : Store} {m : Nat} {l : List D} (h : T[m]? = some (.lst l)) : gLen T [.ref m] = some (.d (.int l.length)) := by
  unfold gLen
  simp [seqOf, tupOf, lstOf, h]
theorem pop_ok {l : List D} {r : Int} (h0 : 0 ≤ r) (h1 : r < l.length) (hl : l.length < 1000000) : ∃ h : r.toNat < l.length, muPopAt l [.int r] = some (l[r.toNat], l.eraseIdx r.toNat) := by
  have hj : r.toNat < l.length := by omega
  refine ⟨hj, ?_⟩
  simp [muPopAt, inRng_of h0 (show r < 1073741824 by omega), L2.ixN, h0, h1, hj]
theorem perm_erase {α : Type} : ∀ (l : List α) (j : Nat) (h : j < l.length), (l[j] :: l.eraseIdx j).Perm l
  | x :: l, 0, _ => .refl _
  | x :: l, j + 1, h => by
    have h' : j < l.length := by simpa using h
    show (l[j] :: x :: l.eraseIdx j).Perm (x :: l)
    exact (List.Perm.swap _ _ _).trans ((perm_erase l j h').cons x)
theorem unlike_dr {S : Store} {n : Nat} {x : D} {ds : List D} {many : Nat} (U : Urn S n) (hL : ∀ T, gListS T [x] = some (.l ds)) (hN : ∀ T, gLen T [x] = some (.d (.int ds.length))) (hc : ∀ d ∈ ds, clD S.length d = true) (hl : ds.length < 1000) (hm : many ≤ ds.length) :
    Dr S n (m__law_unlike [.v (.ref n), .v x, .v (.int many)] S) fun d => ∃ l, d = .fl l ∧ l.Sublist ds ∧ l.length = many := by
  have hn := U.lt
  refine dr_w0 U fun u hu => ?_
  unfold s__law_unlike
  refine s_seq' (s_set' (w_cb (w_cons (w_var rfl (w_nil (w_ga (hL _) (by omega) ?_))))))
  rw [List.append_nil, List.length_set]
  refine s_seq' (s_forW (w_mr1 (w_cons (w_bin (w_cb (w_cons (w_var rfl (w_nil (w_gd (hN _) (w_var rfl (w_gd (x := .int (ds.length - many)) rfl (w_nil ⟨_, rfl, inRng_of (by omega) (by omega), ?_⟩))))))))))))
  refine forG_w (fun ds' env T => ∃ (i k : Nat) (l : List D) (u : Int × Int × Int) (e4 : Option EV), ds' = upto i k ∧ l.Sublist ds ∧ l.length = many + k ∧ env = [some (.v (.ref n)), some (.v x), some (.v (.int many)), some (.v (.ref S.length)), e4] ∧ T = S.set n (uc u) ++ [.lst l]) (fun r env S h => okS_none _ _) ?_ ?_ _ _ _ ⟨0, _, ds, u, none, rfl, List.Sublist.refl _, by omega, rfl, rfl⟩
  · rintro d r env T ⟨i, k, l, u, e4, hd, hs, hlen, rfl, rfl⟩
    obtain ⟨k, rfl, rfl, rfl⟩ := upto_cons hd
    have hsl := hs.length_le
    refine ⟨([some (.v (.ref n)), some (.v x), some (.v (.int many)), some (.v (.ref S.length)), some (.v (.int i))], S.set n (uc u) ++ [.lst l]), rfl, ?_⟩
    refine s_expr' (w_mu (n := S.length) (l0 := l) (w_var rfl ⟨rfl, atE 0, ?_⟩))
    refine w_cons (w_call (w_cons (w_var rfl (w_cons (w_cb (w_cons (w_var rfl (w_nil (w_gd (gLen_ref (atE 0)) (w_nil ?_))))))))))
    refine w_dr hn (take_dr (many := l.length) (Urn.at hn _ _) (by omega) (by omega)) fun d u' ⟨r, e, h0, h1⟩ => ?_
    subst e
    obtain ⟨hj, hp⟩ := pop_ok h0 h1 (by omega)
    exact w_nil ⟨l, _, _, atE 0, hp, i + 1, k, l.eraseIdx r.toNat, u', _, rfl, (List.eraseIdx_sublist _ _).trans hs, by rw [List.length_eraseIdx_of_lt hj]; omega, rfl, setE 0 _⟩
  · rintro env T ⟨i, k, l, u, e4, hd, hs, hlen, rfl, rfl⟩
    have hm : k = 0 := by
      cases k with
      | zero => rfl
      | succ m => cases hd
    subst hm
    with_reducible refine s_ret' ?_
    refine w_var rfl ?_
    exact ⟨u, _, _, rfl, frz_lst (Nat.le_refl _) at_ext0 (clDs_of fun d hd => hc d (hs.subset hd)), l, rfl, hs, by omega⟩
theorem mixed_dr {S : Store} {n : Nat} {x : D} {ds : List D} (U : Urn S n) (hL : ∀ T, gListS T [x] = some (.l ds)) (hN : ∀ T, gLen T [x] = some (.d (.int ds.length))) (hc : ∀ d ∈ ds, clD S.length d = true) (hl : ds.length < 1000) :
    Dr S n (m__law_mixed [.v (.ref n), .v x] S) fun d => ∃ l, d = .fl l ∧ l.Perm ds := by
  have hn := U.lt
  refine dr_w0 U fun u hu => ?_
  unfold s__law_mixed
  refine s_seq' (s_par' (w_cons (w_cb (w_cons (w_var rfl (w_nil (w_ga (hL _) (by omega) ?_)))))))
  rw [List.append_nil, List.length_set]
  refine w_cons (w_nilU (w_nil ⟨_, _, rfl, ?_⟩))
  refine s_seq' (s_forW (w_mr1 (w_cons (w_cb (w_cons (w_var rfl (w_nil (w_gd (hN _) (w_nil ⟨_, rfl, inRng_of (by omega) (by omega), ?_⟩)))))))))
  refine forG_w (fun ds' env T => ∃ (i k : Nat) (L R : List D) (u : Int × Int × Int) (e4 : Option EV), ds' = upto i k ∧ (R ++ L).Perm ds ∧ L.length = k ∧ env = [some (.v (.ref n)), some (.v x), some (.v (.ref S.length)), some (.v (.ref (S.length + 1))), e4] ∧ T = S.set n (uc u) ++ [.lst L, .lst R]) (fun r env S h => okS_none _ _) ?_ ?_ _ _ _ ⟨0, _, ds, [], u, none, rfl, List.Perm.refl _, by omega, rfl, rfl⟩
  · rintro d r env T ⟨i, k, L, R, u, e4, hd, hp, hlen, rfl, rfl⟩
    obtain ⟨k, rfl, rfl, rfl⟩ := upto_cons hd
    have hpl := hp.length_eq
    rw [List.length_append] at hpl
    refine ⟨([some (.v (.ref n)), some (.v x), some (.v (.ref S.length)), some (.v (.ref (S.length + 1))), some (.v (.int i))], S.set n (uc u) ++ [.lst L, .lst R]), rfl, ?_⟩
    refine s_expr' (w_app (n := S.length + 1) (l0 := R) rfl (atE 1) (w_mu (n := S.length) (l0 := L) (w_var rfl ⟨rfl, atE 0, ?_⟩)))
    refine w_cons (w_call (w_cons (w_var rfl (w_cons (w_cb (w_cons (w_var rfl (w_nil (w_gd (gLen_ref (atE 0)) (w_nil ?_))))))))))
    refine w_dr hn (take_dr (many := L.length) (Urn.at hn _ _) (by omega) (by omega)) fun d u' ⟨r, e, h0, h1⟩ => ?_
    subst e
    obtain ⟨hj, hq⟩ := pop_ok h0 h1 (by omega)
    have e1 : (S.set n (uc u') ++ [Cell.lst L, Cell.lst R]).set S.length (.lst (L.eraseIdx r.toNat)) = S.set n (uc u') ++ [Cell.lst (L.eraseIdx r.toNat), Cell.lst R] := setE 0 _
    refine w_nil ⟨L, _, _, atE 0, hq, R, ?_, by omega, i + 1, k, L.eraseIdx r.toNat, R ++ [L[r.toNat]], u', _, rfl, ?_, by rw [List.length_eraseIdx_of_lt hj]; omega, rfl, ?_⟩
    · rw [e1]; exact atE 1
    · rw [List.append_assoc]
      exact ((perm_erase L r.toNat hj).append_left R).trans hp
    · rw [e1]; exact setE 1 _
  · rintro env T ⟨i, k, L, R, u, e4, hd, hp, hlen, rfl, rfl⟩
    have hm : k = 0 := by
      cases k with
      | zero => rfl
      | succ m => cases hd
    subst hm
    have hL0 : L = [] := List.length_eq_zero_iff.mp hlen
    subst hL0
    rw [List.append_nil] at hp
    with_reducible refine s_ret' ?_
    refine w_var rfl ?_
    exact ⟨u, _, _, rfl, frz_lst (by omega) at_ext1 (clDs_of fun d hd => hc d (hp.subset hd)), R, rfl, hp⟩
end LW

set_option Elab.async false
set_option linter.all false
set_option maxRecDepth 100000
set_option maxHeartbeats 4000000
namespace LW
open PySem M3
/-- one of the things of a tuple -/
theorem of_tup {S : Store} {n : Nat} {ds : List D} (h : Urn S n) (h0 : ds ≠ []) (hl : ds.length < 1073741824) (hc : ∀ d ∈ ds, clD S.length d = true) : Dr S n (m__law_of [.v (.ref n), .v (.tup ds)] S) (· ∈ ds) := by
  have hp : 0 < ds.length := List.length_pos_iff.mpr h0
  obtain ⟨d, u, e, r, rfl, h1, h2⟩ := take_dr (many := ds.length) h (by omega) (by omega)
  obtain ⟨x, e2, hx⟩ := atI_mem (ds := ds) h1 h2
  have gl : gLen S [.tup ds] = some (.d (.int ds.length)) := by unfold gLen; simp [seqOf, tupOf, lstOf]
  refine dr_frz0 (d := x) (u := u) ?_ (hc x hx) hx
  have e3 : ixD (S.set n (uc u)) (.tup ds) (.int r) = some x := e2
  simp only [finM, s__law_of, env0, mRet, mBin, mVar, mCall, mCons, mCB, mNil, Rz.bind, Rz.st, gl, Gv.fin, List.map_cons, List.map_nil, List.cons_append, List.nil_append, List.getElem?_cons_zero, List.getElem?_cons_succ, e, gIx, e3, Option.map_some, So.fin]
theorem of_tupI {S : Store} {n : Nat} {is : List Int} (h : Urn S n) (h0 : is ≠ []) (hl : is.length < 1000) : Dr S n (m__law_of [.v (.ref n), .v (.tup (is.map .int))] S) fun d => ∃ i, i ∈ is ∧ d = .int i :=
  (of_tup h (fun e => h0 (List.map_eq_nil_iff.mp e)) (by rw [List.length_map]; omega) fun d hd => by
    obtain ⟨i, _, rfl⟩ := List.mem_map.mp hd
    rfl).imp fun d hd => by
    obtain ⟨i, hi, rfl⟩ := List.mem_map.mp hd
    exact ⟨i, hi, rfl⟩
def TK : List Str := [PySem.Str.ofString "all", PySem.Str.ofString "any", PySem.Str.ofString "apart", PySem.Str.ofString "approve", PySem.Str.ofString "bucket", PySem.Str.ofString "close", PySem.Str.ofString "dark", PySem.Str.ofString "days", PySem.Str.ofString "else", PySem.Str.ofString "flag", PySem.Str.ofString "grant", PySem.Str.ofString "ids", PySem.Str.ofString "issue", PySem.Str.ofString "killed", PySem.Str.ofString "layer", PySem.Str.ofString "may", PySem.Str.ofString "no", PySem.Str.ofString "none", PySem.Str.ofString "not", PySem.Str.ofString "place", PySem.Str.ofString "propose", PySem.Str.ofString "report", PySem.Str.ofString "show", PySem.Str.ofString "split", PySem.Str.ofString "step", PySem.Str.ofString "trait", PySem.Str.ofString "up", PySem.Str.ofString "yes"]
theorem tk_words : ∀ w ∈ z_WORDS, w ∈ TK := by decide +kernel
theorem words_ok {S : Store} : m__law_words [] S = .ok (.fl (TK.map .str)) S := by
  refine pure_eq rfl ?_
  unfold s__law_words
  (repeat (first | with_reducible refine s_seq' ?_ | with_reducible refine s_set' ?_ | with_reducible refine s_par' ?_ | with_reducible refine s_par3' ?_ | with_reducible refine s_asg' ?_ | with_reducible refine s_ifs ?_ | with_reducible refine s_expr' ?_ | with_reducible refine s_ret' ?_ | with_reducible refine s_forW ?_ | with_reducible refine w_cons ?_ | with_reducible refine w_nil ?_ | with_reducible refine w_c ?_ | with_reducible refine w_call ?_ | with_reducible refine w_tup ?_ | with_reducible refine w_lst ?_ | with_reducible refine w_nilU ?_ | with_reducible refine w_bin ?_ | with_reducible refine w_cb ?_ | with_reducible refine w_b ?_ | with_reducible refine w_t ?_ | with_reducible refine w_nt ?_ | with_reducible refine w_at ?_ | with_reducible refine w_ot ?_ | with_reducible refine w_mr1 ?_ | with_reducible refine w_ma ?_ | with_reducible refine w_sl ?_ | with_reducible refine w_oN ?_ | with_reducible refine w_oS ?_ | with_reducible refine w_make ?_ | with_reducible refine w_neg ?_ | with_reducible refine s_fld' ?_ | (guard_target =~ WE _ (mVar _ _ _) _; refine w_var rfl ?_) | with_reducible refine w_gd rfl ?_ | (guard_target =~ And _ _; refine And.intro (Nat.le_of_ble_eq_true rfl) ?_) | (guard_target =~ Exists _; refine ⟨_, _, rfl, ?_⟩) | (guard_target =~ Exists _; refine ⟨_, _, _, rfl, ?_⟩) | (guard_target =~ Exists _; refine ⟨_, rfl, ?_⟩) | (guard_target =~ And _ _; refine And.intro (Eq.refl true) ?_)))
  refine w_gl (gAdd_fl (by decide)) (by decide) ?_
  (repeat (first | with_reducible refine s_seq' ?_ | with_reducible refine s_set' ?_ | with_reducible refine s_par' ?_ | with_reducible refine s_par3' ?_ | with_reducible refine s_asg' ?_ | with_reducible refine s_ifs ?_ | with_reducible refine s_expr' ?_ | with_reducible refine s_ret' ?_ | with_reducible refine s_forW ?_ | with_reducible refine w_cons ?_ | with_reducible refine w_nil ?_ | with_reducible refine w_c ?_ | with_reducible refine w_call ?_ | with_reducible refine w_tup ?_ | with_reducible refine w_lst ?_ | with_reducible refine w_nilU ?_ | with_reducible refine w_bin ?_ | with_reducible refine w_cb ?_ | with_reducible refine w_b ?_ | with_reducible refine w_t ?_ | with_reducible refine w_nt ?_ | with_reducible refine w_at ?_ | with_reducible refine w_ot ?_ | with_reducible refine w_mr1 ?_ | with_reducible refine w_ma ?_ | with_reducible refine w_sl ?_ | with_reducible refine w_oN ?_ | with_reducible refine w_oS ?_ | with_reducible refine w_make ?_ | with_reducible refine w_neg ?_ | with_reducible refine s_fld' ?_ | (guard_target =~ WE _ (mVar _ _ _) _; refine w_var rfl ?_) | with_reducible refine w_gd rfl ?_ | (guard_target =~ And _ _; refine And.intro (Nat.le_of_ble_eq_true rfl) ?_) | (guard_target =~ Exists _; refine ⟨_, _, rfl, ?_⟩) | (guard_target =~ Exists _; refine ⟨_, _, _, rfl, ?_⟩) | (guard_target =~ Exists _; refine ⟨_, rfl, ?_⟩) | (guard_target =~ And _ _; refine And.intro (Eq.refl true) ?_)))
  refine w_gl (gAdd_fl (by decide)) (by decide) ?_
  (repeat (first | with_reducible refine s_seq' ?_ | with_reducible refine s_set' ?_ | with_reducible refine s_par' ?_ | with_reducible refine s_par3' ?_ | with_reducible refine s_asg' ?_ | with_reducible refine s_ifs ?_ | with_reducible refine s_expr' ?_ | with_reducible refine s_ret' ?_ | with_reducible refine s_forW ?_ | with_reducible refine w_cons ?_ | with_reducible refine w_nil ?_ | with_reducible refine w_c ?_ | with_reducible refine w_call ?_ | with_reducible refine w_tup ?_ | with_reducible refine w_lst ?_ | with_reducible refine w_nilU ?_ | with_reducible refine w_bin ?_ | with_reducible refine w_cb ?_ | with_reducible refine w_b ?_ | with_reducible refine w_t ?_ | with_reducible refine w_nt ?_ | with_reducible refine w_at ?_ | with_reducible refine w_ot ?_ | with_reducible refine w_mr1 ?_ | with_reducible refine w_ma ?_ | with_reducible refine w_sl ?_ | with_reducible refine w_oN ?_ | with_reducible refine w_oS ?_ | with_reducible refine w_make ?_ | with_reducible refine w_neg ?_ | with_reducible refine s_fld' ?_ | (guard_target =~ WE _ (mVar _ _ _) _; refine w_var rfl ?_) | with_reducible refine w_gd rfl ?_ | (guard_target =~ And _ _; refine And.intro (Nat.le_of_ble_eq_true rfl) ?_) | (guard_target =~ Exists _; refine ⟨_, _, rfl, ?_⟩) | (guard_target =~ Exists _; refine ⟨_, _, _, rfl, ?_⟩) | (guard_target =~ Exists _; refine ⟨_, rfl, ?_⟩) | (guard_target =~ And _ _; refine And.intro (Eq.refl true) ?_)))
  refine w_gl (gAdd_fl (by decide)) (by decide) ?_
  (repeat (first | with_reducible refine s_seq' ?_ | with_reducible refine s_set' ?_ | with_reducible refine s_par' ?_ | with_reducible refine s_par3' ?_ | with_reducible refine s_asg' ?_ | with_reducible refine s_ifs ?_ | with_reducible refine s_expr' ?_ | with_reducible refine s_ret' ?_ | with_reducible refine s_forW ?_ | with_reducible refine w_cons ?_ | with_reducible refine w_nil ?_ | with_reducible refine w_c ?_ | with_reducible refine w_call ?_ | with_reducible refine w_tup ?_ | with_reducible refine w_lst ?_ | with_reducible refine w_nilU ?_ | with_reducible refine w_bin ?_ | with_reducible refine w_cb ?_ | with_reducible refine w_b ?_ | with_reducible refine w_t ?_ | with_reducible refine w_nt ?_ | with_reducible refine w_at ?_ | with_reducible refine w_ot ?_ | with_reducible refine w_mr1 ?_ | with_reducible refine w_ma ?_ | with_reducible refine w_sl ?_ | with_reducible refine w_oN ?_ | with_reducible refine w_oS ?_ | with_reducible refine w_make ?_ | with_reducible refine w_neg ?_ | with_reducible refine s_fld' ?_ | (guard_target =~ WE _ (mVar _ _ _) _; refine w_var rfl ?_) | with_reducible refine w_gd rfl ?_ | (guard_target =~ And _ _; refine And.intro (Nat.le_of_ble_eq_true rfl) ?_) | (guard_target =~ Exists _; refine ⟨_, _, rfl, ?_⟩) | (guard_target =~ Exists _; refine ⟨_, _, _, rfl, ?_⟩) | (guard_target =~ Exists _; refine ⟨_, rfl, ?_⟩) | (guard_target =~ And _ _; refine And.intro (Eq.refl true) ?_)))
  exact ⟨rfl, rfl⟩
/-- a text's first sign -/
def hd (z : Str) : Nat := z.cps.toList.headD 0
theorem hd_lt {a b : Str} (ha : 1 ≤ a.length) (hb : 1 ≤ b.length) (h : hd a < hd b) : a.cps.toList < b.cps.toList := by
  rw [← len_tl] at ha hb
  unfold hd at h
  cases ea : a.cps.toList with
  | nil => rw [ea] at ha; simp at ha
  | cons x r =>
    cases eb : b.cps.toList with
    | nil => rw [eb] at hb; simp at hb
    | cons y q =>
      rw [ea, eb] at h
      exact List.Lex.rel h
/-- names of unlike first signs, ascending -/
structure Nms (zs : List Str) : Prop where
  nm : ∀ z ∈ zs, Nm z
  hd : zs.Pairwise fun a b => hd a < hd b
theorem Nms.lt {zs : List Str} (h : Nms zs) : zs.Pairwise fun a b => a.cps.toList < b.cps.toList :=
  (List.pairwise_iff_getElem.mpr fun i j hi hj hij => hd_lt (h.nm _ (List.getElem_mem hi)).1 (h.nm _ (List.getElem_mem hj)).1 (List.pairwise_iff_getElem.mp h.hd i j hi hj hij))
theorem lt_nd {zs : List Str} (h : zs.Pairwise fun a b => a.cps.toList < b.cps.toList) : zs.Nodup :=
  h.imp fun {a b} h e => by rw [e] at h; exact absurd h (List.lt_irrefl _)
theorem Nms.nd {zs : List Str} (h : Nms zs) : zs.Nodup := lt_nd h.lt
abbrev A26 : List Nat := abc.cps.toList
abbrev B25 : Str := Txt.slice abc none (some 25)
theorem b25_tl : B25.cps.toList = A26.take 25 := by
  unfold B25
  rw [to_tl (by decide)]
  rfl
theorem b25_lt : (A26.take 25).Pairwise (· < ·) := by decide +kernel
theorem a26_len : A26.length = 26 := by decide +kernel
theorem lp (a b : Str) : (a ++ b).length = a.length + b.length := by rw [← len_tl, cat_tl, List.length_append, len_tl, len_tl]
/-- the name of a text: itself, or without its end and with q -/
def fixN (z : Str) : Str := if z ∈ TK then Txt.slice z none (some 7) ++ "q" else z
theorem fix_nm {z : Str} (h1 : 1 ≤ z.length) (h8 : z.length ≤ 8) (ha : Alph z) : Nm (fixN z) ∧ hd (fixN z) = hd z := by
  unfold fixN
  by_cases h : z ∈ TK
  · rw [if_pos h]
    have et : (Txt.slice z none (some 7) ++ "q").cps.toList = z.cps.toList.take 7 ++ [113] := by
      rw [cat_tl, to_tl (by decide)]
      rfl
    refine ⟨nm_q ?_ (fun c hc => ?_) ?_, ?_⟩
    · rw [← len_tl, et, List.length_append, List.length_take]
      simp
      omega
    · rw [et] at hc
      rcases List.mem_append.mp hc with hc | hc
      · exact ha c (List.mem_of_mem_take hc)
      · rw [List.mem_singleton.mp hc]; exact q_mem
    · rw [et]; simp
    · unfold hd
      rw [et]
      rw [← len_tl] at h1
      cases e : z.cps.toList with
      | nil => rw [e] at h1; simp at h1
      | cons x r => rfl
  · rw [if_neg h]
    exact ⟨⟨h1, h8, ha, fun q => h (tk_words z q)⟩, rfl⟩
theorem in_tk {T : Store} {z : Str} : gIn T (.str z) (.fl (TK.map .str)) = some (.d (.bl (decide (z ∈ TK)))) := by
  show (inD _ _ _).map _ = _
  rw [inD_strs (zs := TK) rfl fun z e => by cases e]
  rfl
theorem draw_abc {T : Store} {r : Int} (h0 : 0 ≤ r) (h1 : r < 26) : ∃ c, c ∈ A26 ∧ gIx T (.str abc) (.int r) = some (.d (.str ⟨#[c]⟩)) := by
  obtain ⟨k, rfl⟩ := Int.eq_ofNat_of_zero_le h0
  have hk : k < 26 := by omega
  have e := abc_get hk
  exact ⟨97 + k, List.mem_of_getElem? e, gIx_str (by rw [abc_len]; decide) e⟩
theorem names_dr {S : Store} {n : Nat} {many : Nat} (U : Urn S n) (hm : many ≤ 10) : Dr S n (m__law_names [.v (.ref n), .v (.int many)] S) fun d => ∃ zs : List Str, d = .fl (zs.map .str) ∧ zs.length = many ∧ Nms zs := by
  have hn := U.lt
  refine dr_w0 U fun u hu => ?_
  unfold s__law_names
  refine s_seq' (s_par' (w_cons (w_nilU (w_cons (w_c (w_nil ⟨_, _, rfl, ?_⟩))))))
  let E : Option EV → Option EV → Option EV → Evs := fun e4 e5 e6 => [some (.v (.ref n)), some (.v (.int many)), some (.v (.ref S.length)), some (.v (.str abc)), e4, e5, e6]
  have hb : B25.length = 25 := by rw [← len_tl, b25_tl, List.length_take, a26_len]; rfl
  with_reducible refine s_seq' ?_
  refine (s_forW (w_ma (w_call (w_cons (w_var rfl (w_cons (w_sl (w_var rfl (w_oN (w_oS (w_c ⟨25, rfl, rfl, w_gd (slD_str (by rw [abc_len]; decide)) (w_cons (w_var rfl (w_nil ?_)))⟩)))))))))))
  refine w_dr hn (unlike_dr (x := .str B25) (ds := signs B25) (many := many) (Urn.at hn _ _) (fun T => ?_) (fun T => ?_) (fun d hd => ?_) ?_ ?_) fun d u1 ⟨l, e, hs, hlen⟩ => ?_
  · show (if B25.length ≤ 16777216 then some (Gv.l (signs B25)) else none) = _
    rw [hb]
    rfl
  · unfold gLen
    have : (signs B25).length = 25 := by unfold signs; rw [List.length_map, len_tl, hb]
    rw [this]
    dsimp only
    rw [hb]
    rfl
  · obtain ⟨c, _, rfl⟩ := List.mem_map.mp hd
    rfl
  · unfold signs
    rw [List.length_map, len_tl, hb]
    decide
  · unfold signs
    rw [List.length_map, len_tl, hb]
    omega
  subst e
  obtain ⟨cs, hcs, rfl⟩ := List.sublist_map_iff.mp hs
  rw [b25_tl] at hcs
  have hlt := b25_lt.sublist hcs
  have hmem : ∀ c ∈ cs, c ∈ A26 := fun c hc => List.mem_of_mem_take (hcs.subset hc)
  rw [List.length_map] at hlen
  refine w_eq rfl ?_
  refine forG_w (fun ds env T => ∃ (cs : List Nat) (zs : List Str) (u : Int × Int × Int) (e4 e5 e6 : Option EV), ds = cs.map (fun c => D.str ⟨#[c]⟩) ∧ zs.length + cs.length = many ∧ cs.Pairwise (· < ·) ∧ (∀ c ∈ cs, c ∈ A26) ∧ Nms zs ∧ (∀ z ∈ zs, ∀ c ∈ cs, hd z < c) ∧ T = S.set n (uc u) ++ [.lst (zs.map .str)] ∧ env = E e4 e5 e6) (fun r env S h => okS_none _ _) ?_ ?_ _ _ _ ⟨cs, [], u1, none, none, none, rfl, by simpa using hlen, hlt, hmem, ⟨(fun z h => by cases h), .nil⟩, (fun z h => by cases h), rfl, rfl⟩
  · rintro d r env T ⟨cs, zs, u, e4, e5, e6, hds, hl, hlt, hmem, Z, hz, rfl, rfl⟩
    cases cs with
    | nil => cases hds
    | cons c cs =>
    obtain ⟨rfl, rfl⟩ := List.cons.inj hds
    rw [List.length_cons] at hl
    obtain ⟨hc1, hc2⟩ := List.pairwise_cons.mp hlt
    refine ⟨(E (some (.v (.str ⟨#[c]⟩))) e5 e6, S.set n (uc u) ++ [.lst (zs.map .str)]), rfl, ?_⟩
    refine s_seq' (s_set' (w_var rfl ?_))
    refine s_mid (fun e T => ∃ (w : Str) (u : Int × Int × Int) (e6 : Option EV), e = E (some (.v (.str ⟨#[c]⟩))) (some (.v (.str w))) e6 ∧ T = S.set n (uc u) ++ [.lst (zs.map .str)] ∧ Alph w ∧ 1 ≤ w.length ∧ w.length ≤ 8 ∧ hd w = c) ?_ ?_
    · refine s_forW (w_mr1 (w_cons (w_call (w_cons (w_var rfl (w_cons (w_tup ?_)))))))
      refine w_cons (w_c (w_cons (w_c (w_cons (w_c (w_cons (w_c (w_cons (w_c (w_cons (w_c (w_nil ⟨Nat.le_of_ble_eq_true rfl, ?_⟩))))))))))))
      refine w_nil ?_
      refine w_dr hn (of_tupI (is := [0, 0, 1, 2, 4, 7]) (Urn.at hn _ _) (by decide) (by decide)) fun d u2 ⟨b, hb, e⟩ => ?_
      subst e
      have hb07 : 0 ≤ b ∧ b ≤ 7 := by
        simp only [List.mem_cons, List.not_mem_nil, or_false] at hb
        omega
      refine w_nil ⟨_, rfl, inRng_of (by omega) (by omega), ?_⟩
      refine forG_w (fun ds env T => ∃ (j m : Nat) (w : Str) (u : Int × Int × Int) (e6 : Option EV), ds = upto j m ∧ j + m = b.toNat ∧ w.length = 1 + j ∧ Alph w ∧ hd w = c ∧ T = S.set n (uc u) ++ [.lst (zs.map .str)] ∧ env = E (some (.v (.str ⟨#[c]⟩))) (some (.v (.str w))) e6) (fun r env S h => okS_none _ _) ?_ ?_ _ _ _ ⟨0, _, ⟨#[c]⟩, u2, e6, rfl, by omega, rfl, (fun x hx => by rw [List.mem_singleton.mp hx]; exact hmem c List.mem_cons_self), rfl, rfl, rfl⟩
      · rintro d r env T ⟨j, m, w, u, e6, hdd, hj, hw, wA, hh, rfl, rfl⟩
        obtain ⟨m, rfl, rfl, rfl⟩ := upto_cons hdd
        refine ⟨(E (some (.v (.str ⟨#[c]⟩))) (some (.v (.str w))) (some (.v (.int j))), S.set n (uc u) ++ [.lst (zs.map .str)]), rfl, ?_⟩
        refine s_set' (w_bin (w_var rfl (w_bin (w_var rfl (w_call (w_cons (w_var rfl (w_cons (w_c (w_nil ?_))))))))))
        refine w_dr hn (take_dr (many := 26) (Urn.at hn _ _) (by omega) (by omega)) fun d u' ⟨r, e, h0, h1⟩ => ?_
        subst e
        obtain ⟨x, hx, ex⟩ := draw_abc (T := S.set n (uc u') ++ [.lst (zs.map .str)]) h0 h1
        refine w_gd ex (w_gd (gAdd_str ?_) ?_)
        · show w.length + 1 ≤ _
          omega
        refine ⟨j + 1, m, w ++ ⟨#[x]⟩, u', _, rfl, by omega, ?_, ?_, ?_, rfl, rfl⟩
        · rw [lp]
          show w.length + 1 = _
          omega
        · intro y hy
          rw [cat_tl] at hy
          rcases List.mem_append.mp hy with hy | hy
          · exact wA y hy
          · rw [List.mem_singleton.mp hy]; exact hx
        · unfold LW.hd at hh ⊢
          rw [cat_tl]
          rw [← len_tl] at hw
          cases e : w.cps.toList with
          | nil => rw [e] at hw; simp at hw; omega
          | cons y q => rw [e] at hh; exact hh
      · rintro env T ⟨j, m, w, u, e6, hd, hj, hw, wA, hh, rfl, rfl⟩
        have hm : m = 0 := by
          cases m with
          | zero => rfl
          | succ m => cases hd
        exact ⟨w, u, e6, rfl, rfl, wA, by omega, by omega, hh⟩
    rintro e T ⟨w, u, e6, rfl, rfl, wA, w1, w8, hh⟩
    refine s_expr' (w_app (n := S.length) (l0 := zs.map .str) rfl (atE 0) ?_)
    have fin : ∃ l, (S.set n (uc u) ++ [Cell.lst (zs.map D.str)])[S.length]? = some (.lst l) ∧ l.length < 16777216 ∧ ∃ (cs' : List Nat) (zs' : List Str) (u' : Int × Int × Int) (e4 e5 e6' : Option EV), cs.map (fun c => D.str ⟨#[c]⟩) = cs'.map (fun c => D.str ⟨#[c]⟩) ∧ zs'.length + cs'.length = many ∧ cs'.Pairwise (· < ·) ∧ (∀ c ∈ cs', c ∈ A26) ∧ Nms zs' ∧ (∀ z ∈ zs', ∀ c ∈ cs', LW.hd z < c) ∧ (S.set n (uc u) ++ [Cell.lst (zs.map D.str)]).set S.length (.lst (l ++ [D.str (fixN w)])) = S.set n (uc u') ++ [.lst (zs'.map .str)] ∧ E (some (.v (.str ⟨#[c]⟩))) (some (.v (.str w))) e6 = E e4 e5 e6' := by
      obtain ⟨f1, f2⟩ := fix_nm w1 w8 wA
      refine ⟨_, atE 0, by rw [List.length_map]; omega, cs, zs ++ [fixN w], u, _, _, _, rfl, by rw [List.length_append, List.length_singleton]; omega, hc2, fun c hc => hmem c (List.mem_cons_of_mem _ hc), ⟨fun z hz => ?_, ?_⟩, fun z hz' c' hc' => ?_, ?_, rfl⟩
      · rcases List.mem_append.mp hz with hz | hz
        · exact Z.nm z hz
        · rw [List.mem_singleton.mp hz]; exact f1
      · refine List.pairwise_append.mpr ⟨Z.hd, List.pairwise_singleton _ _, fun a ha b hb => ?_⟩
        rw [List.mem_singleton.mp hb, f2, hh]
        exact hz a ha c List.mem_cons_self
      · rcases List.mem_append.mp hz' with hz' | hz'
        · exact hz z hz' c' (List.mem_cons_of_mem _ hc')
        · rw [List.mem_singleton.mp hz', f2, hh]; exact hc1 c' hc'
      · refine (setE 0 _).trans ?_
        rw [List.map_append]
        rfl
    refine w_if (w_b (w_bin (w_var rfl (w_call (w_nil (w_eq words_ok (w_gd in_tk ⟨_, rfl, fun h => ?_, fun h => ?_⟩)))))))
    · have hw : w ∈ TK := of_decide_eq_true h
      refine w_bin (w_sl (w_var rfl (w_oN (w_oS (w_c ⟨7, rfl, rfl, w_gd (slD_str (by omega)) (w_c (w_gd (gAdd_str ?_) ?_))⟩)))))
      · rw [← len_tl, to_tl (by decide), List.length_take]
        show _ + 1 ≤ _
        omega
      · have : fixN w = Txt.slice w none (some 7) ++ "q" := if_pos hw
        rw [← this]
        exact fin
    · have hw : w ∉ TK := of_decide_eq_false h
      refine w_var rfl ?_
      have : fixN w = w := if_neg hw
      rw [this] at fin
      exact fin
  · rintro env T ⟨cs, zs, u, e4, e5, e6, hd, hl, hlt, hmem, Z, hz, rfl, rfl⟩
    cases cs with
    | cons c cs => cases hd
    | nil =>
    with_reducible refine s_ret' ?_
    refine w_var rfl ?_
    exact ⟨u, _, _, rfl, frz_lst (Nat.le_refl _) at_ext0 (clDs_of fun d hd => by obtain ⟨z, _, rfl⟩ := List.mem_map.mp hd; rfl), zs, rfl, by simpa using hl, Z⟩
end LW

set_option Elab.async false
set_option linter.all false
set_option maxRecDepth 100000
set_option maxHeartbeats 4000000
namespace LW
open PySem M3
/-! ### layers and flags as data -/
abbrev Ly := Str × Int × Int
abbrev Fg := Str × List Str × Str × Int
abbrev lyD (l : Ly) : D := .tup [.str l.1, .int l.2.1, .int l.2.2]
abbrev fgD (f : Fg) : D := .tup [.str f.1, .tup (f.2.1.map .str), .str f.2.2.1, .int f.2.2.2]
abbrev Tr := Str × List Str
abbrev trD (t : Tr) : D := .tup [.str t.1, .tup (t.2.map .str)]
structure OkL (l : Ly) : Prop where
  nm : Nm l.1
  a : 1 ≤ l.2.1 ∧ l.2.1 ≤ 99
  b : 0 ≤ l.2.2 ∧ l.2.2 ≤ 99
structure OkF (f : Fg) : Prop where
  nm : Nm f.1
  vl : 2 ≤ f.2.1.length ∧ f.2.1.length ≤ 4
  vn : ∀ z ∈ f.2.1, Nm z
  vd : f.2.1.Nodup
  off : f.2.2.1 ∈ f.2.1
  st : 0 ≤ f.2.2.2 ∧ f.2.2.2 ≤ 1
structure OkT (t : Tr) : Prop where
  nm : Nm t.1
  vl : 2 ≤ t.2.length ∧ t.2.length ≤ 4
  vs : Nms t.2
theorem OkL.sm {l : Ly} (h : OkL l) : Sm 30 1 (lyD l) :=
  (Sms.cons h.nm.sm (Sms.cons (Sm.int (w := 7) (k := 0) (by have := h.a; omega) (by have := h.a; omega) (by omega)) (Sms.cons (Sm.int (w := 7) (k := 0) h.b.1 (by have := h.b; omega) (by omega)) Sms.nil))).tup.mono (w := 8 + 1 + (7 + 1 + (7 + 1 + 0))) (by decide) (by decide)
theorem strs_sms {zs : List Str} (h : ∀ z ∈ zs, Nm z) : Sms (zs.length * 9) 0 (zs.map .str) := by
  have := Sms.of (w := 8) (k := 0) (ds := zs.map D.str) fun d hd => by
    obtain ⟨z, hz, rfl⟩ := List.mem_map.mp hd
    exact (h z hz).sm
  rwa [List.length_map] at this
theorem OkF.sm {f : Fg} (h : OkF f) : Sm 80 2 (fgD f) := by
  have h1 : Sm 36 1 (.tup (f.2.1.map .str)) := (strs_sms h.vn).tup.mono (by have := h.vl; omega) (by decide)
  exact (Sms.cons (h.nm.sm.mono (Nat.le_refl _) (by decide)) (Sms.cons h1 (Sms.cons ((h.vn _ h.off).sm.mono (Nat.le_refl _) (by decide)) (Sms.cons (Sm.int (w := 7) (k := 1) h.st.1 (by have := h.st; omega) (by omega)) Sms.nil)))).tup.mono (w := 8 + 1 + (36 + 1 + (8 + 1 + (7 + 1 + 0)))) (by decide) (by decide)
theorem OkT.sm {t : Tr} (h : OkT t) : Sm 50 2 (trD t) := by
  have h1 : Sm 36 1 (.tup (t.2.map .str)) := (strs_sms h.vs.nm).tup.mono (by have := h.vl; omega) (by decide)
  exact (Sms.cons (h.nm.sm.mono (Nat.le_refl _) (by decide)) (Sms.cons h1 Sms.nil)).tup.mono (w := 8 + 1 + (36 + 1 + 0)) (by decide) (by decide)
section
variable {S : Store}
theorem is_one_of_ok {z : Str} {x : D} {zs : List Str} (hx : seqOf S x = some (zs.map .str)) (nx : ∀ y, x ≠ .str y) (h : z ∈ zs) : m_is_one_of [.v (.str z), .v x] S = .ok (.bl true) S := by
  refine pure_eq rfl ?_
  unfold s_is_one_of
  refine s_ret' (w_and (w_cb (w_cons (w_var rfl (w_cons (w_c (w_nil (w_gd (x := .bl true) rfl ⟨_, rfl, fun _ => ?_, fun h => by cases h⟩))))))))
  refine w_bin (w_var rfl (w_var rfl (w_gd (x := .bl true) ?_ ⟨rfl, rfl⟩)))
  show (inD _ _ _).map _ = _
  rw [inD_strs hx nx, decide_eq_true h]
  rfl
theorem is_layer_ok {l : Ly} (h : OkL l) : m_is_layer [.v (lyD l)] S = .ok (.bl true) S := by
  refine pure_eq rfl ?_
  unfold s_is_layer
  refine s_if0 (s_ifs (w_ot (w_nt (w_t (w_call (w_cons (w_var rfl (w_cons (w_c (w_nil (w_eq (is_tuple_of_ok rfl) ⟨true, rfl, (fun h => by cases h), fun _ => ?_⟩))))))))))) ?_
  · refine w_nt (w_t (w_call (w_cons (w_bin (w_var rfl (w_c (w_gd rfl (w_nil (w_eq (is_name_ok h.nm) ⟨true, rfl, (fun h => by cases h), fun _ => s_skip' ⟨rfl, rfl⟩⟩)))))))))
  refine s_ret' (w_and ?_)
  (repeat (first | with_reducible refine s_seq' ?_ | with_reducible refine s_set' ?_ | with_reducible refine s_par' ?_ | with_reducible refine s_par3' ?_ | with_reducible refine s_asg' ?_ | with_reducible refine s_ifs ?_ | with_reducible refine s_expr' ?_ | with_reducible refine s_ret' ?_ | with_reducible refine s_forW ?_ | with_reducible refine w_cons ?_ | with_reducible refine w_nil ?_ | with_reducible refine w_c ?_ | with_reducible refine w_call ?_ | with_reducible refine w_tup ?_ | with_reducible refine w_lst ?_ | with_reducible refine w_nilU ?_ | with_reducible refine w_bin ?_ | with_reducible refine w_cb ?_ | with_reducible refine w_b ?_ | with_reducible refine w_t ?_ | with_reducible refine w_nt ?_ | with_reducible refine w_at ?_ | with_reducible refine w_ot ?_ | with_reducible refine w_mr1 ?_ | with_reducible refine w_ma ?_ | with_reducible refine w_sl ?_ | with_reducible refine w_oN ?_ | with_reducible refine w_oS ?_ | with_reducible refine w_make ?_ | with_reducible refine w_neg ?_ | with_reducible refine s_fld' ?_ | (guard_target =~ WE _ (mVar _ _ _) _; refine w_var rfl ?_) | with_reducible refine w_gd rfl ?_ | (guard_target =~ And _ _; refine And.intro (Nat.le_of_ble_eq_true rfl) ?_) | (guard_target =~ Exists _; refine ⟨_, _, rfl, ?_⟩) | (guard_target =~ Exists _; refine ⟨_, _, _, rfl, ?_⟩) | (guard_target =~ Exists _; refine ⟨_, rfl, ?_⟩) | (guard_target =~ And _ _; refine And.intro (Eq.refl true) ?_)))
  refine w_eq (is_number_ok h.a.1 h.a.2) ⟨true, rfl, fun _ => ?_, fun h => by cases h⟩
  (repeat (first | with_reducible refine s_seq' ?_ | with_reducible refine s_set' ?_ | with_reducible refine s_par' ?_ | with_reducible refine s_par3' ?_ | with_reducible refine s_asg' ?_ | with_reducible refine s_ifs ?_ | with_reducible refine s_expr' ?_ | with_reducible refine s_ret' ?_ | with_reducible refine s_forW ?_ | with_reducible refine w_cons ?_ | with_reducible refine w_nil ?_ | with_reducible refine w_c ?_ | with_reducible refine w_call ?_ | with_reducible refine w_tup ?_ | with_reducible refine w_lst ?_ | with_reducible refine w_nilU ?_ | with_reducible refine w_bin ?_ | with_reducible refine w_cb ?_ | with_reducible refine w_b ?_ | with_reducible refine w_t ?_ | with_reducible refine w_nt ?_ | with_reducible refine w_at ?_ | with_reducible refine w_ot ?_ | with_reducible refine w_mr1 ?_ | with_reducible refine w_ma ?_ | with_reducible refine w_sl ?_ | with_reducible refine w_oN ?_ | with_reducible refine w_oS ?_ | with_reducible refine w_make ?_ | with_reducible refine w_neg ?_ | with_reducible refine s_fld' ?_ | (guard_target =~ WE _ (mVar _ _ _) _; refine w_var rfl ?_) | with_reducible refine w_gd rfl ?_ | (guard_target =~ And _ _; refine And.intro (Nat.le_of_ble_eq_true rfl) ?_) | (guard_target =~ Exists _; refine ⟨_, _, rfl, ?_⟩) | (guard_target =~ Exists _; refine ⟨_, _, _, rfl, ?_⟩) | (guard_target =~ Exists _; refine ⟨_, rfl, ?_⟩) | (guard_target =~ And _ _; refine And.intro (Eq.refl true) ?_)))
  exact w_eq (is_number_ok h.b.1 h.b.2) ⟨rfl, rfl⟩
theorem is_behind_ok {x : D} {z : Str} {bs : List D} {ns : List Str} (hx : ixD S x (.int 0) = some (.str z)) (hn : z ∉ ns) (hp : plDs bs = true) (hd : (pdD (.tup bs)).depth ≤ 64) (hb : bs = [] ∨ ∃ y w, L2.atI bs (-1) = some y ∧ ixD S y (.int 0) = some (.str w) ∧ w.cps.toList < z.cps.toList) : m_is_behind [.v x, .v (.tup bs), .v (.fl (ns.map .str))] S = .ok (.bl true) S := by
  have gx : gIx S x (.int 0) = some (.d (.str z)) := by unfold gIx; rw [hx]; rfl
  refine pure_eq rfl ?_
  unfold s_is_behind
  refine s_ret' (w_and (w_bin (w_bin (w_var rfl (w_c (w_gd gx (w_var rfl (w_gd (x := .bl true) ?_ ⟨_, rfl, fun _ => ?_, fun h => by cases h⟩))))))))
  · show (inD _ _ _).map _ = _
    rw [inD_strs (zs := ns) rfl (fun z e => by cases e), decide_eq_false hn]
    rfl
  refine w_or (w_bin (w_var rfl (w_tup (w_nil ⟨Nat.zero_le _, w_gd (gEq_nil hp hd) ⟨_, rfl, fun _ => ⟨rfl, rfl⟩, fun hb2 => ?_⟩⟩))))
  rcases hb with rfl | ⟨y, w, e1, e2, e3⟩
  · cases hb2
  refine w_bin (w_bin (w_bin (w_var rfl (w_neg (w_c ⟨1, rfl, w_gd (x := y) ?_ (w_c (w_gd (x := .str w) ?_ ?_))⟩)))))
  · show (L2.atI bs (-1)).map _ = _
    rw [e1]
    rfl
  · unfold gIx; rw [e2]; rfl
  refine w_bin (w_var rfl (w_c (w_gd gx (w_gd (x := .bl true) ?_ ⟨rfl, rfl⟩))))
  unfold gLtB gLt
  simp [e3]
theorem are_names_ok {zs : List Str} (hl : 2 ≤ zs.length ∧ zs.length ≤ 4) (hn : ∀ z ∈ zs, Nm z) (nd : zs.Nodup) : m_are_names [.v (.tup (zs.map .str)), .v (.int 2), .v (.int 4)] S = .ok (.bl true) S := by
  have gl : gLen S [.tup (zs.map D.str)] = some (.d (.int zs.length)) := by unfold gLen; simp [seqOf, tupOf, lstOf]
  refine pure_eq rfl ?_
  unfold s_are_names
  refine s_if0 (s_ifs (w_ot (w_nt (w_t (w_cb (w_cons (w_var rfl (w_cons (w_c (w_nil (w_gd (x := .bl true) rfl ⟨true, rfl, (fun h => by cases h), fun _ => ?_⟩))))))))))) ?_
  · refine w_ot (w_nt (w_b (w_chain (w_var rfl (w_cb (w_cons (w_var rfl (w_nil (w_gd gl ⟨true, by show some (Gv.d (.bl (decide ((2 : Int) ≤ zs.length)))) = _; rw [decide_eq_true (by omega)], fun _ => w_var rfl (w_gd (x := .bl true) (by show some (Gv.d (.bl (decide ((zs.length : Int) ≤ 4)))) = _; rw [decide_eq_true (by omega)]) ⟨_, rfl, (fun h => by cases h), fun _ => ?_⟩), fun h => by cases h⟩)))))))))
    refine w_nt (w_t (w_cb (w_cons (w_lcv (w_ma (w_var rfl (w_eq rfl ⟨rfl, by rw [List.length_map]; omega, fun _ => .bl true, fun d hd => ?_, ?_⟩)))))))
    · obtain ⟨z, hz, rfl⟩ := List.mem_map.mp hd
      exact w_call (w_cons (w_var rfl (w_nil (w_eq (is_name_ok (hn z hz)) ⟨rfl, rfl⟩))))
    · exact w_nil (w_gd (gAll_true _) ⟨true, rfl, (fun h => by cases h), fun _ => s_skip' ⟨rfl, rfl⟩⟩)
  refine s_ret' (w_bin ?_)
  have ls : lenSetD S (.tup (zs.map D.str)) = some zs.length := by
    have e1 : seqOf S (.tup (zs.map D.str)) = some (zs.map .str) := rfl
    unfold lenSetD
    rw [e1]
    dsimp only
    have e2 : keysI (zs.map D.str) = none := by
      cases zs with
      | nil => simp at hl
      | cons z zs => rfl
    rw [e2]
    dsimp only
    rw [strsOf_map]
    dsimp only
    rw [if_pos (by omega), dedG_nodup_eq nd]
  have e3 : mLenSet (mVar 0) (env0 4 [.v (.tup (zs.map D.str)), .v (.int 2), .v (.int 4)]) S = .ok (.int zs.length) S := by
    unfold mLenSet
    show (match lenSetD S (.tup (zs.map D.str)) with | some n => Rz.ok (D.int n) S | none => .bad) = _
    rw [ls]
  refine w_eq e3 (w_cb (w_cons (w_var rfl (w_nil (w_gd gl (w_gd (x := .bl true) ?_ ⟨rfl, rfl⟩))))))
  unfold gEq eqD eqF
  simp
theorem is_flag_ok {f : Fg} (h : OkF f) : m_is_flag [.v (fgD f)] S = .ok (.bl true) S := by
  refine pure_eq rfl ?_
  unfold s_is_flag
  refine s_if0 (s_ifs (w_ot (w_nt (w_t (w_call (w_cons (w_var rfl (w_cons (w_c (w_nil (w_eq (is_tuple_of_ok rfl) ⟨true, rfl, (fun h => by cases h), fun _ => ?_⟩))))))))))) ?_
  · refine w_ot (w_nt (w_t (w_call (w_cons (w_bin (w_var rfl (w_c (w_gd rfl (w_nil (w_eq (is_name_ok h.nm) ⟨true, rfl, (fun h => by cases h), fun _ => ?_⟩))))))))))
    refine w_nt (w_t (w_call (w_cons (w_bin (w_var rfl (w_c (w_gd rfl (w_cons (w_c (w_cons (w_c (w_nil (w_eq (are_names_ok h.vl h.vn h.vd) ⟨true, rfl, (fun h => by cases h), fun _ => s_skip' ⟨rfl, rfl⟩⟩)))))))))))))
  refine s_ret' (w_and (w_call (w_cons (w_bin (w_var rfl (w_c (w_gd rfl (w_cons (w_bin (w_var rfl (w_c (w_gd rfl (w_nil (w_eq (is_one_of_ok (zs := f.2.1) rfl (fun y e => by cases e) h.off) ⟨true, rfl, fun _ => ?_, fun h => by cases h⟩))))))))))))))
  refine w_call (w_cons (w_bin (w_var rfl (w_c (w_gd rfl (w_cons (w_c (w_cons (w_c (w_nil (w_eq (is_number_ok h.st.1 h.st.2) ⟨rfl, rfl⟩)))))))))))
theorem zips_tail : ∀ zs : List Str, (zs.Pairwise fun a b => a.cps.toList < b.cps.toList) → ∀ d ∈ zips (zs.map D.str) ((zs.map D.str).drop 1), ∃ a b : Str, d = .tup [.str a, .str b] ∧ a.cps.toList < b.cps.toList
  | [], _, d, h => by cases h
  | [a], _, d, h => by cases h
  | a :: b :: r, hp, d, h => by
    rw [List.pairwise_cons] at hp
    have h : d ∈ D.tup [.str a, .str b] :: zips ((b :: r).map D.str) (((b :: r).map D.str).drop 1) := h
    rcases List.mem_cons.mp h with rfl | h
    · exact ⟨a, b, rfl, hp.1 b List.mem_cons_self⟩
    · exact zips_tail (b :: r) hp.2 d h
theorem zips_len : ∀ (a b : List D), (zips a b).length ≤ a.length
  | [], _ => Nat.zero_le _
  | _ :: _, [] => Nat.zero_le _
  | x :: a, y :: b => by
    show (zips a b).length + 1 ≤ a.length + 1
    have := zips_len a b
    omega
theorem is_ascending_ok {zs : List Str} (hl : zs.length ≤ 100) (h : zs.Pairwise fun a b => a.cps.toList < b.cps.toList) : m_is_ascending [.v (.tup (zs.map .str))] S = .ok (.bl true) S := by
  refine pure_eq rfl ?_
  unfold s_is_ascending
  refine s_ret' (w_cb (w_cons (w_lcg ?_)))
  refine w_bind (w_cons (w_var rfl (w_cons (w_sl (w_var rfl (w_oS (w_c ⟨1, rfl, rfl, w_oN (w_slt (by rw [List.length_map]; omega) (w_nil ?_))⟩)))))))
  rw [cut_from (by decide)]
  refine w_eq rfl ⟨rfl, Nat.le_trans (zips_len _ _) (by rw [List.length_map]; omega), fun _ => .bl true, fun d hd => ?_, w_nil (w_gd (gAll_true _) ⟨rfl, rfl⟩)⟩
  obtain ⟨a, b, rfl, hab⟩ := zips_tail zs h d hd
  refine ⟨_, rfl, w_bin (w_var rfl (w_var rfl (w_gd (x := .bl true) ?_ ⟨rfl, rfl⟩)))⟩
  unfold gLtB gLt
  simp [hab]
theorem is_trait_ok {t : Tr} (h : OkT t) : m_is_trait [.v (trD t)] S = .ok (.bl true) S := by
  refine pure_eq rfl ?_
  unfold s_is_trait
  refine s_if0 (s_ifs (w_ot (w_nt (w_t (w_call (w_cons (w_var rfl (w_cons (w_c (w_nil (w_eq (is_tuple_of_ok rfl) ⟨true, rfl, (fun h => by cases h), fun _ => ?_⟩))))))))))) ?_
  · refine w_ot (w_nt (w_t (w_call (w_cons (w_bin (w_var rfl (w_c (w_gd rfl (w_nil (w_eq (is_name_ok h.nm) ⟨true, rfl, (fun h => by cases h), fun _ => ?_⟩))))))))))
    refine w_nt (w_t (w_call (w_cons (w_bin (w_var rfl (w_c (w_gd rfl (w_cons (w_c (w_cons (w_c (w_nil (w_eq (are_names_ok h.vl h.vs.nm h.vs.nd) ⟨true, rfl, (fun h => by cases h), fun _ => s_skip' ⟨rfl, rfl⟩⟩)))))))))))))
  exact s_ret' (w_call (w_cons (w_bin (w_var rfl (w_c (w_gd rfl (w_nil (w_eq (is_ascending_ok (by have := h.vl; omega) h.vs.lt) ⟨rfl, rfl⟩))))))))
/-- how many tuples of values -/
def prodT (ts : List Tr) : Nat := (ts.map (·.2.length)).prod
theorem groups_ok {ts : List Tr} (hl : ts.length ≤ 100) (hv : ∀ t ∈ ts, OkT t) : m_groups_of [.v (.tup (ts.map trD))] S = .ok (.int (prodT ts)) S := by
  refine pure_eq rfl ?_
  unfold s_groups_of
  refine s_seq' (s_set' (w_c ?_))
  with_reducible refine s_seq' ?_
  refine s_forW (w_ma (w_var rfl (w_eq rfl ?_)))
  refine forG_w (fun ds env T => ∃ (a b : List Tr) (e2 e3 : Option EV), a ++ b = ts ∧ ds = b.map trD ∧ T = S ∧ env = [some (.v (.tup (ts.map trD))), some (.v (.int (prodT a))), e2, e3]) (fun r env S h => okS_none _ _) ?_ ?_ _ _ _ ⟨[], ts, none, none, rfl, rfl, rfl, rfl⟩
  · rintro d r env T ⟨a, b, e2, e3, hab, hds, rfl, rfl⟩
    cases b with
    | nil => cases hds
    | cons t b =>
    obtain ⟨rfl, rfl⟩ := List.cons.inj hds
    have ht := hv t (by rw [← hab]; simp)
    refine ⟨([some (.v (.tup (ts.map trD))), some (.v (.int (prodT a))), some (.v (.str t.1)), some (.v (.tup (t.2.map .str)))], T), rfl, ?_⟩
    have gl : gLen T [.tup (t.2.map D.str)] = some (.d (.int t.2.length)) := by unfold gLen; simp [seqOf, tupOf, lstOf]
    have hm : cMul (prodT a : Int) (t.2.length : Int) = true := by
      unfold cMul
      have := ht.vl
      simp only [Bool.or_eq_true, Bool.and_eq_true, decide_eq_true_eq]
      omega
    with_reducible refine s_set' ?_
    with_reducible refine w_bin ?_
    with_reducible refine w_var (d := .int (prodT a)) rfl ?_
    with_reducible refine w_cb ?_
    with_reducible refine w_cons ?_
    with_reducible refine w_var (d := .tup (t.2.map .str)) rfl ?_
    with_reducible refine w_nil ?_
    with_reducible refine w_gd gl ?_
    with_reducible refine w_gd (x := .int ((prodT a : Int) * t.2.length)) ?_ ?_
    · show (if cMul (prodT a : Int) (t.2.length : Int) = true then some (Gv.d (.int ((prodT a : Int) * t.2.length))) else none) = _
      rw [if_pos hm]
    · refine ⟨a ++ [t], b, some (.v (.str t.1)), some (.v (.tup (t.2.map .str))), by rw [← hab, List.append_assoc]; rfl, rfl, rfl, ?_⟩
      have : (prodT (a ++ [t]) : Int) = (prodT a : Int) * t.2.length := by
        unfold prodT
        simp [List.prod_append]
      rw [this]
      rfl
  · rintro env T ⟨a, b, e2, e3, hab, hds, rfl, rfl⟩
    cases b with
    | cons t b => cases hds
    | nil =>
    rw [List.append_nil] at hab
    subst hab
    with_reducible refine s_ret' ?_
    exact w_var rfl ⟨rfl, rfl⟩
end
end LW

set_option Elab.async false
set_option linter.all false
set_option maxRecDepth 100000
set_option maxHeartbeats 4000000
namespace LW
open PySem M3
section
variable {S : Store}
theorem neq (m : Nat) (i : Nat) (h : i < m) : gEq S (.int i) (.int (m : Nat)) = some (.d (.bl false)) := by
  unfold gEq eqD eqF
  simp
  omega
/-- the one before, told by its name -/
theorem before_ok {xs : List D} {ns : List Str} (hx : ∀ (i : Nat) (h : i < xs.length), ∃ z, ns[i]? = some z ∧ ixD S xs[i] (.int 0) = some (.str z)) (hlt : ns.Pairwise fun a b => a.cps.toList < b.cps.toList) (i : Nat) (hi : i < xs.length) {z : Str} (hz : ns[i]? = some z) : xs.take i = [] ∨ ∃ y w, L2.atI (xs.take i) (-1) = some y ∧ ixD S y (.int 0) = some (.str w) ∧ w.cps.toList < z.cps.toList := by
  rcases Nat.eq_zero_or_pos i with h0 | h0
  · left; rw [h0]; rfl
  · right
    obtain ⟨w, hw, ew⟩ := hx (i - 1) (by omega)
    refine ⟨xs[i - 1], w, last_take h0 hi, ew, ?_⟩
    obtain ⟨h1, e1⟩ := List.getElem?_eq_some_iff.mp hw
    obtain ⟨h2, e2⟩ := List.getElem?_eq_some_iff.mp hz
    rw [← e1, ← e2]
    exact List.pairwise_iff_getElem.mp hlt (i - 1) i h1 h2 (by omega)
structure OkTs (ts : List Tr) : Prop where
  len : ts.length ≤ 3
  ok : ∀ t ∈ ts, OkT t
  lt : (ts.map (·.1)).Pairwise fun a b => a.cps.toList < b.cps.toList
  pr : ∀ i, prodT (ts.take i) ≤ 12
structure OkLs (ns : List Str) (ls : List Ly) : Prop where
  len : ls.length ≤ 3
  ns : ∀ l ∈ ls, l.1 ∉ ns
  ok : ∀ l ∈ ls, OkL l
  lt : (ls.map (·.1)).Pairwise fun a b => a.cps.toList < b.cps.toList
structure OkFs (ns : List Str) (fs : List Fg) : Prop where
  ne : fs ≠ []
  len : fs.length ≤ 4
  ok : ∀ f ∈ fs, OkF f
  lt : (fs.map (·.1)).Pairwise fun a b => a.cps.toList < b.cps.toList
  ns : ∀ f ∈ fs, f.1 ∉ ns
  st : ∀ i, ((fs.take i).map (·.2.2.2)).sum ≤ 2
theorem OkTs.sms {ts : List Tr} (h : OkTs ts) : Sms (ts.length * 51) 2 (ts.map trD) := by
  have := Sms.of (w := 50) (k := 2) (ds := ts.map trD) fun d hd => by
    obtain ⟨l, hl, rfl⟩ := List.mem_map.mp hd
    exact (h.ok l hl).sm
  rwa [List.length_map] at this
theorem OkTs.run {ts : List Tr} (h : OkTs ts) : m_check_traits [.v (.tup (ts.map trD))] S = .ok .non S := by
  refine frzM_cl ?_ rfl
  show (s_check_traits (env0 3 [.v (.tup (ts.map trD))]) S).fin = _
  have hlen := h.len
  have nm : ∀ (i : Nat) (hi : i < (ts.map trD).length), ∃ z, (ts.map (·.1))[i]? = some z ∧ ixD S (ts.map trD)[i] (.int 0) = some (.str z) := fun i hi => by
    have hi' : i < ts.length := by simpa using hi
    exact ⟨ts[i].1, by rw [List.getElem?_map, List.getElem?_eq_getElem hi']; rfl, by rw [List.getElem_map]; rfl⟩
  have w : m_wrong_at cm_check_traits [.v (.tup (ts.map trD)), .v (.int 3), .fn 0 []] S = .ok (.fl []) S := wrong_at_ok (cm := cm_check_traits) (k := 0) (ws := []) (S := S) (xs := ts.map trD) (most := .int (3 : Nat)) (by rw [List.length_map]; omega) (fun i hi => neq 3 i (by rw [List.length_map] at hi; omega)) (fun i hi => by
    have e0 : cm_check_traits 0 = m_c0 := by unfold cm_check_traits; rw [if_pos rfl]
    rw [e0]
    have hi' : i < ts.length := by simpa using hi
    obtain ⟨z, hz, ez⟩ := nm i hi
    refine clo_eq ⟨rfl, rfl⟩ ?_
    unfold s_c0
    refine s_ret' (w_and (w_call (w_cons (w_var rfl (w_nil (w_eq (a := .bl true) (T := S) ?_ ⟨true, rfl, fun _ => ?_, fun h => by cases h⟩))))))
    · show m_is_trait [.v (ts.map trD)[i]] S = _
      rw [List.getElem_map]
      exact is_trait_ok (h.ok _ (List.getElem_mem _))
    refine w_and (w_call (w_cons (w_var rfl (w_cons (w_var rfl (w_cons (w_lst (w_nil ⟨Nat.zero_le _, w_nil (w_eq (T := S) (a := .bl true) ?_ ⟨true, rfl, fun _ => ?_, fun h => by cases h⟩)⟩))))))))
    · exact is_behind_ok (ns := []) ez (fun h => by cases h) (h.sms.tk (by decide)).1 (h.sms.tk (by decide)).2 (before_ok nm h.lt i hi hz)
    · have ht : (ts.map trD).take i ++ [(ts.map trD)[i]] = (ts.take (i + 1)).map trD := by
        rw [List.getElem_map, ← List.map_take, List.take_succ_eq_append_getElem hi', List.map_append]
        rfl
      have g := groups_ok (S := S) (ts := ts.take (i + 1)) (by rw [List.length_take]; omega) fun t ht => h.ok t (List.mem_of_mem_take ht)
      refine w_bin (w_call (w_cons (w_bin (w_var rfl (w_tup (w_cons (w_var rfl (w_nil ⟨Nat.le_of_ble_eq_true rfl, w_catT (by rw [List.length_take, List.length_map]; simp; omega) (w_nil (w_eq (a := .int (prodT (ts.take (i + 1)))) (T := S) ?_ (w_c (w_gd (x := .bl true) ?_ ⟨rfl, rfl⟩))))⟩))))))))
      · rw [ht]; exact g
      · show some (Gv.d (.bl (decide ((prodT (ts.take (i + 1)) : Int) ≤ 12)))) = _
        rw [decide_eq_true (by have := h.pr (i + 1); omega)])
  simp [s_check_traits, mSeq, mNdef, env0, mFor, iMA, mCallF, vD, vF, vNil, mVar, mC, Rz.bind, Rz.st, cnvs, cnvE, M3.atE, w, srcAny, srcOf, forG, So.fin]
theorem OkLs.sms {ns : List Str} {ls : List Ly} (h : OkLs ns ls) : Sms (ls.length * 31) 1 (ls.map lyD) := by
  have := Sms.of (w := 30) (k := 1) (ds := ls.map lyD) fun d hd => by
    obtain ⟨l, hl, rfl⟩ := List.mem_map.mp hd
    exact (h.ok l hl).sm
  rwa [List.length_map] at this
theorem OkFs.sms {ns : List Str} {fs : List Fg} (h : OkFs ns fs) : Sms (fs.length * 81) 2 (fs.map fgD) := by
  have := Sms.of (w := 80) (k := 2) (ds := fs.map fgD) fun d hd => by
    obtain ⟨l, hl, rfl⟩ := List.mem_map.mp hd
    exact (h.ok l hl).sm
  rwa [List.length_map] at this
theorem OkLs.run {ns : List Str} {ls : List Ly} (h : OkLs ns ls) : m_check_layers [.v (.tup (ls.map lyD)), .v (.fl (ns.map .str))] S = .ok .non S := by
  refine frzM_cl ?_ rfl
  show (s_check_layers (env0 4 [.v (.tup (ls.map lyD)), .v (.fl (ns.map .str))]) S).fin = _
  have hlen := h.len
  have nm : ∀ (i : Nat) (hi : i < (ls.map lyD).length), ∃ z, (ls.map (·.1))[i]? = some z ∧ ixD S (ls.map lyD)[i] (.int 0) = some (.str z) := fun i hi => by
    have hi' : i < ls.length := by simpa using hi
    exact ⟨ls[i].1, by rw [List.getElem?_map, List.getElem?_eq_getElem hi']; rfl, by rw [List.getElem_map]; rfl⟩
  have w : m_wrong_at cm_check_layers [.v (.tup (ls.map lyD)), .v (.int 3), .fn 1 [.v (.fl (ns.map .str))]] S = .ok (.fl []) S := wrong_at_ok (cm := cm_check_layers) (k := 1) (ws := [.v (.fl (ns.map .str))]) (S := S) (xs := ls.map lyD) (most := .int (3 : Nat)) (by rw [List.length_map]; omega) (fun i hi => neq 3 i (by rw [List.length_map] at hi; omega)) (fun i hi => by
    have e0 : cm_check_layers 1 = m_c1 := by unfold cm_check_layers; rw [if_pos rfl]
    rw [e0]
    have hi' : i < ls.length := by simpa using hi
    obtain ⟨z, hz, ez⟩ := nm i hi
    have zn : z = ls[i].1 := by
      rw [List.getElem?_map, List.getElem?_eq_getElem hi'] at hz
      exact (Option.some.inj hz).symm
    refine clo_eq ⟨rfl, rfl⟩ ?_
    unfold s_c1
    refine s_ret' (w_and (w_call (w_cons (w_var rfl (w_nil (w_eq (a := .bl true) (T := S) ?_ ⟨true, rfl, fun _ => ?_, fun h => by cases h⟩))))))
    · show m_is_layer [.v (ls.map lyD)[i]] S = _
      rw [List.getElem_map]
      exact is_layer_ok (h.ok _ (List.getElem_mem _))
    · refine w_call (w_cons (w_var rfl (w_cons (w_var rfl (w_cons (w_var rfl (w_nil (w_eq (T := S) ?_ ⟨rfl, rfl⟩))))))))
      exact is_behind_ok ez (by rw [zn]; exact h.ns _ (List.getElem_mem _)) (h.sms.tk (by decide)).1 (h.sms.tk (by decide)).2 (before_ok nm h.lt i hi hz))
  simp [s_check_layers, mSeq, mNdef, env0, mFor, iMA, mCallF, vD, vF, vNil, mVar, mC, Rz.bind, Rz.st, cnvs, cnvE, M3.atE, w, srcAny, srcOf, forG, So.fin]
theorem numbers_map : ∀ is : List Int, numbers (is.map D.int) = some is
  | [] => rfl
  | i :: is => by
    show (numbers (is.map D.int)).map (i :: ·) = _
    rw [numbers_map is]
    rfl
theorem OkFs.run {ns : List Str} {fs : List Fg} (h : OkFs ns fs) : m_check_flags [.v (.tup (fs.map fgD)), .v (.fl (ns.map .str))] S = .ok .non S := by
  refine frzM_cl ?_ rfl
  show (s_check_flags (env0 4 [.v (.tup (fs.map fgD)), .v (.fl (ns.map .str))]) S).fin = _
  have hlen := h.len
  have nm : ∀ (i : Nat) (hi : i < (fs.map fgD).length), ∃ z, (fs.map (·.1))[i]? = some z ∧ ixD S (fs.map fgD)[i] (.int 0) = some (.str z) := fun i hi => by
    have hi' : i < fs.length := by simpa using hi
    exact ⟨fs[i].1, by rw [List.getElem?_map, List.getElem?_eq_getElem hi']; rfl, by rw [List.getElem_map]; rfl⟩
  have w : m_wrong_from_one cm_check_flags [.v (.tup (fs.map fgD)), .v (.int 4), .fn 2 [.v (.fl (ns.map .str))]] S = .ok (.fl []) S := wrong_from_one_ok (cm := cm_check_flags) (k := 2) (ws := [.v (.fl (ns.map .str))]) (S := S) (xs := fs.map fgD) (most := .int (4 : Nat)) (fun e => h.ne (List.map_eq_nil_iff.mp e)) h.sms.pl (Nat.le_trans h.sms.tup.dp (by decide)) (by rw [List.length_map]; omega) (fun i hi => neq 4 i (by rw [List.length_map] at hi; omega)) (fun i hi => by
    have e0 : cm_check_flags 2 = m_c2 := by unfold cm_check_flags; rw [if_pos rfl]
    rw [e0]
    have hi' : i < fs.length := by simpa using hi
    obtain ⟨z, hz, ez⟩ := nm i hi
    have zn : z = fs[i].1 := by
      rw [List.getElem?_map, List.getElem?_eq_getElem hi'] at hz
      exact (Option.some.inj hz).symm
    refine clo_eq ⟨rfl, rfl⟩ ?_
    unfold s_c2
    refine s_if0 (s_ifs (w_ot (w_nt (w_t (w_call (w_cons (w_var rfl (w_nil (w_eq (a := .bl true) (T := S) ?_ ⟨true, rfl, (fun h => by cases h), fun _ => ?_⟩))))))))) ?_
    · show m_is_flag [.v (fs.map fgD)[i]] S = _
      rw [List.getElem_map]
      exact is_flag_ok (h.ok _ (List.getElem_mem _))
    · refine w_nt (w_t (w_call (w_cons (w_var rfl (w_cons (w_var rfl (w_cons (w_var rfl (w_nil (w_eq (a := .bl true) (T := S) ?_ ⟨true, rfl, (fun h => by cases h), fun _ => s_skip' ⟨rfl, rfl⟩⟩))))))))))
      exact is_behind_ok ez (by rw [zn]; exact h.ns _ (List.getElem_mem _)) (h.sms.tk (by decide)).1 (h.sms.tk (by decide)).2 (before_ok nm h.lt i hi hz)
    · have ht : (fs.map fgD).take i ++ [(fs.map fgD)[i]] = (fs.take (i + 1)).map fgD := by
        rw [List.getElem_map, ← List.map_take, List.take_succ_eq_append_getElem hi', List.map_append]
        rfl
      refine s_ret' (w_bin (w_cb (w_cons (w_lcv (w_ma (w_bin (w_var rfl (w_tup (w_cons (w_var rfl (w_nil ⟨Nat.le_of_ble_eq_true rfl, w_catT (by rw [List.length_take, List.length_map]; simp; omega) (w_eq rfl ⟨rfl, by rw [ht, List.length_map, List.length_take]; omega, (fun d => match d with | .tup [_, _, _, x] => x | d => d), fun d hd => ?_, ?_⟩)⟩)))))))))))
      · rw [ht] at hd
        obtain ⟨f, hf, rfl⟩ := List.mem_map.mp hd
        exact w_bin (w_var rfl (w_c (w_gd (gIx_tup (i := 3) rfl) ⟨rfl, rfl⟩)))
      · have e4 : ((fs.map fgD).take i ++ [(fs.map fgD)[i]]).map (fun d => match d with | .tup [_, _, _, x] => x | d => d) = ((fs.take (i + 1)).map (·.2.2.2)).map D.int := by
          rw [ht, List.map_map, List.map_map]
          rfl
        refine w_nil (w_gd (x := .int ((fs.take (i + 1)).map (·.2.2.2)).sum) ?_ (w_c (w_gd (x := .bl true) ?_ ⟨rfl, rfl⟩)))
        · show (numbers (((fs.map fgD).take i ++ [(fs.map fgD)[i]]).map (fun d => match d with | .tup [_, _, _, x] => x | d => d))).map (fun bs : List Int => Gv.d (.int bs.sum)) = _
          rw [e4, numbers_map]
          rfl
        · show some (Gv.d (.bl (decide (((fs.take (i + 1)).map (·.2.2.2)).sum ≤ 2)))) = _
          rw [decide_eq_true (h.st _)])
  simp [s_check_flags, mSeq, mNdef, env0, mFor, iMA, mCallF, vD, vF, vNil, mVar, mC, Rz.bind, Rz.st, cnvs, cnvE, M3.atE, w, srcAny, srcOf, forG, So.fin]
end
end LW

set_option Elab.async false
set_option linter.all false
set_option maxRecDepth 100000
set_option maxHeartbeats 4000000
namespace LW
open PySem M3
theorem seqOf_fl {S : Store} (ds : List D) : seqOf S (.fl ds) = some ds := rfl
/-- the first of a tuple -/
def hd0 : D → D
  | .tup (x :: _) => x
  | d => d
theorem hd0_ly (ls : List Ly) : (ls.map lyD).map hd0 = (ls.map (·.1)).map D.str := by
  rw [List.map_map, List.map_map]
  rfl
theorem hd0_tr (ts : List Tr) : (ts.map trD).map hd0 = (ts.map (·.1)).map D.str := by
  rw [List.map_map, List.map_map]
  rfl
abbrev frD (p : D) : D := .ob "Frame" [("_parts", p)]
def fpD (ts : List Tr) (ls : List Ly) (fs : List Fg) (e : Int) : D := .tup [.tup (ts.map trD), .tup (ls.map lyD), .tup (fs.map fgD), .int e]
structure Fr (ts : List Tr) (ls : List Ly) (fs : List Fg) (e : Int) : Prop where
  t : OkTs ts
  l : OkLs (ts.map (·.1)) ls
  f : OkFs (ts.map (·.1) ++ ls.map (·.1)) fs
  e : 0 ≤ e ∧ e ≤ 20
section
variable {S : Store} {ts : List Tr} {ls : List Ly} {fs : List Fg} {e : Int}
theorem Fr.sm (r : Fr ts ls fs e) : Sm 1000 4 (fpD ts ls fs e) := by
  have h2 : Sm 93 3 (.tup (ls.map lyD)) := r.l.sms.tup.mono (by have := r.l.len; omega) (by decide)
  have h3 : Sm 324 3 (.tup (fs.map fgD)) := r.f.sms.tup.mono (by have := r.f.len; omega) (by decide)
  have h1 : Sm 153 3 (.tup (ts.map trD)) := r.t.sms.tup.mono (by have := r.t.len; omega) (by decide)
  exact (Sms.cons h1 (Sms.cons h2 (Sms.cons h3 (Sms.cons (Sm.int (w := 7) (k := 3) r.e.1 (by have := r.e; omega) (by omega)) Sms.nil)))).tup.mono (w := 153 + 1 + (93 + 1 + (324 + 1 + (7 + 1 + 0)))) (by decide) (by decide)
theorem check_number_ok {i a b : Int} (h1 : a ≤ i) (h2 : i ≤ b) : m_check_number [.v (.int i), .v (.int a), .v (.int b)] S = .ok .non S := by
  refine pure_eq rfl ?_
  unfold s_check_number
  refine s_ifs (w_nt (w_t ?_))
  (repeat (first | with_reducible refine s_seq' ?_ | with_reducible refine s_set' ?_ | with_reducible refine s_par' ?_ | with_reducible refine s_par3' ?_ | with_reducible refine s_asg' ?_ | with_reducible refine s_ifs ?_ | with_reducible refine s_expr' ?_ | with_reducible refine s_ret' ?_ | with_reducible refine s_forW ?_ | with_reducible refine w_cons ?_ | with_reducible refine w_nil ?_ | with_reducible refine w_c ?_ | with_reducible refine w_call ?_ | with_reducible refine w_tup ?_ | with_reducible refine w_lst ?_ | with_reducible refine w_nilU ?_ | with_reducible refine w_bin ?_ | with_reducible refine w_cb ?_ | with_reducible refine w_b ?_ | with_reducible refine w_t ?_ | with_reducible refine w_nt ?_ | with_reducible refine w_at ?_ | with_reducible refine w_ot ?_ | with_reducible refine w_mr1 ?_ | with_reducible refine w_ma ?_ | with_reducible refine w_sl ?_ | with_reducible refine w_oN ?_ | with_reducible refine w_oS ?_ | with_reducible refine w_make ?_ | with_reducible refine w_neg ?_ | with_reducible refine s_fld' ?_ | (guard_target =~ WE _ (mVar _ _ _) _; refine w_var rfl ?_) | with_reducible refine w_gd rfl ?_ | (guard_target =~ And _ _; refine And.intro (Nat.le_of_ble_eq_true rfl) ?_) | (guard_target =~ Exists _; refine ⟨_, _, rfl, ?_⟩) | (guard_target =~ Exists _; refine ⟨_, _, _, rfl, ?_⟩) | (guard_target =~ Exists _; refine ⟨_, rfl, ?_⟩) | (guard_target =~ And _ _; refine And.intro (Eq.refl true) ?_)))
  exact w_eq (is_number_ok h1 h2) ⟨true, rfl, (fun h => by cases h), fun _ => s_skip' ⟨rfl, rfl⟩⟩
theorem Fr.init (r : Fr ts ls fs e) : m_Frame___init__ [.v (.ref S.length), .v (.tup (ts.map trD)), .v (.tup (ls.map lyD)), .v (.tup (fs.map fgD)), .v (.int e)] (S ++ [.ins "Frame" []]) = .ok .non (S ++ [.ins "Frame" [("_parts", fpD ts ls fs e)]]) := by
  refine init_eq r.sm.cl ?_
  have hl := r.l.len
  have ht := r.t.len
  unfold s_Frame___init__
  refine s_seq' (s_expr' (w_call (w_cons (w_var rfl (w_nil (w_eq r.t.run ?_))))))
  refine s_seq' (s_set' (w_lcv (w_ma (w_var rfl (w_eq rfl ⟨rfl, by rw [List.length_map]; omega, hd0, fun d hd => ?_, ?_⟩)))))
  · obtain ⟨l, hl, rfl⟩ := List.mem_map.mp hd
    exact w_bin (w_var rfl (w_c (w_gd (gIx_tup (i := 0) rfl) ⟨rfl, rfl⟩)))
  rw [show (([], ts.map trD) : Src).2.map hd0 = (ts.map (·.1)).map D.str from hd0_tr ts]
  refine s_seq' (s_expr' (w_call (w_cons (w_var rfl (w_cons (w_var rfl (w_nil (w_eq r.l.run ?_))))))))
  refine s_seq' (s_expr' (w_call (w_cons (w_var rfl (w_cons (w_bin (w_var rfl (w_lcv (w_ma (w_var rfl (w_eq rfl ⟨rfl, by rw [List.length_map]; omega, hd0, fun d hd => ?_, ?_⟩)))))))))))
  · obtain ⟨l, hl, rfl⟩ := List.mem_map.mp hd
    exact w_bin (w_var rfl (w_c (w_gd (gIx_tup (i := 0) rfl) ⟨rfl, rfl⟩)))
  · have e2 : gAdd (S ++ [Cell.ins "Frame" []]) (.fl ((ts.map (·.1)).map D.str)) (.fl ((ls.map lyD).map hd0)) = some (.l ((ts.map (·.1) ++ ls.map (·.1)).map D.str)) := by
      rw [hd0_ly, List.map_append]
      exact gAdd_fl (by simp; omega)
    refine w_gl e2 (by simp; omega) (w_nil (w_eq r.f.run ?_))
    refine s_seq' (s_expr' (w_call (w_cons (w_var rfl (w_cons (w_c (w_cons (w_c (w_nil (w_eq (check_number_ok r.e.1 r.e.2) ?_))))))))))
    refine s_fld' ?_
    (repeat (first | with_reducible refine s_seq' ?_ | with_reducible refine s_set' ?_ | with_reducible refine s_par' ?_ | with_reducible refine s_par3' ?_ | with_reducible refine s_asg' ?_ | with_reducible refine s_ifs ?_ | with_reducible refine s_expr' ?_ | with_reducible refine s_ret' ?_ | with_reducible refine s_forW ?_ | with_reducible refine w_cons ?_ | with_reducible refine w_nil ?_ | with_reducible refine w_c ?_ | with_reducible refine w_call ?_ | with_reducible refine w_tup ?_ | with_reducible refine w_lst ?_ | with_reducible refine w_nilU ?_ | with_reducible refine w_bin ?_ | with_reducible refine w_cb ?_ | with_reducible refine w_b ?_ | with_reducible refine w_t ?_ | with_reducible refine w_nt ?_ | with_reducible refine w_at ?_ | with_reducible refine w_ot ?_ | with_reducible refine w_mr1 ?_ | with_reducible refine w_ma ?_ | with_reducible refine w_sl ?_ | with_reducible refine w_oN ?_ | with_reducible refine w_oS ?_ | with_reducible refine w_make ?_ | with_reducible refine w_neg ?_ | with_reducible refine s_fld' ?_ | (guard_target =~ WE _ (mVar _ _ _) _; refine w_var rfl ?_) | with_reducible refine w_gd rfl ?_ | (guard_target =~ And _ _; refine And.intro (Nat.le_of_ble_eq_true rfl) ?_) | (guard_target =~ Exists _; refine ⟨_, _, rfl, ?_⟩) | (guard_target =~ Exists _; refine ⟨_, _, _, rfl, ?_⟩) | (guard_target =~ Exists _; refine ⟨_, rfl, ?_⟩) | (guard_target =~ And _ _; refine And.intro (Eq.refl true) ?_)))
    exact ⟨S.length, "Frame", [], rfl, by simp, rfl, Nat.zero_lt_succ _, rfl⟩
theorem Fr.make (r : Fr ts ls fs e) : mkA false "Frame" m_Frame___init__ [.v (.tup (ts.map trD)), .v (.tup (ls.map lyD)), .v (.tup (fs.map fgD)), .v (.int e)] S = .ok (frD (fpD ts ls fs e)) S := mk_ob r.init r.sm.cl
theorem check_frame_ok {p : D} : m_check_frame [.v (frD p)] S = .ok .non S := by
  refine pure_eq rfl ?_
  unfold s_check_frame
  refine s_ifs (w_nt (w_t (w_cb (w_cons (w_var rfl (w_cons (w_c (w_nil (w_gd (x := .bl true) ?_ ⟨true, rfl, (fun h => by cases h), fun _ => s_skip' ⟨rfl, rfl⟩⟩)))))))))
  unfold gIsiC KCS
  simp [insOf]
theorem layers_ok {a b c d : D} (hb : clD S.length b = true) : m_Frame_layers [.v (frD (.tup [a, b, c, d]))] S = .ok b S := by
  refine frzM_cl ?_ hb
  simp [finM, s_Frame_layers, env0, mRet, mBin, mAttr, mVar, mC, Rz.bind, Rz.st, insOf, gIx, ixD, seqOf, tupOf, L2.atI, L2.ixN, Gv.fin, So.fin]
theorem traits_ok {a b c d : D} (hb : clD S.length a = true) : m_Frame_traits [.v (frD (.tup [a, b, c, d]))] S = .ok a S := by
  refine frzM_cl ?_ hb
  simp [finM, s_Frame_traits, env0, mRet, mBin, mAttr, mVar, mC, Rz.bind, Rz.st, insOf, gIx, ixD, seqOf, tupOf, L2.atI, L2.ixN, Gv.fin, So.fin]
theorem flags_ok {a b c d : D} (hb : clD S.length c = true) : m_Frame_flags [.v (frD (.tup [a, b, c, d]))] S = .ok c S := by
  refine frzM_cl ?_ hb
  simp [finM, s_Frame_flags, env0, mRet, mBin, mAttr, mVar, mC, Rz.bind, Rz.st, insOf, gIx, ixD, seqOf, tupOf, L2.atI, L2.ixN, Gv.fin, So.fin]
theorem end_ok {a b c d : D} (hb : clD S.length d = true) : m_Frame_end [.v (frD (.tup [a, b, c, d]))] S = .ok d S := by
  refine frzM_cl ?_ hb
  simp [finM, s_Frame_end, env0, mRet, mBin, mAttr, mVar, mC, Rz.bind, Rz.st, insOf, gIx, ixD, seqOf, tupOf, L2.atI, L2.ixN, Gv.fin, So.fin]
theorem parts_ok {p : D} (hb : clD S.length p = true) : m_Frame_parts [.v (frD p)] S = .ok p S := by
  refine frzM_cl ?_ hb
  simp [finM, s_Frame_parts, env0, mRet, mAttr, mVar, Rz.bind, Rz.st, insOf, So.fin]
/-- an attribute of the frame -/
theorem w_atFr {X : XP} {env : Evs} {P : D → Store → Prop} {me : EM} {f : Str} {fm : FM} {p x : D} (hx : ∀ S : Store, fm [.v (frD p)] S = .ok x S) (h : WE X (me env S) fun d S1 => d = frD p ∧ P x S1) : WE X (mAttr [("Frame", fm)] [] f me env S) P :=
  w_prop (h.imp fun d S1 h => by
    obtain ⟨rfl, q⟩ := h
    exact ⟨"Frame", _, fm, _, _, rfl, rfl, hx S1, q⟩)
theorem Fr.traits_ (r : Fr ts ls fs e) (S : Store) : m_Frame_traits [.v (frD (fpD ts ls fs e))] S = .ok (.tup (ts.map trD)) S := traits_ok r.t.sms.tup.cl
theorem Fr.layers_ (r : Fr ts ls fs e) (S : Store) : m_Frame_layers [.v (frD (fpD ts ls fs e))] S = .ok (.tup (ls.map lyD)) S := layers_ok r.l.sms.tup.cl
theorem Fr.flags_ (r : Fr ts ls fs e) (S : Store) : m_Frame_flags [.v (frD (fpD ts ls fs e))] S = .ok (.tup (fs.map fgD)) S := flags_ok r.f.sms.tup.cl
theorem Fr.end_ (r : Fr ts ls fs e) (S : Store) : m_Frame_end [.v (frD (fpD ts ls fs e))] S = .ok (.int e) S := end_ok rfl
theorem Fr.parts_ (r : Fr ts ls fs e) (S : Store) : m_Frame_parts [.v (frD (fpD ts ls fs e))] S = .ok (fpD ts ls fs e) S := parts_ok r.sm.cl
/-- frame.layers -/
theorem w_layers {X : XP} {env : Evs} {P : D → Store → Prop} {me : EM} (r : Fr ts ls fs e) (h : WE X (me env S) fun d S1 => d = frD (fpD ts ls fs e) ∧ P (.tup (ls.map lyD)) S1) : WE X (mAttr [("Frame", m_Frame_layers)] [] "layers" me env S) P :=
  w_prop (h.imp fun d S1 h => by
    obtain ⟨rfl, p⟩ := h
    exact ⟨"Frame", _, m_Frame_layers, _, _, rfl, rfl, layers_ok (a := .tup (ts.map trD)) (c := .tup (fs.map fgD)) (d := .int e) r.l.sms.tup.cl, p⟩)
theorem check_layer_ok (r : Fr ts ls fs e) {l : Ly} (h : l ∈ ls) : m_check_layer [.v (frD (fpD ts ls fs e)), .v (.str l.1)] S = .ok .non S := by
  have hl := r.l.len
  refine pure_eq rfl ?_
  unfold s_check_layer
  refine s_ifs (w_nt (w_t (w_call (w_cons (w_var rfl (w_cons (w_lcv (w_ma (w_layers r (w_var rfl ⟨rfl, w_eq rfl ⟨rfl, by rw [List.length_map]; omega, hd0, fun d hd => ?_, ?_⟩⟩))))))))))
  · obtain ⟨l, hl, rfl⟩ := List.mem_map.mp hd
    exact w_bin (w_var rfl (w_c (w_gd (gIx_tup (i := 0) rfl) ⟨rfl, rfl⟩)))
  · refine w_nil (w_eq (T := S) (a := .bl true) ?_ ⟨true, rfl, (fun h => by cases h), fun _ => s_skip' ⟨rfl, rfl⟩⟩)
    show m_is_one_of [.v (.str l.1), .v (.fl ((ls.map lyD).map hd0))] S = _
    rw [hd0_ly]
    have q := is_one_of_ok (S := S) (z := l.1) (x := D.fl ((ls.map (·.1)).map D.str)) (zs := ls.map (·.1)) (seqOf_fl _) (fun y e => by cases e) (List.mem_map.mpr ⟨l, h, rfl⟩)
    exact q
/-- the bucket of an ID in a layer -/
def bk (l : Ly) (n : Int) : Int := (l.2.1 * n + l.2.2) % 100
theorem names_nd {ns : List Str} (h : OkLs ns ls) : ls.Pairwise fun a b => a.1 ≠ b.1 := (List.pairwise_map.mp h.lt).imp fun {a b} h e => by rw [e] at h; exact absurd h (List.lt_irrefl _)
theorem filter_name : ∀ {ls : List Ly}, ls.Pairwise (fun a b => a.1 ≠ b.1) → ∀ {l : Ly}, l ∈ ls → ls.filter (fun x => decide (x.1 = l.1)) = [l]
  | x :: ls, h, l, hl => by
    rw [List.pairwise_cons] at h
    rcases List.mem_cons.mp hl with rfl | hl
    · rw [List.filter_cons_of_pos (by simp)]
      congr 1
      refine List.filter_eq_nil_iff.mpr fun y hy e => ?_
      exact h.1 y hy (of_decide_eq_true e).symm
    · rw [List.filter_cons_of_neg (by simpa using h.1 l hl)]
      exact filter_name h.2 hl
theorem bucket_of_ok (r : Fr ts ls fs e) {l : Ly} (h : l ∈ ls) {n : Int} (hn : 0 ≤ n ∧ n < 100) : m_bucket_of [.v (frD (fpD ts ls fs e)), .v (.str l.1), .v (.int n)] S = .ok (.int (bk l n)) S := by
  have hl := r.l.len
  refine pure_eq rfl ?_
  unfold s_bucket_of
  refine s_seq' (s_asg' (w_bin (w_lcf (w_ma (w_layers r (w_var rfl ⟨rfl, w_eq rfl ⟨rfl, by rw [List.length_map]; omega, (fun d => match d with | .tup (.str z :: _) => decide (z = l.1) | _ => false), (fun d => d), fun d hd => ?_, fun d hd hp => w_var rfl ⟨rfl, rfl⟩, ?_⟩⟩))))))
  · obtain ⟨x, hx, rfl⟩ := List.mem_map.mp hd
    exact w_b (w_bin (w_bin (w_var rfl (w_c (w_gd (gIx_tup (i := 0) rfl) (w_var rfl (w_gd (x := .bl (decide (x.1 = l.1))) rfl ⟨_, rfl, rfl, rfl⟩)))))))
  · have e1 : ((ls.map lyD).filter (fun d => match d with | .tup (.str z :: _) => decide (z = l.1) | _ => false)).map (fun d => d) = [lyD l] := by
      rw [List.map_id', List.filter_map]
      show (ls.filter (fun x => decide (x.1 = l.1))).map lyD = _
      rw [filter_name (names_nd r.l) h]
      rfl
    rw [e1]
    refine w_c ?_
    refine w_gd (x := lyD l) (gIx_fl (i := 0) rfl) ?_
    refine ⟨([some (.v (frD (fpD ts ls fs e))), some (.v (.str l.1)), some (.v (.int n)), some (.v (.str l.1)), some (.v (.int l.2.1)), some (.v (.int l.2.2)), none], S), rfl, ?_⟩
    refine s_ret' (w_bin (w_bin (w_bin (w_var rfl (w_var rfl (w_gd (x := .int (l.2.1 * n)) ?_ (w_var rfl (w_gd rfl (w_c (w_gd rfl ⟨rfl, rfl⟩))))))))))
    show (if cMul l.2.1 n = true then some (Gv.d (.int (l.2.1 * n))) else none) = _
    rw [if_pos]
    unfold cMul
    simp only [Bool.or_eq_true, Bool.and_eq_true, decide_eq_true_eq]
    omega
end
end LW

set_option Elab.async false
set_option linter.all false
set_option maxRecDepth 100000
set_option maxHeartbeats 4000000
namespace LW
open PySem M3
theorem prodT_cons (t : Tr) (ts : List Tr) : prodT (t :: ts) = t.2.length * prodT ts := by unfold prodT; rw [List.map_cons, List.prod_cons]
theorem prodT_snoc (ts : List Tr) (t : Tr) : prodT (ts ++ [t]) = prodT ts * t.2.length := by unfold prodT; simp [List.prod_append]
theorem prodT_take : ∀ (ts : List Tr) (i : Nat), (∀ t ∈ ts, OkT t) → prodT (ts.take i) ≤ prodT ts ∧ 1 ≤ prodT ts
  | [], i, _ => by rw [List.take_nil]; exact ⟨Nat.le_refl _, Nat.le_refl _⟩
  | t :: ts, 0, h => by
    obtain ⟨_, h1⟩ := prodT_take ts 0 fun x hx => h x (List.mem_cons_of_mem _ hx)
    have := (h t List.mem_cons_self).vl
    rw [prodT_cons]
    have h2 : 1 * 1 ≤ t.2.length * prodT ts := Nat.mul_le_mul (by omega) h1
    exact ⟨h2, h2⟩
  | t :: ts, i + 1, h => by
    obtain ⟨h0, h1⟩ := prodT_take ts i fun x hx => h x (List.mem_cons_of_mem _ hx)
    have := (h t List.mem_cons_self).vl
    rw [List.take_succ_cons, prodT_cons, prodT_cons]
    have h2 : 1 * 1 ≤ t.2.length * prodT ts := Nat.mul_le_mul (by omega) h1
    exact ⟨Nat.mul_le_mul_left _ h0, h2⟩
/-- one trait more -/
structure TsI (ts : List Tr) (done : List Str) : Prop where
  ok : ∀ t ∈ ts, OkT t
  sub : (ts.map (·.1)).Sublist done
  pr : prodT ts ≤ 12
theorem TsI.ok_ {ts : List Tr} {ys : List Str} (h : TsI ts ys) (hl : ys.length ≤ 3) (hp : ys.Pairwise fun a b => a.cps.toList < b.cps.toList) : OkTs ts :=
  ⟨by have := h.sub.length_le; rw [List.length_map] at this; omega, h.ok, hp.sublist h.sub, fun i => Nat.le_trans (prodT_take ts i h.ok).1 h.pr⟩
theorem strs_cl {L : Nat} {zs : List Str} : ∀ d ∈ zs.map D.str, clD L d = true := fun d hd => by
  obtain ⟨z, _, rfl⟩ := List.mem_map.mp hd
  rfl
theorem mixed_names {S : Store} {n : Nat} {zs : List Str} (U : Urn S n) (hl : zs.length < 1000) : Dr S n (m__law_mixed [.v (.ref n), .v (.fl (zs.map .str))] S) fun d => ∃ ys : List Str, d = .fl (ys.map .str) ∧ ys.Perm zs :=
  (mixed_dr (x := .fl (zs.map .str)) (ds := zs.map .str) U (fun T => rfl) (fun T => by unfold gLen; simp [seqOf, tupOf, lstOf]) strs_cl (by rw [List.length_map]; exact hl)).imp fun d ⟨l, e, hp⟩ => by
    obtain ⟨ys, rfl, p⟩ := perm_map_inv D.str hp
    exact ⟨ys, e, p⟩
theorem sort_names {T : Store} {zs : List Str} (hn : ∀ z ∈ zs, Nm z) (nd : zs.Nodup) (hl : zs.length ≤ 1000) : ∃ ys : List Str, gSorted T [.fl (zs.map .str)] = some (.l (ys.map .str)) ∧ ys.Perm zs ∧ ys.Pairwise fun a b => a.cps.toList < b.cps.toList :=
  gSorted_strs (x := .fl (zs.map .str)) rfl (fun z hz => (hn z hz).sm.pl) (by omega) nd
theorem slD_fl {T : Store} {ds : List D} {lo hi : Option Int} : slD T (.fl ds) lo hi = some (.l (cutD ds lo hi)) := rfl
theorem gTuple_fl {T : Store} {ds : List D} : gTuple T [.fl ds] = some (.t ds) := rfl
section
variable {S : Store} {n : Nat} {zs : List Str} {g : Bool} {m : Int}
abbrev EF (S : Store) (n : Nat) (zs : List Str) (g : Bool) (m : Int) (p : Nat) (e6 e7 e8 e9 e10 e11 e12 : Option EV) : Evs := [some (.v (.ref n)), some (.v (.bl g)), some (.v (.int m)), some (.v (.ref S.length)), some (.v (.int p)), some (.v (.fl (zs.map .str))), e6, e7, e8, e9, e10, e11, e12]
/-- the names of the traits -/
theorem seg1 {X : XP} {u : Int × Int × Int} {ext : Store} {p : Nat} {e6 e7 e8 e9 e10 e11 e12 : Option EV} (hn : n < S.length) (hm : 1 ≤ m ∧ m ≤ 3) (hl : zs.length = 10) {P : D → Store → Prop} (h : ∀ k u', k ≤ 3 → P (.fl ((zs.take k).map .str)) (S.set n (uc u') ++ ext)) :
    WE X (mIf (mTO KCS (mVar 1)) (mSl false (mVar 5) mONone (mOSome (mC (.int 3)))) (mSl false (mVar 5) mONone (mOSome (mCall m__law_draw (mCons (mVar 0) (mCons (mBin false gAdd (mVar 2) (mC (.int 1))) mNil))))) (EF S n zs g m p e6 e7 e8 e9 e10 e11 e12) (S.set n (uc u) ++ ext)) P := by
  refine w_if (w_to (w_var rfl ⟨g, rfl, fun _ => ?_, fun _ => ?_⟩))
  · refine w_sl (w_var rfl (w_oN (w_oS (w_c ⟨3, rfl, rfl, w_gl slD_fl ?_ ?_⟩))))
    · rw [cut_to (by decide), List.length_take, List.length_map]; omega
    · rw [cut_to (by decide), ← List.map_take]
      exact h 3 u (by decide)
  · refine w_sl (w_var rfl (w_oN (w_oS (w_call (w_cons (w_var rfl (w_cons (w_bin (w_var rfl (w_c (w_gd rfl (w_nil ?_))))))))))))
    refine w_dr hn (take_dr (many := m + 1) (Urn.at hn _ _) (by omega) (by omega)) fun d u' ⟨r, e, h0, h1⟩ => ?_
    subst e
    refine ⟨r, rfl, inRng_of h0 (by omega), w_gl slD_fl ?_ ?_⟩
    · rw [cut_to h0, List.length_take, List.length_map]; omega
    · rw [cut_to h0, ← List.map_take]
      exact h r.toNat u' (by omega)
theorem traits_loop {u : Int × Int × Int} {e6 e7 e8 e9 e10 e11 e12 : Option EV} {Q : SP} {ys : List Str} (hn : n < S.length) (hN : ∀ y ∈ ys, Nm y) (hl : ys.length ≤ 3)
    (h : ∀ (ts : List Tr) (u : Int × Int × Int) (e6 e7 : Option EV), TsI ts ys → Q.nx (EF S n zs g m (prodT ts) e6 e7 e8 e9 e10 e11 e12) (S.set n (uc u) ++ [.lst (ts.map trD)])) :
    WS (forG ([], ys.map D.str) (gmName 6) (mSeq (mSet 7 (mBin false gAdd (mC (.int 2)) (mCall m__law_draw (mCons (mVar 0) (mCons (mC (.int 3)) mNil)))))
    (mIfS (mB (mBin false gLe (mBin false gMulA (mVar 4) (mVar 7)) (mIf (mTO KCS (mVar 1)) (mC (.int 12)) (mC (.int 4))))) (mSeq (mExpr (mMu muAppend (mVar 3) (mCons (mTup (mCons (mVar 6) (mCons (mCB false gTuple (mCons (mCall m__law_names (mCons (mVar 0) (mCons (mVar 7) mNil))) mNil)) mNil))) mNil)))
    (mSet 4 (mBin false gMulA (mVar 4) (mVar 7)))) mSkip)) (ys.map D.str) (EF S n zs g m 1 e6 e7 e8 e9 e10 e11 e12) (S.set n (uc u) ++ [.lst []])) Q := by
  have lim : ∃ q : Nat, q ≤ 12 ∧ ∀ {X : XP} {P : D → Store → Prop} {env : Evs} {T : Store}, env[1]? = some (some (.v (.bl g))) → P (.int q) T → WE X (mIf (mTO KCS (mVar 1)) (mC (.int 12)) (mC (.int 4)) env T) P := by
    cases g with
    | true => exact ⟨12, by decide, fun h p => w_if (w_to (w_var h ⟨true, rfl, fun _ => p, fun h => by cases h⟩))⟩
    | false => exact ⟨4, by decide, fun h p => w_if (w_to (w_var h ⟨false, rfl, (fun h => by cases h), fun _ => p⟩))⟩
  obtain ⟨q, hq, lim⟩ := lim
  refine forG_w (fun ds env T => ∃ (a b : List Str) (ts : List Tr) (u : Int × Int × Int) (e6 e7 : Option EV), a ++ b = ys ∧ ds = b.map D.str ∧ TsI ts a ∧ T = S.set n (uc u) ++ [.lst (ts.map trD)] ∧ env = EF S n zs g m (prodT ts) e6 e7 e8 e9 e10 e11 e12) (fun r env S h => okS_none _ _) ?_ ?_ _ _ _ ⟨[], ys, [], u, e6, e7, rfl, rfl, ⟨(fun t h => by cases h), List.Sublist.refl _, by decide⟩, rfl, rfl⟩
  · rintro d r env T ⟨a, b, ts, u, e6, e7, hab, hds, I, rfl, rfl⟩
    cases b with
    | nil => cases hds
    | cons y b =>
    obtain ⟨rfl, rfl⟩ := List.cons.inj hds
    have hy : Nm y := hN y (by rw [← hab]; simp)
    have htl : ts.length ≤ 3 := by
      have h1 := I.sub.length_le
      have h2 := congrArg List.length hab
      rw [List.length_map] at h1
      rw [List.length_append] at h2
      omega
    refine ⟨(EF S n zs g m (prodT ts) (some (.v (.str y))) e7 e8 e9 e10 e11 e12, S.set n (uc u) ++ [.lst (ts.map trD)]), rfl, ?_⟩
    (repeat (first | with_reducible refine s_seq' ?_ | with_reducible refine s_set' ?_ | with_reducible refine s_par' ?_ | with_reducible refine s_par3' ?_ | with_reducible refine s_asg' ?_ | with_reducible refine s_ifs ?_ | with_reducible refine s_expr' ?_ | with_reducible refine s_ret' ?_ | with_reducible refine s_forW ?_ | with_reducible refine w_cons ?_ | with_reducible refine w_nil ?_ | with_reducible refine w_c ?_ | with_reducible refine w_call ?_ | with_reducible refine w_tup ?_ | with_reducible refine w_lst ?_ | with_reducible refine w_nilU ?_ | with_reducible refine w_bin ?_ | with_reducible refine w_cb ?_ | with_reducible refine w_b ?_ | with_reducible refine w_t ?_ | with_reducible refine w_nt ?_ | with_reducible refine w_at ?_ | with_reducible refine w_ot ?_ | with_reducible refine w_mr1 ?_ | with_reducible refine w_ma ?_ | with_reducible refine w_sl ?_ | with_reducible refine w_oN ?_ | with_reducible refine w_oS ?_ | with_reducible refine w_make ?_ | with_reducible refine w_neg ?_ | with_reducible refine s_fld' ?_ | (guard_target =~ WE _ (mVar _ _ _) _; refine w_var rfl ?_) | with_reducible refine w_gd rfl ?_ | (guard_target =~ And _ _; refine And.intro (Nat.le_of_ble_eq_true rfl) ?_) | (guard_target =~ Exists _; refine ⟨_, _, rfl, ?_⟩) | (guard_target =~ Exists _; refine ⟨_, _, _, rfl, ?_⟩) | (guard_target =~ Exists _; refine ⟨_, rfl, ?_⟩) | (guard_target =~ And _ _; refine And.intro (Eq.refl true) ?_)))
    refine w_dr hn (take_dr (many := 3) (Urn.at hn _ _) (by omega) (by omega)) fun d u' ⟨r, e, h0, h1⟩ => ?_
    subst e
    have hk := Int.toNat_of_nonneg h0
    generalize r.toNat = k at hk
    subst hk
    with_reducible refine w_gd (x := .int ((2 + k : Nat) : Int)) ?_ ?_
    · show some (Gv.d (.int (2 + (k : Int)))) = _
      rw [show (2 + (k : Int)) = ((2 + k : Nat) : Int) by omega]
    have pm : cMul (prodT ts : Int) ((2 + k : Nat) : Int) = true := by
      have := I.pr
      unfold cMul
      simp only [Bool.or_eq_true, Bool.and_eq_true, decide_eq_true_eq]
      omega
    have gm : gMulA (S.set n (uc u') ++ [Cell.lst (ts.map trD)]) (.int (prodT ts)) (.int ((2 + k : Nat) : Int)) = some (.d (.int ((prodT ts * (2 + k) : Nat) : Int))) := by
      show (if cMul (prodT ts : Int) ((2 + k : Nat) : Int) = true then some (Gv.d (.int ((prodT ts : Int) * ((2 + k : Nat) : Int)))) else none) = _
      rw [if_pos pm, Int.natCast_mul]
    with_reducible refine s_ifs ?_
    with_reducible refine w_b ?_
    with_reducible refine w_bin ?_
    with_reducible refine w_bin ?_
    with_reducible refine w_var (d := .int (prodT ts)) ?_ ?_
    · rfl
    with_reducible refine w_var (d := .int ((2 + k : Nat) : Int)) ?_ ?_
    · rfl
    with_reducible refine w_gd gm ?_
    with_reducible refine lim ?_ ?_
    · rfl
    with_reducible refine w_gd (x := .bl (decide (((prodT ts * (2 + k) : Nat) : Int) ≤ q))) rfl ?_
    with_reducible refine ⟨_, rfl, fun hb => ?_, fun _ => ?_⟩
    · have hb := of_decide_eq_true hb
      with_reducible refine s_seq' ?_
      with_reducible refine s_expr' ?_
      with_reducible refine w_app (n := S.length) (l0 := ts.map trD) ?_ (atE 0) ?_
      · rfl
      with_reducible refine w_tup ?_
      with_reducible refine w_cons ?_
      with_reducible refine w_var (d := .str y) ?_ ?_
      · rfl
      with_reducible refine w_cons ?_
      with_reducible refine w_cb ?_
      with_reducible refine w_cons ?_
      with_reducible refine w_call ?_
      with_reducible refine w_cons ?_
      with_reducible refine w_var (d := .ref n) ?_ ?_
      · rfl
      with_reducible refine w_cons ?_
      with_reducible refine w_var (d := .int ((2 + k : Nat) : Int)) ?_ ?_
      · rfl
      with_reducible refine w_nil ?_
      refine w_dr hn (names_dr (many := 2 + k) (Urn.at hn _ _) (by omega)) fun d u2 ⟨vs, e, vl, V⟩ => ?_
      subst e
      with_reducible refine w_nil ?_
      with_reducible refine w_gt (ds := vs.map .str) gTuple_fl (by rw [List.length_map]; omega) ?_
      with_reducible refine w_nil ?_
      refine ⟨Nat.le_of_ble_eq_true rfl, ts.map trD, atE 0, by rw [List.length_map]; omega, ?_⟩
      with_reducible refine s_set' ?_
      with_reducible refine w_bin ?_
      with_reducible refine w_var (d := .int (prodT ts)) ?_ ?_
      · rfl
      with_reducible refine w_var (d := .int ((2 + k : Nat) : Int)) ?_ ?_
      · rfl
      with_reducible refine w_gd (x := .int ((prodT ts * (2 + k) : Nat) : Int)) ?_ ?_
      · show (if cMul (prodT ts : Int) ((2 + k : Nat) : Int) = true then some (Gv.d (.int ((prodT ts : Int) * ((2 + k : Nat) : Int)))) else none) = _
        rw [if_pos pm, Int.natCast_mul]
      have e1 : prodT (ts ++ [(y, vs)]) = prodT ts * (2 + k) := by rw [prodT_snoc, vl]
      refine ⟨a ++ [y], b, ts ++ [(y, vs)], u2, some (.v (.str y)), some (.v (.int ((2 + k : Nat) : Int))), by rw [← hab, List.append_assoc]; rfl, rfl, ⟨fun t ht => ?_, ?_, by rw [e1]; omega⟩, ?_, ?_⟩
      · rcases List.mem_append.mp ht with ht | ht
        · exact I.ok t ht
        · rw [List.mem_singleton.mp ht]
          exact ⟨hy, by show 2 ≤ vs.length ∧ vs.length ≤ 4; omega, V⟩
      · rw [List.map_append]
        exact I.sub.append (List.Sublist.refl _)
      · refine (setE 0 _).trans ?_
        rw [List.map_append]
        rfl
      · rw [e1]
        rfl
    · refine s_skip' ⟨a ++ [y], b, ts, u', some (.v (.str y)), some (.v (.int ((2 + k : Nat) : Int))), by rw [← hab, List.append_assoc]; rfl, rfl, ⟨I.ok, I.sub.trans (List.sublist_append_left _ _), I.pr⟩, rfl, rfl⟩
  · rintro env T ⟨a, b, ts, u, e6, e7, hab, hds, I, rfl, rfl⟩
    cases b with
    | cons y b => cases hds
    | nil =>
    rw [List.append_nil] at hab
    subst hab
    exact h ts u e6 e7 I
end
end LW

set_option Elab.async false
set_option linter.all false
set_option maxRecDepth 100000
set_option maxHeartbeats 4000000
namespace LW
open PySem M3
section
variable {S : Store} {n : Nat} {zs : List Str} {g : Bool} {m : Int}
theorem layers_loop {u : Int × Int × Int} {p : Nat} {ts : List Tr} {e6 e7 e9 e10 e11 e12 : Option EV} {Q : SP} {ys : List Str} (hn : n < S.length) (hN : ∀ y ∈ ys, Nm y) (hl : ys.length ≤ 3)
    (h : ∀ (ls : List Ly) (u : Int × Int × Int) (e6 : Option EV), (∀ l ∈ ls, OkL l) → ls.map (·.1) = ys → Q.nx (EF S n zs g m p e6 e7 (some (.v (.ref (S.length + 1)))) e9 e10 e11 e12) (S.set n (uc u) ++ [.lst (ts.map trD), .lst (ls.map lyD)])) :
    WS (forG ([], ys.map D.str) (gmName 6) (mExpr (mMu muAppend (mVar 8) (mCons (mTup (mCons (mVar 6) (mCons (mBin false gAdd (mC (.int 1)) (mCall m__law_draw (mCons (mVar 0) (mCons (mCall m__law_of (mCons (mVar 0) (mCons (mTup (mCons (mC (.int 9)) (mCons (mC (.int 99)) mNil))) mNil))) mNil)))) (mCons (mCall m__law_draw (mCons (mVar 0) (mCons (mCall m__law_of (mCons (mVar 0) (mCons (mTup (mCons (mC (.int 1)) (mCons (mC (.int 100)) mNil))) mNil))) mNil))) mNil)))) mNil)))
      (ys.map D.str) (EF S n zs g m p e6 e7 (some (.v (.ref (S.length + 1)))) e9 e10 e11 e12) (S.set n (uc u) ++ [.lst (ts.map trD), .lst []])) Q := by
  refine forG_w (fun ds env T => ∃ (a b : List Str) (ls : List Ly) (u : Int × Int × Int) (e6 : Option EV), a ++ b = ys ∧ ds = b.map D.str ∧ (∀ l ∈ ls, OkL l) ∧ ls.map (·.1) = a ∧ T = S.set n (uc u) ++ [.lst (ts.map trD), .lst (ls.map lyD)] ∧ env = EF S n zs g m p e6 e7 (some (.v (.ref (S.length + 1)))) e9 e10 e11 e12) (fun r env S h => okS_none _ _) ?_ ?_ _ _ _ ⟨[], ys, [], u, e6, rfl, rfl, (fun l h => by cases h), rfl, rfl, rfl⟩
  · rintro d r env T ⟨a, b, ls, u, e6, hab, hds, ok, hla, rfl, rfl⟩
    cases b with
    | nil => cases hds
    | cons y b =>
    obtain ⟨rfl, rfl⟩ := List.cons.inj hds
    have hy : Nm y := hN y (by rw [← hab]; simp)
    have hll : ls.length ≤ 3 := by
      have h1 := congrArg List.length hla
      have h2 := congrArg List.length hab
      rw [List.length_map] at h1
      rw [List.length_append] at h2
      omega
    refine ⟨(EF S n zs g m p (some (.v (.str y))) e7 (some (.v (.ref (S.length + 1)))) e9 e10 e11 e12, S.set n (uc u) ++ [.lst (ts.map trD), .lst (ls.map lyD)]), rfl, ?_⟩
    with_reducible refine s_expr' ?_
    with_reducible refine w_app (n := S.length + 1) (l0 := ls.map lyD) ?_ (atE 1) ?_
    · rfl
    (repeat (first | with_reducible refine s_seq' ?_ | with_reducible refine s_set' ?_ | with_reducible refine s_par' ?_ | with_reducible refine s_par3' ?_ | with_reducible refine s_asg' ?_ | with_reducible refine s_ifs ?_ | with_reducible refine s_expr' ?_ | with_reducible refine s_ret' ?_ | with_reducible refine s_forW ?_ | with_reducible refine w_cons ?_ | with_reducible refine w_nil ?_ | with_reducible refine w_c ?_ | with_reducible refine w_call ?_ | with_reducible refine w_tup ?_ | with_reducible refine w_lst ?_ | with_reducible refine w_nilU ?_ | with_reducible refine w_bin ?_ | with_reducible refine w_cb ?_ | with_reducible refine w_b ?_ | with_reducible refine w_t ?_ | with_reducible refine w_nt ?_ | with_reducible refine w_at ?_ | with_reducible refine w_ot ?_ | with_reducible refine w_mr1 ?_ | with_reducible refine w_ma ?_ | with_reducible refine w_sl ?_ | with_reducible refine w_oN ?_ | with_reducible refine w_oS ?_ | with_reducible refine w_make ?_ | with_reducible refine w_neg ?_ | with_reducible refine s_fld' ?_ | ((with_reducible apply w_var); exact rfl) | with_reducible refine w_gd rfl ?_ | ((with_reducible refine And.intro (Nat.le_of_ble_eq_true ?_) ?_); exact rfl)))
    refine w_dr hn (of_tupI (is := [9, 99]) (Urn.at hn _ _) (by decide) (by decide)) fun d u1 ⟨x, hx, e⟩ => ?_
    subst e
    have hx99 : x = 9 ∨ x = 99 := by simpa using hx
    (repeat (first | with_reducible refine s_seq' ?_ | with_reducible refine s_set' ?_ | with_reducible refine s_par' ?_ | with_reducible refine s_par3' ?_ | with_reducible refine s_asg' ?_ | with_reducible refine s_ifs ?_ | with_reducible refine s_expr' ?_ | with_reducible refine s_ret' ?_ | with_reducible refine s_forW ?_ | with_reducible refine w_cons ?_ | with_reducible refine w_nil ?_ | with_reducible refine w_c ?_ | with_reducible refine w_call ?_ | with_reducible refine w_tup ?_ | with_reducible refine w_lst ?_ | with_reducible refine w_nilU ?_ | with_reducible refine w_bin ?_ | with_reducible refine w_cb ?_ | with_reducible refine w_b ?_ | with_reducible refine w_t ?_ | with_reducible refine w_nt ?_ | with_reducible refine w_at ?_ | with_reducible refine w_ot ?_ | with_reducible refine w_mr1 ?_ | with_reducible refine w_ma ?_ | with_reducible refine w_sl ?_ | with_reducible refine w_oN ?_ | with_reducible refine w_oS ?_ | with_reducible refine w_make ?_ | with_reducible refine w_neg ?_ | with_reducible refine s_fld' ?_ | ((with_reducible apply w_var); exact rfl) | with_reducible refine w_gd rfl ?_ | ((with_reducible refine And.intro (Nat.le_of_ble_eq_true ?_) ?_); exact rfl)))
    refine w_dr hn (take_dr (many := x) (Urn.at hn _ _) (by omega) (by omega)) fun d u2 ⟨r1, e, h0, h1⟩ => ?_
    subst e
    (repeat (first | with_reducible refine s_seq' ?_ | with_reducible refine s_set' ?_ | with_reducible refine s_par' ?_ | with_reducible refine s_par3' ?_ | with_reducible refine s_asg' ?_ | with_reducible refine s_ifs ?_ | with_reducible refine s_expr' ?_ | with_reducible refine s_ret' ?_ | with_reducible refine s_forW ?_ | with_reducible refine w_cons ?_ | with_reducible refine w_nil ?_ | with_reducible refine w_c ?_ | with_reducible refine w_call ?_ | with_reducible refine w_tup ?_ | with_reducible refine w_lst ?_ | with_reducible refine w_nilU ?_ | with_reducible refine w_bin ?_ | with_reducible refine w_cb ?_ | with_reducible refine w_b ?_ | with_reducible refine w_t ?_ | with_reducible refine w_nt ?_ | with_reducible refine w_at ?_ | with_reducible refine w_ot ?_ | with_reducible refine w_mr1 ?_ | with_reducible refine w_ma ?_ | with_reducible refine w_sl ?_ | with_reducible refine w_oN ?_ | with_reducible refine w_oS ?_ | with_reducible refine w_make ?_ | with_reducible refine w_neg ?_ | with_reducible refine s_fld' ?_ | ((with_reducible apply w_var); exact rfl) | with_reducible refine w_gd rfl ?_ | ((with_reducible refine And.intro (Nat.le_of_ble_eq_true ?_) ?_); exact rfl)))
    refine w_dr hn (of_tupI (is := [1, 100]) (Urn.at hn _ _) (by decide) (by decide)) fun d u3 ⟨x2, hx2, e⟩ => ?_
    subst e
    have hx100 : x2 = 1 ∨ x2 = 100 := by simpa using hx2
    (repeat (first | with_reducible refine s_seq' ?_ | with_reducible refine s_set' ?_ | with_reducible refine s_par' ?_ | with_reducible refine s_par3' ?_ | with_reducible refine s_asg' ?_ | with_reducible refine s_ifs ?_ | with_reducible refine s_expr' ?_ | with_reducible refine s_ret' ?_ | with_reducible refine s_forW ?_ | with_reducible refine w_cons ?_ | with_reducible refine w_nil ?_ | with_reducible refine w_c ?_ | with_reducible refine w_call ?_ | with_reducible refine w_tup ?_ | with_reducible refine w_lst ?_ | with_reducible refine w_nilU ?_ | with_reducible refine w_bin ?_ | with_reducible refine w_cb ?_ | with_reducible refine w_b ?_ | with_reducible refine w_t ?_ | with_reducible refine w_nt ?_ | with_reducible refine w_at ?_ | with_reducible refine w_ot ?_ | with_reducible refine w_mr1 ?_ | with_reducible refine w_ma ?_ | with_reducible refine w_sl ?_ | with_reducible refine w_oN ?_ | with_reducible refine w_oS ?_ | with_reducible refine w_make ?_ | with_reducible refine w_neg ?_ | with_reducible refine s_fld' ?_ | ((with_reducible apply w_var); exact rfl) | with_reducible refine w_gd rfl ?_ | ((with_reducible refine And.intro (Nat.le_of_ble_eq_true ?_) ?_); exact rfl)))
    refine w_dr hn (take_dr (many := x2) (Urn.at hn _ _) (by omega) (by omega)) fun d u4 ⟨r2, e, k0, k1⟩ => ?_
    subst e
    (repeat (first | with_reducible refine s_seq' ?_ | with_reducible refine s_set' ?_ | with_reducible refine s_par' ?_ | with_reducible refine s_par3' ?_ | with_reducible refine s_asg' ?_ | with_reducible refine s_ifs ?_ | with_reducible refine s_expr' ?_ | with_reducible refine s_ret' ?_ | with_reducible refine s_forW ?_ | with_reducible refine w_cons ?_ | with_reducible refine w_nil ?_ | with_reducible refine w_c ?_ | with_reducible refine w_call ?_ | with_reducible refine w_tup ?_ | with_reducible refine w_lst ?_ | with_reducible refine w_nilU ?_ | with_reducible refine w_bin ?_ | with_reducible refine w_cb ?_ | with_reducible refine w_b ?_ | with_reducible refine w_t ?_ | with_reducible refine w_nt ?_ | with_reducible refine w_at ?_ | with_reducible refine w_ot ?_ | with_reducible refine w_mr1 ?_ | with_reducible refine w_ma ?_ | with_reducible refine w_sl ?_ | with_reducible refine w_oN ?_ | with_reducible refine w_oS ?_ | with_reducible refine w_make ?_ | with_reducible refine w_neg ?_ | with_reducible refine s_fld' ?_ | ((with_reducible apply w_var); exact rfl) | with_reducible refine w_gd rfl ?_ | ((with_reducible refine And.intro (Nat.le_of_ble_eq_true ?_) ?_); exact rfl)))
    refine ⟨ls.map lyD, atE 1, by rw [List.length_map]; omega, ?_⟩
    refine ⟨a ++ [y], b, ls ++ [(y, 1 + r1, r2)], u4, some (.v (.str y)), by rw [← hab, List.append_assoc]; rfl, rfl, fun l hl => ?_, by rw [List.map_append, hla]; rfl, ?_, rfl⟩
    · rcases List.mem_append.mp hl with hl | hl
      · exact ok l hl
      · rw [List.mem_singleton.mp hl]
        exact ⟨hy, by show 1 ≤ 1 + r1 ∧ 1 + r1 ≤ 99; omega, by show 0 ≤ r2 ∧ r2 ≤ 99; omega⟩
    · refine (setE 1 _).trans ?_
      rw [List.map_append]
      rfl
  · rintro env T ⟨a, b, ls, u, e6, hab, hds, ok, hla, rfl, rfl⟩
    cases b with
    | cons y b => cases hds
    | nil =>
    rw [List.append_nil] at hab
    subst hab
    exact h ls u e6 ok hla
end
end LW

set_option Elab.async false
set_option linter.all false
set_option maxRecDepth 100000
set_option maxHeartbeats 4000000
namespace LW
open PySem M3
theorem sum_take : ∀ (fs : List Fg) (i : Nat), (∀ f ∈ fs, OkF f) → ((fs.take i).map (·.2.2.2)).sum ≤ (fs.map (·.2.2.2)).sum ∧ 0 ≤ (fs.map (·.2.2.2)).sum
  | [], i, _ => by rw [List.take_nil]; exact ⟨Int.le_refl _, Int.le_refl _⟩
  | f :: fs, 0, h => by
    obtain ⟨_, h1⟩ := sum_take fs 0 fun x hx => h x (List.mem_cons_of_mem _ hx)
    have := (h f List.mem_cons_self).st
    simp only [List.take_zero, List.map_nil, List.sum_nil, List.map_cons, List.sum_cons]
    omega
  | f :: fs, i + 1, h => by
    obtain ⟨h0, h1⟩ := sum_take fs i fun x hx => h x (List.mem_cons_of_mem _ hx)
    have := (h f List.mem_cons_self).st
    simp only [List.take_succ_cons, List.map_cons, List.sum_cons]
    omega
section
variable {S : Store} {n : Nat} {zs : List Str} {g : Bool} {m : Int}
theorem flags_loop {u : Int × Int × Int} {p : Nat} {ts : List Tr} {ls : List Ly} {e6 e7 e8 e11 e12 : Option EV} {Q : SP} {ys : List Str} (hn : n < S.length) (hN : ∀ y ∈ ys, Nm y) (hl : ys.length ≤ 4)
    (h : ∀ (fs : List Fg) (left : Int) (u : Int × Int × Int) (e6 e11 e12 : Option EV), (∀ f ∈ fs, OkF f) → fs.map (·.1) = ys → (fs.map (·.2.2.2)).sum ≤ 2 → Q.nx (EF S n zs g m p e6 e7 e8 (some (.v (.ref (S.length + 2)))) (some (.v (.int left))) e11 e12) (S.set n (uc u) ++ [.lst (ts.map trD), .lst (ls.map lyD), .lst (fs.map fgD)])) :
    WS (forG ([], ys.map D.str) (gmName 6) (mSeq (mSet 11 (mCB false gTuple (mCons (mCall m__law_mixed (mCons (mVar 0) (mCons (mCall m__law_names (mCons (mVar 0) (mCons (mBin false gAdd (mC (.int 2)) (mCall m__law_draw (mCons (mVar 0) (mCons (mC (.int 3)) mNil)))) mNil))) mNil))) mNil)))
    (mSeq (mSet 12 (mIf (mB (mBin false gGt (mVar 10) (mC (.int 0)))) (mCall m__law_draw (mCons (mVar 0) (mCons (mC (.int 2)) mNil))) (mC (.int 0))))
    (mSeq (mSet 10 (mBin false gSub (mVar 10) (mVar 12)))
    (mExpr (mMu muAppend (mVar 9) (mCons (mTup (mCons (mVar 6) (mCons (mVar 11) (mCons (mCall m__law_of (mCons (mVar 0) (mCons (mVar 11) mNil))) (mCons (mVar 12) mNil))))) mNil))))))
      (ys.map D.str) (EF S n zs g m p e6 e7 e8 (some (.v (.ref (S.length + 2)))) (some (.v (.int 2))) e11 e12) (S.set n (uc u) ++ [.lst (ts.map trD), .lst (ls.map lyD), .lst []])) Q := by
  refine forG_w (fun ds env T => ∃ (a b : List Str) (fs : List Fg) (left : Int) (u : Int × Int × Int) (e6 e11 e12 : Option EV), a ++ b = ys ∧ ds = b.map D.str ∧ (∀ f ∈ fs, OkF f) ∧ fs.map (·.1) = a ∧ (0 ≤ left ∧ left ≤ 2 ∧ (fs.map (·.2.2.2)).sum = 2 - left) ∧ T = S.set n (uc u) ++ [.lst (ts.map trD), .lst (ls.map lyD), .lst (fs.map fgD)] ∧ env = EF S n zs g m p e6 e7 e8 (some (.v (.ref (S.length + 2)))) (some (.v (.int left))) e11 e12) (fun r env S h => okS_none _ _) ?_ ?_ _ _ _ ⟨[], ys, [], 2, u, e6, e11, e12, rfl, rfl, (fun l h => by cases h), rfl, ⟨by decide, by decide, rfl⟩, rfl, rfl⟩
  · rintro d r env T ⟨a, b, fs, left, u, e6, e11, e12, hab, hds, ok, hla, hlf, rfl, rfl⟩
    cases b with
    | nil => cases hds
    | cons y b =>
    obtain ⟨rfl, rfl⟩ := List.cons.inj hds
    have hy : Nm y := hN y (by rw [← hab]; simp)
    have hll : fs.length ≤ 4 := by
      have h1 := congrArg List.length hla
      have h2 := congrArg List.length hab
      rw [List.length_map] at h1
      rw [List.length_append] at h2
      omega
    refine ⟨(EF S n zs g m p (some (.v (.str y))) e7 e8 (some (.v (.ref (S.length + 2)))) (some (.v (.int left))) e11 e12, S.set n (uc u) ++ [.lst (ts.map trD), .lst (ls.map lyD), .lst (fs.map fgD)]), rfl, ?_⟩
    (repeat (first | with_reducible refine s_seq' ?_ | with_reducible refine s_set' ?_ | with_reducible refine s_par' ?_ | with_reducible refine s_par3' ?_ | with_reducible refine s_asg' ?_ | with_reducible refine s_ifs ?_ | with_reducible refine s_expr' ?_ | with_reducible refine s_ret' ?_ | with_reducible refine s_forW ?_ | with_reducible refine w_cons ?_ | with_reducible refine w_nil ?_ | with_reducible refine w_c ?_ | with_reducible refine w_call ?_ | with_reducible refine w_tup ?_ | with_reducible refine w_lst ?_ | with_reducible refine w_nilU ?_ | with_reducible refine w_bin ?_ | with_reducible refine w_cb ?_ | with_reducible refine w_b ?_ | with_reducible refine w_t ?_ | with_reducible refine w_nt ?_ | with_reducible refine w_at ?_ | with_reducible refine w_ot ?_ | with_reducible refine w_mr1 ?_ | with_reducible refine w_ma ?_ | with_reducible refine w_sl ?_ | with_reducible refine w_oN ?_ | with_reducible refine w_oS ?_ | with_reducible refine w_make ?_ | with_reducible refine w_neg ?_ | with_reducible refine s_fld' ?_ | ((with_reducible apply w_var); exact rfl) | with_reducible refine w_gd rfl ?_ | ((with_reducible refine And.intro (Nat.le_of_ble_eq_true ?_) ?_); exact rfl)))
    refine w_dr hn (take_dr (many := 3) (Urn.at hn _ _) (by omega) (by omega)) fun d u1 ⟨r1, e, h0, h1⟩ => ?_
    subst e
    have hk := Int.toNat_of_nonneg h0
    generalize r1.toNat = k at hk
    subst hk
    with_reducible refine w_gd (x := .int ((2 + k : Nat) : Int)) ?_ ?_
    · show some (Gv.d (.int (2 + (k : Int)))) = _
      rw [show (2 + (k : Int)) = ((2 + k : Nat) : Int) by omega]
    (repeat (first | with_reducible refine s_seq' ?_ | with_reducible refine s_set' ?_ | with_reducible refine s_par' ?_ | with_reducible refine s_par3' ?_ | with_reducible refine s_asg' ?_ | with_reducible refine s_ifs ?_ | with_reducible refine s_expr' ?_ | with_reducible refine s_ret' ?_ | with_reducible refine s_forW ?_ | with_reducible refine w_cons ?_ | with_reducible refine w_nil ?_ | with_reducible refine w_c ?_ | with_reducible refine w_call ?_ | with_reducible refine w_tup ?_ | with_reducible refine w_lst ?_ | with_reducible refine w_nilU ?_ | with_reducible refine w_bin ?_ | with_reducible refine w_cb ?_ | with_reducible refine w_b ?_ | with_reducible refine w_t ?_ | with_reducible refine w_nt ?_ | with_reducible refine w_at ?_ | with_reducible refine w_ot ?_ | with_reducible refine w_mr1 ?_ | with_reducible refine w_ma ?_ | with_reducible refine w_sl ?_ | with_reducible refine w_oN ?_ | with_reducible refine w_oS ?_ | with_reducible refine w_make ?_ | with_reducible refine w_neg ?_ | with_reducible refine s_fld' ?_ | ((with_reducible apply w_var); exact rfl) | with_reducible refine w_gd rfl ?_ | ((with_reducible refine And.intro (Nat.le_of_ble_eq_true ?_) ?_); exact rfl)))
    refine w_dr hn (names_dr (many := 2 + k) (Urn.at hn _ _) (by omega)) fun d u2 ⟨vs, e, vl, V⟩ => ?_
    subst e
    (repeat (first | with_reducible refine s_seq' ?_ | with_reducible refine s_set' ?_ | with_reducible refine s_par' ?_ | with_reducible refine s_par3' ?_ | with_reducible refine s_asg' ?_ | with_reducible refine s_ifs ?_ | with_reducible refine s_expr' ?_ | with_reducible refine s_ret' ?_ | with_reducible refine s_forW ?_ | with_reducible refine w_cons ?_ | with_reducible refine w_nil ?_ | with_reducible refine w_c ?_ | with_reducible refine w_call ?_ | with_reducible refine w_tup ?_ | with_reducible refine w_lst ?_ | with_reducible refine w_nilU ?_ | with_reducible refine w_bin ?_ | with_reducible refine w_cb ?_ | with_reducible refine w_b ?_ | with_reducible refine w_t ?_ | with_reducible refine w_nt ?_ | with_reducible refine w_at ?_ | with_reducible refine w_ot ?_ | with_reducible refine w_mr1 ?_ | with_reducible refine w_ma ?_ | with_reducible refine w_sl ?_ | with_reducible refine w_oN ?_ | with_reducible refine w_oS ?_ | with_reducible refine w_make ?_ | with_reducible refine w_neg ?_ | with_reducible refine s_fld' ?_ | ((with_reducible apply w_var); exact rfl) | with_reducible refine w_gd rfl ?_ | ((with_reducible refine And.intro (Nat.le_of_ble_eq_true ?_) ?_); exact rfl)))
    refine w_dr hn (mixed_names (zs := vs) (Urn.at hn _ _) (by omega)) fun d u3 ⟨ws, e, hp⟩ => ?_
    subst e
    have wl : ws.length = 2 + k := by rw [hp.length_eq, vl]
    have wn : ∀ z ∈ ws, Nm z := fun z hz => V.nm z (hp.subset hz)
    have wd : ws.Nodup := hp.nodup_iff.mpr V.nd
    (repeat (first | with_reducible refine s_seq' ?_ | with_reducible refine s_set' ?_ | with_reducible refine s_par' ?_ | with_reducible refine s_par3' ?_ | with_reducible refine s_asg' ?_ | with_reducible refine s_ifs ?_ | with_reducible refine s_expr' ?_ | with_reducible refine s_ret' ?_ | with_reducible refine s_forW ?_ | with_reducible refine w_cons ?_ | with_reducible refine w_nil ?_ | with_reducible refine w_c ?_ | with_reducible refine w_call ?_ | with_reducible refine w_tup ?_ | with_reducible refine w_lst ?_ | with_reducible refine w_nilU ?_ | with_reducible refine w_bin ?_ | with_reducible refine w_cb ?_ | with_reducible refine w_b ?_ | with_reducible refine w_t ?_ | with_reducible refine w_nt ?_ | with_reducible refine w_at ?_ | with_reducible refine w_ot ?_ | with_reducible refine w_mr1 ?_ | with_reducible refine w_ma ?_ | with_reducible refine w_sl ?_ | with_reducible refine w_oN ?_ | with_reducible refine w_oS ?_ | with_reducible refine w_make ?_ | with_reducible refine w_neg ?_ | with_reducible refine s_fld' ?_ | ((with_reducible apply w_var); exact rfl) | with_reducible refine w_gd rfl ?_ | ((with_reducible refine And.intro (Nat.le_of_ble_eq_true ?_) ?_); exact rfl)))
    with_reducible refine w_gt (ds := ws.map .str) gTuple_fl (by rw [List.length_map]; omega) ?_
    have fin : ∀ (Q' : SP), (∀ env T, (∃ (a b' : List Str) (fs : List Fg) (left : Int) (u : Int × Int × Int) (e6 e11 e12 : Option EV), a ++ b' = ys ∧ b.map D.str = b'.map D.str ∧ (∀ f ∈ fs, OkF f) ∧ fs.map (·.1) = a ∧ (0 ≤ left ∧ left ≤ 2 ∧ (fs.map (·.2.2.2)).sum = 2 - left) ∧ T = S.set n (uc u) ++ [.lst (ts.map trD), .lst (ls.map lyD), .lst (fs.map fgD)] ∧ env = EF S n zs g m p e6 e7 e8 (some (.v (.ref (S.length + 2)))) (some (.v (.int left))) e11 e12) → Q'.nx env T) → ∀ (st : Int) (u : Int × Int × Int), 0 ≤ st → st ≤ 1 → st ≤ left → WS (mSeq (mSet 10 (mBin false gSub (mVar 10) (mVar 12)))
        (mExpr (mMu muAppend (mVar 9) (mCons (mTup (mCons (mVar 6) (mCons (mVar 11) (mCons (mCall m__law_of (mCons (mVar 0) (mCons (mVar 11) mNil))) (mCons (mVar 12) mNil))))) mNil))) (EF S n zs g m p (some (.v (.str y))) e7 e8 (some (.v (.ref (S.length + 2)))) (some (.v (.int left))) (some (.v (.tup (ws.map .str)))) (some (.v (.int st)))) (S.set n (uc u) ++ [.lst (ts.map trD), .lst (ls.map lyD), .lst (fs.map fgD)]))
        Q' := by
      intro Q' hq st u s0 s1 s2
      (repeat (first | with_reducible refine s_seq' ?_ | with_reducible refine s_set' ?_ | with_reducible refine s_par' ?_ | with_reducible refine s_par3' ?_ | with_reducible refine s_asg' ?_ | with_reducible refine s_ifs ?_ | with_reducible refine s_expr' ?_ | with_reducible refine s_ret' ?_ | with_reducible refine s_forW ?_ | with_reducible refine w_cons ?_ | with_reducible refine w_nil ?_ | with_reducible refine w_c ?_ | with_reducible refine w_call ?_ | with_reducible refine w_tup ?_ | with_reducible refine w_lst ?_ | with_reducible refine w_nilU ?_ | with_reducible refine w_bin ?_ | with_reducible refine w_cb ?_ | with_reducible refine w_b ?_ | with_reducible refine w_t ?_ | with_reducible refine w_nt ?_ | with_reducible refine w_at ?_ | with_reducible refine w_ot ?_ | with_reducible refine w_mr1 ?_ | with_reducible refine w_ma ?_ | with_reducible refine w_sl ?_ | with_reducible refine w_oN ?_ | with_reducible refine w_oS ?_ | with_reducible refine w_make ?_ | with_reducible refine w_neg ?_ | with_reducible refine s_fld' ?_ | ((with_reducible apply w_var); exact rfl) | with_reducible refine w_gd rfl ?_ | ((with_reducible refine And.intro (Nat.le_of_ble_eq_true ?_) ?_); exact rfl)))
      with_reducible refine w_app (n := S.length + 2) (l0 := fs.map fgD) ?_ (atE 2) ?_
      · rfl
      (repeat (first | with_reducible refine s_seq' ?_ | with_reducible refine s_set' ?_ | with_reducible refine s_par' ?_ | with_reducible refine s_par3' ?_ | with_reducible refine s_asg' ?_ | with_reducible refine s_ifs ?_ | with_reducible refine s_expr' ?_ | with_reducible refine s_ret' ?_ | with_reducible refine s_forW ?_ | with_reducible refine w_cons ?_ | with_reducible refine w_nil ?_ | with_reducible refine w_c ?_ | with_reducible refine w_call ?_ | with_reducible refine w_tup ?_ | with_reducible refine w_lst ?_ | with_reducible refine w_nilU ?_ | with_reducible refine w_bin ?_ | with_reducible refine w_cb ?_ | with_reducible refine w_b ?_ | with_reducible refine w_t ?_ | with_reducible refine w_nt ?_ | with_reducible refine w_at ?_ | with_reducible refine w_ot ?_ | with_reducible refine w_mr1 ?_ | with_reducible refine w_ma ?_ | with_reducible refine w_sl ?_ | with_reducible refine w_oN ?_ | with_reducible refine w_oS ?_ | with_reducible refine w_make ?_ | with_reducible refine w_neg ?_ | with_reducible refine s_fld' ?_ | ((with_reducible apply w_var); exact rfl) | with_reducible refine w_gd rfl ?_ | ((with_reducible refine And.intro (Nat.le_of_ble_eq_true ?_) ?_); exact rfl)))
      refine w_dr hn (of_tup (ds := ws.map .str) (Urn.at hn _ _) (fun e => ?_) (by rw [List.length_map]; omega) strs_cl) fun d u4 hd => ?_
      · have h0 := List.map_eq_nil_iff.mp e
        have : ws.length = 0 := by rw [h0]; rfl
        omega
      obtain ⟨off, ho, rfl⟩ := List.mem_map.mp hd
      (repeat (first | with_reducible refine s_seq' ?_ | with_reducible refine s_set' ?_ | with_reducible refine s_par' ?_ | with_reducible refine s_par3' ?_ | with_reducible refine s_asg' ?_ | with_reducible refine s_ifs ?_ | with_reducible refine s_expr' ?_ | with_reducible refine s_ret' ?_ | with_reducible refine s_forW ?_ | with_reducible refine w_cons ?_ | with_reducible refine w_nil ?_ | with_reducible refine w_c ?_ | with_reducible refine w_call ?_ | with_reducible refine w_tup ?_ | with_reducible refine w_lst ?_ | with_reducible refine w_nilU ?_ | with_reducible refine w_bin ?_ | with_reducible refine w_cb ?_ | with_reducible refine w_b ?_ | with_reducible refine w_t ?_ | with_reducible refine w_nt ?_ | with_reducible refine w_at ?_ | with_reducible refine w_ot ?_ | with_reducible refine w_mr1 ?_ | with_reducible refine w_ma ?_ | with_reducible refine w_sl ?_ | with_reducible refine w_oN ?_ | with_reducible refine w_oS ?_ | with_reducible refine w_make ?_ | with_reducible refine w_neg ?_ | with_reducible refine s_fld' ?_ | ((with_reducible apply w_var); exact rfl) | with_reducible refine w_gd rfl ?_ | ((with_reducible refine And.intro (Nat.le_of_ble_eq_true ?_) ?_); exact rfl)))
      refine ⟨fs.map fgD, atE 2, by rw [List.length_map]; omega, ?_⟩
      refine hq _ _ ⟨a ++ [y], b, fs ++ [(y, ws, off, st)], left - st, u4, some (.v (.str y)), some (.v (.tup (ws.map .str))), some (.v (.int st)), by rw [← hab, List.append_assoc]; rfl, rfl, fun f hf => ?_, by rw [List.map_append, hla]; rfl, ⟨by omega, by omega, ?_⟩, ?_, rfl⟩
      · rcases List.mem_append.mp hf with hf | hf
        · exact ok f hf
        · rw [List.mem_singleton.mp hf]
          exact ⟨hy, by show 2 ≤ ws.length ∧ ws.length ≤ 4; omega, wn, wd, ho, s0, s1⟩
      · rw [List.map_append, List.sum_append]
        show _ + (st + 0) = _
        omega
      · refine (setE 2 _).trans ?_
        rw [List.map_append]
        rfl
    with_reducible refine s_seq' ?_
    with_reducible refine s_set' ?_
    by_cases hlf0 : left > 0
    · refine w_if (w_b ?_)
      (repeat (first | with_reducible refine s_seq' ?_ | with_reducible refine s_set' ?_ | with_reducible refine s_par' ?_ | with_reducible refine s_par3' ?_ | with_reducible refine s_asg' ?_ | with_reducible refine s_ifs ?_ | with_reducible refine s_expr' ?_ | with_reducible refine s_ret' ?_ | with_reducible refine s_forW ?_ | with_reducible refine w_cons ?_ | with_reducible refine w_nil ?_ | with_reducible refine w_c ?_ | with_reducible refine w_call ?_ | with_reducible refine w_tup ?_ | with_reducible refine w_lst ?_ | with_reducible refine w_nilU ?_ | with_reducible refine w_bin ?_ | with_reducible refine w_cb ?_ | with_reducible refine w_b ?_ | with_reducible refine w_t ?_ | with_reducible refine w_nt ?_ | with_reducible refine w_at ?_ | with_reducible refine w_ot ?_ | with_reducible refine w_mr1 ?_ | with_reducible refine w_ma ?_ | with_reducible refine w_sl ?_ | with_reducible refine w_oN ?_ | with_reducible refine w_oS ?_ | with_reducible refine w_make ?_ | with_reducible refine w_neg ?_ | with_reducible refine s_fld' ?_ | ((with_reducible apply w_var); exact rfl) | with_reducible refine w_gd rfl ?_ | ((with_reducible refine And.intro (Nat.le_of_ble_eq_true ?_) ?_); exact rfl)))
      refine ⟨true, (by show D.bl (decide ((0 : Int) < left)) = _; rw [decide_eq_true hlf0]), fun _ => ?_, fun h => by cases h⟩
      (repeat (first | with_reducible refine s_seq' ?_ | with_reducible refine s_set' ?_ | with_reducible refine s_par' ?_ | with_reducible refine s_par3' ?_ | with_reducible refine s_asg' ?_ | with_reducible refine s_ifs ?_ | with_reducible refine s_expr' ?_ | with_reducible refine s_ret' ?_ | with_reducible refine s_forW ?_ | with_reducible refine w_cons ?_ | with_reducible refine w_nil ?_ | with_reducible refine w_c ?_ | with_reducible refine w_call ?_ | with_reducible refine w_tup ?_ | with_reducible refine w_lst ?_ | with_reducible refine w_nilU ?_ | with_reducible refine w_bin ?_ | with_reducible refine w_cb ?_ | with_reducible refine w_b ?_ | with_reducible refine w_t ?_ | with_reducible refine w_nt ?_ | with_reducible refine w_at ?_ | with_reducible refine w_ot ?_ | with_reducible refine w_mr1 ?_ | with_reducible refine w_ma ?_ | with_reducible refine w_sl ?_ | with_reducible refine w_oN ?_ | with_reducible refine w_oS ?_ | with_reducible refine w_make ?_ | with_reducible refine w_neg ?_ | with_reducible refine s_fld' ?_ | ((with_reducible apply w_var); exact rfl) | with_reducible refine w_gd rfl ?_ | ((with_reducible refine And.intro (Nat.le_of_ble_eq_true ?_) ?_); exact rfl)))
      refine w_dr hn (take_dr (many := 2) (Urn.at hn _ _) (by omega) (by omega)) fun d u5 ⟨r2, e, k0, k1⟩ => ?_
      subst e
      exact fin _ (fun _ _ h => h) r2 u5 k0 (by omega) (by omega)
    · refine w_if (w_b ?_)
      (repeat (first | with_reducible refine s_seq' ?_ | with_reducible refine s_set' ?_ | with_reducible refine s_par' ?_ | with_reducible refine s_par3' ?_ | with_reducible refine s_asg' ?_ | with_reducible refine s_ifs ?_ | with_reducible refine s_expr' ?_ | with_reducible refine s_ret' ?_ | with_reducible refine s_forW ?_ | with_reducible refine w_cons ?_ | with_reducible refine w_nil ?_ | with_reducible refine w_c ?_ | with_reducible refine w_call ?_ | with_reducible refine w_tup ?_ | with_reducible refine w_lst ?_ | with_reducible refine w_nilU ?_ | with_reducible refine w_bin ?_ | with_reducible refine w_cb ?_ | with_reducible refine w_b ?_ | with_reducible refine w_t ?_ | with_reducible refine w_nt ?_ | with_reducible refine w_at ?_ | with_reducible refine w_ot ?_ | with_reducible refine w_mr1 ?_ | with_reducible refine w_ma ?_ | with_reducible refine w_sl ?_ | with_reducible refine w_oN ?_ | with_reducible refine w_oS ?_ | with_reducible refine w_make ?_ | with_reducible refine w_neg ?_ | with_reducible refine s_fld' ?_ | ((with_reducible apply w_var); exact rfl) | with_reducible refine w_gd rfl ?_ | ((with_reducible refine And.intro (Nat.le_of_ble_eq_true ?_) ?_); exact rfl)))
      refine ⟨false, (by show D.bl (decide ((0 : Int) < left)) = _; rw [decide_eq_false hlf0]), (fun h => by cases h), fun _ => ?_⟩
      exact w_c (fin _ (fun _ _ h => h) 0 u3 (by omega) (by omega) (by omega))
  · rintro env T ⟨a, b, fs, left, u, e6, e11, e12, hab, hds, ok, hla, hlf, rfl, rfl⟩
    cases b with
    | cons y b => cases hds
    | nil =>
    rw [List.append_nil] at hab
    subst hab
    exact h fs left u e6 e11 e12 ok hla (by omega)
end
end LW

set_option Elab.async false
set_option linter.all false
set_option maxRecDepth 100000
set_option maxHeartbeats 4000000
namespace LW
open PySem M3
/-- the names of a frame: ten unlike ones -/
structure Ten (zs : List Str) : Prop where
  len : zs.length = 10
  nm : ∀ z ∈ zs, Nm z
  nd : zs.Nodup
theorem Ten.seg {zs : List Str} (h : Ten zs) (a k : Nat) : (∀ z ∈ (zs.drop a).take k, Nm z) ∧ ((zs.drop a).take k).Nodup :=
  ⟨fun z hz => h.nm z (List.mem_of_mem_drop (List.mem_of_mem_take hz)), (h.nd.sublist (List.drop_sublist _ _)).sublist (List.take_sublist _ _)⟩
theorem Ten.apart {zs : List Str} (h : Ten zs) {a k b : Nat} (hab : a + k ≤ b) {z : Str} (h1 : z ∈ (zs.drop a).take k) : z ∉ zs.drop b := fun h2 => by
  obtain ⟨i, hi, e1⟩ := List.mem_iff_getElem.mp h1
  obtain ⟨j, hj, e2⟩ := List.mem_iff_getElem.mp h2
  rw [List.length_take, List.length_drop] at hi
  rw [List.length_drop] at hj
  rw [List.getElem_take, List.getElem_drop] at e1
  rw [List.getElem_drop] at e2
  have := (List.nodup_iff_pairwise_ne.mp h.nd |> List.pairwise_iff_getElem.mp) (a + i) (b + j) (by omega) (by omega) (by omega)
  exact this (e1.trans e2.symm)
section
variable {S : Store} {n : Nat} {zs : List Str} {g : Bool} {m : Int}
/-- the names of the layers -/
theorem seg2 {X : XP} {u : Int × Int × Int} {ext : Store} {p : Nat} {e6 e7 e8 e9 e10 e11 e12 : Option EV} (hn : n < S.length) (hl : zs.length = 10) {P : D → Store → Prop} (h : ∀ k u', k ≤ 3 → P (.fl (((zs.drop 3).take k).map .str)) (S.set n (uc u') ++ ext)) :
    WE X (mIf (mTO KCS (mVar 1)) (mSl false (mVar 5) (mOSome (mC (.int 3))) (mOSome (mC (.int 6)))) (mSl false (mVar 5) (mOSome (mC (.int 3))) (mOSome (mBin false gAdd (mC (.int 3)) (mCall m__law_draw (mCons (mVar 0) (mCons (mC (.int 4)) mNil)))))) (EF S n zs g m p e6 e7 e8 e9 e10 e11 e12) (S.set n (uc u) ++ ext)) P := by
  refine w_if (w_to (w_var rfl ⟨g, rfl, fun _ => ?_, fun _ => ?_⟩))
  · refine w_sl (w_var rfl (w_oS (w_c ⟨3, rfl, rfl, w_oS (w_c ⟨6, rfl, rfl, w_gl slD_fl ?_ ?_⟩)⟩)))
    · rw [cut_mid (by decide) (by decide), List.length_take, List.length_drop, List.length_map]; omega
    · rw [cut_mid (by decide) (by decide), ← List.map_drop, ← List.map_take]
      exact h 3 u (by decide)
  · refine w_sl (w_var rfl (w_oS (w_c ⟨3, rfl, rfl, w_oS (w_bin (w_c (w_call (w_cons (w_var rfl (w_cons (w_c (w_nil ?_))))))))⟩)))
    refine w_dr hn (take_dr (many := 4) (Urn.at hn _ _) (by omega) (by omega)) fun d u' ⟨r, e, h0, h1⟩ => ?_
    subst e
    refine w_gd (x := .int (3 + r)) rfl ⟨3 + r, rfl, inRng_of (by omega) (by omega), w_gl slD_fl ?_ ?_⟩
    · rw [cut_mid (by decide) (by omega), List.length_take, List.length_drop, List.length_map]; omega
    · rw [cut_mid (by decide) (by omega), ← List.map_drop, ← List.map_take]
      exact h ((3 + r).toNat - (3 : Int).toNat) u' (by show (3 + r).toNat - 3 ≤ 3; omega)
/-- the names of the flags -/
theorem seg3 {X : XP} {u : Int × Int × Int} {ext : Store} {p : Nat} {e6 e7 e8 e9 e10 e11 e12 : Option EV} (hn : n < S.length) (hl : zs.length = 10) {P : D → Store → Prop} (h : ∀ k u', 1 ≤ k → k ≤ 4 → P (.fl (((zs.drop 6).take k).map .str)) (S.set n (uc u') ++ ext)) :
    WE X (mIf (mTO KCS (mVar 1)) (mSl false (mVar 5) (mOSome (mC (.int 6))) mONone) (mSl false (mVar 5) (mOSome (mC (.int 6))) (mOSome (mBin false gAdd (mC (.int 7)) (mCall m__law_draw (mCons (mVar 0) (mCons (mC (.int 3)) mNil)))))) (EF S n zs g m p e6 e7 e8 e9 e10 e11 e12) (S.set n (uc u) ++ ext)) P := by
  refine w_if (w_to (w_var rfl ⟨g, rfl, fun _ => ?_, fun _ => ?_⟩))
  · refine w_sl (w_var rfl (w_oS (w_c ⟨6, rfl, rfl, w_oN (w_gl slD_fl ?_ ?_)⟩)))
    · rw [cut_from (by decide), List.length_drop, List.length_map]; omega
    · have e : (zs.map D.str).drop (6 : Int).toNat = (((zs.drop 6).take 4).map D.str) := by
        rw [List.take_of_length_le (by rw [List.length_drop]; omega), List.map_drop]
        rfl
      rw [cut_from (by decide), e]
      exact h 4 u (by decide) (by decide)
  · refine w_sl (w_var rfl (w_oS (w_c ⟨6, rfl, rfl, w_oS (w_bin (w_c (w_call (w_cons (w_var rfl (w_cons (w_c (w_nil ?_))))))))⟩)))
    refine w_dr hn (take_dr (many := 3) (Urn.at hn _ _) (by omega) (by omega)) fun d u' ⟨r, e, h0, h1⟩ => ?_
    subst e
    refine w_gd (x := .int (7 + r)) rfl ⟨7 + r, rfl, inRng_of (by omega) (by omega), w_gl slD_fl ?_ ?_⟩
    · rw [cut_mid (by decide) (by omega), List.length_take, List.length_drop, List.length_map]; omega
    · rw [cut_mid (by decide) (by omega), ← List.map_drop, ← List.map_take]
      exact h ((7 + r).toNat - (6 : Int).toNat) u' (by show 1 ≤ (7 + r).toNat - 6; omega) (by show (7 + r).toNat - 6 ≤ 4; omega)
end
end LW

set_option Elab.async false
set_option linter.all false
set_option maxRecDepth 100000
set_option maxHeartbeats 4000000
namespace LW
open PySem M3
theorem fr_of {ts : List Tr} {ls : List Ly} {fs : List Fg} {e : Int} {zs y1 y2 y3 : List Str} {k1 k2 k3 : Nat} (Z : Ten zs) (h1 : y1.Perm (zs.take k1)) (k1l : k1 ≤ 3) (p1 : y1.Pairwise fun a b => a.cps.toList < b.cps.toList) (h2 : y2.Perm ((zs.drop 3).take k2)) (k2l : k2 ≤ 3) (p2 : y2.Pairwise fun a b => a.cps.toList < b.cps.toList)
    (h3 : y3.Perm ((zs.drop 6).take k3)) (k3l : 1 ≤ k3 ∧ k3 ≤ 4) (p3 : y3.Pairwise fun a b => a.cps.toList < b.cps.toList) (I : TsI ts y1) (okl : ∀ l ∈ ls, OkL l) (hl : ls.map (·.1) = y2) (okf : ∀ f ∈ fs, OkF f) (hf : fs.map (·.1) = y3) (hs : (fs.map (·.2.2.2)).sum ≤ 2) (he : 0 ≤ e ∧ e ≤ 20) : Fr ts ls fs e := by
  have zl := Z.len
  have l1 : y1.length ≤ 3 := by rw [h1.length_eq, List.length_take]; omega
  have l2 : y2.length ≤ 3 := by rw [h2.length_eq, List.length_take]; omega
  have l3 : y3.length = k3 := by rw [h3.length_eq, List.length_take, List.length_drop]; omega
  have t1 : ∀ t ∈ ts, t.1 ∈ (zs.drop 0).take 3 := fun t ht => by
    have h := h1.subset (I.sub.subset (List.mem_map.mpr ⟨t, ht, rfl⟩))
    exact (List.take_subset_take_left zs k1l) h
  have t2 : ∀ l ∈ ls, l.1 ∈ (zs.drop 3).take 3 := fun l hl' => by
    have h := h2.subset (by rw [← hl]; exact List.mem_map.mpr ⟨l, hl', rfl⟩)
    exact (List.take_subset_take_left _ k2l) h
  have t3 : ∀ f ∈ fs, f.1 ∈ zs.drop 6 := fun f hf' => List.mem_of_mem_take (h3.subset (by rw [← hf]; exact List.mem_map.mpr ⟨f, hf', rfl⟩))
  refine ⟨I.ok_ l1 p1, ⟨?_, fun l hl' hn => ?_, okl, by rw [hl]; exact p2⟩, ⟨fun e => ?_, ?_, okf, by rw [hf]; exact p3, fun f hf' hn => ?_, fun i => Int.le_trans (sum_take fs i okf).1 hs⟩, he⟩
  · have := congrArg List.length hl; rw [List.length_map] at this; omega
  · obtain ⟨t, ht, e⟩ := List.mem_map.mp hn
    exact Z.apart (a := 0) (k := 3) (b := 3) (by decide) (by rw [← e]; exact t1 t ht) (List.mem_of_mem_take (t2 l hl'))
  · have := congrArg List.length hf; rw [e] at this; simp at this; omega
  · have := congrArg List.length hf; rw [List.length_map] at this; omega
  · rcases List.mem_append.mp hn with hn | hn
    · obtain ⟨t, ht, e⟩ := List.mem_map.mp hn
      exact Z.apart (a := 0) (k := 3) (b := 6) (by decide) (by rw [← e]; exact t1 t ht) (t3 f hf')
    · obtain ⟨l, hl', e⟩ := List.mem_map.mp hn
      exact Z.apart (a := 3) (k := 3) (b := 6) (by decide) (by rw [← e]; exact t2 l hl') (t3 f hf')
end LW

set_option Elab.async false
set_option linter.all false
set_option maxRecDepth 100000
set_option maxHeartbeats 4000000
namespace LW
open PySem M3
theorem gTuple_ref {T : Store} {m : Nat} {l : List D} (h : T[m]? = some (.lst l)) : gTuple T [.ref m] = some (.t l) := by
  show (lstOf T (.ref m)).map Gv.t = _
  unfold lstOf
  dsimp only
  rw [h]
  rfl
theorem frame_dr {S : Store} {n : Nat} (U : Urn S n) : Dr S n (m__law_frame [.v (.ref n)] S) fun d => ∃ ts ls fs e, d = fpD ts ls fs e ∧ Fr ts ls fs e := by
  have hn := U.lt
  refine dr_w0 U fun u hu => ?_
  unfold s__law_frame
  (repeat (first | with_reducible refine s_seq' ?_ | with_reducible refine s_set' ?_ | with_reducible refine s_par' ?_ | with_reducible refine s_par3' ?_ | with_reducible refine s_asg' ?_ | with_reducible refine s_ifs ?_ | with_reducible refine s_expr' ?_ | with_reducible refine s_ret' ?_ | with_reducible refine s_forW ?_ | with_reducible refine w_cons ?_ | with_reducible refine w_nil ?_ | with_reducible refine w_c ?_ | with_reducible refine w_call ?_ | with_reducible refine w_tup ?_ | with_reducible refine w_lst ?_ | with_reducible refine w_nilU ?_ | with_reducible refine w_bin ?_ | with_reducible refine w_cb ?_ | with_reducible refine w_b ?_ | with_reducible refine w_t ?_ | with_reducible refine w_nt ?_ | with_reducible refine w_at ?_ | with_reducible refine w_ot ?_ | with_reducible refine w_mr1 ?_ | with_reducible refine w_ma ?_ | with_reducible refine w_sl ?_ | with_reducible refine w_oN ?_ | with_reducible refine w_oS ?_ | with_reducible refine w_make ?_ | with_reducible refine w_neg ?_ | with_reducible refine s_fld' ?_ | ((with_reducible apply w_var); exact rfl) | with_reducible refine w_gd rfl ?_ | ((with_reducible refine And.intro (Nat.le_of_ble_eq_true ?_) ?_); exact rfl)))
  refine w_dr hn (take_dr (many := 12) (Urn.at hn _ _) (by omega) (by omega)) fun d u1 ⟨r, e, h0, h1⟩ => ?_
  subst e
  (repeat (first | with_reducible refine s_seq' ?_ | with_reducible refine s_set' ?_ | with_reducible refine s_par' ?_ | with_reducible refine s_par3' ?_ | with_reducible refine s_asg' ?_ | with_reducible refine s_ifs ?_ | with_reducible refine s_expr' ?_ | with_reducible refine s_ret' ?_ | with_reducible refine s_forW ?_ | with_reducible refine w_cons ?_ | with_reducible refine w_nil ?_ | with_reducible refine w_c ?_ | with_reducible refine w_call ?_ | with_reducible refine w_tup ?_ | with_reducible refine w_lst ?_ | with_reducible refine w_nilU ?_ | with_reducible refine w_bin ?_ | with_reducible refine w_cb ?_ | with_reducible refine w_b ?_ | with_reducible refine w_t ?_ | with_reducible refine w_nt ?_ | with_reducible refine w_at ?_ | with_reducible refine w_ot ?_ | with_reducible refine w_mr1 ?_ | with_reducible refine w_ma ?_ | with_reducible refine w_sl ?_ | with_reducible refine w_oN ?_ | with_reducible refine w_oS ?_ | with_reducible refine w_make ?_ | with_reducible refine w_neg ?_ | with_reducible refine s_fld' ?_ | ((with_reducible apply w_var); exact rfl) | with_reducible refine w_gd rfl ?_ | ((with_reducible refine And.intro (Nat.le_of_ble_eq_true ?_) ?_); exact rfl)))
  refine w_dr hn (of_tupI (is := [1, 1, 1, 2, 2, 3]) (Urn.at hn _ _) (by decide) (by decide)) fun d u2 ⟨m, hm, e⟩ => ?_
  subst e
  have hm3 : 1 ≤ m ∧ m ≤ 3 := by
    simp only [List.mem_cons, List.not_mem_nil, or_false] at hm
    omega
  (repeat (first | with_reducible refine s_seq' ?_ | with_reducible refine s_set' ?_ | with_reducible refine s_par' ?_ | with_reducible refine s_par3' ?_ | with_reducible refine s_asg' ?_ | with_reducible refine s_ifs ?_ | with_reducible refine s_expr' ?_ | with_reducible refine s_ret' ?_ | with_reducible refine s_forW ?_ | with_reducible refine w_cons ?_ | with_reducible refine w_nil ?_ | with_reducible refine w_c ?_ | with_reducible refine w_call ?_ | with_reducible refine w_tup ?_ | with_reducible refine w_lst ?_ | with_reducible refine w_nilU ?_ | with_reducible refine w_bin ?_ | with_reducible refine w_cb ?_ | with_reducible refine w_b ?_ | with_reducible refine w_t ?_ | with_reducible refine w_nt ?_ | with_reducible refine w_at ?_ | with_reducible refine w_ot ?_ | with_reducible refine w_mr1 ?_ | with_reducible refine w_ma ?_ | with_reducible refine w_sl ?_ | with_reducible refine w_oN ?_ | with_reducible refine w_oS ?_ | with_reducible refine w_make ?_ | with_reducible refine w_neg ?_ | with_reducible refine s_fld' ?_ | ((with_reducible apply w_var); exact rfl) | with_reducible refine w_gd rfl ?_ | ((with_reducible refine And.intro (Nat.le_of_ble_eq_true ?_) ?_); exact rfl)))
  refine ⟨_, _, rfl, ?_⟩
  (repeat (first | with_reducible refine s_seq' ?_ | with_reducible refine s_set' ?_ | with_reducible refine s_par' ?_ | with_reducible refine s_par3' ?_ | with_reducible refine s_asg' ?_ | with_reducible refine s_ifs ?_ | with_reducible refine s_expr' ?_ | with_reducible refine s_ret' ?_ | with_reducible refine s_forW ?_ | with_reducible refine w_cons ?_ | with_reducible refine w_nil ?_ | with_reducible refine w_c ?_ | with_reducible refine w_call ?_ | with_reducible refine w_tup ?_ | with_reducible refine w_lst ?_ | with_reducible refine w_nilU ?_ | with_reducible refine w_bin ?_ | with_reducible refine w_cb ?_ | with_reducible refine w_b ?_ | with_reducible refine w_t ?_ | with_reducible refine w_nt ?_ | with_reducible refine w_at ?_ | with_reducible refine w_ot ?_ | with_reducible refine w_mr1 ?_ | with_reducible refine w_ma ?_ | with_reducible refine w_sl ?_ | with_reducible refine w_oN ?_ | with_reducible refine w_oS ?_ | with_reducible refine w_make ?_ | with_reducible refine w_neg ?_ | with_reducible refine s_fld' ?_ | ((with_reducible apply w_var); exact rfl) | with_reducible refine w_gd rfl ?_ | ((with_reducible refine And.intro (Nat.le_of_ble_eq_true ?_) ?_); exact rfl)))
  refine w_dr hn (names_dr (many := 10) (Urn.at hn _ _) (by omega)) fun d u3 ⟨z0, e, zl, Z0⟩ => ?_
  subst e
  (repeat (first | with_reducible refine s_seq' ?_ | with_reducible refine s_set' ?_ | with_reducible refine s_par' ?_ | with_reducible refine s_par3' ?_ | with_reducible refine s_asg' ?_ | with_reducible refine s_ifs ?_ | with_reducible refine s_expr' ?_ | with_reducible refine s_ret' ?_ | with_reducible refine s_forW ?_ | with_reducible refine w_cons ?_ | with_reducible refine w_nil ?_ | with_reducible refine w_c ?_ | with_reducible refine w_call ?_ | with_reducible refine w_tup ?_ | with_reducible refine w_lst ?_ | with_reducible refine w_nilU ?_ | with_reducible refine w_bin ?_ | with_reducible refine w_cb ?_ | with_reducible refine w_b ?_ | with_reducible refine w_t ?_ | with_reducible refine w_nt ?_ | with_reducible refine w_at ?_ | with_reducible refine w_ot ?_ | with_reducible refine w_mr1 ?_ | with_reducible refine w_ma ?_ | with_reducible refine w_sl ?_ | with_reducible refine w_oN ?_ | with_reducible refine w_oS ?_ | with_reducible refine w_make ?_ | with_reducible refine w_neg ?_ | with_reducible refine s_fld' ?_ | ((with_reducible apply w_var); exact rfl) | with_reducible refine w_gd rfl ?_ | ((with_reducible refine And.intro (Nat.le_of_ble_eq_true ?_) ?_); exact rfl)))
  refine w_dr hn (mixed_names (zs := z0) (Urn.at hn _ _) (by omega)) fun d u4 ⟨zs, e, hp⟩ => ?_
  subst e
  have Z : Ten zs := ⟨by rw [hp.length_eq, zl], fun z hz => Z0.nm z (hp.subset hz), hp.nodup_iff.mpr Z0.nd⟩
  (repeat (first | with_reducible refine s_seq' ?_ | with_reducible refine s_set' ?_ | with_reducible refine s_par' ?_ | with_reducible refine s_par3' ?_ | with_reducible refine s_asg' ?_ | with_reducible refine s_ifs ?_ | with_reducible refine s_expr' ?_ | with_reducible refine s_ret' ?_ | with_reducible refine s_forW ?_ | with_reducible refine w_cons ?_ | with_reducible refine w_nil ?_ | with_reducible refine w_c ?_ | with_reducible refine w_call ?_ | with_reducible refine w_tup ?_ | with_reducible refine w_lst ?_ | with_reducible refine w_nilU ?_ | with_reducible refine w_bin ?_ | with_reducible refine w_cb ?_ | with_reducible refine w_b ?_ | with_reducible refine w_t ?_ | with_reducible refine w_nt ?_ | with_reducible refine w_at ?_ | with_reducible refine w_ot ?_ | with_reducible refine w_mr1 ?_ | with_reducible refine w_ma ?_ | with_reducible refine w_sl ?_ | with_reducible refine w_oN ?_ | with_reducible refine w_oS ?_ | with_reducible refine w_make ?_ | with_reducible refine w_neg ?_ | with_reducible refine s_fld' ?_ | ((with_reducible apply w_var); exact rfl) | with_reducible refine w_gd rfl ?_ | ((with_reducible refine And.intro (Nat.le_of_ble_eq_true ?_) ?_); exact rfl)))
  refine ⟨_, _, _, rfl, ?_⟩
  with_reducible refine s_seq' ?_
  with_reducible refine s_forW ?_
  with_reducible refine w_ma ?_
  with_reducible refine w_cb ?_
  with_reducible refine w_cons ?_
  refine seg1 (p := 1) (g := decide (r = 0)) (e6 := none) (e7 := none) (e8 := none) (e9 := none) (e10 := none) (e11 := none) (e12 := none) hn hm3 Z.len fun k1 u5 hk1 => ?_
  have sg1 := Z.seg 0 k1
  obtain ⟨y1, e1, p1, q1⟩ := sort_names (T := S.set n (uc u5) ++ [.lst []]) sg1.1 sg1.2 (by rw [List.length_take, List.length_drop, Z.len]; omega)
  with_reducible refine w_nil ?_
  refine w_gl e1 ?_ ?_
  · have := p1.length_eq
    rw [List.length_take, List.length_drop, Z.len] at this
    rw [List.length_map]
    omega
  refine w_eq rfl ?_
  have n1 : ∀ y ∈ y1, Nm y := fun y hy => sg1.1 y (p1.subset hy)
  have y1l : y1.length ≤ 3 := by
    have := p1.length_eq
    rw [List.length_take, List.length_drop, Z.len] at this
    omega
  refine traits_loop (g := decide (r = 0)) hn n1 y1l fun ts u6 e6 e7 I => ?_
  with_reducible refine s_seq' ?_
  with_reducible refine s_set' ?_
  with_reducible refine w_nilU ?_
  with_reducible refine s_seq' ?_
  with_reducible refine s_forW ?_
  with_reducible refine w_ma ?_
  with_reducible refine w_cb ?_
  with_reducible refine w_cons ?_
  refine seg2 (p := prodT ts) (g := decide (r = 0)) (m := m) (e6 := e6) (e7 := e7) (e8 := some (.v (.ref (S.length + 1)))) (e9 := none) (e10 := none) (e11 := none) (e12 := none) hn Z.len fun k2 u7 hk2 => ?_
  have sg2 := Z.seg 3 k2
  obtain ⟨y2, e2, p2, q2⟩ := sort_names (T := S.set n (uc u7) ++ [.lst (ts.map trD), .lst []]) sg2.1 sg2.2 (by rw [List.length_take, List.length_drop, Z.len]; omega)
  have y2l : y2.length ≤ 3 := by
    have := p2.length_eq
    rw [List.length_take, List.length_drop, Z.len] at this
    omega
  with_reducible refine w_nil ?_
  refine w_gl e2 (by rw [List.length_map]; omega) ?_
  refine w_eq rfl ?_
  refine layers_loop (g := decide (r = 0)) hn (fun y hy => sg2.1 y (p2.subset hy)) y2l fun ls u8 e6' okl hly => ?_
  with_reducible refine s_seq' ?_
  with_reducible refine s_par' ?_
  with_reducible refine w_cons ?_
  with_reducible refine w_nilU ?_
  with_reducible refine w_cons ?_
  with_reducible refine w_c ?_
  with_reducible refine w_nil ?_
  with_reducible refine ⟨_, _, rfl, ?_⟩
  with_reducible refine s_seq' ?_
  with_reducible refine s_forW ?_
  with_reducible refine w_ma ?_
  with_reducible refine w_cb ?_
  with_reducible refine w_cons ?_
  refine seg3 (p := prodT ts) (g := decide (r = 0)) (m := m) (e6 := e6') (e7 := e7) (e8 := some (.v (.ref (S.length + 1)))) (e9 := some (.v (.ref (S.length + 2)))) (e10 := some (.v (.int 2))) (e11 := none) (e12 := none) hn Z.len fun k3 u9 hk3 hk4 => ?_
  have sg3 := Z.seg 6 k3
  obtain ⟨y3, e3, p3, q3⟩ := sort_names (T := S.set n (uc u9) ++ [.lst (ts.map trD), .lst (ls.map lyD), .lst []]) sg3.1 sg3.2 (by rw [List.length_take, List.length_drop, Z.len]; omega)
  have y3l : y3.length ≤ 4 := by
    have := p3.length_eq
    rw [List.length_take, List.length_drop, Z.len] at this
    omega
  with_reducible refine w_nil ?_
  refine w_gl e3 (by rw [List.length_map]; omega) ?_
  refine w_eq rfl ?_
  refine flags_loop (g := decide (r = 0)) hn (fun y hy => sg3.1 y (p3.subset hy)) y3l fun fs left uA e6a e11 e12 okf hfy hsum => ?_
  have done : ∀ (e : Int) (u : Int × Int × Int), 0 ≤ e ∧ e ≤ 20 → Lf S n (fun d => ∃ ts ls fs e, d = fpD ts ls fs e ∧ Fr ts ls fs e) (.tup [.tup (ts.map trD), .tup (ls.map lyD), .tup (fs.map fgD), .int e]) (S.set n (uc u) ++ [.lst (ts.map trD), .lst (ls.map lyD), .lst (fs.map fgD)]) := fun e u he => by
    have F : Fr ts ls fs e := fr_of Z (k1 := k1) p1 hk1 q1 p2 hk2 q2 p3 ⟨hk3, hk4⟩ q3 I okl hly okf hfy hsum he
    exact ⟨u, _, _, rfl, mapR_cl _ F.sm.cl, ts, ls, fs, e, rfl, F⟩
  have ltl : ts.length ≤ 3 := by
    have := I.sub.length_le
    rw [List.length_map] at this
    omega
  have lll : ls.length ≤ 3 := by
    have := congrArg List.length hly
    rw [List.length_map] at this
    omega
  have lfl : fs.length ≤ 4 := by
    have := congrArg List.length hfy
    rw [List.length_map] at this
    omega
  (repeat (first | with_reducible refine s_seq' ?_ | with_reducible refine s_set' ?_ | with_reducible refine s_par' ?_ | with_reducible refine s_par3' ?_ | with_reducible refine s_asg' ?_ | with_reducible refine s_ifs ?_ | with_reducible refine s_expr' ?_ | with_reducible refine s_ret' ?_ | with_reducible refine s_forW ?_ | with_reducible refine w_cons ?_ | with_reducible refine w_nil ?_ | with_reducible refine w_c ?_ | with_reducible refine w_call ?_ | with_reducible refine w_tup ?_ | with_reducible refine w_lst ?_ | with_reducible refine w_nilU ?_ | with_reducible refine w_bin ?_ | with_reducible refine w_cb ?_ | with_reducible refine w_b ?_ | with_reducible refine w_t ?_ | with_reducible refine w_nt ?_ | with_reducible refine w_at ?_ | with_reducible refine w_ot ?_ | with_reducible refine w_mr1 ?_ | with_reducible refine w_ma ?_ | with_reducible refine w_sl ?_ | with_reducible refine w_oN ?_ | with_reducible refine w_oS ?_ | with_reducible refine w_make ?_ | with_reducible refine w_neg ?_ | with_reducible refine s_fld' ?_ | ((with_reducible apply w_var); exact rfl) | with_reducible refine w_gd rfl ?_ | ((with_reducible refine And.intro (Nat.le_of_ble_eq_true ?_) ?_); exact rfl)))
  with_reducible refine w_gt (ds := ts.map trD) (gTuple_ref (atE 0)) (by rw [List.length_map]; omega) ?_
  (repeat (first | with_reducible refine s_seq' ?_ | with_reducible refine s_set' ?_ | with_reducible refine s_par' ?_ | with_reducible refine s_par3' ?_ | with_reducible refine s_asg' ?_ | with_reducible refine s_ifs ?_ | with_reducible refine s_expr' ?_ | with_reducible refine s_ret' ?_ | with_reducible refine s_forW ?_ | with_reducible refine w_cons ?_ | with_reducible refine w_nil ?_ | with_reducible refine w_c ?_ | with_reducible refine w_call ?_ | with_reducible refine w_tup ?_ | with_reducible refine w_lst ?_ | with_reducible refine w_nilU ?_ | with_reducible refine w_bin ?_ | with_reducible refine w_cb ?_ | with_reducible refine w_b ?_ | with_reducible refine w_t ?_ | with_reducible refine w_nt ?_ | with_reducible refine w_at ?_ | with_reducible refine w_ot ?_ | with_reducible refine w_mr1 ?_ | with_reducible refine w_ma ?_ | with_reducible refine w_sl ?_ | with_reducible refine w_oN ?_ | with_reducible refine w_oS ?_ | with_reducible refine w_make ?_ | with_reducible refine w_neg ?_ | with_reducible refine s_fld' ?_ | ((with_reducible apply w_var); exact rfl) | with_reducible refine w_gd rfl ?_ | ((with_reducible refine And.intro (Nat.le_of_ble_eq_true ?_) ?_); exact rfl)))
  with_reducible refine w_gt (ds := ls.map lyD) (gTuple_ref (atE 1)) (by rw [List.length_map]; omega) ?_
  (repeat (first | with_reducible refine s_seq' ?_ | with_reducible refine s_set' ?_ | with_reducible refine s_par' ?_ | with_reducible refine s_par3' ?_ | with_reducible refine s_asg' ?_ | with_reducible refine s_ifs ?_ | with_reducible refine s_expr' ?_ | with_reducible refine s_ret' ?_ | with_reducible refine s_forW ?_ | with_reducible refine w_cons ?_ | with_reducible refine w_nil ?_ | with_reducible refine w_c ?_ | with_reducible refine w_call ?_ | with_reducible refine w_tup ?_ | with_reducible refine w_lst ?_ | with_reducible refine w_nilU ?_ | with_reducible refine w_bin ?_ | with_reducible refine w_cb ?_ | with_reducible refine w_b ?_ | with_reducible refine w_t ?_ | with_reducible refine w_nt ?_ | with_reducible refine w_at ?_ | with_reducible refine w_ot ?_ | with_reducible refine w_mr1 ?_ | with_reducible refine w_ma ?_ | with_reducible refine w_sl ?_ | with_reducible refine w_oN ?_ | with_reducible refine w_oS ?_ | with_reducible refine w_make ?_ | with_reducible refine w_neg ?_ | with_reducible refine s_fld' ?_ | ((with_reducible apply w_var); exact rfl) | with_reducible refine w_gd rfl ?_ | ((with_reducible refine And.intro (Nat.le_of_ble_eq_true ?_) ?_); exact rfl)))
  with_reducible refine w_gt (ds := fs.map fgD) (gTuple_ref (atE 2)) (by rw [List.length_map]; omega) ?_
  (repeat (first | with_reducible refine s_seq' ?_ | with_reducible refine s_set' ?_ | with_reducible refine s_par' ?_ | with_reducible refine s_par3' ?_ | with_reducible refine s_asg' ?_ | with_reducible refine s_ifs ?_ | with_reducible refine s_expr' ?_ | with_reducible refine s_ret' ?_ | with_reducible refine s_forW ?_ | with_reducible refine w_cons ?_ | with_reducible refine w_nil ?_ | with_reducible refine w_c ?_ | with_reducible refine w_call ?_ | with_reducible refine w_tup ?_ | with_reducible refine w_lst ?_ | with_reducible refine w_nilU ?_ | with_reducible refine w_bin ?_ | with_reducible refine w_cb ?_ | with_reducible refine w_b ?_ | with_reducible refine w_t ?_ | with_reducible refine w_nt ?_ | with_reducible refine w_at ?_ | with_reducible refine w_ot ?_ | with_reducible refine w_mr1 ?_ | with_reducible refine w_ma ?_ | with_reducible refine w_sl ?_ | with_reducible refine w_oN ?_ | with_reducible refine w_oS ?_ | with_reducible refine w_make ?_ | with_reducible refine w_neg ?_ | with_reducible refine s_fld' ?_ | ((with_reducible apply w_var); exact rfl) | with_reducible refine w_gd rfl ?_ | ((with_reducible refine And.intro (Nat.le_of_ble_eq_true ?_) ?_); exact rfl)))
  refine w_if (w_to (w_var rfl ⟨_, rfl, fun _ => ?_, fun _ => ?_⟩))
  · exact w_c (w_nil ⟨Nat.le_of_ble_eq_true rfl, done 20 uA (by decide)⟩)
  · (repeat (first | with_reducible refine s_seq' ?_ | with_reducible refine s_set' ?_ | with_reducible refine s_par' ?_ | with_reducible refine s_par3' ?_ | with_reducible refine s_asg' ?_ | with_reducible refine s_ifs ?_ | with_reducible refine s_expr' ?_ | with_reducible refine s_ret' ?_ | with_reducible refine s_forW ?_ | with_reducible refine w_cons ?_ | with_reducible refine w_nil ?_ | with_reducible refine w_c ?_ | with_reducible refine w_call ?_ | with_reducible refine w_tup ?_ | with_reducible refine w_lst ?_ | with_reducible refine w_nilU ?_ | with_reducible refine w_bin ?_ | with_reducible refine w_cb ?_ | with_reducible refine w_b ?_ | with_reducible refine w_t ?_ | with_reducible refine w_nt ?_ | with_reducible refine w_at ?_ | with_reducible refine w_ot ?_ | with_reducible refine w_mr1 ?_ | with_reducible refine w_ma ?_ | with_reducible refine w_sl ?_ | with_reducible refine w_oN ?_ | with_reducible refine w_oS ?_ | with_reducible refine w_make ?_ | with_reducible refine w_neg ?_ | with_reducible refine s_fld' ?_ | ((with_reducible apply w_var); exact rfl) | with_reducible refine w_gd rfl ?_ | ((with_reducible refine And.intro (Nat.le_of_ble_eq_true ?_) ?_); exact rfl)))
    refine w_dr hn (take_dr (many := 21) (Urn.at hn _ _) (by omega) (by omega)) fun d uB ⟨x, e, x0, x1⟩ => ?_
    subst e
    (repeat (first | with_reducible refine s_seq' ?_ | with_reducible refine s_set' ?_ | with_reducible refine s_par' ?_ | with_reducible refine s_par3' ?_ | with_reducible refine s_asg' ?_ | with_reducible refine s_ifs ?_ | with_reducible refine s_expr' ?_ | with_reducible refine s_ret' ?_ | with_reducible refine s_forW ?_ | with_reducible refine w_cons ?_ | with_reducible refine w_nil ?_ | with_reducible refine w_c ?_ | with_reducible refine w_call ?_ | with_reducible refine w_tup ?_ | with_reducible refine w_lst ?_ | with_reducible refine w_nilU ?_ | with_reducible refine w_bin ?_ | with_reducible refine w_cb ?_ | with_reducible refine w_b ?_ | with_reducible refine w_t ?_ | with_reducible refine w_nt ?_ | with_reducible refine w_at ?_ | with_reducible refine w_ot ?_ | with_reducible refine w_mr1 ?_ | with_reducible refine w_ma ?_ | with_reducible refine w_sl ?_ | with_reducible refine w_oN ?_ | with_reducible refine w_oS ?_ | with_reducible refine w_make ?_ | with_reducible refine w_neg ?_ | with_reducible refine s_fld' ?_ | ((with_reducible apply w_var); exact rfl) | with_reducible refine w_gd rfl ?_ | ((with_reducible refine And.intro (Nat.le_of_ble_eq_true ?_) ?_); exact rfl)))
    refine w_dr hn (of_tupI (is := [0, 2, 6, x]) (Urn.at hn _ _) (by simp) (by simp)) fun d uC ⟨i, hi, e⟩ => ?_
    subst e
    have hi20 : 0 ≤ i ∧ i ≤ 20 := by
      simp only [List.mem_cons, List.not_mem_nil, or_false] at hi
      omega
    exact w_nil ⟨Nat.le_of_ble_eq_true rfl, done i uC hi20⟩
end LW

set_option Elab.async false
set_option linter.all false
set_option maxRecDepth 100000
set_option maxHeartbeats 4000000
namespace LW
open PySem M3
theorem lcO_map {s : Src} {tg : GM} {body : Evs → Store → Option (List D × Store)} {env : Evs} {S : Store} {f : D → List D} (hs : s.1 = []) : ∀ ds : List D, (∀ d ∈ ds, ∃ env', tg d env S = some (env', S) ∧ body env' S = some (f d, S)) → lcO s tg mYes body env ds S = some (ds.flatMap f, S)
  | [], _ => by
    unfold lcO
    have : okS s S = true := by obtain ⟨a, b⟩ := s; cases hs; exact okS_none _ _
    rw [if_pos this]
    rfl
  | d :: ds, h => by
    obtain ⟨env', e1, e2⟩ := h d List.mem_cons_self
    have ih := lcO_map (env := env) hs ds fun x hx => h x (List.mem_cons_of_mem _ hx)
    unfold lcO
    have : okS s S = true := by obtain ⟨a, b⟩ := s; cases hs; exact okS_none _ _
    rw [if_pos this, e1]
    dsimp only
    have e3 : mYes env' S = .ok true S := rfl
    rw [e3]
    dsimp only
    rw [e2]
    dsimp only
    rw [ih]
    rfl
theorem w_lc2v {X : XP} {env : Evs} {S : Store} {P : D → Store → Prop} {mi mi1 : IM} {tg tg1 : GM} {me : EM} {own own1 : List Nat} (h : WE X (mi env S) fun s S1 => s.1 = [] ∧ ∃ f : D → List D, (∀ d ∈ s.2, ∃ env' es, tg d (wipeE env own) S1 = some (env', S1) ∧ mi1 env' S1 = .ok ([], es) S1 ∧ ∃ k : D → D, (∀ x ∈ es, ∃ env2, tg1 x (wipeE env' own1) S1 = some (env2, S1) ∧ WE xNo (me env2 S1) fun y S' => y = k x ∧ S' = S1) ∧ f d = es.map k) ∧ (s.2.flatMap f).length ≤ 16777216 ∧ P (.fl (s.2.flatMap f)) S1) : WE X (mLc2 false mi tg mYes mi1 tg1 mYes me own own1 env S) P := by
  unfold mLc2
  refine w_bind (h.imp fun s S1 h => ?_)
  obtain ⟨h0, f, hf, hl, p⟩ := h
  have e := lcO_map (s := s) (tg := tg) (body := lcBody mi1 tg1 mYes me own1) (env := wipeE env own) (S := S1) (f := f) h0 s.2 fun d hd => by
    obtain ⟨env', es, e0, e1, k, hk, ef⟩ := hf d hd
    refine ⟨env', e0, ?_⟩
    unfold lcBody
    rw [e1]
    dsimp only
    rw [ef]
    exact lcG_map (s := ([], es)) (tg := tg1) (tt := mYes) (me := me) (env := wipeE env' own1) (S := S1) (f := k) rfl es fun x hx => by
      obtain ⟨env2, q0, q1⟩ := hk x hx
      obtain ⟨y, S', q2, rfl, rfl⟩ := q1.ok
      exact ⟨env2, q0, rfl, q2⟩
  rw [e]
  unfold lcEnd Gv.fin
  dsimp only
  rw [List.nil_append, if_pos hl]
  exact p
end LW

set_option Elab.async false
set_option linter.all false
set_option maxRecDepth 100000
set_option maxHeartbeats 4000000
namespace LW
open PySem M3
/-- tuples of values, one value more -/
def stepV (rows : List (List Str)) (vs : List Str) : List (List Str) := rows.flatMap fun r => vs.map fun v => r ++ [v]
def allV (ts : List Tr) : List (List Str) := (ts.map (·.2)).foldl stepV [[]]
theorem allV_snoc (ts : List Tr) (t : Tr) : allV (ts ++ [t]) = stepV (allV ts) t.2 := by unfold allV; rw [List.map_append, List.foldl_append]; rfl
theorem stepV_len (rows : List (List Str)) (vs : List Str) : (stepV rows vs).length = rows.length * vs.length := by
  unfold stepV
  induction rows with
  | nil => simp
  | cons r rows ih => rw [List.flatMap_cons, List.length_append, ih, List.length_map, List.length_cons, Nat.succ_mul, Nat.add_comm]
theorem allV_len : ∀ ts : List Tr, (allV ts).length = prodT ts := fun ts => by
  suffices h : ∀ (b a : List Tr), (allV a).length = prodT a → ((b.map (·.2)).foldl stepV (allV a)).length = prodT (a ++ b) by
    have := h ts [] rfl
    simpa [allV] using this
  intro b
  induction b with
  | nil => intro a h; simpa using h
  | cons t b ih =>
    intro a h
    have := ih (a ++ [t]) (by rw [allV_snoc, stepV_len, h, prodT_snoc])
    rw [allV_snoc, List.append_assoc] at this
    exact this
abbrev rowD (r : List Str) : D := .tup (r.map .str)
def stepF (vs : List Str) : D → List D
  | .tup xs => (vs.map D.str).map (fun v => D.tup (xs ++ [v]))
  | _ => []
theorem step_rows (rows : List (List Str)) (vs : List Str) : (rows.map rowD).flatMap (stepF vs) = (stepV rows vs).map rowD := by
  unfold stepV
  rw [List.flatMap_map, List.map_flatMap]
  congr 1
  funext r
  show List.map (fun v => D.tup (r.map D.str ++ [v])) (List.map D.str vs) = _
  rw [List.map_map, List.map_map]
  congr 1
  funext v
  show D.tup (r.map D.str ++ [D.str v]) = D.tup ((r ++ [v]).map D.str)
  rw [List.map_append]
  rfl
theorem row_len : ∀ (ts a : List Tr), (∀ r ∈ allV a, r.length = a.length) → ∀ r ∈ (ts.map (·.2)).foldl stepV (allV a), r.length = a.length + ts.length
  | [], a, h, r, hr => h r hr
  | t :: ts, a, h, r, hr => by
    have := row_len ts (a ++ [t]) (fun r hr => by
      rw [allV_snoc] at hr
      obtain ⟨q, hq, hr⟩ := List.mem_flatMap.mp hr
      obtain ⟨v, _, rfl⟩ := List.mem_map.mp hr
      rw [List.length_append, List.length_append, h q hq]
      rfl) r (by rw [allV_snoc]; exact hr)
    rw [this]
    simp only [List.length_append, List.length_cons, List.length_nil]
    omega
theorem allV_row {ts : List Tr} {r : List Str} (hr : r ∈ allV ts) : r.length = ts.length := by
  have := row_len ts [] (fun r h => by
    have : r = [] := by simpa [allV] using h
    rw [this]; rfl) r hr
  simpa using this
end LW

set_option Elab.async false
set_option linter.all false
set_option maxRecDepth 100000
set_option maxHeartbeats 4000000
namespace LW
open PySem M3
theorem w_starT {X : XP} {env : Evs} {S : Store} {me : EM} {mr : AM} {P : List D → Store → Prop} (h : WE X (me env S) fun d S1 => ∃ ds, d = .tup ds ∧ WE X (mr env S1) fun xs S2 => P (ds ++ xs) S2) : WE X (mStar me mr env S) P := by
  unfold mStar
  refine w_bind (h.imp fun d S1 h => ?_)
  obtain ⟨ds, rfl, h⟩ := h
  exact w_bind (h.imp fun xs S2 h => h)
theorem rows_cl {L : Nat} (rows : List (List Str)) : clDs L (rows.map rowD) = true := clDs_of fun d hd => by
  obtain ⟨r, _, rfl⟩ := List.mem_map.mp hd
  exact clDs_of (L := L) strs_cl
section
variable {S : Store} {ts : List Tr} {ls : List Ly} {fs : List Fg} {e : Int}
theorem all_values_ok (r : Fr ts ls fs e) : m_all_values [.v (frD (fpD ts ls fs e))] S = .ok (.fl ((allV ts).map rowD)) S := by
  refine pure_eq (rows_cl _) ?_
  unfold s_all_values
  refine s_seq' (s_set' (w_lst (w_cons (w_tup (w_nil ⟨Nat.zero_le _, w_nil ⟨Nat.le_of_ble_eq_true rfl, ?_⟩⟩)))))
  with_reducible refine s_seq' ?_
  refine s_forW (w_ma (w_atFr r.traits_ (w_var rfl ⟨rfl, w_eq rfl ?_⟩)))
  refine forG_w (fun ds env T => ∃ (a b : List Tr) (e2 e3 : Option EV), a ++ b = ts ∧ ds = b.map trD ∧ T = S ∧ env = [some (.v (frD (fpD ts ls fs e))), some (.v (.fl ((allV a).map rowD))), e2, e3, none, none]) (fun r env S h => okS_none _ _) ?_ ?_ _ _ _ ⟨[], ts, none, none, rfl, rfl, rfl, rfl⟩
  · rintro d rr env T ⟨a, b, e2, e3, hab, hds, rfl, rfl⟩
    cases b with
    | nil => cases hds
    | cons t b =>
    obtain ⟨rfl, rfl⟩ := List.cons.inj hds
    have ht := r.t.ok t (by rw [← hab]; simp)
    have hpr : prodT a * t.2.length ≤ 12 := by
      have h1 := r.t.pr (a ++ [t]).length
      rw [← hab, show a ++ t :: b = (a ++ [t]) ++ b by simp, List.take_left, prodT_snoc] at h1
      exact h1
    refine ⟨([some (.v (frD (fpD ts ls fs e))), some (.v (.fl ((allV a).map rowD))), some (.v (.str t.1)), some (.v (.tup (t.2.map .str))), none, none], T), rfl, ?_⟩
    with_reducible refine s_set' ?_
    refine w_lc2v (w_ma (w_var rfl (w_eq rfl ⟨rfl, stepF t.2, fun d hd => ?_, ?_, ?_⟩)))
    · obtain ⟨row, hrow, rfl⟩ := List.mem_map.mp hd
      have hrl := allV_row hrow
      have hal : a.length ≤ 3 := by have := congrArg List.length hab; rw [List.length_append] at this; have := r.t.len; omega
      refine ⟨_, t.2.map D.str, rfl, rfl, fun v => D.tup (row.map D.str ++ [v]), fun x hx => ⟨_, rfl, ?_⟩, rfl⟩
      refine w_tup (w_starT (w_var rfl ⟨row.map .str, rfl, w_cons (w_var rfl (w_nil ⟨?_, rfl, rfl⟩))⟩))
      rw [List.length_append, List.length_map]
      show row.length + 1 ≤ _
      omega
    · show (((allV a).map rowD).flatMap (stepF t.2)).length ≤ _
      rw [step_rows, List.length_map, stepV_len, allV_len]; omega
    · rw [show (([], (allV a).map rowD) : Src).2.flatMap (stepF t.2) = (allV (a ++ [t])).map rowD by rw [allV_snoc]; exact step_rows _ _]
      exact ⟨a ++ [t], b, _, _, by rw [← hab, List.append_assoc]; rfl, rfl, rfl, rfl⟩
  · rintro env T ⟨a, b, e2, e3, hab, hds, rfl, rfl⟩
    cases b with
    | cons t b => cases hds
    | nil =>
    rw [List.append_nil] at hab
    subst hab
    with_reducible refine s_ret' ?_
    exact w_var rfl ⟨rfl, rfl⟩
end
end LW

set_option Elab.async false
set_option linter.all false
set_option maxRecDepth 100000
set_option maxHeartbeats 4000000
namespace LW
open PySem M3
/-- an asker -/
abbrev askD (n : Int) (r : List Str) : D := .tup [.int n, rowD r]
def askF (rows : List (List Str)) : D → List D := fun d => rows.map fun r => D.tup [d, rowD r]
def askers (rows : List (List Str)) : List D := (upto 0 100).flatMap (askF rows)
theorem flat_len (rows : List (List Str)) : ∀ l : List D, (l.flatMap (askF rows)).length = l.length * rows.length
  | [] => by simp
  | d :: l => by
    rw [List.flatMap_cons, List.length_append, flat_len rows l, List.length_cons, Nat.succ_mul, Nat.add_comm]
    unfold askF
    rw [List.length_map]
theorem askers_len (rows : List (List Str)) : (askers rows).length = 100 * rows.length := by
  unfold askers
  rw [flat_len, M3.upto_length]
theorem upto_mem : ∀ (k : Nat) (lo : Int) (d : D), d ∈ upto lo k → ∃ i : Int, d = .int i ∧ lo ≤ i ∧ i < lo + k
  | 0, _, _, h => by cases h
  | k + 1, lo, d, h => by
    rcases List.mem_cons.mp (show d ∈ D.int lo :: upto (lo + 1) k from h) with rfl | h
    · exact ⟨lo, rfl, by omega, by omega⟩
    · obtain ⟨i, e, h1, h2⟩ := upto_mem k (lo + 1) d h
      exact ⟨i, e, by omega, by omega⟩
theorem askers_cl {L : Nat} (rows : List (List Str)) : clDs L (askers rows) = true := clDs_of fun d hd => by
  unfold askers at hd
  obtain ⟨x, hx, hd⟩ := List.mem_flatMap.mp hd
  obtain ⟨i, rfl, _, _⟩ := upto_mem 100 0 x hx
  obtain ⟨r, _, rfl⟩ := List.mem_map.mp hd
  refine clDs_of (L := L) fun d hd => ?_
  rcases List.mem_cons.mp hd with rfl | hd
  · rfl
  · rw [List.mem_singleton.mp hd]
    exact clDs_of (L := L) strs_cl
section
variable {S : Store} {ts : List Tr} {ls : List Ly} {fs : List Fg} {e : Int}
theorem all_askers_ok (r : Fr ts ls fs e) : m_all_askers [.v (frD (fpD ts ls fs e))] S = .ok (.fl (askers (allV ts))) S := by
  have hv : (allV ts).length ≤ 12 := by
    rw [allV_len]
    have := r.t.pr ts.length
    rwa [List.take_length] at this
  refine pure_eq (askers_cl _) ?_
  unfold s_all_askers
  refine s_seq' (s_set' (w_call (w_cons (w_var rfl (w_nil (w_eq (all_values_ok r) ?_))))))
  with_reducible refine s_ret' ?_
  refine w_lc2v (w_mr1 (w_cons (w_c (w_nil ⟨100, rfl, rfl, rfl, askF (allV ts), fun d hd => ?_, ?_, rfl, rfl⟩))))
  · refine ⟨_, (allV ts).map rowD, rfl, rfl, fun x => D.tup [d, x], fun x hx => ⟨_, rfl, ?_⟩, ?_⟩
    · exact w_tup (w_cons (w_var rfl (w_cons (w_var rfl (w_nil ⟨Nat.le_of_ble_eq_true rfl, rfl, rfl⟩)))))
    · unfold askF
      rw [List.map_map]
      rfl
  · have := askers_len (allV ts)
    show (askers (allV ts)).length ≤ _
    omega
theorem gTuple_fl' {T : Store} {ds : List D} : gTuple T [.fl ds] = some (.t ds) := rfl
theorem askers_ok (r : Fr ts ls fs e) : m_Frame_askers [.v (frD (fpD ts ls fs e))] S = .ok (.tup (askers (allV ts))) S := by
  have hv : (allV ts).length ≤ 12 := by
    rw [allV_len]
    have := r.t.pr ts.length
    rwa [List.take_length] at this
  refine pure_eq (askers_cl _) ?_
  unfold s_Frame_askers
  refine s_ret' (w_cb (w_cons (w_call (w_cons (w_var rfl (w_nil (w_eq (all_askers_ok r) (w_nil (w_gt gTuple_fl (by rw [askers_len]; omega) ⟨rfl, rfl⟩)))))))))
end
end LW

set_option Elab.async false
set_option linter.all false
set_option maxRecDepth 100000
set_option maxHeartbeats 4000000
namespace LW
open PySem M3
theorem stepV_app (a b : List (List Str)) (vs : List Str) : stepV (a ++ b) vs = stepV a vs ++ stepV b vs := by unfold stepV; rw [List.flatMap_append]
theorem upto_snoc : ∀ (k : Nat) (lo : Int), upto lo (k + 1) = upto lo k ++ [.int (lo + k)]
  | 0, lo => by simp [upto]
  | k + 1, lo => by
    have h := upto_snoc k (lo + 1)
    show D.int lo :: upto (lo + 1) (k + 1) = D.int lo :: upto (lo + 1) k ++ [.int (lo + ((k + 1 : Nat) : Int))]
    rw [h]
    have : lo + 1 + (k : Int) = lo + ((k + 1 : Nat) : Int) := by push_cast; omega
    rw [this]
    rfl
section
variable {S : Store} {ts : List Tr} {ls : List Ly} {fs : List Fg} {e : Int}
theorem law_askers_ok (r : Fr ts ls fs e) : m__law_askers [.v (fpD ts ls fs e)] S = .ok (.fl (askers (allV ts))) S := by
  have hv : (allV ts).length ≤ 12 := by
    rw [allV_len]
    have := r.t.pr ts.length
    rwa [List.take_length] at this
  refine pure_eq (askers_cl _) ?_
  unfold s__law_askers
  refine s_seq' (s_set' (w_lst (w_cons (w_tup (w_nil ⟨Nat.zero_le _, w_nil ⟨Nat.le_of_ble_eq_true rfl, ?_⟩⟩)))))
  with_reducible refine s_seq' ?_
  refine s_forW (w_ma (w_bin (w_var rfl (w_c (w_gd (x := .tup (ts.map trD)) rfl (w_eq rfl ?_))))))
  refine forG_w (fun ds env T => ∃ (a b : List Tr) (e2 e3 e4 e5 : Option EV), a ++ b = ts ∧ ds = b.map trD ∧ T = S ∧ env = [some (.v (fpD ts ls fs e)), some (.v (.fl ((allV a).map rowD))), e2, e3, e4, e5, none, none, none]) (fun r env S h => okS_none _ _) ?_ ?_ _ _ _ ⟨[], ts, none, none, none, none, rfl, rfl, rfl, rfl⟩
  · rintro d rr env T ⟨a, b, e2, e3, e4, e5, hab, hds, rfl, rfl⟩
    cases b with
    | nil => cases hds
    | cons t b =>
    obtain ⟨rfl, rfl⟩ := List.cons.inj hds
    have ht := r.t.ok t (by rw [← hab]; simp)
    have hvl := ht.vl
    have hpr : prodT a * t.2.length ≤ 12 := by
      have h1 := r.t.pr (a ++ [t]).length
      rw [← hab, show a ++ t :: b = (a ++ [t]) ++ b by simp, List.take_left, prodT_snoc] at h1
      exact h1
    have hal : a.length ≤ 3 := by have := congrArg List.length hab; rw [List.length_append] at this; have := r.t.len; omega
    have hal2 : (allV a).length * t.2.length ≤ 12 := by rw [allV_len]; exact hpr
    refine ⟨([some (.v (fpD ts ls fs e)), some (.v (.fl ((allV a).map rowD))), some (.v (.str t.1)), some (.v (.tup (t.2.map .str))), e4, e5, none, none, none], T), rfl, ?_⟩
    with_reducible refine s_seq' ?_
    with_reducible refine s_set' ?_
    refine w_lst (w_nil ⟨Nat.zero_le _, ?_⟩)
    with_reducible refine s_seq' ?_
    refine s_forW (w_ma (w_var rfl (w_eq rfl ?_)))
    refine forG_w (fun ds env T' => ∃ (p q : List (List Str)) (e5 : Option EV), p ++ q = allV a ∧ ds = q.map rowD ∧ T' = T ∧ env = [some (.v (fpD ts ls fs e)), some (.v (.fl ((allV a).map rowD))), some (.v (.str t.1)), some (.v (.tup (t.2.map .str))), some (.v (.fl ((stepV p t.2).map rowD))), e5, none, none, none]) (fun r env S h => okS_none _ _) ?_ ?_ _ _ _ ⟨[], allV a, e5, rfl, rfl, rfl, rfl⟩
    · rintro d rr env T' ⟨p, q, e5, hpq, hds, rfl, rfl⟩
      cases q with
      | nil => cases hds
      | cons row q =>
      obtain ⟨rfl, rfl⟩ := List.cons.inj hds
      have hrl : row.length = a.length := allV_row (by rw [← hpq]; simp)
      have hpl : p.length + 1 ≤ (allV a).length := by rw [← hpq]; simp
      have hpm : (p.length + 1) * t.2.length ≤ 12 := Nat.le_trans (Nat.mul_le_mul_right _ hpl) hal2
      rw [Nat.succ_mul] at hpm
      refine ⟨([some (.v (fpD ts ls fs e)), some (.v (.fl ((allV a).map rowD))), some (.v (.str t.1)), some (.v (.tup (t.2.map .str))), some (.v (.fl ((stepV p t.2).map rowD))), some (.v (rowD row)), none, none, none], T'), rfl, ?_⟩
      with_reducible refine s_set' ?_
      refine w_bin (w_var rfl (w_lcv (w_ma (w_var rfl (w_eq rfl ⟨rfl, ?_, fun v => D.tup (row.map .str ++ [v]), fun d hd => ?_, ?_⟩)))))
      · rw [List.length_map]; omega
      · refine w_bin (w_var rfl (w_tup (w_cons (w_var rfl (w_nil ⟨Nat.le_of_ble_eq_true rfl, w_catT ?_ ⟨rfl, rfl⟩⟩)))))
        rw [List.length_map]
        show row.length + 1 ≤ _
        omega
      · have e1 : (t.2.map D.str).map (fun v => D.tup (row.map D.str ++ [v])) = (stepV [row] t.2).map rowD := by
          rw [← step_rows]
          simp [stepF]
        rw [show (([], t.2.map D.str) : Src).2.map (fun v => D.tup (row.map D.str ++ [v])) = (stepV [row] t.2).map rowD from e1]
        have e2 : (stepV p t.2).map rowD ++ (stepV [row] t.2).map rowD = (stepV (p ++ [row]) t.2).map rowD := by rw [stepV_app, List.map_append]
        have l2 : ((stepV p t.2).map rowD).length + ((stepV [row] t.2).map rowD).length ≤ 16777216 := by
          rw [List.length_map, List.length_map, stepV_len, stepV_len, List.length_singleton]
          omega
        refine w_gl (gAdd_fl l2) (by rw [List.length_append]; exact l2) ?_
        rw [e2]
        exact ⟨p ++ [row], q, some (.v (rowD row)), by rw [← hpq, List.append_assoc]; rfl, rfl, rfl, rfl⟩
    · rintro env T' ⟨p, q, e5, hpq, hds, rfl, rfl⟩
      cases q with
      | cons row q => cases hds
      | nil =>
      rw [List.append_nil] at hpq
      subst hpq
      with_reducible refine s_set' ?_
      refine w_var rfl ?_
      refine ⟨a ++ [t], b, some (.v (.str t.1)), some (.v (.tup (t.2.map .str))), some (.v (.fl ((stepV (allV a) t.2).map rowD))), e5, by rw [← hab, List.append_assoc]; rfl, rfl, rfl, ?_⟩
      rw [allV_snoc]
      rfl
  · rintro env T ⟨a, b, e2, e3, e4, e5, hab, hds, rfl, rfl⟩
    cases b with
    | cons t b => cases hds
    | nil =>
    rw [List.append_nil] at hab
    subst hab
    with_reducible refine s_seq' ?_
    with_reducible refine s_set' ?_
    refine w_lst (w_nil ⟨Nat.zero_le _, ?_⟩)
    with_reducible refine s_seq' ?_
    refine s_forW (w_mr1 (w_cons (w_c (w_nil ⟨100, rfl, rfl, ?_⟩))))
    refine forG_w (fun ds env T' => ∃ (i k : Nat) (e5 e7 : Option EV), ds = upto i k ∧ i + k = 100 ∧ T' = T ∧ env = [some (.v (fpD a ls fs e)), some (.v (.fl ((allV a).map rowD))), e2, e3, e4, e5, some (.v (.fl ((upto 0 i).flatMap (askF (allV a))))), e7, none]) (fun r env S h => okS_none _ _) ?_ ?_ _ _ _ ⟨0, 100, e5, none, rfl, rfl, rfl, rfl⟩
    · rintro d rr env T' ⟨i, k, e5, e7, hds, hik, rfl, rfl⟩
      obtain ⟨k, rfl, rfl, rfl⟩ := upto_cons hds
      refine ⟨([some (.v (fpD a ls fs e)), some (.v (.fl ((allV a).map rowD))), e2, e3, e4, e5, some (.v (.fl ((upto 0 i).flatMap (askF (allV a))))), some (.v (.int i)), none], T'), rfl, ?_⟩
      with_reducible refine s_set' ?_
      refine w_bin (w_var rfl (w_lcv (w_ma (w_var rfl (w_eq rfl ⟨rfl, ?_, fun x => D.tup [.int i, x], fun d hd => ?_, ?_⟩)))))
      · rw [List.length_map]; omega
      · exact w_tup (w_cons (w_var rfl (w_cons (w_var rfl (w_nil ⟨Nat.le_of_ble_eq_true rfl, rfl, rfl⟩)))))
      · have e1 : (([], (allV a).map rowD) : Src).2.map (fun x => D.tup [.int i, x]) = askF (allV a) (.int i) := by
          unfold askF
          rw [List.map_map]
          rfl
        rw [e1]
        have l1 : ((upto 0 i).flatMap (askF (allV a))).length + (askF (allV a) (.int i)).length ≤ 16777216 := by
          rw [flat_len, M3.upto_length]
          unfold askF
          rw [List.length_map]
          have : i * (allV a).length ≤ 100 * 12 := Nat.mul_le_mul (by omega) hv
          omega
        refine w_gl (gAdd_fl l1) (by rw [List.length_append]; exact l1) ?_
        have e2 : (upto 0 i).flatMap (askF (allV a)) ++ askF (allV a) (.int i) = (upto 0 (i + 1)).flatMap (askF (allV a)) := by
          rw [upto_snoc, List.flatMap_append, Int.zero_add]
          simp
        rw [e2]
        exact ⟨i + 1, k, e5, some (.v (.int i)), rfl, by omega, rfl, rfl⟩
    · rintro env T' ⟨i, k, e5, e7, hds, hik, rfl, rfl⟩
      have hk : k = 0 := by
        cases k with
        | zero => rfl
        | succ m => cases hds
      subst hk
      have : i = 100 := by omega
      subst this
      with_reducible refine s_ret' ?_
      exact w_var rfl ⟨rfl, rfl⟩
end
end LW

set_option Elab.async false
set_option linter.all false
set_option maxRecDepth 100000
set_option maxHeartbeats 4000000
namespace LW
open PySem M3
open PySem.W (dataLe dataLt alike keyToks)
/-! ### numbers -/
theorem sub_full {α : Type} : ∀ {l R : List α}, l.Nodup → (∀ x ∈ l, x ∈ R) → R.length ≤ l.length → ∀ x ∈ R, x ∈ l
  | [], R, _, _, hl, x, hx => by
    have := List.length_pos_of_mem hx
    simp at hl
    subst hl
    cases hx
  | y :: l, R, nd, hs, hl, x, hx => by
    obtain ⟨s, t, rfl⟩ := List.append_of_mem (hs y List.mem_cons_self)
    obtain ⟨n1, n2⟩ := List.nodup_cons.mp nd
    by_cases e : x = y
    · subst e; exact List.mem_cons_self
    · have hx' : x ∈ s ++ t := by
        rcases List.mem_append.mp hx with h | h
        · exact List.mem_append_left _ h
        · rcases List.mem_cons.mp h with h | h
          · exact absurd h e
          · exact List.mem_append_right _ h
      refine List.mem_cons_of_mem _ (sub_full (l := l) (R := s ++ t) n2 (fun z hz => ?_) ?_ x hx')
      · have h := hs z (List.mem_cons_of_mem _ hz)
        rcases List.mem_append.mp h with h | h
        · exact List.mem_append_left _ h
        · rcases List.mem_cons.mp h with h | h
          · rw [h] at hz; exact absurd hz n1
          · exact List.mem_append_right _ h
      · simp only [List.length_append, List.length_cons] at hl ⊢
        omega
theorem dedG_le {κ : Type} [DecidableEq κ] : ∀ l : List κ, (dedG l).length ≤ l.length
  | [] => Nat.le_refl _
  | k :: r => by
    have := dedG_le r
    unfold dedG
    split
    · rw [List.length_cons]; omega
    · rw [List.length_cons, List.length_cons]; omega
theorem dedG_len {κ : Type} [DecidableEq κ] : ∀ l : List κ, (dedG l).length = l.length → l.Nodup
  | [], _ => List.nodup_nil
  | k :: r, h => by
    have h1 := dedG_le r
    unfold dedG at h
    split at h
    · rw [List.length_cons] at h; omega
    · rename_i hk
      rw [List.length_cons, List.length_cons] at h
      exact List.nodup_cons.mpr ⟨fun hm => hk ((dedG_mem r k).mpr hm), dedG_len r (by omega)⟩
theorem keysI_map : ∀ is : List Int, keysI (is.map D.int) = some is
  | [] => rfl
  | i :: is => by
    rw [List.map_cons]
    unfold keysI
    rw [keysI_map is]
theorem eqv_ints : ∀ a b : List Int, PyData.eqvAll (pdDs (a.map D.int)) (pdDs (b.map D.int)) = decide (a = b)
  | [], [] => by
    show PyData.eqvAll [] [] = _
    unfold PyData.eqvAll
    simp
  | [], y :: b => by
    show PyData.eqvAll [] (_ :: _) = _
    unfold PyData.eqvAll
    simp
  | x :: a, [] => by
    show PyData.eqvAll (_ :: _) [] = _
    unfold PyData.eqvAll
    simp
  | x :: a, y :: b => by
    show PyData.eqvAll (.int x :: pdDs (a.map D.int)) (.int y :: pdDs (b.map D.int)) = _
    unfold PyData.eqvAll PyData.eqv
    rw [eqv_ints a b, Bool.eq_iff_iff]
    simp
theorem plDs_ints (is : List Int) : plDs (is.map D.int) = true := plDs_of fun d hd => by
  obtain ⟨i, _, rfl⟩ := List.mem_map.mp hd
  rfl
theorem dep_ints : ∀ is : List Int, PyData.depthAll (pdDs (is.map D.int)) = 0
  | [] => rfl
  | i :: is => by
    show PyData.depthAll (.int i :: pdDs (is.map D.int)) = 0
    unfold PyData.depthAll
    rw [dep_ints is]
    rfl
theorem gEq_ints {S : Store} {a b : List Int} : gEq S (.fl (a.map .int)) (.fl (b.map .int)) = some (.d (.bl (decide (a = b)))) := by
  have hp : ∀ is : List Int, plD (.fl (is.map .int)) = true := fun is => by unfold plD; exact plDs_ints is
  have hd : ∀ is : List Int, (pdD (.fl (is.map .int))).depth ≤ 64 := fun is => by
    unfold pdD PyData.depth
    rw [dep_ints]
    decide
  rw [gEq_pl (hp a) (hp b) (hd a) (hd b) rfl]
  have e : PyData.eqv (pdD (.fl (a.map .int))) (pdD (.fl (b.map .int))) = decide (a = b) := by
    rw [← eqv_ints a b]
    unfold pdD
    rw [PyData.eqv]
  rw [e]
/-- sorted(..) of numbers -/
theorem gSorted_ints {S : Store} {x : D} {is : List Int} (hx : lstOf S x = some (is.map .int)) (hl : is.length ≤ 16777216) : ∃ js : List Int, gSorted S [x] = some (.l (js.map .int)) ∧ js.Perm is ∧ js.Pairwise fun a b => decide (a ≤ b) = true := by
  have tp : toPs S (is.map D.int) = some (is.map PyData.int) := by
    rw [toPs_pl (plDs_ints is), List.map_map]
    rfl
  have h1 : alikeB (is.map PyData.int) = true := by
    unfold alikeB
    rw [List.all_eq_true]
    intro a ha
    rw [List.all_eq_true]
    intro b hb
    obtain ⟨a', ha', rfl⟩ := List.mem_map.mp ha
    obtain ⟨b', hb', rfl⟩ := List.mem_map.mp hb
    unfold alike
    rfl
  have h2 : sortableB (is.map PyData.int) = true := by
    unfold sortableB
    rw [Bool.or_eq_true]
    refine .inr ?_
    rw [List.all_eq_true]
    intro a ha
    obtain ⟨a', ha', rfl⟩ := List.mem_map.mp ha
    rfl
  have h3 : ((is.map PyData.int).all fun q => decide (q.depth ≤ 60)) = true := by
    rw [List.all_eq_true]
    intro a ha
    obtain ⟨a', ha', rfl⟩ := List.mem_map.mp ha
    rfl
  have sd : sortDs (is.map D.int) (is.map PyData.int) = (is.map D.int).mergeSort (dataLe false pdD) := by
    have e : is.map PyData.int = (is.map D.int).map pdD := by
      rw [List.map_map]
      rfl
    rw [e, sortDs_map]
  obtain ⟨js, e1, p⟩ := perm_map_inv D.int (sort_perm pdD (is.map D.int))
  refine ⟨js, ?_, p, ?_⟩
  · unfold gSorted
    dsimp only
    rw [hx]
    dsimp only
    rw [tp]
    dsimp only
    rw [if_pos ⟨h1, h2, h3, by rw [List.length_map]; exact hl⟩, sd, e1]
  · have h4 := sort_le pdD (is.map D.int)
    rw [e1, List.pairwise_map] at h4
    refine h4.imp fun {a b} h => ?_
    have h : (!dataLt (.int b) (.int a)) = true := h
    rw [PySem.W.dataLt_int] at h
    simpa using h
/-! ### the hundred buckets -/
theorem upto_range : ∀ (k : Nat) (lo : Int), upto lo k = (List.range k).map fun i : Nat => D.int (lo + (i : Int))
  | 0, lo => rfl
  | k + 1, lo => by rw [upto_snoc, upto_range k lo, List.range_succ, List.map_append]; rfl
def R100 : List Int := (List.range 100).map fun i : Nat => (i : Int)
theorem upto100 : upto 0 100 = R100.map D.int := by
  rw [upto_range]
  unfold R100
  rw [List.map_map]
  refine List.map_congr_left fun i _ => ?_
  show D.int (0 + (i : Int)) = _
  rw [Int.zero_add]
  rfl
def bks (l : Ly) : List Int := R100.map fun i => bk l i
def evn (l : Ly) : Bool := decide (bks l).Nodup
theorem bks_len (l : Ly) : (bks l).length = 100 := by unfold bks R100; simp
theorem r100_mem {i : Int} : i ∈ R100 ↔ 0 ≤ i ∧ i < 100 := by
  unfold R100
  rw [List.mem_map]
  constructor
  · rintro ⟨k, hk, rfl⟩
    have := List.mem_range.mp hk
    omega
  · rintro ⟨h0, h1⟩
    exact ⟨i.toNat, List.mem_range.mpr (by omega), by omega⟩
theorem r100_nd : R100.Nodup := by decide +kernel
theorem r100_asc : R100.Pairwise fun a b => decide (a ≤ b) = true := by decide +kernel
theorem bk_range (l : Ly) (n : Int) : 0 ≤ bk l n ∧ bk l n < 100 := ⟨Int.emod_nonneg _ (by decide), Int.emod_lt_of_pos _ (by decide)⟩
theorem sorted_evn {l : Ly} {js : List Int} (p : js.Perm (bks l)) (s : js.Pairwise fun a b => decide (a ≤ b) = true) : decide (js = R100) = evn l := by
  unfold evn
  rw [Bool.eq_iff_iff, decide_eq_true_eq, decide_eq_true_eq]
  constructor
  · rintro rfl
    exact p.nodup_iff.mp r100_nd
  · intro nd
    have hs : ∀ x ∈ bks l, x ∈ R100 := fun x hx => by
      unfold bks at hx
      obtain ⟨i, _, rfl⟩ := List.mem_map.mp hx
      exact r100_mem.mpr (bk_range l i)
    have hf := sub_full nd hs (by rw [bks_len]; decide)
    have q : (bks l).Perm R100 := perm_nodup nd r100_nd fun k => ⟨hs k, hf k⟩
    exact sorted_one (le := fun a b : Int => decide (a ≤ b)) (fun a b h1 h2 => by
      have h1 := of_decide_eq_true h1
      have h2 := of_decide_eq_true h2
      omega) (p.trans q) s r100_asc
theorem ded_evn (l : Ly) : decide ((dedG (bks l)).length = 100) = evn l := by
  unfold evn
  rw [Bool.eq_iff_iff, decide_eq_true_eq, decide_eq_true_eq]
  constructor
  · intro h
    exact dedG_len _ (by rw [h, bks_len])
  · intro nd
    rw [dedG_nodup_eq nd, bks_len]
def bkF (l : Ly) : D → D
  | .int i => .int (bk l i)
  | d => d
theorem map_bk (l : Ly) : (upto 0 100).map (bkF l) = (bks l).map .int := by
  rw [upto100]
  unfold bks
  rw [List.map_map, List.map_map]
  rfl
section
variable {S : Store} {ts : List Tr} {ls : List Ly} {fs : List Fg} {e : Int}
theorem law_bucket_ok (r : Fr ts ls fs e) {l : Ly} (h : l ∈ ls) {n : Int} (hn : 0 ≤ n ∧ n < 100) : m__law_bucket [.v (fpD ts ls fs e), .v (.str l.1), .v (.int n)] S = .ok (.int (bk l n)) S := by
  have hl := r.l.len
  refine pure_eq rfl ?_
  unfold s__law_bucket
  refine s_seq' (s_set' (w_bin (w_lcf (w_ma (w_bin (w_var rfl (w_c (w_gd (x := .tup (ls.map lyD)) (gIx_tup (i := 1) rfl) (w_eq rfl ⟨rfl, by rw [List.length_map]; omega, (fun d => match d with | .tup (.str z :: _) => decide (z = l.1) | _ => false), (fun d => d), fun d hd => ?_, fun d hd hp => w_var rfl ⟨rfl, rfl⟩, ?_⟩)))))))))
  · obtain ⟨x, hx, rfl⟩ := List.mem_map.mp hd
    exact w_b (w_bin (w_bin (w_var rfl (w_c (w_gd (gIx_tup (i := 0) rfl) (w_var rfl (w_gd (x := .bl (decide (x.1 = l.1))) rfl ⟨_, rfl, rfl, rfl⟩)))))))
  · have e1 : ((ls.map lyD).filter (fun d => match d with | .tup (.str z :: _) => decide (z = l.1) | _ => false)).map (fun d => d) = [lyD l] := by
      rw [List.map_id', List.filter_map]
      show (ls.filter (fun x => decide (x.1 = l.1))).map lyD = _
      rw [filter_name (names_nd r.l) h]
      rfl
    rw [e1]
    refine w_c ?_
    refine w_gd (x := lyD l) (gIx_fl (i := 0) rfl) ?_
    have m1 : ∀ T, gMulA T (.int l.2.1) (.int n) = some (.d (.int (l.2.1 * n))) := fun T => by
      show (if cMul l.2.1 n = true then some (Gv.d (.int (l.2.1 * n))) else none) = _
      rw [if_pos]
      unfold cMul
      simp only [Bool.or_eq_true, Bool.and_eq_true, decide_eq_true_eq]
      omega
    have vx : ∀ (P : D → Store → Prop) (c : Int) (d : D) (env : Evs), env[3]? = some (some (.v (lyD l))) → gIx S (lyD l) (.int c) = some (.d d) → P d S → WE xNo (mBin false gIx (mVar 3) (mC (.int c)) env S) P := fun P c d env h1 h2 p => w_bin (w_var h1 (w_c (w_gd h2 p)))
    have pr : ∀ (P : D → Store → Prop) (env : Evs), env[3]? = some (some (.v (lyD l))) → env[2]? = some (some (.v (.int n))) → P (.int (l.2.1 * n + l.2.2)) S → WE xNo (mBin false gAdd (mBin false gMulA (mBin false gIx (mVar 3) (mC (.int 1))) (mVar 2)) (mBin false gIx (mVar 3) (mC (.int 2))) env S) P := fun P env h3 h2 p =>
      w_bin (w_bin (vx _ 1 _ env h3 (gIx_tup (i := 1) rfl) (w_var h2 (w_gd (m1 S) (vx _ 2 _ env h3 (gIx_tup (i := 2) rfl) (w_gd rfl p))))))
    refine s_ret' (w_bin (pr _ _ rfl rfl (w_bin (w_bin (pr _ _ rfl rfl (w_c (w_gd (x := .int ((l.2.1 * n + l.2.2) / 100)) ?_ (w_c (w_gd (x := .int ((l.2.1 * n + l.2.2) / 100 * 100)) ?_ (w_gd (x := .int (bk l n)) ?_ ⟨rfl, rfl⟩))))))))))
    · show (if cDiv (l.2.1 * n + l.2.2) 100 = true then some (Gv.d (.int ((l.2.1 * n + l.2.2) / 100))) else none) = _
      rw [if_pos (by unfold cDiv; simp)]
    · show (if cMul ((l.2.1 * n + l.2.2) / 100) 100 = true then some (Gv.d (.int ((l.2.1 * n + l.2.2) / 100 * 100))) else none) = _
      rw [if_pos (by unfold cMul; simp)]
    · show some (Gv.d (.int (l.2.1 * n + l.2.2 - (l.2.1 * n + l.2.2) / 100 * 100))) = _
      have : l.2.1 * n + l.2.2 - (l.2.1 * n + l.2.2) / 100 * 100 = bk l n := by
        unfold bk
        have := Int.emod_add_mul_ediv (l.2.1 * n + l.2.2) 100
        omega
      rw [this]
theorem frame_bucket_ok (r : Fr ts ls fs e) {l : Ly} (h : l ∈ ls) {n : Int} (hn : 0 ≤ n ∧ n < 100) : m_Frame_bucket [.v (frD (fpD ts ls fs e)), .v (.str l.1), .v (.int n)] S = .ok (.int (bk l n)) S := by
  refine pure_eq rfl ?_
  unfold s_Frame_bucket
  refine s_seq' (s_expr' (w_call (w_cons (w_var rfl (w_cons (w_var rfl (w_nil (w_eq (check_layer_ok r h) ?_))))))))
  refine s_seq' (s_expr' (w_call (w_cons (w_var rfl (w_cons (w_c (w_cons (w_bin (w_c (w_c (w_gd (x := .int 99) rfl (w_nil (w_eq (check_number_ok hn.1 (by omega)) ?_)))))))))))))
  exact s_ret' (w_call (w_cons (w_var rfl (w_cons (w_var rfl (w_cons (w_var rfl (w_nil (w_eq (bucket_of_ok r h hn) ⟨rfl, rfl⟩)))))))))
theorem w_lens {X : XP} {env : Evs} {me : EM} {P : D → Store → Prop} (h : WE X (me env S) fun d S1 => ∃ n : Nat, lenSetD S1 d = some n ∧ P (.int n) S1) : WE X (mLenSet me env S) P := by
  unfold mLenSet
  refine w_bind (h.imp fun d S1 h => ?_)
  obtain ⟨n, e, p⟩ := h
  rw [e]
  exact p
theorem is_even_by_ok (r : Fr ts ls fs e) {l : Ly} (h : l ∈ ls) : m_is_even_by [.v (frD (fpD ts ls fs e)), .v (.str l.1)] S = .ok (.bl (evn l)) S := by
  refine pure_eq rfl ?_
  unfold s_is_even_by
  refine s_ret' (w_bin (w_lens (w_lcv (w_mr1 (w_cons (w_c (w_nil ⟨100, rfl, rfl, rfl, by decide, bkF l, fun d hd => ?_, ?_⟩)))))))
  · obtain ⟨i, rfl, h0, h1⟩ := upto_mem 100 0 d hd
    exact w_call (w_cons (w_var rfl (w_cons (w_var rfl (w_cons (w_var rfl (w_nil (w_eq (bucket_of_ok r h ⟨h0, by omega⟩) ⟨rfl, rfl⟩))))))))
  · have hm := ded_evn l
    have e1 : lenSetD S (.fl ((bks l).map D.int)) = some (dedG (bks l)).length := by
      unfold lenSetD
      rw [seqOf_fl]
      dsimp only
      rw [keysI_map]
      dsimp only
      rw [if_pos (by rw [bks_len]; decide)]
    have e2 : lenSetD S (.fl ((upto 0 100).map (bkF l))) = some (dedG (bks l)).length := by rw [map_bk]; exact e1
    generalize (dedG (bks l)).length = m at e2 hm
    refine ⟨_, e2, ?_⟩
    with_reducible refine w_c ?_
    with_reducible refine w_gd (x := .bl (evn l)) ?_ ?_
    · rw [← hm]
      show some (Gv.d (.bl (decide ((m : Int) = 100)))) = _
      congr 3
      rw [decide_eq_decide]
      omega
    · exact ⟨rfl, rfl⟩
theorem is_even_ok (r : Fr ts ls fs e) {l : Ly} (h : l ∈ ls) : m_is_even [.v (frD (fpD ts ls fs e)), .v (.str l.1)] S = .ok (.bl (evn l)) S := by
  refine pure_eq rfl ?_
  unfold s_is_even
  refine s_seq' (s_expr' (w_call (w_cons (w_var rfl (w_nil (w_eq check_frame_ok ?_))))))
  refine s_seq' (s_expr' (w_call (w_cons (w_var rfl (w_cons (w_var rfl (w_nil (w_eq (check_layer_ok r h) ?_))))))))
  exact s_ret' (w_call (w_cons (w_var rfl (w_cons (w_var rfl (w_nil (w_eq (is_even_by_ok r h) ⟨rfl, rfl⟩)))))))
end
end LW

set_option Elab.async false
set_option linter.all false
set_option maxRecDepth 100000
set_option maxHeartbeats 4000000
namespace LW
open PySem M3
/-! ### one thing of a list otherwise -/
def repl {α : Type} (l : List α) (i : Nat) (x : α) : List α := l.take i ++ x :: l.drop (i + 1)
theorem repl_map {α β : Type} (f : α → β) (l : List α) (i : Nat) (x : α) : (repl l i x).map f = repl (l.map f) i (f x) := by
  unfold repl
  rw [List.map_append, List.map_cons, List.map_take, List.map_drop]
theorem repl_self {α : Type} {l : List α} {i : Nat} (h : i < l.length) : repl l i l[i] = l := by
  unfold repl
  rw [← List.drop_eq_getElem_cons h, List.take_append_drop]
theorem repl_map_eq {α β : Type} (f : α → β) {l : List α} {i : Nat} (h : i < l.length) {x : α} (e : f x = f l[i]) : (repl l i x).map f = l.map f := by
  rw [repl_map, e]
  have := repl_self (l := l.map f) (i := i) (by rw [List.length_map]; exact h)
  rw [List.getElem_map] at this
  exact this
theorem repl_len {α : Type} {l : List α} {i : Nat} (h : i < l.length) {x : α} : (repl l i x).length = l.length := by
  unfold repl
  rw [List.length_append, List.length_cons, List.length_take, List.length_drop]
  omega
theorem repl_mem {α : Type} {l : List α} {i : Nat} {x y : α} (h : y ∈ repl l i x) : y = x ∨ y ∈ l := by
  unfold repl at h
  rcases List.mem_append.mp h with h | h
  · exact .inr (List.mem_of_mem_take h)
  · rcases List.mem_cons.mp h with h | h
    · exact .inl h
    · exact .inr (List.mem_of_mem_drop h)
theorem sum_repl : ∀ (l : List Int) (j i : Nat) (x : Int) (h : j < l.length), x ≤ l[j] → ((repl l j x).take i).sum ≤ (l.take i).sum
  | [], j, i, x, h, _ => by cases h
  | a :: l, 0, 0, x, h, hx => by simp
  | a :: l, j + 1, 0, x, h, hx => by simp
  | a :: l, 0, i + 1, x, h, hx => by
    have hx : x ≤ a := hx
    show ((x :: l).take (i + 1)).sum ≤ ((a :: l).take (i + 1)).sum
    rw [List.take_succ_cons, List.take_succ_cons, List.sum_cons, List.sum_cons]
    omega
  | a :: l, j + 1, i + 1, x, h, hx => by
    have ih := sum_repl l j i x (by simpa using h) (by simpa using hx)
    show ((a :: repl l j x).take (i + 1)).sum ≤ ((a :: l).take (i + 1)).sum
    rw [List.take_succ_cons, List.take_succ_cons, List.sum_cons, List.sum_cons]
    omega
theorem repl_D {α : Type} (f : α → D) (l : List α) (i : Nat) (x : α) : (l.map f).take i ++ [f x] ++ (l.map f).drop (i + 1) = (repl l i x).map f := by
  rw [repl_map, List.append_assoc]
  rfl
/-! ### frames with one thing otherwise -/
section
variable {ts : List Tr} {ls : List Ly} {fs : List Fg} {e : Int}
theorem Fr.layer (r : Fr ts ls fs e) {k : Nat} (hk : k < ls.length) {a b : Int} (ha : 1 ≤ a ∧ a ≤ 99) (hb : 0 ≤ b ∧ b ≤ 99) : Fr ts (repl ls k (ls[k].1, a, b)) fs e := by
  have hn : (repl ls k (ls[k].1, a, b)).map (·.1) = ls.map (·.1) := repl_map_eq (x := (ls[k].1, a, b)) (·.1) hk rfl
  refine ⟨r.t, ⟨by rw [repl_len hk]; exact r.l.len, fun l hl => ?_, fun l hl => ?_, by rw [hn]; exact r.l.lt⟩, by rw [hn]; exact r.f, r.e⟩
  · rcases repl_mem hl with rfl | hl
    · exact r.l.ns ls[k] (List.getElem_mem hk)
    · exact r.l.ns l hl
  · rcases repl_mem hl with rfl | hl
    · exact ⟨(r.l.ok ls[k] (List.getElem_mem hk)).nm, ha, hb⟩
    · exact r.l.ok l hl
theorem Fr.end' (r : Fr ts ls fs e) : Fr ts ls fs (if e + 1 < 20 then e + 1 else 20) := ⟨r.t, r.l, r.f, by have := r.e; split <;> omega⟩
theorem Fr.flag (r : Fr ts ls fs e) {k : Nat} (hk : k < fs.length) {g : Fg} (hg : OkF g) (hn : g.1 = fs[k].1) (hs : g.2.2.2 ≤ fs[k].2.2.2) : Fr ts ls (repl fs k g) e := by
  have hm : (repl fs k g).map (·.1) = fs.map (·.1) := repl_map_eq (·.1) hk hn
  refine ⟨r.t, r.l, ⟨fun h => ?_, by rw [repl_len hk]; exact r.f.len, fun f hf => ?_, by rw [hm]; exact r.f.lt, fun f hf => ?_, fun i => ?_⟩, r.e⟩
  · have := repl_len hk (x := g)
    rw [h] at this
    simp at this
    omega
  · rcases repl_mem hf with rfl | hf
    · exact hg
    · exact r.f.ok f hf
  · rcases repl_mem hf with rfl | hf
    · rw [hn]; exact r.f.ns fs[k] (List.getElem_mem hk)
    · exact r.f.ns f hf
  · have h1 := r.f.st i
    have h2 := sum_repl (fs.map (·.2.2.2)) k i g.2.2.2 (by rw [List.length_map]; exact hk) (by rw [List.getElem_map]; exact hs)
    rw [List.map_take] at h1 ⊢
    rw [repl_map]
    omega
theorem words_z : ∀ w ∈ z_WORDS, (122 : Nat) ∉ w.cps.toList := by decide +kernel
theorem z_mem : (122 : Nat) ∈ abc.cps.toList := by decide +kernel
/-- a name's end otherwise -/
abbrev zed (w : Str) : Str := Txt.slice w none (some 7) ++ "z"
theorem zed_tl (w : Str) : (zed w).cps.toList = w.cps.toList.take 7 ++ [122] := by
  rw [cat_tl, to_tl (by decide)]
  rfl
theorem zed_nm {w : Str} (h : Nm w) : Nm (zed w) ∧ hd (zed w) = hd w := by
  refine ⟨⟨?_, ?_, fun c hc => ?_, fun hw => ?_⟩, ?_⟩
  · rw [← len_tl, zed_tl, List.length_append]; simp
  · rw [← len_tl, zed_tl, List.length_append, List.length_take]; simp; omega
  · rw [zed_tl] at hc
    rcases List.mem_append.mp hc with hc | hc
    · exact h.2.2.1 c (List.mem_of_mem_take hc)
    · rw [List.mem_singleton.mp hc]; exact z_mem
  · refine words_z _ hw ?_
    rw [zed_tl]
    simp
  · unfold hd
    rw [zed_tl]
    have h1 := h.1
    rw [← len_tl] at h1
    cases e : w.cps.toList with
    | nil => rw [e] at h1; simp at h1
    | cons x q => rfl
theorem nms_last {vs : List Str} {w w' : Str} (h : Nms (vs ++ [w])) (hn : Nm w') (hh : hd w' = hd w) : Nms (vs ++ [w']) := by
  refine ⟨fun z hz => ?_, ?_⟩
  · rcases List.mem_append.mp hz with hz | hz
    · exact h.nm z (List.mem_append_left _ hz)
    · rw [List.mem_singleton.mp hz]; exact hn
  · obtain ⟨h1, _, h3⟩ := List.pairwise_append.mp h.hd
    refine List.pairwise_append.mpr ⟨h1, List.pairwise_singleton _ _, fun a ha b hb => ?_⟩
    rw [List.mem_singleton.mp hb, hh]
    exact h3 a ha w (List.mem_singleton.mpr rfl)
theorem Fr.trait {a : List Tr} {nm : Str} {vs : List Str} {w : Str} (r : Fr (a ++ [(nm, vs ++ [w])]) ls fs e) : Fr (a ++ [(nm, vs ++ [zed w])]) ls fs e := by
  have hn : (a ++ [(nm, vs ++ [zed w])]).map (·.1) = (a ++ [(nm, vs ++ [w])]).map (·.1) := by rw [List.map_append, List.map_append]; rfl
  have ho := r.t.ok (nm, vs ++ [w]) (by simp)
  have hw : Nm w := ho.vs.nm w (by simp)
  obtain ⟨z1, z2⟩ := zed_nm hw
  have ok' : OkT (nm, vs ++ [zed w]) := ⟨ho.nm, by have := ho.vl; simpa using this, nms_last ho.vs z1 z2⟩
  refine ⟨⟨by have := r.t.len; simpa using this, fun t ht => ?_, by rw [hn]; exact r.t.lt, fun i => ?_⟩, by rw [hn]; exact r.l, by rw [hn]; exact r.f, r.e⟩
  · rcases List.mem_append.mp ht with ht | ht
    · exact r.t.ok t (List.mem_append_left _ ht)
    · rw [List.mem_singleton.mp ht]; exact ok'
  · have h1 := r.t.pr i
    have : prodT ((a ++ [(nm, vs ++ [zed w])]).take i) = prodT ((a ++ [(nm, vs ++ [w])]).take i) := by
      unfold prodT
      rw [List.map_take, List.map_take, List.map_append, List.map_append]
      simp
    rw [this]
    exact h1
end
theorem gNe_nil {S : Store} {xs : List D} (hx : plDs xs = true) (dx : (pdD (.tup xs)).depth ≤ 64) : gNe S (.tup xs) (.tup []) = some (.d (.bl (!xs.isEmpty))) := by
  have e := gEq_nil (S := S) hx dx
  unfold gEq at e
  unfold gNe
  cases q : eqD S (.tup xs) (.tup []) with
  | none => rw [q] at e; cases e
  | some b =>
    rw [q] at e
    have e : some (Gv.d (.bl b)) = some (Gv.d (.bl xs.isEmpty)) := e
    injection e with e; injection e with e; injection e with e
    rw [e]; rfl
theorem w_rev {X : XP} {env : Evs} {S : Store} {me : EM} {al : Bool} {P : D → Store → Prop} (h : WE X (me env S) fun x S1 => WE X (Gv.fin al (gRev S1 x) S1) P) : WE X (mRev al me env S) P := by
  unfold mRev
  exact w_bind h
theorem gIx_last {S : Store} {xs : List D} {d : D} : gIx S (.tup (xs ++ [d])) (.int (-1)) = some (.d d) := by
  show (L2.atI (xs ++ [d]) (-1)).map _ = _
  have : L2.atI (xs ++ [d]) (-1) = some d := by
    unfold L2.atI L2.ixN
    rw [if_neg (by decide), if_pos (by rw [List.length_append]; simp; omega)]
    have e : (-1 + ((xs ++ [d]).length : Int)).toNat = xs.length := by
      rw [List.length_append, List.length_singleton]
      omega
    show (xs ++ [d])[(-1 + ((xs ++ [d]).length : Int)).toNat]? = _
    rw [e]
    simp
  rw [this]
  rfl
theorem gLen_tup {S : Store} {xs : List D} : gLen S [.tup xs] = some (.d (.int xs.length)) := by unfold gLen; simp [seqOf, tupOf, lstOf]
theorem eq0 {S : Store} {r c : Int} : gEq S (.int r) (.int c) = some (.d (.bl (decide (r = c)))) := by
  unfold gEq eqD eqF
  simp
end LW

set_option Elab.async false
set_option linter.all false
set_option maxRecDepth 100000
set_option maxHeartbeats 4000000
namespace LW
open PySem M3
section
variable {X : XP} {S : Store} {P : D → Store → Prop} {al : Bool}
theorem w_slTo {xs : List D} {k : Nat} (hl : xs.length ≤ 16777216) (p : P (.tup (xs.take k)) S) : WE X (Gv.fin al (slD S (.tup xs) none (some (k : Int))) S) P :=
  w_slt hl (by rw [cut_to (Int.natCast_nonneg _), Int.toNat_natCast]; exact p)
theorem w_slFrom {xs : List D} {i : Int} {k : Nat} (hi : i = k) (hl : xs.length ≤ 16777216) (p : P (.tup (xs.drop k)) S) : WE X (Gv.fin al (slD S (.tup xs) (some i) none) S) P := by
  subst hi
  exact w_slt hl (by rw [cut_from (Int.natCast_nonneg _), Int.toNat_natCast]; exact p)
theorem w_slInit {xs ys : List D} (hl : xs.length ≤ 16777216) (h : xs.dropLast = ys) (p : P (.tup ys) S) : WE X (Gv.fin al (slD S (.tup xs) none (some (-1))) S) P := by
  subst h
  exact w_slt hl (by rw [cut_init]; exact p)
end
abbrev oE (n : Nat) (p : D) (ts : List Tr) (ls : List Ly) (fs : List Fg) (e way : Int) (k : Nat) (nm : Str) (vs : List Str) (o : Str) (st : Int) (x12 x13 x14 x15 : Option EV) : Evs :=
  [some (.v (.ref n)), some (.v p), some (.v (.tup (ts.map trD))), some (.v (.tup (ls.map lyD))), some (.v (.tup (fs.map fgD))), some (.v (.int e)), some (.v (.int way)), some (.v (.int k)), some (.v (.str nm)), some (.v (.tup (vs.map .str))), some (.v (.str o)), some (.v (.int st)), x12, x13, x14, x15]
theorem last_of {ts : List Tr} (h : ts ≠ []) (ok : ∀ t ∈ ts, OkT t) : ∃ a nm vs w, ts = a ++ [(nm, vs ++ [w])] := by
  have e1 := List.dropLast_concat_getLast h
  have hv := (ok _ (List.getLast_mem h)).vl
  have h2 : (ts.getLast h).2 ≠ [] := fun e => by rw [e] at hv; simp at hv
  have e2 := List.dropLast_concat_getLast h2
  exact ⟨ts.dropLast, (ts.getLast h).1, (ts.getLast h).2.dropLast, (ts.getLast h).2.getLast h2, by rw [e2]; exact e1.symm⟩
theorem isE {α : Type} (f : α → D) (l : List α) (h : (!(l.map f).isEmpty) = true) : l ≠ [] := fun e => by rw [e] at h; cases h
theorem other_dr {S : Store} {n : Nat} {ts : List Tr} {ls : List Ly} {fs : List Fg} {e : Int} (U : Urn S n) (r : Fr ts ls fs e) : Dr S n (m__law_other [.v (.ref n), .v (fpD ts ls fs e)] S) fun d => ∃ ts' ls' fs' e', d = fpD ts' ls' fs' e' ∧ Fr ts' ls' fs' e' := by
  have hn := U.lt
  have hll := r.l.len
  have hfl := r.f.len
  have htl := r.t.len
  have f0 : 0 < fs.length := List.length_pos_iff.mpr r.f.ne
  refine dr_w0 U fun u hu => ?_
  have fin : ∀ {ts' : List Tr} {ls' : List Ly} {fs' : List Fg} {e' : Int} (F : Fr ts' ls' fs' e') (u : Int × Int × Int), Lf S n (fun d => ∃ ts' ls' fs' e', d = fpD ts' ls' fs' e' ∧ Fr ts' ls' fs' e') (fpD ts' ls' fs' e') (S.set n (uc u) ++ []) := fun F u => ⟨u, [], _, rfl, mapR_cl _ F.sm.cl, _, _, _, _, rfl, F⟩
  unfold s__law_other
  with_reducible refine s_seq' ?_
  refine s_asg' (w_var rfl ⟨([some (.v (.ref n)), some (.v (fpD ts ls fs e)), some (.v (.tup (ts.map trD))), some (.v (.tup (ls.map lyD))), some (.v (.tup (fs.map fgD))), some (.v (.int e)), none, none, none, none, none, none, none, none, none, none], S.set n (uc u) ++ []), rfl, ?_⟩)
  with_reducible refine s_seq' ?_
  refine s_par' (w_cons (w_call (w_cons (w_var rfl (w_cons (w_c (w_nil ?_)))))))
  refine w_dr hn (take_dr (many := 6) (Urn.at hn _ _) (by omega) (by omega)) fun d u1 ⟨way, e1, w0, w1⟩ => ?_
  subst e1
  refine w_cons (w_call (w_cons (w_var rfl (w_cons (w_cb (w_cons (w_var rfl (w_nil (w_gd gLen_tup (w_nil ?_))))))))))
  rw [List.length_map]
  refine w_dr hn (take_dr (many := fs.length) (Urn.at hn _ _) (by omega) (by omega)) fun d u2 ⟨at_, e2, a0, a1⟩ => ?_
  subst e2
  obtain ⟨k, rfl⟩ := Int.eq_ofNat_of_zero_le a0
  have hk : k < fs.length := by omega
  refine w_nil ⟨_, _, rfl, ?_⟩
  with_reducible refine s_seq' ?_
  have ef : (fs.map fgD)[k]? = some (fgD fs[k]) := by rw [List.getElem?_map, List.getElem?_eq_getElem hk]; rfl
  refine s_asg' (w_bin (w_var rfl (w_var rfl (w_gd (gIx_tup ef) ⟨(oE n (fpD ts ls fs e) ts ls fs e way k fs[k].1 fs[k].2.1 fs[k].2.2.1 fs[k].2.2.2 none none none none, S.set n (uc u2) ++ []), rfl, ?_⟩))))
  have okf := r.f.ok _ (List.getElem_mem hk)
  -- a layer otherwise
  refine s_if0 (s_ifs (w_at (w_b (w_bin (w_var rfl (w_c (w_gd eq0 ⟨_, rfl, fun hb => ?_, fun _ => ⟨(fun h => by cases h), fun _ => s_skip' ⟨rfl, rfl⟩⟩⟩))))))) ?_
  · refine w_b (w_bin (w_var rfl (w_tup (w_nil ⟨Nat.zero_le _, w_gd (gNe_nil r.l.sms.pl (Nat.le_trans r.l.sms.tup.dp (by decide))) ⟨_, rfl, fun hb2 => ?_, fun _ => s_skip' ⟨rfl, rfl⟩⟩⟩))))
    have l0 : 0 < ls.length := List.length_pos_iff.mpr (isE _ _ hb2)
    with_reducible refine s_seq' ?_
    refine s_set' (w_call (w_cons (w_var rfl (w_cons (w_cb (w_cons (w_var rfl (w_nil (w_gd gLen_tup (w_nil ?_))))))))))
    rw [List.length_map]
    refine w_dr hn (take_dr (many := ls.length) (Urn.at hn _ _) (by omega) (by omega)) fun d u3 ⟨to_, e3, t0, t1⟩ => ?_
    subst e3
    obtain ⟨j, rfl⟩ := Int.eq_ofNat_of_zero_le t0
    have hj : j < ls.length := by omega
    have el : (ls.map lyD)[j]? = some (lyD ls[j]) := by rw [List.getElem?_map, List.getElem?_eq_getElem hj]; rfl
    with_reducible refine s_seq' ?_
    refine s_set' (w_tup (w_cons (w_bin (w_bin (w_var rfl (w_var rfl (w_gd (gIx_tup el) (w_c (w_gd (gIx_tup (i := 0) rfl) ?_)))))))))
    refine w_cons (w_bin (w_c (w_call (w_cons (w_var rfl (w_cons (w_c (w_nil ?_))))))))
    refine w_dr hn (take_dr (many := 99) (Urn.at hn _ _) (by omega) (by omega)) fun d u4 ⟨a, e4, a0, a1⟩ => ?_
    subst e4
    refine w_gd (x := .int (1 + a)) rfl (w_cons (w_call (w_cons (w_var rfl (w_cons (w_c (w_nil ?_)))))))
    refine w_dr hn (take_dr (many := 100) (Urn.at hn _ _) (by omega) (by omega)) fun d u5 ⟨b, e5, b0, b1⟩ => ?_
    subst e5
    refine w_nil ⟨Nat.le_of_ble_eq_true rfl, ?_⟩
    have q := fin (r.layer hj (a := 1 + a) (b := b) ⟨by omega, by omega⟩ ⟨by omega, by omega⟩) u5
    rw [show fpD ts (repl ls j (ls[j].1, 1 + a, b)) fs e = .tup [.tup (ts.map trD), .tup ((ls.map lyD).take j ++ [lyD (ls[j].1, 1 + a, b)] ++ (ls.map lyD).drop (j + 1)), .tup (fs.map fgD), .int e] from by rw [repl_D]; rfl] at q
    refine s_ret' (w_tup (w_cons (w_var rfl (w_cons (w_bin (w_bin (w_sl (w_var rfl (w_oN (w_oS (w_var rfl ⟨j, rfl, inRng_of (by omega) (by omega), w_slTo (by rw [List.length_map]; omega) ?_⟩)))))))))))
    refine w_tup (w_cons (w_var rfl (w_nil ⟨Nat.le_of_ble_eq_true rfl, w_catT (by rw [List.length_take, List.length_map]; simp; omega) ?_⟩)))
    refine w_sl (w_var rfl (w_oS (w_bin (w_var rfl (w_c (w_gd (x := .int (j + 1)) rfl ⟨_, rfl, inRng_of (by omega) (by omega), w_oN (w_slFrom (k := j + 1) (by omega) (by rw [List.length_map]; omega) ?_)⟩))))))
    refine w_catT (by rw [List.length_append, List.length_take, List.length_drop, List.length_map]; simp; omega) ?_
    exact w_cons (w_var rfl (w_cons (w_var rfl (w_nil ⟨Nat.le_of_ble_eq_true rfl, q⟩))))
  -- the last day otherwise
  refine s_if0 (s_ifs (w_b (w_bin (w_var rfl (w_c (w_gd eq0 ⟨_, rfl, fun hb => ?_, fun _ => s_skip' ⟨rfl, rfl⟩⟩)))))) ?_
  · exact s_ret' (w_tup (w_cons (w_var rfl (w_cons (w_var rfl (w_cons (w_var rfl (w_cons (w_cb (w_cons (w_c (w_cons (w_bin (w_var rfl (w_c (w_gd rfl (w_nil (w_gd (x := .int (if e + 1 < 20 then e + 1 else 20)) rfl (w_nil ⟨Nat.le_of_ble_eq_true rfl, fin r.end' u2⟩)))))))))))))))))))
  -- the flag otherwise
  let M : Evs → Store → Prop := fun env T => ∃ (vs : List Str) (o : Str) (st : Int) (u : Int × Int × Int), env = oE n (fpD ts ls fs e) ts ls fs e way k fs[k].1 vs o st none none none none ∧ T = S.set n (uc u) ++ [] ∧ OkF (fs[k].1, vs, o, st) ∧ st ≤ fs[k].2.2.2
  refine s_mid M (s_ifs (w_b (w_bin (w_var rfl (w_c (w_gd eq0 ⟨_, rfl, fun hb => ?_, fun _ => s_skip' ⟨_, _, _, u2, rfl, rfl, okf, Int.le_refl _⟩⟩)))))) ?_
  · refine s_set' (w_call (w_cons (w_var rfl (w_cons (w_var rfl (w_nil ?_))))))
    refine w_dr hn (of_tup (ds := fs[k].2.1.map .str) (Urn.at hn _ _) (fun h => ?_) (by rw [List.length_map]; have := okf.vl; omega) fun d hd => ?_) fun d u3 hd => ?_
    · have := okf.vl
      rw [List.map_eq_nil_iff.mp h] at this
      simp at this
    · obtain ⟨z, _, rfl⟩ := List.mem_map.mp hd
      rfl
    · obtain ⟨z, hz, rfl⟩ := List.mem_map.mp hd
      exact ⟨_, z, _, u3, rfl, rfl, ⟨okf.nm, okf.vl, okf.vn, okf.vd, hz, okf.st⟩, Int.le_refl _⟩
  rintro env T ⟨vs, o, st, u3, rfl, rfl, ok3, le3⟩
  have vl3 := ok3.vl
  refine s_mid M (s_ifs (w_b (w_bin (w_var rfl (w_c (w_gd eq0 ⟨_, rfl, fun hb => ?_, fun _ => s_skip' ⟨_, _, _, u3, rfl, rfl, ok3, le3⟩⟩)))))) ?_
  · refine s_set' (w_rev (w_var rfl (w_gt (ds := vs.reverse.map .str) (by show some (Gv.t (vs.map D.str).reverse) = _; rw [List.map_reverse]) (by rw [List.length_map, List.length_reverse]; dsimp only at vl3; omega) ?_)))
    refine ⟨vs.reverse, o, st, u3, rfl, rfl, ⟨ok3.nm, by rw [List.length_reverse]; exact ok3.vl, fun z hz => ok3.vn z (List.mem_reverse.mp hz), (List.reverse_perm vs).nodup_iff.mpr ok3.vd, List.mem_reverse.mpr ok3.off, ok3.st⟩, le3⟩
  rintro env T ⟨vs, o, st, u4, rfl, rfl, ok4, le4⟩
  refine s_mid M (s_ifs (w_b (w_bin (w_var rfl (w_c (w_gd eq0 ⟨_, rfl, fun hb => ?_, fun _ => s_skip' ⟨_, _, _, u4, rfl, rfl, ok4, le4⟩⟩)))))) ?_
  · exact s_set' (w_c ⟨vs, o, 0, u4, rfl, rfl, ⟨ok4.nm, ok4.vl, ok4.vn, ok4.vd, ok4.off, show (0 : Int) ≤ 0 ∧ (0 : Int) ≤ 1 by decide⟩, okf.st.1⟩)
  rintro env T ⟨vs, o, st, u5, rfl, rfl, ok5, le5⟩
  -- a trait otherwise
  refine s_if0 (s_ifs (w_at (w_b (w_bin (w_var rfl (w_c (w_gd eq0 ⟨_, rfl, fun hb => ?_, fun _ => ⟨(fun h => by cases h), fun _ => s_skip' ⟨rfl, rfl⟩⟩⟩))))))) ?_
  · refine w_b (w_bin (w_var rfl (w_tup (w_nil ⟨Nat.zero_le _, w_gd (gNe_nil r.t.sms.pl (Nat.le_trans r.t.sms.tup.dp (by decide))) ⟨_, rfl, fun hb2 => ?_, fun _ => s_skip' ⟨rfl, rfl⟩⟩⟩))))
    obtain ⟨a, tn, tv, w, hts⟩ := last_of (isE _ _ hb2) r.t.ok
    have g1 : ∀ T : Store, gIx T (.tup (ts.map trD)) (.int (-1)) = some (.d (trD (tn, tv ++ [w]))) := fun T => by rw [hts, List.map_append]; exact gIx_last
    have g2 : ∀ T : Store, gIx T (.tup ((tv ++ [w]).map .str)) (.int (-1)) = some (.d (.str w)) := fun T => by rw [List.map_append]; exact gIx_last
    have d1 : (ts.map trD).dropLast = a.map trD := by rw [hts, List.map_append]; exact List.dropLast_concat
    have d2 : ((tv ++ [w]).map D.str).dropLast = tv.map .str := by rw [List.map_append]; exact List.dropLast_concat
    have F : Fr (a ++ [(tn, tv ++ [zed w])]) ls fs e := Fr.trait (w := w) (by rw [← hts]; exact r)
    have q := fin F u5
    rw [show fpD (a ++ [(tn, tv ++ [zed w])]) ls fs e = .tup [.tup (a.map trD ++ [.tup [.str tn, .tup (tv.map .str ++ [.str (zed w)])]]), .tup (ls.map lyD), .tup (fs.map fgD), .int e] from by unfold fpD; rw [List.map_append, List.map_singleton]; unfold trD; rw [List.map_append]; rfl] at q
    have al : a.length ≤ 3 := by have := congrArg List.length hts; rw [List.length_append] at this; omega
    have hT := r.t.ok (tn, tv ++ [w]) (by rw [hts]; simp)
    have vl : tv.length ≤ 4 := by have := hT.vl; simp at this; omega
    have w8 : w.length ≤ 8 := (hT.vs.nm w (by simp)).2.1
    with_reducible refine s_seq' ?_
    refine s_asg' (w_bin (w_var rfl (w_neg (w_c ⟨1, rfl, w_gd (g1 _) ⟨(oE n (fpD ts ls fs e) ts ls fs e way k fs[k].1 vs o st none none (some (.v (.str tn))) (some (.v (.tup ((tv ++ [w]).map .str)))), S.set n (uc u5) ++ []), rfl, ?_⟩⟩))))
    refine s_ret' (w_tup (w_cons (w_bin (w_sl (w_var rfl (w_oN (w_oS (w_neg (w_c ⟨1, rfl, ⟨_, rfl, rfl, w_slInit (by rw [List.length_map]; omega) d1 ?_⟩⟩)))))))))
    refine w_tup (w_cons (w_tup (w_cons (w_var rfl (w_cons (w_bin (w_sl (w_var rfl (w_oN (w_oS (w_neg (w_c ⟨1, rfl, ⟨_, rfl, rfl, w_slInit (by rw [List.length_map, List.length_append]; simp; omega) d2 ?_⟩⟩))))))))))))
    refine w_tup (w_cons (w_bin (w_sl (w_bin (w_var rfl (w_neg (w_c ⟨1, rfl, w_gd (g2 _) (w_oN (w_oS (w_c ⟨7, rfl, rfl, w_gd (slD_str (by omega)) ?_⟩)))⟩)))))))
    refine w_c (w_gd (gAdd_str ?_) (w_nil ⟨Nat.le_of_ble_eq_true rfl, w_catT (by rw [List.length_map]; simp; omega) (w_nil ⟨Nat.le_of_ble_eq_true rfl, w_nil ⟨Nat.le_of_ble_eq_true rfl, w_catT (by rw [List.length_map]; simp; omega) ?_⟩⟩)⟩))
    · rw [← len_tl, to_tl (by decide), List.length_take]
      show _ + 1 ≤ _
      omega
    exact w_cons (w_var rfl (w_cons (w_var rfl (w_cons (w_var rfl (w_nil ⟨Nat.le_of_ble_eq_true rfl, q⟩))))))
  have q := fin (r.flag hk ok5 rfl le5) u5
  rw [show fpD ts ls (repl fs k (fs[k].1, vs, o, st)) e = .tup [.tup (ts.map trD), .tup (ls.map lyD), .tup ((fs.map fgD).take k ++ [fgD (fs[k].1, vs, o, st)] ++ (fs.map fgD).drop (k + 1)), .int e] from by rw [repl_D]; rfl] at q
  refine s_ret' (w_tup (w_cons (w_var rfl (w_cons (w_var rfl (w_cons (w_bin (w_bin (w_sl (w_var rfl (w_oN (w_oS (w_var rfl ⟨k, rfl, inRng_of (by omega) (by omega), w_slTo (by rw [List.length_map]; omega) ?_⟩)))))))))))))
  refine w_tup (w_cons (w_tup (w_cons (w_var rfl (w_cons (w_var rfl (w_cons (w_var rfl (w_cons (w_var rfl (w_nil ⟨Nat.le_of_ble_eq_true rfl, w_nil ⟨Nat.le_of_ble_eq_true rfl, w_catT (by rw [List.length_take, List.length_map]; simp; omega) ?_⟩⟩)))))))))))
  refine w_sl (w_var rfl (w_oS (w_bin (w_var rfl (w_c (w_gd (x := .int (k + 1)) rfl ⟨_, rfl, inRng_of (by omega) (by omega), w_oN (w_slFrom (k := k + 1) (by omega) (by rw [List.length_map]; omega) ?_)⟩))))))
  refine w_catT (by rw [List.length_append, List.length_take, List.length_drop, List.length_map]; simp; omega) ?_
  exact w_cons (w_var rfl (w_nil ⟨Nat.le_of_ble_eq_true rfl, q⟩))
end LW

set_option Elab.async false
set_option linter.all false
set_option maxRecDepth 100000
set_option maxHeartbeats 4000000
namespace LW
open PySem M3
theorem okP_str {z : Str} (h : Nm z) : QR.okP (pdD (.str z)) = true := by
  unfold pdD QR.okP
  rw [List.all_eq_true]
  intro c hc
  exact decide_eq_true (abc_mem c (h.2.2.1 c hc))
theorem okPs_of {ds : List D} (h : ∀ d ∈ ds, QR.okP (pdD d) = true) : QR.okPs (pdDs ds) = true := by
  induction ds with
  | nil => unfold pdDs QR.okPs; rfl
  | cons d ds ih =>
    unfold pdDs QR.okPs
    rw [h d List.mem_cons_self, ih fun x hx => h x (List.mem_cons_of_mem _ hx)]
    rfl
theorem okP_tup {ds : List D} (h : ∀ d ∈ ds, QR.okP (pdD d) = true) : QR.okP (pdD (.tup ds)) = true := by
  unfold pdD QR.okP
  exact okPs_of h
theorem okP_int {i : Int} (h : 0 ≤ i ∧ i < 100) : QR.okP (pdD (.int i)) = true := by
  unfold pdD QR.okP
  exact decide_eq_true h
theorem okP_strs {zs : List Str} (h : ∀ z ∈ zs, Nm z) : QR.okP (pdD (.tup (zs.map .str))) = true := okP_tup fun d hd => by
  obtain ⟨z, hz, rfl⟩ := List.mem_map.mp hd
  exact okP_str (h z hz)
section
variable {S : Store} {ts ts' : List Tr} {ls ls' : List Ly} {fs fs' : List Fg} {e e' : Int}
theorem Fr.okP (r : Fr ts ls fs e) : QR.okP (pdD (fpD ts ls fs e)) = true := by
  refine okP_tup fun d hd => ?_
  simp only [List.mem_cons, List.not_mem_nil, or_false] at hd
  rcases hd with rfl | rfl | rfl | rfl
  · refine okP_tup fun d hd => ?_
    obtain ⟨t, ht, rfl⟩ := List.mem_map.mp hd
    have h := r.t.ok t ht
    refine okP_tup fun d hd => ?_
    simp only [List.mem_cons, List.not_mem_nil, or_false] at hd
    rcases hd with rfl | rfl
    · exact okP_str h.nm
    · exact okP_strs h.vs.nm
  · refine okP_tup fun d hd => ?_
    obtain ⟨t, ht, rfl⟩ := List.mem_map.mp hd
    have h := r.l.ok t ht
    have ha := h.a
    have hb := h.b
    refine okP_tup fun d hd => ?_
    simp only [List.mem_cons, List.not_mem_nil, or_false] at hd
    rcases hd with rfl | rfl | rfl
    · exact okP_str h.nm
    · exact okP_int (by omega)
    · exact okP_int (by omega)
  · refine okP_tup fun d hd => ?_
    obtain ⟨t, ht, rfl⟩ := List.mem_map.mp hd
    have h := r.f.ok t ht
    have ha := h.st
    refine okP_tup fun d hd => ?_
    simp only [List.mem_cons, List.not_mem_nil, or_false] at hd
    rcases hd with rfl | rfl | rfl | rfl
    · exact okP_str h.nm
    · exact okP_strs h.vn
    · exact okP_str (h.vn _ h.off)
    · exact okP_int (by omega)
  · exact okP_int (by have := r.e; omega)
/-- whether the texts of two frames' parts are alike -/
def dueB (p q : D) : Bool := decide ((pdD p).shown = (pdD q).shown)
theorem dueB_comm (p q : D) : dueB p q = dueB q p := by
  unfold dueB
  rw [decide_eq_decide]
  exact ⟨Eq.symm, Eq.symm⟩
theorem clD_fr {L : Nat} {p : D} (h : clD L p = true) : clD L (frD p) = true := by
  show (clD L p && true) = true
  rw [h]
  rfl
theorem eq_fr (r : Fr ts ls fs e) (r' : Fr ts' ls' fs' e') : m_Frame___eq__ [.v (frD (fpD ts ls fs e)), .v (frD (fpD ts' ls' fs' e'))] S = .ok (.bl (dueB (fpD ts ls fs e) (fpD ts' ls' fs' e'))) S := by
  have g : gEq S (fpD ts ls fs e) (fpD ts' ls' fs' e') = some (.d (.bl (dueB (fpD ts ls fs e) (fpD ts' ls' fs' e')))) := by
    rw [r.sm.eq r'.sm rfl, QR.shown_eqv r.okP r'.okP]
    rfl
  generalize fpD ts ls fs e = p at g
  generalize fpD ts' ls' fs' e' = q at g
  refine frzM_cl ?_ rfl
  show (s_Frame___eq__ (env0 2 [.v (frD p), .v (frD q)]) S).fin = _
  have h1 : gIsiC KCS S [frD q, .gl "Frame"] = some (.d (.bl true)) := by unfold gIsiC KCS; simp [insOf]
  simp [s_Frame___eq__, env0, mRet, mAnd, mCB, mCons, mVar, mC, mNil, Rz.bind, Rz.st, h1, Gv.fin, asB, mBin, mAttr, insOf, g, So.fin]
theorem eq_oth {p y : D} (h : insOf S y = none) (hk : (kindOf S y).isSome = true) : m_Frame___eq__ [.v (frD p), .v y] S = .ok (.bl false) S := by
  obtain ⟨kd, hk⟩ := Option.isSome_iff_exists.mp hk
  refine frzM_cl ?_ rfl
  show (s_Frame___eq__ (env0 2 [.v (frD p), .v y]) S).fin = _
  have h1 : gIsiC KCS S [y, .gl "Frame"] = some (.d (.bl false)) := by unfold gIsiC KCS; simp [h, hk]
  simp [s_Frame___eq__, env0, mRet, mAnd, mCB, mCons, mVar, mC, mNil, Rz.bind, Rz.st, h1, Gv.fin, asB, So.fin]
theorem cmp_fr {n : Bool} (r : Fr ts ls fs e) (r' : Fr ts' ls' fs' e') : cmpO n [("Frame", m_Frame___eq__)] S (frD (fpD ts ls fs e)) (frD (fpD ts' ls' fs' e')) = .ok (.bl (bx n (dueB (fpD ts ls fs e) (fpD ts' ls' fs' e')))) S := by
  have h := eq_fr (S := S) r r'
  unfold cmpO
  simp [insOf, othOk, h, boolX]
theorem cmp_oth {n : Bool} {p y : D} (h : insOf S y = none) (ho : othOk S "Frame" y = true) (hk : (kindOf S y).isSome = true) : cmpO n [("Frame", m_Frame___eq__)] S (frD p) y = .ok (.bl (bx n false)) S := by
  have h := eq_oth (p := p) h hk
  unfold cmpO
  simp [insOf, ho, h, boolX]
theorem made_ok (r : Fr ts ls fs e) : m__law_made [.v (fpD ts ls fs e)] S = .ok (frD (fpD ts ls fs e)) S := by
  refine pure_eq (clD_fr r.sm.cl) ?_
  unfold s__law_made
  exact s_ret' (w_make (w_cons (w_bin (w_var rfl (w_c (w_gd (gIx_tup (i := 0) rfl) (w_cons (w_bin (w_var rfl (w_c (w_gd (gIx_tup (i := 1) rfl) (w_cons (w_bin (w_var rfl (w_c (w_gd (gIx_tup (i := 2) rfl) (w_cons (w_bin (w_var rfl (w_c (w_gd (gIx_tup (i := 3) rfl) (w_nil (w_eq r.make ⟨rfl, rfl⟩)))))))))))))))))))))))
theorem law_is_ok {w k : Nat} {x : D} (h : Sm w k x) (hw : w ≤ 1048576 := by decide) (hk : k ≤ 60 := by decide) : m__law_is [.v x, .v x] S = .ok (.bl true) S := by
  refine pure_eq rfl ?_
  unfold s__law_is
  refine s_ret' (w_bin (w_cb (w_cons (w_var rfl (w_nil (w_gd (h.repr hw hk) (w_cb (w_cons (w_var rfl (w_nil (w_gd (h.repr hw hk) (w_gd (x := .bl true) ?_ ⟨rfl, rfl⟩))))))))))))
  simp [gEq, eqD, eqF]
theorem fold_nm : ∀ (l : List (List Str)) (rows : List (List Str)), (∀ vs ∈ l, ∀ v ∈ vs, Nm v) → (∀ r ∈ rows, ∀ z ∈ r, Nm z) → ∀ r ∈ l.foldl stepV rows, ∀ z ∈ r, Nm z
  | [], rows, _, hr => hr
  | vs :: l, rows, hl, hr => by
    refine fold_nm l (stepV rows vs) (fun v hv => hl v (List.mem_cons_of_mem _ hv)) fun r hm z hz => ?_
    unfold stepV at hm
    obtain ⟨r0, h0, hm⟩ := List.mem_flatMap.mp hm
    obtain ⟨v, hv, rfl⟩ := List.mem_map.mp hm
    rcases List.mem_append.mp hz with hz | hz
    · exact hr r0 h0 z hz
    · rw [List.mem_singleton.mp hz]
      exact hl vs List.mem_cons_self v hv
theorem allV_nm {a : List Tr} (h : ∀ t ∈ a, OkT t) : ∀ row ∈ allV a, ∀ z ∈ row, Nm z := by
  unfold allV
  refine fold_nm _ _ (fun vs hv v hw => ?_) fun r hr z hz => ?_
  · obtain ⟨t, ht, rfl⟩ := List.mem_map.mp hv
    exact (h t ht).vs.nm v hw
  · rw [List.mem_singleton.mp hr] at hz
    cases hz
theorem askers_sm (r : Fr ts ls fs e) : Sm 48000 3 (.tup (askers (allV ts))) := by
  have hv : (allV ts).length ≤ 12 := by
    rw [allV_len]
    have := r.t.pr ts.length
    rwa [List.take_length] at this
  have key : ∀ d ∈ askers (allV ts), Sm 36 2 d := fun d hd => by
    unfold askers at hd
    obtain ⟨x, hx, hd⟩ := List.mem_flatMap.mp hd
    obtain ⟨i, rfl, h0, h1⟩ := upto_mem 100 0 x hx
    obtain ⟨row, hr, rfl⟩ := List.mem_map.mp hd
    have hl : row.length = ts.length := allV_row hr
    have h2 : Sm 27 1 (rowD row) := (strs_sms (allV_nm r.t.ok row hr)).tup.mono (by have := r.t.len; omega) (by decide)
    exact (Sms.cons (Sm.int (w := 7) (k := 1) h0 (by omega) (by omega)) (Sms.cons h2 Sms.nil)).tup.mono (w := 7 + 1 + (27 + 1 + 0)) (by decide) (by decide)
  exact (Sms.of key).tup.mono (by rw [askers_len]; have : 100 * (allV ts).length * (36 + 1) ≤ 100 * 12 * 37 := Nat.mul_le_mul_right _ (Nat.mul_le_mul_left _ hv); omega) (by decide)
theorem w_meth {X : XP} {env : Evs} {P : D → Store → Prop} {pt : List (Str × Nat × FM)} {m : Str} {mo : EM} {ma : AM} (h : WE X (mo env S) fun d S1 => ∃ c fs q, insOf S1 d = some (c, fs) ∧ pt.lookup c = some q ∧ (fs.lookup m).isNone = true ∧ WE X (ma env S1) fun ds S2 => ds.length + 1 = q.1 ∧ WE X (q.2 (.v d :: ds.map .v) S2) P) : WE X (mMeth pt m mo ma env S) P := by
  unfold mMeth
  refine w_bind (h.imp fun d S1 h => ?_)
  obtain ⟨c, fs, q, e1, e2, e3, h⟩ := h
  unfold mMt
  rw [e1]
  dsimp only
  rw [e2]
  dsimp only
  rw [if_pos e3]
  refine w_bind (h.imp fun ds S2 h => ?_)
  rw [if_pos h.1]
  exact h.2
theorem w_methK {X : XP} {env : Evs} {P : D → Store → Prop} {c m : Str} {fm : FM} {ix : List Nat} {k : Nat} {mo : EM} {mk : AM} (h : WE X (mo env S) fun d S1 => ∃ fs, insOf S1 d = some (c, fs) ∧ (fs.lookup m).isNone = true ∧ WE X (mk env S1) fun ds S2 => ds.length = k ∧ WE X (fm (.v d :: (perm ix ds).map .v) S2) P) : WE X (mMethK c m fm ix k mo mk env S) P := by
  unfold mMethK
  refine w_bind (h.imp fun d S1 h => ?_)
  obtain ⟨fs, e1, e3, h⟩ := h
  unfold mMtK
  rw [e1]
  dsimp only
  rw [if_pos ⟨rfl, e3⟩]
  refine w_bind (h.imp fun ds S2 h => ?_)
  rw [if_pos h.1]
  exact h.2
theorem w_callK {X : XP} {env : Evs} {P : D → Store → Prop} {fm : FM} {ix : List Nat} {n m : Nat} {ma mk : AM} (h : WE X (ma env S) fun ds S1 => WE X (mk env S1) fun zs S2 => (ds.length = n ∧ zs.length = m) ∧ WE X (fm ((perm ix (ds ++ zs)).map .v) S2) P) : WE X (mCallK fm ix n m ma mk env S) P := by
  unfold mCallK
  refine w_bind (h.imp fun ds S1 h => w_bind (h.imp fun zs S2 h => ?_))
  rw [if_pos h.1]
  exact h.2
theorem gLstR_nat {k : Nat} (hk : k < 1000) : gLstR 0 (k : Int) = some (.l (upto 0 k)) := by
  unfold gLstR
  rw [Int.sub_zero, Int.toNat_natCast, inRng_of (r := 0) (by decide) (by decide), inRng_of (r := (k : Int)) (by omega) (by omega)]
  rw [if_pos]
  simp only [Bool.true_and, decide_eq_true_eq]
  omega
theorem w_lstR {X : XP} {env : Evs} {P : D → Store → Prop} {me : EM} {k : Nat} (h : WE X (me env S) fun d S1 => d = .int k ∧ k < 1000 ∧ P (.fl (upto 0 k)) S1) : WE X (mLstR1 false me env S) P := by
  unfold mLstR1
  refine w_bind (h.imp fun d S1 h => ?_)
  have h1 := h.1
  have hk := h.2.1
  have p := h.2.2
  subst h1
  have hl : (upto 0 k).length ≤ 16777216 := by
    rw [M3.upto_length]
    omega
  dsimp only
  rw [gLstR_nat hk]
  unfold Gv.fin
  dsimp only
  rw [if_pos hl]
  exact p
/-- [f == .., f == .., f != ..] beside the law's words -/
theorem not_is {env : Evs} {Q : SP} {ma mb : EM} {w k : Nat} {x : D} (h : Sm w k x) (hw : w ≤ 1048576) (hk : k ≤ 60) (T : Store) (ha : WE (Q.x env) (ma env S) fun d S1 => d = x ∧ WE (Q.x env) (mb env S1) fun d' S2 => d' = x ∧ S2 = T) (q : Q.nx env T) : WS (mIfS (mNotT (mT (mCall m__law_is (mCons ma (mCons mb mNil))))) (mRet (mC (.bl false))) mSkip env S) Q := by
  refine s_ifs (w_nt (w_t (w_call (w_cons (ha.imp fun d S1 h1 => ?_)))))
  obtain ⟨rfl, h1⟩ := h1
  refine w_cons (h1.imp fun d' S2 h2 => ?_)
  obtain ⟨rfl, rfl⟩ := h2
  exact w_nil (w_eq (law_is_ok h hw hk) ⟨true, rfl, (fun h => by cases h), fun _ => s_skip' q⟩)
end
end LW

set_option Elab.async false
set_option linter.all false
set_option maxRecDepth 100000
set_option maxHeartbeats 4000000
namespace LW
open PySem M3
abbrev RE (n : Nat) (ts : List Tr) (ls : List Ly) (fs : List Fg) (e : Int) (f : Nat → Option EV) : Evs :=
  [some (.v (.ref n)), some (.v (fpD ts ls fs e)), some (.v (.tup (ts.map trD))), some (.v (.tup (ls.map lyD))), some (.v (.tup (fs.map fgD))), some (.v (.int e)), some (.v (frD (fpD ts ls fs e))), some (.v (frD (fpD ts ls fs e))), f 8, f 9, f 10, f 11, f 12, f 13, f 14, f 15, f 16, f 17, f 18, f 19, f 20]
abbrev up (f : Nat → Option EV) (i : Nat) (d : D) : Nat → Option EV := fun j => if j = i then some (.v d) else f j
noncomputable def b_own : SM := (mIfS (mNotT (mT (mCall m__law_is (mCons (mLst false (mCons (mTup (mCons (mAttr [("Frame", m_Frame_traits)] [] "traits" (mVar 8)) (mCons (mAttr [("Frame", m_Frame_layers)] [] "layers" (mVar 8)) (mCons (mAttr [("Frame", m_Frame_flags)] [] "flags" (mVar 8)) (mCons (mAttr [("Frame", m_Frame_end)] [] "end" (mVar 8)) mNil))))) (mCons (mAttr [("Frame", m_Frame_parts)] [] "parts" (mVar 8)) mNil))) (mCons (mLst false (mCons (mVar 1) (mCons (mVar 1) mNil))) mNil))))) (mRet (mC (.bl false))) mSkip)
noncomputable def b_layer : SM := (mSeq (mPar 12 13 (mCons (mLst false (mCons (mC (.int 0)) (mCons (mC (.int 99)) (mCons (mCall m__law_draw (mCons (mVar 0) (mCons (mC (.int 100)) mNil))) (mCons (mCall m__law_draw (mCons (mVar 0) (mCons (mC (.int 100)) mNil))) mNil))))) (mCons (mLstR1 false (mC (.int 100))) mNil)))
    (mSeq (mSet 14 (mLc false (iMA (mVar 12)) (gmName 20) mYes (mCall m__law_bucket (mCons (mVar 1) (mCons (mVar 9) (mCons (mVar 20) mNil)))) [20]))
    (mSeq (mIfS (mNotT (mT (mCall m__law_is (mCons (mLc false (iMA (mVar 12)) (gmName 20) mYes (mMeth [("Frame", 3, m_Frame_bucket)] "bucket" (mVar 6) (mCons (mVar 9) (mCons (mVar 20) mNil))) [20]) (mCons (mVar 14) mNil))))) (mRet (mC (.bl false))) mSkip)
    (mSeq (mIfS (mNotT (mT (mCall m__law_is (mCons (mMethK "Frame" "bucket" m_Frame_bucket [1, 0] 2 (mVar 7) (mCons (mBin false gIx (mVar 12) (mC (.int 2))) (mCons (mVar 9) mNil))) (mCons (mBin false gIx (mVar 14) (mC (.int 2))) mNil))))) (mRet (mC (.bl false))) mSkip)
    (mSeq (mSet 15 (mBin false gEq (mCB false gSorted (mCons (mLc false (iMA (mVar 13)) (gmName 20) mYes (mCall m__law_bucket (mCons (mVar 1) (mCons (mVar 9) (mCons (mVar 20) mNil)))) [20]) mNil)) (mVar 13)))
    (mIfS (mNotT (mT (mCall m__law_is (mCons (mLst false (mCons (mCall m_is_even (mCons (mVar 6) (mCons (mVar 9) mNil))) (mCons (mCallK m_is_even [1, 0] 0 2 mNil (mCons (mVar 9) (mCons (mVar 6) mNil))) mNil))) (mCons (mLst false (mCons (mVar 15) (mCons (mVar 15) mNil))) mNil))))) (mRet (mC (.bl false))) mSkip))))))
noncomputable def b_turn : SM := (mSeq (mSet 17 (mCall m__law_other (mCons (mVar 0) (mCons (mVar 1) mNil))))
    (mSeq (mPar 18 14 (mCons (mCall m__law_made (mCons (mVar 17) mNil)) (mCons (mBin false gEq (mCB false gRepr (mCons (mVar 17) mNil)) (mCB false gRepr (mCons (mVar 1) mNil))) mNil)))
    (mIfS (mNotT (mT (mCall m__law_is (mCons (mLst false (mCons (mCmpO false [("Frame", m_Frame___eq__)] (mVar 6) (mVar 18)) (mCons (mCmpO false [("Frame", m_Frame___eq__)] (mVar 18) (mVar 7)) (mCons (mCmpO true [("Frame", m_Frame___eq__)] (mVar 6) (mVar 18)) mNil)))) (mCons (mLst false (mCons (mVar 14) (mCons (mVar 14) (mCons (mNot (mVar 14)) mNil)))) mNil))))) (mRet (mC (.bl false))) mSkip)))
section
variable {S : Store} {n : Nat} {ts : List Tr} {ls : List Ly} {fs : List Fg} {e : Int}
theorem two_sm (r : Fr ts ls fs e) : Sm 3000 5 (.fl [fpD ts ls fs e, fpD ts ls fs e]) := (Sms.cons r.sm (Sms.cons r.sm Sms.nil)).fl.mono (w := 1000 + 1 + (1000 + 1 + 0)) (by decide) (by decide)
theorem own_ok (r : Fr ts ls fs e) {T : Store} {f : Nat → Option EV} {Q : SP} (h8 : f 8 = some (.v (frD (fpD ts ls fs e)))) (q : Q.nx (RE n ts ls fs e f) T) : WS (b_own (RE n ts ls fs e f) T) Q := by
  unfold b_own
  refine not_is (two_sm r) (by decide) (by decide) T ?_ q
  have v8 : ∀ {P : D → Store → Prop}, P (frD (fpD ts ls fs e)) T → WE (Q.x (RE n ts ls fs e f)) (mVar 8 (RE n ts ls fs e f) T) P := fun p => w_var (by show some (f 8) = _; rw [h8]) p
  refine w_lst (w_cons (w_tup (w_cons (w_atFr r.traits_ (v8 ⟨rfl, w_cons (w_atFr r.layers_ (v8 ⟨rfl, w_cons (w_atFr r.flags_ (v8 ⟨rfl, w_cons (w_atFr r.end_ (v8 ⟨rfl, w_nil ⟨Nat.le_of_ble_eq_true rfl, w_cons (w_atFr r.parts_ (v8 ⟨rfl, w_nil ⟨Nat.le_of_ble_eq_true rfl, ?_⟩⟩))⟩⟩))⟩))⟩))⟩)))))
  exact ⟨rfl, w_lst (w_cons (w_var rfl (w_cons (w_var rfl (w_nil ⟨Nat.le_of_ble_eq_true rfl, rfl, rfl⟩)))))⟩
theorem askers_chk (r : Fr ts ls fs e) {T : Store} {f : Nat → Option EV} {Q : SP} (q : Q.nx (RE n ts ls fs e f) T) : WS (mIfS (mNotT (mT (mCall m__law_is (mCons (mMeth [("Frame", 1, m_Frame_askers)] "askers" (mVar 6) mNil) (mCons (mCB false gTuple (mCons (mCall m__law_askers (mCons (mVar 1) mNil)) mNil)) mNil))))) (mRet (mC (.bl false))) mSkip (RE n ts ls fs e f) T) Q := by
  have hv : (allV ts).length ≤ 12 := by
    rw [allV_len]
    have := r.t.pr ts.length
    rwa [List.take_length] at this
  refine not_is (askers_sm r) (by decide) (by decide) T ?_ q
  refine w_meth (w_var rfl ⟨"Frame", _, _, rfl, rfl, rfl, w_nil ⟨rfl, w_eq (askers_ok r) ⟨rfl, ?_⟩⟩⟩)
  exact w_cb (w_cons (w_call (w_cons (w_var rfl (w_nil (w_eq (law_askers_ok r) (w_nil (w_gt gTuple_fl' (by rw [askers_len]; omega) ⟨rfl, rfl⟩))))))))
theorem bk_sm (l : Ly) (i : Int) : Sm 7 0 (.int (bk l i)) := Sm.int (bk_range l i).1 (by have := (bk_range l i).2; omega) (by omega)
theorem layer_ok (r : Fr ts ls fs e) (hn : n < S.length) {l : Ly} (hl : l ∈ ls) {u : Int × Int × Int} {f : Nat → Option EV} {Q : SP} (h9 : f 9 = some (.v (.str l.1))) (q : ∀ (g : Nat → Option EV) (u : Int × Int × Int), Q.nx (RE n ts ls fs e g) (S.set n (uc u) ++ [])) : WS (b_layer (RE n ts ls fs e f) (S.set n (uc u) ++ [])) Q := by
  unfold b_layer
  with_reducible refine s_seq' ?_
  refine s_par' (w_cons (w_lst (w_cons (w_c (w_cons (w_c (w_cons (w_call (w_cons (w_var rfl (w_cons (w_c (w_nil ?_)))))))))))))
  refine w_dr hn (take_dr (many := 100) (Urn.at hn _ _) (by omega) (by omega)) fun d u1 ⟨a, e1, a0, a1⟩ => ?_
  subst e1
  refine w_cons (w_call (w_cons (w_var rfl (w_cons (w_c (w_nil ?_))))))
  refine w_dr hn (take_dr (many := 100) (Urn.at hn _ _) (by omega) (by omega)) fun d u2 ⟨b, e2, b0, b1⟩ => ?_
  subst e2
  refine w_nil ⟨Nat.le_of_ble_eq_true rfl, w_cons (w_lstR (k := 100) (w_c ⟨rfl, by decide, w_nil ⟨_, _, rfl, ?_⟩⟩))⟩
  generalize hT : S.set n (uc u2) ++ [] = T
  have rng : ∀ i ∈ [0, 99, a, b], 0 ≤ i ∧ i < 100 := fun i hi => by
    simp only [List.mem_cons, List.not_mem_nil, or_false] at hi
    omega
  let f2 : Nat → Option EV := up (up f 12 (.fl ([0, 99, a, b].map .int))) 13 (.fl (upto 0 100))
  have bkm : ([0, 99, a, b].map D.int).map (bkF l) = [0, 99, a, b].map fun i => D.int (bk l i) := by rw [List.map_map]; rfl
  have lawb : ∀ {g : Nat → Option EV} {T : Store} {x : Option EV} {i : Int} {Q' : XP}, g 9 = some (.v (.str l.1)) → 0 ≤ i ∧ i < 100 → WE xNo (mCall m__law_bucket (mCons (mVar 1) (mCons (mVar 9) (mCons (mVar 20) mNil))) (((RE n ts ls fs e g).set 20 none).set 20 (some (.v (.int i)))) T) fun x S' => x = .int (bk l i) ∧ S' = T := fun {g T x i Q'} hg hi => by
    refine w_call (w_cons (w_var rfl (w_cons (w_var (d := .str l.1) (by show some (g 9) = _; rw [hg]) (w_cons (w_var rfl (w_nil (w_eq (law_bucket_ok r hl hi) ⟨rfl, rfl⟩))))))))
  have h29 : f2 9 = some (.v (.str l.1)) := h9
  -- the due ones
  with_reducible refine s_seq' ?_
  refine s_set' (w_lcv (w_ma (w_var rfl (w_eq rfl ⟨rfl, Nat.le_of_ble_eq_true rfl, bkF l, fun d hd => ?_, ?_⟩))))
  · obtain ⟨i, hi, rfl⟩ : ∃ i, i ∈ [0, 99, a, b] ∧ D.int i = d := List.mem_map.mp hd
    exact lawb (g := f2) (x := none) (Q' := xNo) h29 (rng i hi)
  let f3 : Nat → Option EV := up f2 14 (.fl ([0, 99, a, b].map fun i => D.int (bk l i)))
  have h39 : f3 9 = some (.v (.str l.1)) := h9
  have sm4 : Sm 100 1 (.fl ([0, 99, a, b].map fun i => D.int (bk l i))) := (Sms.cons (bk_sm l 0) (Sms.cons (bk_sm l 99) (Sms.cons (bk_sm l a) (Sms.cons (bk_sm l b) Sms.nil)))).fl.mono (w := 7 + 1 + (7 + 1 + (7 + 1 + (7 + 1 + 0)))) (by decide) (by decide)
  with_reducible refine s_seq' ?_
  refine not_is sm4 (by decide) (by decide) T ?_ ?_
  · refine w_lcv (w_ma (w_var rfl (w_eq rfl ⟨rfl, Nat.le_of_ble_eq_true rfl, bkF l, fun d hd => ?_, ?_⟩)))
    · obtain ⟨i, hi, rfl⟩ : ∃ i, i ∈ [0, 99, a, b] ∧ D.int i = d := List.mem_map.mp hd
      exact w_meth (w_var rfl ⟨"Frame", _, _, rfl, rfl, rfl, w_cons (w_var (d := .str l.1) (by show some (f 9) = _; rw [h9]) (w_cons (w_var rfl (w_nil ⟨rfl, w_eq (frame_bucket_ok r hl (rng i hi)) ⟨rfl, rfl⟩⟩))))⟩)
    · exact ⟨rfl, w_var rfl ⟨rfl, rfl⟩⟩
  with_reducible refine s_seq' ?_
  refine not_is (bk_sm l a) (by decide) (by decide) T ?_ ?_
  · refine w_methK (w_var rfl ⟨_, rfl, rfl, w_cons (w_bin (w_var rfl (w_c (w_gd (gIx_fl (i := 2) (d := .int a) rfl) (w_cons (w_var (d := .str l.1) (by show some (f 9) = _; rw [h9]) (w_nil ⟨rfl, w_eq (frame_bucket_ok r hl ⟨a0, a1⟩) ⟨rfl, ?_⟩⟩)))))))⟩)
    exact w_bin (w_var rfl (w_c (w_gd (gIx_fl (i := 2) (d := .int (bk l a)) rfl) ⟨rfl, rfl⟩)))
  obtain ⟨js, e3, p3, s3⟩ := gSorted_ints (S := T) (x := .fl ((bks l).map .int)) (is := bks l) rfl (by rw [bks_len]; decide)
  with_reducible refine s_seq' ?_
  refine s_set' (w_bin (w_cb (w_cons (w_lcv (w_ma (w_var rfl (w_eq rfl ⟨rfl, Nat.le_of_ble_eq_true rfl, bkF l, fun d hd => ?_, ?_⟩)))))))
  · obtain ⟨i, rfl, h0, h1⟩ := upto_mem 100 0 d hd
    exact lawb (g := f3) (x := none) (Q' := xNo) h39 ⟨h0, by omega⟩
  have jl := p3.length_eq
  rw [bks_len] at jl
  refine w_nil (w_gl (ds := js.map .int) ?_ (by rw [List.length_map, jl]; decide) (w_var rfl (w_gd (x := .bl (evn l)) ?_ ?_)))
  · show gSorted T [.fl ((upto 0 100).map (bkF l))] = _
    rw [map_bk]
    exact e3
  · show gEq T (.fl (js.map .int)) (.fl (upto 0 100)) = _
    rw [upto100, gEq_ints, sorted_evn p3 s3]
  have smb : Sm 10 1 (.fl [.bl (evn l), .bl (evn l)]) := (Sms.cons (Sm.bl (w := 0) (k := 0)) (Sms.cons (Sm.bl (w := 0)) (Sms.nil (w := 0)))).fl.mono (by decide) (by decide)
  have qq := q (up f3 15 (.bl (evn l))) u2
  rw [hT] at qq
  refine not_is smb (by decide) (by decide) T ?_ qq
  refine w_lst (w_cons (w_call (w_cons (w_var rfl (w_cons (w_var (d := .str l.1) (by show some (f 9) = _; rw [h9]) (w_nil (w_eq (is_even_ok r hl) (w_cons (w_callK (w_nil (w_cons (w_var (d := .str l.1) (by show some (f 9) = _; rw [h9]) (w_cons (w_var rfl (w_nil ⟨⟨rfl, rfl⟩, w_eq (is_even_ok r hl) (w_nil ⟨Nat.le_of_ble_eq_true rfl, rfl, ?_⟩)⟩))))))))))))))))
  exact w_lst (w_cons (w_var rfl (w_cons (w_var rfl (w_nil ⟨Nat.le_of_ble_eq_true rfl, rfl, rfl⟩)))))
theorem turn_ok (r : Fr ts ls fs e) (hn : n < S.length) {u : Int × Int × Int} {f : Nat → Option EV} {Q : SP} (q : ∀ (g : Nat → Option EV) (u : Int × Int × Int), Q.nx (RE n ts ls fs e g) (S.set n (uc u) ++ [])) : WS (b_turn (RE n ts ls fs e f) (S.set n (uc u) ++ [])) Q := by
  unfold b_turn
  with_reducible refine s_seq' ?_
  refine s_set' (w_call (w_cons (w_var rfl (w_cons (w_var rfl (w_nil ?_))))))
  refine w_dr hn (other_dr (Urn.at hn _ _) r) fun d u1 ⟨ts', ls', fs', e', e1, r'⟩ => ?_
  subst e1
  generalize hT : S.set n (uc u1) ++ [] = T
  let D1 : Bool := dueB (fpD ts ls fs e) (fpD ts' ls' fs' e')
  have rp : ∀ {ts : List Tr} {ls : List Ly} {fs : List Fg} {e : Int}, Fr ts ls fs e → gRepr T [fpD ts ls fs e] = some (.d (.str (pdD (fpD ts ls fs e)).shown)) := fun r => r.sm.repr
  with_reducible refine s_seq' ?_
  refine s_par' (w_cons (w_call (w_cons (w_var rfl (w_nil (w_eq (made_ok r') (w_cons (w_bin (w_cb (w_cons (w_var rfl (w_nil (w_gd (rp r') (w_cb (w_cons (w_var rfl (w_nil (w_gd (rp r) (w_gd (x := .bl D1) ?_ (w_nil ⟨_, _, rfl, ?_⟩))))))))))))))))))))
  · show gEq T (.str (pdD (fpD ts' ls' fs' e')).shown) (.str (pdD (fpD ts ls fs e)).shown) = some (.d (.bl (dueB (fpD ts ls fs e) (fpD ts' ls' fs' e'))))
    rw [dueB_comm]
    unfold gEq eqD eqF dueB
    simp
  have qq := q (up (up (up f 17 (fpD ts' ls' fs' e')) 18 (frD (fpD ts' ls' fs' e'))) 14 (.bl D1)) u1
  rw [hT] at qq
  have smb : Sm 10 1 (.fl [.bl D1, .bl D1, .bl (!D1)]) := (Sms.cons (Sm.bl (w := 0) (k := 0)) (Sms.cons (Sm.bl (w := 0)) (Sms.cons (Sm.bl (w := 0)) (Sms.nil (w := 0))))).fl.mono (by decide) (by decide)
  refine not_is smb (by decide) (by decide) T ?_ qq
  have c2 : dueB (fpD ts' ls' fs' e') (fpD ts ls fs e) = D1 := dueB_comm _ _
  refine w_lst (w_cons (w_cmpO (w_var rfl (w_var rfl ⟨rfl, _, _, cmp_fr (n := false) r r', w_cons (w_cmpO (w_var rfl (w_var rfl ⟨rfl, _, _, cmp_fr (n := false) r' r, w_cons (w_cmpO (w_var rfl (w_var rfl ⟨rfl, _, _, cmp_fr (n := true) r r', w_nil ⟨Nat.le_of_ble_eq_true rfl, ?_⟩⟩)))⟩)))⟩))))
  rw [c2]
  exact ⟨rfl, w_lst (w_cons (w_var rfl (w_cons (w_var rfl (w_cons (w_not (w_var rfl ⟨_, rfl, w_nil ⟨Nat.le_of_ble_eq_true rfl, rfl, rfl⟩⟩)))))))⟩
end
end LW

set_option Elab.async false
set_option linter.all false
set_option maxRecDepth 100000
set_option maxHeartbeats 4000000
namespace LW
open PySem M3
theorem right_dr {S : Store} {n : Nat} (U : Urn S n) : Dr S n (m__law_right [.v (.ref n)] S) fun d => d = .bl true := by
  have hn := U.lt
  refine dr_w0 U fun u hu => ?_
  unfold s__law_right
  with_reducible refine s_seq' ?_
  refine s_set' (w_call (w_cons (w_var rfl (w_nil ?_))))
  refine w_dr hn (frame_dr (Urn.at hn _ _)) fun d u1 ⟨ts, ls, fs, e, e1, r⟩ => ?_
  subst e1
  have hll := r.l.len
  with_reducible refine s_seq' ?_
  refine s_asg' (w_var rfl ⟨([some (.v (.ref n)), some (.v (fpD ts ls fs e)), some (.v (.tup (ts.map trD))), some (.v (.tup (ls.map lyD))), some (.v (.tup (fs.map fgD))), some (.v (.int e)), none, none, none, none, none, none, none, none, none, none, none, none, none, none, none], S.set n (uc u1) ++ []), rfl, ?_⟩)
  with_reducible refine s_seq' ?_
  refine s_asg' (w_tup (w_cons (w_call (w_cons (w_var rfl (w_nil (w_eq (made_ok r) (w_cons (w_makeK (w_cons (w_var rfl (w_cons (w_var rfl (w_cons (w_var rfl (w_cons (w_var rfl (w_nil ⟨rfl, w_eq r.make (w_nil ⟨Nat.le_of_ble_eq_true rfl, ⟨(RE n ts ls fs e (fun _ => none), S.set n (uc u1) ++ []), rfl, ?_⟩⟩)⟩))))))))))))))))))
  -- the properties
  with_reducible refine s_seq' ?_
  refine s_forW (w_ma (w_tup (w_cons (w_var rfl (w_cons (w_var rfl (w_nil ⟨Nat.le_of_ble_eq_true rfl, w_eq rfl ?_⟩)))))))
  refine forG_w (fun ds env T => ∃ (k : Nat) (f : Nat → Option EV), ds = List.replicate k (frD (fpD ts ls fs e)) ∧ env = RE n ts ls fs e f ∧ T = S.set n (uc u1) ++ []) (fun r env S h => okS_none _ _) ?_ ?_ _ _ _ ⟨2, fun _ => none, rfl, rfl, rfl⟩
  · rintro d rr env T ⟨k, f, hds, rfl, rfl⟩
    cases k with
    | zero => cases hds
    | succ k =>
    rw [List.replicate_succ] at hds
    obtain ⟨rfl, rfl⟩ := List.cons.inj hds
    refine ⟨(RE n ts ls fs e (up f 8 (frD (fpD ts ls fs e))), S.set n (uc u1) ++ []), rfl, ?_⟩
    exact own_ok r (f := up f 8 (frD (fpD ts ls fs e))) rfl ⟨k, _, rfl, rfl, rfl⟩
  rintro env T ⟨k, f, hds, rfl, rfl⟩
  clear hds k
  -- the askers
  with_reducible refine s_seq' ?_
  refine askers_chk r ?_
  -- the layers
  with_reducible refine s_seq' ?_
  refine s_forW (w_ma (w_var rfl (w_eq rfl ?_)))
  refine forG_w (fun ds env T => ∃ (b : List Ly) (f : Nat → Option EV) (u : Int × Int × Int), ds = b.map lyD ∧ (∀ l ∈ b, l ∈ ls) ∧ env = RE n ts ls fs e f ∧ T = S.set n (uc u) ++ []) (fun r env S h => okS_none _ _) ?_ ?_ _ _ _ ⟨ls, f, u1, rfl, fun l hl => hl, rfl, rfl⟩
  · rintro d rr env T ⟨b, f, u, hds, hb, rfl, rfl⟩
    cases b with
    | nil => cases hds
    | cons l b =>
    obtain ⟨rfl, rfl⟩ := List.cons.inj hds
    refine ⟨(RE n ts ls fs e (up (up (up f 9 (.str l.1)) 10 (.int l.2.1)) 11 (.int l.2.2)), S.set n (uc u) ++ []), rfl, ?_⟩
    exact layer_ok r hn (hb l List.mem_cons_self) (f := up (up (up f 9 (.str l.1)) 10 (.int l.2.1)) 11 (.int l.2.2)) rfl fun g u => ⟨b, g, u, rfl, fun l hl => hb l (List.mem_cons_of_mem _ hl), rfl, rfl⟩
  rintro env T ⟨b, f, u2, hds, hb, rfl, rfl⟩
  clear hds hb b
  -- the turns
  with_reducible refine s_seq' ?_
  refine s_forW (w_mr1 (w_cons (w_c (w_nil ⟨4, rfl, rfl, ?_⟩))))
  refine forG_w (fun ds env T => ∃ (i k : Nat) (f : Nat → Option EV) (u : Int × Int × Int), ds = upto i k ∧ env = RE n ts ls fs e f ∧ T = S.set n (uc u) ++ []) (fun r env S h => okS_none _ _) ?_ ?_ _ _ _ ⟨0, 4, f, u2, rfl, rfl, rfl⟩
  · rintro d rr env T ⟨i, k, f, u, hds, rfl, rfl⟩
    obtain ⟨k, rfl, rfl, rfl⟩ := upto_cons hds
    refine ⟨(RE n ts ls fs e (up f 16 (.int i)), S.set n (uc u) ++ []), rfl, ?_⟩
    exact turn_ok r hn (f := up f 16 (.int i)) fun g u => ⟨i + 1, k, g, u, rfl, rfl, rfl⟩
  rintro env T ⟨i, k, f, u3, hds, rfl, rfl⟩
  clear hds i k
  -- values of other kinds
  with_reducible refine s_seq' ?_
  refine s_set' (w_lcv (w_ma (w_tup (w_cons (w_var rfl (w_cons (w_c (w_cons (w_c (w_cons (w_c (w_cons (w_c (w_cons (w_tup (w_cons (w_var rfl (w_nil ⟨Nat.le_of_ble_eq_true rfl, w_cons (w_lst (w_cons (w_var rfl (w_nil ⟨Nat.le_of_ble_eq_true rfl, w_nil ⟨Nat.le_of_ble_eq_true rfl, w_eq rfl ⟨rfl, Nat.le_of_ble_eq_true rfl, fun _ => .bl false, fun d hd => ?_, ?_⟩⟩⟩))))⟩))))))))))))))))))
  · have hd : d ∈ [fpD ts ls fs e, .non, .int 0, .str "", .str "frame", .tup [frD (fpD ts ls fs e)], .fl [frD (fpD ts ls fs e)]] := hd
    have key : insOf (S.set n (uc u3) ++ []) d = none ∧ othOk (S.set n (uc u3) ++ []) "Frame" d = true ∧ (kindOf (S.set n (uc u3) ++ []) d).isSome = true := by
      simp only [List.mem_cons, List.not_mem_nil, or_false] at hd
      rcases hd with rfl | rfl | rfl | rfl | rfl | rfl | rfl <;> exact ⟨rfl, rfl, rfl⟩
    exact w_cmpO (w_var rfl (w_var rfl ⟨rfl, _, _, cmp_oth (n := false) key.1 key.2.1 key.2.2, rfl, rfl⟩))
  have sm7 : Sm 10 1 (.fl (List.replicate 7 (.bl false))) := (Sms.of (w := 0) (k := 0) fun d hd => by rw [List.eq_of_mem_replicate hd]; exact Sm.bl).fl.mono (by decide) (by decide)
  refine s_ret' (w_and (w_call (w_cons (w_var rfl (w_cons (w_bin (w_lst (w_cons (w_c (w_nil ⟨Nat.le_of_ble_eq_true rfl, w_c (w_gl (ds := List.replicate 7 (.bl false)) rfl (Nat.le_of_ble_eq_true rfl) (w_nil (w_eq (law_is_ok sm7) ⟨true, rfl, fun _ => ?_, fun h => by cases h⟩)))⟩))))))))))
  refine w_call (w_cons (w_cmpO (w_var rfl (w_var rfl ⟨rfl, _, _, cmp_oth (n := true) rfl rfl rfl, w_cons (w_c (w_nil (w_eq (law_is_ok (Sm.bl (w := 0) (k := 0))) ?_)))⟩))))
  exact ⟨u3, [], _, rfl, rfl, rfl⟩
end LW

set_option Elab.async false
set_option linter.all false
set_option maxRecDepth 100000
set_option maxHeartbeats 4000000
namespace LW
open PySem M3
theorem cmul_r {x : Int} {y : Int} (h : -(2 ^ 64) < y ∧ y < 2 ^ 64) : cMul x y = true := by
  unfold cMul
  simp only [Bool.or_eq_true, Bool.and_eq_true, decide_eq_true_eq]
  exact .inr h
theorem gMul_r {S : Store} {x y : Int} (h : -(2 ^ 64) < y ∧ y < 2 ^ 64) : gMulA S (.int x) (.int y) = some (.d (.int (x * y))) := if_pos (cmul_r h)
theorem well_ok {S : Store} {ns : List Int} {lap : Nat} (hl : ns.length ≤ 63) (hp : lap ≤ 3) : ∃ u, m__law_well [.v (.fz (ns.map .int)), .v (.int lap)] S = .ok (.ref S.length) (S ++ [uc u]) := by
  have key : WE xNo (m__law_well [.v (.fz (ns.map .int)), .v (.int lap)] S) fun d T => ∃ u, d = .ref S.length ∧ T = S ++ [uc u] := by
    refine finM_w (fm := m__law_well) ?_
    unfold s__law_well
    let E : Int → Option EV → Option EV → Evs := fun x e3 e4 => [some (.v (.fz (ns.map .int))), some (.v (.int lap)), some (.v (.int x)), e3, e4]
    refine s_seq' (s_set' (w_bin (w_c (w_bin (w_c (w_var rfl (w_gd (gMul_r (by omega)) (w_gd rfl ?_))))))))
    refine s_seq' (s_forW (w_ma (w_sl (w_var rfl (w_oN (w_oS (w_c ⟨9, rfl, rfl, ?_⟩)))))))
    refine w_gl (ds := (ns.take 9).map .int) ?_ (by rw [List.length_map, List.length_take]; omega) ?_
    · show some (Gv.l (cutD (ns.map D.int) none (some 9))) = _
      rw [cut_to (by decide), ← List.map_take]
      rfl
    refine w_eq rfl ?_
    refine forG_w (fun ds env T' => ∃ (x : Int) (rest : List Int) (e3 : Option EV), ds = rest.map .int ∧ T' = S ∧ env = E x e3 none) (fun r env S h => okS_none _ _) ?_ ?_ _ _ _ ⟨_, ns.take 9, none, rfl, rfl, rfl⟩
    · rintro d r env T' ⟨x, rest, e3, hd, rfl, rfl⟩
      cases rest with
      | nil => cases hd
      | cons z rest =>
        obtain ⟨rfl, rfl⟩ := List.cons.inj hd
        refine ⟨(E x (some (.v (.int z))) none, T'), rfl, ?_⟩
        (repeat (first | with_reducible refine s_seq' ?_ | with_reducible refine s_set' ?_ | with_reducible refine s_par' ?_ | with_reducible refine s_par3' ?_ | with_reducible refine s_asg' ?_ | with_reducible refine s_ifs ?_ | with_reducible refine s_expr' ?_ | with_reducible refine s_ret' ?_ | with_reducible refine s_forW ?_ | with_reducible refine w_cons ?_ | with_reducible refine w_nil ?_ | with_reducible refine w_c ?_ | with_reducible refine w_call ?_ | with_reducible refine w_tup ?_ | with_reducible refine w_lst ?_ | with_reducible refine w_nilU ?_ | with_reducible refine w_bin ?_ | with_reducible refine w_cb ?_ | with_reducible refine w_b ?_ | with_reducible refine w_t ?_ | with_reducible refine w_nt ?_ | with_reducible refine w_at ?_ | with_reducible refine w_ot ?_ | with_reducible refine w_mr1 ?_ | with_reducible refine w_ma ?_ | with_reducible refine w_sl ?_ | with_reducible refine w_oN ?_ | with_reducible refine w_oS ?_ | with_reducible refine w_make ?_ | with_reducible refine w_neg ?_ | with_reducible refine s_fld' ?_ | (guard_target =~ WE _ (mVar _ _ _) _; refine w_var rfl ?_) | with_reducible refine w_gd rfl ?_ | (guard_target =~ And _ _; refine And.intro (Nat.le_of_ble_eq_true rfl) ?_) | (guard_target =~ Exists _; refine ⟨_, _, rfl, ?_⟩) | (guard_target =~ Exists _; refine ⟨_, _, _, rfl, ?_⟩) | (guard_target =~ Exists _; refine ⟨_, rfl, ?_⟩) | (guard_target =~ And _ _; refine And.intro (Eq.refl true) ?_)))
        refine w_gd (gMul_r (by omega)) ?_
        (repeat (first | with_reducible refine s_seq' ?_ | with_reducible refine s_set' ?_ | with_reducible refine s_par' ?_ | with_reducible refine s_par3' ?_ | with_reducible refine s_asg' ?_ | with_reducible refine s_ifs ?_ | with_reducible refine s_expr' ?_ | with_reducible refine s_ret' ?_ | with_reducible refine s_forW ?_ | with_reducible refine w_cons ?_ | with_reducible refine w_nil ?_ | with_reducible refine w_c ?_ | with_reducible refine w_call ?_ | with_reducible refine w_tup ?_ | with_reducible refine w_lst ?_ | with_reducible refine w_nilU ?_ | with_reducible refine w_bin ?_ | with_reducible refine w_cb ?_ | with_reducible refine w_b ?_ | with_reducible refine w_t ?_ | with_reducible refine w_nt ?_ | with_reducible refine w_at ?_ | with_reducible refine w_ot ?_ | with_reducible refine w_mr1 ?_ | with_reducible refine w_ma ?_ | with_reducible refine w_sl ?_ | with_reducible refine w_oN ?_ | with_reducible refine w_oS ?_ | with_reducible refine w_make ?_ | with_reducible refine w_neg ?_ | with_reducible refine s_fld' ?_ | (guard_target =~ WE _ (mVar _ _ _) _; refine w_var rfl ?_) | with_reducible refine w_gd rfl ?_ | (guard_target =~ And _ _; refine And.intro (Nat.le_of_ble_eq_true rfl) ?_) | (guard_target =~ Exists _; refine ⟨_, _, rfl, ?_⟩) | (guard_target =~ Exists _; refine ⟨_, _, _, rfl, ?_⟩) | (guard_target =~ Exists _; refine ⟨_, rfl, ?_⟩) | (guard_target =~ And _ _; refine And.intro (Eq.refl true) ?_)))
        exact ⟨_, rest, _, rfl, rfl, rfl⟩
    rintro env T' ⟨x, rest, e3, hd, rfl, rfl⟩
    with_reducible refine s_seq' ?_
    refine s_set' (WE.imp (P := fun d T => (∃ o : Int, d = .int o) ∧ T = T') ?_ ?_)
    · refine w_if (w_b ?_)
      (repeat (first | with_reducible refine s_seq' ?_ | with_reducible refine s_set' ?_ | with_reducible refine s_par' ?_ | with_reducible refine s_par3' ?_ | with_reducible refine s_asg' ?_ | with_reducible refine s_ifs ?_ | with_reducible refine s_expr' ?_ | with_reducible refine s_ret' ?_ | with_reducible refine s_forW ?_ | with_reducible refine w_cons ?_ | with_reducible refine w_nil ?_ | with_reducible refine w_c ?_ | with_reducible refine w_call ?_ | with_reducible refine w_tup ?_ | with_reducible refine w_lst ?_ | with_reducible refine w_nilU ?_ | with_reducible refine w_bin ?_ | with_reducible refine w_cb ?_ | with_reducible refine w_b ?_ | with_reducible refine w_t ?_ | with_reducible refine w_nt ?_ | with_reducible refine w_at ?_ | with_reducible refine w_ot ?_ | with_reducible refine w_mr1 ?_ | with_reducible refine w_ma ?_ | with_reducible refine w_sl ?_ | with_reducible refine w_oN ?_ | with_reducible refine w_oS ?_ | with_reducible refine w_make ?_ | with_reducible refine w_neg ?_ | with_reducible refine s_fld' ?_ | (guard_target =~ WE _ (mVar _ _ _) _; refine w_var rfl ?_) | with_reducible refine w_gd rfl ?_ | (guard_target =~ And _ _; refine And.intro (Nat.le_of_ble_eq_true rfl) ?_) | (guard_target =~ Exists _; refine ⟨_, _, rfl, ?_⟩) | (guard_target =~ Exists _; refine ⟨_, _, _, rfl, ?_⟩) | (guard_target =~ Exists _; refine ⟨_, rfl, ?_⟩) | (guard_target =~ And _ _; refine And.intro (Eq.refl true) ?_)))
      refine ⟨fun hb => ?_, fun _ => ?_⟩
      · have hb : lap < ns.length := by
          have := of_decide_eq_true hb
          rw [List.length_map] at this
          omega
        (repeat (first | with_reducible refine s_seq' ?_ | with_reducible refine s_set' ?_ | with_reducible refine s_par' ?_ | with_reducible refine s_par3' ?_ | with_reducible refine s_asg' ?_ | with_reducible refine s_ifs ?_ | with_reducible refine s_expr' ?_ | with_reducible refine s_ret' ?_ | with_reducible refine s_forW ?_ | with_reducible refine w_cons ?_ | with_reducible refine w_nil ?_ | with_reducible refine w_c ?_ | with_reducible refine w_call ?_ | with_reducible refine w_tup ?_ | with_reducible refine w_lst ?_ | with_reducible refine w_nilU ?_ | with_reducible refine w_bin ?_ | with_reducible refine w_cb ?_ | with_reducible refine w_b ?_ | with_reducible refine w_t ?_ | with_reducible refine w_nt ?_ | with_reducible refine w_at ?_ | with_reducible refine w_ot ?_ | with_reducible refine w_mr1 ?_ | with_reducible refine w_ma ?_ | with_reducible refine w_sl ?_ | with_reducible refine w_oN ?_ | with_reducible refine w_oS ?_ | with_reducible refine w_make ?_ | with_reducible refine w_neg ?_ | with_reducible refine s_fld' ?_ | (guard_target =~ WE _ (mVar _ _ _) _; refine w_var rfl ?_) | with_reducible refine w_gd rfl ?_ | (guard_target =~ And _ _; refine And.intro (Nat.le_of_ble_eq_true rfl) ?_) | (guard_target =~ Exists _; refine ⟨_, _, rfl, ?_⟩) | (guard_target =~ Exists _; refine ⟨_, _, _, rfl, ?_⟩) | (guard_target =~ Exists _; refine ⟨_, rfl, ?_⟩) | (guard_target =~ And _ _; refine And.intro (Eq.refl true) ?_)))
        refine w_gd (gIx_fz (d := .int ns[lap]) (by rw [List.getElem?_map, List.getElem?_eq_getElem hb]; rfl)) ?_
        (repeat (first | with_reducible refine s_seq' ?_ | with_reducible refine s_set' ?_ | with_reducible refine s_par' ?_ | with_reducible refine s_par3' ?_ | with_reducible refine s_asg' ?_ | with_reducible refine s_ifs ?_ | with_reducible refine s_expr' ?_ | with_reducible refine s_ret' ?_ | with_reducible refine s_forW ?_ | with_reducible refine w_cons ?_ | with_reducible refine w_nil ?_ | with_reducible refine w_c ?_ | with_reducible refine w_call ?_ | with_reducible refine w_tup ?_ | with_reducible refine w_lst ?_ | with_reducible refine w_nilU ?_ | with_reducible refine w_bin ?_ | with_reducible refine w_cb ?_ | with_reducible refine w_b ?_ | with_reducible refine w_t ?_ | with_reducible refine w_nt ?_ | with_reducible refine w_at ?_ | with_reducible refine w_ot ?_ | with_reducible refine w_mr1 ?_ | with_reducible refine w_ma ?_ | with_reducible refine w_sl ?_ | with_reducible refine w_oN ?_ | with_reducible refine w_oS ?_ | with_reducible refine w_make ?_ | with_reducible refine w_neg ?_ | with_reducible refine s_fld' ?_ | (guard_target =~ WE _ (mVar _ _ _) _; refine w_var rfl ?_) | with_reducible refine w_gd rfl ?_ | (guard_target =~ And _ _; refine And.intro (Nat.le_of_ble_eq_true rfl) ?_) | (guard_target =~ Exists _; refine ⟨_, _, rfl, ?_⟩) | (guard_target =~ Exists _; refine ⟨_, _, _, rfl, ?_⟩) | (guard_target =~ Exists _; refine ⟨_, rfl, ?_⟩) | (guard_target =~ And _ _; refine And.intro (Eq.refl true) ?_)))
        exact ⟨⟨_, rfl⟩, rfl⟩
      · (repeat (first | with_reducible refine s_seq' ?_ | with_reducible refine s_set' ?_ | with_reducible refine s_par' ?_ | with_reducible refine s_par3' ?_ | with_reducible refine s_asg' ?_ | with_reducible refine s_ifs ?_ | with_reducible refine s_expr' ?_ | with_reducible refine s_ret' ?_ | with_reducible refine s_forW ?_ | with_reducible refine w_cons ?_ | with_reducible refine w_nil ?_ | with_reducible refine w_c ?_ | with_reducible refine w_call ?_ | with_reducible refine w_tup ?_ | with_reducible refine w_lst ?_ | with_reducible refine w_nilU ?_ | with_reducible refine w_bin ?_ | with_reducible refine w_cb ?_ | with_reducible refine w_b ?_ | with_reducible refine w_t ?_ | with_reducible refine w_nt ?_ | with_reducible refine w_at ?_ | with_reducible refine w_ot ?_ | with_reducible refine w_mr1 ?_ | with_reducible refine w_ma ?_ | with_reducible refine w_sl ?_ | with_reducible refine w_oN ?_ | with_reducible refine w_oS ?_ | with_reducible refine w_make ?_ | with_reducible refine w_neg ?_ | with_reducible refine s_fld' ?_ | (guard_target =~ WE _ (mVar _ _ _) _; refine w_var rfl ?_) | with_reducible refine w_gd rfl ?_ | (guard_target =~ And _ _; refine And.intro (Nat.le_of_ble_eq_true rfl) ?_) | (guard_target =~ Exists _; refine ⟨_, _, rfl, ?_⟩) | (guard_target =~ Exists _; refine ⟨_, _, _, rfl, ?_⟩) | (guard_target =~ Exists _; refine ⟨_, rfl, ?_⟩) | (guard_target =~ And _ _; refine And.intro (Eq.refl true) ?_)))
        exact ⟨⟨_, rfl⟩, rfl⟩
    rintro d T ⟨⟨o, rfl⟩, rfl⟩
    with_reducible refine s_seq' ?_
    refine s_set' ?_
    (repeat (first | with_reducible refine s_seq' ?_ | with_reducible refine s_set' ?_ | with_reducible refine s_par' ?_ | with_reducible refine s_par3' ?_ | with_reducible refine s_asg' ?_ | with_reducible refine s_ifs ?_ | with_reducible refine s_expr' ?_ | with_reducible refine s_ret' ?_ | with_reducible refine s_forW ?_ | with_reducible refine w_cons ?_ | with_reducible refine w_nil ?_ | with_reducible refine w_c ?_ | with_reducible refine w_call ?_ | with_reducible refine w_tup ?_ | with_reducible refine w_lst ?_ | with_reducible refine w_nilU ?_ | with_reducible refine w_bin ?_ | with_reducible refine w_cb ?_ | with_reducible refine w_b ?_ | with_reducible refine w_t ?_ | with_reducible refine w_nt ?_ | with_reducible refine w_at ?_ | with_reducible refine w_ot ?_ | with_reducible refine w_mr1 ?_ | with_reducible refine w_ma ?_ | with_reducible refine w_sl ?_ | with_reducible refine w_oN ?_ | with_reducible refine w_oS ?_ | with_reducible refine w_make ?_ | with_reducible refine w_neg ?_ | with_reducible refine s_fld' ?_ | (guard_target =~ WE _ (mVar _ _ _) _; refine w_var rfl ?_) | with_reducible refine w_gd rfl ?_ | (guard_target =~ And _ _; refine And.intro (Nat.le_of_ble_eq_true rfl) ?_) | (guard_target =~ Exists _; refine ⟨_, _, rfl, ?_⟩) | (guard_target =~ Exists _; refine ⟨_, _, _, rfl, ?_⟩) | (guard_target =~ Exists _; refine ⟨_, rfl, ?_⟩) | (guard_target =~ And _ _; refine And.intro (Eq.refl true) ?_)))
    refine w_gd (gMul_r (by omega)) ?_
    (repeat (first | with_reducible refine s_seq' ?_ | with_reducible refine s_set' ?_ | with_reducible refine s_par' ?_ | with_reducible refine s_par3' ?_ | with_reducible refine s_asg' ?_ | with_reducible refine s_ifs ?_ | with_reducible refine s_expr' ?_ | with_reducible refine s_ret' ?_ | with_reducible refine s_forW ?_ | with_reducible refine w_cons ?_ | with_reducible refine w_nil ?_ | with_reducible refine w_c ?_ | with_reducible refine w_call ?_ | with_reducible refine w_tup ?_ | with_reducible refine w_lst ?_ | with_reducible refine w_nilU ?_ | with_reducible refine w_bin ?_ | with_reducible refine w_cb ?_ | with_reducible refine w_b ?_ | with_reducible refine w_t ?_ | with_reducible refine w_nt ?_ | with_reducible refine w_at ?_ | with_reducible refine w_ot ?_ | with_reducible refine w_mr1 ?_ | with_reducible refine w_ma ?_ | with_reducible refine w_sl ?_ | with_reducible refine w_oN ?_ | with_reducible refine w_oS ?_ | with_reducible refine w_make ?_ | with_reducible refine w_neg ?_ | with_reducible refine s_fld' ?_ | (guard_target =~ WE _ (mVar _ _ _) _; refine w_var rfl ?_) | with_reducible refine w_gd rfl ?_ | (guard_target =~ And _ _; refine And.intro (Nat.le_of_ble_eq_true rfl) ?_) | (guard_target =~ Exists _; refine ⟨_, _, rfl, ?_⟩) | (guard_target =~ Exists _; refine ⟨_, _, _, rfl, ?_⟩) | (guard_target =~ Exists _; refine ⟨_, rfl, ?_⟩) | (guard_target =~ And _ _; refine And.intro (Eq.refl true) ?_)))
    refine w_gd (gMul_r (by omega)) ?_
    (repeat (first | with_reducible refine s_seq' ?_ | with_reducible refine s_set' ?_ | with_reducible refine s_par' ?_ | with_reducible refine s_par3' ?_ | with_reducible refine s_asg' ?_ | with_reducible refine s_ifs ?_ | with_reducible refine s_expr' ?_ | with_reducible refine s_ret' ?_ | with_reducible refine s_forW ?_ | with_reducible refine w_cons ?_ | with_reducible refine w_nil ?_ | with_reducible refine w_c ?_ | with_reducible refine w_call ?_ | with_reducible refine w_tup ?_ | with_reducible refine w_lst ?_ | with_reducible refine w_nilU ?_ | with_reducible refine w_bin ?_ | with_reducible refine w_cb ?_ | with_reducible refine w_b ?_ | with_reducible refine w_t ?_ | with_reducible refine w_nt ?_ | with_reducible refine w_at ?_ | with_reducible refine w_ot ?_ | with_reducible refine w_mr1 ?_ | with_reducible refine w_ma ?_ | with_reducible refine w_sl ?_ | with_reducible refine w_oN ?_ | with_reducible refine w_oS ?_ | with_reducible refine w_make ?_ | with_reducible refine w_neg ?_ | with_reducible refine s_fld' ?_ | (guard_target =~ WE _ (mVar _ _ _) _; refine w_var rfl ?_) | with_reducible refine w_gd rfl ?_ | (guard_target =~ And _ _; refine And.intro (Nat.le_of_ble_eq_true rfl) ?_) | (guard_target =~ Exists _; refine ⟨_, _, rfl, ?_⟩) | (guard_target =~ Exists _; refine ⟨_, _, _, rfl, ?_⟩) | (guard_target =~ Exists _; refine ⟨_, rfl, ?_⟩) | (guard_target =~ And _ _; refine And.intro (Eq.refl true) ?_)))
    refine w_lsta (w_cons (WE.imp (P := fun d T'' => (∃ a : Int, d = .int a) ∧ T'' = T) ?_ ?_))
    · refine w_if (w_ot (w_b ?_))
      (repeat (first | with_reducible refine s_seq' ?_ | with_reducible refine s_set' ?_ | with_reducible refine s_par' ?_ | with_reducible refine s_par3' ?_ | with_reducible refine s_asg' ?_ | with_reducible refine s_ifs ?_ | with_reducible refine s_expr' ?_ | with_reducible refine s_ret' ?_ | with_reducible refine s_forW ?_ | with_reducible refine w_cons ?_ | with_reducible refine w_nil ?_ | with_reducible refine w_c ?_ | with_reducible refine w_call ?_ | with_reducible refine w_tup ?_ | with_reducible refine w_lst ?_ | with_reducible refine w_nilU ?_ | with_reducible refine w_bin ?_ | with_reducible refine w_cb ?_ | with_reducible refine w_b ?_ | with_reducible refine w_t ?_ | with_reducible refine w_nt ?_ | with_reducible refine w_at ?_ | with_reducible refine w_ot ?_ | with_reducible refine w_mr1 ?_ | with_reducible refine w_ma ?_ | with_reducible refine w_sl ?_ | with_reducible refine w_oN ?_ | with_reducible refine w_oS ?_ | with_reducible refine w_make ?_ | with_reducible refine w_neg ?_ | with_reducible refine s_fld' ?_ | (guard_target =~ WE _ (mVar _ _ _) _; refine w_var rfl ?_) | with_reducible refine w_gd rfl ?_ | (guard_target =~ And _ _; refine And.intro (Nat.le_of_ble_eq_true rfl) ?_) | (guard_target =~ Exists _; refine ⟨_, _, rfl, ?_⟩) | (guard_target =~ Exists _; refine ⟨_, _, _, rfl, ?_⟩) | (guard_target =~ Exists _; refine ⟨_, rfl, ?_⟩) | (guard_target =~ And _ _; refine And.intro (Eq.refl true) ?_)))
      refine ⟨fun _ => ⟨fun _ => ?_, fun h => by cases h⟩, fun _ => ?_⟩
      · (repeat (first | with_reducible refine s_seq' ?_ | with_reducible refine s_set' ?_ | with_reducible refine s_par' ?_ | with_reducible refine s_par3' ?_ | with_reducible refine s_asg' ?_ | with_reducible refine s_ifs ?_ | with_reducible refine s_expr' ?_ | with_reducible refine s_ret' ?_ | with_reducible refine s_forW ?_ | with_reducible refine w_cons ?_ | with_reducible refine w_nil ?_ | with_reducible refine w_c ?_ | with_reducible refine w_call ?_ | with_reducible refine w_tup ?_ | with_reducible refine w_lst ?_ | with_reducible refine w_nilU ?_ | with_reducible refine w_bin ?_ | with_reducible refine w_cb ?_ | with_reducible refine w_b ?_ | with_reducible refine w_t ?_ | with_reducible refine w_nt ?_ | with_reducible refine w_at ?_ | with_reducible refine w_ot ?_ | with_reducible refine w_mr1 ?_ | with_reducible refine w_ma ?_ | with_reducible refine w_sl ?_ | with_reducible refine w_oN ?_ | with_reducible refine w_oS ?_ | with_reducible refine w_make ?_ | with_reducible refine w_neg ?_ | with_reducible refine s_fld' ?_ | (guard_target =~ WE _ (mVar _ _ _) _; refine w_var rfl ?_) | with_reducible refine w_gd rfl ?_ | (guard_target =~ And _ _; refine And.intro (Nat.le_of_ble_eq_true rfl) ?_) | (guard_target =~ Exists _; refine ⟨_, _, rfl, ?_⟩) | (guard_target =~ Exists _; refine ⟨_, _, _, rfl, ?_⟩) | (guard_target =~ Exists _; refine ⟨_, rfl, ?_⟩) | (guard_target =~ And _ _; refine And.intro (Eq.refl true) ?_)))
        exact ⟨⟨_, rfl⟩, rfl⟩
      · (repeat (first | with_reducible refine s_seq' ?_ | with_reducible refine s_set' ?_ | with_reducible refine s_par' ?_ | with_reducible refine s_par3' ?_ | with_reducible refine s_asg' ?_ | with_reducible refine s_ifs ?_ | with_reducible refine s_expr' ?_ | with_reducible refine s_ret' ?_ | with_reducible refine s_forW ?_ | with_reducible refine w_cons ?_ | with_reducible refine w_nil ?_ | with_reducible refine w_c ?_ | with_reducible refine w_call ?_ | with_reducible refine w_tup ?_ | with_reducible refine w_lst ?_ | with_reducible refine w_nilU ?_ | with_reducible refine w_bin ?_ | with_reducible refine w_cb ?_ | with_reducible refine w_b ?_ | with_reducible refine w_t ?_ | with_reducible refine w_nt ?_ | with_reducible refine w_at ?_ | with_reducible refine w_ot ?_ | with_reducible refine w_mr1 ?_ | with_reducible refine w_ma ?_ | with_reducible refine w_sl ?_ | with_reducible refine w_oN ?_ | with_reducible refine w_oS ?_ | with_reducible refine w_make ?_ | with_reducible refine w_neg ?_ | with_reducible refine s_fld' ?_ | (guard_target =~ WE _ (mVar _ _ _) _; refine w_var rfl ?_) | with_reducible refine w_gd rfl ?_ | (guard_target =~ And _ _; refine And.intro (Nat.le_of_ble_eq_true rfl) ?_) | (guard_target =~ Exists _; refine ⟨_, _, rfl, ?_⟩) | (guard_target =~ Exists _; refine ⟨_, _, _, rfl, ?_⟩) | (guard_target =~ Exists _; refine ⟨_, rfl, ?_⟩) | (guard_target =~ And _ _; refine And.intro (Eq.refl true) ?_)))
        refine ⟨fun _ => ?_, fun _ => ⟨⟨_, rfl⟩, rfl⟩⟩
        (repeat (first | with_reducible refine s_seq' ?_ | with_reducible refine s_set' ?_ | with_reducible refine s_par' ?_ | with_reducible refine s_par3' ?_ | with_reducible refine s_asg' ?_ | with_reducible refine s_ifs ?_ | with_reducible refine s_expr' ?_ | with_reducible refine s_ret' ?_ | with_reducible refine s_forW ?_ | with_reducible refine w_cons ?_ | with_reducible refine w_nil ?_ | with_reducible refine w_c ?_ | with_reducible refine w_call ?_ | with_reducible refine w_tup ?_ | with_reducible refine w_lst ?_ | with_reducible refine w_nilU ?_ | with_reducible refine w_bin ?_ | with_reducible refine w_cb ?_ | with_reducible refine w_b ?_ | with_reducible refine w_t ?_ | with_reducible refine w_nt ?_ | with_reducible refine w_at ?_ | with_reducible refine w_ot ?_ | with_reducible refine w_mr1 ?_ | with_reducible refine w_ma ?_ | with_reducible refine w_sl ?_ | with_reducible refine w_oN ?_ | with_reducible refine w_oS ?_ | with_reducible refine w_make ?_ | with_reducible refine w_neg ?_ | with_reducible refine s_fld' ?_ | (guard_target =~ WE _ (mVar _ _ _) _; refine w_var rfl ?_) | with_reducible refine w_gd rfl ?_ | (guard_target =~ And _ _; refine And.intro (Nat.le_of_ble_eq_true rfl) ?_) | (guard_target =~ Exists _; refine ⟨_, _, rfl, ?_⟩) | (guard_target =~ Exists _; refine ⟨_, _, _, rfl, ?_⟩) | (guard_target =~ Exists _; refine ⟨_, rfl, ?_⟩) | (guard_target =~ And _ _; refine And.intro (Eq.refl true) ?_)))
        exact ⟨⟨_, rfl⟩, rfl⟩
    · rintro d T'' ⟨⟨a, rfl⟩, rfl⟩
      (repeat (first | with_reducible refine s_seq' ?_ | with_reducible refine s_set' ?_ | with_reducible refine s_par' ?_ | with_reducible refine s_par3' ?_ | with_reducible refine s_asg' ?_ | with_reducible refine s_ifs ?_ | with_reducible refine s_expr' ?_ | with_reducible refine s_ret' ?_ | with_reducible refine s_forW ?_ | with_reducible refine w_cons ?_ | with_reducible refine w_nil ?_ | with_reducible refine w_c ?_ | with_reducible refine w_call ?_ | with_reducible refine w_tup ?_ | with_reducible refine w_lst ?_ | with_reducible refine w_nilU ?_ | with_reducible refine w_bin ?_ | with_reducible refine w_cb ?_ | with_reducible refine w_b ?_ | with_reducible refine w_t ?_ | with_reducible refine w_nt ?_ | with_reducible refine w_at ?_ | with_reducible refine w_ot ?_ | with_reducible refine w_mr1 ?_ | with_reducible refine w_ma ?_ | with_reducible refine w_sl ?_ | with_reducible refine w_oN ?_ | with_reducible refine w_oS ?_ | with_reducible refine w_make ?_ | with_reducible refine w_neg ?_ | with_reducible refine s_fld' ?_ | (guard_target =~ WE _ (mVar _ _ _) _; refine w_var rfl ?_) | with_reducible refine w_gd rfl ?_ | (guard_target =~ And _ _; refine And.intro (Nat.le_of_ble_eq_true rfl) ?_) | (guard_target =~ Exists _; refine ⟨_, _, rfl, ?_⟩) | (guard_target =~ Exists _; refine ⟨_, _, _, rfl, ?_⟩) | (guard_target =~ Exists _; refine ⟨_, rfl, ?_⟩) | (guard_target =~ And _ _; refine And.intro (Eq.refl true) ?_)))
      exact ⟨(a, _, 0), rfl, rfl⟩
  obtain ⟨d, T, e, u, rfl, rfl⟩ := key.ok
  exact ⟨u, e⟩
theorem plain (ns : List Int) (hl : ns.length ≤ 63) (hb : ∀ z ∈ ns, Builtin.Int.intBits z ≤ 1048576) : ∃ S', m_law [.v (.fz (ns.map D.int))] [] = .ok (.bl true) S' := by
  have key : WE xNo (finM 2 s_law [.v (.fz (ns.map D.int))] []) fun d T => d = .bl true := by
    refine finM_w (fm := m_law) ?_
    unfold s_law
    let m : Int := if (3 : Int) < ns.length then (3 : Int) else ns.length
    let j : Int := if m > 1 then m else 1
    have hj : 1 ≤ j ∧ j ≤ 3 := by dsimp only [j, m]; split <;> split <;> omega
    have gl : gLen ([] : Store) [.fz (ns.map D.int)] = some (.d (.int ns.length)) := by
      show some (Gv.d (.int ((ns.map D.int).length : Nat))) = _
      rw [List.length_map]
    refine s_ret' (w_cb (w_cons (w_lc (w_mr1 (w_cons (w_cb (w_cons (w_c (w_cons (w_cb (w_cons (w_cb (w_cons (w_var rfl (w_nil (w_gd gl (w_cons (w_c (w_nil (w_gd (x := .int m) rfl (w_nil (w_gd (x := .int j) rfl (w_nil ⟨j, rfl, inRng_of (by omega) (by omega), ?_⟩)))))))))))))))))))))))
    refine ⟨fun ds xs T => ∃ (i k : Nat), ds = upto i k ∧ i + k = j.toNat ∧ xs = List.replicate i (.bl true), ⟨0, j.toNat, rfl, by omega, rfl⟩, fun r xs S h => okS_none _ _, ?_, ?_⟩
    · rintro d r xs T ⟨i, k, hd, hi, rfl⟩
      obtain ⟨k, rfl, rfl, rfl⟩ := upto_cons hd
      refine ⟨([some (.v (.fz (ns.map D.int))), some (.v (.int i))], T), rfl, w_yes ⟨fun _ => ?_, fun h => by cases h⟩⟩
      (repeat (first | with_reducible refine s_seq' ?_ | with_reducible refine s_set' ?_ | with_reducible refine s_par' ?_ | with_reducible refine s_par3' ?_ | with_reducible refine s_asg' ?_ | with_reducible refine s_ifs ?_ | with_reducible refine s_expr' ?_ | with_reducible refine s_ret' ?_ | with_reducible refine s_forW ?_ | with_reducible refine w_cons ?_ | with_reducible refine w_nil ?_ | with_reducible refine w_c ?_ | with_reducible refine w_call ?_ | with_reducible refine w_tup ?_ | with_reducible refine w_lst ?_ | with_reducible refine w_nilU ?_ | with_reducible refine w_bin ?_ | with_reducible refine w_cb ?_ | with_reducible refine w_b ?_ | with_reducible refine w_t ?_ | with_reducible refine w_nt ?_ | with_reducible refine w_at ?_ | with_reducible refine w_ot ?_ | with_reducible refine w_mr1 ?_ | with_reducible refine w_ma ?_ | with_reducible refine w_sl ?_ | with_reducible refine w_oN ?_ | with_reducible refine w_oS ?_ | with_reducible refine w_make ?_ | with_reducible refine w_neg ?_ | with_reducible refine s_fld' ?_ | (guard_target =~ WE _ (mVar _ _ _) _; refine w_var rfl ?_) | with_reducible refine w_gd rfl ?_ | (guard_target =~ And _ _; refine And.intro (Nat.le_of_ble_eq_true rfl) ?_) | (guard_target =~ Exists _; refine ⟨_, _, rfl, ?_⟩) | (guard_target =~ Exists _; refine ⟨_, _, _, rfl, ?_⟩) | (guard_target =~ Exists _; refine ⟨_, rfl, ?_⟩) | (guard_target =~ And _ _; refine And.intro (Eq.refl true) ?_)))
      obtain ⟨u, e⟩ := well_ok (S := T) (lap := i) hl (by omega)
      refine w_eq e ?_
      (repeat (first | with_reducible refine s_seq' ?_ | with_reducible refine s_set' ?_ | with_reducible refine s_par' ?_ | with_reducible refine s_par3' ?_ | with_reducible refine s_asg' ?_ | with_reducible refine s_ifs ?_ | with_reducible refine s_expr' ?_ | with_reducible refine s_ret' ?_ | with_reducible refine s_forW ?_ | with_reducible refine w_cons ?_ | with_reducible refine w_nil ?_ | with_reducible refine w_c ?_ | with_reducible refine w_call ?_ | with_reducible refine w_tup ?_ | with_reducible refine w_lst ?_ | with_reducible refine w_nilU ?_ | with_reducible refine w_bin ?_ | with_reducible refine w_cb ?_ | with_reducible refine w_b ?_ | with_reducible refine w_t ?_ | with_reducible refine w_nt ?_ | with_reducible refine w_at ?_ | with_reducible refine w_ot ?_ | with_reducible refine w_mr1 ?_ | with_reducible refine w_ma ?_ | with_reducible refine w_sl ?_ | with_reducible refine w_oN ?_ | with_reducible refine w_oS ?_ | with_reducible refine w_make ?_ | with_reducible refine w_neg ?_ | with_reducible refine s_fld' ?_ | (guard_target =~ WE _ (mVar _ _ _) _; refine w_var rfl ?_) | with_reducible refine w_gd rfl ?_ | (guard_target =~ And _ _; refine And.intro (Nat.le_of_ble_eq_true rfl) ?_) | (guard_target =~ Exists _; refine ⟨_, _, rfl, ?_⟩) | (guard_target =~ Exists _; refine ⟨_, _, _, rfl, ?_⟩) | (guard_target =~ Exists _; refine ⟨_, rfl, ?_⟩) | (guard_target =~ And _ _; refine And.intro (Eq.refl true) ?_)))
      obtain ⟨d, u', e, rfl⟩ := right_dr (S := T ++ [uc u]) (n := T.length) ⟨u, by simp⟩
      refine w_eq e ?_
      exact ⟨i + 1, k, rfl, by omega, by rw [List.replicate_succ']⟩
    · rintro xs T ⟨i, k, hd, hi, rfl⟩
      refine ⟨by rw [List.length_replicate]; omega, ?_⟩
      (repeat (first | with_reducible refine s_seq' ?_ | with_reducible refine s_set' ?_ | with_reducible refine s_par' ?_ | with_reducible refine s_par3' ?_ | with_reducible refine s_asg' ?_ | with_reducible refine s_ifs ?_ | with_reducible refine s_expr' ?_ | with_reducible refine s_ret' ?_ | with_reducible refine s_forW ?_ | with_reducible refine w_cons ?_ | with_reducible refine w_nil ?_ | with_reducible refine w_c ?_ | with_reducible refine w_call ?_ | with_reducible refine w_tup ?_ | with_reducible refine w_lst ?_ | with_reducible refine w_nilU ?_ | with_reducible refine w_bin ?_ | with_reducible refine w_cb ?_ | with_reducible refine w_b ?_ | with_reducible refine w_t ?_ | with_reducible refine w_nt ?_ | with_reducible refine w_at ?_ | with_reducible refine w_ot ?_ | with_reducible refine w_mr1 ?_ | with_reducible refine w_ma ?_ | with_reducible refine w_sl ?_ | with_reducible refine w_oN ?_ | with_reducible refine w_oS ?_ | with_reducible refine w_make ?_ | with_reducible refine w_neg ?_ | with_reducible refine s_fld' ?_ | (guard_target =~ WE _ (mVar _ _ _) _; refine w_var rfl ?_) | with_reducible refine w_gd rfl ?_ | (guard_target =~ And _ _; refine And.intro (Nat.le_of_ble_eq_true rfl) ?_) | (guard_target =~ Exists _; refine ⟨_, _, rfl, ?_⟩) | (guard_target =~ Exists _; refine ⟨_, _, _, rfl, ?_⟩) | (guard_target =~ Exists _; refine ⟨_, rfl, ?_⟩) | (guard_target =~ And _ _; refine And.intro (Eq.refl true) ?_)))
      have e : List.replicate i (D.bl true) = (List.replicate i ()).map fun _ => D.bl true := by simp
      refine w_gd (x := .bl true) (by rw [e]; exact gAll_true _) rfl
  obtain ⟨d, T, e, rfl⟩ := key.ok
  exact ⟨_, frzM_ok (S := []) e ⟨Nat.zero_le _, fun i hi => absurd hi (Nat.not_lt_zero _)⟩ rfl⟩
end LW

set_option Elab.async false
set_option linter.all false
set_option maxRecDepth 100000
set_option maxHeartbeats 0
namespace LW
open PySem PySem.Spec L2 M3 He PyProof.Rows
abbrev R : PySem.W.OpenRow := PySem.W.OpenLaw.row PySem.Challenge.rw_flagslate_k02_frames_made_and_their_aske
abbrev hk : PySem.W.Hook := hookP 5 fa fn pd tf ex
def ob (s : PySem.W.SharedT) : AlP := obsP 5 fa fn pd tf ex (HandSHeadRun.getT s)
theorem ob_eq (s : PySem.W.SharedT) : ob s = hk.obs s.abs := obsP_eq (HandSHeadRun.getT_eq s)
def nm0 : List PySem.Str := [PySem.Str.ofString "__name__", PySem.Str.ofString "SlateError", PySem.Str.ofString "InvalidNumber", PySem.Str.ofString "NotAFrame", PySem.Str.ofString "UnknownLayer", PySem.Str.ofString "InvalidTraits", PySem.Str.ofString "InvalidLayers", PySem.Str.ofString "InvalidFlags", PySem.Str.ofString "SMALL_LETTERS", PySem.Str.ofString "MOST_IN_NAME", PySem.Str.ofString "WORDS", PySem.Str.ofString "is_whole", PySem.Str.ofString "is_number", PySem.Str.ofString "check_number", PySem.Str.ofString "is_tuple_of", PySem.Str.ofString "is_ascending", PySem.Str.ofString "wrong_at", PySem.Str.ofString "wrong_from_one", PySem.Str.ofString "is_letters", PySem.Str.ofString "is_name", PySem.Str.ofString "are_names", PySem.Str.ofString "is_one_of", PySem.Str.ofString "MOST_TRAITS", PySem.Str.ofString "MOST_LAYERS", PySem.Str.ofString "MOST_FLAGS", PySem.Str.ofString "MOST_VALUES", PySem.Str.ofString "MOST_GROUPS", PySem.Str.ofString "MOST_VARIANTS", PySem.Str.ofString "MOST_STICKY", PySem.Str.ofString "MOST_END", PySem.Str.ofString "IDS", PySem.Str.ofString "is_trait", PySem.Str.ofString "is_layer", PySem.Str.ofString "is_flag", PySem.Str.ofString "is_behind"]
def nm1 : List PySem.Str := [PySem.Str.ofString "groups_of", PySem.Str.ofString "check_traits", PySem.Str.ofString "check_layers", PySem.Str.ofString "check_flags", PySem.Str.ofString "Frame", PySem.Str.ofString "all_values", PySem.Str.ofString "all_askers", PySem.Str.ofString "bucket_of", PySem.Str.ofString "is_even_by", PySem.Str.ofString "check_frame", PySem.Str.ofString "check_layer", PySem.Str.ofString "is_even", PySem.Str.ofString "_law_well", PySem.Str.ofString "_law_draw", PySem.Str.ofString "_law_of", PySem.Str.ofString "_law_unlike", PySem.Str.ofString "_law_mixed", PySem.Str.ofString "_law_is", PySem.Str.ofString "_law_words", PySem.Str.ofString "_law_names", PySem.Str.ofString "_law_frame", PySem.Str.ofString "_law_askers", PySem.Str.ofString "_law_bucket", PySem.Str.ofString "_law_made", PySem.Str.ofString "_law_other", PySem.Str.ofString "_law_right"]
def nms : List PySem.Str := nm0 ++ nm1
theorem run (w : World) : HandSHeadRun.RunEq R (PySem.W.view R.prog [64]) hk ob 4000 nms w := by
  intro os
  kernel_rfl
end LW

set_option Elab.async false
set_option linter.all false
set_option maxRecDepth 100000
set_option maxHeartbeats 0
open PySem PySem.W PySem.Calls PyProof.Rows
theorem PySem.Challenge.cw_flagslate_k02_frames_made_and_their_aske_holds : PySem.Challenge.rw_flagslate_k02_frames_made_and_their_aske.Holds := by
  w_on; o_law
  refine HandSHeadRun.head_any (r := (OpenLaw.row PySem.Challenge.rw_flagslate_k02_frames_made_and_their_aske)) (q := view (OpenLaw.row PySem.Challenge.rw_flagslate_k02_frames_made_and_their_aske).prog [64]) (H := LW.hk) (ob := LW.ob) (M := 4000) (loose := LW.nms) (d := HandSHeadRun.topDef (OpenLaw.row PySem.Challenge.rw_flagslate_k02_frames_made_and_their_aske).prog 64) (kwd := []) LW.ob_eq
    (by kernel_rfl) (fun s => by kernel_rfl) LW.run (by kernel_rfl) (by kernel_rfl) (by kernel_rfl) (by rfl) (by first | assumption | decide +kernel) (by decide +kernel) ⟨rfl, rfl, rfl, rfl, rfl, by decide +kernel⟩ ?hw ?hc
  case hw => w_witness2
  case hc =>
    exact M3.walk_ofM (l := PySem.Challenge.rw_flagslate_k02_frames_made_and_their_aske) (n := 63) (k := 13) (x := "script") (dl := LW.d55) rfl (by decide) (by kernel_rfl) ⟨rfl, by decide, by decide⟩ (by kernel_rfl) 77 rfl (fun c => LW.G_law c) fun ns hl hb => LW.plain ns hl hb
