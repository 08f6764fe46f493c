import PyProof.Rows.All
import Wide.All
import OpenK.AllK
import Wide.FinOn
import HandS.ForMost
import HandS.ForExc
import HandS.Lambda
import HandS.IsInst
import HandS.TupAny
import HandS.Style
import HandS.StrMore
import KE.DataEq
import HandS.Small
import HandS.Zip
import KE.GoesNew
import HandS.TryOnly
import HandS.ExcOwn
import HandS.HeadHook1
import HandS.NoneIn
import HandS.CallLocal
import HandS.Defaults
import HandS.HeadHook4
import HandS.HeadWalk
import HandS.Head0
import HandS.Head1
import HandS.Head2
import HandS.HeadEnd
import PySem.Challenge.RW_treesayings_k05_marks_of_trees_with_trac
set_option Elab.async false
set_option linter.all false
set_option maxRecDepth 100000
set_option maxHeartbeats 0
/-! A data layer over HandS: values as plain data, slots that own their lists, what an expression, a statement, a def does as plain functions. -/
namespace DL
open PySem PySem.Spec PyProof.Rows L2

/-! ### values -/
inductive MV where
  | non | bl (b : Bool) | int (i : Int) | str (x : Str) | tup (xs : List MV) | lst (xs : List MV) | dic (kvs : List (MV × MV)) | fn (a : Addr) | scr (ns : List Int) | ty (n : String)
  deriving Inhabited
/-- a slot: nothing, shared data, an own list, a list that is the caller's (changed in place) -/
inductive Sl where
  | no | sh (m : MV) | ow (m : MV) | io (m : MV)
  deriving Inhabited
def Sl.own : Sl → Bool
  | .ow _ => true
  | .io _ => true
  | _ => false
/-- what an expression gives: shared data, a new list that none else holds, what a slot holds -/
inductive RV where
  | v (m : MV) | o (m : MV) | b (i : Nat)
  deriving Inhabited
abbrev Rho := List Sl
abbrev AP := Addr → Prop
/-- an error: its class's name, its field's value -/
structure Exn where
  cls : Str
  arg : Option MV
inductive Res (α : Type) where
  | ok (a : α) (ρ : Rho) | ex (x : Exn) (ρ : Rho) | bad
inductive SRes where
  | nx (ρ : Rho) | rt (r : RV) (ρ : Rho) | bk (ρ : Rho) | ct (ρ : Rho) | ex (x : Exn) (ρ : Rho) | bad
def Res.bind {α β : Type} (r : Res α) (k : α → Rho → Res β) : Res β := match r with
  | .ok a ρ => k a ρ
  | .ex x ρ => .ex x ρ
  | .bad => .bad
def Res.toS {α : Type} (r : Res α) (k : α → Rho → SRes) : SRes := match r with
  | .ok a ρ => k a ρ
  | .ex x ρ => .ex x ρ
  | .bad => .bad
def SRes.seq (r : SRes) (k : Rho → SRes) : SRes := match r with
  | .nx ρ => k ρ
  | r => r

/-! ### data in the heap -/
/-- nothing is tracked -/
def HN : Hp := fun _ => none
def TpD (K : PySem.W.Frag) (W : AP) (H : Hp) (a : Addr) (xs : List V) : Prop := (¬ W a ∧ H a = some (.tup xs)) ∨ SqT K HN a xs
/-- the dict {None: v} at a -/
abbrev nD (a : Addr) (v : V) : HO := .ext fun h => ∃ u o ep, RelV v u ∧ (a == sysModules) = false ∧ h.get? a = some o ∧ o.ExactDict ∧ o.data = .dict #[⟨reduceHash 0xFCA86420, .none, u⟩] ep
def kM : Key → MV
  | .inl i => .int i
  | .inr x => .str x
mutual
inductive Dat (K : PySem.W.Frag) (W : AP) (H : Hp) : MV → V → Prop
  | non : Dat K W H .non .non
  | bl (b : Bool) : Dat K W H (.bl b) (.bl b)
  | int (i : Int) : Dat K W H (.int i) (.int i)
  | str (x : Str) : Dat K W H (.str x) (.str x)
  | fn (a : Addr) : Dat K W H (.fn a) (.ref a)
  | ty (n : String) : Dat K W H (.ty n) (.ty n)
  | scr {a : Addr} {o : Obj} {ns : List Int} : ¬ W a → H a = some (.frz o (.lst (ns.map V.int))) → Dat K W H (.scr ns) (.ref a)
  | scrL {a : Addr} {ns : List Int} : ¬ W a → H a = some (.lst (ns.map V.int)) → Dat K W H (.scr ns) (.ref a)
  | scrK {a : Addr} {ns : List Int} : SqL K HN a (ns.map V.int) → Dat K W H (.scr ns) (.ref a)
  | tup {a : Addr} {xs : List V} {ms : List MV} : TpD K W H a xs → Dats K W H ms xs → Dat K W H (.tup ms) (.ref a)
  | lst {a : Addr} {xs : List V} {ms : List MV} : ¬ W a → H a = some (.lst xs) → Dats K W H ms xs → Dat K W H (.lst ms) (.ref a)
  | dn {a : Addr} {v : V} {m : MV} : ¬ W a → H a = some (nD a v) → Dat K W H m v → Dat K W H (.dic [(.non, m)]) (.ref a)
  | dk {a : Addr} {kvs : List (MV × MV)} {ks : List (Key × V)} : ¬ W a → H a = some (.dK ks) → Datp K W H kvs ks → Dat K W H (.dic kvs) (.ref a)
  | dt {a : Addr} {kvs : List (MV × MV)} {ks : List (List Key × V)} : ¬ W a → H a = some (.dT ks) → Datt K W H kvs ks → Dat K W H (.dic kvs) (.ref a)
inductive Dats (K : PySem.W.Frag) (W : AP) (H : Hp) : List MV → List V → Prop
  | nil : Dats K W H [] []
  | cons {m : MV} {ms : List MV} {v : V} {vs : List V} : Dat K W H m v → Dats K W H ms vs → Dats K W H (m :: ms) (v :: vs)
inductive Datp (K : PySem.W.Frag) (W : AP) (H : Hp) : List (MV × MV) → List (Key × V) → Prop
  | nil : Datp K W H [] []
  | cons {k : Key} {m : MV} {ms : List (MV × MV)} {v : V} {vs : List (Key × V)} : Dat K W H m v → Datp K W H ms vs → Datp K W H ((kM k, m) :: ms) ((k, v) :: vs)
inductive Datt (K : PySem.W.Frag) (W : AP) (H : Hp) : List (MV × MV) → List (List Key × V) → Prop
  | nil : Datt K W H [] []
  | cons {k : List Key} {m : MV} {ms : List (MV × MV)} {v : V} {vs : List (List Key × V)} : Dat K W H m v → Datt K W H ms vs → Datt K W H ((.tup (k.map kM), m) :: ms) ((k, v) :: vs)
end
/-- from one heap to the next: what is tracked and not in W stays (tables of code grow), what is guarded stays, and stays in W -/
structure Step (G W : AP) (H : Hp) (W' : AP) (H' : Hp) : Prop where
  fr : ∀ a o, H a = some o → ¬ W a → (∀ ps, o ≠ .tbl ps) → ¬ W' a ∧ H' a = some o
  gd : ∀ a o, G a → H a = some o → (∀ ps, o ≠ .tbl ps) → H' a = some o ∧ W' a
theorem Step.refl (G W : AP) (H : Hp) (hg : ∀ a, G a → W a) : Step G W H W H := ⟨fun _ _ h n _ => ⟨n, h⟩, fun _ _ g h _ => ⟨h, hg _ g⟩⟩
theorem Step.trans {G W W1 W2 : AP} {H H1 H2 : Hp} (a : Step G W H W1 H1) (b : Step G W1 H1 W2 H2) : Step G W H W2 H2 :=
  ⟨fun x o h n t => let ⟨n1, h1⟩ := a.fr x o h n t; b.fr x o h1 n1 t, fun x o g h t => let ⟨h1, _⟩ := a.gd x o g h t; b.gd x o g h1 t⟩
section
variable {K : PySem.W.Frag} {G W W' : AP} {H H' : Hp}
/-- data keep where all that is tracked outside W is kept -/
structure Keeps (W : AP) (H : Hp) (W' : AP) (H' : Hp) : Prop where
  fr : ∀ a o, H a = some o → ¬ W a → (∀ ps, o ≠ .tbl ps) → ¬ W' a ∧ H' a = some o
theorem Step.keeps (s : Step G W H W' H') : Keeps W H W' H' := ⟨s.fr⟩
mutual
theorem Dat.keep (k : Keeps W H W' H') : ∀ {m : MV} {v : V}, Dat K W H m v → Dat K W' H' m v
  | _, _, .non => .non
  | _, _, .bl b => .bl b
  | _, _, .int i => .int i
  | _, _, .str x => .str x
  | _, _, .fn a => .fn a
  | _, _, .ty n => .ty n
  | _, _, .scr n h => let ⟨n', h'⟩ := k.fr _ _ h n (fun _ q => nomatch q); .scr n' h'
  | _, _, .scrL n h => let ⟨n', h'⟩ := k.fr _ _ h n (fun _ q => nomatch q); .scrL n' h'
  | _, _, .scrK h => .scrK h
  | _, _, .tup t d => .tup (t.elim (fun ⟨n, h⟩ => .inl (k.fr _ _ h n (fun _ q => nomatch q))) .inr) (Dats.keep k d)
  | _, _, .lst n h d => let ⟨n', h'⟩ := k.fr _ _ h n (fun _ q => nomatch q); .lst n' h' (Dats.keep k d)
  | _, _, .dn n h d => let ⟨n', h'⟩ := k.fr _ _ h n (fun _ q => nomatch q); .dn n' h' (Dat.keep k d)
  | _, _, .dk n h d => let ⟨n', h'⟩ := k.fr _ _ h n (fun _ q => nomatch q); .dk n' h' (Datp.keep k d)
  | _, _, .dt n h d => let ⟨n', h'⟩ := k.fr _ _ h n (fun _ q => nomatch q); .dt n' h' (Datt.keep k d)
theorem Dats.keep (k : Keeps W H W' H') : ∀ {ms : List MV} {vs : List V}, Dats K W H ms vs → Dats K W' H' ms vs
  | _, _, .nil => .nil
  | _, _, .cons d r => .cons (Dat.keep k d) (Dats.keep k r)
theorem Datp.keep (k : Keeps W H W' H') : ∀ {ms : List (MV × MV)} {vs : List (Key × V)}, Datp K W H ms vs → Datp K W' H' ms vs
  | _, _, .nil => .nil
  | _, _, .cons d r => .cons (Dat.keep k d) (Datp.keep k r)
theorem Datt.keep (k : Keeps W H W' H') : ∀ {ms : List (MV × MV)} {vs : List (List Key × V)}, Datt K W H ms vs → Datt K W' H' ms vs
  | _, _, .nil => .nil
  | _, _, .cons d r => .cons (Dat.keep k d) (Datt.keep k r)
end
theorem Dats.length : ∀ {ms : List MV} {vs : List V}, Dats K W H ms vs → ms.length = vs.length
  | _, _, .nil => rfl
  | _, _, .cons _ r => congrArg (· + 1) (Dats.length r)
theorem Dats.get : ∀ {ms : List MV} {vs : List V} {i : Nat} {m : MV}, Dats K W H ms vs → ms[i]? = some m → ∃ v, vs[i]? = some v ∧ Dat K W H m v
  | _, _, _, _, .nil, e => by simp at e
  | _, _, 0, _, .cons d _, e => by
    simp at e
    subst e
    exact ⟨_, rfl, d⟩
  | _, _, i + 1, m, .cons _ r, e => by
    obtain ⟨v, h1, h2⟩ := Dats.get (i := i) (m := m) r (by simpa using e)
    exact ⟨v, by simpa using h1, h2⟩
theorem Dats.get' : ∀ {ms : List MV} {vs : List V} {i : Nat} {v : V}, Dats K W H ms vs → vs[i]? = some v → ∃ m, ms[i]? = some m ∧ Dat K W H m v
  | _, _, _, _, .nil, e => by simp at e
  | _, _, 0, _, .cons d _, e => by
    simp at e
    subst e
    exact ⟨_, rfl, d⟩
  | _, _, i + 1, v, .cons _ r, e => by
    obtain ⟨m, h1, h2⟩ := Dats.get' (i := i) (v := v) r (by simpa using e)
    exact ⟨m, by simpa using h1, h2⟩
theorem Dats.append : ∀ {ms ns : List MV} {vs us : List V}, Dats K W H ms vs → Dats K W H ns us → Dats K W H (ms ++ ns) (vs ++ us)
  | _, _, _, _, .nil, s => s
  | _, _, _, _, .cons d r, s => .cons d (Dats.append r s)
theorem Dats.take : ∀ {ms : List MV} {vs : List V} (n : Nat), Dats K W H ms vs → Dats K W H (ms.take n) (vs.take n)
  | _, _, 0, _ => .nil
  | _, _, _ + 1, .nil => .nil
  | _, _, n + 1, .cons d r => .cons d (Dats.take n r)
theorem Dats.drop : ∀ {ms : List MV} {vs : List V} (n : Nat), Dats K W H ms vs → Dats K W H (ms.drop n) (vs.drop n)
  | _, _, 0, r => r
  | _, _, _ + 1, .nil => .nil
  | _, _, n + 1, .cons _ r => Dats.drop n r
theorem Dats.dropLast {ms : List MV} {vs : List V} (h : Dats K W H ms vs) : Dats K W H ms.dropLast vs.dropLast := by
  rw [List.dropLast_eq_take, List.dropLast_eq_take, h.length]
  exact h.take _
theorem Dats.reverse : ∀ {ms : List MV} {vs : List V}, Dats K W H ms vs → Dats K W H ms.reverse vs.reverse
  | _, _, .nil => .nil
  | _, _, .cons d r => by
    rw [List.reverse_cons, List.reverse_cons]
    exact (Dats.reverse r).append (.cons d .nil)
theorem Dats.set {m : MV} {v : V} (d : Dat K W H m v) : ∀ {ms : List MV} {vs : List V} (i : Nat), Dats K W H ms vs → Dats K W H (ms.set i m) (vs.set i v)
  | _, _, _, .nil => .nil
  | _, _, 0, .cons _ r => .cons d r
  | _, _, i + 1, .cons q r => .cons q (Dats.set d i r)

/-- what stands in an own thing -/
inductive Held (K : PySem.W.Frag) (W : AP) (H : Hp) : MV → HO → Prop
  | lst {ms : List MV} {xs : List V} : Dats K W H ms xs → Held K W H (.lst ms) (.lst xs)
  | dk {kvs : List (MV × MV)} {ks : List (Key × V)} : Datp K W H kvs ks → Held K W H (.dic kvs) (.dK ks)
  | dt {kvs : List (MV × MV)} {ks : List (List Key × V)} : Datt K W H kvs ks → Held K W H (.dic kvs) (.dT ks)
theorem Held.keep {m : MV} {o : HO} (h : Held K W H m o) (k : Keeps W H W' H') : Held K W' H' m o := by
  cases h with
  | lst d => exact .lst (d.keep k)
  | dk d => exact .dk (d.keep k)
  | dt d => exact .dt (d.keep k)
theorem Held.notbl {m : MV} {o : HO} (h : Held K W H m o) : ∀ ps, o ≠ .tbl ps := by
  cases h <;> exact fun ps z => nomatch z
/-- an own list (dict) at a -/
def Own (K : PySem.W.Frag) (W : AP) (H : Hp) (m : MV) (a : Addr) : Prop := W a ∧ ∃ o, H a = some o ∧ Held K W H m o
theorem Own.keep {m : MV} {a : Addr} (o : Own K W H m a) (k : Keeps W H W' H') (hw : W' a) (hh : H' a = H a) : Own K W' H' m a := by
  obtain ⟨_, u, h, d⟩ := o
  exact ⟨hw, u, hh.trans h, d.keep k⟩
def SlOk (K : PySem.W.Frag) (G : AP) (pin : Nat → Option Addr) (W : AP) (σ : L2.St) (H : Hp) (i : Nat) : Sl → Prop
  | .no => True
  | .sh m => ∃ v, σ[i]? = some (some v) ∧ Dat K W H m v
  | .ow m => ∃ a, σ[i]? = some (some (.ref a)) ∧ Own K W H m a ∧ ¬ G a
  | .io m => ∃ a, σ[i]? = some (some (.ref a)) ∧ Own K W H m a ∧ ¬ G a ∧ pin i = some a
/-- what W may hold: no table of code, no code object -/
def Mo (o : HO) : Prop := (∀ ps, o ≠ .tbl ps) ∧ ∀ φ, o ≠ .ext φ
theorem mo_lst {xs : List V} : Mo (.lst xs) := ⟨(fun _ z => nomatch z), (fun _ z => nomatch z)⟩
theorem mo_dK {ks : List (Key × V)} : Mo (.dK ks) := ⟨(fun _ z => nomatch z), (fun _ z => nomatch z)⟩
theorem mo_dT {ks : List (List Key × V)} : Mo (.dT ks) := ⟨(fun _ z => nomatch z), (fun _ z => nomatch z)⟩
/-- beside the slots: tables of code; of a lambda at work its code object, what it captured -/
structure Tb where
  t : List (Addr × Str)
  cd : List (Addr × Str)
  vs : List (V × MV)
structure TbOk (K : PySem.W.Frag) (T : Tb) (W : AP) (H : Hp) : Prop where
  tb : LamX.Tabs T.t H
  cd : ∀ p ∈ T.cd, ¬ W p.1 ∧ H p.1 = some (LamX.CodeO p.1 p.2)
  vs : ∀ p ∈ T.vs, Dat K W H p.2 p.1
theorem TbOk.step {T : Tb} (h : TbOk K T W H) (k : Keeps W H W' H') (tb : LamX.Tabs T.t H') : TbOk K T W' H' :=
  ⟨tb, fun p hp => let ⟨n, e⟩ := h.cd p hp; k.fr _ _ e n LamX.codeO_ne, fun p hp => (h.vs p hp).keep k⟩
/-- slots as data -/
structure RS (K : PySem.W.Frag) (T : Tb) (G : AP) (pin : Nat → Option Addr) (W : AP) (σ : L2.St) (H : Hp) (ρ : Rho) : Prop where
  len : ρ.length = σ.length
  sl : ∀ (i : Nat) (s : Sl), ρ[i]? = some s → SlOk K G pin W σ H i s
  dis : ∀ (i j : Nat) (s t : Sl) (a : Addr), ρ[i]? = some s → ρ[j]? = some t → s.own = true → t.own = true → σ[i]? = some (some (V.ref a)) → σ[j]? = some (some (V.ref a)) → i = j
  wok : ∀ a, W a → ∃ o, H a = some o ∧ Mo o
  gok : ∀ a, G a → W a
  tabs : TbOk K T W H
end
section
variable {K : PySem.W.Frag} {T : Tb} {G W W' : AP} {pin : Nat → Option Addr} {σ : L2.St} {H H' : Hp} {ρ : Rho}
theorem SlOk.at_ {i : Nat} {s : Sl} (h : SlOk K G pin W σ H i s) (o : s.own = true) : ∃ a m, σ[i]? = some (some (.ref a)) ∧ Own K W H m a ∧ ¬ G a ∧ (s = .ow m ∨ (s = .io m ∧ pin i = some a)) := by
  cases s with
  | no => cases o
  | sh m => cases o
  | ow m => obtain ⟨a, h1, h2, h3⟩ := h; exact ⟨a, m, h1, h2, h3, .inl rfl⟩
  | io m => obtain ⟨a, h1, h2, h3, h4⟩ := h; exact ⟨a, m, h1, h2, h3, .inr ⟨rfl, h4⟩⟩
/-- the same slots in another heap: data keep, own lists stand -/
theorem RS.mono (r : RS K T G pin W σ H ρ) (s : Step G W H W' H') (ho : ∀ (i : Nat) (t : Sl) (a : Addr), ρ[i]? = some t → t.own = true → σ[i]? = some (some (V.ref a)) → W' a ∧ H' a = H a) (wok : ∀ a, W' a → ∃ o, H' a = some o ∧ Mo o) (tb : LamX.Tabs T.t H') :
    RS K T G pin W' σ H' ρ := by
  refine ⟨r.len, fun i t e => ?_, r.dis, wok, fun a g => ?_, r.tabs.step s.keeps tb⟩
  · have q := r.sl i t e
    cases t with
    | no => trivial
    | sh m => obtain ⟨v, h1, h2⟩ := q; exact ⟨v, h1, h2.keep s.keeps⟩
    | ow m =>
      obtain ⟨a, h1, h2, h3⟩ := q
      obtain ⟨w, hh⟩ := ho i _ a e rfl h1
      exact ⟨a, h1, h2.keep s.keeps w hh, h3⟩
    | io m =>
      obtain ⟨a, h1, h2, h3, h4⟩ := q
      obtain ⟨w, hh⟩ := ho i _ a e rfl h1
      exact ⟨a, h1, h2.keep s.keeps w hh, h3, h4⟩
  · obtain ⟨o, e, eo⟩ := r.wok a (r.gok a g)
    exact (s.gd a o g e eo.1).2
def RvOk (K : PySem.W.Frag) (G W : AP) (σ : L2.St) (H : Hp) (ρ : Rho) : RV → V → Prop
  | .v m, v => Dat K W H m v
  | .o m, v => ∃ a, v = .ref a ∧ Own K W H m a ∧ ¬ G a ∧ ∀ (i : Nat) (s : Sl), ρ[i]? = some s → s.own = true → σ[i]? ≠ some (some (V.ref a))
  | .b i, v => σ[i]? = some (some v) ∧ ∃ s, ρ[i]? = some s
/-- what can be read as data -/
def Rdb (K : PySem.W.Frag) (W : AP) (H : Hp) (m : MV) (v : V) : Prop := Dat K W H m v ∨ ∃ a, v = .ref a ∧ Own K W H m a
def Sl.mv : Sl → Option MV
  | .no => none
  | .sh m => some m
  | .ow m => some m
  | .io m => some m
def cont (ρ : Rho) : RV → Option MV
  | .v m => some m
  | .o m => some m
  | .b i => (ρ[i]?).bind Sl.mv
theorem cont_ok (r : RS K T G pin W σ H ρ) {rv : RV} {v : V} {m : MV} (h : RvOk K G W σ H ρ rv v) (e : cont ρ rv = some m) : Rdb K W H m v := by
  cases rv with
  | v x => cases e; exact .inl h
  | o x =>
    cases e
    obtain ⟨a, h1, h2, _⟩ := h
    exact .inr ⟨a, h1, h2⟩
  | b i =>
    obtain ⟨h1, s, h2⟩ := h
    have q := r.sl i s h2
    replace e : (ρ[i]?).bind Sl.mv = some m := e
    rw [h2] at e
    cases s with
    | no => cases e
    | sh x =>
      cases e
      obtain ⟨u, h3, h4⟩ := q
      rw [h1] at h3
      cases h3
      exact .inl h4
    | ow x =>
      cases e
      obtain ⟨a, h3, h4, _⟩ := q
      rw [h1] at h3
      cases h3
      exact .inr ⟨a, rfl, h4⟩
    | io x =>
      cases e
      obtain ⟨a, h3, h4, _⟩ := q
      rw [h1] at h3
      cases h3
      exact .inr ⟨a, rfl, h4⟩
theorem Rdb.int {i : Int} {v : V} (h : Rdb K W H (.int i) v) : v = .int i := by
  rcases h with h | ⟨a, _, _, o, _, e⟩
  · cases h; rfl
  · cases e
theorem Rdb.bl {b : Bool} {v : V} (h : Rdb K W H (.bl b) v) : v = .bl b := by
  rcases h with h | ⟨a, _, _, o, _, e⟩
  · cases h; rfl
  · cases e
theorem Rdb.str {x : Str} {v : V} (h : Rdb K W H (.str x) v) : v = .str x := by
  rcases h with h | ⟨a, _, _, o, _, e⟩
  · cases h; rfl
  · cases e
theorem Rdb.non {v : V} (h : Rdb K W H .non v) : v = .non := by
  rcases h with h | ⟨a, _, _, o, _, e⟩
  · cases h; rfl
  · cases e
theorem hn_seqT {a : Addr} {xs : List V} (h : SqT K HN a xs) : SqT K H a xs := by
  rcases h with (h | ⟨o, h⟩) | h
  · cases h
  · cases h
  · exact .inr h
theorem TpD.sq {a : Addr} {xs : List V} (h : TpD K W H a xs) : SqT K H a xs := by
  rcases h with ⟨_, h⟩ | h
  · exact .inl (.inl h)
  · exact hn_seqT h
theorem Rdb.tup {ms : List MV} {v : V} (h : Rdb K W H (.tup ms) v) : ∃ a xs, v = .ref a ∧ SqT K H a xs ∧ Dats K W H ms xs := by
  rcases h with h | ⟨a, _, _, o, _, e⟩
  · cases h with
    | tup t d => exact ⟨_, _, rfl, t.sq, d⟩
  · cases e
theorem Rdb.lst {ms : List MV} {v : V} (h : Rdb K W H (.lst ms) v) : ∃ a xs, v = .ref a ∧ H a = some (.lst xs) ∧ Dats K W H ms xs := by
  rcases h with h | ⟨a, rfl, _, o, h, d⟩
  · cases h with
    | lst n h d => exact ⟨_, _, rfl, h, d⟩
  · cases d with
    | lst d => exact ⟨a, _, rfl, h, d⟩
/-- an own list is let go: it stays as it is from now on -/
def less (W : AP) (a : Addr) : AP := fun b => W b ∧ b ≠ a
theorem step_less (gok : ∀ a, G a → W a) {a : Addr} (ng : ¬ G a) : Step G W H (less W a) H :=
  ⟨fun b o h n _ => ⟨fun q => n q.1, h⟩, fun b o g h _ => ⟨h, gok b g, fun e => ng (e ▸ g)⟩⟩
theorem RS.less (r : RS K T G pin W σ H ρ) {a : Addr} (ng : ¬ G a) (hn : ∀ (i : Nat) (t : Sl), ρ[i]? = some t → t.own = true → σ[i]? ≠ some (some (V.ref a))) : RS K T G pin (less W a) σ H ρ := by
  refine r.mono (step_less r.gok ng) (fun i t b e o q => ⟨?_, rfl⟩) (fun b w => r.wok b w.1) r.tabs.tb
  obtain ⟨c, m, h1, h2, _⟩ := (r.sl i t e).at_ o
  rw [q] at h1
  cases h1
  exact ⟨h2.1, fun z => hn i t e o (by rw [q, z])⟩
theorem own_dat {m : MV} {a : Addr} (gok : ∀ a, G a → W a) (ng : ¬ G a) (o : Own K W H m a) : Dat K (DL.less W a) H m (.ref a) := by
  obtain ⟨_, u, h, d⟩ := o
  cases d with
  | lst d => exact .lst (fun q => q.2 rfl) h (d.keep (step_less (H := H) gok ng).keeps)
  | dk d => exact .dk (fun q => q.2 rfl) h (d.keep (step_less (H := H) gok ng).keeps)
  | dt d => exact .dt (fun q => q.2 rfl) h (d.keep (step_less (H := H) gok ng).keeps)
/-- a new list at hand is shared -/
def hold : RV → RV
  | .o m => .v m
  | r => r
theorem hold_ok (r : RS K T G pin W σ H ρ) {rv : RV} {v : V} (h : RvOk K G W σ H ρ rv v) : ∃ W', Step G W H W' H ∧ RS K T G pin W' σ H ρ ∧ RvOk K G W' σ H ρ (hold rv) v := by
  cases rv with
  | v m => exact ⟨W, Step.refl _ _ _ r.gok, r, h⟩
  | b i => exact ⟨W, Step.refl _ _ _ r.gok, r, h⟩
  | o m =>
    obtain ⟨a, rfl, ho, ng, hn⟩ := h
    exact ⟨DL.less W a, step_less r.gok ng, r.less ng hn, own_dat r.gok ng ho⟩
/-- as shared data; an own slot is let go -/
def shr (ρ : Rho) : RV → Res MV
  | .v m => .ok m ρ
  | .o m => .ok m ρ
  | .b i => match ρ[i]? with
    | some (.sh m) => .ok m ρ
    | some (.ow m) => .ok m (ρ.set i (.sh m))
    | _ => .bad
theorem shr_ok (r : RS K T G pin W σ H ρ) {rv : RV} {v : V} (h : RvOk K G W σ H ρ rv v) {m : MV} {ρ' : Rho} (e : shr ρ rv = .ok m ρ') : ∃ W', Step G W H W' H ∧ RS K T G pin W' σ H ρ' ∧ Dat K W' H m v := by
  cases rv with
  | v x => cases e; exact ⟨W, Step.refl _ _ _ r.gok, r, h⟩
  | o x =>
    cases e
    obtain ⟨a, rfl, ho, ng, hn⟩ := h
    exact ⟨DL.less W a, step_less r.gok ng, r.less ng hn, own_dat r.gok ng ho⟩
  | b i =>
    obtain ⟨h1, s, h2⟩ := h
    have q := r.sl i s h2
    simp only [shr, h2] at e
    cases s with
    | no => cases e
    | io x => cases e
    | sh x =>
      cases e
      obtain ⟨u, h3, h4⟩ := q
      rw [h1] at h3
      cases h3
      exact ⟨W, Step.refl _ _ _ r.gok, r, h4⟩
    | ow x =>
      cases e
      obtain ⟨a, h3, h4, ng⟩ := q
      rw [h1] at h3
      cases h3
      have st := step_less (H := H) r.gok ng
      have hi : i < ρ.length := (List.getElem?_eq_some_iff.mp h2).1
      have da := own_dat r.gok ng h4
      refine ⟨DL.less W a, st, ⟨by rw [List.length_set]; exact r.len, fun j t e => ?_, fun j k s t b ej ek oj ok qj qk => ?_, fun b w => r.wok b w.1, fun b g => ⟨r.gok b g, fun z => ng (z ▸ g)⟩, r.tabs.step st.keeps r.tabs.tb⟩, da⟩
      · by_cases hj : j = i
        · subst hj
          rw [List.getElem?_set_self hi] at e
          cases e
          exact ⟨_, h1, da⟩
        · rw [List.getElem?_set_ne (Ne.symm hj)] at e
          have q := r.sl j t e
          cases t with
          | no => trivial
          | sh y => obtain ⟨u, q1, q2⟩ := q; exact ⟨u, q1, q2.keep st.keeps⟩
          | ow y =>
            obtain ⟨c, q1, q2, q3⟩ := q
            exact ⟨c, q1, q2.keep st.keeps ⟨q2.1, fun z => hj (r.dis j i _ _ a e h2 rfl rfl (by rw [q1, z]) h1)⟩ rfl, q3⟩
          | io y =>
            obtain ⟨c, q1, q2, q3, q4⟩ := q
            exact ⟨c, q1, q2.keep st.keeps ⟨q2.1, fun z => hj (r.dis j i _ _ a e h2 rfl rfl (by rw [q1, z]) h1)⟩ rfl, q3, q4⟩
      · have back : ∀ (l : Nat) (t : Sl), (ρ.set i (Sl.sh m))[l]? = some t → t.own = true → ρ[l]? = some t := fun l t e o => by
          by_cases hl : l = i
          · subst hl
            rw [List.getElem?_set_self hi] at e
            cases e
            cases o
          · rw [List.getElem?_set_ne (Ne.symm hl)] at e
            exact e
        exact r.dis j k s t b (back j s ej oj) (back k t ek ok) oj ok qj qk
end
end DL
namespace DL
open PySem PySem.Spec L2

/-! ### judgements -/
def ExOk (K : PySem.W.Frag) (mg : Str → Option Value) (W : AP) (H : Hp) (x : Exn) (cls : Value) (d : Option Addr) : Prop :=
  ∃ C, mg x.cls = some (.ref C) ∧ cls = .ref C ∧ match x.arg with
    | none => d = none
    | some m => ∃ dd n v, d = some dd ∧ H dd = some (.xd [(n, v)]) ∧ ¬ W dd ∧ Dat K W H m v
abbrev Rel (α β : Type) := AP → Hp → Rho → α → β → Prop
def Wp (X : Cx) (T : Tb) (Wx : WX) (G : AP) (pin : Nat → Option Addr) (W : AP) (σ : L2.St) (H : Hp) {α β : Type} (rel : Rel α β) (Q : β → Hp → Prop) : Res α → Prop
  | .ok a ρ' => ∀ W' H' b, Step G W H W' H' → RS X.K T G pin W' σ H' ρ' → rel W' H' ρ' a b → Q b H'
  | .ex x ρ' => ∀ W' H' cls d, Step G W H W' H' → RS X.K T G pin W' σ H' ρ' → ExOk X.K X.mg W' H' x cls d → Wx cls d σ H'
  | .bad => False
def WpS (X : Cx) (T : Tb) (Wx : WX) (G : AP) (pin : Nat → Option Addr) (W : AP) (H : Hp) (D : Ends) : SRes → Prop
  | .nx ρ' => ∀ W' H' σ', Step G W H W' H' → RS X.K T G pin W' σ' H' ρ' → D.nx σ' H'
  | .bk ρ' => ∀ W' H' σ', Step G W H W' H' → RS X.K T G pin W' σ' H' ρ' → D.bk σ' H'
  | .ct ρ' => ∀ W' H' σ', Step G W H W' H' → RS X.K T G pin W' σ' H' ρ' → D.ct σ' H'
  | .rt r ρ' => ∀ W' H' σ' v, Step G W H W' H' → RS X.K T G pin W' σ' H' ρ' → RvOk X.K G W' σ' H' ρ' r v → D.rt v H'
  | .ex x ρ' => ∀ W' H' σ' cls d, Step G W H W' H' → RS X.K T G pin W' σ' H' ρ' → ExOk X.K X.mg W' H' x cls d → Wx cls d σ' H'
  | .bad => False
abbrev rE (X : Cx) (G : AP) (σ : L2.St) : Rel RV V := fun W H ρ r v => RvOk X.K G W σ H ρ r v
abbrev rB : Rel Bool Bool := fun _ _ _ a b => a = b
/-- held: no new list at hand -/
def RV.held : RV → Bool
  | .o _ => false
  | _ => true
inductive RvsOk (K : PySem.W.Frag) (G W : AP) (σ : L2.St) (H : Hp) (ρ : Rho) : List RV → List V → Prop
  | nil : RvsOk K G W σ H ρ [] []
  | cons {r : RV} {rs : List RV} {v : V} {vs : List V} : r.held = true → RvOk K G W σ H ρ r v → RvsOk K G W σ H ρ rs vs → RvsOk K G W σ H ρ (r :: rs) (v :: vs)
abbrev rA (X : Cx) (G : AP) (σ : L2.St) : Rel (List RV) (List V) := fun W H ρ r v => RvsOk X.K G W σ H ρ r v
section
variable (X : Cx) (T : Tb) (Wx : WX)
structure QE (e : Expr) (f : Rho → Res RV) : Prop where
  run : ∀ (G : AP) (pin : Nat → Option Addr), PE X e (fun σ H Q => ∃ W ρ, RS X.K T G pin W σ H ρ ∧ Wp X T Wx G pin W σ H (rE X G σ) Q (f ρ))
structure QT (e : Expr) (f : Rho → Res Bool) : Prop where
  run : ∀ (G : AP) (pin : Nat → Option Addr), PT X e (fun σ H Q => ∃ W ρ, RS X.K T G pin W σ H ρ ∧ Wp X T Wx G pin W σ H rB Q (f ρ))
structure QW (e : Expr) (f : Rho → Res Bool) : Prop where
  run : ∀ (G : AP) (pin : Nat → Option Addr), PW X e (fun σ H Q => ∃ W ρ, RS X.K T G pin W σ H ρ ∧ Wp X T Wx G pin W σ H rB Q (f ρ))
structure QA (es : List Expr) (f : Rho → Res (List RV)) : Prop where
  run : ∀ (G : AP) (pin : Nat → Option Addr), PA X es (fun σ H Q => ∃ W ρ, RS X.K T G pin W σ H ρ ∧ Wp X T Wx G pin W σ H (rA X G σ) Q (f ρ))
structure QS (st : Stmt) (g : Rho → SRes) : Prop where
  run : ∀ (G : AP) (pin : Nat → Option Addr), PS X st (fun D σ H => ∃ W ρ, RS X.K T G pin W σ H ρ ∧ WpS X T Wx G pin W H D (g ρ))
structure QSs (st : List Stmt) (g : Rho → SRes) : Prop where
  run : ∀ (G : AP) (pin : Nat → Option Addr), PSs X st (fun D σ H => ∃ W ρ, RS X.K T G pin W σ H ρ ∧ WpS X T Wx G pin W H D (g ρ))
end
theorem PE.imp {X : Cx} {e : Expr} {t t' : TE} (h : PE X e t) (i : ∀ σ H Q, t' σ H Q → t σ H Q) : PE X e t' := ⟨fun pins s σ H Q I w => h.run pins s σ H Q I (i σ H Q w)⟩
theorem PT.imp {X : Cx} {e : Expr} {t t' : TT} (h : PT X e t) (i : ∀ σ H Q, t' σ H Q → t σ H Q) : PT X e t' := ⟨fun pins s σ H Q I w => h.run pins s σ H Q I (i σ H Q w)⟩
theorem PW.imp {X : Cx} {e : Expr} {t t' : TT} (h : PW X e t) (i : ∀ σ H Q, t' σ H Q → t σ H Q) : PW X e t' := ⟨fun wh pins s σ H Q I w => h.run wh pins s σ H Q I (i σ H Q w)⟩
theorem PA.imp {X : Cx} {e : List Expr} {t t' : TA} (h : PA X e t) (i : ∀ σ H Q, t' σ H Q → t σ H Q) : PA X e t' := ⟨fun pos pins s σ H Q I w => h.run pos pins s σ H Q I (i σ H Q w)⟩
theorem PS.imp {X : Cx} {e : Stmt} {t t' : TS} (h : PS X e t) (i : ∀ D σ H, t' D σ H → t D σ H) : PS X e t' := ⟨fun pins s σ H D I w => h.run pins s σ H D I (i D σ H w)⟩
theorem PSs.imp {X : Cx} {e : List Stmt} {t t' : TS} (h : PSs X e t) (i : ∀ D σ H, t' D σ H → t D σ H) : PSs X e t' := ⟨fun pins s σ H D I w => h.run pins s σ H D I (i D σ H w)⟩

section
variable {X : Cx} {T : Tb} {Wx : WX} {G : AP} {pin : Nat → Option Addr} {W W' : AP} {σ : L2.St} {H H' : Hp} {ρ ρ' : Rho}
theorem Wp.shift {α β : Type} {rel : Rel α β} {Q : β → Hp → Prop} {r : Res α} (s : Step G W H W' H') (h : Wp X T Wx G pin W σ H rel Q r) : Wp X T Wx G pin W' σ H' rel Q r := by
  cases r with
  | ok a ρ => exact fun W2 H2 b s2 r2 q => h W2 H2 b (s.trans s2) r2 q
  | ex x ρ => exact fun W2 H2 c d s2 r2 q => h W2 H2 c d (s.trans s2) r2 q
  | bad => exact h
theorem WpS.shift {D : Ends} {r : SRes} (s : Step G W H W' H') (h : WpS X T Wx G pin W H D r) : WpS X T Wx G pin W' H' D r := by
  cases r with
  | nx ρ => exact fun W2 H2 σ2 s2 r2 => h W2 H2 σ2 (s.trans s2) r2
  | bk ρ => exact fun W2 H2 σ2 s2 r2 => h W2 H2 σ2 (s.trans s2) r2
  | ct ρ => exact fun W2 H2 σ2 s2 r2 => h W2 H2 σ2 (s.trans s2) r2
  | rt r ρ => exact fun W2 H2 σ2 v s2 r2 q => h W2 H2 σ2 v (s.trans s2) r2 q
  | ex x ρ => exact fun W2 H2 σ2 c d s2 r2 q => h W2 H2 σ2 c d (s.trans s2) r2 q
  | bad => exact h
theorem Wp.bind {α β α' β' : Type} {rel : Rel α β} {rel' : Rel α' β'} {Q : β → Hp → Prop} {Q' : β' → Hp → Prop} {r : Res α} {k : α → Rho → Res α'} (h : Wp X T Wx G pin W σ H rel' Q' (r.bind k))
    (h1 : ∀ a ρ' W' H' b, Step G W H W' H' → RS X.K T G pin W' σ H' ρ' → rel W' H' ρ' a b → Wp X T Wx G pin W' σ H' rel' Q' (k a ρ') → Q b H') : Wp X T Wx G pin W σ H rel Q r := by
  cases r with
  | ok a ρ => exact fun W2 H2 b s2 r2 q => h1 a ρ W2 H2 b s2 r2 q (Wp.shift s2 h)
  | ex x ρ => exact h
  | bad => exact h
theorem Wp.bindS {α β : Type} {rel : Rel α β} {Q : β → Hp → Prop} {D : Ends} {r : Res α} {k : α → Rho → SRes} (h : WpS X T Wx G pin W H D (r.toS k))
    (h1 : ∀ a ρ' W' H' b, Step G W H W' H' → RS X.K T G pin W' σ H' ρ' → rel W' H' ρ' a b → WpS X T Wx G pin W' H' D (k a ρ') → Q b H') : Wp X T Wx G pin W σ H rel Q r := by
  cases r with
  | ok a ρ => exact fun W2 H2 b s2 r2 q => h1 a ρ W2 H2 b s2 r2 q (WpS.shift s2 h)
  | ex x ρ => exact fun W2 H2 c d s2 r2 q => h W2 H2 σ c d s2 r2 q
  | bad => exact h
theorem WpS.seq {D : Ends} {r : SRes} {k : Rho → SRes} {N : L2.St → Hp → Prop} (h : WpS X T Wx G pin W H D (r.seq k))
    (h1 : ∀ ρ' W' H' σ', Step G W H W' H' → RS X.K T G pin W' σ' H' ρ' → WpS X T Wx G pin W' H' D (k ρ') → N σ' H') : WpS X T Wx G pin W H { D with nx := N } r := by
  cases r with
  | nx ρ => exact fun W2 H2 σ2 s2 r2 => h1 ρ W2 H2 σ2 s2 r2 (WpS.shift s2 h)
  | bk ρ => exact h
  | ct ρ => exact h
  | rt r ρ => exact h
  | ex x ρ => exact h
  | bad => exact h
theorem RvOk.held {r : RV} {v : V} (hh : r.held = true) (h : RvOk X.K G W σ H ρ r v) (s : Step G W H W' H') (rs : RS X.K T G pin W' σ H' ρ') : RvOk X.K G W' σ H' ρ' r v := by
  cases r with
  | v m => exact Dat.keep s.keeps h
  | o m => cases hh
  | b i =>
    obtain ⟨h1, _⟩ := h
    have hi : i < ρ'.length := by
      rw [rs.len]
      exact (List.getElem?_eq_some_iff.mp h1).1
    exact ⟨h1, ρ'[i], List.getElem?_eq_getElem hi⟩
theorem RvsOk.step : ∀ {r : List RV} {v : List V}, RvsOk X.K G W σ H ρ r v → Step G W H W' H' → RS X.K T G pin W' σ H' ρ' → RvsOk X.K G W' σ H' ρ' r v
  | _, _, .nil, _, _ => .nil
  | _, _, .cons a b c, s, rs => .cons a (b.held a s rs) (RvsOk.step c s rs)
theorem hold_held (r : RV) : (hold r).held = true := by cases r <;> rfl

/-! ### what comes of an operation: shared data, a new list, a new tuple -/
def more (W : AP) (p : Addr) : AP := fun b => W b ∨ b = p
theorem tabs_new {T : List (Addr × Str)} {p : Addr} {o : HO} (hp : H p = none) (t : LamX.Tabs T H) : LamX.Tabs T (upd H p o) := t.ext fun b u e => by
  rw [upd_ne (ne_of_none e hp)]
  exact e
theorem RS.ng (r : RS X.K T G pin W σ H ρ) {p : Addr} (hp : H p = none) : ¬ W p := fun w => by
  obtain ⟨o, e, _⟩ := r.wok p w
  rw [hp] at e
  cases e
theorem RS.own_at (r : RS X.K T G pin W σ H ρ) {i : Nat} {s : Sl} {a : Addr} (e : ρ[i]? = some s) (o : s.own = true) (q : σ[i]? = some (some (V.ref a))) : ¬ G a ∧ ∃ m, Own X.K W H m a ∧ (s = .ow m ∨ (s = .io m ∧ pin i = some a)) := by
  obtain ⟨b, m, h1, h2, h3, h4⟩ := (r.sl i s e).at_ o
  rw [q] at h1
  cases h1
  exact ⟨h3, m, h2, h4⟩
theorem step_new (r : RS X.K T G pin W σ H ρ) {p : Addr} {o : HO} (hp : H p = none) : Step G W H W (upd H p o) :=
  ⟨fun a u e n _ => ⟨n, by rw [upd_ne (ne_of_none e hp)]; exact e⟩, fun a u g e _ => ⟨by rw [upd_ne (ne_of_none e hp)]; exact e, r.gok a g⟩⟩
theorem step_newW (r : RS X.K T G pin W σ H ρ) {p : Addr} {o : HO} (hp : H p = none) : Step G W H (more W p) (upd H p o) :=
  ⟨fun a u e n _ => ⟨fun q => q.elim n (ne_of_none e hp), by rw [upd_ne (ne_of_none e hp)]; exact e⟩, fun a u g e _ => ⟨by rw [upd_ne (ne_of_none e hp)]; exact e, .inl (r.gok a g)⟩⟩
theorem RS.new (r : RS X.K T G pin W σ H ρ) {p : Addr} {o : HO} (hp : H p = none) : RS X.K T G pin W σ (upd H p o) ρ := by
  refine r.mono (step_new r hp) (fun i t a e ho q => ?_) (fun a w => ?_) (tabs_new hp r.tabs.tb)
  · obtain ⟨_, m, hO, _⟩ := r.own_at e ho q
    exact ⟨hO.1, upd_ne fun z : a = p => r.ng hp (z ▸ hO.1)⟩
  · rw [upd_ne fun z : a = p => r.ng hp (z ▸ w)]
    exact r.wok a w
theorem RS.newW (r : RS X.K T G pin W σ H ρ) {p : Addr} {o : HO} (hp : H p = none) (ho : Mo o := by exact ⟨(fun _ z => nomatch z), (fun _ z => nomatch z)⟩) : RS X.K T G pin (more W p) σ (upd H p o) ρ := by
  refine r.mono (step_newW r hp) (fun i t a e ho q => ?_) (fun a w => ?_) (tabs_new hp r.tabs.tb)
  · obtain ⟨_, m, hO, _⟩ := r.own_at e ho q
    exact ⟨.inl hO.1, upd_ne fun z : a = p => r.ng hp (z ▸ hO.1)⟩
  · rcases w with w | rfl
    · rw [upd_ne fun z : a = p => r.ng hp (z ▸ w)]
      exact r.wok a w
    · exact ⟨_, upd_same, ho⟩
theorem new_tup (r : RS X.K T G pin W σ H ρ) {p : Addr} {xs : List V} {ms : List MV} (hp : H p = none) (d : Dats X.K W H ms xs) : RvOk X.K G W σ (upd H p (.tup xs)) ρ (.v (.tup ms)) (.ref p) :=
  .tup (.inl ⟨r.ng hp, upd_same⟩) (d.keep (step_new r hp).keeps)
theorem new_own (r : RS X.K T G pin W σ H ρ) {p : Addr} {o : HO} {m : MV} (hp : H p = none) (d : Held X.K W H m o) : RvOk X.K G (more W p) σ (upd H p o) ρ (.o m) (.ref p) := by
  refine ⟨p, rfl, ⟨.inr rfl, o, upd_same, d.keep (step_newW r hp).keeps⟩, fun g => r.ng hp (r.gok p g), fun i s e ho q => ?_⟩
  obtain ⟨_, m, hO, _⟩ := r.own_at e ho q
  exact r.ng hp hO.1
theorem new_lst (r : RS X.K T G pin W σ H ρ) {p : Addr} {xs : List V} {ms : List MV} (hp : H p = none) (d : Dats X.K W H ms xs) : RvOk X.K G (more W p) σ (upd H p (.lst xs)) ρ (.o (.lst ms)) (.ref p) := new_own r hp (.lst d)
/-- the continuation of an operation that gives rv -/
abbrev Kont (X : Cx) (T : Tb) (G : AP) (pin : Nat → Option Addr) (W : AP) (σ : L2.St) (H : Hp) (ρ : Rho) (rv : RV) (Q : VK) : Prop := ∀ W' H' b, Step G W H W' H' → RS X.K T G pin W' σ H' ρ → RvOk X.K G W' σ H' ρ rv b → Q b H'
theorem Kont.fin {rv : RV} {v : V} {Q : VK} (k : Kont X T G pin W σ H ρ rv Q) (r : RS X.K T G pin W σ H ρ) (h : RvOk X.K G W σ H ρ rv v) : Q v H := k W H v (Step.refl _ _ _ r.gok) r h
theorem Kont.tup {ms : List MV} {xs : List V} {p : Addr} {Q : VK} (k : Kont X T G pin W σ H ρ (.v (.tup ms)) Q) (r : RS X.K T G pin W σ H ρ) (hp : H p = none) (d : Dats X.K W H ms xs) : Q (.ref p) (upd H p (.tup xs)) :=
  k W _ _ (step_new r hp) (r.new hp) (new_tup r hp d)
theorem Kont.lst {ms : List MV} {xs : List V} {p : Addr} {Q : VK} (k : Kont X T G pin W σ H ρ (.o (.lst ms)) Q) (r : RS X.K T G pin W σ H ρ) (hp : H p = none) (d : Dats X.K W H ms xs) : Q (.ref p) (upd H p (.lst xs)) :=
  k (more W p) _ _ (step_newW r hp) (r.newW hp) (new_lst r hp d)

/-! ### names and constants -/
def fName (i : Nat) : Rho → Res RV := fun ρ => match ρ[i]? with
  | some (.sh _) => .ok (.b i) ρ
  | some (.ow _) => .ok (.b i) ρ
  | some (.io _) => .ok (.b i) ρ
  | _ => .bad
theorem qe_name (i : Nat) {x : Str} {pos : Pos} (hN : X.N[i]? = some x := by rfl) (hv : Vis X.env.scope x := by first | exact Or.inl rfl | exact Or.inr (Or.inl rfl) | exact Or.inr (Or.inr rfl)) (hd : (x == ("__debug__" : Str)) = false := by decide)
    (hcd : (x == ("__classdict__" : Str)) = false := by decide) : QE X T Wx (.Name x pos) (fName i) := by
  refine ⟨fun G pin => PE.imp (pe_var hN hv hd hcd) fun σ H Q ⟨W, ρ, r, h⟩ => ?_⟩
  unfold fName at h
  cases e : ρ[i]? with
  | none => rw [e] at h; exact h.elim
  | some s =>
    rw [e] at h
    have q := r.sl i s e
    cases s with
    | no => exact h.elim
    | sh m => obtain ⟨v, h1, _⟩ := q; exact ⟨v, h1, h W H v (Step.refl _ _ _ r.gok) r ⟨h1, _, e⟩⟩
    | ow m => obtain ⟨a, h1, _⟩ := q; exact ⟨_, h1, h W H _ (Step.refl _ _ _ r.gok) r ⟨h1, _, e⟩⟩
    | io m => obtain ⟨a, h1, _⟩ := q; exact ⟨_, h1, h W H _ (Step.refl _ _ _ r.gok) r ⟨h1, _, e⟩⟩
def fC (m : MV) : Rho → Res RV := fun ρ => .ok (.v m) ρ
theorem qe_c {e : Expr} {v : V} {m : MV} (h : PE X e (tC v)) (d : ∀ W H, Dat X.K W H m v) : QE X T Wx e (fC m) :=
  ⟨fun G pin => PE.imp h fun σ H Q ⟨W, ρ, r, h⟩ => h W H v (Step.refl _ _ _ r.gok) r (d W H)⟩
theorem qe_int {i j pos} : QE X T Wx (.Constant (.int i) j pos) (fC (.int i)) := qe_c pe_int fun _ _ => .int i
theorem qe_bl {i j pos} : QE X T Wx (.Constant (.bool i) j pos) (fC (.bl i)) := qe_c pe_bl fun _ _ => .bl i
theorem qe_non {j pos} : QE X T Wx (.Constant .none j pos) (fC .non) := qe_c pe_non fun _ _ => .non
theorem qe_str {x j pos} : QE X T Wx (.Constant (.str x) j pos) (fC (.str x)) := qe_c pe_str fun _ _ => .str x
/-- a name of the module: a constant, a def -/
structure GlC (K : PySem.W.Frag) (mg : Str → Option Value) (x : Str) (m : MV) : Prop where
  ex : ∃ u v, mg x = some u ∧ RelV v u ∧ ∀ W H, Dat K W H m v
theorem qe_glob {x : Str} {m : MV} {pos : Pos} (c : GlC X.K X.mg x m) (hg : Gl X x := by rfl) (hd : (x == ("__debug__" : Str)) = false := by decide) : QE X T Wx (.Name x pos) (fC m) := by
  obtain ⟨u, v, h1, h2, h3⟩ := c.ex
  exact qe_c (pe_glob hg h1 h2 hd) h3

/-! ### argument lists -/
def fNil : Rho → Res (List RV) := fun ρ => .ok [] ρ
def fCons (f : Rho → Res RV) (g : Rho → Res (List RV)) : Rho → Res (List RV) := fun ρ => (f ρ).bind fun a ρ1 => (g ρ1).bind fun as ρ2 => .ok (hold a :: as) ρ2
theorem qa_nil : QA X T Wx [] fNil := ⟨fun G pin => PA.imp pa_nil fun σ H Q ⟨W, ρ, r, h⟩ => h W H [] (Step.refl _ _ _ r.gok) r .nil⟩
theorem qa_cons {e : Expr} {es : List Expr} {f : Rho → Res RV} {g : Rho → Res (List RV)} (h1 : QE X T Wx e f) (h2 : QA X T Wx es g) (hs : starEach (e :: es) X.env = (false, eval e X.env) :: starEach es X.env := by rfl) : QA X T Wx (e :: es) (fCons f g) := by
  refine ⟨fun G pin => PA.imp (pa_cons (h1.run G pin) (h2.run G pin) hs) fun σ H Q ⟨W, ρ, r, h⟩ => ⟨W, ρ, r, ?_⟩⟩
  refine Wp.bind h fun a ρ1 W1 H1 v s1 r1 o1 w1 => ?_
  obtain ⟨W2, s2, r2, o2⟩ := hold_ok r1 o1
  refine ⟨W2, ρ1, r2, Wp.bind (Wp.shift s2 w1) fun as ρ3 W3 H3 vs s3 r3 o3 w3 => ?_⟩
  exact w3 W3 H3 _ (Step.refl _ _ _ r3.gok) r3 (.cons (hold_held a) (o2.held (hold_held a) s3 r3) o3)
/-- all shared -/
def shrs (ρ : Rho) : List RV → Res (List MV)
  | [] => .ok [] ρ
  | a :: as => (shr ρ a).bind fun m ρ1 => (shrs ρ1 as).bind fun ms ρ2 => .ok (m :: ms) ρ2
theorem shr_cases (ρ : Rho) (a : RV) : (∃ m ρ1, shr ρ a = .ok m ρ1) ∨ shr ρ a = .bad := by
  cases a with
  | v m => exact .inl ⟨_, _, rfl⟩
  | o m => exact .inl ⟨_, _, rfl⟩
  | b i =>
    unfold shr
    simp only
    split
    · exact .inl ⟨_, _, rfl⟩
    · exact .inl ⟨_, _, rfl⟩
    · exact .inr rfl
theorem shrs_ok : ∀ {rs : List RV} {vs : List V} {W : AP} {ρ : Rho} {ms : List MV} {ρ' : Rho}, RS X.K T G pin W σ H ρ → RvsOk X.K G W σ H ρ rs vs → shrs ρ rs = .ok ms ρ' → ∃ W', Step G W H W' H ∧ RS X.K T G pin W' σ H ρ' ∧ Dats X.K W' H ms vs
  | [], _, W, ρ, ms, ρ', r, h, e => by
    cases h
    cases e
    exact ⟨W, Step.refl _ _ _ r.gok, r, .nil⟩
  | a :: as, _, W, ρ, ms, ρ', r, h, e => by
    cases h with
    | cons hh o os =>
      unfold shrs at e
      rcases shr_cases ρ a with ⟨m, ρ1, e1⟩ | e1
      · rw [e1] at e
        obtain ⟨W1, s1, r1, d1⟩ := shr_ok r o e1
        simp only [Res.bind] at e
        cases e2 : shrs ρ1 as with
        | ok ns ρ2 =>
          rw [e2] at e
          cases e
          obtain ⟨W2, s2, r2, d2⟩ := shrs_ok r1 (os.step s1 r1) e2
          exact ⟨W2, s1.trans s2, r2, .cons (d1.keep s2.keeps) d2⟩
        | ex x ρ2 => rw [e2] at e; cases e
        | bad => rw [e2] at e; cases e
      · rw [e1] at e
        cases e
theorem shrs_noex : ∀ {rs : List RV} {ρ : Rho} {x : Exn} {ρ' : Rho}, shrs ρ rs ≠ .ex x ρ'
  | [], _, _, _, e => by cases e
  | a :: as, ρ, x, ρ', e => by
    unfold shrs at e
    rcases shr_cases ρ a with ⟨m, ρ1, e1⟩ | e1
    · rw [e1] at e
      simp only [Res.bind] at e
      cases e2 : shrs ρ1 as with
      | ok ns ρ2 => rw [e2] at e; cases e
      | ex y ρ2 => exact shrs_noex e2
      | bad => rw [e2] at e; cases e
    · rw [e1] at e
      cases e
/-- read -/
inductive Rdbs (K : PySem.W.Frag) (W : AP) (H : Hp) : List MV → List V → Prop
  | nil : Rdbs K W H [] []
  | cons {m : MV} {ms : List MV} {v : V} {vs : List V} : Rdb K W H m v → Rdbs K W H ms vs → Rdbs K W H (m :: ms) (v :: vs)
def conts (ρ : Rho) : List RV → Option (List MV)
  | [] => some []
  | a :: as => match cont ρ a, conts ρ as with
    | some m, some ms => some (m :: ms)
    | _, _ => none
theorem conts_ok (r : RS X.K T G pin W σ H ρ) : ∀ {rs : List RV} {vs : List V} {ms : List MV}, RvsOk X.K G W σ H ρ rs vs → conts ρ rs = some ms → Rdbs X.K W H ms vs
  | [], _, _, .nil, e => by cases e; exact .nil
  | a :: as, _, ms, .cons _ o os, e => by
    unfold conts at e
    split at e
    · rename_i m ns e1 e2
      cases e
      exact .cons (cont_ok r o e1) (conts_ok r os e2)
    · cases e

/-! ### displays -/
def fTup (f : Rho → Res (List RV)) : Rho → Res RV := fun ρ => (f ρ).bind fun as ρ1 => (shrs ρ1 as).bind fun ms ρ2 => if ms.length ≤ sizeLine then .ok (.v (.tup ms)) ρ2 else .bad
def fLst (f : Rho → Res (List RV)) : Rho → Res RV := fun ρ => (f ρ).bind fun as ρ1 => (shrs ρ1 as).bind fun ms ρ2 => if ms.length ≤ sizeLine then .ok (.o (.lst ms)) ρ2 else .bad
theorem qe_tup {es : List Expr} {x1 : Nat} {pos : Pos} {f : Rho → Res (List RV)} (h : QA X T Wx es f) : QE X T Wx (.Tuple es x1 pos) (fTup f) := by
  refine ⟨fun G pin => PE.imp (pe_tup (h.run G pin)) fun σ H Q ⟨W, ρ, r, h⟩ => ⟨W, ρ, r, ?_⟩⟩
  refine Wp.bind h fun as ρ1 W1 H1 vs s1 r1 o1 w1 => ?_
  cases e : shrs ρ1 as with
  | bad => rw [e] at w1; exact w1.elim
  | ex x ρ2 => exact absurd e shrs_noex
  | ok ms ρ2 =>
    rw [e] at w1
    obtain ⟨W2, s2, r2, d2⟩ := shrs_ok r1 o1 e
    have w2 := Wp.shift s2 w1
    simp only [Res.bind] at w2
    split at w2
    · rename_i hz
      exact ⟨by rw [← d2.length]; exact hz, fun p hp => Kont.tup (pin := pin) w2 r2 hp d2⟩
    · exact w2.elim
theorem qe_lst {es : List Expr} {pos : Pos} {f : Rho → Res (List RV)} (h : QA X T Wx es f) : QE X T Wx (.List es pos) (fLst f) := by
  refine ⟨fun G pin => PE.imp (pe_lst (h.run G pin)) fun σ H Q ⟨W, ρ, r, h⟩ => ⟨W, ρ, r, ?_⟩⟩
  refine Wp.bind h fun as ρ1 W1 H1 vs s1 r1 o1 w1 => ?_
  cases e : shrs ρ1 as with
  | bad => rw [e] at w1; exact w1.elim
  | ex x ρ2 => exact absurd e shrs_noex
  | ok ms ρ2 =>
    rw [e] at w1
    obtain ⟨W2, s2, r2, d2⟩ := shrs_ok r1 o1 e
    have w2 := Wp.shift s2 w1
    simp only [Res.bind] at w2
    split at w2
    · rename_i hz
      exact ⟨by rw [← d2.length]; exact hz, fun p hp => Kont.lst (pin := pin) w2 r2 hp d2⟩
    · exact w2.elim

/-! ### operations on two values -/
/-- r does what g says -/
def OpOk (X : Cx) (T : Tb) (r : R2) (g : MV → MV → Option RV) : Prop :=
  ∀ (G : AP) (pin : Nat → Option Addr) (W : AP) (σ : L2.St) (H : Hp) (ρ : Rho) (m n : MV) (x y : V) (rv : RV) (Q : VK), RS X.K T G pin W σ H ρ → Rdb X.K W H m x → Rdb X.K W H n y → g m n = some rv → Kont X T G pin W σ H ρ rv Q → r x y H Q
def fOp (g : MV → MV → Option RV) (f1 f2 : Rho → Res RV) : Rho → Res RV := fun ρ => (f1 ρ).bind fun a ρ1 => (f2 ρ1).bind fun b ρ2 => match cont ρ2 (hold a), cont ρ2 b with
  | some m, some n => match g m n with
    | some rv => .ok rv ρ2
    | none => .bad
  | _, _ => .bad
theorem op_imp {e1 e2 : Expr} {f1 f2 : Rho → Res RV} {r : R2} {g : MV → MV → Option RV} (hg : OpOk X T r g) (h1 : QE X T Wx e1 f1) (h2 : QE X T Wx e2 f2) (G : AP) (pin : Nat → Option Addr) {α : Type} {rel : Rel Bool α} :
    ∀ σ H Q, (∃ W ρ, RS X.K T G pin W σ H ρ ∧ Wp X T Wx G pin W σ H (rE X G σ) Q (fOp g f1 f2 ρ)) →
      tOp r (fun σ H Q => ∃ W ρ, RS X.K T G pin W σ H ρ ∧ Wp X T Wx G pin W σ H (rE X G σ) Q (f1 ρ)) (fun σ H Q => ∃ W ρ, RS X.K T G pin W σ H ρ ∧ Wp X T Wx G pin W σ H (rE X G σ) Q (f2 ρ)) σ H Q := by
  rintro σ H Q ⟨W, ρ, r0, h⟩
  refine ⟨W, ρ, r0, Wp.bind h fun a ρ1 W1 H1 v s1 r1 o1 w1 => ?_⟩
  obtain ⟨W2, s2, r2, o2⟩ := hold_ok r1 o1
  refine ⟨W2, ρ1, r2, Wp.bind (Wp.shift s2 w1) fun b ρ3 W3 H3 u s3 r3 o3 w3 => ?_⟩
  have o2' := o2.held (hold_held a) s3 r3
  split at w3
  · rename_i m n em en
    split at w3
    · rename_i rv eg
      exact hg G pin W3 σ H3 ρ3 m n v u rv Q r3 (cont_ok r3 o2' em) (cont_ok r3 o3 en) eg w3
    · exact w3.elim
  · exact w3.elim
theorem qe_op {e1 e2 : Expr} {f1 f2 : Rho → Res RV} {r : R2} {g : MV → MV → Option RV} {op : Operator} {pos : Pos} (ho : OpR X (binaryOp op) r) (hg : OpOk X T r g) (h1 : QE X T Wx e1 f1) (h2 : QE X T Wx e2 f2) : QE X T Wx (.BinOp e1 op e2 pos) (fOp g f1 f2) :=
  ⟨fun G pin => PE.imp (pe_op ho (h1.run G pin) (h2.run G pin)) (op_imp hg h1 h2 G pin (rel := rB))⟩
theorem qe_cmp {e1 e2 : Expr} {f1 f2 : Rho → Res RV} {r : R2} {g : MV → MV → Option RV} {op : CmpOp} {pos : Pos} (ho : OpR X (compareOp op) r) (hg : OpOk X T r g) (h1 : QE X T Wx e1 f1) (h2 : QE X T Wx e2 f2) (hm : behindInMarks op e2 = false) : QE X T Wx (.Compare e1 [op] [e2] pos) (fOp g f1 f2) :=
  ⟨fun G pin => PE.imp (pe_cmpR ho (h1.run G pin) (h2.run G pin) hm) (op_imp hg h1 h2 G pin (rel := rB))⟩
/-- a value that is a bool, as a test -/
def fB (f : Rho → Res RV) : Rho → Res Bool := fun ρ => (f ρ).bind fun a ρ1 => match cont ρ1 a with
  | some (.bl b) => .ok b ρ1
  | _ => .bad
theorem fB_imp {f : Rho → Res RV} {G : AP} {pin : Nat → Option Addr} {σ : L2.St} {H : Hp} {Q : Bool → Hp → Prop} (h : ∃ W ρ, RS X.K T G pin W σ H ρ ∧ Wp X T Wx G pin W σ H rB Q (fB f ρ)) :
    ∃ W ρ, RS X.K T G pin W σ H ρ ∧ Wp X T Wx G pin W σ H (rE X G σ) (fun x H' => ∃ k, x = .bl k ∧ Q k H') (f ρ) := by
  obtain ⟨W, ρ, r, h⟩ := h
  refine ⟨W, ρ, r, Wp.bind h fun a ρ1 W1 H1 v s1 r1 o1 w1 => ?_⟩
  split at w1
  · rename_i b e
    exact ⟨b, (cont_ok r1 o1 e).bl, w1 W1 H1 b (Step.refl _ _ _ r1.gok) r1 rfl⟩
  · exact w1.elim
theorem qt_cmp {e1 e2 : Expr} {f1 f2 : Rho → Res RV} {r : R2} {g : MV → MV → Option RV} {op : CmpOp} {pos : Pos} (ho : OpR X (compareOp op) r) (hg : OpOk X T r g) (h1 : QE X T Wx e1 f1) (h2 : QE X T Wx e2 f2) (hm : behindInMarks op e2 = false) : QT X T Wx (.Compare e1 [op] [e2] pos) (fB (fOp g f1 f2)) :=
  ⟨fun G pin => PT.imp (pt_cmpR ho (h1.run G pin) (h2.run G pin) hm) fun σ H Q h => op_imp hg h1 h2 G pin (rel := rB) σ H _ (fB_imp h)⟩
theorem qt_val {e : Expr} {f : Rho → Res RV} (h : QE X T Wx e f) (he : ∀ whole, isTrue e X.env whole = (do let v ← whole; standAt e.pos; holding [v] (truthy v)) := by intro _; rfl) : QT X T Wx e (fB f) :=
  ⟨fun G pin => PT.imp (pt_val (h.run G pin) he) fun σ H Q h => fB_imp h⟩
/-- a chain of two -/
def fChain (g g' : MV → MV → Option RV) (f1 f2 f3 : Rho → Res RV) : Rho → Res RV := fun ρ => (f1 ρ).bind fun a ρ1 => (f2 ρ1).bind fun b ρ2 => match cont ρ2 (hold a), cont ρ2 (hold b) with
  | some m, some n => match g m n with
    | some (.v (.bl true)) => (f3 ρ2).bind fun c ρ3 => match cont ρ3 (hold b), cont ρ3 c with
      | some n', some l => match g' n' l with
        | some rv => .ok rv ρ3
        | none => .bad
      | _, _ => .bad
    | some (.v (.bl false)) => .ok (.v (.bl false)) ρ2
    | _ => .bad
  | _, _ => .bad
theorem chain_imp {e1 e2 e3 : Expr} {f1 f2 f3 : Rho → Res RV} {r r' : R2} {g g' : MV → MV → Option RV} (hg : OpOk X T r g) (hg' : OpOk X T r' g') (h1 : QE X T Wx e1 f1) (h2 : QE X T Wx e2 f2) (h3 : QE X T Wx e3 f3) (G : AP) (pin : Nat → Option Addr) :
    ∀ σ H Q, (∃ W ρ, RS X.K T G pin W σ H ρ ∧ Wp X T Wx G pin W σ H (rE X G σ) Q (fChain g g' f1 f2 f3 ρ)) →
      tChain r r' (fun σ H Q => ∃ W ρ, RS X.K T G pin W σ H ρ ∧ Wp X T Wx G pin W σ H (rE X G σ) Q (f1 ρ)) (fun σ H Q => ∃ W ρ, RS X.K T G pin W σ H ρ ∧ Wp X T Wx G pin W σ H (rE X G σ) Q (f2 ρ))
        (fun σ H Q => ∃ W ρ, RS X.K T G pin W σ H ρ ∧ Wp X T Wx G pin W σ H (rE X G σ) Q (f3 ρ)) σ H Q := by
  rintro σ H Q ⟨W, ρ, r0, h⟩
  refine ⟨W, ρ, r0, Wp.bind h fun a ρ1 W1 H1 v s1 r1 o1 w1 => ?_⟩
  obtain ⟨W2, s2, r2, o2⟩ := hold_ok r1 o1
  refine ⟨W2, ρ1, r2, Wp.bind (Wp.shift s2 w1) fun b ρ3 W3 H3 u s3 r3 o3 w3 => ?_⟩
  have o2' := o2.held (hold_held a) s3 r3
  obtain ⟨W4, s4, r4, o4⟩ := hold_ok r3 o3
  have w4 := Wp.shift s4 w3
  have o2'' := o2'.held (hold_held a) s4 r4
  split at w4
  · rename_i m n em en
    split at w4
    · rename_i eg
      refine hg G pin W4 σ H3 ρ3 m n v u _ _ r4 (cont_ok r4 o2'' em) (cont_ok r4 o4 en) eg fun W5 H5 x s5 r5 o5 => ?_
      have ex : x = .bl true := Rdb.bl (.inl o5)
      subst ex
      refine ⟨true, rfl, ?_⟩
      refine iteT ⟨W5, ρ3, r5, Wp.bind (Wp.shift s5 w4) fun c ρ6 W6 H6 z s6 r6 o6 w6 => ?_⟩
      have o4' := (o4.held (hold_held b) s5 r5).held (hold_held b) s6 r6
      split at w6
      · rename_i n' l' en' el'
        split at w6
        · rename_i rv eg'
          exact hg' G pin W6 σ H6 ρ6 n' l' u z rv Q r6 (cont_ok r6 o4' en') (cont_ok r6 o6 el') eg' w6
        · exact w6.elim
      · exact w6.elim
    · rename_i eg
      refine hg G pin W4 σ H3 ρ3 m n v u _ _ r4 (cont_ok r4 o2'' em) (cont_ok r4 o4 en) eg fun W5 H5 x s5 r5 o5 => ?_
      have ex : x = .bl false := Rdb.bl (.inl o5)
      subst ex
      exact ⟨false, rfl, iteF (w4 W5 H5 (.bl false) s5 r5 (.bl false))⟩
    · exact w4.elim
  · exact w4.elim
theorem qe_chain {e1 e2 e3 : Expr} {f1 f2 f3 : Rho → Res RV} {r r' : R2} {g g' : MV → MV → Option RV} {op op' : CmpOp} {pos : Pos} (ho : OpR X (compareOp op) r) (hg : OpOk X T r g) (ho' : OpR X (compareOp op') r') (hg' : OpOk X T r' g') (h1 : QE X T Wx e1 f1) (h2 : QE X T Wx e2 f2) (h3 : QE X T Wx e3 f3) (hm : lastMarks [op, op'] [e2, e3] = false := by with_unfolding_all rfl) :
    QE X T Wx (.Compare e1 [op, op'] [e2, e3] pos) (fChain g g' f1 f2 f3) :=
  ⟨fun G pin => PE.imp (pe_chain ho ho' (h1.run G pin) (h2.run G pin) (h3.run G pin) hm) (chain_imp hg hg' h1 h2 h3 G pin)⟩
theorem qt_chain {e1 e2 e3 : Expr} {f1 f2 f3 : Rho → Res RV} {r r' : R2} {g g' : MV → MV → Option RV} {op op' : CmpOp} {pos : Pos} (ho : OpR X (compareOp op) r) (hg : OpOk X T r g) (ho' : OpR X (compareOp op') r') (hg' : OpOk X T r' g') (h1 : QE X T Wx e1 f1) (h2 : QE X T Wx e2 f2) (h3 : QE X T Wx e3 f3) (hm : lastMarks [op, op'] [e2, e3] = false := by with_unfolding_all rfl) :
    QT X T Wx (.Compare e1 [op, op'] [e2, e3] pos) (fB (fChain g g' f1 f2 f3)) :=
  ⟨fun G pin => PT.imp (pt_chain ho ho' (h1.run G pin) (h2.run G pin) (h3.run G pin) hm) fun σ H Q h => chain_imp hg hg' h1 h2 h3 G pin σ H _ (fB_imp h)⟩

/-! ### and, or, not, if else -/
def fAnd (f g : Rho → Res Bool) : Rho → Res Bool := fun ρ => (f ρ).bind fun b ρ1 => match b with
  | true => g ρ1
  | false => .ok false ρ1
def fOr (f g : Rho → Res Bool) : Rho → Res Bool := fun ρ => (f ρ).bind fun b ρ1 => match b with
  | true => .ok true ρ1
  | false => g ρ1
def fNot (f : Rho → Res Bool) : Rho → Res Bool := fun ρ => (f ρ).bind fun b ρ1 => .ok (!b) ρ1
theorem qt_w {e : Expr} {f : Rho → Res Bool} (h : QW X T Wx e f) : QT X T Wx e f := ⟨fun G pin => (h.run G pin).pt⟩
theorem qw_and1 {a : Expr} {f : Rho → Res Bool} {pos : Pos} (h : QT X T Wx a f) : QW X T Wx (.BoolOp .And [a] pos) f := ⟨fun G pin => pw_and1 (h.run G pin)⟩
theorem qw_or1 {a : Expr} {f : Rho → Res Bool} {pos : Pos} (h : QT X T Wx a f) : QW X T Wx (.BoolOp .Or [a] pos) f := ⟨fun G pin => pw_or1 (h.run G pin)⟩
theorem qw_and {a b : Expr} {rest : List Expr} {f g : Rho → Res Bool} {pos : Pos} (h1 : QT X T Wx a f) (h2 : QW X T Wx (.BoolOp .And (b :: rest) pos) g) : QW X T Wx (.BoolOp .And (a :: b :: rest) pos) (fAnd f g) := by
  refine ⟨fun G pin => PW.imp (pw_and (h1.run G pin) (h2.run G pin)) fun σ H Q ⟨W, ρ, r, h⟩ => ⟨W, ρ, r, Wp.bind h fun a ρ1 W1 H1 b s1 r1 o1 w1 => ?_⟩⟩
  cases o1
  cases a with
  | true => exact iteT ⟨W1, ρ1, r1, w1⟩
  | false => exact iteF (w1 W1 H1 false (Step.refl _ _ _ r1.gok) r1 rfl)
theorem qw_or {a b : Expr} {rest : List Expr} {f g : Rho → Res Bool} {pos : Pos} (h1 : QT X T Wx a f) (h2 : QW X T Wx (.BoolOp .Or (b :: rest) pos) g) : QW X T Wx (.BoolOp .Or (a :: b :: rest) pos) (fOr f g) := by
  refine ⟨fun G pin => PW.imp (pw_or (h1.run G pin) (h2.run G pin)) fun σ H Q ⟨W, ρ, r, h⟩ => ⟨W, ρ, r, Wp.bind h fun a ρ1 W1 H1 b s1 r1 o1 w1 => ?_⟩⟩
  cases o1
  cases a with
  | true => exact iteT (w1 W1 H1 true (Step.refl _ _ _ r1.gok) r1 rfl)
  | false => exact iteF ⟨W1, ρ1, r1, w1⟩
theorem qt_not {a : Expr} {f : Rho → Res Bool} {pos : Pos} (h : QT X T Wx a f) : QT X T Wx (.UnaryOp .Not a pos) (fNot f) := by
  refine ⟨fun G pin => PT.imp (pt_not (h.run G pin)) fun σ H Q ⟨W, ρ, r, h⟩ => ⟨W, ρ, r, Wp.bind h fun a ρ1 W1 H1 b s1 r1 o1 w1 => ?_⟩⟩
  cases o1
  exact w1 W1 H1 (!a) (Step.refl _ _ _ r1.gok) r1 rfl
def fAndV (f g : Rho → Res RV) : Rho → Res RV := fun ρ => (f ρ).bind fun a ρ1 => match cont ρ1 a with
  | some (.bl true) => g ρ1
  | some (.bl false) => .ok (.v (.bl false)) ρ1
  | _ => .bad
def fOrV (f g : Rho → Res RV) : Rho → Res RV := fun ρ => (f ρ).bind fun a ρ1 => match cont ρ1 a with
  | some (.bl true) => .ok (.v (.bl true)) ρ1
  | some (.bl false) => g ρ1
  | _ => .bad
def fNotV (f : Rho → Res RV) : Rho → Res RV := fun ρ => (f ρ).bind fun a ρ1 => match cont ρ1 a with
  | some (.bl b) => .ok (.v (.bl (!b))) ρ1
  | _ => .bad
theorem qe_one {op : BoolOp} {a : Expr} {f : Rho → Res RV} {pos : Pos} (h : QE X T Wx a f) : QE X T Wx (.BoolOp op [a] pos) f := ⟨fun G pin => pe_one (h.run G pin)⟩
theorem qe_and {a b : Expr} {rest : List Expr} {f g : Rho → Res RV} {pos : Pos} (h1 : QE X T Wx a f) (h2 : QE X T Wx (.BoolOp .And (b :: rest) pos) g) : QE X T Wx (.BoolOp .And (a :: b :: rest) pos) (fAndV f g) := by
  refine ⟨fun G pin => PE.imp (pe_and (h1.run G pin) (h2.run G pin)) fun σ H Q ⟨W, ρ, r, h⟩ => ⟨W, ρ, r, Wp.bind h fun a ρ1 W1 H1 b s1 r1 o1 w1 => ?_⟩⟩
  split at w1
  · rename_i e
    exact ⟨true, (cont_ok r1 o1 e).bl, iteT ⟨W1, ρ1, r1, w1⟩⟩
  · rename_i e
    exact ⟨false, (cont_ok r1 o1 e).bl, iteF (w1 W1 H1 _ (Step.refl _ _ _ r1.gok) r1 (.bl false))⟩
  · exact w1.elim
theorem qe_or {a b : Expr} {rest : List Expr} {f g : Rho → Res RV} {pos : Pos} (h1 : QE X T Wx a f) (h2 : QE X T Wx (.BoolOp .Or (b :: rest) pos) g) : QE X T Wx (.BoolOp .Or (a :: b :: rest) pos) (fOrV f g) := by
  refine ⟨fun G pin => PE.imp (pe_or (h1.run G pin) (h2.run G pin)) fun σ H Q ⟨W, ρ, r, h⟩ => ⟨W, ρ, r, Wp.bind h fun a ρ1 W1 H1 b s1 r1 o1 w1 => ?_⟩⟩
  split at w1
  · rename_i e
    exact ⟨true, (cont_ok r1 o1 e).bl, iteT (w1 W1 H1 _ (Step.refl _ _ _ r1.gok) r1 (.bl true))⟩
  · rename_i e
    exact ⟨false, (cont_ok r1 o1 e).bl, iteF ⟨W1, ρ1, r1, w1⟩⟩
  · exact w1.elim
theorem qe_not {a : Expr} {f : Rho → Res RV} {pos : Pos} (h : QE X T Wx a f) : QE X T Wx (.UnaryOp .Not a pos) (fNotV f) := by
  refine ⟨fun G pin => PE.imp (pe_not (h.run G pin)) fun σ H Q ⟨W, ρ, r, h⟩ => ⟨W, ρ, r, Wp.bind h fun a ρ1 W1 H1 b s1 r1 o1 w1 => ?_⟩⟩
  split at w1
  · rename_i c e
    exact ⟨c, (cont_ok r1 o1 e).bl, w1 W1 H1 _ (Step.refl _ _ _ r1.gok) r1 (.bl (!c))⟩
  · exact w1.elim
def fIf (c : Rho → Res Bool) (f g : Rho → Res RV) : Rho → Res RV := fun ρ => (c ρ).bind fun b ρ1 => match b with
  | true => f ρ1
  | false => g ρ1
theorem qe_if {c a b : Expr} {fc : Rho → Res Bool} {f g : Rho → Res RV} {pos : Pos} (hc : QT X T Wx c fc) (h1 : QE X T Wx a f) (h2 : QE X T Wx b g) : QE X T Wx (.IfExp c a b pos) (fIf fc f g) := by
  refine ⟨fun G pin => PE.imp (pe_ifExp (hc.run G pin) (h1.run G pin) (h2.run G pin)) fun σ H Q ⟨W, ρ, r, h⟩ => ⟨W, ρ, r, Wp.bind h fun a ρ1 W1 H1 b s1 r1 o1 w1 => ?_⟩⟩
  cases o1
  cases a with
  | true => exact iteT ⟨W1, ρ1, r1, w1⟩
  | false => exact iteF ⟨W1, ρ1, r1, w1⟩
end
end DL
namespace DL
open PySem PySem.Spec L2

/-! ### as plain data -/
mutual
def MV.pd : MV → PyData
  | .non => .none
  | .bl b => .bool b
  | .int i => .int i
  | .str x => .str x
  | .tup xs => .tuple (pds xs)
  | .lst xs => .list (pds xs)
  | .dic _ => .none
  | .fn _ => .none
  | .scr _ => .none
  | .ty _ => .none
def pds : List MV → List PyData
  | [] => []
  | x :: xs => x.pd :: pds xs
end
mutual
def MV.isD : MV → Bool
  | .non => true
  | .bl _ => true
  | .int _ => true
  | .str _ => true
  | .tup xs => isDs xs
  | .lst xs => isDs xs
  | .dic _ => false
  | .fn _ => false
  | .scr _ => false
  | .ty _ => false
def isDs : List MV → Bool
  | [] => true
  | x :: xs => x.isD && isDs xs
end
mutual
theorem pd_plain : ∀ m : MV, m.pd.plain = true
  | .non => rfl
  | .bl _ => rfl
  | .int _ => rfl
  | .str _ => rfl
  | .tup xs => pds_plain xs
  | .lst xs => pds_plain xs
  | .dic _ => rfl
  | .fn _ => rfl
  | .scr _ => rfl
  | .ty _ => rfl
theorem pds_plain : ∀ xs : List MV, PyData.plainAll (pds xs) = true
  | [] => rfl
  | x :: xs => by
    show (x.pd.plain && PyData.plainAll (pds xs)) = true
    rw [pd_plain x, pds_plain xs]
    rfl
end
theorem isD_tup (xs : List MV) : (MV.tup xs).isD = isDs xs := by rw [MV.isD]
theorem isD_lst (xs : List MV) : (MV.lst xs).isD = isDs xs := by rw [MV.isD]
theorem isDs_cons (x : MV) (xs : List MV) : isDs (x :: xs) = (x.isD && isDs xs) := by rw [isDs]
theorem isDs_two {x : MV} {xs : List MV} (h : isDs (x :: xs) = true) : x.isD = true ∧ isDs xs = true := by
  rw [isDs_cons] at h
  exact Bool.and_eq_true_iff.mp h
section
variable {K : PySem.W.Frag} {W : AP} {H : Hp}
theorem pd_tup (xs : List MV) : (MV.tup xs).pd = .tuple (pds xs) := by rw [MV.pd]
theorem pd_lst (xs : List MV) : (MV.lst xs).pd = .list (pds xs) := by rw [MV.pd]
theorem pds_cons (x : MV) (xs : List MV) : pds (x :: xs) = x.pd :: pds xs := by rw [pds]
theorem pds_nil : pds [] = [] := by rw [pds]
mutual
theorem Dat.dp {m : MV} {v : V} (d : Dat K W H m v) (h : m.isD = true) : Dp K H v m.pd := by
  cases d with
  | non => rw [MV.pd]; exact .non
  | bl b => rw [MV.pd]; exact .bl b
  | int i => rw [MV.pd]; exact .int i
  | str x => rw [MV.pd]; exact .str x
  | fn a => rw [MV.isD] at h; cases h
  | ty n => rw [MV.isD] at h; cases h
  | scr n e => rw [MV.isD] at h; cases h
  | scrL n e => rw [MV.isD] at h; cases h
  | scrK e => rw [MV.isD] at h; cases h
  | tup t d => rw [pd_tup]; rw [isD_tup] at h; exact .tup t.sq (Dats.dp d h)
  | lst n e d => rw [pd_lst]; rw [isD_lst] at h; exact .lst (SqL.of e) (Dats.dp d h)
  | dn n e d => rw [MV.isD] at h; cases h
  | dk n e d => rw [MV.isD] at h; cases h
  | dt n e d => rw [MV.isD] at h; cases h
theorem Dats.dp {ms : List MV} {vs : List V} (d : Dats K W H ms vs) (h : isDs ms = true) : DpAll K H vs (pds ms) := by
  cases d with
  | nil => rw [pds_nil]; exact .nil
  | cons d r => rw [pds_cons]; exact .cons (Dat.dp d (isDs_two h).1) (Dats.dp r (isDs_two h).2)
end
theorem Rdb.dp {m : MV} {v : V} (h : Rdb K W H m v) (e : m.isD = true) : Dp K H v m.pd := by
  rcases h with h | ⟨a, rfl, _, o, h, d⟩
  · exact h.dp e
  · cases d with
    | lst d => rw [pd_lst]; rw [isD_lst] at e; exact .lst (SqL.of h) (d.dp e)
    | dk d => rw [MV.isD] at e; cases e
    | dt d => rw [MV.isD] at e; cases e
end
def eqM (m n : MV) : Bool := PyData.eqv m.pd n.pd
def depM (m : MV) : Nat := m.pd.depth

section
variable {X : Cx} {T : Tb} {Wx : WX}
/-! ### == and != -/
def rEqA (K : PySem.W.Frag) : R2 := fun x y H Q => ∃ d e, Dp K H x d ∧ Dp K H y e ∧ d.plain = true ∧ e.plain = true ∧ min d.depth e.depth ≤ 64 ∧ Q (.bl (PyData.eqv d e)) H
def rNeA (K : PySem.W.Frag) : R2 := fun x y H Q => ∃ d e, Dp K H x d ∧ Dp K H y e ∧ d.plain = true ∧ e.plain = true ∧ min d.depth e.depth ≤ 64 ∧ Q (.bl (!PyData.eqv d e)) H
theorem op_eqA (hu : X.A.units + 64 < cLine) : OpR X (compareOp .Eq) (rEqA X.K) := by
  intro pins s σ H x y v u Q I rx ry h
  obtain ⟨d, e, hd, he, sd, se, dp, q⟩ := h
  obtain ⟨as, r1⟩ := Dp.reads I d x v hd rx
  obtain ⟨bs, r2⟩ := Dp.reads I e y u he ry
  exact SeqAt.eq_plain r1 r2 sd se (by omega) ⟨.bl _, H, I, rfl, q⟩
theorem op_neA (hu : X.A.units + 64 < cLine) : OpR X (compareOp .NotEq) (rNeA X.K) := by
  intro pins s σ H x y v u Q I rx ry h
  obtain ⟨d, e, hd, he, sd, se, dp, q⟩ := h
  obtain ⟨as, r1⟩ := Dp.reads I d x v hd rx
  obtain ⟨bs, r2⟩ := Dp.reads I e y u he ry
  exact SeqAt.ne_plain r1 r2 sd se (by omega) ⟨.bl _, H, I, rfl, q⟩
def eqOk (m n : MV) : Bool := m.isD && (n.isD && decide (min (depM m) (depM n) ≤ 64))
def gEq (m n : MV) : Option RV := if eqOk m n = true then some (.v (.bl (eqM m n))) else none
def gNe (m n : MV) : Option RV := if eqOk m n = true then some (.v (.bl (!eqM m n))) else none
theorem eqOk_of {m n : MV} (h : eqOk m n = true) : m.isD = true ∧ n.isD = true ∧ min (depM m) (depM n) ≤ 64 := by
  unfold eqOk at h
  simp only [Bool.and_eq_true, decide_eq_true_eq] at h
  exact h
theorem ok_eq : OpOk X T (rEqA X.K) gEq := by
  intro G pin W σ H ρ m n x y rv Q r hm hn e k
  unfold gEq at e
  split at e
  · rename_i h
    cases e
    obtain ⟨h1, h2, h3⟩ := eqOk_of h
    exact ⟨m.pd, n.pd, hm.dp h1, hn.dp h2, pd_plain _, pd_plain _, h3, k.fin r (.bl _)⟩
  · cases e
theorem ok_ne : OpOk X T (rNeA X.K) gNe := by
  intro G pin W σ H ρ m n x y rv Q r hm hn e k
  unfold gNe at e
  split at e
  · rename_i h
    cases e
    obtain ⟨h1, h2, h3⟩ := eqOk_of h
    exact ⟨m.pd, n.pd, hm.dp h1, hn.dp h2, pd_plain _, pd_plain _, h3, k.fin r (.bl _)⟩
  · cases e
/-! ### in -/
def inM (m : MV) (ns : List MV) : Bool := (pds ns).any fun y => PyData.eqv y m.pd
def rInD (K : PySem.W.Frag) (neg : Bool) : R2 := fun x y H Q => ∃ d es, Dp K H x d ∧ (Dp K H y (.list es) ∨ Dp K H y (.tuple es)) ∧ d.plain = true ∧ PyData.plainAll es = true ∧ min (PyData.depthAll es) d.depth ≤ 63 ∧
  Q (.bl (if neg then !es.any fun y => PyData.eqv y d else es.any fun y => PyData.eqv y d)) H
theorem op_inD (hu : X.A.units + 64 < cLine) : OpR X (compareOp .In) (rInD X.K false) := by
  intro pins s σ H x y v u Q I rx ry h
  obtain ⟨d, es, hd, he, sd, se, dp, q⟩ := h
  obtain ⟨as, r1⟩ := Dp.reads I d x v hd rx
  rcases he with he | he
  · obtain ⟨bs, r2⟩ := Dp.reads I _ y u he ry
    exact SeqAt.in_list_data r2 r1 se sd (by omega) ⟨.bl _, H, I, rfl, q⟩
  · obtain ⟨bs, r2⟩ := Dp.reads I _ y u he ry
    exact SeqAt.in_tuple_data r2 r1 se sd (by omega) ⟨.bl _, H, I, rfl, q⟩
theorem op_ninD (hu : X.A.units + 64 < cLine) : OpR X (compareOp .NotIn) (rInD X.K true) := by
  intro pins s σ H x y v u Q I rx ry h
  obtain ⟨d, es, hd, he, sd, se, dp, q⟩ := h
  obtain ⟨as, r1⟩ := Dp.reads I d x v hd rx
  rcases he with he | he
  · obtain ⟨bs, r2⟩ := Dp.reads I _ y u he ry
    exact SeqAt.notIn_list_data r2 r1 se sd (by omega) ⟨.bl _, H, I, rfl, q⟩
  · obtain ⟨bs, r2⟩ := Dp.reads I _ y u he ry
    exact SeqAt.notIn_tuple_data r2 r1 se sd (by omega) ⟨.bl _, H, I, rfl, q⟩
def inOk (m : MV) (ns : List MV) : Bool := m.isD && (isDs ns && decide (min (PyData.depthAll (pds ns)) (depM m) ≤ 63))
def sgn1 (x : Str) : Option Nat := match x.cps.toList with
  | [c] => some c
  | _ => none
def inS (x z : Str) : Option Bool := match sgn1 x with
  | some c => some (decide (c ∈ z.cps.toList))
  | none => none
def gIn (neg : Bool) (m n : MV) : Option RV := match m, n with
  | .str x, .str z => match inS x z with
    | some b => some (.v (.bl (if neg then !b else b)))
    | none => none
  | m, .lst ns => if inOk m ns = true then some (.v (.bl (if neg then !inM m ns else inM m ns))) else none
  | m, .tup ns => if inOk m ns = true then some (.v (.bl (if neg then !inM m ns else inM m ns))) else none
  | _, _ => none
theorem inOk_of {m : MV} {ns : List MV} (h : inOk m ns = true) : m.isD = true ∧ isDs ns = true ∧ min (PyData.depthAll (pds ns)) (depM m) ≤ 63 := by
  unfold inOk at h
  simp only [Bool.and_eq_true, decide_eq_true_eq] at h
  exact h
def rInS (neg : Bool) : R2 := fun x y H Q => ∃ (c : Nat) (z : Str), x = .str ⟨#[c]⟩ ∧ y = .str z ∧ Q (.bl (if neg then !decide (c ∈ z.cps.toList) else decide (c ∈ z.cps.toList))) H
theorem sgn1_of {x : Str} {c : Nat} (h : sgn1 x = some c) : x = ⟨#[c]⟩ := by
  unfold sgn1 at h
  split at h
  · rename_i d e
    cases h
    cases x with
    | mk a =>
      cases a with
      | mk l =>
        have e : l = [c] := e
        subst e
        rfl
  · cases h
theorem ok_in (neg : Bool) : OpOk X T (fun x y H Q => rInS neg x y H Q ∨ rInD X.K neg x y H Q) (gIn neg) := by
  intro G pin W σ H ρ m n x y rv Q r hm hn e k
  have seq : ∀ ns, (n = .lst ns ∨ n = .tup ns) → (if inOk m ns = true then some (RV.v (.bl (if neg then !inM m ns else inM m ns))) else none) = some rv → rInD X.K neg x y H Q := fun ns hns e => by
    split at e
    · rename_i h
      cases e
      obtain ⟨h1, h2, h3⟩ := inOk_of h
      refine ⟨m.pd, pds ns, hm.dp h1, ?_, pd_plain _, pds_plain _, h3, k.fin r (.bl _)⟩
      rcases hns with rfl | rfl
      · exact .inl (hn.dp h2)
      · exact .inr (hn.dp h2)
    · cases e
  unfold gIn at e
  split at e
  · rename_i a z
    unfold inS at e
    cases hc : sgn1 a with
    | none => rw [hc] at e; cases e
    | some c =>
      rw [hc] at e
      have ea := sgn1_of hc
      have k' : rv = .v (.bl (if neg then !decide (c ∈ z.cps.toList) else decide (c ∈ z.cps.toList))) := (Option.some.inj e).symm
      subst k'
      refine .inl ⟨c, z, ?_, hn.str, k.fin r (.bl _)⟩
      rw [hm.str, ea]
  · exact .inr (seq _ (.inl rfl) e)
  · exact .inr (seq _ (.inr rfl) e)
  · cases e
theorem op_in (hu : X.A.units + 64 < cLine) : OpR X (compareOp .In) (fun x y H Q => rInS false x y H Q ∨ rInD X.K false x y H Q) :=
  OpR.or (fun pins s σ H x y v u Q I rx ry ⟨c, z, h1, h2, q⟩ => op_in_sign pins s σ H x y v u Q I rx ry ⟨c, z, h1, h2, q⟩) (op_inD hu)
theorem op_nin (hu : X.A.units + 64 < cLine) : OpR X (compareOp .NotIn) (fun x y H Q => rInS true x y H Q ∨ rInD X.K true x y H Q) :=
  OpR.or (fun pins s σ H x y v u Q I rx ry ⟨c, z, h1, h2, q⟩ => op_notIn_sign pins s σ H x y v u Q I rx ry ⟨c, z, h1, h2, q⟩) (op_ninD hu)
/-! ### is -/
def gIs (neg : Bool) (m n : MV) : Option RV := match m, n with
  | .non, .non => some (.v (.bl (!neg)))
  | .bl a, .bl b => some (.v (.bl (if neg then !decide (a = b) else decide (a = b))))
  | m, .non => some (.v (.bl neg))
  | _, _ => none
def rIs (neg : Bool) : R2 := fun x y H Q => (y = .non ∧ Q (.bl (if neg then !decide (x = .non) else decide (x = .non))) H) ∨ ∃ a b : Bool, x = .bl a ∧ y = .bl b ∧ Q (.bl (if neg then !decide (a = b) else decide (a = b))) H
theorem Rdb.ne_non {K : PySem.W.Frag} {W : AP} {H : Hp} {m : MV} {v : V} (h : Rdb K W H m v) (hm : m ≠ .non) : v ≠ .non := by
  rintro rfl
  rcases h with h | ⟨a, e, _⟩
  · cases h
    exact hm rfl
  · cases e
theorem ok_is (neg : Bool) : OpOk X T (rIs neg) (gIs neg) := by
  intro G pin W σ H ρ m n x y rv Q r hm hn e k
  unfold gIs at e
  split at e
  · cases e
    refine .inl ⟨hn.non, ?_⟩
    rw [hm.non]
    cases neg
    · exact k.fin r (.bl true)
    · exact k.fin r (.bl false)
  · cases e
    exact .inr ⟨_, _, hm.bl, hn.bl, k.fin r (.bl _)⟩
  · rename_i h1
    cases e
    refine .inl ⟨hn.non, ?_⟩
    rw [decide_eq_false (hm.ne_non h1)]
    cases neg
    · exact k.fin r (.bl false)
    · exact k.fin r (.bl true)
  · cases e
theorem op_is : OpR X (compareOp .Is) (rIs false) := OpR.or op_isN op_isBl
theorem op_isnot : OpR X (compareOp .IsNot) (rIs true) := OpR.or op_notN op_notBl
/-! ### order: ints, texts -/
def gOrd (p : Int → Int → Bool) (q : List Nat → List Nat → Bool) (m n : MV) : Option RV := match m, n with
  | .int i, .int j => some (.v (.bl (p i j)))
  | .str x, .str y => some (.v (.bl (q x.cps.toList y.cps.toList)))
  | _, _ => none
def rOrd (p : Int → Int → Bool) (q : List Nat → List Nat → Bool) : R2 := fun x y H Q => (∃ i j, x = .int i ∧ y = .int j ∧ Q (.bl (p i j)) H) ∨ ∃ i j : Str, x = .str i ∧ y = .str j ∧ Q (.bl (q i.cps.toList j.cps.toList)) H
theorem ok_ord (p : Int → Int → Bool) (q : List Nat → List Nat → Bool) : OpOk X T (rOrd p q) (gOrd p q) := by
  intro G pin W σ H ρ m n x y rv Q r hm hn e k
  unfold gOrd at e
  split at e
  · cases e
    exact .inl ⟨_, _, hm.int, hn.int, k.fin r (.bl _)⟩
  · cases e
    exact .inr ⟨_, _, hm.str, hn.str, k.fin r (.bl _)⟩
  · cases e
abbrev gLt := gOrd (fun i j => decide (i < j)) (fun x y => decide (x < y))
abbrev gGt := gOrd (fun i j => decide (j < i)) (fun x y => decide (y < x))
abbrev gLe := gOrd (fun i j => decide (i ≤ j)) (fun x y => !decide (y < x))
abbrev gGe := gOrd (fun i j => decide (j ≤ i)) (fun x y => !decide (x < y))
theorem op_ltO : OpR X (compareOp .Lt) (rOrd (fun i j => decide (i < j)) (fun x y => decide (x < y))) := OpR.or op_lt op_lt_str
end
end DL
namespace DL
open PySem PySem.Spec L2
section
variable {X : Cx} {T : Tb} {Wx : WX}
theorem op_gtO : OpR X (compareOp .Gt) (rOrd (fun i j => decide (j < i)) (fun x y => decide (y < x))) := OpR.or op_gt op_gt_str
theorem op_leO : OpR X (compareOp .LtE) (rOrd (fun i j => decide (i ≤ j)) (fun x y => !decide (y < x))) := OpR.or op_le op_le_str
theorem op_geO : OpR X (compareOp .GtE) (rOrd (fun i j => decide (j ≤ i)) (fun x y => !decide (x < y))) := OpR.or op_ge op_ge_str

/-! ### arithmetic -/
def gAdd (m n : MV) : Option RV := match m, n with
  | .int i, .int j => some (.v (.int (i + j)))
  | .str x, .str y => if x.length + y.length ≤ sizeLine then some (.v (.str (x ++ y))) else none
  | .lst xs, .lst ys => if xs.length + ys.length ≤ sizeLine then some (.o (.lst (xs ++ ys))) else none
  | .tup xs, .tup ys => if xs.length + ys.length ≤ sizeLine then some (.v (.tup (xs ++ ys))) else none
  | _, _ => none
def rAddA (K : PySem.W.Frag) : R2 := fun x y H Q => (rI0 (fun i j => .int (i + j)) x y H Q ∨ (∃ i j, x = .str i ∧ y = .str j ∧ i.length + j.length ≤ sizeLine ∧ Q (.str (i ++ j)) H)) ∨ (rCat x y H Q ∨ rCatA K x y H Q)
theorem op_addA : OpR X (binaryOp .Add) (rAddA X.K) := OpR.or (OpR.or op_add op_add_str) (OpR.or op_cat op_catA)
theorem Rdb.tupD {K : PySem.W.Frag} {W : AP} {H : Hp} {ms : List MV} {v : V} (h : Rdb K W H (.tup ms) v) : Dat K W H (.tup ms) v := by
  rcases h with h | ⟨a, _, _, o, _, e⟩
  · exact h
  · cases e
theorem Dats.nil_iff {K : PySem.W.Frag} {W : AP} {H : Hp} {ms : List MV} {xs : List V} (d : Dats K W H ms xs) : ms = [] ↔ xs = [] := by
  cases d with
  | nil => simp
  | cons _ _ => simp
theorem ok_add : OpOk X T (rAddA X.K) gAdd := by
  intro G pin W σ H ρ m n x y rv Q r hm hn e k
  unfold gAdd at e
  split at e
  · cases e
    exact .inl (.inl ⟨_, _, hm.int, hn.int, k.fin r (.int _)⟩)
  · split at e
    · rename_i hz
      cases e
      exact .inl (.inr ⟨_, _, hm.str, hn.str, hz, k.fin r (.str _)⟩)
    · cases e
  · split at e
    · rename_i hz
      cases e
      obtain ⟨a, xs, rfl, ha, da⟩ := hm.lst
      obtain ⟨b, ys, rfl, hb, db⟩ := hn.lst
      exact .inr (.inl ⟨a, b, xs, ys, rfl, rfl, ha, hb, by rw [← da.length, ← db.length]; exact hz, fun p hp => k.lst r hp (da.append db)⟩)
    · cases e
  · split at e
    · rename_i hz
      cases e
      have fm := hm.tupD
      have fn := hn.tupD
      obtain ⟨a, xs, rfl, ha, da⟩ := hm.tup
      obtain ⟨b, ys, rfl, hb, db⟩ := hn.tup
      refine .inr (.inr ⟨a, b, xs, ys, rfl, rfl, ha, hb, by rw [← da.length, ← db.length]; exact hz, fun q => ?_, fun _ q => ?_, fun _ _ p hp => k.tup r hp (da.append db)⟩)
      · have q2 := da.nil_iff.mpr q
        subst q2
        exact k.fin r fn
      · have q2 := db.nil_iff.mpr q
        subst q2
        rw [List.append_nil] at k
        exact k.fin r fm
    · cases e
  · cases e
def gInt (C : Int → Int → Bool) (f : Int → Int → Int) (m n : MV) : Option RV := match m, n with
  | .int i, .int j => if C i j = true then some (.v (.int (f i j))) else none
  | _, _ => none
theorem ok_int {C : Int → Int → Prop} {c : Int → Int → Bool} {f : Int → Int → Int} (hc : ∀ i j, c i j = true → C i j) : OpOk X T (rI C fun i j => .int (f i j)) (gInt c f) := by
  intro G pin W σ H ρ m n x y rv Q r hm hn e k
  unfold gInt at e
  split at e
  · split at e
    · rename_i hz
      cases e
      exact ⟨_, _, hm.int, hn.int, hc _ _ hz, k.fin r (.int _)⟩
    · cases e
  · cases e
def cTrue (_ _ : Int) : Bool := true
abbrev gSub := gInt cTrue (fun i j => i - j)
theorem ok_sub : OpOk X T (rI0 fun i j => .int (i - j)) gSub := by
  intro G pin W σ H ρ m n x y rv Q r hm hn e k
  unfold gSub gInt at e
  split at e
  · split at e
    · cases e
      exact ⟨_, _, hm.int, hn.int, k.fin r (.int _)⟩
    · cases e
  · cases e
def cMul (i j : Int) : Bool := decide (i.natAbs < 18446744073709551616) || decide (j.natAbs < 18446744073709551616)
abbrev gMul := gInt cMul (fun i j => i * j)
theorem ok_mul : OpOk X T (rI CMul fun i j => .int (i * j)) gMul := ok_int fun i j h => by
  have e : (2 : Int) ^ 64 = 18446744073709551616 := by decide
  unfold cMul at h
  unfold CMul
  simp only [Bool.or_eq_true, decide_eq_true_eq] at h
  rw [e]
  omega
def cDiv (_ j : Int) : Bool := decide (0 < j) && decide (j.natAbs < 1073741824)
abbrev gDiv := gInt cDiv (fun i j => i / j)
theorem ok_div : OpOk X T (rI CDiv fun i j => .int (i / j)) gDiv := ok_int fun i j h => by
  unfold cDiv at h
  unfold CDiv
  simp only [Bool.and_eq_true, decide_eq_true_eq] at h
  omega
def cMod (_ j : Int) : Bool := decide (0 < j)
abbrev gMod := gInt cMod (fun i j => i % j)
theorem ok_mod : OpOk X T (rI (fun _ j => 0 < j) fun i j => .int (i % j)) gMod := ok_int fun i j h => of_decide_eq_true h
def cPow (i j : Int) : Bool := decide (0 ≤ j) && (decide (j ≤ 1000000) && decide (i.natAbs < 2 ^ 64))
abbrev gPow := gInt cPow (fun i j => i ^ j.toNat)
theorem ok_pow : OpOk X T (rI CPow fun i j => .int (i ^ j.toNat)) gPow := ok_int fun i j h => by
  unfold cPow at h
  simp only [Bool.and_eq_true, decide_eq_true_eq] at h
  exact ⟨h.1, h.2.1, h.2.2⟩
/-- - a -/
def fNeg (f : Rho → Res RV) : Rho → Res RV := fun ρ => (f ρ).bind fun a ρ1 => match cont ρ1 a with
  | some (.int i) => .ok (.v (.int (-i))) ρ1
  | _ => .bad
theorem qe_neg {a : Expr} {f : Rho → Res RV} {pos : Pos} (h : QE X T Wx a f) : QE X T Wx (.UnaryOp .USub a pos) (fNeg f) := by
  refine ⟨fun G pin => PE.imp (pe_un un_neg (h.run G pin)) fun σ H Q ⟨W, ρ, r, h⟩ => ⟨W, ρ, r, Wp.bind h fun a ρ1 W1 H1 b s1 r1 o1 w1 => ?_⟩⟩
  split at w1
  · rename_i i e
    exact ⟨i, (cont_ok r1 o1 e).int, w1 W1 H1 _ (Step.refl _ _ _ r1.gok) r1 (.int _)⟩
  · exact w1.elim

/-! ### items -/
theorem Dats.atI {K : PySem.W.Frag} {W : AP} {H : Hp} {ms : List MV} {xs : List V} {i : Int} {m : MV} (d : Dats K W H ms xs) (e : L2.atI ms i = some m) : ∃ v, L2.atI xs i = some v ∧ Dat K W H m v := by
  unfold L2.atI at e ⊢
  rw [d.length] at e
  cases h : ixN xs.length i with
  | none => rw [h] at e; cases e
  | some j =>
    rw [h] at e
    exact d.get e
def gIx (m n : MV) : Option RV := match m, n with
  | .lst ms, .int i => match atI ms i with
    | some x => some (.v x)
    | none => none
  | .tup ms, .int i => match atI ms i with
    | some x => some (.v x)
    | none => none
  | .str z, .int i => if z.length ≤ sizeLine then match atI z.cps.toList i with
    | some c => some (.v (.str ⟨#[c]⟩))
    | none => none
    else none
  | _, _ => none
theorem ok_ix : OpOk X T (rIx X.K) gIx := by
  intro G pin W σ H ρ m n x y rv Q r hm hn e k
  unfold gIx at e
  split at e
  · split at e
    · rename_i z hz
      cases e
      obtain ⟨a, xs, rfl, ha, da⟩ := hm.lst
      obtain ⟨v, hv, dv⟩ := da.atI hz
      exact .inl ⟨a, xs, _, v, rfl, hn.int, SqL.of ha, hv, k.fin r dv⟩
    · cases e
  · split at e
    · rename_i z hz
      cases e
      obtain ⟨a, xs, rfl, ha, da⟩ := hm.tup
      obtain ⟨v, hv, dv⟩ := da.atI hz
      exact .inr (.inl ⟨a, xs, _, v, rfl, hn.int, ha, hv, k.fin r dv⟩)
    · cases e
  · split at e
    · rename_i hl
      split at e
      · rename_i c hc
        cases e
        exact .inr (.inr ⟨_, _, c, hm.str, hn.int, hl, hc, k.fin r (.str _)⟩)
      · cases e
    · cases e
  · cases e
theorem qe_ix {e1 e2 : Expr} {f1 f2 : Rho → Res RV} {pos : Pos} (h1 : QE X T Wx e1 f1) (h2 : QE X T Wx e2 f2) (hs : PlainIx e2 := by exact fun _ _ => rfl) : QE X T Wx (.Subscript e1 e2 pos) (fOp gIx f1 f2) :=
  ⟨fun G pin => PE.imp (pe_ix ix_seq (h1.run G pin) (h2.run G pin) hs) (op_imp ok_ix h1 h2 G pin (rel := rB))⟩

/-! ### slices -/
def cutL {α : Type} (xs : List α) (lo hi : Option Int) : List α := (xs.drop (HT.sIx xs.length 0 lo)).take (HT.sIx xs.length xs.length hi - HT.sIx xs.length 0 lo)
theorem cutV_eq (xs : List V) (lo hi : Option Int) : cutV xs lo hi = cutL xs lo hi := rfl
theorem Dats.cut {K : PySem.W.Frag} {W : AP} {H : Hp} {ms : List MV} {xs : List V} (d : Dats K W H ms xs) (lo hi : Option Int) : Dats K W H (cutL ms lo hi) (cutV xs lo hi) := by
  rw [cutV_eq]
  unfold cutL
  rw [d.length]
  exact (d.drop _).take _
structure QO (X : Cx) (T : Tb) (Wx : WX) (e : Option Expr) (f : Rho → Res (Option Int)) : Prop where
  run : ∀ (G : AP) (pin : Nat → Option Addr), PO X e (fun σ H Q => ∃ W ρ, RS X.K T G pin W σ H ρ ∧ Wp X T Wx G pin W σ H (fun _ _ _ a b => a = b) Q (f ρ))
theorem PO.imp {X : Cx} {e : Option Expr} {t t' : TO} (h : PO X e t) (i : ∀ σ H Q, t' σ H Q → t σ H Q) : PO X e t' := ⟨fun pins s σ H Q I w => h.run pins s σ H Q I (i σ H Q w)⟩
def fNoPart : Rho → Res (Option Int) := fun ρ => .ok none ρ
def fPart (f : Rho → Res RV) : Rho → Res (Option Int) := fun ρ => (f ρ).bind fun a ρ1 => match cont ρ1 a with
  | some (.int i) => .ok (some i) ρ1
  | _ => .bad
theorem qo_none : QO X T Wx none fNoPart := ⟨fun G pin => PO.imp po_none fun σ H Q ⟨W, ρ, r, h⟩ => h W H none (Step.refl _ _ _ r.gok) r rfl⟩
theorem qo_some {e : Expr} {f : Rho → Res RV} (h : QE X T Wx e f) : QO X T Wx (some e) (fPart f) := by
  refine ⟨fun G pin => PO.imp (po_some (h.run G pin)) fun σ H Q ⟨W, ρ, r, h⟩ => ⟨W, ρ, r, Wp.bind h fun a ρ1 W1 H1 b s1 r1 o1 w1 => ?_⟩⟩
  split at w1
  · rename_i i e
    exact ⟨i, (cont_ok r1 o1 e).int, w1 W1 H1 _ (Step.refl _ _ _ r1.gok) r1 rfl⟩
  · exact w1.elim
def gSl (m : MV) (lo hi : Option Int) : Option RV := match m with
  | .lst ms => some (.o (.lst (cutL ms lo hi)))
  | .scr ns => some (.o (.lst ((cutL ns lo hi).map .int)))
  | .tup ms => some (.v (.tup (cutL ms lo hi)))
  | .str z => if z.length ≤ sizeLine then some (.v (.str (cutS z lo hi))) else none
  | _ => none
theorem cutL_map {α β : Type} (f : α → β) (xs : List α) (lo hi : Option Int) : cutL (xs.map f) lo hi = (cutL xs lo hi).map f := by
  unfold cutL
  rw [List.length_map, List.map_take, List.map_drop]
theorem Rdb.scr {K : PySem.W.Frag} {W : AP} {H : Hp} {ns : List Int} {v : V} (h : Rdb K W H (.scr ns) v) : ∃ a, v = .ref a ∧ SqL K H a (ns.map V.int) := by
  rcases h with h | ⟨a, _, _, o, _, e⟩
  · cases h with
    | scr n h => exact ⟨_, rfl, .inl (.inr ⟨_, h⟩)⟩
    | scrL n h => exact ⟨_, rfl, .inl (.inl h)⟩
    | scrK h =>
      refine ⟨_, rfl, ?_⟩
      rcases h with (h | ⟨o, h⟩) | h
      · cases h
      · cases h
      · exact .inr h
  · cases e
theorem dats_ints {K : PySem.W.Frag} {W : AP} {H : Hp} : ∀ ns : List Int, Dats K W H (ns.map .int) (ns.map V.int)
  | [] => .nil
  | n :: ns => .cons (.int n) (dats_ints ns)
theorem cut_whole {α : Type} (xs : List α) (lo hi : Option Int) (h : HT.sIx xs.length 0 lo = 0 ∧ HT.sIx xs.length xs.length hi = xs.length) : cutL xs lo hi = xs := by
  unfold cutL
  rw [h.1, h.2]
  simp
def rSlAny (K : PySem.W.Frag) : V → Option Int → Option Int → Hp → VK → Prop := fun x lo hi H Q => rSlL K x lo hi H Q ∨ (rSlA K x lo hi H Q ∨ rSlS x lo hi H Q)
theorem ok_sl {G : AP} {pin : Nat → Option Addr} {W : AP} {σ : L2.St} {H : Hp} {ρ : Rho} {m : MV} {x : V} {lo hi : Option Int} {rv : RV} {Q : VK} (r : RS X.K T G pin W σ H ρ) (hm : Rdb X.K W H m x) (e : gSl m lo hi = some rv) (k : Kont X T G pin W σ H ρ rv Q) : rSlAny X.K x lo hi H Q := by
  unfold gSl at e
  split at e
  · cases e
    obtain ⟨a, xs, rfl, ha, da⟩ := hm.lst
    exact .inl ⟨a, xs, rfl, SqL.of ha, fun p hp => k.lst r hp (da.cut lo hi)⟩
  · cases e
    obtain ⟨a, rfl, ha⟩ := hm.scr
    refine .inl ⟨a, _, rfl, ha, fun p hp => k.lst r hp ?_⟩
    rw [cutV_eq, cutL_map]
    exact dats_ints _
  · cases e
    have fm := hm.tupD
    obtain ⟨a, xs, rfl, ha, da⟩ := hm.tup
    refine .inr (.inl ⟨a, xs, rfl, ha, fun hw => ?_, fun _ p hp => k.tup r hp (da.cut lo hi)⟩)
    rw [← da.length] at hw
    rw [cut_whole _ lo hi hw] at k
    exact k.fin r fm
  · split at e
    · rename_i hz
      cases e
      exact .inr (.inr ⟨_, hm.str, hz, k.fin r (.str _)⟩)
    · cases e
  · cases e
def fSl (f : Rho → Res RV) (fl fh : Rho → Res (Option Int)) : Rho → Res RV := fun ρ => (f ρ).bind fun a ρ1 => (fl ρ1).bind fun lo ρ2 => (fh ρ2).bind fun hi ρ3 => match cont ρ3 (hold a) with
  | some m => match gSl m lo hi with
    | some rv => .ok rv ρ3
    | none => .bad
  | none => .bad
theorem qe_sl {e : Expr} {lo hi : Option Expr} {f : Rho → Res RV} {fl fh : Rho → Res (Option Int)} {p2 pos : Pos} (h : QE X T Wx e f) (hl : QO X T Wx lo fl) (hh : QO X T Wx hi fh) : QE X T Wx (.Subscript e (.Slice lo hi none p2) pos) (fSl f fl fh) := by
  refine ⟨fun G pin => PE.imp (pe_slice (SlR.or sl_list (SlR.or sl_tupA sl_str)) (h.run G pin) (hl.run G pin) (hh.run G pin)) fun σ H Q ⟨W, ρ, r, h⟩ => ⟨W, ρ, r, Wp.bind h fun a ρ1 W1 H1 b s1 r1 o1 w1 => ?_⟩⟩
  obtain ⟨W2, s2, r2, o2⟩ := hold_ok r1 o1
  refine ⟨W2, ρ1, r2, Wp.bind (Wp.shift s2 w1) fun l ρ3 W3 H3 l' s3 r3 el w3 => ?_⟩
  have o3 := o2.held (hold_held a) s3 r3
  cases el
  refine ⟨W3, ρ3, r3, Wp.bind w3 fun u ρ4 W4 H4 u' s4 r4 eu w4 => ?_⟩
  have o4 := o3.held (hold_held a) s4 r4
  cases eu
  split at w4
  · rename_i m em
    split at w4
    · rename_i rv eg
      exact ok_sl (X := X) r4 (cont_ok r4 o4 em) eg w4
    · exact w4.elim
  · exact w4.elim
/-- xs[::-1] of a list -/
def fRev (f : Rho → Res RV) : Rho → Res RV := fun ρ => (f ρ).bind fun a ρ1 => match cont ρ1 a with
  | some (.lst ms) => .ok (.o (.lst ms.reverse)) ρ1
  | _ => .bad
theorem qe_rev {e : Expr} {f : Rho → Res RV} {k : Nat} {p1 p2 p3 pos : Pos} (h : QE X T Wx e f) : QE X T Wx (.Subscript e (.Slice none none (some (.UnaryOp .USub (.Constant (.int 1) k p1) p2)) p3) pos) (fRev f) := by
  refine ⟨fun G pin => PE.imp (pe_revL (h.run G pin)) fun σ H Q ⟨W, ρ, r, h⟩ => ⟨W, ρ, r, Wp.bind h fun a ρ1 W1 H1 b s1 r1 o1 w1 => ?_⟩⟩
  split at w1
  · rename_i ms e
    obtain ⟨a, xs, rfl, ha, da⟩ := (cont_ok r1 o1 e).lst
    exact ⟨a, xs, rfl, SqL.of ha, fun p hp => Kont.lst (pin := pin) w1 r1 hp da.reverse⟩
  · exact w1.elim

/-! ### calls of built-ins -/
def CallOk (X : Cx) (T : Tb) (r : List V → Hp → VK → Prop) (g : List MV → Option RV) : Prop :=
  ∀ (G : AP) (pin : Nat → Option Addr) (W : AP) (σ : L2.St) (H : Hp) (ρ : Rho) (ms : List MV) (xs : List V) (rv : RV) (Q : VK), RS X.K T G pin W σ H ρ → Rdbs X.K W H ms xs → g ms = some rv → Kont X T G pin W σ H ρ rv Q → r xs H Q
def fCB (g : List MV → Option RV) (f : Rho → Res (List RV)) : Rho → Res RV := fun ρ => (f ρ).bind fun as ρ1 => match conts ρ1 as with
  | some ms => match g ms with
    | some rv => .ok rv ρ1
    | none => .bad
  | none => .bad
theorem cb_imp {es : List Expr} {f : Rho → Res (List RV)} {r : List V → Hp → VK → Prop} {g : List MV → Option RV} (hg : CallOk X T r g) (h : QA X T Wx es f) (G : AP) (pin : Nat → Option Addr) :
    ∀ σ H Q, (∃ W ρ, RS X.K T G pin W σ H ρ ∧ Wp X T Wx G pin W σ H (rE X G σ) Q (fCB g f ρ)) → tCB r (fun σ H Q => ∃ W ρ, RS X.K T G pin W σ H ρ ∧ Wp X T Wx G pin W σ H (rA X G σ) Q (f ρ)) σ H Q := by
  rintro σ H Q ⟨W, ρ, r0, h⟩
  refine ⟨W, ρ, r0, Wp.bind h fun as ρ1 W1 H1 vs s1 r1 o1 w1 => ?_⟩
  split at w1
  · rename_i ms e
    split at w1
    · rename_i rv eg
      exact hg G pin W1 σ H1 ρ1 ms vs rv Q r1 (conts_ok r1 o1 e) eg w1
    · exact w1.elim
  · exact w1.elim
theorem qe_cb {x : Str} {id : String} {e : Expr} {es : List Expr} {f : Rho → Res (List RV)} {r : List V → Hp → VK → Prop} {g : List MV → Option RV} {p pos : Pos} (hc : CallR X (.builtin id) r) (hg : CallOk X T r g) (hm : X.mg x = none) (hv : bootBuiltins x = some (.builtin id)) (ha : QA X T Wx (e :: es) f) (hgl : Gl X x := by rfl)
    (hn : x ≠ "__name__" := by decide) (hdb : (x == ("__debug__" : Str)) = false := by decide) (he : starEach (e :: es) X.env = (false, eval e X.env) :: starEach es X.env := by rfl) (hpl : (backTo pos (starEach es X.env)).any (·.1) = false := by rfl) : QE X T Wx (.Call (.Name x p) (e :: es) [] pos) (fCB g f) :=
  ⟨fun G pin => PE.imp (pe_callB hc hgl hm hv (ha.run G pin) hn hdb he hpl) (cb_imp hg ha G pin)⟩
theorem qe_cty {x : Str} {id : String} {e : Expr} {es : List Expr} {f : Rho → Res (List RV)} {r : List V → Hp → VK → Prop} {g : List MV → Option RV} {p pos : Pos} (hc : CallR X (.type id) r) (hg : CallOk X T r g) (hm : X.mg x = none) (hv : bootBuiltins x = some (.type id)) (ha : QA X T Wx (e :: es) f) (hgl : Gl X x := by rfl)
    (hn : x ≠ "__name__" := by decide) (hdb : (x == ("__debug__" : Str)) = false := by decide) (he : starEach (e :: es) X.env = (false, eval e X.env) :: starEach es X.env := by rfl) (hpl : (backTo pos (starEach es X.env)).any (·.1) = false := by rfl) : QE X T Wx (.Call (.Name x p) (e :: es) [] pos) (fCB g f) :=
  ⟨fun G pin => PE.imp (pe_callTy hc hgl hm hv (ha.run G pin) hn hdb he hpl) (cb_imp hg ha G pin)⟩
theorem Rdbs.one {K : PySem.W.Frag} {W : AP} {H : Hp} {m : MV} {xs : List V} (h : Rdbs K W H [m] xs) : ∃ x, xs = [x] ∧ Rdb K W H m x := by
  cases h with
  | cons a b => cases b; exact ⟨_, rfl, a⟩
theorem Rdbs.two {K : PySem.W.Frag} {W : AP} {H : Hp} {m n : MV} {xs : List V} (h : Rdbs K W H [m, n] xs) : ∃ x y, xs = [x, y] ∧ Rdb K W H m x ∧ Rdb K W H n y := by
  cases h with
  | cons a b =>
    cases b with
    | cons c d => cases d; exact ⟨_, _, rfl, a, c⟩
/-- len -/
def gLen (ms : List MV) : Option RV := match ms with
  | [.lst xs] => some (.v (.int xs.length))
  | [.tup xs] => some (.v (.int xs.length))
  | [.scr xs] => some (.v (.int xs.length))
  | [.str z] => if z.length ≤ sizeLine then some (.v (.int z.length)) else none
  | _ => none
def rLenA (K : PySem.W.Frag) : List V → Hp → VK → Prop := fun xs H Q => (∃ p ys, xs = [.ref p] ∧ (SqL K H p ys ∨ SqT K H p ys) ∧ Q (.int ys.length) H) ∨ ∃ z, xs = [.str z] ∧ z.length ≤ sizeLine ∧ Q (.int z.length) H
theorem call_lenA : CallR X (.builtin "len") (rLenA X.K) := CallR.or call_len_seq call_len_str
theorem ok_len : CallOk X T (rLenA X.K) gLen := by
  intro G pin W σ H ρ ms xs rv Q r h e k
  unfold gLen at e
  split at e
  · cases e
    obtain ⟨x, rfl, hx⟩ := h.one
    obtain ⟨a, ys, rfl, ha, da⟩ := hx.lst
    refine .inl ⟨a, ys, rfl, .inl (SqL.of ha), ?_⟩
    rw [← da.length]
    exact k.fin r (.int _)
  · cases e
    obtain ⟨x, rfl, hx⟩ := h.one
    obtain ⟨a, ys, rfl, ha, da⟩ := hx.tup
    refine .inl ⟨a, ys, rfl, .inr ha, ?_⟩
    rw [← da.length]
    exact k.fin r (.int _)
  · cases e
    obtain ⟨x, rfl, hx⟩ := h.one
    obtain ⟨a, rfl, ha⟩ := hx.scr
    refine .inl ⟨a, _, rfl, .inl ha, ?_⟩
    rw [List.length_map]
    exact k.fin r (.int _)
  · split at e
    · rename_i hz
      cases e
      obtain ⟨x, rfl, hx⟩ := h.one
      exact .inr ⟨_, by rw [hx.str], hz, k.fin r (.int _)⟩
    · cases e
  · cases e
/-- all, any -/
def asBls : List MV → Option (List Bool)
  | [] => some []
  | .bl b :: r => match asBls r with
    | some bs => some (b :: bs)
    | none => none
  | _ => none
theorem asBls_ok {K : PySem.W.Frag} {W : AP} {H : Hp} : ∀ {ms : List MV} {xs : List V} {bs : List Bool}, Dats K W H ms xs → asBls ms = some bs → xs = bs.map V.bl
  | [], _, bs, .nil, e => by
    cases e
    rfl
  | m :: ms, _, bs, .cons d r, e => by
    cases m with
    | bl b =>
      simp only [asBls] at e
      split at e
      · rename_i cs ec
        cases e
        have e1 : _ = V.bl b := Rdb.bl (.inl d)
        rw [e1, asBls_ok r ec]
        rfl
      · cases e
    | _ => simp [asBls] at e
def gBls (f : List Bool → Bool) (ms : List MV) : Option RV := match ms with
  | [.lst xs] => match asBls xs with
    | some bs => some (.v (.bl (f bs)))
    | none => none
  | _ => none
theorem ok_all : CallOk X T (rAll X.K) (gBls fun bs => bs.all id) := by
  intro G pin W σ H ρ ms xs rv Q r h e k
  unfold gBls at e
  split at e
  · split at e
    · rename_i bs eb
      cases e
      obtain ⟨x, rfl, hx⟩ := h.one
      obtain ⟨a, ys, rfl, ha, da⟩ := hx.lst
      have ey := asBls_ok da eb
      subst ey
      exact ⟨a, bs, rfl, SqL.of ha, k.fin r (.bl _)⟩
    · cases e
  · cases e
theorem ok_any : CallOk X T (rAny X.K) (gBls fun bs => bs.any id) := by
  intro G pin W σ H ρ ms xs rv Q r h e k
  unfold gBls at e
  split at e
  · split at e
    · rename_i bs eb
      cases e
      obtain ⟨x, rfl, hx⟩ := h.one
      obtain ⟨a, ys, rfl, ha, da⟩ := hx.lst
      have ey := asBls_ok da eb
      subst ey
      exact ⟨a, bs, rfl, SqL.of ha, k.fin r (.bl _)⟩
    · cases e
  · cases e
/-- sum -/
def asInts : List MV → Option (List Int)
  | [] => some []
  | .int b :: r => match asInts r with
    | some bs => some (b :: bs)
    | none => none
  | _ => none
theorem asInts_ok {K : PySem.W.Frag} {W : AP} {H : Hp} : ∀ {ms : List MV} {xs : List V} {bs : List Int}, Dats K W H ms xs → asInts ms = some bs → xs = bs.map V.int
  | [], _, bs, .nil, e => by
    cases e
    rfl
  | m :: ms, _, bs, .cons d r, e => by
    cases m with
    | int b =>
      simp only [asInts] at e
      split at e
      · rename_i cs ec
        cases e
        have e1 : _ = V.int b := Rdb.int (.inl d)
        rw [e1, asInts_ok r ec]
        rfl
      · cases e
    | _ => simp [asInts] at e
def gSum (ms : List MV) : Option RV := match ms with
  | [.lst xs] => match asInts xs with
    | some bs => some (.v (.int bs.sum))
    | none => none
  | _ => none
theorem ok_sum : CallOk X T (rSum X.K) gSum := by
  intro G pin W σ H ρ ms xs rv Q r h e k
  unfold gSum at e
  split at e
  · split at e
    · rename_i bs eb
      cases e
      obtain ⟨x, rfl, hx⟩ := h.one
      obtain ⟨a, ys, rfl, ha, da⟩ := hx.lst
      have ey := asInts_ok da eb
      subst ey
      exact ⟨a, bs, rfl, SqL.of ha, k.fin r (.int _)⟩
    · cases e
  · cases e
/-- tuple(x), list(x) -/
def gTuple (ms : List MV) : Option RV := match ms with
  | [.lst xs] => some (.v (.tup xs))
  | [.tup xs] => some (.v (.tup xs))
  | _ => none
theorem ok_tuple : CallOk X T (fun xs H Q => ∃ p ys, xs = [V.ref p] ∧ ((SqL X.K H p ys ∧ ∀ l, H l = none → Q (.ref l) (upd H l (.tup ys))) ∨ (SqT X.K H p ys ∧ Q (.ref p) H))) gTuple := by
  intro G pin W σ H ρ ms xs rv Q r h e k
  unfold gTuple at e
  split at e
  · cases e
    obtain ⟨x, rfl, hx⟩ := h.one
    obtain ⟨a, ys, rfl, ha, da⟩ := hx.lst
    exact ⟨a, ys, rfl, .inl ⟨SqL.of ha, fun p hp => k.tup r hp da⟩⟩
  · cases e
    obtain ⟨x, rfl, hx⟩ := h.one
    have fx := hx.tupD
    obtain ⟨a, ys, rfl, ha, da⟩ := hx.tup
    exact ⟨a, ys, rfl, .inr ⟨ha, k.fin r fx⟩⟩
  · cases e
def gList (ms : List MV) : Option RV := match ms with
  | [.lst xs] => some (.o (.lst xs))
  | [.tup xs] => some (.o (.lst xs))
  | _ => none
theorem ok_list : CallOk X T (fun xs H Q => ∃ p ys, xs = [V.ref p] ∧ (SqL X.K H p ys ∨ SqT X.K H p ys) ∧ ∀ l, H l = none → Q (.ref l) (upd H l (.lst ys))) gList := by
  intro G pin W σ H ρ ms xs rv Q r h e k
  unfold gList at e
  split at e
  · cases e
    obtain ⟨x, rfl, hx⟩ := h.one
    obtain ⟨a, ys, rfl, ha, da⟩ := hx.lst
    exact ⟨a, ys, rfl, .inl (SqL.of ha), fun p hp => k.lst r hp da⟩
  · cases e
    obtain ⟨x, rfl, hx⟩ := h.one
    obtain ⟨a, ys, rfl, ha, da⟩ := hx.tup
    exact ⟨a, ys, rfl, .inr ha, fun p hp => k.lst r hp da⟩
  · cases e
/-- abs, int -/
def gAbs (ms : List MV) : Option RV := match ms with
  | [.int i] => some (.v (.int (if i < 0 then -i else i)))
  | _ => none
theorem ok_abs : CallOk X T (fun xs H Q => ∃ i, xs = [V.int i] ∧ Q (.int (if i < 0 then -i else i)) H) gAbs := by
  intro G pin W σ H ρ ms xs rv Q r h e k
  unfold gAbs at e
  split at e
  · cases e
    obtain ⟨x, rfl, hx⟩ := h.one
    exact ⟨_, by rw [hx.int], k.fin r (.int _)⟩
  · cases e
def gIntOf (ms : List MV) : Option RV := match ms with
  | [.int i] => some (.v (.int i))
  | [.bl b] => some (.v (.int (if b then 1 else 0)))
  | _ => none
theorem ok_intOf : CallOk X T (fun xs H Q => (∃ i, xs = [V.int i] ∧ Q (.int i) H) ∨ ∃ k, xs = [V.bl k] ∧ Q (.int (if k then 1 else 0)) H) gIntOf := by
  intro G pin W σ H ρ ms xs rv Q r h e k
  unfold gIntOf at e
  split at e
  · cases e
    obtain ⟨x, rfl, hx⟩ := h.one
    exact .inl ⟨_, by rw [hx.int], k.fin r (.int _)⟩
  · cases e
    obtain ⟨x, rfl, hx⟩ := h.one
    exact .inr ⟨_, by rw [hx.bl], k.fin r (.int _)⟩
  · cases e
/-- isinstance -/
def tyN : MV → Option String
  | .non => some "NoneType"
  | .bl _ => some "bool"
  | .int _ => some "int"
  | .str _ => some "str"
  | .tup _ => some "tuple"
  | .lst _ => some "list"
  | _ => none
def tyNs : List String := ["NoneType", "bool", "int", "str", "tuple", "list"]
def clNs : List String := ["bool", "int", "str", "tuple", "list", "dict"]
def isTy (a b : String) : Bool := (a == b) || (a == "bool" && b == "int")
theorem kitB_ok : ∀ a ∈ tyNs, ∀ b ∈ clNs, kitB a b = some (isTy a b) := by decide +kernel
theorem tyN_mem {m : MV} {a : String} (h : tyN m = some a) : a ∈ tyNs := by
  unfold tyN at h
  split at h <;> first | (cases h; decide) | cases h
theorem Rdb.tyX {K : PySem.W.Frag} {W : AP} {H : Hp} {m : MV} {v : V} {a : String} (h : Rdb K W H m v) (e : tyN m = some a) : TyX K H v (.type a) := by
  unfold tyN at e
  split at e
  · cases e; rw [h.non]; exact .base .non
  · cases e; rw [h.bl]; exact .base (.bl _)
  · cases e; rw [h.int]; exact .base (.int _)
  · cases e; rw [h.str]; exact .base (.str _)
  · cases e
    obtain ⟨b, xs, rfl, ha, _⟩ := h.tup
    rcases ha with (ha | ⟨o, ha⟩) | ⟨o, its, n, ha, hc, _⟩
    · exact .base (.tup ha)
    · exact .fTuple ha
    · exact .kTuple ha hc
  · cases e
    obtain ⟨b, xs, rfl, ha, _⟩ := h.lst
    exact .base (.lst ha)
  · cases e
def asTys : List MV → Option (List String)
  | [] => some []
  | .ty b :: r => match asTys r with
    | some bs => if b ∈ clNs then some (b :: bs) else none
    | none => none
  | _ => none
def gIsi (ms : List MV) : Option RV := match ms with
  | [m, .ty c] => match tyN m with
    | some a => if c ∈ clNs then some (.v (.bl (isTy a c))) else none
    | none => none
  | [m, .tup cs] => match tyN m, asTys cs with
    | some a, some bs => some (.v (.bl (bs.any (isTy a))))
    | _, _ => none
  | _ => none
theorem asTys_ok {K : PySem.W.Frag} {W : AP} {H : Hp} : ∀ {ms : List MV} {xs : List V} {bs : List String}, Dats K W H ms xs → asTys ms = some bs → Paired ClsV xs (bs.map Value.type) ∧ ∀ b ∈ bs, b ∈ clNs
  | [], _, bs, .nil, e => by
    cases e
    exact ⟨.nil, fun b h => by cases h⟩
  | m :: ms, _, bs, .cons d r, e => by
    cases m with
    | ty b =>
      simp only [asTys] at e
      split at e
      · rename_i cs ec
        split at e
        · rename_i hb
          cases e
          obtain ⟨h1, h2⟩ := asTys_ok r ec
          cases d
          refine ⟨.cons (.ty b) h1, fun c hc => ?_⟩
          rcases List.mem_cons.mp hc with rfl | hc
          · exact hb
          · exact h2 c hc
        · cases e
      · cases e
    | _ => simp [asTys] at e
theorem kitAny_ok {K : PySem.W.Frag} {a : String} (ha : a ∈ tyNs) : ∀ bs : List String, (∀ b ∈ bs, b ∈ clNs) → PySem.W.kitAny K (.type a) (bs.map Value.type) = some (bs.any (isTy a))
  | [], _ => kitAny_nil
  | b :: bs, h => by
    have ih := kitAny_ok (K := K) ha bs fun c hc => h c (List.mem_cons_of_mem _ hc)
    refine kitAny_cons (kit_ty (kitB_ok a ha b (h b List.mem_cons_self))) (fun e => ?_) (fun e => ?_)
    · rw [ih, List.any_cons, e]
      rfl
    · rw [List.any_cons, e]
      rfl
theorem ok_isi : CallOk X T (fun xs H Q => rIsi X.K xs H Q ∨ (rIsiT X.K xs H Q ∨ rIsiK X.K xs H Q)) gIsi := by
  intro G pin W σ H ρ ms xs rv Q r h e k
  unfold gIsi at e
  split at e
  · rename_i m c
    split at e
    · rename_i a ea
      split at e
      · rename_i hc
        cases e
        obtain ⟨x, y, rfl, hx, hy⟩ := h.two
        have ey : y = .ty c := by
          rcases hy with hy | ⟨_, _, _, _, _, q⟩
          · cases hy; rfl
          · cases q
        subst ey
        exact .inl ⟨x, .ty c, _, _, _, rfl, .ty c, hx.tyX ea, kit_ty (kitB_ok a (tyN_mem ea) c hc), k.fin r (.bl _)⟩
      · cases e
    · cases e
  · rename_i m cs
    split at e
    · rename_i a bs ea eb
      cases e
      obtain ⟨x, y, rfl, hx, hy⟩ := h.two
      have fy := hy.tupD
      cases fy with
      | tup t d =>
        rename_i b zs
        obtain ⟨h1, h2⟩ := asTys_ok d eb
        rcases t with ⟨_, t⟩ | t
        · exact .inr (.inl ⟨x, b, zs, _, _, _, rfl, t, h1, hx.tyX ea, kitAny_ok (tyN_mem ea) bs h2, k.fin r (.bl _)⟩)
        · rcases t with (t | ⟨_, t⟩) | ⟨o, its, n, hk, hc, hd, hz, rv⟩
          · cases t
          · cases t
          · obtain ⟨oc, od, dt, sl⟩ := o
            simp only at hc hd
            subst hc hd
            have ev := ClsV.all h1 rv
            refine .inr (.inr ⟨x, b, od, _, n, sl, _, _, rfl, ?_, hx.tyX ea, kitAny_ok (tyN_mem ea) bs h2, k.fin r (.bl _)⟩)
            rw [hk, ← ev]
    · cases e
  · cases e
theorem call_isiA : CallR X (.builtin "isinstance") (fun xs H Q => rIsi X.K xs H Q ∨ (rIsiT X.K xs H Q ∨ rIsiK X.K xs H Q)) := CallR.or call_isi (CallR.or call_isiT call_isiK)
end
end DL
namespace DL
open PySem PySem.Spec L2
section
variable {X : Cx} {T : Tb} {Wx : WX} {G : AP} {pin : Nat → Option Addr} {W W' : AP} {σ : L2.St} {H H' : Hp} {ρ ρ' : Rho}
/-! ### own lists changed in place -/
def lstAt (ρ : Rho) (i : Nat) : Option (List MV) := match ρ[i]? with
  | some (.ow (.lst ms)) => some ms
  | some (.io (.lst ms)) => some ms
  | _ => none
def putL (ρ : Rho) (i : Nat) (ms : List MV) : Rho := match ρ[i]? with
  | some (.ow _) => ρ.set i (.ow (.lst ms))
  | some (.io _) => ρ.set i (.io (.lst ms))
  | _ => ρ
theorem lstAt_own {i : Nat} {ms : List MV} (h : lstAt ρ i = some ms) : ρ[i]? = some (.ow (.lst ms)) ∨ ρ[i]? = some (.io (.lst ms)) := by
  unfold lstAt at h
  split at h
  · rename_i e; cases h; exact .inl e
  · rename_i e; cases h; exact .inr e
  · cases h
theorem lstAt_at (r : RS X.K T G pin W σ H ρ) {i : Nat} {ms : List MV} (h : lstAt ρ i = some ms) : ∃ a xs, σ[i]? = some (some (V.ref a)) ∧ W a ∧ ¬ G a ∧ H a = some (.lst xs) ∧ Dats X.K W H ms xs := by
  rcases lstAt_own h with e | e
  · obtain ⟨a, h1, ⟨hw, o, h2, d⟩, ng⟩ := r.sl i _ e
    cases d with
    | lst d => exact ⟨a, _, h1, hw, ng, h2, d⟩
  · obtain ⟨a, h1, ⟨hw, o, h2, d⟩, ng, _⟩ := r.sl i _ e
    cases d with
    | lst d => exact ⟨a, _, h1, hw, ng, h2, d⟩
theorem tabs_write {T : List (Addr × Str)} {a : Addr} {xs ys : List V} (ha : H a = some (.lst xs)) (t : LamX.Tabs T H) : LamX.Tabs T (upd H a (.lst ys)) := fun p hp => by
  obtain ⟨ps, h1, h2, h3⟩ := t p hp
  refine ⟨ps, by rw [upd_ne (ne_of h1 ha (by intro z; cases z))]; exact h1, h2, fun pos cv hc => ?_⟩
  obtain ⟨c, e1, e2⟩ := h3 pos cv hc
  exact ⟨c, e1, by rw [upd_ne (ne_of e2 ha (by intro z; cases z))]; exact e2⟩
theorem step_write (gok : ∀ a, G a → W a) {a : Addr} {xs ys : List V} (hw : W a) (ng : ¬ G a) (ha : H a = some (.lst xs)) : Step G W H W (upd H a (.lst ys)) :=
  ⟨fun b o e n _ => ⟨n, by rw [upd_ne fun z : b = a => n (z ▸ hw)]; exact e⟩, fun b o g e _ => ⟨by rw [upd_ne fun z : b = a => ng (z ▸ g)]; exact e, gok b g⟩⟩
theorem putL_ok (r : RS X.K T G pin W σ H ρ) {i : Nat} {ms : List MV} {a : Addr} {xs : List V} (h : lstAt ρ i = some ms) (hs : σ[i]? = some (some (V.ref a))) (hw : W a) (ng : ¬ G a) (ha : H a = some (.lst xs)) {ns : List MV} {ys : List V} (d : Dats X.K W H ns ys) :
    RS X.K T G pin W σ (upd H a (.lst ys)) (putL ρ i ns) := by
  have st := step_write (ys := ys) r.gok hw ng ha
  have hi : i < ρ.length := by
    rcases lstAt_own h with e | e <;> exact (List.getElem?_eq_some_iff.mp e).1
  have dn := d.keep st.keeps
  obtain ⟨s0, e0, o0, s1, o1, ep, ok1⟩ : ∃ s0, ρ[i]? = some s0 ∧ s0.own = true ∧ ∃ s1, s1.own = true ∧ putL ρ i ns = ρ.set i s1 ∧ SlOk X.K G pin W σ (upd H a (.lst ys)) i s1 := by
    rcases lstAt_own h with e | e
    · refine ⟨_, e, rfl, .ow (.lst ns), rfl, by unfold putL; rw [e], a, hs, ⟨hw, _, upd_same, .lst dn⟩, ng⟩
    · obtain ⟨b, h1, _, _, hp⟩ := r.sl i _ e
      rw [hs] at h1
      cases h1
      refine ⟨_, e, rfl, .io (.lst ns), rfl, by unfold putL; rw [e], a, hs, ⟨hw, _, upd_same, .lst dn⟩, ng, hp⟩
  rw [ep]
  have back : ∀ (l : Nat) (t : Sl), (ρ.set i s1)[l]? = some t → t.own = true → ∃ t', ρ[l]? = some t' ∧ t'.own = true := fun l t e o => by
    by_cases hl : l = i
    · subst hl
      exact ⟨s0, e0, o0⟩
    · rw [List.getElem?_set_ne (Ne.symm hl)] at e
      exact ⟨t, e, o⟩
  refine ⟨by rw [List.length_set]; exact r.len, fun j t e => ?_, fun j k s t b ej ek oj ok qj qk => ?_, fun b w => ?_, r.gok, r.tabs.step st.keeps (tabs_write ha r.tabs.tb)⟩
  · by_cases hj : j = i
    · subst hj
      rw [List.getElem?_set_self hi] at e
      cases e
      exact ok1
    · rw [List.getElem?_set_ne (Ne.symm hj)] at e
      have q := r.sl j t e
      have ne : ∀ {c : Addr}, t.own = true → σ[j]? = some (some (V.ref c)) → c ≠ a := fun {c} o q z => hj (r.dis j i t s0 a e e0 o o0 (by rw [q, z]) hs)
      cases t with
      | no => trivial
      | sh y => obtain ⟨u, q1, q2⟩ := q; exact ⟨u, q1, q2.keep st.keeps⟩
      | ow y => obtain ⟨c, q1, q2, q3⟩ := q; exact ⟨c, q1, q2.keep st.keeps q2.1 (upd_ne (ne rfl q1)), q3⟩
      | io y => obtain ⟨c, q1, q2, q3, q4⟩ := q; exact ⟨c, q1, q2.keep st.keeps q2.1 (upd_ne (ne rfl q1)), q3, q4⟩
  · obtain ⟨s', es, os⟩ := back j s ej oj
    obtain ⟨t', et, ot⟩ := back k t ek ok
    exact r.dis j k s' t' b es et os ot qj qk
  · by_cases hb : b = a
    · subst hb; exact ⟨_, upd_same, mo_lst⟩
    · rw [upd_ne hb]; exact r.wok b w
def MutOk (X : Cx) (r : V → List V → Hp → VK → Prop) (u : List MV → List MV → Option (List MV × MV)) : Prop :=
  ∀ (W : AP) (H : Hp) (a : Addr) (xs : List V) (ls args ls' : List MV) (vs : List V) (res : MV) (Q : VK), H a = some (.lst xs) → Dats X.K W H ls xs → Dats X.K W H args vs → u ls args = some (ls', res) →
    (∀ ys v, Dats X.K W H ls' ys → Dat X.K W H res v → Q v (upd H a (.lst ys))) → r (.ref a) vs H Q
def fMut (u : List MV → List MV → Option (List MV × MV)) (i : Nat) (fa : Rho → Res (List RV)) : Rho → Res RV := fun ρ => match lstAt ρ i with
  | none => .bad
  | some _ => (fa ρ).bind fun as ρ1 => (shrs ρ1 as).bind fun ms ρ2 => match lstAt ρ2 i with
    | none => .bad
    | some ls => match u ls ms with
      | some (ls', res) => .ok (.v res) (putL ρ2 i ls')
      | none => .bad
theorem mut_fin {r : V → List V → Hp → VK → Prop} {u : List MV → List MV → Option (List MV × MV)} (hu : MutOk X r u) (rs : RS X.K T G pin W σ H ρ) {i : Nat} {a : Addr} {ms : List MV} {vs : List V} {Q : VK} (hs : σ[i]? = some (some (V.ref a))) (d : Dats X.K W H ms vs)
    (w : Wp X T Wx G pin W σ H (rE X G σ) Q (match lstAt ρ i with
      | none => .bad
      | some ls => match u ls ms with
        | some (ls', res) => .ok (.v res) (putL ρ i ls')
        | none => .bad)) : r (.ref a) vs H Q := by
  split at w
  · exact w.elim
  · rename_i ls el
    split at w
    · rename_i ls' res eu
      obtain ⟨b, xs, h1, hw, ng, ha, dx⟩ := lstAt_at rs el
      rw [hs] at h1
      cases h1
      refine hu W H a xs ls ms ls' vs res Q ha dx d eu fun ys v dy dv => ?_
      have st := step_write (ys := ys) rs.gok hw ng ha
      exact w W _ v st (putL_ok rs el hs hw ng ha dy) (Dat.keep st.keeps dv)
    · exact w.elim
theorem qe_mut {i : Nat} {x nm : Str} {id : String} {e : Expr} {es : List Expr} {fa : Rho → Res (List RV)} {p1 apos cpos : Pos} {r : V → List V → Hp → VK → Prop} {u : List MV → List MV → Option (List MV × MV)} (slot : Slot "list" nm id) (hty : typeOf (.builtin id) = pure (.type "method_descriptor")) (hm : MtR X id r) (hu : MutOk X r u) (ha : QA X T Wx (e :: es) fa)
    (hN : X.N[i]? = some x := by rfl) (hv : Vis X.env.scope x := by first | exact Or.inl rfl | exact Or.inr (Or.inl rfl) | exact Or.inr (Or.inr rfl)) (hd : (x == ("__debug__" : Str)) = false := by decide) (hcd : (x == ("__classdict__" : Str)) = false := by decide)
    (hbase : attributeBase (.Name x p1) nm X.env (eval (.Name x p1) X.env) = eval (.Name x p1) X.env := by rfl)
    (hfew : ((backTo cpos (starEach (e :: es) X.env)).all (fun x => !x.1) && (backToKw cpos (keywordEach [] X.env)).all (fun x => x.1.isSome)
      && decide ((e :: es).length + ([] : List Keyword).length + (if ([] : List Keyword).isEmpty then 0 else 1) < 30)) = true := by rfl)
    (hline : (apos.endLine == cpos.line) = true := by rfl) (hst : starEach (e :: es) X.env = (false, eval e X.env) :: starEach es X.env := by rfl) (hplain : (backTo cpos (starEach es X.env)).any (·.1) = false := by rfl) :
    QE X T Wx (.Call (.Attribute (.Name x p1) nm apos) (e :: es) [] cpos) (fMut u i fa) := by
  refine ⟨fun G pin => PE.imp (pe_bm PySem.F.plainAttrs_list slot hty hm (pe_var (i := i) hN hv hd hcd) (ha.run G pin) hbase hfew hline hst hplain) fun σ H Q ⟨W, ρ, rs, h⟩ => ?_⟩
  unfold fMut at h
  split at h
  · exact h.elim
  · rename_i ls0 e0
    obtain ⟨a, xs0, hs, _, _, ha0, _⟩ := lstAt_at rs e0
    refine ⟨.ref a, hs, Or.inl ⟨rfl, _, Or.inl (Or.inl ha0)⟩, W, ρ, rs, Wp.bind h fun as ρ1 W1 H1 vs s1 r1 o1 w1 => ?_⟩
    cases es' : shrs ρ1 as with
    | bad => rw [es'] at w1; exact w1.elim
    | ex y ρ2 => exact absurd es' shrs_noex
    | ok ms ρ2 =>
      rw [es'] at w1
      obtain ⟨W2, s2, r2, d2⟩ := shrs_ok r1 o1 es'
      exact mut_fin hu r2 hs d2 (Wp.shift s2 w1)
def fMut0 (u : List MV → List MV → Option (List MV × MV)) (i : Nat) : Rho → Res RV := fun ρ => match lstAt ρ i with
  | none => .bad
  | some ls => match u ls [] with
    | some (ls', res) => .ok (.v res) (putL ρ i ls')
    | none => .bad
theorem qe_mut0 {i : Nat} {x nm : Str} {id : String} {p1 apos cpos : Pos} {r : V → List V → Hp → VK → Prop} {u : List MV → List MV → Option (List MV × MV)} (slot : Slot "list" nm id) (hty : typeOf (.builtin id) = pure (.type "method_descriptor")) (hm : MtR X id r) (hu : MutOk X r u)
    (hN : X.N[i]? = some x := by rfl) (hv : Vis X.env.scope x := by first | exact Or.inl rfl | exact Or.inr (Or.inl rfl) | exact Or.inr (Or.inr rfl)) (hd : (x == ("__debug__" : Str)) = false := by decide) (hcd : (x == ("__classdict__" : Str)) = false := by decide)
    (hbase : attributeBase (.Name x p1) nm X.env (eval (.Name x p1) X.env) = eval (.Name x p1) X.env := by rfl) (hline : (apos.endLine == cpos.line) = true := by rfl) :
    QE X T Wx (.Call (.Attribute (.Name x p1) nm apos) [] [] cpos) (fMut0 u i) := by
  refine ⟨fun G pin => PE.imp (pe_bm0 PySem.F.plainAttrs_list slot hty hm (pe_var (i := i) hN hv hd hcd) hbase hline) fun σ H Q ⟨W, ρ, rs, h⟩ => ?_⟩
  cases e0 : lstAt ρ i with
  | none => unfold fMut0 at h; rw [e0] at h; exact h.elim
  | some ls0 =>
    obtain ⟨a, xs0, hs, _, _, ha0, _⟩ := lstAt_at rs e0
    exact ⟨.ref a, hs, Or.inl ⟨rfl, _, Or.inl (Or.inl ha0)⟩, mut_fin hu rs hs .nil h⟩
def uAppend (ls args : List MV) : Option (List MV × MV) := match args with
  | [m] => if ls.length < sizeLine then some (ls ++ [m], .non) else none
  | _ => none
theorem mu_append : MutOk X rAppend uAppend := by
  intro W H a xs ls args ls' vs res Q ha d da e k
  unfold uAppend at e
  split at e
  · split at e
    · rename_i m hz
      cases e
      cases da with
      | cons d1 dn =>
        cases dn
        exact ⟨a, xs, _, rfl, rfl, ha, by rw [← d.length]; exact hz, k _ _ (d.append (.cons d1 .nil)) .non⟩
    · cases e
  · cases e
def uExtend (ls args : List MV) : Option (List MV × MV) := match args with
  | [.lst ns] => if ls.length + ns.length ≤ sizeLine then some (ls ++ ns, .non) else none
  | _ => none
theorem mu_extend : MutOk X rExtend uExtend := by
  intro W H a xs ls args ls' vs res Q ha d da e k
  unfold uExtend at e
  split at e
  · split at e
    · rename_i m hz
      cases e
      cases da with
      | cons d1 dn =>
        cases dn
        cases d1 with
        | lst n hb db => exact ⟨a, _, xs, _, rfl, rfl, ha, hb, by rw [← d.length, ← db.length]; exact hz, k _ _ (d.append db) .non⟩
    · cases e
  · cases e
def uPop (ls args : List MV) : Option (List MV × MV) := match args with
  | [] => match ls[ls.length - 1]? with
    | some x => some (ls.dropLast, x)
    | none => none
  | _ => none
theorem mu_pop : MutOk X rPop uPop := by
  intro W H a xs ls args ls' vs res Q ha d da e k
  unfold uPop at e
  split at e
  · split at e
    · rename_i x hx
      cases e
      cases da
      rw [d.length] at hx
      obtain ⟨v, hv, dv⟩ := d.get hx
      exact ⟨a, xs, v, rfl, rfl, ha, hv, k _ _ d.dropLast dv⟩
    · cases e
  · cases e

/-! ### defs -/
inductive FRes where
  | ret (r : RV) (ρ : Rho) | ex (x : Exn) (ρ : Rho) | bad
def WpF (K : PySem.W.Frag) (mg : Str → Option Value) (T : Tb) (G : AP) (pin : Nat → Option Addr) (W : AP) (σ : L2.St) (H : Hp) (Q : VK) (E : XK) : FRes → Prop
  | .ret r ρ' => ∀ W' H' v, Step G W H W' H' → RS K T G pin W' σ H' ρ' → RvOk K G W' σ H' ρ' r v → Q v H'
  | .ex x ρ' => ∀ W' H' cls d, Step G W H W' H' → RS K T G pin W' σ H' ρ' → ExOk K mg W' H' x cls d → E cls d H'
  | .bad => False
/-- a def's promise: what F says of its arguments -/
def spV (K : PySem.W.Frag) (mg : Str → Option Value) (T : Tb) (n : Nat) (F : Rho → FRes) : Sp := fun vs H Q E => ∃ G W ρ pin, RS K T G pin W (vs.map some) H ρ ∧ ρ.length = n ∧ (∀ j a, pin j = some a → (vs.map some)[j]? = some (some (V.ref a))) ∧
  WpF K mg T G pin W (vs.map some) H Q E (F ρ)
/-- what is left of the parameters -/
def keepIo (n : Nat) (ρ : Rho) : Rho := (List.range n).map fun (j : Nat) => match ρ[j]? with
  | some (Sl.io m) => Sl.io m
  | _ => Sl.no
def finF (n : Nat) : SRes → FRes
  | .nx ρ => .ret (.v .non) (keepIo n ρ)
  | .rt (.b _) _ => .bad
  | .rt r ρ => .ret r (keepIo n ρ)
  | .ex x ρ => .ex x (keepIo n ρ)
  | _ => .bad
/-- a def with n names, by its body -/
def fnOf (n : Nat) (g : Rho → SRes) : Rho → FRes := fun ρ => finF ρ.length (g (ρ ++ List.replicate (n - ρ.length) .no))
theorem keepIo_at {n : Nat} {j : Nat} {s : Sl} (h : (keepIo n ρ)[j]? = some s) : s = .no ∨ ∃ m, s = .io m ∧ ρ[j]? = some (.io m) ∧ j < n := by
  unfold keepIo at h
  rw [List.getElem?_map] at h
  by_cases hj : j < n
  · rw [List.getElem?_range hj] at h
    simp only [Option.map_some, Option.some.injEq] at h
    split at h
    · rename_i m e
      exact .inr ⟨m, h.symm, e, hj⟩
    · exact .inl h.symm
  · rw [List.getElem?_eq_none (by rw [List.length_range]; omega)] at h
    cases h
theorem RS.back {vs : List V} {σ' : L2.St} {K : PySem.W.Frag} (hp : ∀ j a, pin j = some a → (vs.map some)[j]? = some (some (V.ref a))) (r : RS K T G pin W' σ' H' ρ') : RS K T G pin W' (vs.map some) H' (keepIo vs.length ρ') := by
  refine ⟨?_, fun j s e => ?_, fun i j s t a ei ej oi oj qi qj => ?_, r.wok, r.gok, r.tabs⟩
  · unfold keepIo
    rw [List.length_map, List.length_range, List.length_map]
  · rcases keepIo_at e with rfl | ⟨m, rfl, e', hj⟩
    · trivial
    · obtain ⟨a, h1, h2, h3, h4⟩ := r.sl j _ e'
      exact ⟨a, hp j a h4, h2, h3, h4⟩
  · rcases keepIo_at ei with rfl | ⟨m, rfl, ei', hi⟩
    · cases oi
    · rcases keepIo_at ej with rfl | ⟨m', rfl, ej', hj⟩
      · cases oj
      · obtain ⟨b, h1, h2, h3, h4⟩ := r.sl i _ ei'
        obtain ⟨c, k1, k2, k3, k4⟩ := r.sl j _ ej'
        have q1 := hp i b h4
        have q2 := hp j c k4
        rw [qi] at q1
        rw [qj] at q2
        cases q1
        cases q2
        exact r.dis i j _ _ a ei' ej' rfl rfl h1 k1
section
variable {P : Program} {w : World} {K : PySem.W.Frag} {mg : Str → Option Value} {base : Heap}
/-- a body's start from the promise -/
theorem body_start {Y : Cx} {T : Tb} {N : List Str} {body : List Stmt} {g : Rho → SRes} {n : Nat} {vs : List V} {H : Hp} {Q : VK} {E : XK} (hb : QSs Y T (fun cls d _ H => E cls d H) body g) (hpl : n ≤ N.length) (h : spV Y.K Y.mg T n (fnOf N.length g) vs H Q E) :
    ∃ t, PSs Y body t ∧ t { nx := fun _ H' => Q .non H', rt := Q } (L2.start N vs) H := by
  obtain ⟨G, W, ρ, pin, r, hl, hp, h⟩ := h
  refine ⟨_, hb.run G pin, ?_⟩
  have hlv : vs.length = ρ.length := by
    have := r.len
    rw [List.length_map] at this
    exact this.symm
  have rs : RS Y.K T G pin W (L2.start N vs) H (ρ ++ List.replicate (N.length - ρ.length) Sl.no) := by
    have left : ∀ (i : Nat) (s : Sl), (ρ ++ List.replicate (N.length - ρ.length) Sl.no)[i]? = some s → s = .no ∨ (ρ[i]? = some s ∧ (L2.start N vs)[i]? = (vs.map some)[i]?) := fun i s e => by
      by_cases hi : i < ρ.length
      · rw [List.getElem?_append_left hi] at e
        refine .inr ⟨e, ?_⟩
        unfold L2.start
        rw [List.getElem?_append_left (by rw [List.length_map]; omega)]
      · rw [List.getElem?_append_right (by omega), List.getElem?_replicate] at e
        split at e <;> cases e
        exact .inl rfl
    refine ⟨?_, fun i s e => ?_, fun i j s t a ei ej oi oj qi qj => ?_, r.wok, r.gok, r.tabs⟩
    · unfold L2.start
      simp only [List.length_append, List.length_replicate, List.length_map]
      omega
    · rcases left i s e with rfl | ⟨e1, e2⟩
      · trivial
      · have q := r.sl i s e1
        cases s with
        | no => trivial
        | sh m => obtain ⟨v, h1, h2⟩ := q; exact ⟨v, by rw [e2]; exact h1, h2⟩
        | ow m => obtain ⟨a, h1, h2⟩ := q; exact ⟨a, by rw [e2]; exact h1, h2⟩
        | io m => obtain ⟨a, h1, h2⟩ := q; exact ⟨a, by rw [e2]; exact h1, h2⟩
    · rcases left i s ei with rfl | ⟨e1, e2⟩
      · cases oi
      · rcases left j t ej with rfl | ⟨e3, e4⟩
        · cases oj
        · exact r.dis i j s t a e1 e3 oi oj (by rw [← e2]; exact qi) (by rw [← e4]; exact qj)
  have lenOf : ∀ {W' : AP} {H' : Hp} {σ' : L2.St} {ρ' : Rho}, RS Y.K T G pin W' σ' H' ρ' → σ'.length = σ'.length := fun _ => rfl
  refine ⟨W, _, rs, ?_⟩
  unfold fnOf at h
  have sub : ∀ {r0 : RV} {W' : AP} {H' : Hp} {σ' : L2.St} {ρ' : Rho} {v : V}, RS Y.K T G pin W' σ' H' ρ' → (∀ i, r0 ≠ .b i) → RvOk Y.K G W' σ' H' ρ' r0 v → RvOk Y.K G W' (vs.map some) H' (keepIo ρ.length ρ') r0 v := fun {r0 W' H' σ' ρ' v} r' nb o => by
    cases r0 with
    | v m => exact o
    | b i => exact absurd rfl (nb i)
    | o m =>
      obtain ⟨a, h1, h2, h3, h4⟩ := o
      refine ⟨a, h1, h2, h3, fun i s e os q => ?_⟩
      rcases keepIo_at e with rfl | ⟨m', rfl, e', hj⟩
      · cases os
      · obtain ⟨b, k1, k2, k3, k4⟩ := r'.sl i _ e'
        have q1 := hp i b k4
        rw [q] at q1
        cases q1
        exact h4 i _ e' rfl k1
  cases eg : g (ρ ++ List.replicate (N.length - ρ.length) Sl.no) with
  | bad => rw [eg] at h; exact h.elim
  | bk ρ' => rw [eg] at h; exact h.elim
  | ct ρ' => rw [eg] at h; exact h.elim
  | nx ρ' =>
    rw [eg] at h
    intro W' H' σ' s' r'
    exact h W' H' .non s' (by rw [← hlv]; exact r'.back hp) .non
  | rt r0 ρ' =>
    rw [eg] at h
    intro W' H' σ' v s' r' o'
    cases r0 with
    | b i => exact h.elim
    | v m => exact h W' H' v s' (by rw [← hlv]; exact r'.back hp) (sub r' (fun _ z => nomatch z) o')
    | o m => exact h W' H' v s' (by rw [← hlv]; exact r'.back hp) (sub r' (fun _ z => nomatch z) o')
  | ex x ρ' =>
    rw [eg] at h
    intro W' H' σ' cls d s' r' o'
    exact h W' H' cls d s' (by rw [← hlv]; exact r'.back hp) o'
end
/-- THE RULE for a def -/
theorem fn_v {x qual : Str} {st : Stmt} {f : Addr} {fd : FuncData} {N ps : List Str} {k : Nat} {g : Rho → SRes} (F : Fun K x qual st f fd) (S : FnScope N ps (defScope st))
    (hb : ∀ (cdv : Value) (A : Around) (outer : List Env) (s : Shared) (H : Hp) (E : XK), Room k (A.deeper (PyProof.Rows.envOfC qual (defScope st) s.heap.objs.size f cdv)) → QSs (cxOf (L2.CX P w) P w K mg base N qual (defScope st) f cdv A outer s H E) T (fun cls d _ H => E cls d H) (defBody st) g) :
    FnOk P w K mg base (L2.CX P w) (k + 1) f fd ps (spV K mg T ps.length (fnOf N.length g)) := by
  have hpl : ps.length ≤ N.length := by
    have := congrArg List.length S.pre
    rw [List.length_take] at this
    omega
  refine F.okX S (fun vs H Q E ⟨G, W, ρ, pin, r, hl, _⟩ => ?_) (fun cdv A outer s H vs Q E hr h => body_start (hb cdv A outer s H E hr) hpl h)
  have := r.len
  rw [List.length_map] at this
  omega
end
end DL
namespace DL
open PySem PySem.Spec L2
section
variable {X : Cx} {T : Tb} {Wx : WX} {G : AP} {pin : Nat → Option Addr} {W W' : AP} {σ : L2.St} {H H' : Hp} {ρ ρ' : Rho}
/-! ### calls of defs -/
def mkA : Option Nat → Rho → List RV → Res (List Sl)
  | _, ρ, [] => .ok [] ρ
  | some 0, ρ, .b i :: as => match ρ[i]? with
    | some (.ow _) => (mkA none ρ as).bind fun ss ρ' => match ρ'[i]? with
      | some (.ow m) => .ok (.io m :: ss) ρ'
      | _ => .bad
    | some (.io _) => (mkA none ρ as).bind fun ss ρ' => match ρ'[i]? with
      | some (.io m) => .ok (.io m :: ss) ρ'
      | _ => .bad
    | _ => .bad
  | some 0, _, _ :: _ => .bad
  | some (j + 1), ρ, a :: as => (shr ρ a).bind fun m ρ1 => (mkA (some j) ρ1 as).bind fun ss ρ2 => .ok (.sh m :: ss) ρ2
  | none, ρ, a :: as => (shr ρ a).bind fun m ρ1 => (mkA none ρ1 as).bind fun ss ρ2 => .ok (.sh m :: ss) ρ2
/-- the slot whose list is handed over to be changed -/
def ioSlot (io : Option Nat) (as : List RV) : Option (Nat × Nat) := match io with
  | some j => match as[j]? with
    | some (.b i) => some (j, i)
    | _ => none
  | none => none
def putBack (io : Option Nat) (as : List RV) (ρ' ρ : Rho) : Option Rho := match io with
  | none => some ρ
  | some j => match as[j]? with
    | some (.b i) => match ρ'[j]?, ρ[i]? with
      | some (.io m), some (.ow _) => some (ρ.set i (.ow m))
      | some (.io m), some (.io _) => some (ρ.set i (.io m))
      | _, _ => none
    | _ => none
def fCall (np : Nat) (io : Option Nat) (F : Rho → FRes) (f : Rho → Res (List RV)) : Rho → Res RV := fun ρ => (f ρ).bind fun as ρ1 => (mkA io ρ1 as).bind fun ss ρ2 => match if ss.length = np then F ss else .bad with
  | .ret (.b _) _ => .bad
  | .ret r ρ' => match putBack io as ρ' ρ2 with
    | some ρ3 => .ok r ρ3
    | none => .bad
  | .ex x ρ' => match putBack io as ρ' ρ2 with
    | some ρ3 => .ex x ρ3
    | none => .bad
  | .bad => .bad
theorem mkA_noex : ∀ {as : List RV} {io : Option Nat} {ρ : Rho} {x : Exn} {ρ' : Rho}, mkA io ρ as ≠ .ex x ρ'
  | [], io, ρ, x, ρ', e => by
    cases io with
    | none => simp [mkA] at e
    | some j => cases j <;> simp [mkA] at e
  | a :: as, io, ρ, x, ρ', e => by
    have gen : ∀ {io' : Option Nat} {ρ' : Rho} {x : Exn}, ((shr ρ a).bind fun m ρ1 => (mkA io' ρ1 as).bind fun ss ρ2 => Res.ok (Sl.sh m :: ss) ρ2) = .ex x ρ' → False := fun {io' ρ' x} e => by
      rcases shr_cases ρ a with ⟨m, ρ1, e1⟩ | e1
      · rw [e1] at e
        simp only [Res.bind] at e
        cases e2 : mkA io' ρ1 as with
        | ok ns ρ2 => rw [e2] at e; cases e
        | ex y ρ2 => exact mkA_noex e2
        | bad => rw [e2] at e; cases e
      · rw [e1] at e
        cases e
    cases io with
    | none => rw [mkA] at e; exact gen e
    | some j =>
      cases j with
      | succ j => rw [mkA] at e; exact gen e
      | zero =>
        cases a with
        | v m => simp [mkA] at e
        | o m => simp [mkA] at e
        | b i =>
          simp only [mkA] at e
          split at e
          · cases e2 : mkA none ρ as with
            | ok ns ρ2 => rw [e2] at e; simp only [Res.bind] at e; split at e <;> cases e
            | ex y ρ2 => exact mkA_noex e2
            | bad => rw [e2] at e; cases e
          · cases e2 : mkA none ρ as with
            | ok ns ρ2 => rw [e2] at e; simp only [Res.bind] at e; split at e <;> cases e
            | ex y ρ2 => exact mkA_noex e2
            | bad => rw [e2] at e; cases e
          · cases e
/-- what the arguments are for the callee: data, but one own list at aio -/
inductive ArgsOk (K : PySem.W.Frag) (W : AP) (H : Hp) : Option Nat → Addr → List Sl → List V → Prop
  | nil {io : Option Nat} {a : Addr} : (io = none) → ArgsOk K W H io a [] []
  | sh0 {a : Addr} {m : MV} {v : V} {ss : List Sl} {vs : List V} : Dat K W H m v → ArgsOk K W H none a ss vs → ArgsOk K W H none a (.sh m :: ss) (v :: vs)
  | shS {j : Nat} {a : Addr} {m : MV} {v : V} {ss : List Sl} {vs : List V} : Dat K W H m v → ArgsOk K W H (some j) a ss vs → ArgsOk K W H (some (j + 1)) a (.sh m :: ss) (v :: vs)
  | io0 {a : Addr} {m : MV} {ss : List Sl} {vs : List V} : Own K W H m a → ArgsOk K W H none a ss vs → ArgsOk K W H (some 0) a (.io m :: ss) (.ref a :: vs)
theorem ArgsOk.any {K : PySem.W.Frag} {a b : Addr} : ∀ {ss : List Sl} {vs : List V}, ArgsOk K W H none a ss vs → ArgsOk K W H none b ss vs
  | _, _, .nil h => .nil h
  | _, _, .sh0 d r => .sh0 d (ArgsOk.any r)
theorem ArgsOk.len {K : PySem.W.Frag} {a : Addr} : ∀ {io : Option Nat} {ss : List Sl} {vs : List V}, ArgsOk K W H io a ss vs → ss.length = vs.length
  | _, _, _, .nil h => rfl
  | _, _, _, .sh0 d r => congrArg (· + 1) (ArgsOk.len r)
  | _, _, _, .shS d r => congrArg (· + 1) (ArgsOk.len r)
  | _, _, _, .io0 d r => congrArg (· + 1) (ArgsOk.len r)
theorem ArgsOk.get {K : PySem.W.Frag} {a : Addr} : ∀ {io : Option Nat} {ss : List Sl} {vs : List V} {j : Nat} {s : Sl}, ArgsOk K W H io a ss vs → ss[j]? = some s → ∃ v, vs[j]? = some v ∧ ((∃ m, s = .sh m ∧ Dat K W H m v) ∨ (∃ m, s = .io m ∧ io = some j ∧ v = .ref a ∧ Own K W H m a))
  | _, _, _, j, s, .nil h, e => by simp at e
  | _, _, _, 0, s, .sh0 d r, e => by simp at e; subst e; exact ⟨_, rfl, .inl ⟨_, rfl, d⟩⟩
  | _, _, _, 0, s, .shS d r, e => by simp at e; subst e; exact ⟨_, rfl, .inl ⟨_, rfl, d⟩⟩
  | _, _, _, 0, s, .io0 d r, e => by simp at e; subst e; exact ⟨_, rfl, .inr ⟨_, rfl, rfl, rfl, d⟩⟩
  | _, _, _, j + 1, s, .sh0 d r, e => by
    obtain ⟨v, h1, h2⟩ := ArgsOk.get (j := j) (s := s) r (by simpa using e)
    refine ⟨v, by simpa using h1, h2.elim .inl fun ⟨m, _, q, _⟩ => nomatch q⟩
  | _, _, _, j + 1, s, .shS d r, e => by
    obtain ⟨v, h1, h2⟩ := ArgsOk.get (j := j) (s := s) r (by simpa using e)
    refine ⟨v, by simpa using h1, h2.elim .inl fun ⟨m, q1, q2, q3⟩ => .inr ⟨m, q1, by cases q2; rfl, q3⟩⟩
  | _, _, _, j + 1, s, .io0 d r, e => by
    obtain ⟨v, h1, h2⟩ := ArgsOk.get (j := j) (s := s) r (by simpa using e)
    refine ⟨v, by simpa using h1, h2.elim .inl fun ⟨m, _, q, _⟩ => nomatch q⟩
theorem ArgsOk.at_io {K : PySem.W.Frag} {a : Addr} : ∀ {j : Nat} {ss : List Sl} {vs : List V}, ArgsOk K W H (some j) a ss vs → ∀ v, vs[j]? = some v → v = .ref a
  | _, _, _, .nil h, _, _ => nomatch h
  | _, _, _, .shS d r, v, hv => ArgsOk.at_io r v (by simpa using hv)
  | _, _, _, .io0 d r, v, hv => by
    simp at hv
    exact hv.symm
theorem mkA_none : ∀ {as : List RV} {vs : List V} {W : AP} {ρ : Rho} {ss : List Sl} {ρ' : Rho} (a : Addr), RS X.K T G pin W σ H ρ → RvsOk X.K G W σ H ρ as vs → mkA none ρ as = .ok ss ρ' → ∃ W', Step G W H W' H ∧ RS X.K T G pin W' σ H ρ' ∧ ArgsOk X.K W' H none a ss vs
  | [], _, W, ρ, ss, ρ', a, r, h, e => by
    cases h
    simp [mkA] at e
    obtain ⟨rfl, rfl⟩ := e
    exact ⟨W, Step.refl _ _ _ r.gok, r, .nil rfl⟩
  | x :: as, _, W, ρ, ss, ρ', a, r, h, e => by
    cases h with
    | cons hh o os =>
      rw [mkA] at e
      rcases shr_cases ρ x with ⟨m, ρ1, e1⟩ | e1
      · rw [e1] at e
        obtain ⟨W1, s1, r1, d1⟩ := shr_ok r o e1
        simp only [Res.bind] at e
        cases e2 : mkA none ρ1 as with
        | ok ns ρ2 =>
          rw [e2] at e
          cases e
          obtain ⟨W2, s2, r2, d2⟩ := mkA_none a r1 (os.step s1 r1) e2
          exact ⟨W2, s1.trans s2, r2, .sh0 (d1.keep s2.keeps) d2⟩
        | ex x ρ2 => rw [e2] at e; cases e
        | bad => rw [e2] at e; cases e
      · rw [e1] at e
        cases e
theorem mkA_some : ∀ {as : List RV} {vs : List V} {W : AP} {ρ : Rho} {ss : List Sl} {ρ' : Rho} {j : Nat}, RS X.K T G pin W σ H ρ → RvsOk X.K G W σ H ρ as vs → mkA (some j) ρ as = .ok ss ρ' → as ≠ [] →
    ∃ W' a i s, Step G W H W' H ∧ RS X.K T G pin W' σ H ρ' ∧ (j < as.length → ArgsOk X.K W' H (some j) a ss vs ∧ as[j]? = some (.b i) ∧ ρ'[i]? = some s ∧ s.own = true ∧ σ[i]? = some (some (V.ref a)))
  | [], _, W, ρ, ss, ρ', j, r, h, e, ne => absurd rfl ne
  | x :: as, _, W, ρ, ss, ρ', 0, r, h, e, ne => by
    cases h with
    | cons hh o os =>
      rename_i v vs'
      cases x with
      | v m => simp [mkA] at e
      | o m => simp [mkA] at e
      | b i =>
        obtain ⟨hs, _⟩ := o
        simp only [mkA] at e
        have go : ∀ {s : Sl}, ρ[i]? = some s → s.own = true → ∀ {ns : List Sl} {ρ2 : Rho}, mkA none ρ as = .ok ns ρ2 → ∀ {s2 : Sl} {m : MV}, ρ2[i]? = some s2 → (s2 = .ow m ∨ s2 = .io m) →
            ∃ W' a i' s', Step G W H W' H ∧ RS X.K T G pin W' σ H ρ2 ∧ (0 < (RV.b i :: as).length → ArgsOk X.K W' H (some 0) a (.io m :: ns) (v :: vs') ∧ (RV.b i :: as)[0]? = some (.b i') ∧ ρ2[i']? = some s' ∧ s'.own = true ∧ σ[i']? = some (some (V.ref a))) := fun {s} es os' {ns ρ2} e2 {s2 m} es2 em => by
          obtain ⟨a, m0, h1, _⟩ := (r.sl i s es).at_ os'
          rw [hs] at h1
          cases h1
          obtain ⟨W2, s2', r2, d2⟩ := mkA_none a r os e2
          have ow2 : s2.own = true := by rcases em with rfl | rfl <;> rfl
          obtain ⟨a', m', k1, k2, k3, k4⟩ := (r2.sl i s2 es2).at_ ow2
          rw [hs] at k1
          cases k1
          have em' : m' = m := by
            rcases em with rfl | rfl <;> rcases k4 with k4 | ⟨k4, _⟩ <;> cases k4 <;> rfl
          subst em'
          exact ⟨W2, a, i, s2, s2', r2, fun _ => ⟨.io0 k2 d2, rfl, es2, ow2, hs⟩⟩
        split at e
        · rename_i m0 es
          cases e2 : mkA none ρ as with
          | ok ns ρ2 =>
            rw [e2] at e
            simp only [Res.bind] at e
            split at e
            · rename_i m es2
              cases e
              exact go es rfl e2 es2 (.inl rfl)
            · cases e
          | ex x ρ2 => exact absurd e2 mkA_noex
          | bad => rw [e2] at e; cases e
        · rename_i m0 es
          cases e2 : mkA none ρ as with
          | ok ns ρ2 =>
            rw [e2] at e
            simp only [Res.bind] at e
            split at e
            · rename_i m es2
              cases e
              exact go es rfl e2 es2 (.inr rfl)
            · cases e
          | ex x ρ2 => exact absurd e2 mkA_noex
          | bad => rw [e2] at e; cases e
        · cases e
  | x :: as, _, W, ρ, ss, ρ', j + 1, r, h, e, ne => by
    cases h with
    | cons hh o os =>
      rw [mkA] at e
      rcases shr_cases ρ x with ⟨m, ρ1, e1⟩ | e1
      · rw [e1] at e
        obtain ⟨W1, s1, r1, d1⟩ := shr_ok r o e1
        simp only [Res.bind] at e
        cases e2 : mkA (some j) ρ1 as with
        | ok ns ρ2 =>
          rw [e2] at e
          cases e
          by_cases hn : as = []
          · subst hn
            cases j <;> (simp [mkA] at e2; obtain ⟨rfl, rfl⟩ := e2; exact ⟨W1, 0, 0, .no, s1, r1, fun hl => by simp at hl⟩)
          · obtain ⟨W2, a, i, s, s2, r2, d2⟩ := mkA_some r1 (os.step s1 r1) e2 hn
            refine ⟨W2, a, i, s, s1.trans s2, r2, fun hl => ?_⟩
            obtain ⟨k1, k2, k3⟩ := d2 (by simpa using hl)
            exact ⟨.shS (d1.keep s2.keeps) k1, by simpa using k2, k3⟩
        | ex x ρ2 => exact absurd e2 mkA_noex
        | bad => rw [e2] at e; cases e
      · rw [e1] at e
        cases e

theorem RS.own_set {K : PySem.W.Frag} (r : RS K T G pin W σ H ρ) {i : Nat} {s0 s1 : Sl} {a : Addr} (e0 : ρ[i]? = some s0) (o0 : s0.own = true) (hs : σ[i]? = some (some (V.ref a))) (o1 : s1.own = true) (st : Step G W H W' H')
    (kp : ∀ (k : Nat) (t : Sl) (b : Addr), ρ[k]? = some t → t.own = true → σ[k]? = some (some (V.ref b)) → b ≠ a → W' b ∧ H' b = H b) (ok1 : SlOk K G pin W' σ H' i s1) (wok : ∀ a, W' a → ∃ o, H' a = some o ∧ Mo o) (tb : LamX.Tabs T.t H') : RS K T G pin W' σ H' (ρ.set i s1) := by
  have hi : i < ρ.length := (List.getElem?_eq_some_iff.mp e0).1
  have back : ∀ (l : Nat) (t : Sl), (ρ.set i s1)[l]? = some t → t.own = true → ∃ t', ρ[l]? = some t' ∧ t'.own = true := fun l t e o => by
    by_cases hl : l = i
    · subst hl
      exact ⟨s0, e0, o0⟩
    · rw [List.getElem?_set_ne (Ne.symm hl)] at e
      exact ⟨t, e, o⟩
  refine ⟨by rw [List.length_set]; exact r.len, fun j t e => ?_, fun j k s t b ej ek oj ok qj qk => ?_, wok, fun b g => ?_, r.tabs.step st.keeps tb⟩
  · by_cases hj : j = i
    · subst hj
      rw [List.getElem?_set_self hi] at e
      cases e
      exact ok1
    · rw [List.getElem?_set_ne (Ne.symm hj)] at e
      have q := r.sl j t e
      have ne : ∀ {c : Addr}, t.own = true → σ[j]? = some (some (V.ref c)) → W' c ∧ H' c = H c := fun {c} o q => kp j t c e o q fun z => hj (r.dis j i t s0 a e e0 o o0 (by rw [q, z]) hs)
      cases t with
      | no => trivial
      | sh y => obtain ⟨u, q1, q2⟩ := q; exact ⟨u, q1, q2.keep st.keeps⟩
      | ow y => obtain ⟨c, q1, q2, q3⟩ := q; exact ⟨c, q1, q2.keep st.keeps (ne rfl q1).1 (ne rfl q1).2, q3⟩
      | io y => obtain ⟨c, q1, q2, q3, q4⟩ := q; exact ⟨c, q1, q2.keep st.keeps (ne rfl q1).1 (ne rfl q1).2, q3, q4⟩
  · obtain ⟨s', es, os⟩ := back j s ej oj
    obtain ⟨t', et, ot⟩ := back k t ek ok
    exact r.dis j k s' t' b es et os ot qj qk
  · obtain ⟨o, e, eo⟩ := r.wok b (r.gok b g)
    exact (st.gd b o g e eo.1).2
theorem Step.weaken {G' : AP} (s : Step G' W H W' H') (h : ∀ a, G a → G' a) : Step G W H W' H' := ⟨s.fr, fun a o g => s.gd a o (h a g)⟩
theorem RvsOk.len {K : PySem.W.Frag} : ∀ {as : List RV} {vs : List V}, RvsOk K G W σ H ρ as vs → as.length = vs.length
  | _, _, .nil => rfl
  | _, _, .cons _ _ r => congrArg (· + 1) (RvsOk.len r)
/-- the callee's view, and back -/
theorem call_view {io : Option Nat} {as : List RV} {vs : List V} {ss : List Sl} {ρ2 : Rho} (r1 : RS X.K T G pin W σ H ρ) (o1 : RvsOk X.K G W σ H ρ as vs) (e : mkA io ρ as = .ok ss ρ2) (hio : ∀ j, io = some j → j < as.length) :
    ∃ W2 G' pin', Step G W H W2 H ∧ RS X.K T G pin W2 σ H ρ2 ∧ RS X.K T G' pin' W2 (vs.map some) H ss ∧ (∀ j a, pin' j = some a → (vs.map some)[j]? = some (some (V.ref a))) ∧ ss.length = vs.length ∧
      ∀ W' H' ρ' ρ3, Step G' W2 H W' H' → RS X.K T G' pin' W' (vs.map some) H' ρ' → putBack io as ρ' ρ2 = some ρ3 → Step G W2 H W' H' ∧ RS X.K T G pin W' σ H' ρ3 ∧
        ∀ r v, (∀ i, r ≠ .b i) → RvOk X.K G' W' (vs.map some) H' ρ' r v → RvOk X.K G W' σ H' ρ3 r v := by
  have notb : ∀ {u : HO} {b : Addr} {H : Hp}, (∃ xs, u = .lst xs) → ∀ ps, u ≠ .tbl ps := fun ⟨xs, e⟩ ps z => by rw [e] at z; cases z
  cases io with
  | none =>
    obtain ⟨W2, s2, r2, d2⟩ := mkA_none 0 r1 o1 e
    have atv : ∀ (j : Nat) (s : Sl), ss[j]? = some s → ∃ m v, s = .sh m ∧ vs[j]? = some v ∧ Dat X.K W2 H m v := fun j s es => by
      obtain ⟨v, h1, h2⟩ := d2.get es
      rcases h2 with ⟨m, rfl, h2⟩ | ⟨m, _, q, _⟩
      · exact ⟨m, v, rfl, h1, h2⟩
      · cases q
    refine ⟨W2, W2, fun _ => none, s2, r2, ⟨by rw [d2.len, List.length_map], fun j s es => ?_, fun i j s t a ei _ oi => ?_, r2.wok, fun _ h => h, r2.tabs⟩, fun j a q => (nomatch q), d2.len, fun W' H' ρ' ρ3 st rs ep => ?_⟩
    · obtain ⟨m, v, rfl, h1, h2⟩ := atv j s es
      exact ⟨v, by rw [List.getElem?_map, h1]; rfl, h2⟩
    · obtain ⟨m, v, rfl, _⟩ := atv i s ei
      cases oi
    · have e3 : ρ2 = ρ3 := Option.some.inj ep
      subst e3
      have kp : ∀ a, W2 a → W' a ∧ H' a = H a := fun a h => by
        obtain ⟨o, ho, hl⟩ := r2.wok a h
        obtain ⟨q1, q2⟩ := st.gd a o h ho hl.1
        exact ⟨q2, q1.trans ho.symm⟩
      refine ⟨st.weaken r2.gok, r2.mono (st.weaken r2.gok) (fun i t a e o q => ?_) rs.wok rs.tabs.tb, fun r v nb o => ?_⟩
      · obtain ⟨_, m, hO, _⟩ := r2.own_at e o q
        exact kp a hO.1
      · cases r with
        | v m => exact o
        | b i => exact absurd rfl (nb i)
        | o m =>
          obtain ⟨a, h1, h2, h3, h4⟩ := o
          refine ⟨a, h1, h2, fun g => h3 (r2.gok a g), fun i s e os q => ?_⟩
          obtain ⟨_, m', hO, _⟩ := r2.own_at e os q
          exact h3 hO.1
  | some j =>
    have hj := hio j rfl
    obtain ⟨W2, a, i, s0, s2, r2, d2⟩ := mkA_some r1 o1 e (by intro z; rw [z] at hj; simp at hj)
    obtain ⟨d2, eas, es0, os0, hsi⟩ := d2 hj
    obtain ⟨ngA, m0, hO0, _⟩ := r2.own_at es0 os0 hsi
    have hja : ∀ v, vs[j]? = some v → v = .ref a := fun v hv => by
      have hl : j < ss.length := by rw [d2.len, ← o1.len]; exact hj
      obtain ⟨v', h1, h2⟩ := d2.get (List.getElem?_eq_getElem hl)
      rw [hv] at h1
      cases h1
      exact d2.at_io v hv
    have hjv : vs[j]? = some (.ref a) := by
      have hl : j < vs.length := by rw [← o1.len]; exact hj
      rw [List.getElem?_eq_getElem hl, hja _ (List.getElem?_eq_getElem hl)]
    refine ⟨W2, fun b => W2 b ∧ b ≠ a, fun k => if k = j then some a else none, s2, r2, ⟨by rw [d2.len, List.length_map], fun k s es => ?_, fun k l s t b ek el ok ol qk ql => ?_, r2.wok, fun _ h => h.1, r2.tabs⟩, fun k b q => ?_, d2.len, fun W' H' ρ' ρ3 st rs ep => ?_⟩
    · obtain ⟨v, h1, h2⟩ := d2.get es
      have h1' : (vs.map some)[k]? = some (some v) := by rw [List.getElem?_map, h1]; rfl
      rcases h2 with ⟨m, rfl, h2⟩ | ⟨m, rfl, q, rfl, hO⟩
      · exact ⟨v, h1', h2⟩
      · cases q
        exact ⟨a, h1', hO, fun z => z.2 rfl, if_pos rfl⟩
    · obtain ⟨v, h1, h2⟩ := d2.get ek
      obtain ⟨u, k1, k2⟩ := d2.get el
      rcases h2 with ⟨m, rfl, h2⟩ | ⟨m, rfl, q, _⟩
      · cases ok
      · rcases k2 with ⟨m', rfl, k2⟩ | ⟨m', rfl, q', _⟩
        · cases ol
        · cases q
          cases q'
          rfl
    · replace q : (if k = j then some a else none) = some b := q
      split at q
      · rename_i z
        cases q
        subst z
        rw [List.getElem?_map, hjv]
        rfl
      · cases q
    · have gG : ∀ b, G b → W2 b ∧ b ≠ a := fun b g => ⟨r2.gok b g, fun z => ngA (z ▸ g)⟩
      have st' := st.weaken gG
      have kp : ∀ b, W2 b → b ≠ a → W' b ∧ H' b = H b := fun b h ne => by
        obtain ⟨o, ho, hl⟩ := r2.wok b h
        obtain ⟨q1, q2⟩ := st.gd b o ⟨h, ne⟩ ho hl.1
        exact ⟨q2, q1.trans ho.symm⟩
      simp only [putBack, eas] at ep
      have fin : ∀ {m : MV} {s1 : Sl}, ρ'[j]? = some (.io m) → s1.own = true → (∀ b, σ[i]? = some (some (V.ref b)) → Own X.K W' H' m b → ¬ G b → SlOk X.K G pin W' σ H' i s1) → ρ3 = ρ2.set i s1 →
          Step G W2 H W' H' ∧ RS X.K T G pin W' σ H' ρ3 ∧ ∀ r v, (∀ i, r ≠ .b i) → RvOk X.K (fun b => W2 b ∧ b ≠ a) W' (vs.map some) H' ρ' r v → RvOk X.K G W' σ H' ρ3 r v := fun {m s1} ej o1' ok e3 => by
        subst e3
        obtain ⟨b, h1, h2, h3, h4⟩ := rs.sl j _ ej
        have e4 : a = b := Option.some.inj ((if_pos rfl).symm.trans h4)
        subst e4
        have R := r2.own_set (s1 := s1) es0 os0 hsi o1' st' (fun k t b ek ot qk ne => by
          obtain ⟨_, m', hO, _⟩ := r2.own_at ek ot qk
          exact kp b hO.1 ne) (ok a hsi h2 ngA) rs.wok rs.tabs.tb
        refine ⟨st', R, fun r v nb o => ?_⟩
        cases r with
        | v m => exact o
        | b i => exact absurd rfl (nb i)
        | o m' =>
          obtain ⟨c, c1, c2, c3, c4⟩ := o
          have ca : c ≠ a := fun z => c4 j _ ej rfl (by rw [z]; exact h1)
          refine ⟨c, c1, c2, fun g => c3 (gG c g), fun k s ek os q => ?_⟩
          by_cases hk : k = i
          · subst hk
            rw [hsi] at q
            cases q
            exact ca rfl
          · rw [List.getElem?_set_ne (Ne.symm hk)] at ek
            obtain ⟨_, m', hO, _⟩ := r2.own_at ek os q
            exact c3 ⟨hO.1, ca⟩
      split at ep
      · rename_i m m1 e1 e2
        exact fin (s1 := .ow m) e1 rfl (fun b hb ho ng => ⟨b, hb, ho, ng⟩) (Option.some.inj ep).symm
      · rename_i m m1 e1 e2
        refine fin (s1 := .io m) e1 rfl (fun b hb ho ng => ⟨b, hb, ho, ng, ?_⟩) (Option.some.inj ep).symm
        obtain ⟨c, c1, _, _, c4⟩ := r2.sl i _ e2
        rw [hb] at c1
        cases c1
        exact c4
      · cases ep
theorem qe_call {io : Option Nat} {F : Rho → FRes} {k : Nat} {f : Addr} {fd : FuncData} {ps : List Str} {x : Str} {p pos : Pos} {e : Expr} {es : List Expr} {fa : Rho → Res (List RV)} (Fk : FnOk X.prog X.w X.K X.mg X.base (L2.CX X.prog X.w) k f fd ps (spV X.K X.mg T ps.length F)) (hr : Room k X.A)
    (hm : X.mg x = some (.ref f)) (hk : PySem.W.keepIn X.K (.ref f) = true) (hb : Binds X.K fd ps []) (tk : Takes X Wx) (ha : QA X T Wx (e :: es) fa) (hn : (e :: es).length = ps.length := by rfl) (hg : Gl X x := by rfl)
    (hdb : (x == ("__debug__" : Str)) = false := by decide) (he : starEach (e :: es) X.env = (false, eval e X.env) :: starEach es X.env := by rfl) (hpl : (backTo pos (starEach es X.env)).any (·.1) = false := by rfl) : QE X T Wx (.Call (.Name x p) (e :: es) [] pos) (fCall ps.length io F fa) := by
  refine ⟨fun G pin => PE.imp (pe_callS (E := WE Wx) Fk hr hg hm hk hb (fun σ => passAt tk σ) (ha.run G pin) hdb he hpl) fun σ H Q ⟨W, ρ, r, h⟩ => ⟨W, ρ, r, Wp.bind h fun as ρ1 W1 H1 vs s1 r1 o1 w1 => ?_⟩⟩
  show spV X.K X.mg T ps.length F vs H1 Q (WE Wx σ)
  cases ea : mkA io ρ1 as with
  | bad => rw [ea] at w1; exact w1.elim
  | ex y ρ2 => exact absurd ea mkA_noex
  | ok ss ρ2 =>
    rw [ea] at w1
    simp only [Res.bind] at w1
    have hio : ∀ j, io = some j → j < as.length := fun j hj => by
      subst hj
      by_cases hl : j < as.length
      · exact hl
      · exfalso
        have en : ∀ ρ', putBack (some j) as ρ' ρ2 = none := fun ρ' => by
          simp only [putBack, List.getElem?_eq_none (Nat.le_of_not_lt hl)]
        split at w1
        · exact w1
        · rw [en] at w1; exact w1
        · rw [en] at w1; exact w1
        · exact w1
    obtain ⟨W2, G', pin', s2, r2, rs, hp, hl, back⟩ := call_view r1 o1 ea hio
    have w2 := Wp.shift s2 w1
    by_cases hlen : ss.length = ps.length
    case neg => rw [if_neg hlen] at w2; exact w2.elim
    rw [if_pos hlen] at w2
    refine ⟨G', W2, ss, pin', rs, hlen, hp, ?_⟩
    cases eF : F ss with
    | bad => rw [eF] at w2; exact w2.elim
    | ex y ρ' =>
      rw [eF] at w2
      intro W' H' cls d st rs' ex
      simp only at w2
      split at w2
      · rename_i ρ3 ep
        obtain ⟨b1, b2, b3⟩ := back W' H' ρ' ρ3 st rs' ep
        exact w2 W' H' cls d b1 b2 ex
      · exact w2.elim
    | ret rv ρ' =>
      rw [eF] at w2
      intro W' H' v st rs' ov
      cases rv with
      | b i => exact w2.elim
      | v m =>
        simp only at w2
        split at w2
        · rename_i ρ3 ep
          obtain ⟨b1, b2, b3⟩ := back W' H' ρ' ρ3 st rs' ep
          exact w2 W' H' v b1 b2 (b3 _ v (fun _ z => nomatch z) ov)
        · exact w2.elim
      | o m =>
        simp only at w2
        split at w2
        · rename_i ρ3 ep
          obtain ⟨b1, b2, b3⟩ := back W' H' ρ' ρ3 st rs' ep
          exact w2 W' H' v b1 b2 (b3 _ v (fun _ z => nomatch z) ov)
        · exact w2.elim
end
end DL
namespace DL
open PySem PySem.Spec L2
section
variable {X : Cx} {T : Tb} {Wx : WX} {G : AP} {pin : Nat → Option Addr} {W W' : AP} {σ : L2.St} {H H' : Hp} {ρ ρ' : Rho}
/-! ### blocks -/
theorem qss_nil : QSs X T Wx [] (fun ρ => .nx ρ) := ⟨fun G pin => PSs.imp pss_nil fun D σ H ⟨W, ρ, r, h⟩ => h W H σ (Step.refl _ _ _ r.gok) r⟩
def gSeq (g1 g2 : Rho → SRes) : Rho → SRes := fun ρ => (g1 ρ).seq g2
theorem qss_cons {st : Stmt} {rest : List Stmt} {g1 g2 : Rho → SRes} (h1 : QS X T Wx st g1) (h2 : QSs X T Wx rest g2) : QSs X T Wx (st :: rest) (gSeq g1 g2) :=
  ⟨fun G pin => PSs.imp (pss_cons (h1.run G pin) (h2.run G pin)) fun D σ H ⟨W, ρ, r, h⟩ => ⟨W, ρ, r, WpS.seq h fun ρ' W' H' σ' s' r' h' => ⟨W', ρ', r', h'⟩⟩⟩
theorem qss_one {st : Stmt} {g : Rho → SRes} (h1 : QS X T Wx st g) : QSs X T Wx [st] g := ⟨fun G pin => pss_one (h1.run G pin)⟩
theorem qs_pass {pos : Pos} : QS X T Wx (.Pass pos) (fun ρ => .nx ρ) := ⟨fun G pin => PS.imp ps_pass fun D σ H ⟨W, ρ, r, h⟩ => h W H σ (Step.refl _ _ _ r.gok) r⟩
theorem qs_break {pos : Pos} : QS X T Wx (.Break pos) (fun ρ => .bk ρ) := ⟨fun G pin => PS.imp ps_break fun D σ H ⟨W, ρ, r, h⟩ => h W H σ (Step.refl _ _ _ r.gok) r⟩
theorem qs_continue {pos : Pos} : QS X T Wx (.Continue pos) (fun ρ => .ct ρ) := ⟨fun G pin => PS.imp ps_continue fun D σ H ⟨W, ρ, r, h⟩ => h W H σ (Step.refl _ _ _ r.gok) r⟩
def gExpr (f : Rho → Res RV) : Rho → SRes := fun ρ => (f ρ).toS fun _ ρ1 => .nx ρ1
theorem qs_expr {e : Expr} {f : Rho → Res RV} {pos : Pos} (h : QE X T Wx e f) (hs : swapsWith e none pos.line X.env = pure false := by rfl) : QS X T Wx (.Expr e pos) (gExpr f) :=
  ⟨fun G pin => PS.imp (ps_expr (h.run G pin) hs) fun D σ H ⟨W, ρ, r, h⟩ => ⟨W, ρ, r, Wp.bindS h fun a ρ1 W1 H1 v s1 r1 o1 w1 => w1 W1 H1 σ (Step.refl _ _ _ r1.gok) r1⟩⟩
/-- return: an own list goes out as new -/
def retS (ρ : Rho) : RV → SRes
  | .v m => .rt (.v m) ρ
  | .o m => .rt (.o m) ρ
  | .b i => match ρ[i]? with
    | some (.sh m) => .rt (.v m) ρ
    | some (.ow m) => .rt (.o m) (ρ.set i .no)
    | _ => .bad
def gRet (f : Rho → Res RV) : Rho → SRes := fun ρ => (f ρ).toS fun a ρ1 => retS ρ1 a
theorem RS.drop {K : PySem.W.Frag} (r : RS K T G pin W σ H ρ) (i : Nat) : RS K T G pin W σ H (ρ.set i .no) := by
  have back : ∀ (l : Nat) (t : Sl), (ρ.set i .no)[l]? = some t → t = .no ∨ (l ≠ i ∧ ρ[l]? = some t) := fun l t e => by
    by_cases hl : l = i
    · subst hl
      by_cases hi : l < ρ.length
      · rw [List.getElem?_set_self hi] at e
        cases e
        exact .inl rfl
      · rw [List.getElem?_eq_none (by rw [List.length_set]; omega)] at e
        cases e
    · rw [List.getElem?_set_ne (Ne.symm hl)] at e
      exact .inr ⟨hl, e⟩
  refine ⟨by rw [List.length_set]; exact r.len, fun j t e => ?_, fun j k s t b ej ek oj ok qj qk => ?_, r.wok, r.gok, r.tabs⟩
  · rcases back j t e with rfl | ⟨_, e⟩
    · trivial
    · exact r.sl j t e
  · rcases back j s ej with rfl | ⟨_, ej⟩
    · cases oj
    · rcases back k t ek with rfl | ⟨_, ek⟩
      · cases ok
      · exact r.dis j k s t b ej ek oj ok qj qk
theorem qs_ret {e : Expr} {f : Rho → Res RV} {pos : Pos} (h : QE X T Wx e f) : QS X T Wx (.Return (some e) pos) (gRet f) := by
  refine ⟨fun G pin => PS.imp (ps_ret (h.run G pin)) fun D σ H ⟨W, ρ, r, h⟩ => ⟨W, ρ, r, Wp.bindS h fun a ρ1 W1 H1 v s1 r1 o1 w1 => ?_⟩⟩
  cases a with
  | v m => exact w1 W1 H1 σ v (Step.refl _ _ _ r1.gok) r1 o1
  | o m => exact w1 W1 H1 σ v (Step.refl _ _ _ r1.gok) r1 o1
  | b i =>
    obtain ⟨hs, s, es⟩ := o1
    have q := r1.sl i s es
    simp only [retS, es] at w1
    cases s with
    | no => exact w1.elim
    | io m => exact w1.elim
    | sh m =>
      obtain ⟨u, h3, h4⟩ := q
      rw [hs] at h3
      cases h3
      exact w1 W1 H1 σ v (Step.refl _ _ _ r1.gok) r1 h4
    | ow m =>
      obtain ⟨a, h3, h4, ng⟩ := q
      rw [hs] at h3
      cases h3
      refine w1 W1 H1 σ _ (Step.refl _ _ _ r1.gok) (r1.drop i) ⟨a, rfl, h4, ng, fun j t et ot q => ?_⟩
      by_cases hj : j = i
      · subst hj
        rw [List.getElem?_set_self (List.getElem?_eq_some_iff.mp es).1] at et
        cases et
        cases ot
      · rw [List.getElem?_set_ne (Ne.symm hj)] at et
        exact hj (r1.dis j i t _ a et es ot rfl q hs)
theorem qs_retN {pos : Pos} : QS X T Wx (.Return none pos) (fun ρ => .rt (.v .non) ρ) := ⟨fun G pin => PS.imp ps_retN fun D σ H ⟨W, ρ, r, h⟩ => h W H σ .non (Step.refl _ _ _ r.gok) r .non⟩
def gIf (c : Rho → Res Bool) (g1 g2 : Rho → SRes) : Rho → SRes := fun ρ => (c ρ).toS fun b ρ1 => match b with
  | true => g1 ρ1
  | false => g2 ρ1
theorem qs_if {c : Expr} {a b : List Stmt} {fc : Rho → Res Bool} {g1 g2 : Rho → SRes} {pos : Pos} (hc : QT X T Wx c fc) (h1 : QSs X T Wx a g1) (h2 : QSs X T Wx b g2) : QS X T Wx (.If c a b pos) (gIf fc g1 g2) := by
  refine ⟨fun G pin => PS.imp (ps_if (hc.run G pin) (h1.run G pin) (h2.run G pin)) fun D σ H ⟨W, ρ, r, h⟩ => ⟨W, ρ, r, Wp.bindS h fun a ρ1 W1 H1 v s1 r1 o1 w1 => ?_⟩⟩
  cases o1
  cases a with
  | true => exact iteT ⟨W1, ρ1, r1, w1⟩
  | false => exact iteF ⟨W1, ρ1, r1, w1⟩

/-! ### stores -/
def free (ρ : Rho) (i : Nat) : Bool := match ρ[i]? with
  | some (.io _) => false
  | some _ => true
  | none => false
theorem RS.set_sh {K : PySem.W.Frag} (r : RS K T G pin W σ H ρ) {i : Nat} {m : MV} {v : V} (hf : free ρ i = true) (d : Dat K W H m v) : RS K T G pin W (σ.set i (some v)) H (ρ.set i (.sh m)) := by
  have hi : i < ρ.length := by
    unfold free at hf
    split at hf
    · cases hf
    · rename_i e; exact (List.getElem?_eq_some_iff.mp e).1
    · cases hf
  have hiσ : i < σ.length := by rw [← r.len]; exact hi
  have back : ∀ (l : Nat) (t : Sl), (ρ.set i (.sh m))[l]? = some t → (l = i ∧ t = .sh m) ∨ (l ≠ i ∧ ρ[l]? = some t ∧ (σ.set i (some v))[l]? = σ[l]?) := fun l t e => by
    by_cases hl : l = i
    · subst hl
      rw [List.getElem?_set_self hi] at e
      cases e
      exact .inl ⟨rfl, rfl⟩
    · rw [List.getElem?_set_ne (Ne.symm hl)] at e
      exact .inr ⟨hl, e, List.getElem?_set_ne (Ne.symm hl)⟩
  refine ⟨by rw [List.length_set, List.length_set]; exact r.len, fun j t e => ?_, fun j k s t b ej ek oj ok qj qk => ?_, r.wok, r.gok, r.tabs⟩
  · rcases back j t e with ⟨rfl, rfl⟩ | ⟨_, e, es⟩
    · exact ⟨v, List.getElem?_set_self hiσ, d⟩
    · have q := r.sl j t e
      cases t with
      | no => trivial
      | sh y => obtain ⟨u, q1, q2⟩ := q; exact ⟨u, es.trans q1, q2⟩
      | ow y => obtain ⟨c, q1, q2⟩ := q; exact ⟨c, es.trans q1, q2⟩
      | io y => obtain ⟨c, q1, q2⟩ := q; exact ⟨c, es.trans q1, q2⟩
  · rcases back j s ej with ⟨rfl, rfl⟩ | ⟨_, ej, esj⟩
    · cases oj
    · rcases back k t ek with ⟨rfl, rfl⟩ | ⟨_, ek, esk⟩
      · cases ok
      · exact r.dis j k s t b ej ek oj ok (esj.symm.trans qj) (esk.symm.trans qk)
theorem RS.set_ow {K : PySem.W.Frag} (r : RS K T G pin W σ H ρ) {i : Nat} {m : MV} {a : Addr} (hf : free ρ i = true) (o : Own K W H m a) (ng : ¬ G a) (hn : ∀ (i : Nat) (s : Sl), ρ[i]? = some s → s.own = true → σ[i]? ≠ some (some (V.ref a))) : RS K T G pin W (σ.set i (some (.ref a))) H (ρ.set i (.ow m)) := by
  have hi : i < ρ.length := by
    unfold free at hf
    split at hf
    · cases hf
    · rename_i e; exact (List.getElem?_eq_some_iff.mp e).1
    · cases hf
  have hiσ : i < σ.length := by rw [← r.len]; exact hi
  have back : ∀ (l : Nat) (t : Sl), (ρ.set i (.ow m))[l]? = some t → (l = i ∧ t = .ow m) ∨ (l ≠ i ∧ ρ[l]? = some t ∧ (σ.set i (some (V.ref a)))[l]? = σ[l]?) := fun l t e => by
    by_cases hl : l = i
    · subst hl
      rw [List.getElem?_set_self hi] at e
      cases e
      exact .inl ⟨rfl, rfl⟩
    · rw [List.getElem?_set_ne (Ne.symm hl)] at e
      exact .inr ⟨hl, e, List.getElem?_set_ne (Ne.symm hl)⟩
  refine ⟨by rw [List.length_set, List.length_set]; exact r.len, fun j t e => ?_, fun j k s t b ej ek oj ok qj qk => ?_, r.wok, r.gok, r.tabs⟩
  · rcases back j t e with ⟨rfl, rfl⟩ | ⟨_, e, es⟩
    · exact ⟨a, List.getElem?_set_self hiσ, o, ng⟩
    · have q := r.sl j t e
      cases t with
      | no => trivial
      | sh y => obtain ⟨u, q1, q2⟩ := q; exact ⟨u, es.trans q1, q2⟩
      | ow y => obtain ⟨c, q1, q2⟩ := q; exact ⟨c, es.trans q1, q2⟩
      | io y => obtain ⟨c, q1, q2⟩ := q; exact ⟨c, es.trans q1, q2⟩
  · have at_i : (σ.set i (some (V.ref a)))[i]? = some (some (.ref a)) := List.getElem?_set_self hiσ
    rcases back j s ej with ⟨rfl, rfl⟩ | ⟨_, ej, esj⟩
    · rcases back k t ek with ⟨rfl, rfl⟩ | ⟨_, ek, esk⟩
      · rfl
      · rw [at_i] at qj
        cases qj
        exact absurd (esk.symm.trans qk) (hn k t ek ok)
    · rcases back k t ek with ⟨e1, rfl⟩ | ⟨_, ek, esk⟩
      · rw [e1, at_i] at qk
        cases qk
        exact absurd (esj.symm.trans qj) (hn j s ej oj)
      · exact r.dis j k s t b ej ek oj ok (esj.symm.trans qj) (esk.symm.trans qk)
def setS (i : Nat) (ρ : Rho) (a : RV) : Option Rho := if free ρ i = true then match a with
    | .v m => some (ρ.set i (.sh m))
    | .o m => some (ρ.set i (.ow m))
    | .b j => match shr ρ (.b j) with
      | .ok m ρ1 => some (ρ1.set i (.sh m))
      | _ => none
  else none
theorem shr_free {a : RV} {m : MV} {ρ1 : Rho} {i : Nat} (e : shr ρ a = .ok m ρ1) (h : free ρ i = true) : free ρ1 i = true := by
  cases a with
  | v x => cases e; exact h
  | o x => cases e; exact h
  | b j =>
    unfold shr at e
    simp only at e
    split at e
    · cases e; exact h
    · rename_i x ej
      cases e
      unfold free at h ⊢
      by_cases hj : j = i
      · subst hj
        rw [List.getElem?_set_self (List.getElem?_eq_some_iff.mp ej).1]
      · rw [List.getElem?_set_ne hj]
        exact h
    · cases e
theorem set_ok {K : PySem.W.Frag} (r : RS K T G pin W σ H ρ) {i : Nat} {a : RV} {v : V} (o : RvOk K G W σ H ρ a v) {ρ' : Rho} (e : setS i ρ a = some ρ') : ∃ W', Step G W H W' H ∧ RS K T G pin W' (σ.set i (some v)) H ρ' := by
  unfold setS at e
  split at e
  · rename_i hf
    cases a with
    | v m => cases e; exact ⟨W, Step.refl _ _ _ r.gok, r.set_sh hf o⟩
    | o m =>
      cases e
      obtain ⟨b, rfl, ho, ng, hn⟩ := o
      exact ⟨W, Step.refl _ _ _ r.gok, r.set_ow hf ho ng hn⟩
    | b j =>
      simp only at e
      cases es : shr ρ (.b j) with
      | bad => rw [es] at e; cases e
      | ex x ρ1 => rw [es] at e; cases e
      | ok m ρ1 =>
        rw [es] at e
        cases e
        obtain ⟨W1, s1, r1, d1⟩ := shr_ok r o es
        exact ⟨W1, s1, r1.set_sh (shr_free es hf) d1⟩
  · cases e
def gSet (i : Nat) (f : Rho → Res RV) : Rho → SRes := fun ρ => (f ρ).toS fun a ρ1 => match setS i ρ1 a with
  | some ρ2 => .nx ρ2
  | none => .bad
theorem qs_set {i : Nat} {x : Str} {e : Expr} {f : Rho → Res RV} {pos pos' : Pos} (hN : X.N.Nodup) (h : QE X T Wx e f) (hi : X.N[i]? = some x := by rfl) (hx : Loc X.env.scope x := by first | exact Or.inl rfl | exact Or.inr rfl) (hs : swapsWith e (some (.Name x pos')) pos.line X.env = pure false := by rfl)
    (hf : X.fn x = true ∨ X.env.scope.names.lookup x = some .local := by first | exact .inl rfl | exact .inr rfl | assumption) : QS X T Wx (.Assign [.Name x pos'] e pos) (gSet i f) := by
  refine ⟨fun G pin => PS.imp (ps_set hN hi hx (h.run G pin) hs hf) fun D σ H ⟨W, ρ, r, h⟩ => ⟨W, ρ, r, Wp.bindS h fun a ρ1 W1 H1 v s1 r1 o1 w1 => ?_⟩⟩
  split at w1
  · rename_i ρ2 e
    obtain ⟨W2, s2, r2⟩ := set_ok r1 o1 e
    exact w1 W2 H1 _ s2 r2
  · exact w1.elim

/-! ### targets -/
/-- only the slots ts have changed -/
def Far (ts : List Nat) (σ σ' : L2.St) : Prop := σ'.length = σ.length ∧ ∀ i, i ∉ ts → σ'[i]? = σ[i]?
structure QG (X : Cx) (T : Tb) (tg : Expr) (ts : List Nat) (u : MV → Rho → Option Rho) : Prop where
  ex : ∃ g : TG, PG X tg g ∧ ∀ (G : AP) (pin : Nat → Option Addr) (W : AP) (σ : L2.St) (H : Hp) (ρ : Rho) (m : MV) (v : V) (ρ' : Rho) (Q : L2.St → Hp → Prop), RS X.K T G pin W σ H ρ → Dat X.K W H m v → u m ρ = some ρ' → (∀ σ', RS X.K T G pin W σ' H ρ' → Far ts σ σ' → Q σ' H) → g v σ H Q
structure QGs (X : Cx) (T : Tb) (tgs : List Expr) (ts : List Nat) (u : List MV → Rho → Option Rho) : Prop where
  ex : ∃ g : TGs, PGs X tgs g ∧ ∀ (G : AP) (pin : Nat → Option Addr) (W : AP) (σ : L2.St) (H : Hp) (ρ : Rho) (ms : List MV) (vs : List V) (ρ' : Rho) (Q : L2.St → Hp → Prop), RS X.K T G pin W σ H ρ → Dats X.K W H ms vs → u ms ρ = some ρ' → (∀ σ', RS X.K T G pin W σ' H ρ' → Far ts σ σ' → Q σ' H) → g vs σ H Q
def uName (i : Nat) (m : MV) (ρ : Rho) : Option Rho := if free ρ i = true then some (ρ.set i (.sh m)) else none
theorem qg_name {i : Nat} {x : Str} {pos : Pos} (hN : X.N.Nodup) (hi : X.N[i]? = some x := by rfl) (hx : Loc X.env.scope x := by first | exact Or.inl rfl | exact Or.inr rfl) (hf : X.fn x = true ∨ X.env.scope.names.lookup x = some .local := by first | exact .inl rfl | exact .inr rfl | assumption) : QG X T (.Name x pos) [i] (uName i) := by
  refine ⟨_, pg_name hN hi hx hf, fun G pin W σ H ρ m v ρ' Q r d e k => ?_⟩
  unfold uName at e
  split at e
  · rename_i hf
    cases e
    exact k _ (r.set_sh hf d) ⟨List.length_set .., fun j hj => List.getElem?_set_ne (fun e => hj (by rw [e]; exact List.mem_singleton_self _))⟩
  · cases e
def uNil (ms : List MV) (ρ : Rho) : Option Rho := match ms with
  | [] => some ρ
  | _ => none
def uCons (u : MV → Rho → Option Rho) (us : List MV → Rho → Option Rho) (ms : List MV) (ρ : Rho) : Option Rho := match ms with
  | m :: r => match u m ρ with
    | some ρ1 => us r ρ1
    | none => none
  | [] => none
theorem qgs_nil : QGs X T [] [] uNil := by
  refine ⟨_, pgs_nil, fun G pin W σ H ρ ms vs ρ' Q r d e k => ?_⟩
  cases d with
  | nil => cases e; exact ⟨rfl, k _ r ⟨rfl, fun _ _ => rfl⟩⟩
  | cons _ _ => cases e
theorem qgs_cons {e : Expr} {es : List Expr} {u : MV → Rho → Option Rho} {us : List MV → Rho → Option Rho} {t1 t2 : List Nat} (h1 : QG X T e t1 u) (h2 : QGs X T es t2 us) (hs : (assignEach (e :: es) X.env).map (·.2) = assign e X.env :: (assignEach es X.env).map (·.2) := by rfl) : QGs X T (e :: es) (t1 ++ t2) (uCons u us) := by
  obtain ⟨g1, p1, k1⟩ := h1.ex
  obtain ⟨g2, p2, k2⟩ := h2.ex
  refine ⟨_, pgs_cons p1 p2 hs, fun G pin W σ H ρ ms vs ρ' Q r d e k => ?_⟩
  cases d with
  | nil => cases e
  | cons d1 dr =>
    unfold uCons at e
    simp only at e
    split at e
    · rename_i ρ1 e1
      exact ⟨_, _, rfl, k1 G pin W σ H ρ _ _ ρ1 _ r d1 e1 fun σ1 r1 f1 => k2 G pin W σ1 H ρ1 _ _ ρ' Q r1 dr e fun σ2 r2 f2 => k σ2 r2 ⟨f2.1.trans f1.1, fun i hi => (f2.2 i fun z => hi (List.mem_append_right _ z)).trans (f1.2 i fun z => hi (List.mem_append_left _ z))⟩⟩
    · cases e
def uTup (n : Nat) (us : List MV → Rho → Option Rho) (m : MV) (ρ : Rho) : Option Rho := match m with
  | .tup ms => if ms.length = n then us ms ρ else none
  | _ => none
theorem qg_tup {es : List Expr} {k : Nat} {us : List MV → Rho → Option Rho} {n : Nat} {ts : List Nat} {pos : Pos} (hc : X.calm = true) (h : QGs X T es ts us) (hn : (assignEach es X.env).length = n := by rfl) (hst : (assignEach es X.env).findIdx? (·.1) = none := by rfl) : QG X T (.Tuple es k pos) ts (uTup n us) := by
  obtain ⟨g, p, q⟩ := h.ex
  refine ⟨_, pg_tup hc p hn hst, fun G pin W σ H ρ m v ρ' Q r d e k => ?_⟩
  unfold uTup at e
  split at e
  · rename_i ms
    split at e
    · rename_i hl
      obtain ⟨a, xs, rfl, ha, dx⟩ := Rdb.tup (.inl d)
      exact ⟨a, xs, rfl, ha, by rw [← dx.length]; exact hl, q G pin W σ H ρ ms xs ρ' Q r dx e k⟩
    · cases e
  · cases e
def gAsg (u : MV → Rho → Option Rho) (f : Rho → Res RV) : Rho → SRes := fun ρ => (f ρ).toS fun a ρ1 => match shr ρ1 a with
  | .ok m ρ2 => match u m ρ2 with
    | some ρ3 => .nx ρ3
    | none => .bad
  | _ => .bad
theorem qs_asg {tg e : Expr} {f : Rho → Res RV} {u : MV → Rho → Option Rho} {ts : List Nat} {pos : Pos} (h : QE X T Wx e f) (hg : QG X T tg ts u) (hs : swapsWithSole [tg] e pos.line X.env = pure false := by rfl) (hw : swappedStores [tg] e X.env = pure none := by rfl)
    (h1 : (assignEach [tg] X.env).map (·.2) = [assign tg X.env] := by rfl) : QS X T Wx (.Assign [tg] e pos) (gAsg u f) := by
  obtain ⟨g, p, q⟩ := hg.ex
  refine ⟨fun G pin => PS.imp (ps_asg (h.run G pin) p hs hw h1) fun D σ H ⟨W, ρ, r, h⟩ => ⟨W, ρ, r, Wp.bindS h fun a ρ1 W1 H1 v s1 r1 o1 w1 => ?_⟩⟩
  cases es : shr ρ1 a with
  | bad => rw [es] at w1; exact w1.elim
  | ex x ρ1 => rw [es] at w1; exact w1.elim
  | ok m ρ2 =>
    rw [es] at w1
    simp only at w1
    obtain ⟨W2, s2, r2, d2⟩ := shr_ok r1 o1 es
    split at w1
    · rename_i ρ3 e3
      exact q G pin W2 σ H1 ρ2 m v ρ3 _ r2 d2 e3 fun σ' r3 _ => w1 W2 H1 σ' s2 r3
    · exact w1.elim
/-- a, b = x, y -/
theorem PE.anyG {e : Expr} {f : Rho → Res RV} (h : QE X T Wx e f) (pin : Nat → Option Addr) : PE X e (fun σ H Q => ∃ G W ρ, RS X.K T G pin W σ H ρ ∧ Wp X T Wx G pin W σ H (rE X G σ) Q (f ρ)) :=
  ⟨fun pins s σ H Q I ⟨G, w⟩ => (h.run G pin).run pins s σ H Q I w⟩
def nrm (a : RV) (ρ : Rho) : Res RV := match a with
  | .v m => .ok (.v m) ρ
  | .o m => .ok (.o m) ρ
  | .b l => match shr ρ (.b l) with
    | .ok m ρ1 => .ok (.v m) ρ1
    | _ => .bad
def RV.nb : RV → Bool
  | .b _ => false
  | _ => true
theorem nrm_ok {K : PySem.W.Frag} (r : RS K T G pin W σ H ρ) {a a' : RV} {v : V} {ρ' : Rho} (o : RvOk K G W σ H ρ a v) (e : nrm a ρ = .ok a' ρ') : ∃ W', Step G W H W' H ∧ RS K T G pin W' σ H ρ' ∧ RvOk K G W' σ H ρ' a' v ∧ a'.nb = true := by
  cases a with
  | v m => cases e; exact ⟨W, Step.refl _ _ _ r.gok, r, o, rfl⟩
  | o m => cases e; exact ⟨W, Step.refl _ _ _ r.gok, r, o, rfl⟩
  | b l =>
    unfold nrm at e
    simp only at e
    split at e
    · rename_i m ρ1 es
      cases e
      obtain ⟨W1, s1, r1, d1⟩ := shr_ok r o es
      exact ⟨W1, s1, r1, d1, rfl⟩
    · cases e
theorem nrm_noex {a : RV} {x : Exn} : nrm a ρ ≠ .ex x ρ' := by
  cases a with
  | v m => intro e; cases e
  | o m => intro e; cases e
  | b l =>
    intro e
    unfold nrm at e
    simp only at e
    split at e <;> cases e
def gPar (i j : Nat) (f1 f2 : Rho → Res RV) : Rho → SRes := fun ρ => ((f1 ρ).bind nrm).toS fun a ρ1 => ((f2 ρ1).bind nrm).toS fun b ρ2 => match setS i ρ2 a with
  | some ρ3 => match setS j ρ3 b with
    | some ρ4 => .nx ρ4
    | none => .bad
  | none => .bad
theorem RS.unguard {K : PySem.W.Frag} {G' : AP} (r : RS K T G' pin W σ H ρ) (h : ∀ a, G a → G' a) : RS K T G pin W σ H ρ := by
  refine ⟨r.len, fun i s e => ?_, r.dis, r.wok, fun a g => r.gok a (h a g), r.tabs⟩
  have q := r.sl i s e
  cases s with
  | no => trivial
  | sh m => exact q
  | ow m => obtain ⟨a, h1, h2, h3⟩ := q; exact ⟨a, h1, h2, fun g => h3 (h a g)⟩
  | io m => obtain ⟨a, h1, h2, h3, h4⟩ := q; exact ⟨a, h1, h2, fun g => h3 (h a g), h4⟩
theorem RvOk.unguard {K : PySem.W.Frag} {G' : AP} {r : RV} {v : V} (o : RvOk K G' W σ H ρ r v) (h : ∀ a, G a → G' a) : RvOk K G W σ H ρ r v := by
  cases r with
  | v m => exact o
  | b i => exact o
  | o m => obtain ⟨a, h1, h2, h3, h4⟩ := o; exact ⟨a, h1, h2, fun g => h3 (h a g), h4⟩
/-- from what is guarded less to what is guarded more -/
theorem Wp.bindSG {α β : Type} {rel : Rel α β} {Q : β → Hp → Prop} {D : Ends} {r : Res α} {k : α → Rho → SRes} {G' : AP} (hG : ∀ a, G a → G' a) (h : WpS X T Wx G pin W H D (r.toS k))
    (h1 : ∀ a ρ' W' H' b, Step G' W H W' H' → RS X.K T G' pin W' σ H' ρ' → rel W' H' ρ' a b → WpS X T Wx G pin W' H' D (k a ρ') → Q b H') : Wp X T Wx G' pin W σ H rel Q r := by
  cases r with
  | ok a ρ => exact fun W2 H2 b s2 r2 q => h1 a ρ W2 H2 b s2 r2 q (WpS.shift (s2.weaken hG) h)
  | ex x ρ => exact fun W2 H2 c d s2 r2 q => h W2 H2 σ c d (s2.weaken hG) (r2.unguard hG) q
  | bad => exact h
theorem bindS_bind {α β : Type} (r : Res α) (k : α → Rho → Res β) (l : β → Rho → SRes) : (r.bind k).toS l = r.toS fun a ρ => (k a ρ).toS l := by
  cases r <;> rfl
theorem qs_par {i j : Nat} {x y : Str} {a b : Expr} {f1 f2 : Rho → Res RV} {px py pt pos : Pos} {kt k2 : Nat} {pt2 : Pos} (hc : X.calm = true) (hN : X.N.Nodup) (h1 : QE X T Wx a f1) (h2 : QE X T Wx b f2) (hi : X.N[i]? = some x := by rfl) (hj : X.N[j]? = some y := by rfl) (hij : i ≠ j := by decide)
    (hx : X.env.scope.names.lookup x = some .local := by rfl) (hy : X.env.scope.names.lookup y = some .local := by rfl)
    (hw : swappedStores [.Tuple [.Name x px, .Name y py] kt pt] (.Tuple [a, b] k2 pt2) X.env = pure (some [x, y]) := by rfl)
    (hs : swapsWithSole [.Tuple [.Name x px, .Name y py] kt pt] (.Tuple [a, b] k2 pt2) pos.line X.env = pure false := by rfl) (hs1 : starEach (a :: [b]) X.env = (false, eval a X.env) :: starEach [b] X.env := by rfl) (hs2 : starEach (b :: []) X.env = (false, eval b X.env) :: starEach [] X.env := by rfl) :
    QS X T Wx (.Assign [.Tuple [.Name x px, .Name y py] kt pt] (.Tuple [a, b] k2 pt2) pos) (gPar i j f1 f2) := by
  refine ⟨fun G pin => PS.imp (ps_par hc hN hi hj hij hx hy (pa_cons (h1.run G pin) (pa_cons (PE.anyG h2 pin) pa_nil hs2) hs1) hw hs) fun D σ H ⟨W, ρ, r, h⟩ => ?_⟩
  unfold gPar at h
  rw [bindS_bind] at h
  refine ⟨W, ρ, r, Wp.bindS h fun a0 ρ1 W1 H1 v s1 r1 o1 w1 => ?_⟩
  cases en : nrm a0 ρ1 with
  | bad => rw [en] at w1; exact w1.elim
  | ex x ρ2 => exact absurd en nrm_noex
  | ok a ρ2 =>
    rw [en] at w1
    obtain ⟨W2, s2, r2, o2, na⟩ := nrm_ok r1 o1 en
    have w2 := WpS.shift s2 w1
    -- a new list at hand is guarded while b is evaluated
    obtain ⟨G', hG, r2', ha⟩ : ∃ G' : AP, (∀ a, G a → G' a) ∧ RS X.K T G' pin W2 σ H1 ρ2 ∧ ∀ m, a = .o m → ∃ p, v = .ref p ∧ G' p ∧ ¬ G p ∧ Own X.K W2 H1 m p := by
      cases a with
      | v m => exact ⟨G, fun _ h => h, r2, fun m z => nomatch z⟩
      | b l => cases na
      | o m =>
        obtain ⟨p, hp, hO, ng, hn⟩ := o2
        refine ⟨fun a => G a ∨ a = p, fun _ h => .inl h, ⟨r2.len, fun k s e => ?_, r2.dis, r2.wok, fun a g => g.elim (r2.gok a) fun z => z ▸ hO.1, r2.tabs⟩, fun m' z => ?_⟩
        · have q := r2.sl k s e
          cases s with
          | no => trivial
          | sh m => exact q
          | ow m => obtain ⟨c, k1, k2, k3⟩ := q; exact ⟨c, k1, k2, fun g => g.elim k3 fun z => hn k _ e rfl (by rw [k1, z])⟩
          | io m => obtain ⟨c, k1, k2, k3, k4⟩ := q; exact ⟨c, k1, k2, fun g => g.elim k3 (fun z => hn k _ e rfl (by rw [k1, z])), k4⟩
        · cases z
          exact ⟨p, hp, .inr rfl, ng, hO⟩
    show ∃ G W ρ, RS X.K T G pin W σ H1 ρ ∧ _
    change WpS X T Wx G pin W2 H1 D (((f2 ρ2).bind nrm).toS _) at w2
    rw [bindS_bind] at w2
    refine ⟨G', W2, ρ2, r2', Wp.bindSG hG w2 fun b0 ρ3 W3 H3 u s3 r3 o3 w3 => ?_⟩
    cases en2 : nrm b0 ρ3 with
    | bad => rw [en2] at w3; exact w3.elim
    | ex x ρ2 => exact absurd en2 nrm_noex
    | ok b ρ4 =>
      rw [en2] at w3
      obtain ⟨W4, s4, r4, o4, nb⟩ := nrm_ok r3 o3 en2
      have w4 := WpS.shift (s4.weaken hG) w3
      have s34 := s3.trans s4
      have oa : RvOk X.K G' W4 σ H3 ρ4 a v ∨ ∃ m p, a = .o m ∧ v = .ref p ∧ G' p ∧ ¬ G p ∧ Own X.K W4 H3 m p := by
        cases a with
        | v m => exact .inl (Dat.keep s34.keeps o2)
        | b l => cases na
        | o m =>
          obtain ⟨p, hp, gp, ng, hO⟩ := ha m rfl
          refine .inr ⟨m, p, rfl, hp, gp, ng, ?_⟩
          have hO' := hO
          obtain ⟨_, ox, hx, hb⟩ := hO'
          obtain ⟨q1, q2⟩ := s34.gd p _ gp hx hb.notbl
          exact hO.keep s34.keeps q2 (q1.trans hx.symm)
      have r5 := r4.unguard hG
      have oa' : RvOk X.K G W4 σ H3 ρ4 a v := by
        rcases oa with oa | ⟨m, p, rfl, hp, gp, ng, hO⟩
        · exact oa.unguard hG
        · refine ⟨p, hp, hO, ng, fun k s e os q => ?_⟩
          obtain ⟨n1, _⟩ := r4.own_at e os q
          exact n1 gp
      refine ⟨v, u, rfl, ?_⟩
      change WpS X T Wx G pin W4 H3 D (match setS i ρ4 a with | some ρ3 => (match setS j ρ3 b with | some ρ4 => SRes.nx ρ4 | none => SRes.bad) | none => SRes.bad) at w4
      split at w4
      · rename_i ρ6 e6
        split at w4
        · rename_i ρ7 e7
          -- the first store
          have r6 : RS X.K T G pin W4 (σ.set i (some v)) H3 ρ6 ∧ ρ6 = ρ4.set i (match a with | .v m => .sh m | .o m => .ow m | .b _ => .no) := by
            unfold setS at e6
            split at e6
            · rename_i hf
              cases a with
              | v m => cases e6; exact ⟨r5.set_sh hf oa', rfl⟩
              | o m =>
                cases e6
                obtain ⟨p, hp, hO, ng, hn⟩ := oa'
                subst hp
                exact ⟨r5.set_ow hf hO ng hn, rfl⟩
              | b l => cases na
            · cases e6
          obtain ⟨r6, e6'⟩ := r6
          have ob : RvOk X.K G W4 (σ.set i (some v)) H3 ρ6 b u := by
            cases b with
            | v m => exact o4
            | b l => cases nb
            | o m =>
              obtain ⟨p', hp', hO', ng', hn'⟩ := o4
              refine ⟨p', hp', hO', fun g => ng' (hG p' g), fun k s e os q => ?_⟩
              by_cases hk : k = i
              · subst hk
                have hl : k < σ.length := by
                  by_cases hl : k < σ.length
                  · exact hl
                  · rw [List.getElem?_eq_none (by rw [List.length_set]; omega)] at q
                    cases q
                rw [List.getElem?_set_self hl] at q
                cases q
                rw [e6', List.getElem?_set_self (by rw [r5.len]; exact hl)] at e
                cases a with
                | v m' => cases e; cases os
                | b l => cases na
                | o m' =>
                  rcases oa with oa | ⟨m2, p, e2, hp, gp, ng, hO⟩
                  · obtain ⟨p, hp, _, ng2, _⟩ := oa
                    cases hp
                    obtain ⟨p2, hp2, gp2, _⟩ := ha m' rfl
                    cases hp2
                    exact ng2 gp2
                  · cases hp
                    exact ng' gp
              · rw [e6', List.getElem?_set_ne (Ne.symm hk)] at e
                rw [List.getElem?_set_ne (Ne.symm hk)] at q
                exact hn' k s e os q
          obtain ⟨W7, s7, r7⟩ := set_ok r6 ob e7
          exact w4 W7 H3 _ s7 r7
        · exact w4.elim
      · exact w4.elim
end
end DL
namespace DL
open PySem PySem.Spec L2
section
variable {X : Cx} {T : Tb} {Wx : WX} {G : AP} {pin : Nat → Option Addr} {W W' : AP} {σ : L2.St} {H H' : Hp} {ρ ρ' : Rho}
/-! ### x[i] = e -/
def gSetIx (i : Nat) (fi f : Rho → Res RV) : Rho → SRes := fun ρ => (f ρ).toS fun a ρ1 => match shr ρ1 a with
  | .ok m ρ2 => match lstAt ρ2 i with
    | some _ => (fi ρ2).toS fun b ρ3 => match cont ρ3 b, lstAt ρ3 i with
      | some (.int k), some ls => match ixN ls.length k with
        | some j => .nx (putL ρ3 i (ls.set j m))
        | none => .bad
      | _, _ => .bad
    | none => .bad
  | _ => .bad
theorem qs_setIx {i : Nat} {x : Str} {ie e : Expr} {fi f : Rho → Res RV} {p1 p2 pos : Pos} (hI : QE X T Wx ie fi) (hE : QE X T Wx e f) (hN : X.N[i]? = some x := by rfl) (hv : Vis X.env.scope x := by first | exact Or.inl rfl | exact Or.inr (Or.inl rfl) | exact Or.inr (Or.inr rfl)) (hd : (x == ("__debug__" : Str)) = false := by decide)
    (hcd : (x == ("__classdict__" : Str)) = false := by decide) (ha : ∀ v, assign (.Subscript (.Name x p1) ie p2) X.env v = (do
      let ov ← holding [v] (eval (.Name x p1) X.env)
      let iv ← holding [v, ov] (eval ie X.env)
      standAt p2
      holding [v, ov, iv] (setItem ov iv v)
      release [v, ov, iv] []) := by intro _; rfl) (hs : swapsWithSole [.Subscript (.Name x p1) ie p2] e pos.line X.env = pure false := by rfl) (hw : swappedStores [.Subscript (.Name x p1) ie p2] e X.env = pure none := by rfl)
    (h1 : (assignEach [.Subscript (.Name x p1) ie p2] X.env).map (·.2) = [assign (.Subscript (.Name x p1) ie p2) X.env] := by rfl) : QS X T Wx (.Assign [.Subscript (.Name x p1) ie p2] e pos) (gSetIx i fi f) := by
  refine ⟨fun G pin => PS.imp (ps_asg (hE.run G pin) (pg_sub (pe_var (i := i) hN hv hd hcd) (hI.run G pin) set_list ha) hs hw h1) fun D σ H ⟨W, ρ, r, h⟩ => ⟨W, ρ, r, Wp.bindS h fun a ρ1 W1 H1 v s1 r1 o1 w1 => ?_⟩⟩
  cases es : shr ρ1 a with
  | bad => rw [es] at w1; exact w1.elim
  | ex x ρ1 => rw [es] at w1; exact w1.elim
  | ok m ρ2 =>
    rw [es] at w1
    simp only at w1
    obtain ⟨W2, s2, r2, d2⟩ := shr_ok r1 o1 es
    cases el : lstAt ρ2 i with
    | none => rw [el] at w1; exact w1.elim
    | some ls0 =>
      rw [el] at w1
      simp only at w1
      obtain ⟨p, xs0, hsi, _⟩ := lstAt_at r2 el
      refine ⟨.ref p, hsi, W2, ρ2, r2, Wp.bindS (WpS.shift s2 w1) fun b ρ3 W3 H3 u s3 r3 o3 w3 => ?_⟩
      split at w3
      · rename_i k ls ec el3
        split at w3
        · rename_i j ej
          obtain ⟨p', xs, hsi', hw', ng', hp', dx⟩ := lstAt_at r3 el3
          rw [hsi] at hsi'
          cases hsi'
          have ek := (cont_ok r3 o3 ec).int
          subst ek
          have d3 := d2.keep s3.keeps
          rw [dx.length] at ej
          exact ⟨p, xs, k, j, rfl, rfl, hp', ej, w3 W3 _ σ (step_write r3.gok hw' ng' hp') (putL_ok r3 el3 hsi hw' ng' hp' (dx.set d3 j))⟩
        · exact w3.elim
      · exact w3.elim
/-! ### x += e of ints -/
def gAug (f : Int → Int → Int) (i : Nat) (fe : Rho → Res RV) : Rho → SRes := fun ρ => match ρ[i]? with
  | some (.sh (.int a)) => (fe ρ).toS fun b ρ1 => match cont ρ1 b with
    | some (.int k) => match setS i ρ1 (.v (.int (f a k))) with
      | some ρ2 => .nx ρ2
      | none => .bad
    | _ => .bad
  | _ => .bad
theorem qs_aug {i : Nat} {x : Str} {e : Expr} {fe : Rho → Res RV} {op : Operator} {f : Int → Int → Int} {pos pos' : Pos} (hN : X.N.Nodup) (hE : QE X T Wx e fe) (ho : PIp X op (ipI f)) (hi : X.N[i]? = some x := by rfl) (hx : Loc X.env.scope x := by first | exact Or.inl rfl | exact Or.inr rfl)
    (hf : X.fn x = true ∨ X.env.scope.names.lookup x = some .local := by first | exact .inl rfl | exact .inr rfl | assumption) : QS X T Wx (.AugAssign (.Name x pos') op e pos) (gAug f i fe) := by
  refine ⟨fun G pin => PS.imp (ps_aug hN hi hx (hE.run G pin) ho hf) fun D σ H ⟨W, ρ, r, h⟩ => ?_⟩
  unfold gAug at h
  split at h
  · rename_i a ea
    obtain ⟨v, hv, dv⟩ := r.sl i _ ea
    have ev := Rdb.int (.inl dv)
    subst ev
    refine ⟨.int a, hv, W, ρ, r, Wp.bindS h fun b ρ1 W1 H1 u s1 r1 o1 w1 => ?_⟩
    split at w1
    · rename_i k ec
      split at w1
      · rename_i ρ2 e2
        have ek := (cont_ok r1 o1 ec).int
        obtain ⟨W2, s2, r2⟩ := set_ok (a := RV.v (.int (f a k))) (v := .int (f a k)) r1 (Dat.int (f a k)) e2
        exact ⟨a, k, rfl, ek, w1 W2 H1 _ s2 r2⟩
      · exact w1.elim
    · exact w1.elim
  · exact h.elim

/-! ### while -/
def loopS (r : SRes) (k : Rho → SRes) : SRes := match r with
  | .nx ρ => k ρ
  | .ct ρ => k ρ
  | .bk ρ => .nx ρ
  | r => r
def whileF (t : Rho → Res Bool) (b : Rho → SRes) : Nat → Rho → SRes
  | 0, _ => .bad
  | n + 1, ρ => (t ρ).toS fun c ρ1 => match c with
    | true => loopS (b ρ1) (whileF t b n)
    | false => .nx ρ1
theorem WpS.loop {D : Ends} {r : SRes} {k : Rho → SRes} {N : L2.St → Hp → Prop} (h : WpS X T Wx G pin W H D (loopS r k))
    (h1 : ∀ ρ' W' H' σ', Step G W H W' H' → RS X.K T G pin W' σ' H' ρ' → WpS X T Wx G pin W' H' D (k ρ') → N σ' H') : WpS X T Wx G pin W H { D with nx := N, ct := N, bk := D.nx } r := by
  cases r with
  | nx ρ => exact fun W2 H2 σ2 s2 r2 => h1 ρ W2 H2 σ2 s2 r2 (WpS.shift s2 h)
  | ct ρ => exact fun W2 H2 σ2 s2 r2 => h1 ρ W2 H2 σ2 s2 r2 (WpS.shift s2 h)
  | bk ρ => exact h
  | rt r ρ => exact h
  | ex x ρ => exact h
  | bad => exact h
theorem qs_while {c : Expr} {body : List Stmt} {t : Rho → Res Bool} {b : Rho → SRes} {pos : Pos} (n : Nat) (hp : PassesOwn (model X.prog X.w) X.A X.env X.xe) (hc : QT X T Wx c t) (hb : QSs X T Wx body b) : QS X T Wx (.While c body [] pos) (whileF t b n) := by
  refine ⟨fun G pin => PS.imp (ps_while hp (hc.run G pin) (hb.run G pin)) fun D σ H ⟨W, ρ, r, h⟩ => ?_⟩
  refine ⟨fun m σ H => ∃ W ρ, RS X.K T G pin W σ H ρ ∧ WpS X T Wx G pin W H D (whileF t b m ρ), ⟨n, W, ρ, r, h⟩, ?_⟩
  rintro m σ H ⟨W, ρ, r, h⟩
  cases m with
  | zero => exact h.elim
  | succ m =>
    refine ⟨W, ρ, r, Wp.bindS h fun c ρ1 W1 H1 v s1 r1 o1 w1 => ?_⟩
    cases o1
    cases c with
    | true =>
      refine iteT ⟨fun σ' H' => ∃ W ρ, RS X.K T G pin W σ' H' ρ ∧ WpS X T Wx G pin W H' D (whileF t b m ρ), fun σ' H' hh => ⟨m, Nat.lt_succ_self m, hh⟩, W1, ρ1, r1, ?_⟩
      exact WpS.loop w1 fun ρ' W' H' σ' s' r' w' => ⟨W', ρ', r', w'⟩
    | false => exact iteF (w1 W1 H1 σ (Step.refl _ _ _ r1.gok) r1)

/-! ### what is walked -/
theorem Keeps.trans {W1 W2 : AP} {H1 H2 : Hp} (a : Keeps W H W1 H1) (b : Keeps W1 H1 W2 H2) : Keeps W H W2 H2 := ⟨fun x o h n t => let ⟨n1, h1⟩ := a.fr x o h n t; b.fr x o h1 n1 t⟩
theorem Keeps.refl (W : AP) (H : Hp) : Keeps W H W H := ⟨fun _ _ h n _ => ⟨n, h⟩⟩
/-- J gives the data ms, one a turn, while what they rest on stays -/
def ItOk (K : PySem.W.Frag) (W : AP) (H : Hp) (ms : List MV) (J : It) : Prop := ∀ W' H', Keeps W H W' H' → (∀ a, W' a → ∃ o, H' a = some o) →
  (∀ (i : Nat) (m : MV), ms[i]? = some m → J.go i H' ∧ ∀ x H'', J.yld i H' x H'' → (H'' = H' ∨ ∃ p xs, H' p = none ∧ H'' = upd H' p (.tup xs)) ∧ Dat K W' H'' m x) ∧ J.stop ms.length H'
structure QI (X : Cx) (T : Tb) (Wx : WX) (tg iter : Expr) (f : Rho → Res (List MV)) : Prop where
  run : ∀ (G : AP) (pin : Nat → Option Addr), PI X tg iter (fun σ H R => ∃ W ρ, RS X.K T G pin W σ H ρ ∧ Wp X T Wx G pin W σ H (fun W H _ ms J => ItOk X.K W H ms J) R (f ρ))
theorem PI.imp {tg e : Expr} {t t' : TI} (h : PI X tg e t) (i : ∀ σ H Q, t' σ H Q → t σ H Q) : PI X tg e t' := ⟨fun pins s σ H Q I w => h.run pins s σ H Q I (i σ H Q w)⟩
theorem PI.or {tg e : Expr} {t t' : TI} (h : PI X tg e t) (h' : PI X tg e t') : PI X tg e (fun σ H R => t σ H R ∨ t' σ H R) := ⟨fun pins s σ H Q I w => w.elim (h.run pins s σ H Q I) (h'.run pins s σ H Q I)⟩
def forF (u : MV → Rho → Option Rho) (b : Rho → SRes) : List MV → Rho → SRes
  | [], ρ => .nx ρ
  | m :: ms, ρ => match u m ρ with
    | some ρ1 => loopS (b ρ1) (forF u b ms)
    | none => .bad
def gFor (fi : Rho → Res (List MV)) (u : MV → Rho → Option Rho) (b : Rho → SRes) : Rho → SRes := fun ρ => (fi ρ).toS fun ms ρ1 => forF u b ms ρ1
theorem qs_for {tg iter : Expr} {body : List Stmt} {fi : Rho → Res (List MV)} {u : MV → Rho → Option Rho} {ts : List Nat} {b : Rho → SRes} {pos : Pos} (hp : PassesOwn (model X.prog X.w) X.A X.env X.xe) (hc : X.calm = true) (hi : QI X T Wx tg iter fi) (hg : QG X T tg ts u) (hb : QSs X T Wx body b)
    (hs : ∀ x, foldedSetIterable iter X.env x = pure x := by intro _; rfl) : QS X T Wx (.For tg iter body [] pos) (gFor fi u b) := by
  obtain ⟨g, pg, kg⟩ := hg.ex
  refine ⟨fun G pin => PS.imp (ps_for hp hc (hi.run G pin) pg (hb.run G pin) hs) fun D σ H ⟨W, ρ, r, h⟩ => ⟨W, ρ, r, Wp.bindS h fun ms ρ1 W1 H1 J s1 r1 o1 w1 => ?_⟩⟩
  refine ⟨fun i m σ H => ∃ W ρ, RS X.K T G pin W σ H ρ ∧ Keeps W1 H1 W H ∧ m = ms.length - i ∧ i ≤ ms.length ∧ WpS X T Wx G pin W H D (forF u b (ms.drop i) ρ), ⟨ms.length, W1, ρ1, r1, Keeps.refl _ _, by omega, Nat.zero_le _, w1⟩, ?_⟩
  rintro i m σ H ⟨W, ρ, r, kp, rfl, hi, w⟩
  obtain ⟨it, st⟩ := o1 W H kp fun a wa => let ⟨o, ho, _⟩ := r.wok a wa; ⟨o, ho⟩
  by_cases hlt : i < ms.length
  · have hd : ms.drop i = ms[i] :: ms.drop (i + 1) := List.drop_eq_getElem_cons hlt
    obtain ⟨go, yl⟩ := it i ms[i] (List.getElem?_eq_getElem hlt)
    rw [hd] at w
    unfold forF at w
    refine .inr ⟨go, fun σ' H' => ∃ W ρ, RS X.K T G pin W σ' H' ρ ∧ Keeps W1 H1 W H' ∧ WpS X T Wx G pin W H' D (forF u b (ms.drop (i + 1)) ρ), fun σ' H' ⟨W2, ρ2, r2, k2, w2⟩ => ⟨ms.length - (i + 1), by omega, W2, ρ2, r2, k2, rfl, hlt, w2⟩, fun x H' hy => ?_⟩
    obtain ⟨hh, dx⟩ := yl x H' hy
    split at w
    · rename_i ρ2 e2
      have rest : ∀ {H' : Hp}, Step G W H W H' → RS X.K T G pin W σ H' ρ → Dat X.K W H' ms[i] x → g x σ H' fun σ2 H2 => ∃ W ρ, RS X.K T G pin W σ2 H2 ρ ∧ WpS X T Wx G pin W H2 { D with nx := fun σ' H' => ∃ W ρ, RS X.K T G pin W σ' H' ρ ∧ Keeps W1 H1 W H' ∧ WpS X T Wx G pin W H' D (forF u b (ms.drop (i + 1)) ρ), ct := fun σ' H' => ∃ W ρ, RS X.K T G pin W σ' H' ρ ∧ Keeps W1 H1 W H' ∧ WpS X T Wx G pin W H' D (forF u b (ms.drop (i + 1)) ρ), bk := D.nx } (b ρ) := fun {H'} s' r' d' => by
        refine kg G pin W σ H' ρ ms[i] x ρ2 _ r' d' e2 fun σ2 r2 _ => ⟨W, ρ2, r2, ?_⟩
        exact WpS.loop (WpS.shift s' w) fun ρ3 W3 H3 σ3 s3 r3 w3 => ⟨W3, ρ3, r3, (kp.trans s'.keeps).trans s3.keeps, w3⟩
      rcases hh with rfl | ⟨p, xs, hn, rfl⟩
      · exact rest (Step.refl _ _ _ r.gok) r dx
      · exact rest (step_new r hn) (r.new hn) dx
    · exact w.elim
  · have e : i = ms.length := by omega
    subst e
    rw [List.drop_length] at w
    exact .inl ⟨st, w W H σ (Step.refl _ _ _ r.gok) r⟩
/-- a list, a tuple, a text -/
def signs (z : Str) : List MV := z.cps.toList.map fun c => .str ⟨#[c]⟩
def fItems (f : Rho → Res RV) : Rho → Res (List MV) := fun ρ => (f ρ).bind fun a ρ1 => (shr ρ1 a).bind fun m ρ2 => match m with
  | .lst ms => .ok ms ρ2
  | .tup ms => .ok ms ρ2
  | .str z => .ok (signs z) ρ2
  | _ => .bad
theorem it_list {K : PySem.W.Frag} {a : Addr} {xs : List V} {ms : List MV} (hn : ¬ W a) (ha : H a = some (.lst xs)) (d : Dats K W H ms xs) : ItOk K W H ms (Itl K a) := fun W' H' k _ => by
  obtain ⟨hn', ha'⟩ := k.fr _ _ ha hn (fun _ q => nomatch q)
  have d' := d.keep k
  refine ⟨fun i m e => ?_, xs, SqL.of ha', by rw [d.length]; exact Nat.le_refl _⟩
  obtain ⟨v, hv, dv⟩ := d'.get e
  exact ⟨⟨xs, v, SqL.of ha', hv⟩, fun x H'' ⟨e1, e2⟩ => by subst e1; have := e2 xs (SqL.of ha'); rw [hv] at this; cases this; exact ⟨.inl rfl, dv⟩⟩
theorem it_tup {K : PySem.W.Frag} {a : Addr} {xs : List V} {ms : List MV} (ha : TpD K W H a xs) (d : Dats K W H ms xs) : ItOk K W H ms (Itt K a) := fun W' H' k _ => by
  have ha' : TpD K W' H' a xs := ha.elim (fun ⟨n, h⟩ => .inl (k.fr _ _ h n (fun _ q => nomatch q))) .inr
  have d' := d.keep k
  refine ⟨fun i m e => ?_, xs, ha'.sq, by rw [d.length]; exact Nat.le_refl _⟩
  obtain ⟨v, hv, dv⟩ := d'.get e
  exact ⟨⟨xs, v, ha'.sq, hv⟩, fun x H'' ⟨e1, e2⟩ => by subst e1; have := e2 xs ha'.sq; rw [hv] at this; cases this; exact ⟨.inl rfl, dv⟩⟩
theorem it_str {K : PySem.W.Frag} {z : Str} : ItOk K W H (signs z) (Its z) := fun W' H' k _ => by
  refine ⟨fun i m e => ?_, by unfold signs; rw [List.length_map]; exact Nat.le_of_eq rfl⟩
  unfold signs at e
  rw [List.getElem?_map] at e
  cases ec : z.cps.toList[i]? with
  | none => rw [ec] at e; cases e
  | some c =>
    rw [ec] at e
    cases e
    have ec' : z.cps[i]? = some c := by simpa using ec
    refine ⟨(Array.getElem?_eq_some_iff.mp ec').1, fun x H'' ⟨e1, c', e2, e3⟩ => ?_⟩
    rw [ec'] at e2
    cases e2
    subst e1 e3
    exact ⟨.inl rfl, .str _⟩
theorem qi_items {tg e : Expr} {f : Rho → Res RV} (h : QE X T Wx e f) : QI X T Wx tg e (fItems f) := by
  refine ⟨fun G pin => PI.imp (PI.or (pi_list (h.run G pin)) (PI.or (pi_tup (h.run G pin)) (pi_str (h.run G pin)))) fun σ H R ⟨W, ρ, r, w⟩ => ?_⟩
  have go : ∀ {R' : V → Hp → Prop}, (∀ a ρ1 W1 H1 v m ρ2, Step G W H W1 H1 → RS X.K T G pin W1 σ H1 ρ2 → Dat X.K W1 H1 m v → f ρ = .ok a ρ1 → shr ρ1 a = .ok m ρ2 →
      Wp X T Wx G pin W1 σ H1 (fun W H _ ms J => ItOk X.K W H ms J) R (match m with | .lst ms => .ok ms ρ2 | .tup ms => .ok ms ρ2 | .str z => .ok (signs z) ρ2 | _ => .bad) → R' v H1) →
      ∃ W ρ, RS X.K T G pin W σ H ρ ∧ Wp X T Wx G pin W σ H (rE X G σ) R' (f ρ) := fun {R'} hk => by
    refine ⟨W, ρ, r, ?_⟩
    unfold fItems at w
    cases ef : f ρ with
    | bad => rw [ef] at w; exact w.elim
    | ex x ρ1 => rw [ef] at w; exact w
    | ok a ρ1 =>
      rw [ef] at w
      intro W1 H1 v s1 r1 o1
      have w1 := Wp.shift s1 w
      simp only [Res.bind] at w1
      rcases shr_cases ρ1 a with ⟨m, ρ2, e2⟩ | e2
      · rw [e2] at w1
        obtain ⟨W2, s2, r2, d2⟩ := shr_ok r1 o1 e2
        exact hk a ρ1 W2 H1 v m ρ2 (s1.trans s2) r2 d2 ef e2 (Wp.shift s2 w1)
      · rw [e2] at w1
        exact w1.elim
  by_cases hl : ∃ a ρ1 ms ρ2, f ρ = .ok a ρ1 ∧ shr ρ1 a = .ok (.lst ms) ρ2
  · obtain ⟨a0, ρ10, ms0, ρ20, ef0, es0⟩ := hl
    refine .inl (go fun a ρ1 W1 H1 v m ρ2 s1 r1 d1 ef es w1 => ?_)
    rw [ef0] at ef
    cases ef
    rw [es0] at es
    cases es
    cases d1 with
    | lst n ha d => exact ⟨_, rfl, ⟨_, SqL.of ha⟩, w1 W1 H1 _ (Step.refl _ _ _ r1.gok) r1 (it_list n ha d)⟩
  · by_cases ht : ∃ a ρ1 ms ρ2, f ρ = .ok a ρ1 ∧ shr ρ1 a = .ok (.tup ms) ρ2
    · obtain ⟨a0, ρ10, ms0, ρ20, ef0, es0⟩ := ht
      refine .inr (.inl (go fun a ρ1 W1 H1 v m ρ2 s1 r1 d1 ef es w1 => ?_))
      rw [ef0] at ef
      cases ef
      rw [es0] at es
      cases es
      cases d1 with
      | tup t d => exact ⟨_, rfl, ⟨_, t.sq⟩, w1 W1 H1 _ (Step.refl _ _ _ r1.gok) r1 (it_tup t d)⟩
    · refine .inr (.inr (go fun a ρ1 W1 H1 v m ρ2 s1 r1 d1 ef es w1 => ?_))
      cases m with
      | lst ms => exact absurd ⟨a, ρ1, ms, ρ2, ef, es⟩ hl
      | tup ms => exact absurd ⟨a, ρ1, ms, ρ2, ef, es⟩ ht
      | str z => exact ⟨z, Rdb.str (.inl d1), w1 W1 H1 _ (Step.refl _ _ _ r1.gok) r1 it_str⟩
      | _ => exact w1.elim
/-- range -/
def rgM (lo : Int) (n : Nat) : List MV := (List.range n).map fun (i : Nat) => .int (lo + i)
theorem it_range {K : PySem.W.Frag} {lo : Int} {n : Nat} : ItOk K W H (rgM lo n) (Itr lo n) := fun W' H' k _ => by
  refine ⟨fun i m e => ?_, by unfold rgM; rw [List.length_map, List.length_range]; exact Nat.le_refl _⟩
  unfold rgM at e
  rw [List.getElem?_map] at e
  by_cases hi : i < n
  · rw [List.getElem?_range hi] at e
    cases e
    exact ⟨hi, fun x H'' ⟨e1, e2⟩ => by subst e1 e2; exact ⟨.inl rfl, .int _⟩⟩
  · rw [List.getElem?_eq_none (by rw [List.length_range]; omega)] at e
    cases e
def small62 (i : Int) : Bool := decide (i.natAbs < 1000000)
theorem small62_of {i : Int} (h : small62 i = true) : -(2 ^ 62) ≤ i ∧ i < 2 ^ 62 := by
  unfold small62 at h
  simp only [decide_eq_true_eq] at h
  omega
def fRange1 (f : Rho → Res (List RV)) : Rho → Res (List MV) := fun ρ => (f ρ).bind fun as ρ1 => match conts ρ1 as with
  | some [.int j] => if small62 j = true then .ok (rgM 0 j.toNat) ρ1 else .bad
  | _ => .bad
def fRange2 (f : Rho → Res (List RV)) : Rho → Res (List MV) := fun ρ => (f ρ).bind fun as ρ1 => match conts ρ1 as with
  | some [.int i, .int j] => if small62 i = true ∧ small62 j = true then .ok (rgM i (j - i).toNat) ρ1 else .bad
  | _ => .bad
theorem qi_range1 {tg a : Expr} {f : Rho → Res (List RV)} {p pos : Pos} (hm : X.mg "range" = none) (ha : QA X T Wx [a] f) (hg : Gl X "range" := by rfl) (hs : starEach [a] X.env = [(false, eval a X.env)] := by rfl) : QI X T Wx tg (.Call (.Name "range" p) [a] [] pos) (fRange1 f) := by
  refine ⟨fun G pin => PI.imp (pi_range1 hg hm (ha.run G pin) hs) fun σ H R ⟨W, ρ, r, w⟩ => ⟨W, ρ, r, Wp.bind w fun as ρ1 W1 H1 vs s1 r1 o1 w1 => ?_⟩⟩
  split at w1
  · rename_i j e
    split at w1
    · rename_i hj
      obtain ⟨x, rfl, hx⟩ := (conts_ok r1 o1 e).one
      obtain ⟨h1, h2⟩ := small62_of hj
      exact ⟨j, by rw [hx.int], h1, h2, w1 W1 H1 _ (Step.refl _ _ _ r1.gok) r1 it_range⟩
    · exact w1.elim
  · exact w1.elim
theorem qi_range2 {tg a b : Expr} {f : Rho → Res (List RV)} {p pos : Pos} (hm : X.mg "range" = none) (ha : QA X T Wx [a, b] f) (hg : Gl X "range" := by rfl) (hs : starEach [a, b] X.env = [(false, eval a X.env), (false, eval b X.env)] := by rfl) (hs2 : starEach [b] X.env = [(false, eval b X.env)] := by rfl) : QI X T Wx tg (.Call (.Name "range" p) [a, b] [] pos) (fRange2 f) := by
  refine ⟨fun G pin => PI.imp (pi_range2 hg hm (ha.run G pin) hs hs2) fun σ H R ⟨W, ρ, r, w⟩ => ⟨W, ρ, r, Wp.bind w fun as ρ1 W1 H1 vs s1 r1 o1 w1 => ?_⟩⟩
  split at w1
  · rename_i i j e
    split at w1
    · rename_i hj
      obtain ⟨x, y, rfl, hx, hy⟩ := (conts_ok r1 o1 e).two
      obtain ⟨h1, h2⟩ := small62_of hj.1
      obtain ⟨h3, h4⟩ := small62_of hj.2
      exact ⟨i, j, by rw [hx.int, hy.int], ⟨h1, h2, h3, h4⟩, w1 W1 H1 _ (Step.refl _ _ _ r1.gok) r1 it_range⟩
    · exact w1.elim
  · exact w1.elim
end
end DL
namespace DL
open PySem PySem.Spec L2
section
variable {X : Cx} {T : Tb} {Wx : WX} {G : AP} {pin : Nat → Option Addr} {W W' : AP} {σ : L2.St} {H H' : Hp} {ρ ρ' : Rho}
/-! ### [elt for target in iter if ..] -/
structure QTs (X : Cx) (T : Tb) (Wx : WX) (ifs : List Expr) (f : Rho → Res Bool) : Prop where
  run : ∀ (G : AP) (pin : Nat → Option Addr), PTs X ifs (fun σ H Q => ∃ W ρ, RS X.K T G pin W σ H ρ ∧ Wp X T Wx G pin W σ H rB Q (f ρ))
theorem PTs.imp {X : Cx} {e : List Expr} {t t' : TT} (h : PTs X e t) (i : ∀ σ H Q, t' σ H Q → t σ H Q) : PTs X e t' := ⟨fun pins s σ H Q I w => h.run pins s σ H Q I (i σ H Q w)⟩
def tsNil : Rho → Res Bool := fun ρ => .ok true ρ
theorem qts_nil : QTs X T Wx [] tsNil := ⟨fun G pin => PTs.imp pts_nil fun σ H Q ⟨W, ρ, r, h⟩ => h W H true (Step.refl _ _ _ r.gok) r rfl⟩
theorem qts_one {c : Expr} {f : Rho → Res Bool} (h : QT X T Wx c f) : QTs X T Wx [c] f := ⟨fun G pin => pts_one (h.run G pin)⟩
theorem PG.imp {X : Cx} {tg : Expr} {t t' : TG} (h : PG X tg t) (i : ∀ v σ H Q, t' v σ H Q → t v σ H Q) : PG X tg t' := ⟨fun pins s σ H v u Q I hv w => h.run pins s σ H v u Q I hv (i v σ H Q w)⟩
def uG (K : PySem.W.Frag) (T : Tb) (ts : List Nat) (u : MV → Rho → Option Rho) : TG := fun v σ H Q => ∃ G pin W ρ m ρ', RS K T G pin W σ H ρ ∧ Dat K W H m v ∧ u m ρ = some ρ' ∧ ∀ σ', RS K T G pin W σ' H ρ' → Far ts σ σ' → Q σ' H
theorem QG.pg {tg : Expr} {ts : List Nat} {u : MV → Rho → Option Rho} (h : QG X T tg ts u) : PG X tg (uG X.K T ts u) := by
  obtain ⟨g, p, k⟩ := h.ex
  exact PG.imp p fun v σ H Q ⟨G, pin, W, ρ, m, ρ', r, d, e, q⟩ => k G pin W σ H ρ m v ρ' Q r d e q
def strip : Option Sl → Sl
  | some (.sh m) => .sh m
  | _ => .no
def wipeR : List Nat → Rho → Rho
  | [], ρ => ρ
  | v :: vs, ρ => (wipeR vs ρ).set v .no
def backR : List Nat → Rho → Rho → Rho
  | [], _, ρ => ρ
  | v :: vs, ρ0, ρ => (backR vs ρ0 ρ).set v (strip ρ0[v]?)
theorem wipeR_len : ∀ (vs : List Nat) (ρ : Rho), (wipeR vs ρ).length = ρ.length
  | [], _ => rfl
  | v :: vs, ρ => by rw [wipeR, List.length_set, wipeR_len vs ρ]
theorem backR_len : ∀ (vs : List Nat) (ρ0 ρ : Rho), (backR vs ρ0 ρ).length = ρ.length
  | [], _, _ => rfl
  | v :: vs, ρ0, ρ => by rw [backR, List.length_set, backR_len vs ρ0 ρ]
theorem wipeR_at : ∀ {vs : List Nat} {ρ : Rho} {i : Nat} {s : Sl}, (wipeR vs ρ)[i]? = some s → s = .no ∨ (i ∉ vs ∧ ρ[i]? = some s)
  | [], ρ, i, s, h => .inr ⟨by simp, h⟩
  | v :: vs, ρ, i, s, h => by
    rw [wipeR] at h
    by_cases hi : v = i
    · subst hi
      have hl : v < (wipeR vs ρ).length := by
        have := (List.getElem?_eq_some_iff.mp h).1
        rwa [List.length_set] at this
      rw [List.getElem?_set_self hl] at h
      cases h
      exact .inl rfl
    · rw [List.getElem?_set_ne hi] at h
      rcases wipeR_at h with e | ⟨n, e⟩
      · exact .inl e
      · exact .inr ⟨by simp only [List.mem_cons, not_or]; exact ⟨fun z => hi z.symm, n⟩, e⟩
theorem backR_at : ∀ {vs : List Nat} {ρ0 ρ : Rho} {i : Nat} {s : Sl}, (backR vs ρ0 ρ)[i]? = some s → (i ∈ vs ∧ s = strip ρ0[i]?) ∨ (i ∉ vs ∧ ρ[i]? = some s)
  | [], ρ0, ρ, i, s, h => .inr ⟨by simp, h⟩
  | v :: vs, ρ0, ρ, i, s, h => by
    rw [backR] at h
    by_cases hi : v = i
    · subst hi
      have hl : v < (backR vs ρ0 ρ).length := by
        have := (List.getElem?_eq_some_iff.mp h).1
        rwa [List.length_set] at this
      rw [List.getElem?_set_self hl] at h
      cases h
      exact .inl ⟨by simp, rfl⟩
    · rw [List.getElem?_set_ne hi] at h
      rcases backR_at h with ⟨n, e⟩ | ⟨n, e⟩
      · exact .inl ⟨by simp [n], e⟩
      · exact .inr ⟨by simp only [List.mem_cons, not_or]; exact ⟨fun z => hi z.symm, n⟩, e⟩
theorem wipe_far : ∀ {vs : List Nat} {i : Nat}, i ∉ vs → (wipe σ vs)[i]? = σ[i]?
  | [], _, _ => rfl
  | v :: vs, i, h => by
    simp only [List.mem_cons, not_or] at h
    rw [wipe, List.getElem?_set_ne (Ne.symm h.1), wipe_far h.2]
theorem wipe_in : ∀ {vs : List Nat} {i : Nat}, i ∈ vs → (wipe σ vs)[i]? = if i < σ.length then some none else none
  | v :: vs, i, h => by
    rw [wipe]
    by_cases hi : v = i
    · subst hi
      by_cases hl : v < σ.length
      · rw [List.getElem?_set_self (by rw [wipe_length]; exact hl), if_pos hl]
      · rw [List.getElem?_eq_none (by rw [List.length_set, wipe_length]; omega), if_neg hl]
    · rw [List.getElem?_set_ne hi]
      have : i ∈ vs := by
        simp only [List.mem_cons] at h
        rcases h with h | h
        · exact absurd h.symm hi
        · exact h
      exact wipe_in this
theorem wipe_eq {σ2 : L2.St} {vs ts : List Nat} (f : Far ts (wipe σ vs) σ2) (h : ∀ i ∈ ts, i ∈ vs) : wipe σ2 vs = wipe σ vs := by
  have hl : σ2.length = σ.length := f.1.trans (wipe_length σ vs)
  apply List.ext_getElem?
  intro i
  by_cases hi : i ∈ vs
  · rw [wipe_in hi, wipe_in hi, hl]
  · rw [wipe_far hi, f.2 i fun z => hi (h i z)]
theorem RS.wipe {K : PySem.W.Frag} (r : RS K T G pin W σ H ρ) (vs : List Nat) : RS K T G pin W (L2.wipe σ vs) H (wipeR vs ρ) := by
  refine ⟨by rw [wipeR_len, wipe_length]; exact r.len, fun i s e => ?_, fun i j s t a ei ej oi oj qi qj => ?_, r.wok, r.gok, r.tabs⟩
  · rcases wipeR_at e with rfl | ⟨n, e⟩
    · trivial
    · have q := r.sl i s e
      cases s with
      | no => trivial
      | sh m => obtain ⟨v, h1, h2⟩ := q; exact ⟨v, by rw [wipe_far n]; exact h1, h2⟩
      | ow m => obtain ⟨a, h1, h2⟩ := q; exact ⟨a, by rw [wipe_far n]; exact h1, h2⟩
      | io m => obtain ⟨a, h1, h2⟩ := q; exact ⟨a, by rw [wipe_far n]; exact h1, h2⟩
  · rcases wipeR_at ei with rfl | ⟨ni, ei⟩
    · cases oi
    · rcases wipeR_at ej with rfl | ⟨nj, ej⟩
      · cases oj
      · exact r.dis i j s t a ei ej oi oj (by rw [← wipe_far ni]; exact qi) (by rw [← wipe_far nj]; exact qj)
theorem RS.backC {K : PySem.W.Frag} {G' : AP} {σ2 : L2.St} {ρ2 : Rho} {vs : List Nat} (r0 : RS K T G pin W σ H ρ) (r : RS K T G' pin W' σ2 H' ρ2) (k : Keeps W H W' H') (hl : σ2.length = σ.length) (hf : ∀ i, i ∉ vs → σ2[i]? = σ[i]?) : RS K T G' pin W' σ H' (backR vs ρ ρ2) := by
  refine ⟨by rw [backR_len]; exact r.len.trans hl, fun i s e => ?_, fun i j s t a ei ej oi oj qi qj => ?_, r.wok, r.gok, r.tabs⟩
  · rcases backR_at e with ⟨n, e⟩ | ⟨n, e⟩
    · cases e0 : ρ[i]? with
      | none => rw [e0] at e; subst e; trivial
      | some s0 =>
        rw [e0] at e
        cases s0 with
        | sh m => subst e; obtain ⟨v, h1, h2⟩ := r0.sl i _ e0; exact ⟨v, h1, h2.keep k⟩
        | _ => subst e; trivial
    · have q := r.sl i s e
      cases s with
      | no => trivial
      | sh m => obtain ⟨v, h1, h2⟩ := q; exact ⟨v, by rw [← hf i n]; exact h1, h2⟩
      | ow m => obtain ⟨a, h1, h2⟩ := q; exact ⟨a, by rw [← hf i n]; exact h1, h2⟩
      | io m => obtain ⟨a, h1, h2⟩ := q; exact ⟨a, by rw [← hf i n]; exact h1, h2⟩
  · have st : ∀ {o : Option Sl} {s : Sl}, s = strip o → s.own = true → False := fun {o s} e h => by
      subst e
      cases o with
      | none => cases h
      | some s => cases s <;> cases h
    rcases backR_at ei with ⟨_, e⟩ | ⟨ni, ei⟩
    · exact (st e oi).elim
    · rcases backR_at ej with ⟨_, e⟩ | ⟨nj, ej⟩
      · exact (st e oj).elim
      · exact r.dis i j s t a ei ej oi oj (by rw [hf i ni]; exact qi) (by rw [hf j nj]; exact qj)
theorem RS.reguard {K : PySem.W.Frag} {G' : AP} (r : RS K T G pin W σ H ρ) (hg : ∀ a, G' a → W a) (hn : ∀ (i : Nat) (s : Sl) (a : Addr), ρ[i]? = some s → s.own = true → σ[i]? = some (some (V.ref a)) → ¬ G' a) : RS K T G' pin W σ H ρ := by
  refine ⟨r.len, fun i s e => ?_, r.dis, r.wok, hg, r.tabs⟩
  have q := r.sl i s e
  cases s with
  | no => trivial
  | sh m => exact q
  | ow m => obtain ⟨a, h1, h2, h3⟩ := q; exact ⟨a, h1, h2, hn i _ a e rfl h1⟩
  | io m => obtain ⟨a, h1, h2, h3, h4⟩ := q; exact ⟨a, h1, h2, hn i _ a e rfl h1, h4⟩
def lcF (vs : List Nat) (u : MV → Rho → Option Rho) (t : Rho → Res Bool) (e : Rho → Res RV) : List MV → List MV → Rho → Res (List MV)
  | [], acc, ρ => .ok acc ρ
  | m :: ms, acc, ρ => match u m (wipeR vs ρ) with
    | some ρ1 => match t ρ1 with
      | .ok true ρ2 => match e ρ2 with
        | .ok a ρ3 => match shr ρ3 a with
          | .ok y ρ4 => if acc.length < sizeLine then lcF vs u t e ms (acc ++ [y]) (backR vs ρ ρ4) else .bad
          | _ => .bad
        | _ => .bad
      | .ok false ρ2 => lcF vs u t e ms acc (backR vs ρ ρ2)
      | _ => .bad
    | none => .bad
theorem lcF_nil {vs : List Nat} {u : MV → Rho → Option Rho} {t : Rho → Res Bool} {e : Rho → Res RV} {acc : List MV} : lcF vs u t e [] acc ρ = .ok acc ρ := rfl
theorem lcF_cons {vs : List Nat} {u : MV → Rho → Option Rho} {t : Rho → Res Bool} {e : Rho → Res RV} {m : MV} {ms acc : List MV} : lcF vs u t e (m :: ms) acc ρ = (match u m (wipeR vs ρ) with
    | some ρ1 => match t ρ1 with
      | .ok true ρ2 => match e ρ2 with
        | .ok a ρ3 => match shr ρ3 a with
          | .ok y ρ4 => if acc.length < sizeLine then lcF vs u t e ms (acc ++ [y]) (backR vs ρ ρ4) else .bad
          | _ => .bad
        | _ => .bad
      | .ok false ρ2 => lcF vs u t e ms acc (backR vs ρ ρ2)
      | _ => .bad
    | none => .bad) := by rw [lcF]
def fLc (vs : List Nat) (fi : Rho → Res (List MV)) (u : MV → Rho → Option Rho) (t : Rho → Res Bool) (e : Rho → Res RV) : Rho → Res RV := fun ρ => (fi ρ).bind fun ms ρ1 => match lcF vs u t e ms [] ρ1 with
  | .ok ys ρ2 => .ok (.o (.lst ys)) ρ2
  | _ => .bad
def noX : WX := fun _ _ _ _ => False
theorem takes_blk {Y : Cx} : Takes Y noX := fun _ _ ⟨_, _, _, _, _, _, _, _, _, _, _, _, _, _, _, _, w⟩ => w.elim
/-- what one turn does -/
theorem lc_turn {vs ts : List Nat} {u : MV → Rho → Option Rho} {t : Rho → Res Bool} {e : Rho → Res RV} {iT : ∀ i ∈ ts, i ∈ vs} {D : Addr} {G1 : AP} (gD : G D) (gG : ∀ a, G1 a → G a) (nD : ¬ G1 D) {ms macc : List MV} {acc : List V} {m : MV} {v : V} {Y : Cx} (hK : Y.K = X.K)
    (r : RS X.K T G pin W σ H ρ) (hD : H D = some (.lst acc)) (da : Dats X.K W H macc acc) (d : Dat X.K W H m v) {R0 : Res (List MV)} (hE : lcF vs u t e (m :: ms) macc ρ = R0) (hR : R0 ≠ .bad) {Nx : Hp → Prop}
    (hNx : ∀ W' H' acc' macc' ρ', RS X.K T G pin W' σ H' ρ' → H' D = some (.lst acc') → Dats X.K W' H' macc' acc' → Step G1 W H W' H' → lcF vs u t e ms macc' ρ' = R0 → Nx H') :
    uG Y.K T ts u v (wipe σ vs) H fun σ2 H2 => wipe σ2 vs = wipe σ vs ∧ (∃ G W ρ, RS Y.K T G pin W σ2 H2 ρ ∧ Wp Y T noX G pin W σ2 H2 rB (fun b H3 => if b = true then
      (∃ G W ρ, RS Y.K T G pin W σ2 H3 ρ ∧ Wp Y T noX G pin W σ2 H3 (rE Y G σ2) (fun y H4 => ∃ acc, H4 D = some (.lst acc) ∧ acc.length < sizeLine ∧ Nx (upd H4 D (.lst (acc ++ [y])))) (e ρ)) else Nx H3) (t ρ)) := by
  rw [hK]
  rw [lcF_cons] at hE
  cases eu : u m (wipeR vs ρ) with
  | none => rw [eu] at hE; exact absurd hE.symm hR
  | some ρ1 =>
    rw [eu] at hE
    simp only at hE
    refine ⟨G, pin, W, wipeR vs ρ, m, ρ1, r.wipe vs, d, eu, fun σ2 r1 far => ⟨wipe_eq far iT, G, W, ρ1, hK ▸ r1, ?_⟩⟩
    have hl : σ2.length = σ.length := far.1.trans (wipe_length σ vs)
    have hf : ∀ i, i ∉ vs → σ2[i]? = σ[i]? := fun i n => by rw [far.2 i fun z => n (iT i z), wipe_far n]
    cases et : t ρ1 with
    | bad => rw [et] at hE; exact absurd hE.symm hR
    | ex x ρ2 => rw [et] at hE; exact absurd hE.symm hR
    | ok b ρ2 =>
      rw [et] at hE
      intro W2 H2 b' s2 r2 q2
      rw [hK] at r2
      cases (show b = b' from q2)
      have hDl : ∀ ps, (HO.lst acc) ≠ .tbl ps := fun _ z => nomatch z
      cases b with
      | false =>
        exact hNx W2 H2 acc macc (backR vs ρ ρ2) (r.backC r2 s2.keeps hl hf) (s2.gd D _ gD hD hDl).1 (da.keep s2.keeps) (s2.weaken gG) hE
      | true =>
        simp only at hE
        refine ⟨G, W2, ρ2, hK ▸ r2, ?_⟩
        cases ee : e ρ2 with
        | bad => rw [ee] at hE; exact absurd hE.symm hR
        | ex x ρ3 => rw [ee] at hE; exact absurd hE.symm hR
        | ok a ρ3 =>
          rw [ee] at hE
          simp only at hE
          intro W3 H3 y s3 r3 o3
          rw [hK] at r3
          replace o3 : RvOk X.K G W3 σ2 H3 ρ3 a y := by rw [← hK]; exact o3
          rcases shr_cases ρ3 a with ⟨my, ρ4, e4⟩ | e4
          · rw [e4] at hE
            simp only at hE
            obtain ⟨W4, s4, r4, d4⟩ := shr_ok r3 o3 e4
            have st := (s2.trans s3).trans s4
            have hD3 : H3 D = some (.lst acc) := ((s2.trans s3).gd D _ gD hD hDl).1
            by_cases hz : macc.length < sizeLine
            · rw [if_pos hz] at hE
              refine ⟨acc, hD3, by rw [← da.length]; exact hz, ?_⟩
              have rb : RS X.K T G pin W4 σ H3 (backR vs ρ ρ4) := r.backC r4 st.keeps hl hf
              have wD : W4 D := rb.gok D gD
              have sw : Step G1 W4 H3 W4 (upd H3 D (.lst (acc ++ [y]))) := step_write (fun a g => rb.gok a (gG a g)) wD nD hD3
              have hn : ∀ (i : Nat) (s : Sl) (a : Addr), (backR vs ρ ρ4)[i]? = some s → s.own = true → σ[i]? = some (some (V.ref a)) → ¬ G a := fun i s a es os qs => (rb.own_at es os qs).1
              have r5 : RS X.K T G1 pin W4 σ (upd H3 D (.lst (acc ++ [y]))) (backR vs ρ ρ4) := (rb.unguard gG).mono sw (fun i s a es os qs => by
                have hne : a ≠ D := fun z => hn i s a es os qs (z ▸ gD)
                obtain ⟨_, m', hO, _⟩ := rb.own_at es os qs
                exact ⟨hO.1, by unfold upd; rw [if_neg hne]⟩) (fun a wa => by
                  by_cases hne : a = D
                  · subst hne; exact ⟨_, if_pos rfl, mo_lst⟩
                  · obtain ⟨o, ho, q⟩ := rb.wok a wa
                    exact ⟨o, by unfold upd; rw [if_neg hne]; exact ho, q⟩) (tabs_write hD3 rb.tabs.tb)
              have r6 : RS X.K T G pin W4 σ (upd H3 D (.lst (acc ++ [y]))) (backR vs ρ ρ4) := r5.reguard rb.gok hn
              exact hNx W4 _ (acc ++ [y]) (macc ++ [my]) _ r6 (by unfold upd; rw [if_pos rfl]) (((da.keep st.keeps).append (.cons d4 .nil)).keep sw.keeps) ((st.weaken gG).trans sw) hE
            · rw [if_neg hz] at hE; exact absurd hE.symm hR
          · rw [e4] at hE; exact absurd hE.symm hR
theorem lc_imp {own : List (Str × Nat)} {ts : List Nat} {fi : Rho → Res (List MV)} {u : MV → Rho → Option Rho} {t : Rho → Res Bool} {e : Rho → Res RV} (iT : ∀ i ∈ ts, i ∈ own.map (·.2)) (G : AP) (pin : Nat → Option Addr) {σ : L2.St} {H : Hp} {Q : VK}
    (hh : ∃ W ρ, RS X.K T G pin W σ H ρ ∧ Wp X T Wx G pin W σ H (rE X G σ) Q (fLc (own.map (·.2)) fi u t e ρ)) :
    tLc (fun σ H R => ∃ W ρ, RS X.K T G pin W σ H ρ ∧ Wp X T Wx G pin W σ H (fun W H _ ms J => ItOk X.K W H ms J) R (fi ρ)) (uG X.K T ts u) (fun σ H Q => ∃ G W ρ, RS X.K T G pin W σ H ρ ∧ Wp X T noX G pin W σ H rB Q (t ρ)) (fun σ H Q => ∃ G W ρ, RS X.K T G pin W σ H ρ ∧ Wp X T noX G pin W σ H (rE X G σ) Q (e ρ)) (own.map (·.2)) σ H Q := by
  obtain ⟨W, ρ, r, h⟩ := hh
  refine ⟨W, ρ, r, Wp.bind h fun ms ρ1 W1 H1 J s1 r1 o1 w1 D hD => ?_⟩
  have nGD : ¬ G D := fun g => r1.ng hD (r1.gok D g)
  let G' : AP := more G D
  have hR : lcF (own.map (·.2)) u t e ms [] ρ1 ≠ .bad := fun z => by rw [z] at w1; exact w1
  have hn0 : ∀ (i : Nat) (s : Sl) (a : Addr), ρ1[i]? = some s → s.own = true → σ[i]? = some (some (V.ref a)) → ¬ G' a := fun i s a es os qs => by
    obtain ⟨ng, m, hO, _⟩ := r1.own_at es os qs
    rintro (g | rfl)
    · exact ng g
    · exact r1.ng hD hO.1
  have r2 : RS X.K T G' pin (more W1 D) σ (upd H1 D (.lst [])) ρ1 := (r1.newW hD).reguard (fun a => by rintro (g | rfl); exact .inl (r1.gok a g); exact .inr rfl) hn0
  have st0 : Step G W1 H1 (more W1 D) (upd H1 D (.lst [])) := step_newW r1 hD
  refine ⟨fun i m H => m = ms.length - i ∧ i ≤ ms.length ∧ ∃ W ρ acc macc, RS X.K T G' pin W σ H ρ ∧ H D = some (.lst acc) ∧ Dats X.K W H macc acc ∧ Step G W1 H1 W H ∧ lcF (own.map (·.2)) u t e (ms.drop i) macc ρ = lcF (own.map (·.2)) u t e ms [] ρ1,
    ⟨ms.length, rfl, Nat.zero_le _, more W1 D, ρ1, [], [], r2, if_pos rfl, .nil, st0, rfl⟩, ?_⟩
  rintro i m H2 ⟨rfl, hi, W2, ρ2, acc, macc, r2, hD2, da, st, eR⟩
  obtain ⟨it, stp⟩ := o1 W2 H2 st.keeps fun a wa => let ⟨o, ho, _⟩ := r2.wok a wa; ⟨o, ho⟩
  by_cases hlt : i < ms.length
  · have hd : ms.drop i = ms[i] :: ms.drop (i + 1) := List.drop_eq_getElem_cons hlt
    obtain ⟨go, yl⟩ := it i ms[i] (List.getElem?_eq_getElem hlt)
    rw [hd] at eR
    refine .inr ⟨go, fun H' => ∃ W ρ acc macc, RS X.K T G' pin W σ H' ρ ∧ H' D = some (.lst acc) ∧ Dats X.K W H' macc acc ∧ Step G W1 H1 W H' ∧ lcF (own.map (·.2)) u t e (ms.drop (i + 1)) macc ρ = lcF (own.map (·.2)) u t e ms [] ρ1,
      fun H' hh => ⟨ms.length - (i + 1), by omega, rfl, hlt, hh⟩, fun x H' hy => ?_⟩
    obtain ⟨hh, dx⟩ := yl x H' hy
    have rest : ∀ {H' : Hp}, Step G' W2 H2 W2 H' → RS X.K T G' pin W2 σ H' ρ2 → Dat X.K W2 H' ms[i] x → _ := fun {H'} s' r' d' =>
      lc_turn (X := X) (Y := X) (G := G') (G1 := G) (iT := iT) (.inr rfl) (fun a g => .inl g) nGD rfl r' (s'.gd D _ (.inr rfl) hD2 (fun _ z => nomatch z)).1 (da.keep s'.keeps) d' eR hR
        (Nx := fun H' => ∃ W ρ acc macc, RS X.K T G' pin W σ H' ρ ∧ H' D = some (.lst acc) ∧ Dats X.K W H' macc acc ∧ Step G W1 H1 W H' ∧ lcF (own.map (·.2)) u t e (ms.drop (i + 1)) macc ρ = lcF (own.map (·.2)) u t e ms [] ρ1)
        fun W' H'' acc' macc' ρ' r'' hD'' da'' st'' e'' => ⟨W', ρ', acc', macc', r'', hD'', da'', (st.trans (s'.weaken fun a g => .inl g)).trans st'', e''⟩
    rcases hh with rfl | ⟨p, xs, hn, rfl⟩
    · exact rest (Step.refl _ _ _ r2.gok) r2 dx
    · exact rest (step_new r2 hn) (r2.new hn) dx
  · have e0 : i = ms.length := by omega
    subst e0
    rw [List.drop_length] at eR
    rw [lcF_nil] at eR
    refine .inl ⟨stp, ?_⟩
    rw [← eR] at w1
    exact w1 W2 H2 _ st (r2.unguard fun a g => .inl g) ⟨D, rfl, ⟨r2.gok D (.inr rfl), _, hD2, .lst da⟩, nGD, fun i s es os qs => (r2.own_at es os qs).1 (.inr rfl)⟩
theorem qe_lc {elt tg iter : Expr} {ifs : List Expr} {scope : Scope} {own : List (Str × Nat)} {ts : List Nat} {pos : Pos} {fi : Rho → Res (List MV)} {u : MV → Rho → Option Rho} {t : Rho → Res Bool} {e : Rho → Res RV} (hc : X.calm = true) (hN : X.N.Nodup) (hi : QI X T Wx tg iter fi) (ok : BlkOk X.N X.env.scope scope own)
    (hg : ∀ (s : Shared) (H : Hp) (C : Addr) (cl : List (Str × Addr)) (fp : List Addr), QG (X.blk s H scope (compEnvC scope cl C X.env) fp) T tg ts u) (ht : ∀ (s : Shared) (H : Hp) (C : Addr) (cl : List (Str × Addr)) (fp : List Addr), QTs (X.blk s H scope (compEnvC scope cl C X.env) fp) T noX ifs t)
    (he : ∀ (s : Shared) (H : Hp) (C : Addr) (cl : List (Str × Addr)) (fp : List Addr), QE (X.blk s H scope (compEnvC scope cl C X.env) fp) T noX elt e) (iT : ∀ i ∈ ts, i ∈ own.map (·.2) := by decide) (hs : ∀ x, foldedSetIterable iter X.env x = pure x := by intro _; rfl) :
    QE X T Wx (.ListComp elt [⟨tg, iter, ifs, 0⟩] scope pos) (fLc (own.map (·.2)) fi u t e) := by
  refine ⟨fun G pin => ?_⟩
  refine PE.imp (pe_lc (g := uG X.K T ts u) (tt := fun σ H Q => ∃ G W ρ, RS X.K T G pin W σ H ρ ∧ Wp X T noX G pin W σ H rB Q (t ρ)) (te := fun σ H Q => ∃ G W ρ, RS X.K T G pin W σ H ρ ∧ Wp X T noX G pin W σ H (rE X G σ) Q (e ρ)) hc hN (hi.run G pin) ok
    (fun s H C cl fp => (hg s H C cl fp).pg) (fun s H C cl fp => ⟨fun pins s' σ H' Q I ⟨G, W, ρ, r, w⟩ => ((ht s H C cl fp).run G pin).run pins s' σ H' Q I ⟨W, ρ, r, w⟩⟩) (fun s H C cl fp => ⟨fun pins s' σ H' Q I ⟨G, W, ρ, r, w⟩ => ((he s H C cl fp).run G pin).run pins s' σ H' Q I ⟨W, ρ, r, w⟩⟩) hs) fun σ H Q hh => lc_imp iT G pin hh
theorem qs_setLc {i : Nat} {y : Str} {py : Pos} {elt tg iter : Expr} {ifs : List Expr} {scope : Scope} {own : List (Str × Nat)} {ts : List Nat} {pos spos : Pos} {fi : Rho → Res (List MV)} {u : MV → Rho → Option Rho} {t : Rho → Res Bool} {e : Rho → Res RV} (hc : X.calm = true) (hN : X.N.Nodup) (hi : QI X T Wx tg iter fi) (ok : BlkOk X.N X.env.scope scope own)
    (hg : ∀ (s : Shared) (H : Hp) (C : Addr) (cl : List (Str × Addr)) (fp : List Addr), QG (X.blk s H scope (compEnvC scope cl C X.env) fp) T tg ts u) (ht : ∀ (s : Shared) (H : Hp) (C : Addr) (cl : List (Str × Addr)) (fp : List Addr), QTs (X.blk s H scope (compEnvC scope cl C X.env) fp) T noX ifs t)
    (he : ∀ (s : Shared) (H : Hp) (C : Addr) (cl : List (Str × Addr)) (fp : List Addr), QE (X.blk s H scope (compEnvC scope cl C X.env) fp) T noX elt e) (hy : X.N[i]? = some y := by rfl) (hyl : X.env.scope.names.lookup y = some .local := by rfl)
    (hsw : swapsWith (.ListComp elt [⟨tg, iter, ifs, 0⟩] scope pos) (some (.Name y py)) spos.line X.env = pure true := by rfl) (iT : ∀ i ∈ ts, i ∈ own.map (·.2) := by decide) (hs : ∀ x, foldedSetIterable iter X.env x = pure x := by intro _; rfl) :
    QS X T Wx (.Assign [.Name y py] (.ListComp elt [⟨tg, iter, ifs, 0⟩] scope pos) spos) (gSet i (fLc (own.map (·.2)) fi u t e)) := by
  refine ⟨fun G pin => ?_⟩
  refine PS.imp (ps_setLc (g := uG X.K T ts u) (tt := fun σ H Q => ∃ G W ρ, RS X.K T G pin W σ H ρ ∧ Wp X T noX G pin W σ H rB Q (t ρ)) (te := fun σ H Q => ∃ G W ρ, RS X.K T G pin W σ H ρ ∧ Wp X T noX G pin W σ H (rE X G σ) Q (e ρ)) hc hN hy hyl hsw (hi.run G pin) ok
    (fun s H C cl fp => (hg s H C cl fp).pg) (fun s H C cl fp => ⟨fun pins s' σ H' Q I ⟨G, W, ρ, r, w⟩ => ((ht s H C cl fp).run G pin).run pins s' σ H' Q I ⟨W, ρ, r, w⟩⟩) (fun s H C cl fp => ⟨fun pins s' σ H' Q I ⟨G, W, ρ, r, w⟩ => ((he s H C cl fp).run G pin).run pins s' σ H' Q I ⟨W, ρ, r, w⟩⟩) hs) fun D σ H ⟨W, ρ, r, h⟩ => ?_
  refine lc_imp iT G pin ⟨W, ρ, r, Wp.bindS h fun a ρ1 W1 H1 v s1 r1 o1 w1 => ?_⟩
  split at w1
  · rename_i ρ2 e2
    obtain ⟨W2, s2, r2⟩ := set_ok r1 o1 e2
    exact w1 W2 H1 _ s2 r2
  · exact w1.elim
end
end DL
namespace DL
open PySem PySem.Spec PyProof.Rows L2
/-! ### enumerate, zip: of lists and tuples in any mix -/
def SqK (b : Bool) (K : PySem.W.Frag) (H : Hp) (a : Addr) (xs : List V) : Prop := match b with
  | true => SqL K H a xs
  | false => SqT K H a xs
def IsK (b : Bool) (h : Heap) (a : Addr) (items : Array Value) : Prop := match b with
  | true => h.IsList a items
  | false => h.IsTuple a items
def IterK (b : Bool) (h : Heap) (it a : Addr) (i : Nat) : Prop := match b with
  | true => h.IsListIter it a i
  | false => h.IsTupleIter it a i
def itObj (b : Bool) (a : Addr) : Obj := match b with
  | true => { cls := .type "list_iterator", data := .fields #[.ref a, .int 0 0] }
  | false => { cls := .type "tuple_iterator", data := .fields #[.ref a, .int 0 0] }
theorem begK (b : Bool) (a : Addr) (items : Array Value) : Begins (.ref a) (itObj b a) (fun h => IsK b h a items) := match b with
  | true => begins_list a items
  | false => begins_tuple a items
theorem drawK {prog : Program} {w : World} {A : Around} (hh : A.handled = none) (b : Bool) (it a : Addr) (hne : a ≠ it) (items : Array Value) :
    Draws prog w A it [it, a] items.size (fun i v => items[i]? = some v) (fun i h => IterK b h it a i ∧ IsK b h a items) := match b with
  | true => Draws.list hh it a hne items
  | false => Draws.tuple hh it a hne items
theorem iterK_obj {b : Bool} {h : Heap} {it a : Addr} {i : Nat} (x : IterK b h it a i) : ∃ o, h.get? it = some o ∧ ∀ v, o.data ≠ .cell v := by
  cases b with
  | true => obtain ⟨o, e, _, d⟩ := x; exact ⟨o, e, fun v q => by rw [d] at q; cases q⟩
  | false => obtain ⟨o, e, _, d⟩ := x; exact ⟨o, e, fun v q => by rw [d] at q; cases q⟩
theorem iterK_at {b : Bool} {h h' : Heap} {it a : Addr} {i : Nat} (x : IterK b h it a i) (k : ∀ o, h.get? it = some o → h'.get? it = some o) : IterK b h' it a i := by
  cases b with
  | true => exact Heap.IsListIter.at x k
  | false => exact Heap.IsTupleIter.at x k
theorem iterK_new {b : Bool} {h : Heap} {it a : Addr} (e : h.get? it = some (itObj b a)) : IterK b h it a 0 := by
  cases b with
  | true => exact ⟨_, e, rfl, rfl⟩
  | false => exact ⟨_, e, rfl, rfl⟩
section
variable {X : Cx} {pins : List (Addr × Obj)} {σ : L2.St} {H : Hp} {s : Shared}
theorem inv_sqK (I : Inv X pins σ H s) {b : Bool} {a : Addr} {xs : List V} (h : SqK b X.K H a xs) : ∃ its, Vals xs its ∧ IsK b s.heap a its.toArray ∧ a < s.heap.objs.size := by
  cases b with
  | true => obtain ⟨its, rv, p, _⟩ := I.list h; exact ⟨its, rv, p.isList, p.lt⟩
  | false =>
    obtain ⟨its, rv, p, _⟩ := I.tuple h
    obtain ⟨o, ho, _⟩ := id p
    exact ⟨its, rv, p, Heap.lt_size ho⟩
theorem inv_sqK_inj (I : Inv X pins σ H s) {b : Bool} {a : Addr} {xs ys : List V} (h : SqK b X.K H a xs) (h' : SqK b X.K H a ys) : xs = ys := by
  cases b with
  | true => exact I.list_inj h h'
  | false => exact I.tuple_inj h h'
end
def ItE (b : Bool) (K : PySem.W.Frag) (a : Addr) : It :=
  ⟨fun i H => ∃ (xs : List V) (x : V), SqK b K H a xs ∧ xs[i]? = some x, fun i H v H' => ∃ T x, v = .ref T ∧ H T = none ∧ H' = upd H T (.tup [.int (i : Nat), x]) ∧ ∀ xs, SqK b K H a xs → xs[i]? = some x, fun i H => ∃ xs : List V, SqK b K H a xs ∧ xs.length = i⟩
theorem turn_enumK {P : Program} {w : World} {K : PySem.W.Frag} {elts : List Expr} {kk : Nat} {tpos : Pos} (b : Bool) (a e it : Addr) (hae : a ≠ e) (hai : a ≠ it) :
    Turn P w K (.Tuple elts kk tpos) (ItE b K a) [e, it] e (fun i h => (∃ old, IsEnum h e it ((i : Nat) : Int) old) ∧ IterK b h it a i ∧ e ≠ it) where
  mem := by simp
  obj := fun i h st c hc => by
    obtain ⟨⟨old, he⟩, hi, _⟩ := st
    have e' : c = e ∨ c = it := by simpa using hc
    rcases e' with z | z
    · rw [z]; exact ⟨_, he, fun v q => nomatch q⟩
    · rw [z]; exact iterK_obj hi
  keep := fun i h h' st k => let ⟨⟨old, he⟩, hi, hne⟩ := st; ⟨⟨old, k e (by simp) _ he⟩, iterK_at hi fun o q => k it (by simp) o q, hne⟩
  item := by
    intro X hP hw hK hc i pins s σ H E I hf st hg
    subst hP hw hK
    obtain ⟨⟨old, he⟩, hit, hne⟩ := st
    obtain ⟨xs, x, hq, hx⟩ := hg
    obtain ⟨its, rv, p, hz⟩ := inv_sqK I hq
    obtain ⟨u, hu, ru⟩ := rv.get hx
    have hel : e < s.heap.objs.size := Heap.lt_size he
    have hil : it < s.heap.objs.size := by obtain ⟨_, q, _⟩ := iterK_obj hit; exact Heap.lt_size q
    have hu' : its.toArray[i]? = some u := by simpa using hu
    have hin : i < its.toArray.size := (Array.getElem?_eq_some_iff.mp hu').1
    refine (GoesN.enumFrom (elts := elts) (x1 := kk) (pos := tpos) 0 (drawK (A := X.A.in1) (I.ok.hd hc) b it a hai its.toArray) e hne (by simp; exact ⟨hne, fun z => hae z.symm⟩) (by simp)).goes i s _ E hin ⟨⟨old, by rw [Int.zero_add]; exact he⟩, hit, p⟩ fun v h' tk hY st' hk _ => ?_
    obtain ⟨T, t, y, rfl, hT, hy, hTu⟩ := hY
    rw [hu'] at hy
    cases hy
    rw [Int.zero_add] at hTu
    have new : ObjOk X.prog X.w (upd H T (.tup [.int (i : Nat), x])) h' T (.tup [.int (i : Nat), x]) :=
      ⟨by show 2 ≤ sizeLine; decide, [.int i t, u], .cons ⟨_, rfl⟩ (.cons ru .nil), hTu⟩
    have I1 : Inv X pins σ (upd H T (.tup [.int (i : Nat), x])) { s with heap := h', toks := tk } :=
      I.turnedNew (ch := [e, it]) (fun c ob hb q => hk c ob hb q) hf hT new
    obtain ⟨⟨old', he'⟩, hit', _⟩ := st'
    refine ⟨.ref T, _, I1, rfl, ⟨T, x, rfl, I.hok.fresh hT, rfl, fun ys hy => by rw [inv_sqK_inj I hy hq]; exact hx⟩, ⟨⟨old', by rw [Int.zero_add] at he'; exact he'⟩, hit', hne⟩, fun c hb => ?_⟩
    have hb' : c < s.heap.objs.size := by
      have e' : c = e ∨ c = it := by simpa using hb
      rcases e' with z | z
      · rw [z]; exact hel
      · rw [z]; exact hil
    rw [upd_ne (Nat.ne_of_lt (Nat.lt_of_lt_of_le hb' hT))]
    exact (hf c hb).1
  done := by
    intro X hP hw hK hc i pins s σ H E I hf st hg
    subst hP hw hK
    obtain ⟨⟨old, he⟩, hit, hne⟩ := st
    obtain ⟨xs, hq, hx⟩ := hg
    obtain ⟨its, rv, p, hz⟩ := inv_sqK I hq
    have hl := rv.length
    have hn : its.toArray.size = i := by simp; omega
    subst hn
    exact (GoesN.enumFrom (elts := elts) (x1 := kk) (pos := tpos) 0 (drawK (A := X.A.in1) (I.ok.hd hc) b it a hai its.toArray) e hne (by simp; exact ⟨hne, fun z => hae z.symm⟩) (by simp)).stops s _ E ⟨⟨old, by rw [Int.zero_add]; exact he⟩, hit, p⟩ fun h' tk hk _ =>
      I.turnedL (ch := [e, it]) (fun c o hb q => hk c o hb q) hf
  self := fun A i s Q E st h => let ⟨⟨_, he⟩, _⟩ := st; wpAny_pyIter_enum he h
section
variable {prog : Program} {w : World} {A : Around} {E : Value → Shared → Prop} {s : Shared}
set_option maxHeartbeats 4000000 in
theorem meets_enumerate_newB1 {v : Value} {o : Obj} {H : Heap → Prop} (B : Begins v o H) :
    Meets (Builtin.«enumerate.__new__» ⟨[.type "enumerate", v], []⟩) (fun _ R s => H s.heap ∧
      R (.ok (.ret (.ref (s.heap.push o).objs.size))) { s with heap := (s.heap.push o).push { cls := .type "enumerate", data := .fields #[.none, .bool false, .ref s.heap.objs.size, rawInt 0, .none, .none] } }) :=
  .of_wp fun prog w A R s h => by
    obtain ⟨hp, g, d, tk, os⟩ := s; obtain ⟨h1, h⟩ := h
    have hsub := sub_enumerate
    have q1 : ∀ {A' : Around} {E : Value → Shared → Prop} {Q : Value → Shared → Prop}, Q (.ref hp.objs.size) ⟨hp.push o, g, d, tk, os⟩ → wpAny (model prog w) A' (pyIter v) Q E ⟨hp, g, d, tk, os⟩ :=
      fun q => B.iter prog w _ _ ⟨hp, g, d, tk, os⟩ _ h1 q
    wp_walk using q1
    refine wpAny_stack_any fun st => wpAny_pure ?_
    split
    · rename_i c _ _ _ _ _
      cases (c == Value.type "enumerate")
      · wp_walk using q1
        exact ⟨_, rfl, h⟩
      · wp_walk using q1
        exact ⟨_, rfl, h⟩
    · wp_walk using q1
      exact ⟨_, rfl, h⟩
theorem enum_begins1 {v : Value} {o : Obj} {H : Heap → Prop} {Q : Value → Shared → Prop} (B : Begins v o H) (h1 : H s.heap)
    (h : ∀ h', IsEnum h' (s.heap.objs.size + 1) s.heap.objs.size 0 .none → h'.get? s.heap.objs.size = some o → h'.objs.size = s.heap.objs.size + 2 →
      (∀ b o, s.heap.get? b = some o → h'.get? b = some o) → Q (.ref (s.heap.objs.size + 1)) { s with heap := h' }) :
    wpAny (model prog w) A (call (.type "enumerate") [v]) Q E s := by
  refine callType_new F.called_enumerate (by decide) (F.typeCall_enumerate_1 _) (F.newCall_enumerate_1 _) (fun obj => F.args_object_init_2 obj _) F.entry_enumerate_new
    (meets_enumerate_newB1 B) ⟨h1, ?_⟩
  have hz : (s.heap.push o).objs.size = s.heap.objs.size + 1 := Heap.size_push ..
  show _ ∧ _
  rw [hz]
  have he : IsEnum ((s.heap.push o).push { cls := .type "enumerate", data := .fields #[.none, .bool false, .ref s.heap.objs.size, rawInt 0, .none, .none] }) (s.heap.objs.size + 1) s.heap.objs.size 0 .none := by
    have := Heap.get?_push_size (s.heap.push o) (o := { cls := .type "enumerate", data := .fields #[.none, .bool false, .ref s.heap.objs.size, rawInt 0, .none, .none] }) rfl
    rw [hz] at this; exact this
  refine ⟨⟨_, he, rfl⟩, h _ he (Heap.get?_push_of_some _ (Heap.get?_push_size _ B.free)) (by rw [Heap.size_push, hz]) fun b o x => Heap.get?_push_of_some _ (Heap.get?_push_of_some _ x)⟩
end
def iEnumK (K : PySem.W.Frag) (ta : TA) : TI := fun σ H R => ta σ H fun vs H1 => ∃ b a xs, vs = [.ref a] ∧ SqK b K H1 a xs ∧ R (ItE b K a) H1
theorem pi_enumK {X : Cx} {e : Expr} {ta : TA} {p pos tpos : Pos} {elts : List Expr} {kk : Nat} (hg : Gl X "enumerate") (hm : X.mg "enumerate" = none) (ha : PA X [e] ta) (hs : starEach [e] X.env = [(false, eval e X.env)] := by rfl) :
    PI X (.Tuple elts kk tpos) (.Call (.Name "enumerate" p) [e] [] pos) (iEnumK X.K ta) := by
  refine ⟨fun pins s σ H R I h => ?_⟩
  refine Call_ (ld_blt I hg hm boot_enumerate (PyProof.Rows.callWith_type1 (thn (ha.run pos pins s σ H _ I h) fun us s1 ⟨vs, H1, I1, r1, q1⟩ => ?_) hs rfl))
  obtain ⟨b, a, xs, ex, hq, q⟩ := q1
  subst ex
  cases r1 with
  | cons r rr =>
    cases rr
    cases r
    obtain ⟨its, rv, p', hz⟩ := inv_sqK I1 hq
    refine enum_begins1 (begK b a its.toArray) p' fun h' he hit hsz hk => wpAny_pyIter_enum he ?_
    have I2 : Inv X pins σ H1 { s1 with heap := h' } := I1.kept (t' := s1.toks) hk
    refine ⟨s1.heap.objs.size + 1, [s1.heap.objs.size + 1, s1.heap.objs.size], _, _, H1, rfl, I2, turn_enumK b a (s1.heap.objs.size + 1) s1.heap.objs.size (Nat.ne_of_lt (Nat.lt_succ_of_lt hz)) (Nat.ne_of_lt hz), ⟨⟨.none, he⟩, iterK_new hit, Nat.succ_ne_self _⟩, fun b hb => ?_, q⟩
    have e' : b = s1.heap.objs.size + 1 ∨ b = s1.heap.objs.size := by simpa using hb
    have hle : s1.heap.objs.size ≤ b := by
      rcases e' with z | z
      · rw [z]; exact Nat.le_add_right _ _
      · rw [z]; exact Nat.le_refl _
    exact I1.fpOk hle (I1.hok.fresh hle)
def ItZ (b1 b2 : Bool) (K : PySem.W.Frag) (a c : Addr) : It :=
  ⟨fun i H => ∃ (xs ys : List V) (x y : V), SqK b1 K H a xs ∧ SqK b2 K H c ys ∧ xs[i]? = some x ∧ ys[i]? = some y,
    fun i H v H' => ∃ T x y, v = .ref T ∧ H T = none ∧ H' = upd H T (.tup [x, y]) ∧ (∀ xs, SqK b1 K H a xs → xs[i]? = some x) ∧ ∀ ys, SqK b2 K H c ys → ys[i]? = some y,
    fun i H => ∃ xs ys : List V, SqK b1 K H a xs ∧ SqK b2 K H c ys ∧ min xs.length ys.length = i⟩
theorem turn_zipK {P : Program} {w : World} {K : PySem.W.Frag} {elts : List Expr} {kk : Nat} {tpos : Pos} (b1 b2 : Bool) {a c z TI TO i1 i2 : Addr} (D : ZipSep2 z TI TO i1 i2 [i1, a] [i2, c]) (h1a : a ≠ i1) (h2c : c ≠ i2) :
    Turn P w K (.Tuple elts kk tpos) (ItZ b1 b2 K a c) [z, TI, TO, i1, i2] z (fun i h => IsZip h z TI TO .none ∧ IsTupOf2 h TI (.ref i1) (.ref i2) ∧ (∃ x y, IsTupOf2 h TO x y) ∧ IterK b1 h i1 a i ∧ IterK b2 h i2 c i) where
  mem := by simp
  obj := fun i h st d hd => by
    obtain ⟨hz, hTI, ⟨x, y, hTO⟩, h1, h2⟩ := st
    have e' : d = z ∨ d = TI ∨ d = TO ∨ d = i1 ∨ d = i2 := by simpa using hd
    rcases e' with q | q | q | q | q
    · rw [q]; exact ⟨_, hz, fun v q => nomatch q⟩
    · rw [q]; exact ⟨_, hTI, fun v q => nomatch q⟩
    · rw [q]; exact ⟨_, hTO, fun v q => nomatch q⟩
    · rw [q]; exact iterK_obj h1
    · rw [q]; exact iterK_obj h2
  keep := fun i h h' st k => by
    obtain ⟨hz, hTI, ⟨x, y, hTO⟩, h1, h2⟩ := st
    exact ⟨k z (by simp) _ hz, k TI (by simp) _ hTI, ⟨x, y, k TO (by simp) _ hTO⟩, iterK_at h1 fun o q => k i1 (by simp) o q, iterK_at h2 fun o q => k i2 (by simp) o q⟩
  item := by
    intro X hP hw hK hc i pins s σ H E I hf st hg
    subst hP hw hK
    obtain ⟨hz, hTI, ⟨x0, y0, hTO⟩, h1, h2⟩ := st
    obtain ⟨xs, ys, x, y, hqx, hqy, hx, hy⟩ := hg
    obtain ⟨its, rv, p, _⟩ := inv_sqK I hqx
    obtain ⟨its2, rv2, p2, _⟩ := inv_sqK I hqy
    obtain ⟨u, hu, ru⟩ := rv.get hx
    obtain ⟨u2, hu2, ru2⟩ := rv2.get hy
    have hu' : its.toArray[i]? = some u := by simpa using hu
    have hu2' : its2.toArray[i]? = some u2 := by simpa using hu2
    have hin : i < min its.toArray.size its2.toArray.size := Nat.lt_min.mpr ⟨(Array.getElem?_eq_some_iff.mp hu').1, (Array.getElem?_eq_some_iff.mp hu2').1⟩
    refine (GoesN.zip2 (elts := elts) (x1 := kk) (pos := tpos) D (drawK (A := X.A.in1) (I.ok.hd hc) b1 i1 a h1a its.toArray) (drawK (A := X.A.in1) (I.ok.hd hc) b2 i2 c h2c its2.toArray)).goes i s _ E hin ⟨hz, hTI, ⟨x0, y0, hTO⟩, ⟨h1, p⟩, ⟨h2, p2⟩⟩ fun v h' tk hY st' hk _ => ?_
    obtain ⟨T, v1, v2, rfl, hT, hv1, hv2, hTu⟩ := hY
    rw [hu'] at hv1
    rw [hu2'] at hv2
    cases hv1
    cases hv2
    have new : ObjOk X.prog X.w (upd H T (.tup [x, y])) h' T (.tup [x, y]) :=
      ⟨by show 2 ≤ sizeLine; decide, [u, u2], .cons ru (.cons ru2 .nil), hTu⟩
    have I1 : Inv X pins σ (upd H T (.tup [x, y])) { s with heap := h', toks := tk } :=
      I.turnedNew (ch := [z, TI, TO, i1, i2]) (fun d o hb q => hk d o (fun q' => hb (by
        have e' : d = z ∨ d = TO ∨ d = i1 ∨ d = i2 := by simpa using q'
        rcases e' with e | e | e | e <;> simp [e])) q) hf hT new
    obtain ⟨hz', hTI', hTO', ⟨h1', _⟩, ⟨h2', _⟩⟩ := st'
    refine ⟨.ref T, _, I1, rfl, ⟨T, x, y, rfl, I.hok.fresh hT, rfl, fun l hl => by rw [inv_sqK_inj I hl hqx]; exact hx, fun l hl => by rw [inv_sqK_inj I hl hqy]; exact hy⟩, ⟨hz', hTI', hTO', h1', h2'⟩, fun d hb => ?_⟩
    have hlt : d < s.heap.objs.size := by
      have e' : d = z ∨ d = TI ∨ d = TO ∨ d = i1 ∨ d = i2 := by simpa using hb
      rcases e' with q | q | q | q | q
      · rw [q]; exact Heap.lt_size hz
      · rw [q]; exact Heap.lt_size hTI
      · rw [q]; exact Heap.lt_size hTO
      · rw [q]; obtain ⟨_, e1, _⟩ := iterK_obj h1; exact Heap.lt_size e1
      · rw [q]; obtain ⟨_, e1, _⟩ := iterK_obj h2; exact Heap.lt_size e1
    rw [upd_ne (Nat.ne_of_lt (Nat.lt_of_lt_of_le hlt hT))]
    exact (hf d hb).1
  done := by
    intro X hP hw hK hc i pins s σ H E I hf st hg
    subst hP hw hK
    obtain ⟨hz, hTI, ⟨x0, y0, hTO⟩, h1, h2⟩ := st
    obtain ⟨xs, ys, hqx, hqy, hend⟩ := hg
    obtain ⟨its, rv, p, _⟩ := inv_sqK I hqx
    obtain ⟨its2, rv2, p2, _⟩ := inv_sqK I hqy
    have l1 := rv.length
    have l2 := rv2.length
    have hn : min its.toArray.size its2.toArray.size = i := by simp; omega
    subst hn
    exact (GoesN.zip2 (elts := elts) (x1 := kk) (pos := tpos) D (drawK (A := X.A.in1) (I.ok.hd hc) b1 i1 a h1a its.toArray) (drawK (A := X.A.in1) (I.ok.hd hc) b2 i2 c h2c its2.toArray)).stops s _ E ⟨hz, hTI, ⟨x0, y0, hTO⟩, ⟨h1, p⟩, ⟨h2, p2⟩⟩ fun h' tk hk _ =>
      I.turnedL (ch := [z, TI, TO, i1, i2]) (fun d o hb q => hk d o (fun q' => hb (by
        have e' : d = z ∨ d = TO ∨ d = i1 ∨ d = i2 := by simpa using q'
        rcases e' with e | e | e | e <;> simp [e])) q) hf
  self := fun A i s Q E st h => wpAny_pyIter_zip st.1 h
theorem nm2 {x y z : Nat} (h1 : x ≠ y) (h2 : x ≠ z) : x ∉ [y, z] := by
  intro h
  simp only [List.mem_cons, List.not_mem_nil, or_false] at h
  exact h.elim h1 h2
theorem zsep (m a c : Nat) (la : a < m) (lc : c < m) : ZipSep2 (m + 4) (m + 2) (m + 3) m (m + 1) [m, a] [m + 1, c] where
  TIz := (by omega : (m + 2 : Nat) ≠ m + 4)
  TOz := (by omega : (m + 3 : Nat) ≠ m + 4)
  TITO := (by omega : (m + 2 : Nat) ≠ m + 3)
  TIi1 := (by omega : (m + 2 : Nat) ≠ m)
  mem1 := List.mem_cons_self
  zf1 := nm2 (by omega : (m + 4 : Nat) ≠ m) (by omega)
  Tf1 := nm2 (by omega : (m + 3 : Nat) ≠ m) (by omega)
  TIi2 := (by omega : (m + 2 : Nat) ≠ m + 1)
  mem2 := List.mem_cons_self
  zf2 := nm2 (by omega : (m + 4 : Nat) ≠ m + 1) (by omega)
  Tf2 := nm2 (by omega : (m + 3 : Nat) ≠ m + 1) (by omega)
  sep1_2 := nm2 (by omega : (m : Nat) ≠ m + 1) (by omega)
  sep2_1 := nm2 (by omega : (m + 1 : Nat) ≠ m) (by omega)
def iZipK (K : PySem.W.Frag) (ta : TA) : TI := fun σ H R => ta σ H fun vs H1 => ∃ b1 b2 a c xs ys, vs = [.ref a, .ref c] ∧ SqK b1 K H1 a xs ∧ SqK b2 K H1 c ys ∧ R (ItZ b1 b2 K a c) H1
theorem pi_zipK {X : Cx} {e e2 : Expr} {ta : TA} {p pos tpos : Pos} {elts : List Expr} {kk : Nat} (hg : Gl X "zip") (hm : X.mg "zip" = none) (ha : PA X [e, e2] ta)
    (hs : starEach [e, e2] X.env = (false, eval e X.env) :: starEach [e2] X.env := by rfl) (hpl : (backTo pos (starEach [e2] X.env)).any (·.1) = false := by rfl) :
    PI X (.Tuple elts kk tpos) (.Call (.Name "zip" p) [e, e2] [] pos) (iZipK X.K ta) := by
  refine ⟨fun pins s σ H R I h => ?_⟩
  refine Call_ (ld_blt I hg hm PyProof.Rows.boot_zip (PyProof.Rows.callWith_type1 (thn (ha.run pos pins s σ H _ I h) fun us s1 ⟨vs, H1, I1, r1, q1⟩ => ?_) hs hpl))
  obtain ⟨b1, b2, a, c, xs, ys, ex, hqx, hqy, q⟩ := q1
  subst ex
  cases r1 with
  | cons r rr =>
    cases rr with
    | cons r' rr =>
      cases rr
      cases r
      cases r'
      obtain ⟨its, rv, p1, la⟩ := inv_sqK I1 hqx
      obtain ⟨its2, rv2, p2, lc⟩ := inv_sqK I1 hqy
      refine zip_begins2 (begK b1 a its.toArray) (begK b2 c its2.toArray) p1 p2 fun h' hz hTI hTO h1 h2 hsz hk => wpAny_pyIter_zip hz ?_
      have I2 : Inv X pins σ H1 { s1 with heap := h' } := I1.kept (t' := s1.toks) hk
      have D := zsep s1.heap.objs.size a c la lc
      refine ⟨s1.heap.objs.size + 4, [s1.heap.objs.size + 4, s1.heap.objs.size + 2, s1.heap.objs.size + 3, s1.heap.objs.size, s1.heap.objs.size + 1], _, _, H1, rfl, I2, turn_zipK b1 b2 D (Nat.ne_of_lt la) (Nat.ne_of_lt (Nat.lt_succ_of_lt lc)), ⟨hz, hTI, ⟨_, _, hTO⟩, iterK_new h1, iterK_new h2⟩, fun d hcm => ?_, q⟩
      have e' : d = s1.heap.objs.size + 4 ∨ d = s1.heap.objs.size + 2 ∨ d = s1.heap.objs.size + 3 ∨ d = s1.heap.objs.size ∨ d = s1.heap.objs.size + 1 := by simpa using hcm
      have hle : s1.heap.objs.size ≤ d := by
        rcases e' with z | z | z | z | z
        · rw [z]; exact Nat.le_add_right _ _
        · rw [z]; exact Nat.le_add_right _ _
        · rw [z]; exact Nat.le_add_right _ _
        · rw [z]; exact Nat.le_refl _
        · rw [z]; exact Nat.le_add_right _ _
      exact I1.fpOk hle (I1.hok.fresh hle)

section
variable {X : Cx} {T : Tb} {Wx : WX} {G : AP} {pin : Nat → Option Addr} {W W' : AP} {σ : L2.St} {H H' : Hp} {ρ ρ' : Rho}
def enumM : Nat → List MV → List MV
  | _, [] => []
  | k, m :: ms => .tup [.int (k : Nat), m] :: enumM (k + 1) ms
def zipM : List MV → List MV → List MV
  | m :: ms, n :: ns => .tup [m, n] :: zipM ms ns
  | _, _ => []
theorem enumM_len : ∀ (k : Nat) (ms : List MV), (enumM k ms).length = ms.length
  | _, [] => rfl
  | k, m :: ms => by rw [enumM, List.length_cons, enumM_len (k + 1) ms, List.length_cons]
theorem enumM_at : ∀ {k : Nat} {ms : List MV} {i : Nat} {m : MV}, (enumM k ms)[i]? = some m → ∃ n, ms[i]? = some n ∧ m = .tup [.int ((k + i : Nat) : Int), n]
  | k, [], i, m, e => by simp [enumM] at e
  | k, x :: ms, 0, m, e => by
    rw [enumM, List.getElem?_cons_zero] at e
    cases e
    exact ⟨x, rfl, rfl⟩
  | k, x :: ms, i + 1, m, e => by
    rw [enumM, List.getElem?_cons_succ] at e
    obtain ⟨n, h1, h2⟩ := enumM_at e
    refine ⟨n, by rw [List.getElem?_cons_succ]; exact h1, ?_⟩
    rw [h2, show k + 1 + i = k + (i + 1) from by omega]
theorem zipM_len : ∀ (ms ns : List MV), (zipM ms ns).length = min ms.length ns.length
  | [], _ => by simp [zipM]
  | _ :: _, [] => by simp [zipM]
  | m :: ms, n :: ns => by rw [zipM, List.length_cons, zipM_len ms ns, List.length_cons, List.length_cons]; omega
theorem zipM_at : ∀ {ms ns : List MV} {i : Nat} {m : MV}, (zipM ms ns)[i]? = some m → ∃ x y, ms[i]? = some x ∧ ns[i]? = some y ∧ m = .tup [x, y]
  | [], _, i, m, e => by simp [zipM] at e
  | _ :: _, [], i, m, e => by simp [zipM] at e
  | x :: ms, y :: ns, 0, m, e => by
    rw [zipM, List.getElem?_cons_zero] at e
    cases e
    exact ⟨x, y, rfl, rfl, rfl⟩
  | x :: ms, y :: ns, i + 1, m, e => by
    rw [zipM, List.getElem?_cons_succ] at e
    obtain ⟨a, b, h1, h2, h3⟩ := zipM_at e
    exact ⟨a, b, by rw [List.getElem?_cons_succ]; exact h1, by rw [List.getElem?_cons_succ]; exact h2, h3⟩
/-- a list or a tuple that stays -/
def seqM : MV → Option (List MV)
  | .lst ms => some ms
  | .tup ms => some ms
  | _ => none
theorem seqM_ok {K : PySem.W.Frag} {m : MV} {v : V} {ms : List MV} (d : Dat K W H m v) (e : seqM m = some ms) : ∃ b a xs, v = .ref a ∧ SqK b K H a xs ∧ Dats K W H ms xs ∧ ∀ W' H', Keeps W H W' H' → SqK b K H' a xs := by
  cases d with
  | lst n h d =>
    cases e
    refine ⟨true, _, _, rfl, SqL.of h, d, fun W' H' k => ?_⟩
    obtain ⟨_, h'⟩ := k.fr _ _ h n (fun _ q => nomatch q)
    exact SqL.of h'
  | tup t d =>
    cases e
    refine ⟨false, _, _, rfl, t.sq, d, fun W' H' k => ?_⟩
    exact (show TpD K W' H' _ _ from t.elim (fun ⟨n, h⟩ => .inl (k.fr _ _ h n (fun _ q => nomatch q))) .inr).sq
  | _ => cases e
def fEnum (f : Rho → Res (List RV)) : Rho → Res (List MV) := fun ρ => (f ρ).bind fun as ρ1 => (shrs ρ1 as).bind fun ms ρ2 => match ms with
  | [m] => match seqM m with
    | some xs => .ok (enumM 0 xs) ρ2
    | none => .bad
  | _ => .bad
def fZip (f : Rho → Res (List RV)) : Rho → Res (List MV) := fun ρ => (f ρ).bind fun as ρ1 => (shrs ρ1 as).bind fun ms ρ2 => match ms with
  | [m, n] => match seqM m, seqM n with
    | some xs, some ys => .ok (zipM xs ys) ρ2
    | _, _ => .bad
  | _ => .bad
theorem tup_new {K : PySem.W.Frag} {p : Addr} {xs : List V} {ms : List MV} (wok : ∀ a, W a → ∃ o, H a = some o) (hp : H p = none) (d : Dats K W H ms xs) : Dat K W (upd H p (.tup xs)) (.tup ms) (.ref p) := by
  have nw : ¬ W p := fun w => by obtain ⟨o, ho⟩ := wok p w; rw [hp] at ho; cases ho
  have k : Keeps W H W (upd H p (.tup xs)) := ⟨fun a o h n _ => ⟨n, by
    rw [upd_ne]
    · exact h
    · intro z; rw [z, hp] at h; cases h⟩⟩
  exact .tup (.inl ⟨nw, upd_same ..⟩) (d.keep k)
theorem Wp.imp {α β : Type} {rel : Rel α β} {Q Q' : β → Hp → Prop} {r : Res α} (h : Wp X T Wx G pin W σ H rel Q r) (i : ∀ b H, Q b H → Q' b H) : Wp X T Wx G pin W σ H rel Q' r := by
  cases r with
  | ok a ρ => exact fun W2 H2 b s2 r2 q => i _ _ (h W2 H2 b s2 r2 q)
  | ex x ρ => exact h
  | bad => exact h
theorem shrs_bindI {f : Rho → Res (List RV)} {Q : It → Hp → Prop} {k : List MV → Rho → Res (List MV)} (w : Wp X T Wx G pin W σ H (fun W H _ ms J => ItOk X.K W H ms J) Q ((f ρ).bind fun as ρ1 => (shrs ρ1 as).bind k)) :
    Wp X T Wx G pin W σ H (rA X G σ) (fun vs H1 => ∃ W1 ρ1 ms, RS X.K T G pin W1 σ H1 ρ1 ∧ Dats X.K W1 H1 ms vs ∧ Wp X T Wx G pin W1 σ H1 (fun W H _ ms J => ItOk X.K W H ms J) Q (k ms ρ1)) (f ρ) := by
  refine Wp.bind w fun as ρ1 W1 H1 vs s1 r1 o1 w1 => ?_
  cases es : shrs ρ1 as with
  | bad => rw [es] at w1; exact w1.elim
  | ex x ρ2 => exact absurd es shrs_noex
  | ok ms ρ2 =>
    rw [es] at w1
    obtain ⟨W2, s2, r2, d2⟩ := shrs_ok r1 o1 es
    exact ⟨W2, ρ2, ms, r2, d2, Wp.shift s2 w1⟩
theorem qi_enum {e : Expr} {f : Rho → Res (List RV)} {p pos tpos : Pos} {elts : List Expr} {kk : Nat} (hm : X.mg "enumerate" = none) (ha : QA X T Wx [e] f) (hg : Gl X "enumerate" := by rfl) (hs : starEach [e] X.env = [(false, eval e X.env)] := by rfl) :
    QI X T Wx (.Tuple elts kk tpos) (.Call (.Name "enumerate" p) [e] [] pos) (fEnum f) := by
  refine ⟨fun G pin => PI.imp (pi_enumK hg hm (ha.run G pin) hs) fun σ H R ⟨W, ρ, r, w⟩ => ⟨W, ρ, r, ?_⟩⟩
  refine Wp.imp (shrs_bindI w) fun vs H1 ⟨W1, ρ1, ms, r1, d1, w1⟩ => ?_
  cases d1 with
  | nil => exact w1.elim
  | cons d dr =>
    cases dr with
    | cons _ _ => exact w1.elim
    | nil =>
      simp only at w1
      split at w1
      · rename_i xs ex
        obtain ⟨b, a, vs, rfl, hq, dv, hk⟩ := seqM_ok d ex
        refine ⟨b, a, vs, rfl, hq, w1 W1 H1 _ (Step.refl _ _ _ r1.gok) r1 fun W' H' k wok => ⟨fun i m em => ?_, vs, hk W' H' k, by rw [enumM_len, dv.length]⟩⟩
        obtain ⟨n, en, rfl⟩ := enumM_at em
        rw [Nat.zero_add]
        obtain ⟨y, hy, dy⟩ := (dv.keep k).get en
        refine ⟨⟨vs, y, hk W' H' k, hy⟩, fun x H'' ⟨p, z, ev, hp, eH, hz⟩ => ?_⟩
        have := hz vs (hk W' H' k)
        rw [hy] at this
        cases this
        subst ev eH
        exact ⟨.inr ⟨p, _, hp, rfl⟩, tup_new wok hp (.cons (.int _) (.cons dy .nil))⟩
      · exact w1.elim
theorem qi_zip {e e2 : Expr} {f : Rho → Res (List RV)} {p pos tpos : Pos} {elts : List Expr} {kk : Nat} (hm : X.mg "zip" = none) (ha : QA X T Wx [e, e2] f) (hg : Gl X "zip" := by rfl)
    (hs : starEach [e, e2] X.env = (false, eval e X.env) :: starEach [e2] X.env := by rfl) (hpl : (backTo pos (starEach [e2] X.env)).any (·.1) = false := by rfl) :
    QI X T Wx (.Tuple elts kk tpos) (.Call (.Name "zip" p) [e, e2] [] pos) (fZip f) := by
  refine ⟨fun G pin => PI.imp (pi_zipK hg hm (ha.run G pin) hs hpl) fun σ H R ⟨W, ρ, r, w⟩ => ⟨W, ρ, r, ?_⟩⟩
  refine Wp.imp (shrs_bindI w) fun vs H1 ⟨W1, ρ1, ms, r1, d1, w1⟩ => ?_
  cases d1 with
  | nil => exact w1.elim
  | cons d dr =>
    cases dr with
    | nil => exact w1.elim
    | cons d2 dr =>
      cases dr with
      | cons _ _ => exact w1.elim
      | nil =>
        simp only at w1
        split at w1
        · rename_i xs ys ex ey
          obtain ⟨b, a, vs, rfl, hq, dv, hk⟩ := seqM_ok d ex
          obtain ⟨b2, a2, us, rfl, hq2, du, hk2⟩ := seqM_ok d2 ey
          refine ⟨b, b2, a, a2, vs, us, rfl, hq, hq2, w1 W1 H1 _ (Step.refl _ _ _ r1.gok) r1 fun W' H' k wok => ⟨fun i m em => ?_, vs, us, hk W' H' k, hk2 W' H' k, by rw [zipM_len, dv.length, du.length]⟩⟩
          obtain ⟨n1, n2, en1, en2, rfl⟩ := zipM_at em
          obtain ⟨y1, hy1, dy1⟩ := (dv.keep k).get en1
          obtain ⟨y2, hy2, dy2⟩ := (du.keep k).get en2
          refine ⟨⟨vs, us, y1, y2, hk W' H' k, hk2 W' H' k, hy1, hy2⟩, fun x H'' ⟨p, z1, z2, ev, hp, eH, hz1, hz2⟩ => ?_⟩
          have q1 := hz1 vs (hk W' H' k)
          have q2 := hz2 us (hk2 W' H' k)
          rw [hy1] at q1
          rw [hy2] at q2
          cases q1
          cases q2
          subst ev eH
          exact ⟨.inr ⟨p, _, hp, rfl⟩, tup_new wok hp (.cons dy1 (.cons dy2 .nil))⟩
        · exact w1.elim
end
end DL
namespace DL
open PySem PySem.Spec PyProof.Rows L2
section
variable {X : Cx} {T : Tb} {Wx : WX} {G : AP} {pin : Nat → Option Addr} {W W' : AP} {σ : L2.St} {H H' : Hp} {ρ ρ' : Rho}
/-! ### raise X() -/
theorem pmk_own0 {C : Addr} {bmB : List Value} {B newId initId : String} {x : Str} {p pos : Pos} (F : ExcBaseFacts B newId initId bmB) (q : PySem.W.excIn X.K C bmB newId = true) (gC : X.mg x = some (.ref C))
    (kC : PySem.W.keepIn X.K (.ref C) = true) (r : Raises X (.ref C)) (hg : Gl X x) (hdb : (x == ("__debug__" : Str)) = false := by decide) :
    PMk X (.Call (.Name x p) [] [] pos) (fun σ H Q => Q (.ref C) none H) := by
  intro pins s σ H Q I h
  refine wpAny_Call_Name_kw (ld_glob I hg gC ?_ hdb)
  refine PySem.W.callWith_K0 I.kIn kC ?_
  show wpAny _ _ (call (.ref C) []) _ _ _
  obtain ⟨bm, N, nm, qn, bs, hdct, sn, sub, ab, col, dd, k0, k1, k2, k3, k5, mN, hC, hN, hni, T⟩ := exc_obj I.kIn q
  refine wpAny_call_exc_subT F T hC hN hni (fun h' e hm => ?_) (by show 0 ≤ sizeLine; exact Nat.zero_le _)
  exact mk_of I hm r h (I.hok.gone hm.new)
/-- an own exception class of the module -/
structure ExC (K : PySem.W.Frag) (mg : Str → Option Value) (x : Str) : Prop where
  g : mg x = some (.ref (He.ga K x))
  e : PySem.W.excIn K (He.ga K x) He.veBase "ValueError.__new__" = true
  k : PySem.W.keepIn K (.ref (He.ga K x)) = true
  s : PySem.W.subIn K (.ref (He.ga K x)) (.type "BaseException") = some true
  t : PySem.W.typeIn K (.ref (He.ga K x)) = some (.type "type")
def gRaise (x : Str) : Rho → SRes := fun ρ => .ex ⟨x, none⟩ ρ
theorem qs_raise {x : Str} {p pos pos' : Pos} (hc : X.calm = true) (tk : Takes X Wx) (c : ExC X.K X.mg x) (hg : Gl X x := by rfl) (hdb : (x == ("__debug__" : Str)) = false := by decide) :
    QS X T Wx (.Raise (some (.Call (.Name x p) [] [] pos)) none pos') (gRaise x) := by
  refine ⟨fun G pin => PS.imp (ps_raise hc tk (pmk_own0 F.excBase_ValueError c.e c.g c.k (raises_own c.s c.t) hg hdb)) fun D σ H ⟨W, ρ, r, h⟩ => ?_⟩
  exact h W H σ _ _ (Step.refl _ _ _ r.gok) r ⟨_, c.g, rfl, rfl⟩
/-! ### try .. except X: -/
/-- which classes the clause X takes -/
def ExM (K : PySem.W.Frag) (y : Str) (tbl : List (Str × Bool)) : Prop := ∀ p ∈ tbl, PySem.W.exmOne K (.ref (He.ga K p.1)) (.ref (He.ga K y)) = some p.2
def noEx : SRes → SRes
  | .ex _ _ => .bad
  | r => r
theorem lookup_mem' {β : Type} {x : Str} {b : β} : ∀ {l : List (Str × β)}, l.lookup x = some b → (x, b) ∈ l
  | [], h => by cases h
  | (y, c) :: l, h => by
    rw [List.lookup_cons] at h
    cases e : x == y with
    | true =>
      rw [e] at h
      cases h
      rw [beq_iff_eq.mp e]
      exact List.mem_cons_self
    | false =>
      rw [e] at h
      exact List.mem_cons_of_mem _ (lookup_mem' h)
def gTry (tbl : List (Str × Bool)) (b h : Rho → SRes) : Rho → SRes := fun ρ => match b ρ with
  | .ex x ρ1 => match tbl.lookup x.cls with
    | some true => noEx (h ρ1)
    | some false => .ex x ρ1
    | none => .bad
  | r => r
theorem qs_try {y : Str} {tbl : List (Str × Bool)} {body suite : List Stmt} {b₀ : Stmt} {np pos pos' : Pos} {b h : Rho → SRes} (hs : X.stack = X.env :: X.outer) (hf : X.env.frame = some X.env.locals) (tk : Takes X Wx) (cy : ExC X.K X.mg y) (hm : ExM X.K y tbl) (hx : ∀ p ∈ tbl, X.mg p.1 = some (.ref (He.ga X.K p.1)))
    (hb : ∀ (W : WX) (pn : List (Addr × Obj)) (xe : Value → Shared → Prop), Takes (X.tr pn xe) W → PassesOwn (model X.prog X.w) X.A X.env xe → QSs (X.tr pn xe) T W body b)
    (hsu : ∀ (a : Addr) (pn : List (Addr × Obj)), QSs (X.suite a pn) T noX (b₀ :: suite) h) (hg : Gl X y := by rfl) (hdb : (y == ("__debug__" : Str)) = false := by decide) :
    QS X T Wx (.Try body [.ExceptHandler (some (.Name y np)) none (b₀ :: suite) pos'] [] [] pos) (gTry tbl b h) := by
  refine ⟨fun G pin => ?_⟩
  refine PS.imp (ps_try_only (tb := fun W D σ H => ∃ Wp ρ, RS X.K T G pin Wp σ H ρ ∧ WpS X T W G pin Wp H D (b ρ)) (ts := fun a cls d D σ H => ∃ Wp ρ, RS X.K T G pin Wp σ H ρ ∧ WpS X T noX G pin Wp H D (h ρ)) hs hf ⟨hg, hdb, .inl cy.g⟩ tk
    (fun W pn xe tk' hp => ((hb W pn xe tk' hp).run G pin)) (fun a oe cls d pn _ _ => (hsu a ((a, oe) :: pn)).run G pin)) fun D σ H ⟨W, ρ, r, w⟩ => ⟨W, ρ, r, ?_⟩
  unfold gTry at w
  cases eb : b ρ with
  | bad => rw [eb] at w; exact w
  | nx ρ1 => rw [eb] at w; exact w
  | bk ρ1 => rw [eb] at w; exact w
  | ct ρ1 => rw [eb] at w; exact w
  | rt v ρ1 => rw [eb] at w; exact w
  | ex x ρ1 =>
    rw [eb] at w
    simp only at w
    intro W1 H1 σ1 cls d s1 r1 e1
    obtain ⟨C, gC, rfl, hd⟩ := id e1
    cases el : tbl.lookup x.cls with
    | none => rw [el] at w; exact w.elim
    | some bb =>
      have hmem : (x.cls, bb) ∈ tbl := lookup_mem' el
      have eC : C = He.ga X.K x.cls := by
        have := hx _ hmem
        rw [gC] at this
        cases this
        rfl
      subst eC
      rw [el] at w
      refine ⟨bb, hm _ hmem, fun et a _ => ?_, fun ef => ?_⟩
      · subst et
        simp only at w
        refine ⟨W1, ρ1, r1, ?_⟩
        have w1 := WpS.shift s1 w
        cases eh : h ρ1 with
        | ex y ρ2 => rw [eh] at w1; exact w1.elim
        | bad => rw [eh] at w1; exact w1
        | nx ρ1 => rw [eh] at w1; exact w1
        | bk ρ1 => rw [eh] at w1; exact w1
        | ct ρ1 => rw [eh] at w1; exact w1
        | rt v ρ1 => rw [eh] at w1; exact w1
      · subst ef
        exact w W1 H1 σ1 _ d s1 r1 e1
end
end DL
namespace DL
open PySem PySem.Spec L2
section
variable {X : Cx} {T : Tb} {Wx : WX} {G : AP} {pin : Nat → Option Addr} {W W' : AP} {σ : L2.St} {H H' : Hp} {ρ ρ' : Rho}
/-! ### a, b, c = x, y, z: new lists stay one's own -/
def grd (a : RV) (v : V) (G : AP) : AP := fun p => G p ∨ ∃ m, a = .o m ∧ v = .ref p
inductive RvsN (K : PySem.W.Frag) (W : AP) (σ : L2.St) (H : Hp) (ρ : Rho) : AP → List RV → List V → Prop
  | nil {G : AP} : RvsN K W σ H ρ G [] []
  | cons {G : AP} {a : RV} {as : List RV} {v : V} {vs : List V} : RvOk K G W σ H ρ a v → a.nb = true → RvsN K W σ H ρ (grd a v G) as vs → RvsN K W σ H ρ G (a :: as) (v :: vs)
abbrev rN (X : Cx) (G : AP) (σ : L2.St) : Rel (List RV) (List V) := fun W H ρ r v => RvsN X.K W σ H ρ G r v
structure QN (X : Cx) (T : Tb) (Wx : WX) (es : List Expr) (f : Rho → Res (List RV)) : Prop where
  run : ∀ (G : AP) (pin : Nat → Option Addr), PA X es (fun σ H Q => ∃ W ρ, RS X.K T G pin W σ H ρ ∧ Wp X T Wx G pin W σ H (rN X G σ) Q (f ρ))
theorem PA.anyN {es : List Expr} {f : Rho → Res (List RV)} (h : QN X T Wx es f) (pin : Nat → Option Addr) : PA X es (fun σ H Q => ∃ G W ρ, RS X.K T G pin W σ H ρ ∧ Wp X T Wx G pin W σ H (rN X G σ) Q (f ρ)) :=
  ⟨fun pos pins s σ H Q I ⟨G, w⟩ => (h.run G pin).run pos pins s σ H Q I w⟩
theorem Wp.bindG {α β α' β' : Type} {rel : Rel α β} {rel' : Rel α' β'} {Q : β → Hp → Prop} {Q' : β' → Hp → Prop} {r : Res α} {k : α → Rho → Res α'} {G' : AP} (hG : ∀ a, G a → G' a) (h : Wp X T Wx G pin W σ H rel' Q' (r.bind k))
    (h1 : ∀ a ρ' W' H' b, Step G' W H W' H' → RS X.K T G' pin W' σ H' ρ' → rel W' H' ρ' a b → Wp X T Wx G pin W' σ H' rel' Q' (k a ρ') → Q b H') : Wp X T Wx G' pin W σ H rel Q r := by
  cases r with
  | ok a ρ => exact fun W2 H2 b s2 r2 q => h1 a ρ W2 H2 b s2 r2 q (Wp.shift (s2.weaken hG) h)
  | ex x ρ => exact fun W2 H2 c d s2 r2 q => h W2 H2 c d (s2.weaken hG) (r2.unguard hG) q
  | bad => exact h
theorem bind_bind {α β γ : Type} (r : Res α) (k : α → Rho → Res β) (l : β → Rho → Res γ) : (r.bind k).bind l = r.bind fun a ρ => (k a ρ).bind l := by
  cases r <;> rfl
def fNNil : Rho → Res (List RV) := fun ρ => .ok [] ρ
def fNCons (f : Rho → Res RV) (g : Rho → Res (List RV)) : Rho → Res (List RV) := fun ρ => ((f ρ).bind nrm).bind fun a ρ1 => (g ρ1).bind fun as ρ2 => .ok (a :: as) ρ2
theorem qn_nil : QN X T Wx [] fNNil := ⟨fun G pin => PA.imp pa_nil fun σ H Q ⟨W, ρ, r, h⟩ => h W H [] (Step.refl _ _ _ r.gok) r .nil⟩
theorem qn_cons {e : Expr} {es : List Expr} {f : Rho → Res RV} {g : Rho → Res (List RV)} (h1 : QE X T Wx e f) (h2 : QN X T Wx es g) (hs : starEach (e :: es) X.env = (false, eval e X.env) :: starEach es X.env := by rfl) : QN X T Wx (e :: es) (fNCons f g) := by
  refine ⟨fun G pin => PA.imp (pa_cons (h1.run G pin) (PA.anyN h2 pin) hs) fun σ H Q ⟨W, ρ, r, h⟩ => ?_⟩
  unfold fNCons at h
  rw [bind_bind] at h
  refine ⟨W, ρ, r, Wp.bind h fun a0 ρ1 W1 H1 v s1 r1 o1 w1 => ?_⟩
  cases en : nrm a0 ρ1 with
  | bad => rw [en] at w1; exact w1.elim
  | ex x ρ2 => exact absurd en nrm_noex
  | ok a ρ2 =>
    rw [en] at w1
    obtain ⟨W2, s2, r2, o2, na⟩ := nrm_ok r1 o1 en
    have w2 := Wp.shift s2 w1
    have hG : ∀ p, G p → grd a v G p := fun p h => .inl h
    have r2' : RS X.K T (grd a v G) pin W2 σ H1 ρ2 := by
      refine r2.reguard (fun p => ?_) fun i s p es os qs => ?_
      · rintro (g | ⟨m, rfl, rfl⟩)
        · exact r2.gok p g
        · obtain ⟨p', hp, hO, _⟩ := o2
          cases hp
          exact hO.1
      · rintro (g | ⟨m, rfl, rfl⟩)
        · exact (r2.own_at es os qs).1 g
        · obtain ⟨p', hp, hO, ng, hn⟩ := o2
          cases hp
          exact hn i s es os qs
    show ∃ G W ρ, RS X.K T G pin W σ H1 ρ ∧ _
    change Wp X T Wx G pin W2 σ H1 _ Q ((g ρ2).bind _) at w2
    refine ⟨grd a v G, W2, ρ2, r2', Wp.bindG hG w2 fun as ρ3 W3 H3 us s3 r3 o3 w3 => ?_⟩
    refine w3 W3 H3 (v :: us) (Step.refl _ _ _ (r3.unguard hG).gok) (r3.unguard hG) (.cons ?_ na o3)
    cases a with
    | v m => exact Dat.keep s3.keeps o2
    | b l => cases na
    | o m =>
      obtain ⟨p, hp, hO, ng, hn⟩ := o2
      have gp : grd (.o m) v G p := .inr ⟨m, rfl, hp⟩
      have hO' := hO
      obtain ⟨_, ox, hx, hb⟩ := hO'
      obtain ⟨q1, q2⟩ := s3.gd p _ gp hx hb.notbl
      exact ⟨p, hp, hO.keep s3.keeps q2 (q1.trans hx.symm), ng, fun i s es os qs => (r3.own_at es os qs).1 gp⟩
def setNs : List Nat → List RV → Rho → Option Rho
  | [], [], ρ => some ρ
  | i :: is, a :: as, ρ => match setS i ρ a with
    | some ρ1 => setNs is as ρ1
    | none => none
  | _, _, _ => none
def putN : List Nat → List V → L2.St → L2.St
  | i :: is, v :: vs, σ => putN is vs (σ.set i (some v))
  | _, _, σ => σ
theorem RvsN.stored {K : PySem.W.Frag} {i : Nat} {v : V} {s : Sl} (hl : ρ.length = σ.length) : ∀ {G1 : AP} {as : List RV} {vs : List V}, (s.own = true → ∀ p, v = .ref p → G1 p) → RvsN K W σ H ρ G1 as vs → RvsN K W (σ.set i (some v)) H (ρ.set i s) G1 as vs
  | _, _, _, _, .nil => .nil
  | G1, _, _, hp, .cons (a := a) (v := u) o nb r => by
    refine .cons ?_ nb (RvsN.stored hl (fun h p e => .inl (hp h p e)) r)
    cases a with
    | v m => exact o
    | b l => cases nb
    | o m =>
      obtain ⟨q, hq, hO, ng, hn⟩ := o
      refine ⟨q, hq, hO, ng, fun k t e os z => ?_⟩
      by_cases hk : k = i
      · subst hk
        have hlt : k < σ.length := by
          have := (List.getElem?_eq_some_iff.mp z).1
          rwa [List.length_set] at this
        rw [List.getElem?_set_self hlt] at z
        cases z
        rw [List.getElem?_set_self (by rw [hl]; exact hlt)] at e
        cases e
        exact ng (hp os q rfl)
      · rw [List.getElem?_set_ne (Ne.symm hk)] at e z
        exact hn k t e os z
theorem setNs_ok {K : PySem.W.Frag} : ∀ {is : List Nat} {as : List RV} {vs : List V} {σ : L2.St} {ρ ρ' : Rho} {G1 : AP}, RS K T G pin W σ H ρ → RvsN K W σ H ρ G1 as vs → (∀ p, G p → G1 p) → setNs is as ρ = some ρ' → RS K T G pin W (putN is vs σ) H ρ'
  | [], [], _, _, _, _, _, r, .nil, _, e => by cases e; exact r
  | [], _ :: _, _, _, _, _, _, _, _, _, e => by cases e
  | _ :: _, [], _, _, _, _, _, _, _, _, e => by cases e
  | i :: is, a :: as, _, σ, ρ, ρ', G1, r, .cons (v := v) (vs := vs) o nb rs, hG, e => by
    unfold setNs at e
    split at e
    · rename_i ρ1 e1
      unfold putN
      unfold setS at e1
      split at e1
      · rename_i hf
        cases a with
        | b l => cases nb
        | v m =>
          cases e1
          exact setNs_ok (r.set_sh hf o) (rs.stored r.len (fun h => by cases h)) (fun p g => .inl (hG p g)) e
        | o m =>
          cases e1
          obtain ⟨p, hp, hO, ng, hn⟩ := o
          subst hp
          exact setNs_ok (r.set_ow hf hO (fun g => ng (hG p g)) hn) (rs.stored r.len (fun _ q hq => .inr ⟨m, rfl, hq⟩)) (fun p g => .inl (hG p g)) e
      · cases e1
    · cases e
def gParN (is : List Nat) (f : Rho → Res (List RV)) : Rho → SRes := fun ρ => (f ρ).toS fun as ρ1 => match setNs is as ρ1 with
  | some ρ2 => .nx ρ2
  | none => .bad
theorem setNs_len : ∀ {is : List Nat} {as : List RV} {ρ ρ' : Rho}, setNs is as ρ = some ρ' → is.length = as.length
  | [], [], _, _, _ => rfl
  | [], _ :: _, _, _, e => by cases e
  | _ :: _, [], _, _, e => by cases e
  | i :: is, a :: as, ρ, ρ', e => by
    unfold setNs at e
    split at e
    · rw [List.length_cons, List.length_cons, setNs_len e]
    · cases e
theorem RvsN.len {K : PySem.W.Frag} : ∀ {G1 : AP} {as : List RV} {vs : List V}, RvsN K W σ H ρ G1 as vs → as.length = vs.length
  | _, _, _, .nil => rfl
  | _, _, _, .cons _ _ r => congrArg (· + 1) r.len
theorem qs_par2 {i j : Nat} {x y : Str} {a b : Expr} {f : Rho → Res (List RV)} {px py pt pos : Pos} {kt k2 : Nat} {pt2 : Pos} (hc : X.calm = true) (hN : X.N.Nodup) (ha : QN X T Wx [a, b] f) (hi : X.N[i]? = some x := by rfl) (hj : X.N[j]? = some y := by rfl) (hij : i ≠ j := by decide)
    (hx : X.env.scope.names.lookup x = some .local := by rfl) (hy : X.env.scope.names.lookup y = some .local := by rfl)
    (hw : swappedStores [.Tuple [.Name x px, .Name y py] kt pt] (.Tuple [a, b] k2 pt2) X.env = pure (some [x, y]) := by rfl)
    (hs : swapsWithSole [.Tuple [.Name x px, .Name y py] kt pt] (.Tuple [a, b] k2 pt2) pos.line X.env = pure false := by rfl) :
    QS X T Wx (.Assign [.Tuple [.Name x px, .Name y py] kt pt] (.Tuple [a, b] k2 pt2) pos) (gParN [i, j] f) := by
  refine ⟨fun G pin => PS.imp (ps_par hc hN hi hj hij hx hy (ha.run G pin) hw hs) fun D σ H ⟨W, ρ, r, h⟩ => ⟨W, ρ, r, Wp.bindS h fun as ρ1 W1 H1 vs s1 r1 o1 w1 => ?_⟩⟩
  split at w1
  · rename_i ρ2 e2
    have R := setNs_ok r1 o1 (fun _ g => g) e2
    have hl := (setNs_len e2).trans o1.len
    match vs, hl, R with
    | [u, v], _, R => exact ⟨u, v, rfl, w1 W1 H1 _ (Step.refl _ _ _ r1.gok) R⟩
  · exact w1.elim
theorem qs_par3 {i j l : Nat} {x y z : Str} {a b c : Expr} {f : Rho → Res (List RV)} {px py pz pt pos : Pos} {kt k2 : Nat} {pt2 : Pos} (hc : X.calm = true) (hN : X.N.Nodup) (ha : QN X T Wx [a, b, c] f) (hi : X.N[i]? = some x := by rfl) (hj : X.N[j]? = some y := by rfl) (hl : X.N[l]? = some z := by rfl) (hij : i ≠ j := by decide) (hil : i ≠ l := by decide) (hjl : j ≠ l := by decide)
    (hx : X.env.scope.names.lookup x = some .local := by rfl) (hy : X.env.scope.names.lookup y = some .local := by rfl) (hz : X.env.scope.names.lookup z = some .local := by rfl)
    (hw : swappedStores [.Tuple [.Name x px, .Name y py, .Name z pz] kt pt] (.Tuple [a, b, c] k2 pt2) X.env = pure (some [x, y, z]) := by rfl)
    (hs : swapsWithSole [.Tuple [.Name x px, .Name y py, .Name z pz] kt pt] (.Tuple [a, b, c] k2 pt2) pos.line X.env = pure false := by rfl) :
    QS X T Wx (.Assign [.Tuple [.Name x px, .Name y py, .Name z pz] kt pt] (.Tuple [a, b, c] k2 pt2) pos) (gParN [i, j, l] f) := by
  refine ⟨fun G pin => PS.imp (ps_par3 hc hN hi hj hl hij hil hjl hx hy hz (ha.run G pin) hw hs) fun D σ H ⟨W, ρ, r, h⟩ => ⟨W, ρ, r, Wp.bindS h fun as ρ1 W1 H1 vs s1 r1 o1 w1 => ?_⟩⟩
  split at w1
  · rename_i ρ2 e2
    have R := setNs_ok r1 o1 (fun _ g => g) e2
    have hl := (setNs_len e2).trans o1.len
    match vs, hl, R with
    | [u, v, w], _, R => exact ⟨u, v, w, rfl, w1 W1 H1 _ (Step.refl _ _ _ r1.gok) R⟩
  · exact w1.elim
end
end DL
namespace DL
open PySem PySem.Spec PyProof.Rows L2
section
variable {X : Cx} {T : Tb} {Wx : WX} {G : AP} {pin : Nat → Option Addr} {W W' : AP} {σ : L2.St} {H H' : Hp} {ρ ρ' : Rho}
/-! ### methods of what is read -/
def tyM (t : String) : MV → Bool
  | .str _ => decide (t = "str")
  | .lst _ => decide (t = "list")
  | _ => false
theorem tyM_ok {K : PySem.W.Frag} {t : String} {m : MV} {x : V} (h : Rdb K W H m x) (e : tyM t m = true) : tyV K t x H := by
  cases m with
  | str z =>
    have := h.str
    subst this
    exact (show t = "str" from of_decide_eq_true e)
  | lst ms =>
    obtain ⟨a, xs, rfl, ha, _⟩ := h.lst
    exact .inl ⟨of_decide_eq_true e, xs, SqL.of ha⟩
  | _ => cases e
def MtOk (X : Cx) (T : Tb) (r : L2.St → V → List V → Hp → VK → Prop) (g : MV → List MV → Option RV) : Prop :=
  ∀ (G : AP) (pin : Nat → Option Addr) (W : AP) (σ : L2.St) (H : Hp) (ρ : Rho) (m : MV) (ms : List MV) (x : V) (xs : List V) (rv : RV) (Q : VK), RS X.K T G pin W σ H ρ → Rdb X.K W H m x → Rdbs X.K W H ms xs → g m ms = some rv → Kont X T G pin W σ H ρ rv Q → r σ x xs H Q
def fMt (t : String) (g : MV → List MV → Option RV) (fo : Rho → Res RV) (fa : Rho → Res (List RV)) : Rho → Res RV := fun ρ => (fo ρ).bind fun o ρ1 => match cont ρ1 (hold o) with
  | some m0 => if tyM t m0 = true then (fa ρ1).bind fun as ρ2 => match cont ρ2 (hold o), conts ρ2 as with
      | some m, some ms => match g m ms with
        | some rv => .ok rv ρ2
        | none => .bad
      | _, _ => .bad
    else .bad
  | none => .bad
theorem qe_mt {o e : Expr} {es : List Expr} {name : Str} {apos cpos : Pos} {t id : String} {r : L2.St → V → List V → Hp → VK → Prop} {g : MV → List MV → Option RV} {fo : Rho → Res RV} {fa : Rho → Res (List RV)} (pa : PlainAttrs t) (slot : Slot t name id) (hty : typeOf (.builtin id) = pure (.type "method_descriptor"))
    (hm : MtS X id r) (hg : MtOk X T r g) (ho : QE X T Wx o fo) (ha : QA X T Wx (e :: es) fa) (hbase : attributeBase o name X.env (eval o X.env) = eval o X.env := by rfl)
    (hfew : ((backTo cpos (starEach (e :: es) X.env)).all (fun x => !x.1) && (backToKw cpos (keywordEach [] X.env)).all (fun x => x.1.isSome)
      && decide ((e :: es).length + ([] : List Keyword).length + (if ([] : List Keyword).isEmpty then 0 else 1) < 30)) = true := by rfl)
    (hline : (apos.endLine == cpos.line) = true := by rfl) (hs : starEach (e :: es) X.env = (false, eval e X.env) :: starEach es X.env := by rfl) (hplain : (backTo cpos (starEach es X.env)).any (·.1) = false := by rfl) :
    QE X T Wx (.Call (.Attribute o name apos) (e :: es) [] cpos) (fMt t g fo fa) := by
  refine ⟨fun G pin => PE.imp (pe_bmS pa slot hty hm (ho.run G pin) (ha.run G pin) hbase hfew hline hs hplain) fun σ H Q ⟨W, ρ, r0, h⟩ => ⟨W, ρ, r0, Wp.bind h fun a ρ1 W1 H1 v s1 r1 o1 w1 => ?_⟩⟩
  obtain ⟨W2, s2, r2, o2⟩ := hold_ok r1 o1
  split at w1
  · rename_i m0 e0
    split at w1
    · rename_i et
      refine ⟨tyM_ok (cont_ok r2 o2 e0) et, W2, ρ1, r2, Wp.bind (Wp.shift s2 w1) fun as ρ3 W3 H3 us s3 r3 o3 w3 => ?_⟩
      have o2' := o2.held (hold_held a) s3 r3
      split at w3
      · rename_i m ms em en
        split at w3
        · rename_i rv eg
          exact hg G pin W3 σ H3 ρ3 m ms v us rv Q r3 (cont_ok r3 o2' em) (conts_ok r3 o3 en) eg w3
        · exact w3.elim
      · exact w3.elim
    · exact w1.elim
  · exact w1.elim
def gSIndex (m : MV) (ms : List MV) : Option RV := match m, ms with
  | .str a, [.str b] => match Txt.index0 a b with
    | some k => some (.v (.int (k : Nat)))
    | none => none
  | _, _ => none
theorem mk_sindex {Wx : WX} : MtOk X T (rIndexX Wx) gSIndex := by
  intro G pin W σ H ρ m ms x xs rv Q r hm hs e k
  unfold gSIndex at e
  split at e
  · rename_i a b
    split at e
    · rename_i n en
      cases e
      obtain ⟨y, rfl, hy⟩ := hs.one
      refine ⟨a, b, hm.str, by rw [hy.str], fun j ej => ?_, fun en' => ?_⟩
      · rw [en] at ej
        cases ej
        exact k.fin r (.int _)
      · rw [en] at en'
        cases en'
    · cases e
  · cases e
theorem qe_sindex {o e : Expr} {apos cpos : Pos} {fo : Rho → Res RV} {fa : Rho → Res (List RV)} (hc : X.calm = true) (tk : Takes X Wx) (ho : QE X T Wx o fo) (ha : QA X T Wx [e] fa) (hbase : attributeBase o "index" X.env (eval o X.env) = eval o X.env := by rfl)
    (hfew : ((backTo cpos (starEach [e] X.env)).all (fun x => !x.1) && (backToKw cpos (keywordEach [] X.env)).all (fun x => x.1.isSome)
      && decide (([e] : List Expr).length + ([] : List Keyword).length + (if ([] : List Keyword).isEmpty then 0 else 1) < 30)) = true := by rfl)
    (hline : (apos.endLine == cpos.line) = true := by rfl) (hs : starEach [e] X.env = (false, eval e X.env) :: starEach [] X.env := by rfl) (hplain : (backTo cpos (starEach [] X.env)).any (·.1) = false := by rfl) :
    QE X T Wx (.Call (.Attribute o "index" apos) [e] [] cpos) (fMt "str" gSIndex fo fa) :=
  qe_mt PySem.F.plainAttrs_str PySem.F.slot_str_index PySem.F.type_str_index (mt_indexX hc tk) mk_sindex ho ha hbase hfew hline hs hplain
/-! ### dicts, read -/
def keyEq : MV → MV → Bool
  | .non, .non => true
  | .int i, .int j => decide (i = j)
  | .str x, .str y => decide (x = y)
  | _, _ => false
def isKey : MV → Bool
  | .non => true
  | .int _ => true
  | .str _ => true
  | _ => false
def dGet : List (MV × MV) → MV → Option MV
  | [], _ => none
  | (k, v) :: r, m => if keyEq k m = true then some v else dGet r m
def nkV : Option Key → V
  | none => .non
  | some k => kV k
theorem isKey_nk {K : PySem.W.Frag} {m : MV} {x : V} (h : Rdb K W H m x) (e : isKey m = true) : (m = .non ∧ x = .non) ∨ ∃ k, m = kM k ∧ x = kV k := by
  cases m with
  | non => exact .inl ⟨rfl, h.non⟩
  | int i => exact .inr ⟨.inl i, rfl, h.int⟩
  | str z => exact .inr ⟨.inr z, rfl, h.str⟩
  | _ => cases e
theorem keyEq_k (a b : Key) : keyEq (kM a) (kM b) = decide (a = b) := by
  cases a <;> cases b <;> simp [keyEq, kM]
theorem keyEq_n (a : Key) : keyEq (kM a) .non = false := by cases a <;> rfl
theorem Datp.get {K : PySem.W.Frag} : ∀ {kvs : List (MV × MV)} {ks : List (Key × V)} {k : Key}, Datp K W H kvs ks → (dGet kvs (kM k) = none ∧ valV ks k = none) ∨ ∃ m v, dGet kvs (kM k) = some m ∧ valV ks k = some v ∧ Dat K W H m v
  | _, _, k, .nil => .inl ⟨rfl, rfl⟩
  | _, _, k, .cons (k := j) (m := m) (v := v) d r => by
    rw [dGet, keyEq_k]
    by_cases e : j = k
    · rw [decide_eq_true e]
      exact .inr ⟨m, v, rfl, valV_pos e, d⟩
    · rw [decide_eq_false e, valV_neg e]
      exact Datp.get r
theorem Datp.getN {K : PySem.W.Frag} : ∀ {kvs : List (MV × MV)} {ks : List (Key × V)}, Datp K W H kvs ks → dGet kvs .non = none
  | _, _, .nil => rfl
  | _, _, .cons (k := j) d r => by
    rw [dGet, keyEq_n]
    exact Datp.getN r
/-- what stands in {None: v} -/
theorem nD_map {pins : List (Addr × Obj)} {s : Shared} {a : Addr} {v : V} (I : Inv X pins σ H s) (h : H a = some (nD a v)) : ∃ u, RelV v u ∧ (a == sysModules) = false ∧ s.heap.MapOf (noneKind X.prog X.w) a (fun k => if k = none then some u else none) := by
  obtain ⟨⟨u, o, ep, r, hz, ho, hx, hd⟩, _, _⟩ := I.hok a _ h
  refine ⟨u, r, hz, o, _, ep, ho, hx, hd, fun e he => ?_, fun k => ?_⟩
  · have : e = ⟨reduceHash 0xFCA86420, .none, u⟩ := by simpa using he
    subst this
    exact ⟨none, rfl, rfl⟩
  · cases k with
    | none => rfl
    | some k =>
      have : keyIs k Value.none = false := by
        cases e : keyIs k Value.none with
        | false => rfl
        | true => exact absurd e (keyIs_none k)
      show ((#[(⟨reduceHash 0xFCA86420, .none, u⟩ : DictEntry)] : Array DictEntry).find? fun e => nkIs (some k) e.key).map (·.val) = _
      have e2 : nkIs (some k) Value.none = false := this
      simp [e2]
theorem nk_is {P : Program} {w : World} {k : Option Key} {u : Value} (r : RelV (nkV k) u) : (noneKind P w).is k u = true := by
  cases k with
  | none =>
    cases (show u = Value.none from r)
    rfl
  | some k => exact kV_is (P := P) (w := w) r
def rInDic (neg : Bool) : R2 := fun x y H Q => (∃ a o, y = .ref a ∧ DGet H a x o ∧ Q (.bl (if neg then !o.isSome else o.isSome)) H) ∨ ((∃ a kvs, y = .ref a ∧ x = .non ∧ Rd H a (.dK kvs) ∧ Q (.bl neg) H) ∨
  ∃ a v k, y = .ref a ∧ x = nkV k ∧ H a = some (nD a v) ∧ Q (.bl (if neg then !k.isNone else k.isNone)) H)
theorem op_inDic (hu : X.A.units + 1 < cLine) : OpR X (compareOp .In) (rInDic false) := by
  intro pins s σ H x y v u Q I rx ry h
  rcases h with ⟨a, o, rfl, g, q⟩ | ⟨a, kvs, rfl, rfl, g, q⟩ | ⟨a, v0, k, rfl, rfl, g, q⟩
  · obtain rfl : u = Value.ref a := ry
    exact d_in hu I g rx fun s3 I3 => ⟨.bl o.isSome, H, I3, rfl, q⟩
  · obtain rfl : u = Value.ref a := ry
    obtain rfl : v = Value.none := rx
    exact d_inNone I g fun s3 I3 => ⟨.bl false, H, I3, rfl, q⟩
  · obtain rfl : u = Value.ref a := ry
    obtain ⟨u0, r0, hz, hm⟩ := nD_map I g
    refine wpAny_in_of (nk_is rx) hz hm ?_
    refine ⟨_, H, I.tok _, ?_, q⟩
    cases k <;> rfl
theorem op_ninDic (hu : X.A.units + 1 < cLine) : OpR X (compareOp .NotIn) (rInDic true) := by
  intro pins s σ H x y v u Q I rx ry h
  rcases h with ⟨a, o, rfl, g, q⟩ | ⟨a, kvs, rfl, rfl, g, q⟩ | ⟨a, v0, k, rfl, rfl, g, q⟩
  · obtain rfl : u = Value.ref a := ry
    exact d_notIn hu I g rx fun s3 I3 => ⟨.bl (!o.isSome), H, I3, rfl, q⟩
  · obtain rfl : u = Value.ref a := ry
    obtain rfl : v = Value.none := rx
    exact d_notInNone I g fun s3 I3 => ⟨.bl true, H, I3, rfl, q⟩
  · obtain rfl : u = Value.ref a := ry
    obtain ⟨u0, r0, hz, hm⟩ := nD_map I g
    refine wpAny_notIn_of (nk_is rx) hz hm ?_
    refine ⟨_, H, I.tok _, ?_, q⟩
    cases k <;> rfl
theorem Rdb.dicV {K : PySem.W.Frag} {kvs : List (MV × MV)} {v : V} (h : Rdb K W H (.dic kvs) v) : ∃ a, v = .ref a ∧ ((∃ v m, kvs = [(.non, m)] ∧ H a = some (nD a v) ∧ Dat K W H m v) ∨ ((∃ ks, H a = some (.dK ks) ∧ Datp K W H kvs ks) ∨ ∃ ks, H a = some (.dT ks) ∧ Datt K W H kvs ks)) := by
  rcases h with h | ⟨a, rfl, _, o, h, d⟩
  · cases h with
    | dn n h d => exact ⟨_, rfl, .inl ⟨_, _, rfl, h, d⟩⟩
    | dk n h d => exact ⟨_, rfl, .inr (.inl ⟨_, h, d⟩)⟩
    | dt n h d => exact ⟨_, rfl, .inr (.inr ⟨_, h, d⟩)⟩
  · cases d with
    | dk d => exact ⟨a, rfl, .inr (.inl ⟨_, h, d⟩)⟩
    | dt d => exact ⟨a, rfl, .inr (.inr ⟨_, h, d⟩)⟩
/-- keys that are not tuples -/
def flatKs (kvs : List (MV × MV)) : Bool := kvs.all fun p => isKey p.1
def gInDic (neg : Bool) (m n : MV) : Option RV := match n with
  | .dic kvs => if isKey m = true ∧ kvs ≠ [] ∧ flatKs kvs = true then some (.v (.bl (if neg then !(dGet kvs m).isSome else (dGet kvs m).isSome))) else none
  | _ => none
theorem not_flat {K : PySem.W.Frag} {kvs : List (MV × MV)} {ks : List (List Key × V)} (d : Datt K W H kvs ks) (h : kvs ≠ []) : flatKs kvs = false := by
  cases d with
  | nil => exact absurd rfl h
  | cons d r => rfl
theorem ok_inDic (neg : Bool) : OpOk X T (rInDic neg) (gInDic neg) := by
  intro G pin W σ H ρ m n x y rv Q r hm hn e k
  unfold gInDic at e
  split at e
  · rename_i kvs
    split at e
    · rename_i hk
      obtain ⟨hk, h0, hf⟩ := hk
      cases e
      have fin := k.fin r (.bl _)
      obtain ⟨a, rfl, ⟨v, m0, rfl, ha, dv⟩ | ⟨ks, ha, dv⟩ | ⟨ks, ha, dv⟩⟩ := hn.dicV
      · refine .inr (.inr ?_)
        rcases isKey_nk hm hk with ⟨rfl, rfl⟩ | ⟨j, rfl, rfl⟩
        · exact ⟨a, v, none, rfl, rfl, ha, by simpa [dGet, keyEq] using fin⟩
        · refine ⟨a, v, some j, rfl, rfl, ha, ?_⟩
          have : keyEq .non (kM j) = false := by cases j <;> rfl
          simpa [dGet, this] using fin
      · rcases isKey_nk hm hk with ⟨rfl, rfl⟩ | ⟨j, rfl, rfl⟩
        · refine .inr (.inl ⟨a, ks, rfl, rfl, .inl ha, ?_⟩)
          rw [dv.getN] at fin
          cases neg <;> simpa using fin
        · refine .inl ⟨a, valV ks j, rfl, DGet.k ha, ?_⟩
          rcases dv.get (k := j) with ⟨e1, e2⟩ | ⟨m', v', e1, e2, _⟩
          · rw [e1] at fin; rw [e2]; exact fin
          · rw [e1] at fin; rw [e2]; exact fin
      · rw [not_flat dv h0] at hf
        cases hf
    · cases e
  · cases e
/-- d[y] -/
def rIxDic : R2 := fun x y H Q => (∃ a v, x = .ref a ∧ DGet H a y (some v) ∧ Q v H) ∨ ∃ a v, x = .ref a ∧ y = .non ∧ H a = some (nD a v) ∧ Q v H
theorem ix_dic (hu : X.A.units + 1 < cLine) : IxR X rIxDic := by
  intro value slice pins s σ H x y v u Q I rx ry h hs
  have tail : ∀ {a : Addr}, v = .ref a → s.TypeIs v "dict" → wpAny (model X.prog X.w) X.A (getItem v u) (EP X pins σ Q) X.xe s → wpAny (model X.prog X.w) X.A (subscriptTail value slice v u) (EP X pins σ Q) X.xe s := fun {a} ev hT h2 => by
    unfold subscriptTail
    refine wpAny_bind ?_
    rw [getitemInPython_of_ne hT.not_modules]
    refine wpAny_bind (wpAny_specialOf hT PySem.F.slot_dict_getitem.lookup ?_)
    have fin : wpAny (model X.prog X.w) X.A (subscripted slice false v u) (fun r s₃ => wpAny (model X.prog X.w) X.A (letTemporaryGo value v r >>= fun _ => pure r) (EP X pins σ Q) X.xe s₃) X.xe s := by
      rw [hs]
      exact wpAny_operating (wpAny_mono h2 (fun r s₃ h₃ => wpAny_bind (wpAny_letTemporaryGo (wpAny_pure h₃))) fun _ _ x => x)
    first
      | exact wpAny_pure (wpAny_bind fin)
      | exact wpAny_bind (wpAny_pure (wpAny_bind fin))
      | exact wpAny_bind fin
  rcases h with ⟨a, w0, rfl, g, q⟩ | ⟨a, w0, rfl, rfl, g, q⟩
  · obtain rfl : v = Value.ref a := rx
    exact tail rfl (dict_typeIs I g) (d_getItem hu I g ry fun w' s3 I3 rw' => ⟨w0, H, I3, rw', q⟩)
  · obtain rfl : v = Value.ref a := rx
    obtain rfl : u = Value.none := ry
    obtain ⟨u0, r0, hz, hm⟩ := nD_map I g
    refine tail rfl hm.typeIs (wpAny_getItem_of (nk_is (k := none) rfl) hm (v := u0) rfl ?_)
    exact ⟨w0, H, I.tok _, r0, q⟩
def gIxDic (m n : MV) : Option RV := match m with
  | .dic kvs => if isKey n = true then (dGet kvs n).map .v else none
  | _ => none
theorem Datt.getK {K : PySem.W.Frag} {m : MV} (hm : isKey m = true) : ∀ {kvs : List (MV × MV)} {ks : List (List Key × V)}, Datt K W H kvs ks → dGet kvs m = none
  | _, _, .nil => rfl
  | _, _, .cons (k := j) d r => by
    rw [dGet]
    have : keyEq (.tup (j.map kM)) m = false := by cases m <;> rfl
    rw [this]
    exact Datt.getK hm r
theorem ok_ixDic : OpOk X T rIxDic gIxDic := by
  intro G pin W σ H ρ m n x y rv Q r hm hn e k
  unfold gIxDic at e
  split at e
  · rename_i kvs
    split at e
    · rename_i hk
      obtain ⟨a, rfl, ⟨v, m0, rfl, ha, dv⟩ | ⟨ks, ha, dv⟩ | ⟨ks, ha, dv⟩⟩ := hm.dicV
      · rcases isKey_nk hn hk with ⟨rfl, rfl⟩ | ⟨j, rfl, rfl⟩
        · have e' : some (RV.v m0) = some rv := by simpa [dGet, keyEq] using e
          cases e'
          exact .inr ⟨a, v, rfl, rfl, ha, k.fin r dv⟩
        · have : keyEq .non (kM j) = false := by cases j <;> rfl
          simp [dGet, this] at e
      · rcases isKey_nk hn hk with ⟨rfl, rfl⟩ | ⟨j, rfl, rfl⟩
        · rw [dv.getN] at e; cases e
        · rcases dv.get (k := j) with ⟨e1, e2⟩ | ⟨m', v', e1, e2, d'⟩
          · rw [e1] at e; cases e
          · rw [e1] at e
            cases e
            exact .inl ⟨a, v', rfl, e2 ▸ DGet.k ha, k.fin r d'⟩
      · rw [dv.getK hk] at e
        cases e
    · cases e
  · cases e
/-- both -/
def gOr (g g' : MV → MV → Option RV) (m n : MV) : Option RV := match g m n with
  | some r => some r
  | none => g' m n
theorem OpOk.or {r r' : R2} {g g' : MV → MV → Option RV} (h : OpOk X T r g) (h' : OpOk X T r' g') : OpOk X T (fun x y H Q => r x y H Q ∨ r' x y H Q) (gOr g g') := by
  intro G pin W σ H ρ m n x y rv Q rs hm hn e k
  unfold gOr at e
  split at e
  · rename_i rv' e'
    cases e
    exact .inl (h G pin W σ H ρ m n x y _ Q rs hm hn e' k)
  · exact .inr (h' G pin W σ H ρ m n x y rv Q rs hm hn e k)
theorem qe_ixA {e1 e2 : Expr} {f1 f2 : Rho → Res RV} {pos : Pos} (hu : X.A.units + 1 < cLine) (h1 : QE X T Wx e1 f1) (h2 : QE X T Wx e2 f2) (hs : PlainIx e2 := by exact fun _ _ => rfl) : QE X T Wx (.Subscript e1 e2 pos) (fOp (gOr gIx gIxDic) f1 f2) :=
  ⟨fun G pin => PE.imp (pe_ix (IxR.or ix_seq (ix_dic hu)) (h1.run G pin) (h2.run G pin) hs) (op_imp (ok_ix.or ok_ixDic) h1 h2 G pin (rel := rB))⟩
theorem op_inA (hu : X.A.units + 64 < cLine) : OpR X (compareOp .In) (fun x y H Q => (rInS false x y H Q ∨ rInD X.K false x y H Q) ∨ rInDic false x y H Q) := OpR.or (op_in hu) (op_inDic (by omega))
theorem op_ninA (hu : X.A.units + 64 < cLine) : OpR X (compareOp .NotIn) (fun x y H Q => (rInS true x y H Q ∨ rInD X.K true x y H Q) ∨ rInDic true x y H Q) := OpR.or (op_nin hu) (op_ninDic (by omega))
/-! ### {None: v} -/
theorem nD_ok {P : Program} {w : World} {H' : Hp} {h : Heap} {a : Addr} {v : V} {u : Value} (r : RelV v u) (hz : (a == sysModules) = false) (d : h.DictOf (noneKind P w) a [(none, u)]) : ObjOk P w H' h a (nD a v) := by
  obtain ⟨o, es, ep, ho, hx, hd, hk, hp, hn⟩ := d
  have he : es = #[⟨reduceHash 0xFCA86420, .none, u⟩] := by
    obtain ⟨l⟩ := es
    cases hp with
    | @cons e kv l' kvs h1 h2 r2 =>
      cases r2
      obtain ⟨hh, key, val⟩ := e
      obtain ⟨k', k1, k2⟩ := hk ⟨hh, key, val⟩ (by simp)
      have ek := nk_none h1
      simp only at ek h2 k1 k2
      subst ek h2
      cases k' with
      | some k' => exact absurd k1 (keyIs_none k')
      | none =>
        subst k2
        rfl
  subst he
  exact ⟨⟨u, o, ep, r, hz, ho, hx, hd⟩, ⟨o, ho⟩, fun h1 h2 ⟨u, o, ep, r, hz, ho, hx, hd⟩ k => ⟨u, o, ep, r, hz, k o ho, hx, hd⟩⟩
/-- {None: e} -/
def tDispN (te : TE) : TE := fun σ H Q => ∀ p, H p = none → te σ (upd H p (.dK [])) fun y H2 => H2 p = some (.dK []) ∧ Q (.ref p) (upd H2 p (nD p y))
theorem pe_dispN {pos p1 : Pos} {j : Nat} {e : Expr} {te : TE} (h : PE X e te) : PE X (.Dict [some (.Constant .none j p1)] [e] pos) (tDispN te) := by
  refine ⟨fun pins s σ H Q I q => ?_⟩
  have hn := I.hok.fresh (Nat.le_refl s.heap.objs.size)
  have I1 := I.laid (a := s.heap.objs.size) (o := .dK []) (h' := s.heap.push { cls := .type "dict", data := .dict #[] }) (t' := s.toks) (fun _ _ q => Heap.get?_push_of_some _ q) (Nat.le_refl _) (dk_empty s.heap I.big)
  have hps := pps_cons (pos := pos) (pe_non (X := X) (j := j) (pos := p1)) h pps_nil
  refine wpAny_Dict_walk (knd := noneKind X.prog X.w) rfl rfl (by simp) (by simp) (thn (hps.run pins _ σ _ (fun ps H2 => match ps with | [(.non, y)] => H2 s.heap.objs.size = some (.dK []) ∧ Q (.ref s.heap.objs.size) (upd H2 s.heap.objs.size (nD s.heap.objs.size y)) | _ => False) I1 ?_) fun ws s2 ⟨ps, H2, I2, rel, q2⟩ => ?_)
  · show te σ _ _
    exact q _ hn
  obtain ⟨y, eps, e2, q3⟩ : ∃ y, ps = [(.non, y)] ∧ H2 s.heap.objs.size = some (.dK []) ∧ Q (.ref s.heap.objs.size) (upd H2 s.heap.objs.size (nD s.heap.objs.size y)) := by
    split at q2
    · exact ⟨_, rfl, q2.1, q2.2⟩
    · exact q2.elim
  subst eps
  cases rel with
  | @cons a b as bs h1 t =>
    cases t
    obtain ⟨bk, bv⟩ := b
    obtain ⟨r1, r2⟩ := h1
    obtain rfl : bk = Value.none := r1
    obtain ⟨z, hd, vs0, r0, dd⟩ := dk_of I2.hok e2
    cases r0
    have dn : s2.heap.DictOf (noneKind X.prog X.w) s.heap.objs.size [] := by
      obtain ⟨o, es, ep, ho, hx, hdd, hk, hp, hn⟩ := dd
      have : es = #[] := by
        obtain ⟨l⟩ := es
        cases hp
        rfl
      subst this
      exact ⟨o, #[], ep, ho, hx, hdd, fun e he => by simp at he, .nil, List.nodup_nil⟩
    refine ⟨[(none, bv)], ⟨rfl, rfl, True.intro⟩, dn, fun h' dd' hs => ⟨.ref s.heap.objs.size, _, ?_, rfl, q3⟩⟩
    have he : ∃ q, h'.get? s.heap.objs.size = some q := let ⟨q, _, _, hq, _⟩ := dd'; ⟨q, hq⟩
    exact d_write I2 (by rw [e2]; exact True.intro) hs he (nD_ok r2 hd dd')
def fDispN (f : Rho → Res RV) : Rho → Res RV := fun ρ => (f ρ).bind fun a ρ1 => (shr ρ1 a).bind fun m ρ2 => .ok (.v (.dic [(.non, m)])) ρ2
theorem qe_dispN {pos p1 : Pos} {j : Nat} {e : Expr} {f : Rho → Res RV} (h : QE X T Wx e f) : QE X T Wx (.Dict [some (.Constant .none j p1)] [e] pos) (fDispN f) := by
  refine ⟨fun G pin => PE.imp (pe_dispN (te := fun σ H Q => ∃ G W ρ, RS X.K T G pin W σ H ρ ∧ Wp X T Wx G pin W σ H (rE X G σ) Q (f ρ)) (PE.anyG h pin)) fun σ H Q ⟨W, ρ, r, w⟩ p hp => ?_⟩
  have nGp : ¬ G p := fun g => r.ng hp (r.gok p g)
  have st0 : Step G W H (more W p) (upd H p (.dK [])) := step_newW r hp
  have hG : ∀ a, G a → more G p a := fun a g => .inl g
  have r0 : RS X.K T (more G p) pin (more W p) σ (upd H p (.dK [])) ρ := (r.newW hp).reguard (fun a => by rintro (g | rfl); exact .inl (r.gok a g); exact .inr rfl) fun i s a es os qs => by
    obtain ⟨ng, m, hO, _⟩ := r.own_at es os qs
    rintro (g | rfl)
    · exact ng g
    · exact r.ng hp hO.1
  refine ⟨more G p, more W p, ρ, r0, Wp.bindG hG (Wp.shift st0 w) fun a ρ1 W1 H1 v s1 r1 o1 w1 => ?_⟩
  have hp1 : H1 p = some (.dK []) := (s1.gd p _ (.inr rfl) upd_same (fun _ z => nomatch z)).1
  refine ⟨hp1, ?_⟩
  cases es : shr ρ1 a with
  | bad => rw [es] at w1; exact w1.elim
  | ex x ρ1' => rcases shr_cases ρ1 a with ⟨_, _, z⟩ | z <;> rw [es] at z <;> cases z
  | ok m ρ2 =>
    rw [es] at w1
    obtain ⟨W2, s2, r2, d2⟩ := shr_ok r1 o1 es
    have w2 := Wp.shift (s2.weaken hG) w1
    have wp : W2 p := r2.gok p (.inr rfl)
    -- p is laid down for good
    have st : Step G W2 H1 (less W2 p) (upd H1 p (nD p v)) :=
      ⟨fun b o e n _ => ⟨fun q => n q.1, by rw [upd_ne fun z : b = p => n (z ▸ wp)]; exact e⟩, fun b o g e _ => ⟨by rw [upd_ne fun z : b = p => nGp (z ▸ g)]; exact e, r2.gok b (.inl g), fun z => nGp (z ▸ g)⟩⟩
    have ne : ∀ (i : Nat) (s : Sl) (a : Addr), ρ2[i]? = some s → s.own = true → σ[i]? = some (some (V.ref a)) → a ≠ p := fun i s a es os qs z => (r2.own_at es os qs).1 (.inr z)
    have r3 : RS X.K T G pin (less W2 p) σ (upd H1 p (nD p v)) ρ2 := (r2.unguard hG).mono st (fun i t a e o q => by
      obtain ⟨_, m', hO, _⟩ := r2.own_at e o q
      exact ⟨⟨hO.1, ne i t a e o q⟩, upd_ne (ne i t a e o q)⟩) (fun a wa => by
        rw [upd_ne wa.2]
        exact r2.wok a wa.1) (fun q hq => by
        obtain ⟨ps, h1, h2, h3⟩ := r2.tabs.tb q hq
        refine ⟨ps, by rw [upd_ne (ne_of h1 hp1 (by intro z; cases z))]; exact h1, h2, fun pos cv hc => ?_⟩
        obtain ⟨c, e1, e2⟩ := h3 pos cv hc
        exact ⟨c, e1, by rw [upd_ne (ne_of e2 hp1 (by intro z; cases z))]; exact e2⟩)
    exact w2 _ _ (.ref p) st r3 (Dat.dn (fun q => q.2 rfl) upd_same (d2.keep st.keeps))
end
end DL
namespace DL
open PySem PySem.Spec PyProof.Rows L2 LamX
/-! ### a lambda with parameters, handed to a def as its last argument -/
structure LamP (sc scope : Scope) (N ps : List Str) : Prop where
  kind : scope.kind = .function
  co : scope.isCoroutine = false
  gen : scope.isGenerator = false
  own : ∀ y ∈ scope.names, y.2 ≠ .cell ∧ (y.2 = .local → y.1 ∈ ps)
  free : ∀ y ∈ scope.names, y.2 = .free → sc.names.lookup y.1 = some .cell ∨ sc.names.lookup y.1 = some .free
  par : ∀ y ∈ ps, scope.names.lookup y = some .local
  dis : ∀ y ∈ ps, y ∉ N
  nd : ps.Nodup
def lamPB (sc scope : Scope) (N ps : List Str) : Bool :=
  decide (scope.kind = .function) && !scope.isCoroutine && !scope.isGenerator && (scope.names.all fun y => !decide (y.2 = .cell) && (!decide (y.2 = .local) || decide (y.1 ∈ ps)) && (!decide (y.2 = .free) || decide (sc.names.lookup y.1 = some .cell) || decide (sc.names.lookup y.1 = some .free))) &&
    (ps.all fun y => decide (scope.names.lookup y = some .local) && decide (y ∉ N)) && decide ps.Nodup
theorem lamP_by {sc scope : Scope} {N ps : List Str} (h : lamPB sc scope N ps = true) : LamP sc scope N ps := by
  unfold lamPB at h
  simp only [Bool.and_eq_true, Bool.or_eq_true, Bool.not_eq_true', decide_eq_true_eq, decide_eq_false_iff_not, List.all_eq_true] at h
  obtain ⟨⟨⟨⟨⟨h1, h2⟩, h3⟩, h4⟩, h5⟩, h6⟩ := h
  refine ⟨h1, h2, h3, fun y hy => ⟨(h4 y hy).1.1, fun e => ?_⟩, fun y hy e => ?_, fun y hy => (h5 y hy).1, fun y hy => (h5 y hy).2, h6⟩
  · rcases (h4 y hy).1.2 with z | z
    · exact absurd e z
    · exact z
  · rcases (h4 y hy).2 with (z | z) | z
    · exact absurd e z
    · exact .inl z
    · exact .inr z
/-- the context of the lambda's body, entered at s from the frames outer -/
def lamCxP (X : Cx) (ps : List Str) (A : Around) (outer : List Env) (s : Shared) (H : Hp) (E : XK) (scope : Scope) (f c' : Addr) : Cx where
  prog := X.prog
  w := X.w
  K := X.K
  mg := X.mg
  base := X.base
  A := A.deeper (lamEnv X scope s.heap.objs.size f c')
  N := X.N ++ ps
  s_0 := s
  H_0 := H
  env := lamEnv X scope s.heap.objs.size f c'
  outer := outer
  stack := lamEnv X scope s.heap.objs.size f c' :: outer
  ex := []
  fn := fun _ => false
  calm := true
  pn := []
  xe := fun e s' => wpAny (model X.prog X.w) (A.deeper (lamEnv X scope s.heap.objs.size f c')) (leaving (lamEnv X scope s.heap.objs.size f c') e) (fun _ s'' => L2.CX X.prog X.w outer H s E e s'') (fun e' s'' => L2.CX X.prog X.w outer H s E e' s'') s'
theorem lookup_nodup {β : Type} : ∀ {l : List (Str × β)} {x : Str} {b : β}, (l.map (·.1)).Nodup → (x, b) ∈ l → l.lookup x = some b
  | (y, c) :: l, x, b, hn, h => by
    rw [List.map_cons, List.nodup_cons] at hn
    rw [List.lookup_cons]
    rcases List.mem_cons.mp h with e | h'
    · cases e
      simp
    · have ne : (x == y) = false := by
        rw [beq_eq_false_iff_ne]
        intro e
        subst e
        exact hn.1 (List.mem_map.mpr ⟨(x, b), h', rfl⟩)
      rw [ne]
      exact lookup_nodup hn.2 h'
theorem zip_look {ps : List Str} {us : List Value} {j : Nat} {y : Str} {u : Value} (hn : ps.Nodup) (hl : us.length = ps.length) (h1 : ps[j]? = some y) (h2 : us[j]? = some u) : (ps.zip us).reverse.lookup y = some u := by
  apply lookup_nodup
  · rw [List.map_reverse]
    have : (ps.zip us).map (·.1) = ps := by rw [List.map_fst_zip (by omega)]
    rw [this]
    exact List.pairwise_reverse.mpr (hn.imp fun h => Ne.symm h)
  · rw [List.mem_reverse]
    apply List.mem_of_getElem? (i := j)
    rw [List.getElem?_zip_eq_some]
    exact ⟨h1, h2⟩
section
variable {X : Cx} {pins : List (Addr × Obj)} {σ : L2.St} {H HZ : Hp} {s s1 : Shared} {ps : List Str}
theorem LamP.has {scope : Scope} (L : LamP X.env.scope scope X.N ps) (ok : X.Ok) : ∀ y ∈ scope.names, y.2 = .free → ∃ c, X.env.cells.lookup y.1 = some c := fun y hy e => by
  rcases L.free y hy e with k | k
  · exact ok.has _ (.inl k)
  · exact ok.has _ (.inr k)
theorem lam_startP {A : Around} {outer : List Env} {E : XK} {scope : Scope} {f c' : Addr} {h₁ : Heap} {tk : Nat} {us : List Value} {vs : List V} (I : Inv X pins σ H s) (L : LamP X.env.scope scope X.N ps) (e0 : Env0 X.prog X.w X.K X.mg X.base A outer s1 HZ) (hd : A.handled = none)
    (un : Un (frs X.stack) [] H HZ s.heap s1.heap) (r : Vals vs us) (hl : us.length = ps.length) (hns : h₁.Ns s1.heap.objs.size fun y => (ps.zip us).reverse.lookup y) (kp : ∀ b o, s1.heap.get? b = some o → h₁.get? b = some o) :
    Inv (lamCxP X ps A outer s1 HZ E scope f c') [] (σ ++ vs.map some) HZ { s1 with heap := h₁, toks := tk } := by
  have hfree := L.has I.ok
  have cm : ∀ {y c}, (cloFrom X.env.cells scope.names []).lookup y = some c → X.env.cells.lookup y = some c := fun {y c} e => by
    rcases cloFrom_mem (PySem.mem_of_lookup e) with hm | ⟨h1, h2⟩
    · cases hm
    · obtain ⟨c1, hc⟩ := hfree _ h1 rfl
      have hc : X.env.cells.lookup y = some c1 := hc
      have e2 : c = c1 := by
        rw [h2, hc] <;> rfl
      rw [e2]
      exact hc
  have look : ∀ {y}, scope.names.lookup y = some .free → ∃ c, (cloFrom X.env.cells scope.names []).lookup y = some c := fun {y} hl => by
    have hy : (y, NameKind.free) ∈ scope.names := PySem.mem_of_lookup hl
    exact mem_lookup (cloFrom_has (cells := X.env.cells) (acc := []) hy)
  have cellK : ∀ {c : Addr} {v : Option Value}, H c = none → s.heap.IsCell c v → h₁.IsCell c v := fun {c v} n ⟨o, ho, hd⟩ => by
    obtain ⟨sl, q⟩ := un.any ho n (by simp)
    exact ⟨_, kp _ _ q, hd⟩
  have noA : ∀ b : Addr, b ∉ (lamCxP X ps A outer s1 HZ E scope f c').ex := fun b z => absurd (show b ∈ ([] : List Addr) from z) (by simp)
  have hlv : vs.length = ps.length := r.length.trans hl
  refine ⟨⟨e0.mod, L.kind, rfl, rfl, Nat.le_refl _, fun y z c e1 e2 => I.ok.inj y z c (cm e1) (cm e2), fun y hy => ?_, fun y c z _ => ?_, fun _ => hd, Around.frames_deeper e0.frames, .inr ⟨rfl, rfl⟩, fun b z => absurd z (noA b), e0.bs, e0.bsz, fun b _ _ => noA b,
      fun b z => absurd z (noA b), e0.funs, e0.frf⟩,
    rfl, e0.bare, Un.kept kp, ⟨_, hns, fun i y v e1 e2 e3 => ?_⟩, fun y c e => ?_, e0.hok.fresh (Nat.le_refl _), fun y c e => ?_, fun q hq => absurd (show q ∈ ([] : List (Addr × Obj)) ++ [] from hq) (by simp), e0.hok.kept kp, ?_⟩
  · have hy : scope.names.lookup y = some .cell ∨ scope.names.lookup y = some .free := hy
    rcases hy with hy | hy
    · exact absurd rfl (L.own _ (PySem.mem_of_lookup hy)).1
    · exact look hy
  · have z : false = true := z
    cases z
  · have e3 : Vis scope y := e3
    have e1 : (X.N ++ ps)[i]? = some y := e1
    by_cases hi : i < X.N.length
    · rw [List.getElem?_append_left hi] at e1
      rw [List.getElem?_append_left (by rw [I.len]; exact hi)] at e2
      have hyN : y ∈ X.N := List.mem_of_getElem? e1
      rcases e3 with k | k | k
      · exact absurd hyN (L.dis y ((L.own _ (PySem.mem_of_lookup k)).2 rfl))
      · exact absurd rfl (L.own _ (PySem.mem_of_lookup k)).1
      · obtain ⟨m, hn, hl⟩ := I.loc
        have hvis : Vis X.env.scope y := (L.free _ (PySem.mem_of_lookup k) rfl).elim (fun k => .inr (.inl k)) (fun k => .inr (.inr k))
        obtain ⟨w', r, q⟩ := hl i y v e1 e2 hvis
        obtain ⟨c2, h2⟩ := look k
        refine ⟨w', r, .inr ⟨.inr k, c2, h2, ?_⟩⟩
        have c1 := cm h2
        rcases q with ⟨k', _⟩ | ⟨_, c3, e', z⟩
        · have k' : X.env.scope.names.lookup y = some .local := k'
          rcases L.free _ (PySem.mem_of_lookup k) rfl with k2 | k2 <;> rw [show X.env.scope.names.lookup y = _ from k2] at k' <;> cases k'
        · rw [c1] at e'
          cases e'
          exact cellK (I.freeC y _ c1) z
    · rw [List.getElem?_append_right (by omega)] at e1
      rw [List.getElem?_append_right (by rw [I.len]; omega), I.len, List.getElem?_map] at e2
      cases ev : vs[i - X.N.length]? with
      | none => rw [ev] at e2; cases e2
      | some v' =>
        rw [ev] at e2
        cases e2
        obtain ⟨u, hu, ru⟩ := r.get ev
        exact ⟨u, ru, .inl ⟨L.par y (List.mem_of_getElem? e1), zip_look L.nd hl e1 hu⟩⟩
  · obtain ⟨w', z⟩ := I.cell y c (cm e)
    exact ⟨w', cellK (I.freeC y c (cm e)) z⟩
  · obtain ⟨v, o, ho, hd⟩ := I.cell y c (cm e)
    exact un.free c o ho (I.freeC y c (cm e)) (by simp)
  · show (σ ++ vs.map some).length = (X.N ++ ps).length
    rw [List.length_append, List.length_append, List.length_map, I.len, hlv]
/-- x(e, ..), in the def that got the lambda -/
theorem pe_actP {CXg : CXT} {Eg : XK} {Ng : List Str} {qg : Str} {sg : Scope} {g f c' : Addr} {cdg pm ctv : Value} {params : Arguments} {body : Expr} {scope : Scope} {k i : Nat} {a : Str} {pn : List (Addr × Obj)} {xe : Value → Shared → Prop} {W : WX} {E : XK} {tb : TE} {p1 p2 : Pos} {e : Expr} {es : List Expr} {ta : TA}
    (I : Inv X pins σ H s) (L : LamP X.env.scope scope X.N ps) (hf : s.heap.get? f = some (PySem.W.kla_obj "<lambda>" (X.env.qual ++ "<lambda>") params body scope (cloFrom X.env.cells scope.names []) pm c' ctv)) (hfn : H f = none) (hfr : f ∉ frs X.stack)
    (hbind : ∀ us : List Value, us.length = ps.length → bindArgs (PySem.W.kla_fn "<lambda>" (X.env.qual ++ "<lambda>") params body scope (cloFrom X.env.cells scope.names []) pm (.ref c') ctv) ⟨us, []⟩ = pure (ps.zip us))
    (tk : Takes ((cxOf CXg X.prog X.w X.K X.mg X.base Ng qg sg g cdg X.A X.stack s H Eg).tr pn xe) W) (hW : ∀ cls d σ' H', E cls d H' → W cls d σ' H') (hr : Room (k + 1) (X.A.deeper (envOfC qg sg s.heap.objs.size g cdg)))
    (hbody : ∀ (A : Around) (outer : List Env) (s : Shared) (H : Hp), Room k (A.deeper (lamEnv X scope s.heap.objs.size f c')) → PE (lamCxP X ps A outer s H E scope f c') body tb)
    (ha : PA ((cxOf CXg X.prog X.w X.K X.mg X.base Ng qg sg g cdg X.A X.stack s H Eg).tr pn xe) (e :: es) ta)
    (hN : Ng[i]? = some a) (hv : Vis sg a) (hd : (a == ("__debug__" : Str)) = false := by decide) (hcd : (a == ("__classdict__" : Str)) = false := by decide)
    (he : starEach (e :: es) (envOfC qg sg s.heap.objs.size g cdg) = (false, eval e (envOfC qg sg s.heap.objs.size g cdg)) :: starEach es (envOfC qg sg s.heap.objs.size g cdg) := by rfl) (hpl : (backTo p2 (starEach es (envOfC qg sg s.heap.objs.size g cdg))).any (·.1) = false := by rfl) :
    PE ((cxOf CXg X.prog X.w X.K X.mg X.base Ng qg sg g cdg X.A X.stack s H Eg).tr pn xe) (.Call (.Name a p1) (e :: es) [] p2)
      (fun σZ HZ Q => σZ[i]? = some (some (.ref f)) ∧ ta σZ HZ fun vs H1 => vs.length = ps.length ∧ H1 c' = some (CodeO c' (X.env.qual ++ "<lambda>")) ∧ tb (σ ++ vs.map some) H1 Q) := by
  refine ⟨fun pinsZ sZ σZ HZ Q IZ h => ?_⟩
  obtain ⟨hs, hta⟩ := h
  refine wpAny_Call_Name_kw (thn ((pe_var (pos := p1) (i := i) hN hv hd hcd).run pinsZ sZ σZ HZ (fun v H1 => v = .ref f ∧ H1 = HZ) IZ ⟨.ref f, hs, rfl, rfl⟩) fun u s0 ⟨v, H0, I0, r0, q0⟩ => ?_)
  obtain ⟨ev, eH⟩ := q0
  subst ev
  rw [eH] at I0
  obtain rfl : u = Value.ref f := r0
  have fAt : ∀ {σ1 : L2.St} {H1 : Hp} {s1 : Shared} {pins1 : List (Addr × Obj)}, Inv ((cxOf CXg X.prog X.w X.K X.mg X.base Ng qg sg g cdg X.A X.stack s H Eg).tr pn xe) pins1 σ1 H1 s1 → s1.heap.get? f = some (PySem.W.kla_obj "<lambda>" (X.env.qual ++ "<lambda>") params body scope (cloFrom X.env.cells scope.names []) pm c' ctv) :=
    fun I1 => I1.base.keep f _ hf hfn hfr (fun z => nomatch (show f ∈ ([] : List Addr) from z))
  refine PySem.W.callWith_F ⟨_, _, _, _, fAt I0⟩ (thn (ha.run p2 pinsZ s0 σZ HZ _ I0 hta) fun us s1 ⟨vs, H1, I1, rv, hlen, hc, ht⟩ => ?_) he hpl
  refine ⟨⟨_, _, _, _, fAt I1⟩, ?_⟩
  have hlu : us.length = ps.length := rv.length.symm.trans hlen
  have un : Un (frs X.stack) [] H H1 s.heap s1.heap := I1.base
  obtain ⟨⟨oc, vs', t, hoc, hdc, hvc⟩, _, _⟩ := I1.hok c' _ hc
  have rc : codeAny (model X.prog X.w) (X.A.deeper (envOfC qg sg s.heap.objs.size g cdg)) (.call (.ref f) ⟨us, []⟩) (CR (L2.CX X.prog X.w) (envOfC qg sg s.heap.objs.size g cdg :: X.stack) X.prog X.w H1 s1 Q E) s1 := by
    refine PySem.W.kla_callFunE hr.depth (fAt I1) rfl L.co L.gen rfl ⟨c', oc, vs', t, rfl, hoc, hdc, hvc⟩ ?_
    rw [hbind us hlu]
    refine wpAny_pure (wpAny_newFunctionEnv (fun y hy => (L.own y hy).1) (fun y hy => L.par y.1 (List.of_mem_zip hy).1) (fun h₁ hns hsb => ⟨I1.nolimit.fresh _ hsb, ?_⟩) L.kind)
    show codeAny _ _ (.expr body (lamEnv X scope s1.heap.objs.size f c')) _ _
    have kp : ∀ b o, s1.heap.get? b = some o → h₁.get? b = some o := fun b o e => hsb.extBut b o (Nat.ne_of_lt (Heap.lt_size e)) (Heap.get?_push_of_some _ e)
    have J : Inv (lamCxP X ps (X.A.deeper (envOfC qg sg s.heap.objs.size g cdg)) (envOfC qg sg s.heap.objs.size g cdg :: X.stack) s1 H1 E scope f c') [] (σ ++ vs.map some) H1 { s1 with heap := h₁, toks := s1.toks + (ps.zip us).length } :=
      lam_startP I L I1.env0 hr.hd un rv hlu hns kp
    refine PySem.W.kla_codeExpr (wpAny_mono ((hbody _ _ s1 H1 (hr.deeper _)).run [] _ _ H1 Q J ht) (fun v s' hq => ?_) fun e s' hq => hq)
    obtain ⟨w', H', J', rv, q⟩ := hq
    exact ⟨w', H', J'.os, J'.bare, J'.base, J'.hok, rv, q⟩
  have hx : Passes (L2.CX X.prog X.w) ((cxOf CXg X.prog X.w X.K X.mg X.base Ng qg sg g cdg X.A X.stack s H Eg).tr pn xe) E := passes_call tk hW
  refine wpAny_call (codeAny_mono rc fun r s' hq => ?_)
  cases r with
  | error e => exact hx pinsZ σZ H1 s1 e s' I1 hq
  | ok fl =>
    cases fl with
    | ret u => exact I1.after hq
    | next => exact False.elim hq
    | brk => exact False.elim hq
    | cont => exact False.elim hq
end
end DL
namespace DL
open PySem PySem.Spec PyProof.Rows L2 LamX
section
variable {X : Cx} {T : Tb} {Wx : WX} {G : AP} {pin : Nat → Option Addr} {W W' : AP} {σ : L2.St} {H H' : Hp} {ρ ρ' : Rho}
/-- what a lambda sees of the slots -/
def capR (ρ : Rho) : Rho := ρ.map fun s => match s with
  | .sh m => .sh m
  | _ => .no
theorem capR_at {ρ : Rho} {j : Nat} {s : Sl} (h : (capR ρ)[j]? = some s) : s = .no ∨ ∃ m, s = .sh m ∧ ρ[j]? = some (.sh m) := by
  unfold capR at h
  rw [List.getElem?_map] at h
  cases e : ρ[j]? with
  | none => rw [e] at h; cases h
  | some t =>
    rw [e] at h
    cases t with
    | sh m => cases h; exact .inr ⟨m, rfl, rfl⟩
    | no => cases h; exact .inl rfl
    | ow m => cases h; exact .inl rfl
    | io m => cases h; exact .inl rfl
/-- what a lambda with the body fb gives of its arguments -/
def lamV (fb : Rho → Res RV) (ρ0 : Rho) (n : Nat) (ms : List MV) : Option MV := if ms.length = n then match fb (capR ρ0 ++ ms.map .sh) with
    | .ok a ρ1 => match shr ρ1 a with
      | .ok m _ => some m
      | _ => none
    | _ => none
  else none
/-- a call of what the slot i holds: the thing at f, which gives φ -/
def fAct (i : Nat) (f : Addr) (φ : List MV → Option MV) (fa : Rho → Res (List RV)) : Rho → Res RV := fun ρ => match ρ[i]? with
  | some (.sh (.fn f')) => if f' = f then (fa ρ).bind fun as ρ1 => (shrs ρ1 as).bind fun ms ρ2 => match φ ms with
      | some m => .ok (.v m) ρ2
      | none => .bad
    else .bad
  | _ => .bad
theorem Dats.shs {K : PySem.W.Frag} {ms : List MV} {vs : List V} (d : Dats K W H ms vs) : ∀ (j : Nat) (s : Sl), (ms.map Sl.sh)[j]? = some s → ∃ m v, s = .sh m ∧ vs[j]? = some v ∧ Dat K W H m v := fun j s h => by
  rw [List.getElem?_map] at h
  cases e : ms[j]? with
  | none => rw [e] at h; cases h
  | some m =>
    rw [e] at h
    cases h
    obtain ⟨v, h1, h2⟩ := d.get e
    exact ⟨m, v, rfl, h1, h2⟩
/-- the slots of a lambda's body at its call -/
theorem lam_rs {K : PySem.W.Frag} {pin' : Nat → Option Addr} {σZ σ0 : L2.St} {ρZ ρ0 : Rho} {ms : List MV} {vs : List V} (r : RS K T G pin W σZ H ρZ) (hcap : ∀ (j : Nat) (m : MV), ρ0[j]? = some (Sl.sh m) → ∃ v : V, σ0[j]? = some (some v) ∧ (v, m) ∈ T.vs) (hlen : ρ0.length = σ0.length) (d : Dats K W H ms vs) :
    RS K T W pin' W (σ0 ++ vs.map some) H (capR ρ0 ++ ms.map Sl.sh) := by
  have hc : (capR ρ0).length = σ0.length := by unfold capR; rw [List.length_map]; exact hlen
  have noown : ∀ (j : Nat) (s : Sl), (capR ρ0 ++ ms.map Sl.sh)[j]? = some s → s.own = true → False := fun j s h o => by
    by_cases hj : j < (capR ρ0).length
    · rw [List.getElem?_append_left hj] at h
      rcases capR_at h with rfl | ⟨m, rfl, _⟩ <;> cases o
    · rw [List.getElem?_append_right (by omega)] at h
      obtain ⟨m, v, rfl, _⟩ := d.shs _ _ h
      cases o
  refine ⟨by rw [List.length_append, List.length_append, List.length_map, List.length_map, hc, d.length], fun j s h => ?_, fun i j s t a ei ej oi => (noown i s ei oi).elim, r.wok, fun a h => h, r.tabs⟩
  by_cases hj : j < (capR ρ0).length
  · rw [List.getElem?_append_left hj] at h
    rcases capR_at h with rfl | ⟨m, rfl, e⟩
    · trivial
    · obtain ⟨v, h1, h2⟩ := hcap j m e
      exact ⟨v, by rw [List.getElem?_append_left (by omega)]; exact h1, r.tabs.vs _ h2⟩
  · rw [List.getElem?_append_right (by omega)] at h
    obtain ⟨m, v, rfl, h1, h2⟩ := d.shs _ _ h
    refine ⟨v, ?_, h2⟩
    rw [List.getElem?_append_right (by omega), ← hc, List.getElem?_map, h1] <;> rfl
abbrev noE : XK := fun _ _ _ => False
theorem qe_act {pins : List (Addr × Obj)} {s : Shared} {CXg : CXT} {Eg : XK} {Ng : List Str} {qg : Str} {sg : Scope} {g f c' : Addr} {cdg pm ctv : Value} {params : Arguments} {body : Expr} {scope : Scope} {ps : List Str} {k i : Nat} {a : Str} {pn : List (Addr × Obj)} {xe : Value → Shared → Prop} {p1 p2 : Pos} {e : Expr} {es : List Expr} {fb : Rho → Res RV} {fa : Rho → Res (List RV)} {T' : Tb} {ρ0 : Rho}
    (I : Inv X pins σ H s) (L : LamP X.env.scope scope X.N ps) (hf : s.heap.get? f = some (PySem.W.kla_obj "<lambda>" (X.env.qual ++ "<lambda>") params body scope (cloFrom X.env.cells scope.names []) pm c' ctv)) (hfn : H f = none) (hfr : f ∉ frs X.stack)
    (hbind : ∀ us : List Value, us.length = ps.length → bindArgs (PySem.W.kla_fn "<lambda>" (X.env.qual ++ "<lambda>") params body scope (cloFrom X.env.cells scope.names []) pm (.ref c') ctv) ⟨us, []⟩ = pure (ps.zip us))
    (tk : Takes ((cxOf CXg X.prog X.w X.K X.mg X.base Ng qg sg g cdg X.A X.stack s H Eg).tr pn xe) Wx) (hr : Room (k + 1) (X.A.deeper (envOfC qg sg s.heap.objs.size g cdg)))
    (hbody : ∀ (A : Around) (outer : List Env) (s : Shared) (H : Hp), Room k (A.deeper (lamEnv X scope s.heap.objs.size f c')) → QE (lamCxP X ps A outer s H noE scope f c') T' noX body fb)
    (hcd : (c', X.env.qual ++ "<lambda>") ∈ T'.cd) (hcap : ∀ (j : Nat) (m : MV), ρ0[j]? = some (Sl.sh m) → ∃ v : V, σ[j]? = some (some v) ∧ (v, m) ∈ T'.vs) (hlen : ρ0.length = σ.length)
    (ha : QA ((cxOf CXg X.prog X.w X.K X.mg X.base Ng qg sg g cdg X.A X.stack s H Eg).tr pn xe) T' Wx (e :: es) fa)
    (hN : Ng[i]? = some a) (hv : Vis sg a) (hd : (a == ("__debug__" : Str)) = false := by decide) (hcdc : (a == ("__classdict__" : Str)) = false := by decide)
    (he : starEach (e :: es) (envOfC qg sg s.heap.objs.size g cdg) = (false, eval e (envOfC qg sg s.heap.objs.size g cdg)) :: starEach es (envOfC qg sg s.heap.objs.size g cdg) := by rfl) (hpl : (backTo p2 (starEach es (envOfC qg sg s.heap.objs.size g cdg))).any (·.1) = false := by rfl) :
    QE ((cxOf CXg X.prog X.w X.K X.mg X.base Ng qg sg g cdg X.A X.stack s H Eg).tr pn xe) T' Wx (.Call (.Name a p1) (e :: es) [] p2) (fAct i f (lamV fb ρ0 ps.length) fa) := by
  refine ⟨fun G pin => PE.imp (pe_actP (tb := fun σ H Q => ∃ G W ρ, RS X.K T' G pin W σ H ρ ∧ Wp X T' noX G pin W σ H (rE X G σ) Q (fb ρ)) I L hf hfn hfr hbind tk (E := noE) (fun _ _ _ _ z => z.elim) hr
    (fun A outer s H hr => ⟨fun pins s σ H Q I ⟨G, w⟩ => ((hbody A outer _ _ hr).run G pin).run pins s σ H Q I w⟩) (ha.run G pin) hN hv hd hcdc he hpl) fun σZ HZ Q ⟨WZ, ρ, r, w⟩ => ?_⟩
  unfold fAct at w
  split at w
  · rename_i f' ef
    split at w
    · rename_i eff
      subst eff
      obtain ⟨v0, hv0, dv0⟩ := r.sl i _ ef
      have ev0 : v0 = .ref f' := by cases dv0; rfl
      subst ev0
      refine ⟨hv0, WZ, ρ, r, Wp.bind w fun as ρ1 W1 H1 vs s1 r1 o1 w1 => ?_⟩
      cases es : shrs ρ1 as with
      | bad => rw [es] at w1; exact w1.elim
      | ex x ρ2 => exact absurd es shrs_noex
      | ok ms ρ2 =>
        rw [es] at w1
        obtain ⟨W2, s2, r2, d2⟩ := shrs_ok r1 o1 es
        have w2 := Wp.shift s2 w1
        simp only [Res.bind] at w2
        cases eφ : lamV fb ρ0 ps.length ms with
        | none => rw [eφ] at w2; exact w2.elim
        | some m =>
          rw [eφ] at w2
          simp only at w2
          unfold lamV at eφ
          split at eφ
          · rename_i hml
            have rl := lam_rs (pin' := pin) r2 hcap hlen d2
            refine ⟨by rw [← d2.length]; exact hml, (r2.tabs.cd _ hcd).2, W2, W2, _, rl, ?_⟩
            cases efb : fb (capR ρ0 ++ ms.map Sl.sh) with
            | bad => rw [efb] at eφ; cases eφ
            | ex x ρ3 => rw [efb] at eφ; cases eφ
            | ok a ρ3 =>
              rw [efb] at eφ
              simp only at eφ
              intro W3 H3 b s3 r3 o3
              rcases shr_cases ρ3 a with ⟨m', ρ4, e4⟩ | e4
              · rw [e4] at eφ
                cases eφ
                obtain ⟨W4, s4, r4, d4⟩ := shr_ok r3 o3 e4
                have st := (s3.trans s4).weaken (G := G) r2.gok
                refine w2 W4 H3 b st (r2.mono st (fun j t c e o q => ?_) r4.wok r4.tabs.tb) d4
                obtain ⟨_, m'', hO, _⟩ := r2.own_at e o q
                obtain ⟨o', ho', mo⟩ := r2.wok c hO.1
                obtain ⟨q1, q2⟩ := (s3.trans s4).gd c o' hO.1 ho' mo.1
                exact ⟨q2, q1.trans ho'.symm⟩
              · rw [e4] at eφ
                cases eφ
          · cases eφ
    · exact w.elim
  · exact w.elim
end
end DL
namespace DL
open PySem PySem.Spec PyProof.Rows L2 LamX
/-- a name in a slot that can be called: the thing at f, which gives φ -/
structure Act (Z : Cx) (T : Tb) (Wz : WX) (a : Str) (i : Nat) (f : Addr) (φ : List MV → Option MV) : Prop where
  run : ∀ {e : Expr} {es : List Expr} {p1 p2 : Pos} {fa : Rho → Res (List RV)}, QA Z T Wz (e :: es) fa → (starEach (e :: es) Z.env = (false, eval e Z.env) :: starEach es Z.env) → ((backTo p2 (starEach es Z.env)).any (·.1) = false) → QE Z T Wz (.Call (.Name a p1) (e :: es) [] p2) (fAct i f φ fa)
theorem qe_actC {Z : Cx} {T : Tb} {Wz : WX} {a : Str} {i : Nat} {f : Addr} {φ : List MV → Option MV} {e : Expr} {es : List Expr} {p1 p2 : Pos} {fa : Rho → Res (List RV)} (A : Act Z T Wz a i f φ) (ha : QA Z T Wz (e :: es) fa)
    (he : starEach (e :: es) Z.env = (false, eval e Z.env) :: starEach es Z.env := by rfl) (hpl : (backTo p2 (starEach es Z.env)).any (·.1) = false := by rfl) : QE Z T Wz (.Call (.Name a p1) (e :: es) [] p2) (fAct i f φ fa) := A.run ha he hpl
section
variable {X : Cx} {T : Tb} {Wx : WX} {G : AP} {pin : Nat → Option Addr} {W W' : AP} {σ : L2.St} {H H' : Hp} {ρ ρ' : Rho}
inductive QL (X : Cx) (T : Tb) (Wx : WX) : List Expr → List (Rho → Res RV) → Prop
  | nil : QL X T Wx [] []
  | cons {e : Expr} {es : List Expr} {f : Rho → Res RV} {fs : List (Rho → Res RV)} : QE X T Wx e f → QL X T Wx es fs → QL X T Wx (e :: es) (f :: fs)
def fList : List (Rho → Res RV) → Rho → Res (List RV)
  | [] => fNil
  | f :: fs => fCons f (fList fs)
theorem spl {G : AP} {pin : Nat → Option Addr} {tail : List (Bool × Sem Value)} : ∀ {es : List Expr} {fs : List (Rho → Res RV)}, QL X T Wx es fs → ∀ {pins : List (Addr × Obj)} {s : Shared} {σ : L2.St} {H : Hp} {W : AP} {ρ : Rho} {Qf : List Value → Shared → Prop} {Qd : List V → Hp → Prop}, Inv X pins σ H s → RS X.K T G pin W σ H ρ →
    Wp X T Wx G pin W σ H (rA X G σ) Qd (fList fs ρ) → (∀ us s1 vs H1, Inv X pins σ H1 s1 → Vals vs us → Qd vs H1 → wpAny (model X.prog X.w) X.A (spliced tail) (fun us2 s2 => Qf (us ++ us2) s2) X.xe s1) →
    wpAny (model X.prog X.w) X.A (spliced (es.map (fun e => (false, eval e X.env)) ++ tail)) Qf X.xe s
  | _, _, .nil, pins, s, σ, H, W, ρ, Qf, Qd, I, r, w, k => k [] s [] H I .nil (w W H [] (Step.refl _ _ _ r.gok) r .nil)
  | _, _, .cons (f := f) (fs := fs) h hs, pins, s, σ, H, W, ρ, Qf, Qd, I, r, w, k => by
    refine Calls.spliced_cons (thn ((h.run G pin).run pins s σ H (fun v H1 => ∃ W1 ρ1 a, RS X.K T G pin W1 σ H1 ρ1 ∧ RvOk X.K G W1 σ H1 ρ1 (hold a) v ∧ Wp X T Wx G pin W1 σ H1 (rA X G σ) Qd ((fList fs ρ1).bind fun as ρ2 => .ok (hold a :: as) ρ2)) I ⟨W, ρ, r, ?_⟩) fun u s1 ⟨v, H1, I1, rv, W1, ρ1, a, r1, o1, w1⟩ => ?_)
    · refine Wp.bind (show Wp X T Wx G pin W σ H (rA X G σ) Qd ((f ρ).bind fun a ρ1 => (fList fs ρ1).bind fun as ρ2 => .ok (hold a :: as) ρ2) from w) fun a ρ1 W1 H1 v s1 r1 o1 w1 => ?_
      obtain ⟨W2, s2, r2, o2⟩ := hold_ok r1 o1
      exact ⟨W2, ρ1, a, r2, o2, Wp.shift s2 w1⟩
    · refine spl hs (Qd := fun vs H2 => Qd (v :: vs) H2) I1 r1 (Wp.bind w1 fun as ρ2 W2 H2 vs s2 r2 o2 w2 => ?_) fun us s2 vs H2 I2 rvs q => k (u :: us) s2 (v :: vs) H2 I2 (.cons rv rvs) q
      exact w2 W2 H2 (v :: vs) (Step.refl _ _ _ r2.gok) r2 (.cons (hold_held a) (o1.held (hold_held a) s2 r2) o2)
open Classical in
noncomputable def allF (F : Addr → FRes) : FRes := if h : ∀ f, F f = F 0 then F 0 else .bad
theorem allF_eq {F : Addr → FRes} {R : FRes} (h : ∀ f, F f = R) : allF F = R := by
  unfold allF
  rw [dif_pos (fun f => (h f).trans (h 0).symm)]
  exact h 0
theorem allF_at {F : Addr → FRes} (h : allF F ≠ .bad) (f : Addr) : F f = allF F := by
  unfold allF at h ⊢
  split at h
  · rename_i e
    rw [dif_pos e]
    exact e f
  · exact absurd rfl h
noncomputable def fCallLam (np : Nat) (Fg : Addr → (List MV → Option MV) → Rho → FRes) (fb : Rho → Res RV) (n : Nat) (fa : Rho → Res (List RV)) : Rho → Res RV := fun ρ => (fa ρ).bind fun as ρ1 => (mkA none ρ1 as).bind fun ss ρ2 => match if ss.length + 1 = np then allF (fun f => Fg f (lamV fb ρ2 n) (ss ++ [.sh (.fn f)])) else .bad with
  | .ret (.b _) _ => .bad
  | .ret r _ => .ok r ρ2
  | _ => .bad
theorem mkA_snoc {m : MV} : ∀ {as : List RV} {ρ : Rho} {ss : List Sl} {ρ' : Rho}, mkA none ρ as = .ok ss ρ' → mkA none ρ (as ++ [.v m]) = .ok (ss ++ [.sh m]) ρ'
  | [], ρ, ss, ρ', e => by
    simp only [mkA, Res.ok.injEq] at e
    obtain ⟨rfl, rfl⟩ := e
    rfl
  | a :: as, ρ, ss, ρ', e => by
    rw [List.cons_append]
    simp only [mkA] at e ⊢
    rcases shr_cases ρ a with ⟨x, ρ1, e1⟩ | e1
    · rw [e1] at e ⊢
      simp only [Res.bind] at e ⊢
      cases e2 : mkA none ρ1 as with
      | ok ns ρ2 =>
        rw [e2] at e
        simp only [Res.ok.injEq] at e
        obtain ⟨rfl, rfl⟩ := e
        rw [mkA_snoc e2]
        rfl
      | ex y ρ2 => exact absurd e2 mkA_noex
      | bad => rw [e2] at e; cases e
    · rw [e1] at e
      cases e
theorem RvsOk.snoc {K : PySem.W.Frag} {m : MV} {v : V} (d : Dat K W H m v) : ∀ {as : List RV} {vs : List V}, RvsOk K G W σ H ρ as vs → RvsOk K G W σ H ρ (as ++ [.v m]) (vs ++ [v])
  | _, _, .nil => .cons rfl d .nil
  | _, _, .cons o h r => .cons o h (RvsOk.snoc d r)
/-- what is captured -/
def caps : L2.St → Rho → List (V × MV)
  | some v :: σ, .sh m :: ρ => (v, m) :: caps σ ρ
  | _ :: σ, _ :: ρ => caps σ ρ
  | _, _ => []
theorem caps_mem : ∀ {σ : L2.St} {ρ : Rho} {v : V} {m : MV}, (v, m) ∈ caps σ ρ → ∃ j : Nat, σ[j]? = some (some v) ∧ ρ[j]? = some (Sl.sh m)
  | [], ρ, v, m, h => by cases ρ <;> simp [caps] at h
  | o :: σ, [], v, m, h => by cases o <;> simp [caps] at h
  | o :: σ, s :: ρ, v, m, h => by
    have rest : (v, m) ∈ caps σ ρ → ∃ j : Nat, (o :: σ)[j]? = some (some v) ∧ (s :: ρ)[j]? = some (Sl.sh m) := fun h => by
      obtain ⟨j, h1, h2⟩ := caps_mem h
      exact ⟨j + 1, by simpa using h1, by simpa using h2⟩
    cases o with
    | none => cases s <;> exact rest (by simpa [caps] using h)
    | some w =>
      cases s with
      | sh x =>
        simp only [caps, List.mem_cons, Prod.mk.injEq] at h
        rcases h with ⟨rfl, rfl⟩ | h
        · exact ⟨0, rfl, rfl⟩
        · exact rest h
      | _ => exact rest (by simpa [caps] using h)
theorem mem_caps : ∀ {σ : L2.St} {ρ : Rho} {j : Nat} {v : V} {m : MV}, σ[j]? = some (some v) → ρ[j]? = some (Sl.sh m) → (v, m) ∈ caps σ ρ
  | [], _, j, v, m, h, _ => by simp at h
  | _ :: _, [], j, v, m, _, h => by simp at h
  | o :: σ, s :: ρ, 0, v, m, h1, h2 => by
    simp only [List.getElem?_cons_zero, Option.some.injEq] at h1 h2
    subst h1 h2
    simp [caps]
  | o :: σ, s :: ρ, j + 1, v, m, h1, h2 => by
    simp only [List.getElem?_cons_succ] at h1 h2
    have := mem_caps h1 h2
    cases o with
    | none => cases s <;> simpa [caps] using this
    | some w => cases s <;> simp [caps, this]

theorem RS.addT {K : PySem.W.Frag} {cd : List (Addr × Str)} {vs : List (V × MV)} (r : RS K T G pin W σ H ρ) (h1 : ∀ p ∈ cd, ¬ W p.1 ∧ H p.1 = some (CodeO p.1 p.2)) (h2 : ∀ p ∈ vs, Dat K W H p.2 p.1) : RS K ⟨T.t, cd ++ T.cd, vs ++ T.vs⟩ G pin W σ H ρ :=
  ⟨r.len, r.sl, r.dis, r.wok, r.gok, ⟨r.tabs.tb, fun p hp => (List.mem_append.mp hp).elim (h1 p) (r.tabs.cd p), fun p hp => (List.mem_append.mp hp).elim (h2 p) (r.tabs.vs p)⟩⟩
theorem RS.subT {K : PySem.W.Frag} {cd : List (Addr × Str)} {vs : List (V × MV)} (r : RS K ⟨T.t, cd ++ T.cd, vs ++ T.vs⟩ G pin W σ H ρ) : RS K T G pin W σ H ρ :=
  ⟨r.len, r.sl, r.dis, r.wok, r.gok, ⟨r.tabs.tb, fun p hp => r.tabs.cd p (List.mem_append_right _ hp), fun p hp => r.tabs.vs p (List.mem_append_right _ hp)⟩⟩
/-- x(e, .., lambda ..: body) -/
theorem qe_callLam {x a : Str} {g c P : Addr} {k i : Nat} {pg : Arguments} {bg : List Stmt} {sg : Scope} {dV kV doc pm cdv ct oc : Value} {an od : Option Addr} {osl : Array (Option Value)} {Ng psg : List Str}
    {params : Arguments} {body : Expr} {scope : Scope} {ps : List Str} {p lpos pos : Pos} {e1 : Expr} {es' : List Expr} {fs : List (Rho → Res RV)} {gg : Addr → (List MV → Option MV) → Rho → SRes} {fb : Rho → Res RV}
    (tk : Takes X Wx) (hm : X.mg x = some (.ref g)) (hk : PySem.W.keepIn X.K (.ref g) = true)
    (lk : X.K.lookup g = some ⟨oc, od, .func (PySem.W.fnOf x x pg bg sg dV kV doc pm an cdv ct), osl⟩) (hcg : PySem.W.codeIn X.K cdv x = true) (hb : L2.Binds X.K (PySem.W.fnOf x x pg bg sg dV kV doc pm an cdv ct) psg []) (Sg : FnScope Ng psg sg)
    (hG : ∀ (f : Addr) (φ : List MV → Option MV) (T' : Tb) (s : Shared) (H : Hp), T'.t = T.t → Room (k + 1) (X.A.deeper (envOfC x sg s.heap.objs.size g cdv)) → Act (cxOf (L2.CX X.prog X.w) X.prog X.w X.K X.mg X.base Ng x sg g cdv X.A X.stack s H noE) T' (fun cls d _ H => noE cls d H) a i f φ →
      QSs (cxOf (L2.CX X.prog X.w) X.prog X.w X.K X.mg X.base Ng x sg g cdv X.A X.stack s H noE) T' (fun cls d _ H => noE cls d H) bg (gg f φ))
    (TB : TabB X.base X.mg c P) (hcode : X.env.code = .ref c) (hmT : (P, X.env.qual ++ "<lambda>") ∈ T.t) (hu : ∀ p ∈ T.t, p.1 = P → p.2 = X.env.qual ++ "<lambda>") (hr : Room (k + 2) X.A) (L : LamP X.env.scope scope X.N ps) (hdef : defaultsOf params X.env = ([], []))
    (hbind : ∀ (us : List Value), us.length = ps.length → ∀ (q : Str) (cl : List (Str × Addr)) (pm cv ctv : Value), bindArgs (PySem.W.kla_fn "<lambda>" q params body scope cl pm cv ctv) ⟨us, []⟩ = pure (ps.zip us))
    (hbody : ∀ (T' : Tb) (A : Around) (outer : List Env) (s : Shared) (H : Hp) (f c' : Addr), T'.t = T.t → Room k (A.deeper (lamEnv X scope s.heap.objs.size f c')) → QE (lamCxP X ps A outer s H noE scope f c') T' noX body fb)
    (ha : QL X T Wx (e1 :: es') fs) (hNg : Ng[i]? = some a) (hva : Vis sg a) (hg : Gl X x := by rfl)
    (hdb : (x == ("__debug__" : Str)) = false := by decide) (hd : (a == ("__debug__" : Str)) = false := by decide) (hcd : (a == ("__classdict__" : Str)) = false := by decide)
    (he : starEach (e1 :: (es' ++ [.Lambda params body scope lpos])) X.env = (false, eval e1 X.env) :: starEach (es' ++ [.Lambda params body scope lpos]) X.env := by rfl) (hpl : (backTo pos (starEach (es' ++ [.Lambda params body scope lpos]) X.env)).any (·.1) = false := by rfl)
    (hst : backTo pos (starEach (e1 :: (es' ++ [.Lambda params body scope lpos])) X.env) = (e1 :: es').map (fun e => (false, eval e X.env)) ++ [(false, eval (.Lambda params body scope lpos) X.env)] := by rfl) :
    QE X T Wx (.Call (.Name x p) (e1 :: (es' ++ [.Lambda params body scope lpos])) [] pos) (fCallLam psg.length (fun f φ => fnOf Ng.length (gg f φ)) fb ps.length (fList fs)) := by
  have hpl' : psg.length ≤ Ng.length := by
    have := congrArg List.length Sg.pre
    rw [List.length_take] at this
    omega
  refine ⟨fun G pin => ⟨fun pins s σ H Q I ⟨W, ρ, r, w⟩ => ?_⟩⟩
  refine wpAny_Call_Name_kw (ld_glob I hg hm ?_ hdb)
  refine PySem.W.callWith_K (h₀ := X.base) I.ok.mod.kin hk ?_ he hpl
  rw [hst]
  refine spl ha (Qd := fun vs H1 => ∃ W1 ρ1 as, RS X.K T G pin W1 σ H1 ρ1 ∧ RvsOk X.K G W1 σ H1 ρ1 as vs ∧ Wp X T Wx G pin W1 σ H1 (rE X G σ) Q ((mkA none ρ1 as).bind fun ss ρ2 => match if ss.length + 1 = psg.length then allF (fun f => fnOf Ng.length (gg f (lamV fb ρ2 ps.length)) (ss ++ [.sh (.fn f)])) else .bad with
    | .ret (.b _) _ => .bad
    | .ret r _ => .ok r ρ2
    | _ => .bad)) I r (Wp.bind w fun as ρ1 W1 H1 vs s1 r1 o1 w1 => ⟨W1, ρ1, as, r1, o1, w1⟩) fun us s1 vs H1 I1 rv ⟨W1, ρ1, as, r1, o1, w1⟩ => ?_
  refine Calls.spliced_cons (lam_make2 I1 TB hcode hmT hu r1.tabs.tb hdef (L.has I1.ok) fun f c' pm' ctv H2 s2 I2 eN T2 hf hfn hfr hco => ?_)
  refine Calls.spliced_nil ⟨I2.kIn, ?_⟩
  -- the table has grown
  have st : Step G W1 H1 W1 H2 := ⟨fun b o e n t => ⟨n, eN b o e t⟩, fun b o gb e t => ⟨eN b o e t, r1.gok b gb⟩⟩
  have kp : ∀ b, W1 b → H2 b = H1 b := fun b wb => by
    obtain ⟨o, ho, mo⟩ := r1.wok b wb
    rw [ho]
    exact eN b o ho mo.1
  have r2 : RS X.K T G pin W1 σ H2 ρ1 := r1.mono st (fun j t b e o q => by
    obtain ⟨_, m', hO, _⟩ := r1.own_at e o q
    exact ⟨hO.1, kp b hO.1⟩) (fun b wb => by
      obtain ⟨o, ho, mo⟩ := r1.wok b wb
      exact ⟨o, (kp b wb).trans ho, mo⟩) T2
  have o2 := o1.step st r2
  have w2 := Wp.shift st w1
  have nc : ¬ W1 c' := fun wb => by
    obtain ⟨o, ho, mo⟩ := r1.wok c' wb
    have := (kp c' wb).trans ho
    rw [hco] at this
    cases this
    exact mo.2 _ rfl
  cases em : mkA none ρ1 as with
  | bad => rw [em] at w2; exact w2.elim
  | ex y ρ2 => exact absurd em mkA_noex
  | ok ss ρ2 =>
    rw [em] at w2
    simp only [Res.bind] at w2
    obtain ⟨W3, G', pin', s3, r3, rs, hp, hl, back⟩ := call_view r2 (o2.snoc (Dat.fn f)) (mkA_snoc (m := .fn f) em) (fun j z => nomatch z)
    have w3 := Wp.shift s3 w2
    by_cases hlen : ss.length + 1 = psg.length
    case neg => rw [if_neg hlen] at w3; exact w3.elim
    rw [if_pos hlen] at w3
    have nc3 := s3.fr c' _ hco nc codeO_ne
    let T' : Tb := ⟨T.t, [(c', X.env.qual ++ "<lambda>")] ++ T.cd, caps σ ρ2 ++ T.vs⟩
    have hcapD : ∀ q ∈ caps σ ρ2, Dat X.K W3 H2 q.2 q.1 := fun q hq => by
      obtain ⟨j, h1, h2⟩ := caps_mem (v := q.1) (m := q.2) hq
      obtain ⟨v, h3, h4⟩ := r3.sl j _ h2
      rw [h1] at h3
      cases h3
      exact h4
    have rs' : RS X.K T' G' pin' W3 ((vs ++ [V.ref f]).map some) H2 (ss ++ [.sh (.fn f)]) := rs.addT (fun q hq => by
      cases List.mem_singleton.mp hq
      exact nc3) hcapD
    have hFne : allF (fun f => fnOf Ng.length (gg f (lamV fb ρ2 ps.length)) (ss ++ [.sh (.fn f)])) ≠ .bad := fun z => by rw [z] at w3; exact w3.elim
    have hFf := allF_at hFne f
    rw [← hFf] at w3
    have rc : codeAny (model X.prog X.w) X.A (.call (.ref g) ⟨us ++ [.ref f], []⟩) (CR (L2.CX X.prog X.w) X.stack X.prog X.w H2 s2 Q noE) s2 := by
      have hvl : (vs ++ [V.ref f]).length = psg.length := by
        rw [← hl, List.length_append, List.length_singleton]
        exact hlen
      have hrv : Vals (vs ++ [V.ref f]) (us ++ [Value.ref f]) := rv.append (.cons rfl .nil)
      refine run_ofS (N := Ng) (ps := psg) (us := us ++ [.ref f]) (vs := vs ++ [V.ref f]) lk hcg Sg hr I2.env0 (by
        have hbb := hb s2 (us ++ [.ref f]) I2.kIn (by rw [List.append_nil, ← hrv.length]; exact hvl)
        rw [List.append_nil] at hbb
        exact hbb) hrv hvl fun hr' => ?_
      have act : Act (cxOf (L2.CX X.prog X.w) X.prog X.w X.K X.mg X.base Ng x sg g cdv X.A X.stack s2 H2 noE) T' (fun cls d _ H => noE cls d H) a i f (lamV fb ρ2 ps.length) := ⟨fun {e es p1 p2 fa} hqa he2 hpl2 => by
        have tkZ : Takes (cxOf (L2.CX X.prog X.w) X.prog X.w X.K X.mg X.base Ng x sg g cdv X.A X.stack s2 H2 noE) (fun cls d _ H => noE cls d H) := takes_of rfl rfl rfl rfl
        exact qe_act (CXg := L2.CX X.prog X.w) (Eg := noE) (pn := []) (xe := (cxOf (L2.CX X.prog X.w) X.prog X.w X.K X.mg X.base Ng x sg g cdv X.A X.stack s2 H2 noE).xe) I2 L hf hfn hfr (fun us h => hbind us h _ _ _ _ _) tkZ hr' (fun A outer s H hr2 => hbody T' A outer s H f c' rfl hr2)
          (List.mem_append_left _ (List.mem_singleton_self _)) (fun j m hj => by
            obtain ⟨v, h3, h4⟩ := r3.sl j _ hj
            exact ⟨v, h3, List.mem_append_left _ (mem_caps h3 hj)⟩) r3.len hqa hNg hva hd hcd he2 hpl2⟩
      refine body_start (n := psg.length) (hG f (lamV fb ρ2 ps.length) T' s2 H2 rfl hr' act) hpl' ⟨G', W3, ss ++ [Sl.sh (MV.fn f)], pin', rs', by rw [List.length_append, List.length_singleton]; exact hlen, hp, ?_⟩
      cases eF : fnOf Ng.length (gg f (lamV fb ρ2 ps.length)) (ss ++ [.sh (.fn f)]) with
      | bad => rw [eF] at w3; exact w3.elim
      | ex y ρ' => rw [eF] at w3; exact w3.elim
      | ret rv0 ρ' =>
        rw [eF] at w3
        intro W4 H4 v s4 rs4 o4
        cases rv0 with
        | b j => exact w3.elim
        | v m =>
          obtain ⟨b1, b2, b3⟩ := back W4 H4 ρ' ρ2 s4 rs4.subT rfl
          exact w3 W4 H4 v b1 b2 (b3 _ v (fun _ z => nomatch z) o4)
        | o m =>
          obtain ⟨b1, b2, b3⟩ := back W4 H4 ρ' ρ2 s4 rs4.subT rfl
          exact w3 W4 H4 v b1 b2 (b3 _ v (fun _ z => nomatch z) o4)
    have hx : Passes (L2.CX X.prog X.w) X noE := passes_call tk (fun _ _ _ _ z => z.elim)
    show wpAny _ _ (call (.ref g) (us ++ [.ref f])) _ _ _
    refine wpAny_call (codeAny_mono rc fun r s' hq => ?_)
    cases r with
    | error e => exact hx _ _ H2 s2 e s' I2 hq
    | ok fl =>
      cases fl with
      | ret u => exact I2.after hq
      | next => exact False.elim hq
      | brk => exact False.elim hq
      | cont => exact False.elim hq
end
end DL
namespace DL
open PySem PySem.Spec PyProof.Rows L2 LamX
section
variable {Z : Cx} {T : Tb} {Wz : WX}
/-- what a def gives of data -/
def fnV (n : Nat) (F : Rho → FRes) (ms : List MV) : Option MV := if ms.length = n then match F (ms.map .sh) with
    | .ret (.v m) _ => some m
    | .ret (.o m) _ => some m
    | _ => none
  else none
theorem act_fn {F : Rho → FRes} {k i : Nat} {f : Addr} {fd : FuncData} {ps : List Str} {a : Str} (Fk : FnOk Z.prog Z.w Z.K Z.mg Z.base (L2.CX Z.prog Z.w) k f fd ps (spV Z.K Z.mg T ps.length F)) (hr : Room k Z.A) (hk : PySem.W.keepIn Z.K (.ref f) = true) (hb : Binds Z.K fd ps []) (tk : Takes Z Wz)
    (hN : Z.N[i]? = some a := by rfl) (hv : Vis Z.env.scope a := by first | exact Or.inl rfl | exact Or.inr (Or.inl rfl) | exact Or.inr (Or.inr rfl)) (hdb : (a == ("__debug__" : Str)) = false := by decide) (hcd : (a == ("__classdict__" : Str)) = false := by decide) : Act Z T Wz a i f (fnV ps.length F) := by
  refine ⟨fun {e es p1 p2 fa} ha he hpl => ⟨fun G pin => PE.imp (pe_callL (E := noE) (dvs := []) (ds := []) Fk hr hN hv hk hb .nil (passes_call tk (fun _ _ _ _ z => z.elim)) (ha.run G pin) hdb hcd he hpl) fun σ H Q ⟨W, ρ, r, w⟩ => ?_⟩⟩
  unfold fAct at w
  split at w
  · rename_i f' ef
    split at w
    · rename_i eff
      subst eff
      obtain ⟨v0, hv0, dv0⟩ := r.sl i _ ef
      have ev0 : v0 = .ref f' := by cases dv0; rfl
      subst ev0
      refine ⟨hv0, W, ρ, r, Wp.bind w fun as ρ1 W1 H1 vs s1 r1 o1 w1 => ?_⟩
      rw [List.append_nil]
      cases es : shrs ρ1 as with
      | bad => rw [es] at w1; exact w1.elim
      | ex x ρ2 => exact absurd es shrs_noex
      | ok ms ρ2 =>
        rw [es] at w1
        obtain ⟨W2, s2, r2, d2⟩ := shrs_ok r1 o1 es
        have w2 := Wp.shift s2 w1
        simp only [Res.bind] at w2
        cases eφ : fnV ps.length F ms with
        | none => rw [eφ] at w2; exact w2.elim
        | some m =>
          rw [eφ] at w2
          simp only at w2
          have hl : ms.length = ps.length := by
            unfold fnV at eφ
            split at eφ
            · assumption
            · cases eφ
          have rl := lam_rs (σ0 := []) (ρ0 := []) (pin' := fun _ => none) r2 (fun j m z => by simp at z) rfl d2
          refine ⟨W2, W2, ms.map Sl.sh, fun _ => none, rl, by rw [List.length_map]; exact hl, (fun j a z => nomatch z), ?_⟩
          have fin : ∀ {W' : AP} {H' : Hp} {ρ' : Rho} {v : V}, Step W2 W2 H1 W' H' → RS Z.K T W2 (fun _ => none) W' (vs.map some) H' ρ' → Dat Z.K W' H' m v → Q v H' := fun {W' H' ρ' v} st rs d => by
            refine w2 W' H' v (st.weaken r2.gok) (r2.mono (st.weaken r2.gok) (fun j t c e o q => ?_) rs.wok rs.tabs.tb) d
            obtain ⟨_, m'', hO, _⟩ := r2.own_at e o q
            obtain ⟨o', ho', mo⟩ := r2.wok c hO.1
            obtain ⟨q1, q2⟩ := st.gd c o' hO.1 ho' mo.1
            exact ⟨q2, q1.trans ho'.symm⟩
          unfold fnV at eφ
          rw [if_pos hl] at eφ
          cases eF : F (ms.map Sl.sh) with
          | bad => rw [eF] at eφ; cases eφ
          | ex y ρ' => rw [eF] at eφ; cases eφ
          | ret rv ρ' =>
            rw [eF] at eφ
            intro W' H' v st rs o
            cases rv with
            | b j => cases eφ
            | v m' => cases eφ; exact fin st rs o
            | o m' =>
              cases eφ
              obtain ⟨W4, s4, r4, d4⟩ := shr_ok (rv := .o m) (ρ' := ρ') rs o rfl
              exact fin (st.trans s4) r4 d4
    · exact w.elim
  · exact w.elim
end
end DL
namespace DL
open PySem PySem.Spec PyProof.Rows L2 LamX
section
variable {P : Program} {w : World} {K : PySem.W.Frag} {mg : Str → Option Value} {base : Heap} {T : Tb}
theorem fn_vD {x qual : Str} {st : Stmt} {f : Addr} {fd : FuncData} {N ps : List Str} {k : Nat} {g : Rho → SRes} (F : FunD K x qual (defArgs st) (defBody st) (defScope st) [] [] f fd) (S : FnScope N ps (defScope st))
    (hb : ∀ (cdv : Value) (A : Around) (outer : List Env) (s : Shared) (H : Hp) (E : XK), Room k (A.deeper (PyProof.Rows.envOfC qual (defScope st) s.heap.objs.size f cdv)) → QSs (cxOf (L2.CX P w) P w K mg base N qual (defScope st) f cdv A outer s H E) T (fun cls d _ H => E cls d H) (defBody st) g) :
    FnOk P w K mg base (L2.CX P w) (k + 1) f fd ps (spV K mg T ps.length (fnOf N.length g)) := by
  have hpl : ps.length ≤ N.length := by
    have := congrArg List.length S.pre
    rw [List.length_take] at this
    omega
  refine F.ok S (fun vs H Q E ⟨G, W, ρ, pin, r, hl, _⟩ => ?_) (fun cdv A outer s H vs Q E hr h => body_start (hb cdv A outer s H E hr) hpl h)
  have := r.len
  rw [List.length_map] at this
  omega
/-- a def of the module keeps the promise F at the level k -/
structure Ok (P : Program) (w : World) (K : PySem.W.Frag) (mg : Str → Option Value) (base : Heap) (T : Tb) (k : Nat) (x : Str) (ps : List Str) (F : Rho → FRes) : Prop where
  g : mg x = some (.ref (He.ga K x))
  kp : PySem.W.keepIn K (.ref (He.ga K x)) = true
  ex : ∃ fd, FnOk P w K mg base (L2.CX P w) k (He.ga K x) fd ps (spV K mg T ps.length F) ∧ Binds K fd ps [] ∧ ∃ oc od osl, K.lookup (He.ga K x) = some ⟨oc, od, .func fd, osl⟩
theorem Ok.le {j k : Nat} {x : Str} {ps : List Str} {F : Rho → FRes} (o : Ok P w K mg base T j x ps F) (h : j ≤ k) : Ok P w K mg base T k x ps F :=
  ⟨o.g, o.kp, let ⟨fd, h1, h2, h3⟩ := o.ex; ⟨fd, h1.mono h, h2, h3⟩⟩
/-- what the head tells of a def -/
structure DefC (K : PySem.W.Frag) (mg : Str → Option Value) (x : Str) (st : Stmt) : Prop where
  g : mg x = some (.ref (He.ga K x))
  ex : ∃ fd, FunD K x x (defArgs st) (defBody st) (defScope st) [] [] (He.ga K x) fd
theorem ok_mk {x : Str} {st : Stmt} {N ps : List Str} {k : Nat} {g : Rho → SRes} (D : DefC K mg x st) (S : FnScope N ps (defScope st))
    (hbind : ∀ (kV doc pm : Value) (an : Option Addr) (cdv ct : Value) (us : List Value), us.length = ps.length → bindArgs (PySem.W.fnOf x x (defArgs st) (defBody st) (defScope st) .none kV doc pm an cdv ct) ⟨us, []⟩ = pure (ps.zip us))
    (hb : ∀ (cdv : Value) (A : Around) (outer : List Env) (s : Shared) (H : Hp) (E : XK), Room k (A.deeper (PyProof.Rows.envOfC x (defScope st) s.heap.objs.size (He.ga K x) cdv)) → QSs (cxOf (L2.CX P w) P w K mg base N x (defScope st) (He.ga K x) cdv A outer s H E) T (fun cls d _ H => E cls d H) (defBody st) g) :
    Ok P w K mg base T (k + 1) x ps (fnOf N.length g) := by
  obtain ⟨fd, F⟩ := D.ex
  refine ⟨D.g, F.kp, fd, fn_vD F S hb, F.bindsN hbind, ?_⟩
  obtain ⟨oc, od, _, _, _, _, _, _, _, osl, _, lk, _⟩ := F.ex
  exact ⟨oc, od, osl, lk⟩
end
section
variable {X : Cx} {T : Tb} {Wx : WX}
theorem qe_callO {io : Option Nat} {F : Rho → FRes} {k np : Nat} {ps : List Str} {x : Str} {p pos : Pos} {e : Expr} {es : List Expr} {fa : Rho → Res (List RV)} (O : Ok X.prog X.w X.K X.mg X.base T k x ps F) (hr : Room k X.A)
    (tk : Takes X Wx) (ha : QA X T Wx (e :: es) fa) (hn : (e :: es).length = ps.length := by rfl) (hnp : ps.length = np := by rfl) (hg : Gl X x := by rfl)
    (hdb : (x == ("__debug__" : Str)) = false := by decide) (he : starEach (e :: es) X.env = (false, eval e X.env) :: starEach es X.env := by rfl) (hpl : (backTo pos (starEach es X.env)).any (·.1) = false := by rfl) : QE X T Wx (.Call (.Name x p) (e :: es) [] pos) (fCall np io F fa) := by
  subst hnp
  obtain ⟨fd, Fk, hb, _⟩ := O.ex
  exact qe_call Fk hr O.g O.kp hb tk ha hn hg hdb he hpl
theorem act_O {F : Rho → FRes} {k i np : Nat} {x : Str} {ps : List Str} {a : Str} (O : Ok X.prog X.w X.K X.mg X.base T k x ps F) (hr : Room k X.A) (tk : Takes X Wx)
    (hnp : ps.length = np := by rfl) (hN : X.N[i]? = some a := by rfl) (hv : Vis X.env.scope a := by first | exact Or.inl rfl | exact Or.inr (Or.inl rfl) | exact Or.inr (Or.inr rfl)) (hdb : (a == ("__debug__" : Str)) = false := by decide) (hcd : (a == ("__classdict__" : Str)) = false := by decide) : Act X T Wx a i (He.ga X.K x) (fnV np F) := by
  subst hnp
  obtain ⟨fd, Fk, hb, _⟩ := O.ex
  exact act_fn Fk hr O.kp hb tk hN hv hdb hcd
theorem qss_bad {body : List Stmt} : QSs X T Wx body (fun _ => .bad) := ⟨fun G pin => ⟨fun pins s σ H D I ⟨_, _, _, h⟩ => h.elim⟩⟩
end
end DL
namespace DL
open PySem PySem.Spec PyProof.Rows L2 LamX
section
variable {P : Program} {w : World} {K : PySem.W.Frag} {mg : Str → Option Value} {base : Heap} {T : Tb}
theorem glc_fn {k : Nat} {x : Str} {ps : List Str} {F : Rho → FRes} (o : Ok P w K mg base T k x ps F) : GlC K mg x (.fn (He.ga K x)) := ⟨_, .ref (He.ga K x), o.g, rfl, fun _ _ => .fn _⟩
theorem exm_nil {y : Str} : ExM K y [] := fun p hp => by cases hp
theorem exm_cons {x y : Str} {b : Bool} {l : List (Str × Bool)} (h : PySem.W.exmOne K (.ref (He.ga K x)) (.ref (He.ga K y)) = some b) (r : ExM K y l) : ExM K y ((x, b) :: l) := fun p hp => by
  rcases List.mem_cons.mp hp with rfl | hp
  · exact h
  · exact r p hp
theorem exg_nil : ∀ p ∈ ([] : List (Str × Bool)), mg p.1 = some (.ref (He.ga K p.1)) := fun p hp => by cases hp
theorem exg_cons {x : Str} {b : Bool} {l : List (Str × Bool)} (h : mg x = some (.ref (He.ga K x))) (r : ∀ p ∈ l, mg p.1 = some (.ref (He.ga K p.1))) : ∀ p ∈ (x, b) :: l, mg p.1 = some (.ref (He.ga K p.1)) := fun p hp => by
  rcases List.mem_cons.mp hp with rfl | hp
  · exact h
  · exact r p hp
end
section
variable {X : Cx} {T : Tb} {Wx : WX}
theorem qe_ty {x : Str} {t : String} {pos : Pos} (hm : X.mg x = none) (hv : bootBuiltins x = some (.type t)) (hg : Gl X x := by rfl) (hn : x ≠ "__name__" := by decide) (hdb : (x == ("__debug__" : Str)) = false := by decide) : QE X T Wx (.Name x pos) (fC (.ty t)) :=
  qe_c (pe_bltn (v := .ty t) hg hm hv rfl hn hdb) fun _ _ => .ty t
end
end DL
namespace DL
open PySem PySem.Spec PyProof.Rows L2 LamX
section
variable {P : Program} {w : World} {K : PySem.W.Frag} {mg : Str → Option Value} {base : Heap} {T : Tb}
/-- a def that makes lambdas -/
theorem ok_mkC {x : Str} {st : Stmt} {N ps : List Str} {k : Nat} {g : Rho → SRes} (D : DefC K mg x st) (S : FnScope N ps (defScope st))
    (hbind : ∀ (kV doc pm : Value) (an : Option Addr) (cdv ct : Value) (us : List Value), us.length = ps.length → bindArgs (PySem.W.fnOf x x (defArgs st) (defBody st) (defScope st) .none kV doc pm an cdv ct) ⟨us, []⟩ = pure (ps.zip us))
    (hb : ∀ (cdv : Value) (A : Around) (outer : List Env) (s : Shared) (H : Hp) (E : XK), cdv = .ref (He.codeOf K (x, none)) → Room k (A.deeper (PyProof.Rows.envOfC x (defScope st) s.heap.objs.size (He.ga K x) cdv)) → QSs (cxOf (L2.CX P w) P w K mg base N x (defScope st) (He.ga K x) cdv A outer s H E) T (fun cls d _ H => E cls d H) (defBody st) g) :
    Ok P w K mg base T (k + 1) x ps (fnOf N.length g) := by
  obtain ⟨fd, F⟩ := D.ex
  have hpl : ps.length ≤ N.length := by
    have := congrArg List.length S.pre
    rw [List.length_take] at this
    omega
  have hbn := F.bindsN hbind
  have hkp := F.kp
  obtain ⟨oc, od, dV, kV, doc, pm, an, cdv, ct, osl, rfl, lk, hcd, _, _⟩ := F.ex
  refine ⟨D.g, hkp, _, ?_, hbn, oc, od, osl, lk⟩
  obtain ⟨c, rfl⟩ := He.codeIn_ref hcd
  have ec : He.codeOf K (x, none) = c := He.codeOf_eq (p := (x, none)) lk rfl
  refine fn_of lk hcd S (fun vs H Q E ⟨G, W, ρ, pin, r, hl, _⟩ => ?_) fun A outer s H vs Q E hr h => body_start (hb _ A outer s H E (by rw [ec]) hr) hpl h
  have := r.len
  rw [List.length_map] at this
  omega
end
section
variable {X : Cx} {T : Tb} {Wx : WX}
theorem qe_callLamD {x a : Str} {sth : Stmt} {c Pt : Addr} {k i : Nat} {Ng psg : List Str}
    {params : Arguments} {body : Expr} {scope : Scope} {ps : List Str} {p lpos pos : Pos} {e1 : Expr} {es' : List Expr} {fs : List (Rho → Res RV)} {gg : Addr → (List MV → Option MV) → Rho → SRes} {fb : Rho → Res RV}
    (tk : Takes X Wx) (D : DefC X.K X.mg x sth) (Sg : FnScope Ng psg (defScope sth))
    (hbg : ∀ (kV doc pm : Value) (an : Option Addr) (cdv ct : Value) (us : List Value), us.length = psg.length → bindArgs (PySem.W.fnOf x x (defArgs sth) (defBody sth) (defScope sth) .none kV doc pm an cdv ct) ⟨us, []⟩ = pure (psg.zip us))
    (hG : ∀ (cdv : Value) (f : Addr) (φ : List MV → Option MV) (T' : Tb) (s : Shared) (H : Hp), T'.t = T.t → Room (k + 1) (X.A.deeper (envOfC x (defScope sth) s.heap.objs.size (He.ga X.K x) cdv)) → Act (cxOf (L2.CX X.prog X.w) X.prog X.w X.K X.mg X.base Ng x (defScope sth) (He.ga X.K x) cdv X.A X.stack s H noE) T' (fun cls d _ H => noE cls d H) a i f φ →
      QSs (cxOf (L2.CX X.prog X.w) X.prog X.w X.K X.mg X.base Ng x (defScope sth) (He.ga X.K x) cdv X.A X.stack s H noE) T' (fun cls d _ H => noE cls d H) (defBody sth) (gg f φ))
    (TB : TabB X.base X.mg c Pt) (hcode : X.env.code = .ref c) (hmT : (Pt, X.env.qual ++ "<lambda>") ∈ T.t) (hu : ∀ p ∈ T.t, p.1 = Pt → p.2 = X.env.qual ++ "<lambda>") (hr : Room (k + 2) X.A) (L : LamP X.env.scope scope X.N ps) (hdef : defaultsOf params X.env = ([], []))
    (hbind : ∀ (us : List Value), us.length = ps.length → ∀ (q : Str) (cl : List (Str × Addr)) (pm cv ctv : Value), bindArgs (PySem.W.kla_fn "<lambda>" q params body scope cl pm cv ctv) ⟨us, []⟩ = pure (ps.zip us))
    (hbody : ∀ (T' : Tb) (A : Around) (outer : List Env) (s : Shared) (H : Hp) (f c' : Addr), T'.t = T.t → Room k (A.deeper (lamEnv X scope s.heap.objs.size f c')) → QE (lamCxP X ps A outer s H noE scope f c') T' noX body fb)
    (ha : QL X T Wx (e1 :: es') fs) (hNg : Ng[i]? = some a) (hva : Vis (defScope sth) a) (hg : Gl X x := by rfl)
    (hdb : (x == ("__debug__" : Str)) = false := by decide) (hd : (a == ("__debug__" : Str)) = false := by decide) (hcd : (a == ("__classdict__" : Str)) = false := by decide)
    (he : starEach (e1 :: (es' ++ [.Lambda params body scope lpos])) X.env = (false, eval e1 X.env) :: starEach (es' ++ [.Lambda params body scope lpos]) X.env := by rfl) (hpl : (backTo pos (starEach (es' ++ [.Lambda params body scope lpos]) X.env)).any (·.1) = false := by rfl)
    (hst : backTo pos (starEach (e1 :: (es' ++ [.Lambda params body scope lpos])) X.env) = (e1 :: es').map (fun e => (false, eval e X.env)) ++ [(false, eval (.Lambda params body scope lpos) X.env)] := by rfl) :
    QE X T Wx (.Call (.Name x p) (e1 :: (es' ++ [.Lambda params body scope lpos])) [] pos) (fCallLam psg.length (fun f φ => fnOf Ng.length (gg f φ)) fb ps.length (fList fs)) := by
  obtain ⟨fd, F⟩ := D.ex
  have hb := F.bindsN hbg
  obtain ⟨oc, od, dV, kV, doc, pm, an, cdv, ct, osl, rfl, lk, hcg, _, _⟩ := F.ex
  exact qe_callLam tk D.g F.kp lk hcg hb Sg (hG cdv) TB hcode hmT hu hr L hdef hbind hbody ha hNg hva hg hdb hd hcd he hpl hst
end
end DL
namespace DL
open PySem PySem.Spec PyProof.Rows L2 LamX
section
variable {P : Program} {w : World} {K : PySem.W.Frag} {mg : Str → Option Value} {base : Heap} {T : Tb} {h : Heap}
theorem glc_str (X : K.In h) (G : h.Ns mainGlobals mg) {x z : Str} (c : (He.Fa.str x z).ok K = true) : GlC K mg x (.str z) := by
  obtain ⟨t, e⟩ := He.str_ok X G c
  exact ⟨_, .str z, e, ⟨t, rfl⟩, fun _ _ => .str z⟩
theorem glc_int (X : K.In h) (G : h.Ns mainGlobals mg) {x : Str} {i : Int} (c : (He.Fa.int x i).ok K = true) : GlC K mg x (.int i) := by
  obtain ⟨t, e⟩ := He.int_ok X G c
  exact ⟨_, .int i, e, ⟨t, rfl⟩, fun _ _ => .int i⟩
/-- a table of ints, texts, None, bools -/
def dvM : He.Dv → Option MV
  | .non => some .non
  | .bl b => some (.bl b)
  | .int i => some (.int i)
  | .str x => some (.str x)
  | _ => none
def dvMs : List He.Dv → Option (List MV)
  | [] => some []
  | d :: ds => match dvM d, dvMs ds with
    | some m, some ms => some (m :: ms)
    | _, _ => none
theorem dvM_ok {W : AP} {H : Hp} : ∀ {ds : List He.Dv} {ms : List MV}, dvMs ds = some ms → Dats K W H ms (ds.map (He.Dv.v K))
  | [], ms, e => by cases e; exact .nil
  | d :: ds, ms, e => by
    unfold dvMs at e
    split at e
    · rename_i m ms' e1 e2
      cases e
      refine .cons ?_ (dvM_ok e2)
      cases d <;> cases e1
      · exact .non
      · exact .bl _
      · exact .int _
      · exact .str _
    · cases e
theorem glc_tup (X : K.In h) (G : h.Ns mainGlobals mg) {x : Str} {ds : List He.Dv} {ms : List MV} (c : (He.Fa.glo x).ok K = true) (t : He.tupB K x ds = true) (e : dvMs ds = some ms) : GlC K mg x (.tup ms) :=
  ⟨_, .ref (He.ga K x), He.glo_ok X G c, rfl, fun W H => .tup (.inr (He.tupB_ok t HN)) (dvM_ok e)⟩
theorem exC_mk (X : K.In h) (G : h.Ns mainGlobals mg) {x : Str} (c : (He.Fa.glo x).ok K = true) (d : (He.Fa.exc x).ok K = true) : ExC K mg x := by
  obtain ⟨h1, h2, h3, h4⟩ := He.exc_ok d
  exact ⟨He.glo_ok X G c, h1, h2, h3, h4⟩
/-- the start of the law's promise -/
theorem law_sp {F : Rho → FRes} {H : Hp} {a : Addr} {ns : List Int} {ρ' : Rho} (ht : Tabs T.t H) (hc : T.cd = []) (hv : T.vs = []) (hS : SqL K H a (ns.map V.int)) (hF : F [.sh (.scr ns)] = .ret (.v (.bl true)) ρ') :
    spV K mg T 1 F [.ref a] H (fun v _ => v = .bl true) (fun _ _ _ => False) := by
  have d : Dat K (fun _ => False) H (.scr ns) (.ref a) := by
    rcases hS with (h | ⟨o, h⟩) | h
    · exact .scrL (fun z => z) h
    · exact .scr (fun z => z) h
    · exact .scrK (.inr h)
  refine ⟨fun _ => False, fun _ => False, [.sh (.scr ns)], fun _ => none, ⟨rfl, fun i s e => ?_, fun i j s t b ei _ oi => ?_, fun a z => z.elim, fun a z => z, ⟨ht, (fun p hp => by rw [hc] at hp; cases hp), (fun p hp => by rw [hv] at hp; cases hp)⟩⟩, rfl, (fun j a z => nomatch z), ?_⟩
  · cases i with
    | zero => cases e; exact ⟨.ref a, rfl, d⟩
    | succ i => cases e
  · cases i with
    | zero => cases ei; cases oi
    | succ i => cases ei
  · rw [hF]
    intro W' H' v _ _ o
    cases (show Dat K W' H' (.bl true) v from o)
    rfl
theorem tabs_start {l : List (Addr × Str)} {H : Hp} (h : ∀ p ∈ l, H p.1 = some (.tbl #[])) : Tabs l H := fun p hp => TabS.nil (h p hp)
end
end DL
namespace DL
open PySem PySem.Spec PyProof.Rows L2 LamX
@[simp] theorem fName_s (i : Nat) (ρ : Rho) : fName i ρ = (match ρ[i]? with
  | some (.sh _) => .ok (.b i) ρ
  | some (.ow _) => .ok (.b i) ρ
  | some (.io _) => .ok (.b i) ρ
  | _ => .bad) := rfl
@[simp] theorem fC_s (m : MV) (ρ : Rho) : fC m ρ = (.ok (.v m) ρ) := rfl
@[simp] theorem fNil_s  (ρ : Rho) : fNil  ρ = (.ok [] ρ) := rfl
@[simp] theorem fCons_s (f : Rho → Res RV) (g : Rho → Res (List RV)) (ρ : Rho) : fCons f g ρ = ((f ρ).bind fun a ρ1 => (g ρ1).bind fun as ρ2 => .ok (hold a :: as) ρ2) := rfl
@[simp] theorem fTup_s (f : Rho → Res (List RV)) (ρ : Rho) : fTup f ρ = ((f ρ).bind fun as ρ1 => (shrs ρ1 as).bind fun ms ρ2 => if ms.length ≤ sizeLine then .ok (.v (.tup ms)) ρ2 else .bad) := rfl
@[simp] theorem fLst_s (f : Rho → Res (List RV)) (ρ : Rho) : fLst f ρ = ((f ρ).bind fun as ρ1 => (shrs ρ1 as).bind fun ms ρ2 => if ms.length ≤ sizeLine then .ok (.o (.lst ms)) ρ2 else .bad) := rfl
@[simp] theorem fOp_s (g : MV → MV → Option RV) (f1 f2 : Rho → Res RV) (ρ : Rho) : fOp g f1 f2 ρ = ((f1 ρ).bind fun a ρ1 => (f2 ρ1).bind fun b ρ2 => match cont ρ2 (hold a), cont ρ2 b with
  | some m, some n => match g m n with
    | some rv => .ok rv ρ2
    | none => .bad
  | _, _ => .bad) := rfl
@[simp] theorem fB_s (f : Rho → Res RV) (ρ : Rho) : fB f ρ = ((f ρ).bind fun a ρ1 => match cont ρ1 a with
  | some (.bl b) => .ok b ρ1
  | _ => .bad) := rfl
@[simp] theorem fChain_s (g g' : MV → MV → Option RV) (f1 f2 f3 : Rho → Res RV) (ρ : Rho) : fChain g g' f1 f2 f3 ρ = ((f1 ρ).bind fun a ρ1 => (f2 ρ1).bind fun b ρ2 => match cont ρ2 (hold a), cont ρ2 (hold b) with
  | some m, some n => match g m n with
    | some (.v (.bl true)) => (f3 ρ2).bind fun c ρ3 => match cont ρ3 (hold b), cont ρ3 c with
      | some n', some l => match g' n' l with
        | some rv => .ok rv ρ3
        | none => .bad
      | _, _ => .bad
    | some (.v (.bl false)) => .ok (.v (.bl false)) ρ2
    | _ => .bad
  | _, _ => .bad) := rfl
@[simp] theorem fAnd_s (f g : Rho → Res Bool) (ρ : Rho) : fAnd f g ρ = ((f ρ).bind fun b ρ1 => match b with
  | true => g ρ1
  | false => .ok false ρ1) := rfl
@[simp] theorem fOr_s (f g : Rho → Res Bool) (ρ : Rho) : fOr f g ρ = ((f ρ).bind fun b ρ1 => match b with
  | true => .ok true ρ1
  | false => g ρ1) := rfl
@[simp] theorem fNot_s (f : Rho → Res Bool) (ρ : Rho) : fNot f ρ = ((f ρ).bind fun b ρ1 => .ok (!b) ρ1) := rfl
@[simp] theorem fAndV_s (f g : Rho → Res RV) (ρ : Rho) : fAndV f g ρ = ((f ρ).bind fun a ρ1 => match cont ρ1 a with
  | some (.bl true) => g ρ1
  | some (.bl false) => .ok (.v (.bl false)) ρ1
  | _ => .bad) := rfl
@[simp] theorem fOrV_s (f g : Rho → Res RV) (ρ : Rho) : fOrV f g ρ = ((f ρ).bind fun a ρ1 => match cont ρ1 a with
  | some (.bl true) => .ok (.v (.bl true)) ρ1
  | some (.bl false) => g ρ1
  | _ => .bad) := rfl
@[simp] theorem fNotV_s (f : Rho → Res RV) (ρ : Rho) : fNotV f ρ = ((f ρ).bind fun a ρ1 => match cont ρ1 a with
  | some (.bl b) => .ok (.v (.bl (!b))) ρ1
  | _ => .bad) := rfl
@[simp] theorem fIf_s (c : Rho → Res Bool) (f g : Rho → Res RV) (ρ : Rho) : fIf c f g ρ = ((c ρ).bind fun b ρ1 => match b with
  | true => f ρ1
  | false => g ρ1) := rfl
@[simp] theorem gIs_s (neg : Bool) (m n : MV) : gIs neg m n = (match m, n with
  | .non, .non => some (.v (.bl (!neg)))
  | .bl a, .bl b => some (.v (.bl (if neg then !decide (a = b) else decide (a = b))))
  | m, .non => some (.v (.bl neg))
  | _, _ => none) := rfl
@[simp] theorem gOrd_s (p : Int → Int → Bool) (q : List Nat → List Nat → Bool) (m n : MV) : gOrd p q m n = (match m, n with
  | .int i, .int j => some (.v (.bl (p i j)))
  | .str x, .str y => some (.v (.bl (q x.cps.toList y.cps.toList)))
  | _, _ => none) := rfl
@[simp] theorem gAdd_s (m n : MV) : gAdd m n = (match m, n with
  | .int i, .int j => some (.v (.int (i + j)))
  | .str x, .str y => if x.length + y.length ≤ sizeLine then some (.v (.str (x ++ y))) else none
  | .lst xs, .lst ys => if xs.length + ys.length ≤ sizeLine then some (.o (.lst (xs ++ ys))) else none
  | .tup xs, .tup ys => if xs.length + ys.length ≤ sizeLine then some (.v (.tup (xs ++ ys))) else none
  | _, _ => none) := rfl
@[simp] theorem gInt_s (C : Int → Int → Bool) (f : Int → Int → Int) (m n : MV) : gInt C f m n = (match m, n with
  | .int i, .int j => if C i j = true then some (.v (.int (f i j))) else none
  | _, _ => none) := rfl
@[simp] theorem cMul_s (i j : Int) : cMul i j = (decide (i.natAbs < 18446744073709551616) || decide (j.natAbs < 18446744073709551616)) := rfl
@[simp] theorem fNeg_s (f : Rho → Res RV) (ρ : Rho) : fNeg f ρ = ((f ρ).bind fun a ρ1 => match cont ρ1 a with
  | some (.int i) => .ok (.v (.int (-i))) ρ1
  | _ => .bad) := rfl
@[simp] theorem gIx_s (m n : MV) : gIx m n = (match m, n with
  | .lst ms, .int i => match atI ms i with
    | some x => some (.v x)
    | none => none
  | .tup ms, .int i => match atI ms i with
    | some x => some (.v x)
    | none => none
  | .str z, .int i => if z.length ≤ sizeLine then match atI z.cps.toList i with
    | some c => some (.v (.str ⟨#[c]⟩))
    | none => none
    else none
  | _, _ => none) := rfl
@[simp] theorem cutL_s {α : Type} (xs : List α) (lo hi : Option Int) : cutL xs lo hi = ((xs.drop (HT.sIx xs.length 0 lo)).take (HT.sIx xs.length xs.length hi - HT.sIx xs.length 0 lo)) := rfl
@[simp] theorem fNoPart_s  (ρ : Rho) : fNoPart  ρ = (.ok none ρ) := rfl
@[simp] theorem fPart_s (f : Rho → Res RV) (ρ : Rho) : fPart f ρ = ((f ρ).bind fun a ρ1 => match cont ρ1 a with
  | some (.int i) => .ok (some i) ρ1
  | _ => .bad) := rfl
@[simp] theorem gSl_s (m : MV) (lo hi : Option Int) : gSl m lo hi = (match m with
  | .lst ms => some (.o (.lst (cutL ms lo hi)))
  | .scr ns => some (.o (.lst ((cutL ns lo hi).map .int)))
  | .tup ms => some (.v (.tup (cutL ms lo hi)))
  | .str z => if z.length ≤ sizeLine then some (.v (.str (cutS z lo hi))) else none
  | _ => none) := rfl
@[simp] theorem fSl_s (f : Rho → Res RV) (fl fh : Rho → Res (Option Int)) (ρ : Rho) : fSl f fl fh ρ = ((f ρ).bind fun a ρ1 => (fl ρ1).bind fun lo ρ2 => (fh ρ2).bind fun hi ρ3 => match cont ρ3 (hold a) with
  | some m => match gSl m lo hi with
    | some rv => .ok rv ρ3
    | none => .bad
  | none => .bad) := rfl
@[simp] theorem fRev_s (f : Rho → Res RV) (ρ : Rho) : fRev f ρ = ((f ρ).bind fun a ρ1 => match cont ρ1 a with
  | some (.lst ms) => .ok (.o (.lst ms.reverse)) ρ1
  | _ => .bad) := rfl
@[simp] theorem fCB_s (g : List MV → Option RV) (f : Rho → Res (List RV)) (ρ : Rho) : fCB g f ρ = ((f ρ).bind fun as ρ1 => match conts ρ1 as with
  | some ms => match g ms with
    | some rv => .ok rv ρ1
    | none => .bad
  | none => .bad) := rfl
@[simp] theorem gLen_s (ms : List MV) : gLen ms = (match ms with
  | [.lst xs] => some (.v (.int xs.length))
  | [.tup xs] => some (.v (.int xs.length))
  | [.scr xs] => some (.v (.int xs.length))
  | [.str z] => if z.length ≤ sizeLine then some (.v (.int z.length)) else none
  | _ => none) := rfl
@[simp] theorem gBls_s (f : List Bool → Bool) (ms : List MV) : gBls f ms = (match ms with
  | [.lst xs] => match asBls xs with
    | some bs => some (.v (.bl (f bs)))
    | none => none
  | _ => none) := rfl
@[simp] theorem gSum_s (ms : List MV) : gSum ms = (match ms with
  | [.lst xs] => match asInts xs with
    | some bs => some (.v (.int bs.sum))
    | none => none
  | _ => none) := rfl
@[simp] theorem gTuple_s (ms : List MV) : gTuple ms = (match ms with
  | [.lst xs] => some (.v (.tup xs))
  | [.tup xs] => some (.v (.tup xs))
  | _ => none) := rfl
@[simp] theorem gList_s (ms : List MV) : gList ms = (match ms with
  | [.lst xs] => some (.o (.lst xs))
  | [.tup xs] => some (.o (.lst xs))
  | _ => none) := rfl
@[simp] theorem gAbs_s (ms : List MV) : gAbs ms = (match ms with
  | [.int i] => some (.v (.int (if i < 0 then -i else i)))
  | _ => none) := rfl
@[simp] theorem gIntOf_s (ms : List MV) : gIntOf ms = (match ms with
  | [.int i] => some (.v (.int i))
  | [.bl b] => some (.v (.int (if b then 1 else 0)))
  | _ => none) := rfl
@[simp] theorem lstAt_s (ρ : Rho) (i : Nat) : lstAt ρ i = (match ρ[i]? with
  | some (.ow (.lst ms)) => some ms
  | some (.io (.lst ms)) => some ms
  | _ => none) := rfl
@[simp] theorem putL_s (ρ : Rho) (i : Nat) (ms : List MV) : putL ρ i ms = (match ρ[i]? with
  | some (.ow _) => ρ.set i (.ow (.lst ms))
  | some (.io _) => ρ.set i (.io (.lst ms))
  | _ => ρ) := rfl
@[simp] theorem fMut_s (u : List MV → List MV → Option (List MV × MV)) (i : Nat) (fa : Rho → Res (List RV)) (ρ : Rho) : fMut u i fa ρ = (match lstAt ρ i with
  | none => .bad
  | some _ => (fa ρ).bind fun as ρ1 => (shrs ρ1 as).bind fun ms ρ2 => match lstAt ρ2 i with
    | none => .bad
    | some ls => match u ls ms with
      | some (ls', res) => .ok (.v res) (putL ρ2 i ls')
      | none => .bad) := rfl
@[simp] theorem fMut0_s (u : List MV → List MV → Option (List MV × MV)) (i : Nat) (ρ : Rho) : fMut0 u i ρ = (match lstAt ρ i with
  | none => .bad
  | some ls => match u ls [] with
    | some (ls', res) => .ok (.v res) (putL ρ i ls')
    | none => .bad) := rfl
@[simp] theorem uAppend_s (ls args : List MV) : uAppend ls args = (match args with
  | [m] => if ls.length < sizeLine then some (ls ++ [m], .non) else none
  | _ => none) := rfl
@[simp] theorem uExtend_s (ls args : List MV) : uExtend ls args = (match args with
  | [.lst ns] => if ls.length + ns.length ≤ sizeLine then some (ls ++ ns, .non) else none
  | _ => none) := rfl
@[simp] theorem fnOf_s (n : Nat) (g : Rho → SRes) (ρ : Rho) : fnOf n g ρ = (finF ρ.length (g (ρ ++ List.replicate (n - ρ.length) .no))) := rfl
@[simp] theorem fCall_s (np : Nat) (io : Option Nat) (F : Rho → FRes) (f : Rho → Res (List RV)) (ρ : Rho) : fCall np io F f ρ = ((f ρ).bind fun as ρ1 => (mkA io ρ1 as).bind fun ss ρ2 => match if ss.length = np then F ss else .bad with
  | .ret (.b _) _ => .bad
  | .ret r ρ' => match putBack io as ρ' ρ2 with
    | some ρ3 => .ok r ρ3
    | none => .bad
  | .ex x ρ' => match putBack io as ρ' ρ2 with
    | some ρ3 => .ex x ρ3
    | none => .bad
  | .bad => .bad) := rfl
@[simp] theorem gSeq_s (g1 g2 : Rho → SRes) (ρ : Rho) : gSeq g1 g2 ρ = ((g1 ρ).seq g2) := rfl
@[simp] theorem gExpr_s (f : Rho → Res RV) (ρ : Rho) : gExpr f ρ = ((f ρ).toS fun _ ρ1 => .nx ρ1) := rfl
@[simp] theorem gRet_s (f : Rho → Res RV) (ρ : Rho) : gRet f ρ = ((f ρ).toS fun a ρ1 => retS ρ1 a) := rfl
@[simp] theorem gIf_s (c : Rho → Res Bool) (g1 g2 : Rho → SRes) (ρ : Rho) : gIf c g1 g2 ρ = ((c ρ).toS fun b ρ1 => match b with
  | true => g1 ρ1
  | false => g2 ρ1) := rfl
@[simp] theorem free_s (ρ : Rho) (i : Nat) : free ρ i = (match ρ[i]? with
  | some (.io _) => false
  | some _ => true
  | none => false) := rfl
@[simp] theorem setS_s (i : Nat) (ρ : Rho) (a : RV) : setS i ρ a = (if free ρ i = true then match a with
    | .v m => some (ρ.set i (.sh m))
    | .o m => some (ρ.set i (.ow m))
    | .b j => match shr ρ (.b j) with
      | .ok m ρ1 => some (ρ1.set i (.sh m))
      | _ => none
  else none) := rfl
@[simp] theorem gSet_s (i : Nat) (f : Rho → Res RV) (ρ : Rho) : gSet i f ρ = ((f ρ).toS fun a ρ1 => match setS i ρ1 a with
  | some ρ2 => .nx ρ2
  | none => .bad) := rfl
@[simp] theorem uName_s (i : Nat) (m : MV) (ρ : Rho) : uName i m ρ = (if free ρ i = true then some (ρ.set i (.sh m)) else none) := rfl
@[simp] theorem uNil_s (ms : List MV) (ρ : Rho) : uNil ms ρ = (match ms with
  | [] => some ρ
  | _ => none) := rfl
@[simp] theorem uCons_s (u : MV → Rho → Option Rho) (us : List MV → Rho → Option Rho) (ms : List MV) (ρ : Rho) : uCons u us ms ρ = (match ms with
  | m :: r => match u m ρ with
    | some ρ1 => us r ρ1
    | none => none
  | [] => none) := rfl
@[simp] theorem uTup_s (n : Nat) (us : List MV → Rho → Option Rho) (m : MV) (ρ : Rho) : uTup n us m ρ = (match m with
  | .tup ms => if ms.length = n then us ms ρ else none
  | _ => none) := rfl
@[simp] theorem gAsg_s (u : MV → Rho → Option Rho) (f : Rho → Res RV) (ρ : Rho) : gAsg u f ρ = ((f ρ).toS fun a ρ1 => match shr ρ1 a with
  | .ok m ρ2 => match u m ρ2 with
    | some ρ3 => .nx ρ3
    | none => .bad
  | _ => .bad) := rfl
@[simp] theorem gSetIx_s (i : Nat) (fi f : Rho → Res RV) (ρ : Rho) : gSetIx i fi f ρ = ((f ρ).toS fun a ρ1 => match shr ρ1 a with
  | .ok m ρ2 => match lstAt ρ2 i with
    | some _ => (fi ρ2).toS fun b ρ3 => match cont ρ3 b, lstAt ρ3 i with
      | some (.int k), some ls => match ixN ls.length k with
        | some j => .nx (putL ρ3 i (ls.set j m))
        | none => .bad
      | _, _ => .bad
    | none => .bad
  | _ => .bad) := rfl
@[simp] theorem gAug_s (f : Int → Int → Int) (i : Nat) (fe : Rho → Res RV) (ρ : Rho) : gAug f i fe ρ = (match ρ[i]? with
  | some (.sh (.int a)) => (fe ρ).toS fun b ρ1 => match cont ρ1 b with
    | some (.int k) => match setS i ρ1 (.v (.int (f a k))) with
      | some ρ2 => .nx ρ2
      | none => .bad
    | _ => .bad
  | _ => .bad) := rfl
@[simp] theorem gFor_s (fi : Rho → Res (List MV)) (u : MV → Rho → Option Rho) (b : Rho → SRes) (ρ : Rho) : gFor fi u b ρ = ((fi ρ).toS fun ms ρ1 => forF u b ms ρ1) := rfl
@[simp] theorem fItems_s (f : Rho → Res RV) (ρ : Rho) : fItems f ρ = ((f ρ).bind fun a ρ1 => (shr ρ1 a).bind fun m ρ2 => match m with
  | .lst ms => .ok ms ρ2
  | .tup ms => .ok ms ρ2
  | .str z => .ok (signs z) ρ2
  | _ => .bad) := rfl
@[simp] theorem small62_s (i : Int) : small62 i = decide (i.natAbs < 1000000) := rfl
@[simp] theorem fRange1_s (f : Rho → Res (List RV)) (ρ : Rho) : fRange1 f ρ = ((f ρ).bind fun as ρ1 => match conts ρ1 as with
  | some [.int j] => if small62 j = true then .ok (rgM 0 j.toNat) ρ1 else .bad
  | _ => .bad) := rfl
@[simp] theorem fRange2_s (f : Rho → Res (List RV)) (ρ : Rho) : fRange2 f ρ = ((f ρ).bind fun as ρ1 => match conts ρ1 as with
  | some [.int i, .int j] => if small62 i = true ∧ small62 j = true then .ok (rgM i (j - i).toNat) ρ1 else .bad
  | _ => .bad) := rfl
@[simp] theorem fLc_s (vs : List Nat) (fi : Rho → Res (List MV)) (u : MV → Rho → Option Rho) (t : Rho → Res Bool) (e : Rho → Res RV) (ρ : Rho) : fLc vs fi u t e ρ = ((fi ρ).bind fun ms ρ1 => match lcF vs u t e ms [] ρ1 with
  | .ok ys ρ2 => .ok (.o (.lst ys)) ρ2
  | _ => .bad) := rfl
@[simp] theorem fEnum_s (f : Rho → Res (List RV)) (ρ : Rho) : fEnum f ρ = ((f ρ).bind fun as ρ1 => (shrs ρ1 as).bind fun ms ρ2 => match ms with
  | [m] => match seqM m with
    | some xs => .ok (enumM 0 xs) ρ2
    | none => .bad
  | _ => .bad) := rfl
@[simp] theorem fZip_s (f : Rho → Res (List RV)) (ρ : Rho) : fZip f ρ = ((f ρ).bind fun as ρ1 => (shrs ρ1 as).bind fun ms ρ2 => match ms with
  | [m, n] => match seqM m, seqM n with
    | some xs, some ys => .ok (zipM xs ys) ρ2
    | _, _ => .bad
  | _ => .bad) := rfl
@[simp] theorem gRaise_s (x : Str) (ρ : Rho) : gRaise x ρ = (.ex ⟨x, none⟩ ρ) := rfl
@[simp] theorem gTry_s (tbl : List (Str × Bool)) (b h : Rho → SRes) (ρ : Rho) : gTry tbl b h ρ = (match b ρ with
  | .ex x ρ1 => match tbl.lookup x.cls with
    | some true => noEx (h ρ1)
    | some false => .ex x ρ1
    | none => .bad
  | r => r) := rfl
@[simp] theorem fNNil_s  (ρ : Rho) : fNNil  ρ = (.ok [] ρ) := rfl
@[simp] theorem fNCons_s (f : Rho → Res RV) (g : Rho → Res (List RV)) (ρ : Rho) : fNCons f g ρ = (((f ρ).bind nrm).bind fun a ρ1 => (g ρ1).bind fun as ρ2 => .ok (a :: as) ρ2) := rfl
@[simp] theorem gParN_s (is : List Nat) (f : Rho → Res (List RV)) (ρ : Rho) : gParN is f ρ = ((f ρ).toS fun as ρ1 => match setNs is as ρ1 with
  | some ρ2 => .nx ρ2
  | none => .bad) := rfl
@[simp] theorem fMt_s (t : String) (g : MV → List MV → Option RV) (fo : Rho → Res RV) (fa : Rho → Res (List RV)) (ρ : Rho) : fMt t g fo fa ρ = ((fo ρ).bind fun o ρ1 => match cont ρ1 (hold o) with
  | some m0 => if tyM t m0 = true then (fa ρ1).bind fun as ρ2 => match cont ρ2 (hold o), conts ρ2 as with
      | some m, some ms => match g m ms with
        | some rv => .ok rv ρ2
        | none => .bad
      | _, _ => .bad
    else .bad
  | none => .bad) := rfl
@[simp] theorem gSIndex_s (m : MV) (ms : List MV) : gSIndex m ms = (match m, ms with
  | .str a, [.str b] => match Txt.index0 a b with
    | some k => some (.v (.int (k : Nat)))
    | none => none
  | _, _ => none) := rfl
@[simp] theorem flatKs_s (kvs : List (MV × MV)) : flatKs kvs = (kvs.all fun p => isKey p.1) := rfl
@[simp] theorem gInDic_s (neg : Bool) (m n : MV) : gInDic neg m n = (match n with
  | .dic kvs => if isKey m = true ∧ kvs ≠ [] ∧ flatKs kvs = true then some (.v (.bl (if neg then !(dGet kvs m).isSome else (dGet kvs m).isSome))) else none
  | _ => none) := rfl
@[simp] theorem gIxDic_s (m n : MV) : gIxDic m n = (match m with
  | .dic kvs => if isKey n = true then (dGet kvs n).map .v else none
  | _ => none) := rfl
@[simp] theorem gOr_s (g g' : MV → MV → Option RV) (m n : MV) : gOr g g' m n = (match g m n with
  | some r => some r
  | none => g' m n) := rfl
@[simp] theorem fDispN_s (f : Rho → Res RV) (ρ : Rho) : fDispN f ρ = ((f ρ).bind fun a ρ1 => (shr ρ1 a).bind fun m ρ2 => .ok (.v (.dic [(.non, m)])) ρ2) := rfl
@[simp] theorem capR_s (ρ : Rho) : capR ρ = (ρ.map fun s => match s with
  | .sh m => .sh m
  | _ => .no) := rfl
@[simp] theorem lamV_s (fb : Rho → Res RV) (ρ0 : Rho) (n : Nat) (ms : List MV) : lamV fb ρ0 n ms = (if ms.length = n then match fb (capR ρ0 ++ ms.map .sh) with
    | .ok a ρ1 => match shr ρ1 a with
      | .ok m _ => some m
      | _ => none
    | _ => none
  else none) := rfl
@[simp] theorem fAct_s (i : Nat) (f : Addr) (φ : List MV → Option MV) (fa : Rho → Res (List RV)) (ρ : Rho) : fAct i f φ fa ρ = (match ρ[i]? with
  | some (.sh (.fn f')) => if f' = f then (fa ρ).bind fun as ρ1 => (shrs ρ1 as).bind fun ms ρ2 => match φ ms with
      | some m => .ok (.v m) ρ2
      | none => .bad
    else .bad
  | _ => .bad) := rfl
@[simp] theorem fnV_s (n : Nat) (F : Rho → FRes) (ms : List MV) : fnV n F ms = (if ms.length = n then match F (ms.map .sh) with
    | .ret (.v m) _ => some m
    | .ret (.o m) _ => some m
    | _ => none
  else none) := rfl
@[simp] theorem bind_ok {α β : Type} (a : α) (ρ : Rho) (k : α → Rho → Res β) : (Res.ok a ρ).bind k = k a ρ := rfl
@[simp] theorem bind_ex {α β : Type} (x : Exn) (ρ : Rho) (k : α → Rho → Res β) : (Res.ex x ρ : Res α).bind k = .ex x ρ := rfl
@[simp] theorem bind_bad {α β : Type} (k : α → Rho → Res β) : (Res.bad : Res α).bind k = .bad := rfl
@[simp] theorem toS_ok {α : Type} (a : α) (ρ : Rho) (k : α → Rho → SRes) : (Res.ok a ρ).toS k = k a ρ := rfl
@[simp] theorem toS_ex {α : Type} (x : Exn) (ρ : Rho) (k : α → Rho → SRes) : (Res.ex x ρ : Res α).toS k = .ex x ρ := rfl
@[simp] theorem toS_bad {α : Type} (k : α → Rho → SRes) : (Res.bad : Res α).toS k = .bad := rfl
@[simp] theorem seq_nx (ρ : Rho) (k : Rho → SRes) : (SRes.nx ρ).seq k = k ρ := rfl
@[simp] theorem seq_rt (r : RV) (ρ : Rho) (k : Rho → SRes) : (SRes.rt r ρ).seq k = .rt r ρ := rfl
@[simp] theorem seq_bk (ρ : Rho) (k : Rho → SRes) : (SRes.bk ρ).seq k = .bk ρ := rfl
@[simp] theorem seq_ct (ρ : Rho) (k : Rho → SRes) : (SRes.ct ρ).seq k = .ct ρ := rfl
@[simp] theorem seq_ex (x : Exn) (ρ : Rho) (k : Rho → SRes) : (SRes.ex x ρ).seq k = .ex x ρ := rfl
@[simp] theorem seq_bad (k : Rho → SRes) : SRes.bad.seq k = .bad := rfl
@[simp] theorem hold_v (m : MV) : hold (.v m) = .v m := rfl
@[simp] theorem hold_o (m : MV) : hold (.o m) = .v m := rfl
@[simp] theorem hold_b (i : Nat) : hold (.b i) = .b i := rfl
@[simp] theorem cont_v (m : MV) (ρ : Rho) : cont ρ (.v m) = some m := rfl
@[simp] theorem cont_o (m : MV) (ρ : Rho) : cont ρ (.o m) = some m := rfl
@[simp] theorem cont_b (i : Nat) (ρ : Rho) : cont ρ (.b i) = (ρ[i]?).bind Sl.mv := rfl
@[simp] theorem mv_sh (m : MV) : Sl.mv (.sh m) = some m := rfl
@[simp] theorem mv_ow (m : MV) : Sl.mv (.ow m) = some m := rfl
@[simp] theorem mv_io (m : MV) : Sl.mv (.io m) = some m := rfl
@[simp] theorem mv_no : Sl.mv .no = none := rfl
@[simp] theorem shr_v (m : MV) (ρ : Rho) : shr ρ (.v m) = .ok m ρ := rfl
@[simp] theorem shr_o (m : MV) (ρ : Rho) : shr ρ (.o m) = .ok m ρ := rfl
@[simp] theorem shr_b (i : Nat) (ρ : Rho) : shr ρ (.b i) = (match ρ[i]? with
    | some (.sh m) => .ok m ρ
    | some (.ow m) => .ok m (ρ.set i (.sh m))
    | _ => .bad) := rfl
@[simp] theorem shrs_nil (ρ : Rho) : shrs ρ [] = .ok [] ρ := rfl
@[simp] theorem shrs_cons (ρ : Rho) (a : RV) (as : List RV) : shrs ρ (a :: as) = ((shr ρ a).bind fun m ρ1 => (shrs ρ1 as).bind fun ms ρ2 => .ok (m :: ms) ρ2) := rfl
@[simp] theorem conts_nil (ρ : Rho) : conts ρ [] = some [] := rfl
@[simp] theorem mkA_nil (io : Option Nat) (ρ : Rho) : mkA io ρ [] = .ok [] ρ := by cases io with
  | none => rfl
  | some n => cases n <;> rfl
@[simp] theorem mkA_no (ρ : Rho) (a : RV) (as : List RV) : mkA none ρ (a :: as) = ((shr ρ a).bind fun m ρ1 => (mkA none ρ1 as).bind fun ss ρ2 => .ok (.sh m :: ss) ρ2) := by rw [mkA]
@[simp] theorem mkA_io (ρ : Rho) (i : Nat) (as : List RV) : mkA (some 0) ρ (.b i :: as) = (match ρ[i]? with
    | some (.ow _) => (mkA none ρ as).bind fun ss ρ' => match ρ'[i]? with
      | some (.ow m) => .ok (.io m :: ss) ρ'
      | _ => .bad
    | some (.io _) => (mkA none ρ as).bind fun ss ρ' => match ρ'[i]? with
      | some (.io m) => .ok (.io m :: ss) ρ'
      | _ => .bad
    | _ => .bad) := rfl
@[simp] theorem mkA_succ (ρ : Rho) (j : Nat) (a : RV) (as : List RV) : mkA (some (j + 1)) ρ (a :: as) = ((shr ρ a).bind fun m ρ1 => (mkA (some j) ρ1 as).bind fun ss ρ2 => .ok (.sh m :: ss) ρ2) := by rw [mkA]
@[simp] theorem putBack_no (as : List RV) (ρ' ρ : Rho) : putBack none as ρ' ρ = some ρ := rfl
@[simp] theorem putBack_io (j : Nat) (as : List RV) (ρ' ρ : Rho) : putBack (some j) as ρ' ρ = (match as[j]? with
    | some (.b i) => match ρ'[j]?, ρ[i]? with
      | some (.io m), some (.ow _) => some (ρ.set i (.ow m))
      | some (.io m), some (.io _) => some (ρ.set i (.io m))
      | _, _ => none
    | _ => none) := rfl
@[simp] theorem retS_v (ρ : Rho) (m : MV) : retS ρ (.v m) = .rt (.v m) ρ := rfl
@[simp] theorem retS_o (ρ : Rho) (m : MV) : retS ρ (.o m) = .rt (.o m) ρ := rfl
@[simp] theorem loopS_nx (ρ : Rho) (k : Rho → SRes) : loopS (.nx ρ) k = k ρ := rfl
@[simp] theorem loopS_ct (ρ : Rho) (k : Rho → SRes) : loopS (.ct ρ) k = k ρ := rfl
@[simp] theorem loopS_bk (ρ : Rho) (k : Rho → SRes) : loopS (.bk ρ) k = .nx ρ := rfl
@[simp] theorem loopS_rt (r : RV) (ρ : Rho) (k : Rho → SRes) : loopS (.rt r ρ) k = .rt r ρ := rfl
@[simp] theorem forF_nil (u : MV → Rho → Option Rho) (b : Rho → SRes) (ρ : Rho) : forF u b [] ρ = .nx ρ := rfl
theorem forF_cons (u : MV → Rho → Option Rho) (b : Rho → SRes) (m : MV) (ms : List MV) (ρ : Rho) : forF u b (m :: ms) ρ = (match u m ρ with
  | some ρ1 => loopS (b ρ1) (forF u b ms)
  | none => .bad) := rfl
theorem whileF_succ (t : Rho → Res Bool) (b : Rho → SRes) (n : Nat) (ρ : Rho) : whileF t b (n + 1) ρ = ((t ρ).toS fun c ρ1 => match c with
    | true => loopS (b ρ1) (whileF t b n)
    | false => .nx ρ1) := rfl
@[simp] theorem finF_nx (n : Nat) (ρ : Rho) : finF n (.nx ρ) = .ret (.v .non) (keepIo n ρ) := rfl
@[simp] theorem finF_v (n : Nat) (m : MV) (ρ : Rho) : finF n (.rt (.v m) ρ) = .ret (.v m) (keepIo n ρ) := rfl
@[simp] theorem finF_o (n : Nat) (m : MV) (ρ : Rho) : finF n (.rt (.o m) ρ) = .ret (.o m) (keepIo n ρ) := rfl
@[simp] theorem finF_ex (n : Nat) (x : Exn) (ρ : Rho) : finF n (.ex x ρ) = .ex x (keepIo n ρ) := rfl
@[simp] theorem keepIo_0 (ρ : Rho) : keepIo 0 ρ = [] := rfl
def kIo : Sl → Sl
  | .io m => .io m
  | _ => .no
@[simp] theorem kIo_io (m : MV) : kIo (.io m) = .io m := rfl
@[simp] theorem kIo_sh (m : MV) : kIo (.sh m) = .no := rfl
@[simp] theorem kIo_ow (m : MV) : kIo (.ow m) = .no := rfl
@[simp] theorem kIo_no : kIo .no = .no := rfl
@[simp] theorem keepIo_s (n : Nat) (s : Sl) (ρ : Rho) : keepIo (n + 1) (s :: ρ) = kIo s :: keepIo n ρ := by
  unfold keepIo
  rw [List.range_succ_eq_map, List.map_cons, List.map_map]
  congr 1
  cases s <;> rfl
@[simp] theorem setNs_0 (ρ : Rho) : setNs [] [] ρ = some ρ := rfl
@[simp] theorem setNs_1 (i : Nat) (is : List Nat) (a : RV) (as : List RV) (ρ : Rho) : setNs (i :: is) (a :: as) ρ = (match setS i ρ a with
    | some ρ1 => setNs is as ρ1
    | none => none) := rfl
@[simp] theorem nrm_v (m : MV) (ρ : Rho) : nrm (.v m) ρ = .ok (.v m) ρ := rfl
@[simp] theorem nrm_o (m : MV) (ρ : Rho) : nrm (.o m) ρ = .ok (.o m) ρ := rfl
@[simp] theorem nrm_b (l : Nat) (ρ : Rho) : nrm (.b l) ρ = (match shr ρ (.b l) with
    | .ok m ρ1 => .ok (.v m) ρ1
    | _ => .bad) := rfl
@[simp] theorem wipeR_0 (ρ : Rho) : wipeR [] ρ = ρ := rfl
@[simp] theorem wipeR_1 (v : Nat) (vs : List Nat) (ρ : Rho) : wipeR (v :: vs) ρ = (wipeR vs ρ).set v .no := rfl
@[simp] theorem backR_0 (ρ0 ρ : Rho) : backR [] ρ0 ρ = ρ := rfl
@[simp] theorem backR_1 (v : Nat) (vs : List Nat) (ρ0 ρ : Rho) : backR (v :: vs) ρ0 ρ = (backR vs ρ0 ρ).set v (strip ρ0[v]?) := rfl
@[simp] theorem strip_sh (m : MV) : strip (some (.sh m)) = .sh m := rfl
@[simp] theorem strip_ow (m : MV) : strip (some (.ow m)) = .no := rfl
@[simp] theorem strip_io (m : MV) : strip (some (.io m)) = .no := rfl
@[simp] theorem strip_no : strip (some .no) = .no := rfl
@[simp] theorem noEx_nx (ρ : Rho) : noEx (.nx ρ) = .nx ρ := rfl
@[simp] theorem noEx_rt (r : RV) (ρ : Rho) : noEx (.rt r ρ) = .rt r ρ := rfl
@[simp] theorem tsNil_s (ρ : Rho) : tsNil ρ = .ok true ρ := rfl
@[simp] theorem isKey_non : isKey .non = true := rfl
@[simp] theorem isKey_int (i : Int) : isKey (.int i) = true := rfl
@[simp] theorem isKey_str (x : Str) : isKey (.str x) = true := rfl
@[simp] theorem dGet_0 (m : MV) : dGet [] m = none := rfl
@[simp] theorem dGet_1 (k v m : MV) (r : List (MV × MV)) : dGet ((k, v) :: r) m = (if keyEq k m = true then some v else dGet r m) := rfl
@[simp] theorem cTrue_s (i j : Int) : cTrue i j = true := rfl
@[simp] theorem cDiv_s (i j : Int) : cDiv i j = (decide (0 < j) && decide (j.natAbs < 1073741824)) := rfl
@[simp] theorem cMod_s (i j : Int) : cMod i j = decide (0 < j) := rfl
@[simp] theorem seqM_l (ms : List MV) : seqM (.lst ms) = some ms := rfl
@[simp] theorem seqM_t (ms : List MV) : seqM (.tup ms) = some ms := rfl
@[simp] theorem tyM_s (x : Str) : tyM "str" (.str x) = true := rfl
@[simp] theorem conts_cons (ρ : Rho) (a : RV) (as : List RV) : conts ρ (a :: as) = (match cont ρ a, conts ρ as with
    | some m, some ms => some (m :: ms)
    | _, _ => none) := rfl
@[simp] theorem gIn_dic (neg : Bool) (m : MV) (kvs : List (MV × MV)) : gIn neg m (.dic kvs) = none := by cases m <;> rfl
@[simp] theorem keyEq_nn : keyEq .non .non = true := rfl
@[simp] theorem keyEq_ni (i : Int) : keyEq .non (.int i) = false := rfl
@[simp] theorem keyEq_ns (x : Str) : keyEq .non (.str x) = false := rfl
end DL
namespace DL
open PySem PySem.Spec PyProof.Rows L2 LamX
@[simp] theorem isi_non_tuple  : gIsi [.non, .ty "tuple"] = some (.v (.bl false)) := by rfl
@[simp] theorem isi_non_list  : gIsi [.non, .ty "list"] = some (.v (.bl false)) := by rfl
@[simp] theorem isi_non_int  : gIsi [.non, .ty "int"] = some (.v (.bl false)) := by rfl
@[simp] theorem isi_non_bool  : gIsi [.non, .ty "bool"] = some (.v (.bl false)) := by rfl
@[simp] theorem isi_non_str  : gIsi [.non, .ty "str"] = some (.v (.bl false)) := by rfl
@[simp] theorem isi_non_tl  : gIsi [.non, .tup [.ty "tuple", .ty "list"]] = some (.v (.bl false)) := by rfl
@[simp] theorem isi_bl_tuple (b : Bool) : gIsi [.bl b, .ty "tuple"] = some (.v (.bl false)) := by rfl
@[simp] theorem isi_bl_list (b : Bool) : gIsi [.bl b, .ty "list"] = some (.v (.bl false)) := by rfl
@[simp] theorem isi_bl_int (b : Bool) : gIsi [.bl b, .ty "int"] = some (.v (.bl true)) := by rfl
@[simp] theorem isi_bl_bool (b : Bool) : gIsi [.bl b, .ty "bool"] = some (.v (.bl true)) := by rfl
@[simp] theorem isi_bl_str (b : Bool) : gIsi [.bl b, .ty "str"] = some (.v (.bl false)) := by rfl
@[simp] theorem isi_bl_tl (b : Bool) : gIsi [.bl b, .tup [.ty "tuple", .ty "list"]] = some (.v (.bl false)) := by rfl
@[simp] theorem isi_int_tuple (i : Int) : gIsi [.int i, .ty "tuple"] = some (.v (.bl false)) := by rfl
@[simp] theorem isi_int_list (i : Int) : gIsi [.int i, .ty "list"] = some (.v (.bl false)) := by rfl
@[simp] theorem isi_int_int (i : Int) : gIsi [.int i, .ty "int"] = some (.v (.bl true)) := by rfl
@[simp] theorem isi_int_bool (i : Int) : gIsi [.int i, .ty "bool"] = some (.v (.bl false)) := by rfl
@[simp] theorem isi_int_str (i : Int) : gIsi [.int i, .ty "str"] = some (.v (.bl false)) := by rfl
@[simp] theorem isi_int_tl (i : Int) : gIsi [.int i, .tup [.ty "tuple", .ty "list"]] = some (.v (.bl false)) := by rfl
@[simp] theorem isi_str_tuple (x : Str) : gIsi [.str x, .ty "tuple"] = some (.v (.bl false)) := by rfl
@[simp] theorem isi_str_list (x : Str) : gIsi [.str x, .ty "list"] = some (.v (.bl false)) := by rfl
@[simp] theorem isi_str_int (x : Str) : gIsi [.str x, .ty "int"] = some (.v (.bl false)) := by rfl
@[simp] theorem isi_str_bool (x : Str) : gIsi [.str x, .ty "bool"] = some (.v (.bl false)) := by rfl
@[simp] theorem isi_str_str (x : Str) : gIsi [.str x, .ty "str"] = some (.v (.bl true)) := by rfl
@[simp] theorem isi_str_tl (x : Str) : gIsi [.str x, .tup [.ty "tuple", .ty "list"]] = some (.v (.bl false)) := by rfl
@[simp] theorem isi_tup_tuple (xs : List MV) : gIsi [.tup xs, .ty "tuple"] = some (.v (.bl true)) := by rfl
@[simp] theorem isi_tup_list (xs : List MV) : gIsi [.tup xs, .ty "list"] = some (.v (.bl false)) := by rfl
@[simp] theorem isi_tup_int (xs : List MV) : gIsi [.tup xs, .ty "int"] = some (.v (.bl false)) := by rfl
@[simp] theorem isi_tup_bool (xs : List MV) : gIsi [.tup xs, .ty "bool"] = some (.v (.bl false)) := by rfl
@[simp] theorem isi_tup_str (xs : List MV) : gIsi [.tup xs, .ty "str"] = some (.v (.bl false)) := by rfl
@[simp] theorem isi_tup_tl (xs : List MV) : gIsi [.tup xs, .tup [.ty "tuple", .ty "list"]] = some (.v (.bl true)) := by rfl
@[simp] theorem isi_lst_tuple (xs : List MV) : gIsi [.lst xs, .ty "tuple"] = some (.v (.bl false)) := by rfl
@[simp] theorem isi_lst_list (xs : List MV) : gIsi [.lst xs, .ty "list"] = some (.v (.bl true)) := by rfl
@[simp] theorem isi_lst_int (xs : List MV) : gIsi [.lst xs, .ty "int"] = some (.v (.bl false)) := by rfl
@[simp] theorem isi_lst_bool (xs : List MV) : gIsi [.lst xs, .ty "bool"] = some (.v (.bl false)) := by rfl
@[simp] theorem isi_lst_str (xs : List MV) : gIsi [.lst xs, .ty "str"] = some (.v (.bl false)) := by rfl
@[simp] theorem isi_lst_tl (xs : List MV) : gIsi [.lst xs, .tup [.ty "tuple", .ty "list"]] = some (.v (.bl true)) := by rfl
@[simp] theorem asBls_map {α : Type} (p : α → Bool) : ∀ xs : List α, asBls (xs.map fun x => .bl (p x)) = some (xs.map p)
  | [] => rfl
  | x :: xs => by rw [List.map_cons, asBls, asBls_map p xs]; rfl
@[simp] theorem asInts_map {α : Type} (p : α → Int) : ∀ xs : List α, asInts (xs.map fun x => .int (p x)) = some (xs.map p)
  | [] => rfl
  | x :: xs => by rw [List.map_cons, asInts, asInts_map p xs]; rfl
/-- a comprehension whose turns give g and leave the slots as they are -/
theorem lcF_map {vs : List Nat} {u : MV → Rho → Option Rho} {e : Rho → Res RV} {α : Type} {inj : α → MV} {g : α → MV} {ρ : Rho} : ∀ (xs : List α) (acc : List MV), acc.length + xs.length ≤ sizeLine →
    (∀ x ∈ xs, ∃ ρ1 a ρ3 ρ4, u (inj x) (wipeR vs ρ) = some ρ1 ∧ e ρ1 = .ok a ρ3 ∧ shr ρ3 a = .ok (g x) ρ4 ∧ backR vs ρ ρ4 = ρ) → lcF vs u tsNil e (xs.map inj) acc ρ = .ok (acc ++ xs.map g) ρ
  | [], acc, _, _ => by rw [List.map_nil, lcF_nil, List.map_nil, List.append_nil]
  | x :: xs, acc, hl, h => by
    obtain ⟨ρ1, a, ρ3, ρ4, h1, h2, h3, h4⟩ := h x List.mem_cons_self
    rw [List.length_cons] at hl
    rw [List.map_cons, lcF_cons, h1]
    simp only [tsNil, h2, h3, h4]
    rw [if_pos (by omega), lcF_map xs _ (by rw [List.length_append, List.length_singleton]; omega) fun y hy => h y (List.mem_cons_of_mem _ hy), List.map_cons, List.append_assoc]
    rfl
/-- .. with a filter -/
theorem lcF_filter {vs : List Nat} {u : MV → Rho → Option Rho} {t : Rho → Res Bool} {e : Rho → Res RV} {α : Type} {inj : α → MV} {g : α → MV} {p : α → Bool} {ρ : Rho} : ∀ (xs : List α) (acc : List MV), acc.length + xs.length ≤ sizeLine →
    (∀ x ∈ xs, ∃ ρ1 ρ2, u (inj x) (wipeR vs ρ) = some ρ1 ∧ t ρ1 = .ok (p x) ρ2 ∧ backR vs ρ ρ2 = ρ ∧ (p x = true → ∃ a ρ3 ρ4, e ρ2 = .ok a ρ3 ∧ shr ρ3 a = .ok (g x) ρ4 ∧ backR vs ρ ρ4 = ρ)) → lcF vs u t e (xs.map inj) acc ρ = .ok (acc ++ (xs.filter p).map g) ρ
  | [], acc, _, _ => by rw [List.map_nil, lcF_nil, List.filter_nil, List.map_nil, List.append_nil]
  | x :: xs, acc, hl, h => by
    obtain ⟨ρ1, ρ2, h1, h2, hb, h3⟩ := h x List.mem_cons_self
    rw [List.length_cons] at hl
    rw [List.map_cons, lcF_cons, h1]
    simp only [h2]
    cases hp : p x with
    | true =>
      obtain ⟨a, ρ3, ρ4, h4, h5, h6⟩ := h3 hp
      simp only [h4, h5, h6]
      rw [if_pos (by omega), lcF_filter xs _ (by rw [List.length_append, List.length_singleton]; omega) fun y hy => h y (List.mem_cons_of_mem _ hy), List.filter_cons_of_pos hp, List.map_cons, List.append_assoc]
      rfl
    | false =>
      simp only [hb]
      rw [lcF_filter xs _ (by omega) fun y hy => h y (List.mem_cons_of_mem _ hy), List.filter_cons_of_neg (by simp [hp])]
theorem size_big {n : Nat} (h : n ≤ 1000000) : n ≤ sizeLine := by rw [sizeLine_eq]; omega
/-! ### equality of data without bools -/
mutual
def MV.nob : MV → Bool
  | .non => true
  | .int _ => true
  | .str _ => true
  | .tup xs => nobs xs
  | .lst xs => nobs xs
  | .bl _ => false
  | .dic _ => false
  | .fn _ => false
  | .scr _ => false
  | .ty _ => false
def nobs : List MV → Bool
  | [] => true
  | x :: xs => x.nob && nobs xs
end
mutual
theorem nob_isD : ∀ m : MV, m.nob = true → m.isD = true
  | .non, _ => by rw [MV.isD]
  | .int _, _ => by rw [MV.isD]
  | .str _, _ => by rw [MV.isD]
  | .tup xs, h => by rw [isD_tup]; rw [MV.nob] at h; exact nobs_isD xs h
  | .lst xs, h => by rw [isD_lst]; rw [MV.nob] at h; exact nobs_isD xs h
  | .bl _, h => by rw [MV.nob] at h; cases h
  | .dic _, h => by rw [MV.nob] at h; cases h
  | .fn _, h => by rw [MV.nob] at h; cases h
  | .scr _, h => by rw [MV.nob] at h; cases h
  | .ty _, h => by rw [MV.nob] at h; cases h
theorem nobs_isD : ∀ xs : List MV, nobs xs = true → isDs xs = true
  | [], _ => by rw [isDs]
  | x :: xs, h => by
    rw [nobs] at h
    obtain ⟨h1, h2⟩ := Bool.and_eq_true_iff.mp h
    rw [isDs_cons, nob_isD x h1, nobs_isD xs h2]; rfl
end
mutual
theorem eqv_nob : ∀ m n : MV, m.nob = true → n.nob = true → (PyData.eqv m.pd n.pd = true ↔ m = n)
  | .non, n, _, h => by
    cases n <;> first | (rw [MV.nob] at h; exact absurd h (by decide)) | (simp [MV.pd, PyData.eqv])
  | .int i, n, _, h => by
    cases n <;> first | (rw [MV.nob] at h; exact absurd h (by decide)) | (simp [MV.pd, PyData.eqv])
  | .str x, n, _, h => by
    cases n <;> first | (rw [MV.nob] at h; exact absurd h (by decide)) | (simp [MV.pd, PyData.eqv])
  | .tup xs, n, h', h => by
    cases n <;> first | (rw [MV.nob] at h; exact absurd h (by decide)) | skip
    all_goals first
      | (rw [MV.nob] at h' h; rw [MV.pd, MV.pd, PyData.eqv, eqvs_nob xs _ h' h]; simp; done)
      | (simp [MV.pd, PyData.eqv])
  | .lst xs, n, h', h => by
    cases n <;> first | (rw [MV.nob] at h; exact absurd h (by decide)) | skip
    all_goals first
      | (rw [MV.nob] at h' h; rw [MV.pd, MV.pd, PyData.eqv, eqvs_nob xs _ h' h]; simp; done)
      | (simp [MV.pd, PyData.eqv])
  | .bl _, _, h, _ => by rw [MV.nob] at h; cases h
  | .dic _, _, h, _ => by rw [MV.nob] at h; cases h
  | .fn _, _, h, _ => by rw [MV.nob] at h; cases h
  | .scr _, _, h, _ => by rw [MV.nob] at h; cases h
  | .ty _, _, h, _ => by rw [MV.nob] at h; cases h
theorem eqvs_nob : ∀ xs ys : List MV, nobs xs = true → nobs ys = true → (PyData.eqvAll (pds xs) (pds ys) = true ↔ xs = ys)
  | [], [], _, _ => by simp [pds, PyData.eqvAll]
  | [], _ :: _, _, _ => by simp [pds, PyData.eqvAll]
  | _ :: _, [], _, _ => by simp [pds, PyData.eqvAll]
  | x :: xs, y :: ys, h, h' => by
    rw [nobs] at h h'
    obtain ⟨h1, h2⟩ := Bool.and_eq_true_iff.mp h
    obtain ⟨h3, h4⟩ := Bool.and_eq_true_iff.mp h'
    rw [pds, pds, PyData.eqvAll, Bool.and_eq_true, eqv_nob x y h1 h3, eqvs_nob xs ys h2 h4]
    simp
end
end DL
/-! trees with a label at each place, as data; loops over a pile of trees -/
namespace DL
open PySem PySem.Spec PyProof.Rows L2 LamX
@[simp] theorem uPop_snoc (S : List MV) (x : MV) : uPop (S ++ [x]) [] = some (S, x) := by
  simp [uPop]
@[simp] theorem uPop_two (S : List MV) (y x : MV) : uPop (S ++ [y, x]) [] = some (S ++ [y], x) := by
  have := uPop_snoc (S ++ [y]) x
  rwa [List.append_assoc] at this
inductive Tr (α : Type) where
  | e | n (a : α) (l r : Tr α)
namespace Tr
variable {α β : Type}
def size : Tr α → Nat
  | e => 0
  | n _ l r => 1 + l.size + r.size
def depth : Tr α → Nat
  | e => 0
  | n _ l r => 1 + max l.depth r.depth
def pre : Tr α → List α
  | e => []
  | n a l r => a :: (l.pre ++ r.pre)
def subs : Tr α → List (Tr α)
  | e => []
  | n a l r => n a l r :: (l.subs ++ r.subs)
def enc (f : α → MV) : Tr α → MV
  | e => .tup []
  | n a l r => .tup [f a, enc f l, enc f r]
/-- another label for each place, by its place -/
def fill (g : Nat → β) : Tr α → Nat → Tr β
  | e, _ => e
  | n _ l r, k => n (g k) (fill g l (k + 1)) (fill g r (k + 1 + l.size))
/-- the signs in order, None for each empty tree -/
def ord : Tr α → List (Option α)
  | e => [none]
  | n a l r => some a :: (l.ord ++ r.ord)
def cost : Tr α → Nat
  | e => 1
  | n _ l r => 1 + l.cost + r.cost
theorem cost_eq : ∀ t : Tr α, t.cost = 2 * t.size + 1
  | e => rfl
  | n _ l r => by rw [cost, size, cost_eq l, cost_eq r]; omega
theorem subs_len : ∀ t : Tr α, t.subs.length = t.size
  | e => rfl
  | n a l r => by rw [subs, size, List.length_cons, List.length_append, subs_len l, subs_len r]; omega
theorem pre_len : ∀ t : Tr α, t.pre.length = t.size
  | e => rfl
  | n a l r => by rw [pre, size, List.length_cons, List.length_append, pre_len l, pre_len r]; omega
theorem fill_size (g : Nat → β) : ∀ (t : Tr α) (k : Nat), (fill g t k).size = t.size
  | e, _ => rfl
  | n a l r, k => by rw [fill, size, size, fill_size g l, fill_size g r]
theorem fill_depth (g : Nat → β) : ∀ (t : Tr α) (k : Nat), (fill g t k).depth = t.depth
  | e, _ => rfl
  | n a l r, k => by rw [fill, depth, depth, fill_depth g l, fill_depth g r]
theorem fill_pre (g : Nat → β) : ∀ (t : Tr α) (k : Nat), (fill g t k).pre = (List.range' k t.size).map g
  | e, _ => rfl
  | n a l r, k => by
    rw [fill, pre, size, fill_pre g l, fill_pre g r, show 1 + l.size + r.size = (l.size + r.size) + 1 from by omega, List.range'_succ, List.map_cons, ← List.range'_append_1, List.map_append]
theorem depth_le : ∀ t : Tr α, t.depth ≤ t.size
  | e => Nat.le_refl _
  | n a l r => by rw [depth, size]; have := depth_le l; have := depth_le r; omega
theorem fill_fill {γ : Type} (g : Nat → β) (h : Nat → γ) : ∀ (t : Tr α) (k j : Nat), fill h (fill g t k) j = fill h t j
  | e, _, _ => rfl
  | n a l r, k, j => by rw [fill, fill, fill, fill_fill g h l, fill_fill g h r, fill_size]
theorem fill_congr (g h : Nat → β) : ∀ (t : Tr α) (k : Nat), (∀ i, k ≤ i → i < k + t.size → g i = h i) → fill g t k = fill h t k
  | e, _, _ => rfl
  | n a l r, k, q => by
    rw [size] at q
    rw [fill, fill, q k (Nat.le_refl _) (by omega), fill_congr g h l (k + 1) fun i h1 h2 => q i (by omega) (by omega), fill_congr g h r (k + 1 + l.size) fun i h1 h2 => q i (by omega) (by omega)]
/-- the labels themselves put back -/
theorem fill_self (t0 : Tr α) : ∀ (t : Tr α) (k : Nat) (g : Nat → α), (∀ (i : Nat) (a : α), t.pre[i]? = some a → g (k + i) = a) → fill g t k = t
  | e, _, _, _ => rfl
  | n a l r, k, g, h => by
    rw [fill]
    have h0 : g k = a := h 0 a rfl
    have e1 : fill g l (k + 1) = l := fill_self t0 l (k + 1) g fun i b hb => by
      have := h (i + 1) b (by
        rw [pre, List.getElem?_cons_succ, List.getElem?_append_left (List.getElem?_eq_some_iff.mp hb).1]
        exact hb)
      rw [← this]
      congr 1
      omega
    have e2 : fill g r (k + 1 + l.size) = r := fill_self t0 r (k + 1 + l.size) g fun i b hb => by
      have := h (1 + l.size + i) b (by
        rw [pre, show 1 + l.size + i = (l.size + i) + 1 from by omega, List.getElem?_cons_succ, List.getElem?_append_right (by rw [pre_len]; omega), pre_len, show l.size + i - l.size = i from by omega]
        exact hb)
      rw [← this]
      congr 1
      omega
    rw [h0, e1, e2]
end Tr
/-- a junk slot -/
def jS : Option MV → Sl
  | none => .no
  | some m => .sh m
/-- a loop that takes trees off a pile -/
theorem pile_run {α S J : Type} {T : Rho → Res Bool} {B : Rho → SRes} (R : List (Tr α) → S → J → Rho) (fe : S → S) (fn : α → Tr α → Tr α → S → S) (ok : List (Tr α) → Tr α → S → Prop)
    (hT : ∀ P t s j, T (R (P ++ [t]) s j) = .ok true (R (P ++ [t]) s j))
    (hE : ∀ P s j, ok P .e s → ∃ j', B (R (P ++ [.e]) s j) = .nx (R P (fe s) j') ∨ B (R (P ++ [.e]) s j) = .ct (R P (fe s) j'))
    (hN : ∀ P a l r s j, ok P (.n a l r) s → ∃ j', B (R (P ++ [.n a l r]) s j) = .nx (R (P ++ [r, l]) (fn a l r s) j') ∨ B (R (P ++ [.n a l r]) s j) = .ct (R (P ++ [r, l]) (fn a l r s) j'))
    (run : Tr α → S → S) (r0 : ∀ s, run .e s = fe s) (r1 : ∀ a l r s, run (.n a l r) s = run r (run l (fn a l r s)))
    (okl : ∀ P a l r s, ok P (.n a l r) s → ok (P ++ [r]) l (fn a l r s) ∧ ok P r (run l (fn a l r s))) :
    ∀ (t : Tr α) (P : List (Tr α)) (s : S) (j : J) (n : Nat), ok P t s → ∃ j', whileF T B (n + t.cost) (R (P ++ [t]) s j) = whileF T B n (R P (run t s) j')
  | .e, P, s, j, n, h => by
    obtain ⟨j', hb⟩ := hE P s j h
    refine ⟨j', ?_⟩
    rw [Tr.cost, whileF_succ, hT, r0]
    simp only [toS_ok]
    rcases hb with hb | hb <;> rw [hb] <;> rfl
  | .n a l r, P, s, j, n, h => by
    obtain ⟨j1, hb⟩ := hN P a l r s j h
    obtain ⟨h1, h2⟩ := okl P a l r s h
    obtain ⟨j2, e2⟩ := pile_run R fe fn ok hT hE hN run r0 r1 okl l (P ++ [r]) (fn a l r s) j1 (n + r.cost) h1
    obtain ⟨j3, e3⟩ := pile_run R fe fn ok hT hE hN run r0 r1 okl r P (run l (fn a l r s)) j2 n h2
    refine ⟨j3, ?_⟩
    rw [r1, ← e3, ← e2, Tr.cost, show n + (1 + l.cost + r.cost) = (n + r.cost + l.cost) + 1 from by omega, whileF_succ, hT, show P ++ [r] ++ [l] = P ++ [r, l] from by simp]
    simp only [toS_ok]
    rcases hb with hb | hb <;> rw [hb] <;> rfl
end DL
namespace DL
open PySem PySem.Spec PyProof.Rows L2 LamX
theorem eq_empty {xs : List MV} (h : isDs xs = true) : gEq (.tup xs) (.tup []) = some (.v (.bl xs.isEmpty)) := by
  have h1 : eqOk (.tup xs) (.tup []) = true := by
    unfold eqOk depM
    have e1 : (MV.tup []).pd.depth = 1 := by rw [pd_tup, pds_nil, PyData.depth, PyData.depthAll]
    rw [isD_tup, h, isD_tup, e1]
    simp only [isDs, Bool.true_and, decide_eq_true_eq]
    omega
  unfold gEq
  rw [if_pos h1]
  unfold eqM
  rw [pd_tup, pd_tup, pds_nil, PyData.eqv]
  cases xs with
  | nil => rw [pds_nil, PyData.eqvAll]; rfl
  | cons x xs => rw [pds_cons, PyData.eqvAll]; rfl
theorem ne_empty {xs : List MV} (h : isDs xs = true) : gNe (.tup xs) (.tup []) = some (.v (.bl (!xs.isEmpty))) := by
  have h2 := eq_empty h
  unfold gEq at h2
  unfold gNe
  split at h2
  · rename_i h1
    rw [if_pos h1]
    simp only [Option.some.injEq, RV.v.injEq, MV.bl.injEq] at h2
    rw [h2]
  · cases h2
namespace Tr
variable {α β : Type}
theorem enc_isD {f : α → MV} (h : ∀ a, (f a).isD = true) : ∀ t : Tr α, (enc f t).isD = true
  | e => by rw [enc, isD_tup, isDs]
  | n a l r => by rw [enc, isD_tup, isDs_cons, isDs_cons, isDs_cons, h a, enc_isD h l, enc_isD h r, isDs]; rfl
theorem enc_nob {f : α → MV} (h : ∀ a, (f a).nob = true) : ∀ t : Tr α, (enc f t).nob = true
  | e => by rw [enc, MV.nob, nobs]
  | n a l r => by rw [enc, MV.nob, nobs, nobs, nobs, nobs, h a, enc_nob h l, enc_nob h r]; rfl
theorem node_isD {f : α → MV} (h : ∀ a, (f a).isD = true) (a : α) (l r : Tr α) : isDs [f a, enc f l, enc f r] = true := by
  have := enc_isD h (n a l r)
  rwa [enc, isD_tup] at this
theorem enc_depth {f : α → MV} (h : ∀ a, depM (f a) = 0) : ∀ t : Tr α, depM (enc f t) ≤ t.depth + 1
  | e => by unfold depM; rw [enc, pd_tup, pds_nil, PyData.depth, PyData.depthAll, depth]; omega
  | n a l r => by
    have h1 := enc_depth h l
    have h2 := enc_depth h r
    have h3 := h a
    unfold depM at h1 h2 h3 ⊢
    rw [enc, pd_tup, pds_cons, pds_cons, pds_cons, pds_nil, PyData.depth, PyData.depthAll, PyData.depthAll, PyData.depthAll, PyData.depthAll, depth]
    omega
end Tr
end DL
namespace DL
open PySem PySem.Spec PyProof.Rows L2 LamX
@[simp] theorem ne_nil : gNe (.tup []) (.tup []) = some (.v (.bl false)) := ne_empty (by rw [isDs])
@[simp] theorem eq_nil : gEq (.tup []) (.tup []) = some (.v (.bl true)) := eq_empty (by rw [isDs])
theorem ixN_nat {n j : Nat} (h : j < n) : L2.ixN n (j : Nat) = some j := by
  unfold L2.ixN
  rw [if_pos (by omega)]
  simp [h]
theorem atI_nat {α : Type} (xs : List α) (j : Nat) : L2.atI xs (j : Nat) = xs[j]? := by
  unfold L2.atI
  by_cases h : j < xs.length
  · rw [ixN_nat h]; rfl
  · unfold L2.ixN
    rw [if_pos (by omega), List.getElem?_eq_none (by omega)]
    simp
    omega
@[simp] theorem atI_0 (x : MV) (r : List MV) : L2.atI (x :: r) 0 = some x := atI_nat (x :: r) 0
@[simp] theorem atI_1 (x y : MV) (r : List MV) : L2.atI (x :: y :: r) 1 = some y := atI_nat (x :: y :: r) 1
@[simp] theorem atI_2 (x y z : MV) (r : List MV) : L2.atI (x :: y :: z :: r) 2 = some z := atI_nat (x :: y :: z :: r) 2
@[simp] theorem atI_3 (x y z u : MV) (r : List MV) : L2.atI (x :: y :: z :: u :: r) 3 = some u := atI_nat (x :: y :: z :: u :: r) 3
@[simp] theorem atI_4 (x y z u v : MV) (r : List MV) : L2.atI (x :: y :: z :: u :: v :: r) 4 = some v := atI_nat (x :: y :: z :: u :: v :: r) 4
@[simp] theorem sz_1 : 1 ≤ sizeLine := size_big (by decide)
@[simp] theorem sz_2 : 2 ≤ sizeLine := size_big (by decide)
@[simp] theorem sz_3 : 3 ≤ sizeLine := size_big (by decide)
@[simp] theorem sz_4 : 4 ≤ sizeLine := size_big (by decide)
@[simp] theorem sz_5 : 5 ≤ sizeLine := size_big (by decide)
@[simp] theorem sz_6 : 6 ≤ sizeLine := size_big (by decide)
@[simp] theorem sz_7 : 7 ≤ sizeLine := size_big (by decide)
@[simp] theorem sz_8 : 8 ≤ sizeLine := size_big (by decide)
@[simp] theorem sz_9 : 9 ≤ sizeLine := size_big (by decide)
@[simp] theorem sz_10 : 10 ≤ sizeLine := size_big (by decide)
@[simp] theorem sz_11 : 11 ≤ sizeLine := size_big (by decide)
@[simp] theorem sz_12 : 12 ≤ sizeLine := size_big (by decide)
end DL
namespace DL
open PySem PySem.Spec PyProof.Rows L2 LamX
theorem eq_flat {m n : MV} {b : Bool} (h1 : m.isD = true) (h2 : n.isD = true) (h3 : depM m = 0) (h4 : PyData.eqv m.pd n.pd = b) : gEq m n = some (.v (.bl b)) ∧ gNe m n = some (.v (.bl (!b))) := by
  have ho : eqOk m n = true := by
    unfold eqOk
    rw [h1, h2, h3]
    simp
  unfold gEq gNe eqM
  rw [if_pos ho, if_pos ho, h4]
  exact ⟨rfl, rfl⟩
theorem eqf_int (i j : Int) : gEq (.int i) (.int j) = some (.v (.bl (decide (i = j)))) ∧ gNe (.int i) (.int j) = some (.v (.bl (!decide (i = j)))) :=
  eq_flat (by rw [MV.isD]) (by rw [MV.isD]) (by unfold depM; rw [MV.pd, PyData.depth]) (by
    rw [MV.pd, MV.pd, PyData.eqv]
    exact Bool.beq_eq_decide_eq i j)
theorem eqf_str (i j : Str) : gEq (.str i) (.str j) = some (.v (.bl (decide (i = j)))) ∧ gNe (.str i) (.str j) = some (.v (.bl (!decide (i = j)))) :=
  eq_flat (by rw [MV.isD]) (by rw [MV.isD]) (by unfold depM; rw [MV.pd, PyData.depth]) (by
    rw [MV.pd, MV.pd, PyData.eqv]
    exact Bool.beq_eq_decide_eq i j)
@[simp] theorem eq_int (i j : Int) : gEq (.int i) (.int j) = some (.v (.bl (decide (i = j)))) := (eqf_int i j).1
@[simp] theorem ne_int (i j : Int) : gNe (.int i) (.int j) = some (.v (.bl (!decide (i = j)))) := (eqf_int i j).2
@[simp] theorem eq_str (i j : Str) : gEq (.str i) (.str j) = some (.v (.bl (decide (i = j)))) := (eqf_str i j).1
@[simp] theorem ne_str (i j : Str) : gNe (.str i) (.str j) = some (.v (.bl (!decide (i = j)))) := (eqf_str i j).2
end DL
namespace DL
open PySem PySem.Spec PyProof.Rows L2 LamX
@[simp] theorem ixN_1_0 : L2.ixN 1 0 = some 0 := by decide
@[simp] theorem ixN_2_0 : L2.ixN 2 0 = some 0 := by decide
@[simp] theorem ixN_2_1 : L2.ixN 2 1 = some 1 := by decide
@[simp] theorem ixN_3_0 : L2.ixN 3 0 = some 0 := by decide
@[simp] theorem ixN_3_1 : L2.ixN 3 1 = some 1 := by decide
@[simp] theorem ixN_3_2 : L2.ixN 3 2 = some 2 := by decide
@[simp] theorem ixN_4_0 : L2.ixN 4 0 = some 0 := by decide
@[simp] theorem ixN_4_1 : L2.ixN 4 1 = some 1 := by decide
@[simp] theorem ixN_4_2 : L2.ixN 4 2 = some 2 := by decide
@[simp] theorem ixN_4_3 : L2.ixN 4 3 = some 3 := by decide
@[simp] theorem ixN_5_0 : L2.ixN 5 0 = some 0 := by decide
@[simp] theorem ixN_5_1 : L2.ixN 5 1 = some 1 := by decide
@[simp] theorem ixN_5_2 : L2.ixN 5 2 = some 2 := by decide
@[simp] theorem ixN_5_3 : L2.ixN 5 3 = some 3 := by decide
@[simp] theorem ixN_5_4 : L2.ixN 5 4 = some 4 := by decide
@[simp] theorem ixN_6_0 : L2.ixN 6 0 = some 0 := by decide
@[simp] theorem ixN_6_1 : L2.ixN 6 1 = some 1 := by decide
@[simp] theorem ixN_6_2 : L2.ixN 6 2 = some 2 := by decide
@[simp] theorem ixN_6_3 : L2.ixN 6 3 = some 3 := by decide
@[simp] theorem ixN_6_4 : L2.ixN 6 4 = some 4 := by decide
@[simp] theorem ixN_6_5 : L2.ixN 6 5 = some 5 := by decide
end DL
namespace DL
open PySem PySem.Spec PyProof.Rows L2 LamX
/-! arithmetic of numbers not told: take gInt_s out and these in -/
theorem gT_i (f : Int → Int → Int) (i j : Int) : gInt cTrue f (.int i) (.int j) = some (.v (.int (f i j))) := rfl
theorem gM_i (f : Int → Int → Int) {i j : Int} (h : cMul i j = true) : gInt cMul f (.int i) (.int j) = some (.v (.int (f i j))) := by
  unfold gInt
  simp only [h, if_true]
theorem gD_i (f : Int → Int → Int) (i j : Int) (h1 : 0 < j) (h2 : j < 1073741824) : gInt cDiv f (.int i) (.int j) = some (.v (.int (f i j))) := by
  have h : cDiv i j = true := by unfold cDiv; rw [decide_eq_true h1, decide_eq_true (show j.natAbs < 1073741824 from by omega)]; rfl
  unfold gInt
  simp only [h, if_true]
theorem gO_i (f : Int → Int → Int) (i j : Int) (h1 : 0 < j) : gInt cMod f (.int i) (.int j) = some (.v (.int (f i j))) := by
  have h : cMod i j = true := by unfold cMod; rw [decide_eq_true h1]
  unfold gInt
  simp only [h, if_true]
theorem cMul_r (i : Int) {j : Int} (h1 : -18446744073709551616 < j) (h2 : j < 18446744073709551616) : cMul i j = true := by
  unfold cMul
  rw [decide_eq_true (show j.natAbs < 18446744073709551616 from by omega), Bool.or_true]
theorem cMul_l (j : Int) {i : Int} (h1 : -18446744073709551616 < i) (h2 : i < 18446744073709551616) : cMul i j = true := by
  unfold cMul
  rw [decide_eq_true (show i.natAbs < 18446744073709551616 from by omega), Bool.true_or]
theorem gM_r (f : Int → Int → Int) (i j : Int) (h1 : -18446744073709551616 < j) (h2 : j < 18446744073709551616) : gInt cMul f (.int i) (.int j) = some (.v (.int (f i j))) := gM_i f (cMul_r i h1 h2)
theorem gM_l (f : Int → Int → Int) (i j : Int) (h1 : -18446744073709551616 < i) (h2 : i < 18446744073709551616) : gInt cMul f (.int i) (.int j) = some (.v (.int (f i j))) := gM_i f (cMul_l j h1 h2)
end DL
namespace DL
open PySem PySem.Spec PyProof.Rows L2 LamX
theorem ne_self {m : MV} (h : m.nob = true) (hd : depM m ≤ 64) : gNe m m = some (.v (.bl false)) := by
  have h1 : eqOk m m = true := by
    unfold eqOk
    rw [nob_isD m h]
    simp only [Bool.true_and, decide_eq_true_eq]
    omega
  have h2 : eqM m m = true := (eqv_nob m m h h).mpr rfl
  unfold gNe
  rw [if_pos h1, h2]
  rfl
theorem depAll_le {n : Nat} : ∀ xs : List MV, (∀ x ∈ xs, depM x ≤ n) → PyData.depthAll (pds xs) ≤ n
  | [], _ => by rw [pds_nil, PyData.depthAll]; omega
  | x :: xs, h => by
    have h1 := h x List.mem_cons_self
    have h2 := depAll_le xs fun y hy => h y (List.mem_cons_of_mem _ hy)
    unfold depM at h1
    rw [pds_cons, PyData.depthAll]
    omega
theorem dep_tup {n : Nat} {xs : List MV} (h : ∀ x ∈ xs, depM x ≤ n) : depM (.tup xs) ≤ n + 1 := by
  have := depAll_le xs h
  unfold depM
  rw [pd_tup, PyData.depth]
  omega
theorem nobs_all : ∀ xs : List MV, (∀ x ∈ xs, x.nob = true) → nobs xs = true
  | [], _ => by rw [nobs]
  | x :: xs, h => by rw [nobs, h x List.mem_cons_self, nobs_all xs fun y hy => h y (List.mem_cons_of_mem _ hy)]; rfl
theorem nob_tup {xs : List MV} (h : ∀ x ∈ xs, x.nob = true) : (MV.tup xs).nob = true := by
  rw [MV.nob]
  exact nobs_all xs h
theorem dep_int (i : Int) : depM (.int i) = 0 := by unfold depM; rw [MV.pd, PyData.depth]
end DL
namespace W05
open PySem PySem.Spec PyProof.Rows L2 DL LamX
def WFUEL : Nat := 4000
def RFUEL : Nat := 20
def topS (i : Nat) : Stmt := PySem.Challenge.pw_treesayings_k05_marks_of_trees_with_trac.main.body.getD i (.Pass ⟨0, 0, 0, 0⟩)
abbrev s__law_hand : Stmt := topS 66
abbrev N__law_hand : List Str := ["script", "cells", "cell"]
abbrev p__law_hand : List Str := ["script"]
theorem sc__law_hand : FnScope N__law_hand p__law_hand (defScope s__law_hand) := ⟨rfl, rfl, rfl, by decide +kernel, rfl, by decide +kernel, by decide +kernel⟩
abbrev s__law_draw : Stmt := topS 63
abbrev N__law_draw : List Str := ["hand", "span", "number", "cell", "digit"]
abbrev p__law_draw : List Str := ["hand", "span"]
theorem sc__law_draw : FnScope N__law_draw p__law_draw (defScope s__law_draw) := ⟨rfl, rfl, rfl, by decide +kernel, rfl, by decide +kernel, by decide +kernel⟩
abbrev s__law_some : Stmt := topS 64
abbrev N__law_some : List Str := ["hand", "things"]
abbrev p__law_some : List Str := ["hand", "things"]
theorem sc__law_some : FnScope N__law_some p__law_some (defScope s__law_some) := ⟨rfl, rfl, rfl, by decide +kernel, rfl, by decide +kernel, by decide +kernel⟩
abbrev s__law_tree : Stmt := topS 67
abbrev N__law_tree : List Str := ["hand", "many", "left", "letter"]
abbrev p__law_tree : List Str := ["hand", "many"]
theorem sc__law_tree : FnScope N__law_tree p__law_tree (defScope s__law_tree) := ⟨rfl, rfl, rfl, by decide +kernel, rfl, by decide +kernel, by decide +kernel⟩
abbrev s__law_telling : Stmt := topS 71
abbrev N__law_telling : List Str := ["hand", "tracks", "many", "found", "name", "place"]
abbrev p__law_telling : List Str := ["hand", "tracks", "many"]
theorem sc__law_telling : FnScope N__law_telling p__law_telling (defScope s__law_telling) := ⟨rfl, rfl, rfl, by decide +kernel, rfl, by decide +kernel, by decide +kernel⟩
abbrev s__law_many : Stmt := topS 68
abbrev N__law_many : List Str := ["one"]
abbrev p__law_many : List Str := ["one"]
theorem sc__law_many : FnScope N__law_many p__law_many (defScope s__law_many) := ⟨rfl, rfl, rfl, by decide +kernel, rfl, by decide +kernel, by decide +kernel⟩
abbrev s__law_put : Stmt := topS 74
abbrev N__law_put : List Str := ["one", "symbols", "left"]
abbrev p__law_put : List Str := ["one", "symbols"]
theorem sc__law_put : FnScope N__law_put p__law_put (defScope s__law_put) := ⟨rfl, rfl, rfl, by decide +kernel, rfl, by decide +kernel, by decide +kernel⟩
abbrev s_is_sized : Stmt := topS 11
abbrev N_is_sized : List Str := ["thing", "least", "most"]
abbrev p_is_sized : List Str := ["thing", "least", "most"]
theorem sc_is_sized : FnScope N_is_sized p_is_sized (defScope s_is_sized) := ⟨rfl, rfl, rfl, by decide +kernel, rfl, by decide +kernel, by decide +kernel⟩
abbrev s_is_rising : Stmt := topS 13
abbrev N_is_rising : List Str := ["thing", "one", "other"]
abbrev p_is_rising : List Str := ["thing"]
theorem sc_is_rising : FnScope N_is_rising p_is_rising (defScope s_is_rising) := ⟨rfl, rfl, rfl, by decide +kernel, rfl, by decide +kernel, by decide +kernel⟩
abbrev s_is_place_name : Stmt := topS 20
abbrev N_is_place_name : List Str := ["thing"]
abbrev p_is_place_name : List Str := ["thing"]
theorem sc_is_place_name : FnScope N_is_place_name p_is_place_name (defScope s_is_place_name) := ⟨rfl, rfl, rfl, by decide +kernel, rfl, by decide +kernel, by decide +kernel⟩
abbrev s_is_lot_name : Stmt := topS 21
abbrev N_is_lot_name : List Str := ["thing"]
abbrev p_is_lot_name : List Str := ["thing"]
theorem sc_is_lot_name : FnScope N_is_lot_name p_is_lot_name (defScope s_is_lot_name) := ⟨rfl, rfl, rfl, by decide +kernel, rfl, by decide +kernel, by decide +kernel⟩
abbrev s_is_name : Stmt := topS 22
abbrev N_is_name : List Str := ["thing"]
abbrev p_is_name : List Str := ["thing"]
theorem sc_is_name : FnScope N_is_name p_is_name (defScope s_is_name) := ⟨rfl, rfl, rfl, by decide +kernel, rfl, by decide +kernel, by decide +kernel⟩
abbrev s_are_tracks : Stmt := topS 38
abbrev N_are_tracks : List Str := ["thing", "one"]
abbrev p_are_tracks : List Str := ["thing"]
theorem sc_are_tracks : FnScope N_are_tracks p_are_tracks (defScope s_are_tracks) := ⟨rfl, rfl, rfl, by decide +kernel, rfl, by decide +kernel, by decide +kernel⟩
abbrev s_check_tracks : Stmt := topS 39
abbrev N_check_tracks : List Str := ["tracks"]
abbrev p_check_tracks : List Str := ["tracks"]
theorem sc_check_tracks : FnScope N_check_tracks p_check_tracks (defScope s_check_tracks) := ⟨rfl, rfl, rfl, by decide +kernel, rfl, by decide +kernel, by decide +kernel⟩
abbrev s_is_letter : Stmt := topS 15
abbrev N_is_letter : List Str := ["thing"]
abbrev p_is_letter : List Str := ["thing"]
theorem sc_is_letter : FnScope N_is_letter p_is_letter (defScope s_is_letter) := ⟨rfl, rfl, rfl, by decide +kernel, rfl, by decide +kernel, by decide +kernel⟩
abbrev s_is_grown : Stmt := topS 27
abbrev N_is_grown : List Str := ["thing", "places", "most_deep", "is_sign", "waiting", "many", "here", "at_deep"]
abbrev p_is_grown : List Str := ["thing", "places", "most_deep", "is_sign"]
theorem sc_is_grown : FnScope N_is_grown p_is_grown (defScope s_is_grown) := ⟨rfl, rfl, rfl, by decide +kernel, rfl, by decide +kernel, by decide +kernel⟩
abbrev s_is_tree : Stmt := topS 28
abbrev N_is_tree : List Str := ["thing"]
abbrev p_is_tree : List Str := ["thing"]
theorem sc_is_tree : FnScope N_is_tree p_is_tree (defScope s_is_tree) := ⟨rfl, rfl, rfl, by decide +kernel, rfl, by decide +kernel, by decide +kernel⟩
abbrev s_check_tree : Stmt := topS 29
abbrev N_check_tree : List Str := ["tree"]
abbrev p_check_tree : List Str := ["tree"]
theorem sc_check_tree : FnScope N_check_tree p_check_tree (defScope s_check_tree) := ⟨rfl, rfl, rfl, by decide +kernel, rfl, by decide +kernel, by decide +kernel⟩
abbrev s_tree_of_signs : Stmt := topS 32
abbrev N_tree_of_signs : List Str := ["signs", "empties", "pile", "sign", "left"]
abbrev p_tree_of_signs : List Str := ["signs", "empties"]
theorem sc_tree_of_signs : FnScope N_tree_of_signs p_tree_of_signs (defScope s_tree_of_signs) := ⟨rfl, rfl, rfl, by decide +kernel, rfl, by decide +kernel, by decide +kernel⟩
abbrev s_with_signs : Stmt := topS 45
abbrev N_with_signs : List Str := ["tree", "signs", "waiting", "order", "at", "here"]
abbrev p_with_signs : List Str := ["tree", "signs"]
theorem sc_with_signs : FnScope N_with_signs p_with_signs (defScope s_with_signs) := ⟨rfl, rfl, rfl, by decide +kernel, rfl, by decide +kernel, by decide +kernel⟩
abbrev s_parts_of_tree : Stmt := topS 30
abbrev N_parts_of_tree : List Str := ["tree", "found", "waiting", "here"]
abbrev p_parts_of_tree : List Str := ["tree"]
theorem sc_parts_of_tree : FnScope N_parts_of_tree p_parts_of_tree (defScope s_parts_of_tree) := ⟨rfl, rfl, rfl, by decide +kernel, rfl, by decide +kernel, by decide +kernel⟩
abbrev s_power_of : Stmt := topS 16
abbrev N_power_of : List Str := ["number", "times", "found", "turn"]
abbrev p_power_of : List Str := ["number", "times"]
theorem sc_power_of : FnScope N_power_of p_power_of (defScope s_power_of) := ⟨rfl, rfl, rfl, by decide +kernel, rfl, by decide +kernel, by decide +kernel⟩
abbrev s_has_told : Stmt := topS 44
abbrev N_has_told : List Str := ["name", "worth", "place"]
abbrev p_has_told : List Str := ["name", "worth", "place"]
theorem sc_has_told : FnScope N_has_told p_has_told (defScope s_has_told) := ⟨rfl, rfl, rfl, by decide +kernel, rfl, by decide +kernel, by decide +kernel⟩
abbrev s_raw_marked : Stmt := topS 46
abbrev N_raw_marked : List Str := ["tracks", "tree", "telling", "signs", "place", "part", "symbol", "bits", "at", "name"]
abbrev p_raw_marked : List Str := ["tracks", "tree", "telling"]
theorem sc_raw_marked : FnScope N_raw_marked p_raw_marked (defScope s_raw_marked) := ⟨rfl, rfl, rfl, by decide +kernel, rfl, by decide +kernel, by decide +kernel⟩
abbrev s_is_integer : Stmt := topS 9
abbrev N_is_integer : List Str := ["thing"]
abbrev p_is_integer : List Str := ["thing"]
theorem sc_is_integer : FnScope N_is_integer p_is_integer (defScope s_is_integer) := ⟨rfl, rfl, rfl, by decide +kernel, rfl, by decide +kernel, by decide +kernel⟩
abbrev s_is_within : Stmt := topS 10
abbrev N_is_within : List Str := ["thing", "least", "most"]
abbrev p_is_within : List Str := ["thing", "least", "most"]
theorem sc_is_within : FnScope N_is_within p_is_within (defScope s_is_within) := ⟨rfl, rfl, rfl, by decide +kernel, rfl, by decide +kernel, by decide +kernel⟩
abbrev s_are_within : Stmt := topS 12
abbrev N_are_within : List Str := ["thing", "least", "most", "one"]
abbrev p_are_within : List Str := ["thing", "least", "most"]
theorem sc_are_within : FnScope N_are_within p_are_within (defScope s_are_within) := ⟨rfl, rfl, rfl, by decide +kernel, rfl, by decide +kernel, by decide +kernel⟩
abbrev s_is_lot : Stmt := topS 14
abbrev N_is_lot : List Str := ["thing", "many"]
abbrev p_is_lot : List Str := ["thing", "many"]
theorem sc_is_lot : FnScope N_is_lot p_is_lot (defScope s_is_lot) := ⟨rfl, rfl, rfl, by decide +kernel, rfl, by decide +kernel, by decide +kernel⟩
abbrev s_is_worth : Stmt := topS 34
abbrev N_is_worth : List Str := ["name", "many", "thing"]
abbrev p_is_worth : List Str := ["name", "many", "thing"]
theorem sc_is_worth : FnScope N_is_worth p_is_worth (defScope s_is_worth) := ⟨rfl, rfl, rfl, by decide +kernel, rfl, by decide +kernel, by decide +kernel⟩
abbrev s_raw_is_telling : Stmt := topS 35
abbrev N_raw_is_telling : List Str := ["names", "many", "thing", "name", "one"]
abbrev p_raw_is_telling : List Str := ["names", "many", "thing"]
theorem sc_raw_is_telling : FnScope N_raw_is_telling p_raw_is_telling (defScope s_raw_is_telling) := ⟨rfl, rfl, rfl, by decide +kernel, rfl, by decide +kernel, by decide +kernel⟩
abbrev s_raw_size : Stmt := topS 31
abbrev N_raw_size : List Str := ["tree"]
abbrev p_raw_size : List Str := ["tree"]
theorem sc_raw_size : FnScope N_raw_size p_raw_size (defScope s_raw_size) := ⟨rfl, rfl, rfl, by decide +kernel, rfl, by decide +kernel, by decide +kernel⟩
abbrev s_marked : Stmt := topS 47
abbrev N_marked : List Str := ["tracks", "tree", "telling"]
abbrev p_marked : List Str := ["tracks", "tree", "telling"]
theorem sc_marked : FnScope N_marked p_marked (defScope s_marked) := ⟨rfl, rfl, rfl, by decide +kernel, rfl, by decide +kernel, by decide +kernel⟩
abbrev s_symbols_of : Stmt := topS 41
abbrev N_symbols_of : List Str := ["many"]
abbrev p_symbols_of : List Str := ["many"]
theorem sc_symbols_of : FnScope N_symbols_of p_symbols_of (defScope s_symbols_of) := ⟨rfl, rfl, rfl, by decide +kernel, rfl, by decide +kernel, by decide +kernel⟩
abbrev s_raw_is_marked : Stmt := topS 48
abbrev N_raw_is_marked : List Str := ["many", "thing", "places", "most_deep"]
abbrev p_raw_is_marked : List Str := ["many", "thing", "places", "most_deep"]
theorem sc_raw_is_marked : FnScope N_raw_is_marked p_raw_is_marked (defScope s_raw_is_marked) := ⟨rfl, rfl, rfl, by decide +kernel, rfl, by decide +kernel, by decide +kernel⟩
abbrev s_is_marked : Stmt := topS 49
abbrev N_is_marked : List Str := ["tracks", "thing"]
abbrev p_is_marked : List Str := ["tracks", "thing"]
theorem sc_is_marked : FnScope N_is_marked p_is_marked (defScope s_is_marked) := ⟨rfl, rfl, rfl, by decide +kernel, rfl, by decide +kernel, by decide +kernel⟩
abbrev s_check_marked : Stmt := topS 50
abbrev N_check_marked : List Str := ["tracks", "marked_tree"]
abbrev p_check_marked : List Str := ["tracks", "marked_tree"]
theorem sc_check_marked : FnScope N_check_marked p_check_marked (defScope s_check_marked) := ⟨rfl, rfl, rfl, by decide +kernel, rfl, by decide +kernel, by decide +kernel⟩
abbrev s_symbol_without : Stmt := topS 60
abbrev N_symbol_without : List Str := ["symbol", "track", "low"]
abbrev p_symbol_without : List Str := ["symbol", "track"]
theorem sc_symbol_without : FnScope N_symbol_without p_symbol_without (defScope s_symbol_without) := ⟨rfl, rfl, rfl, by decide +kernel, rfl, by decide +kernel, by decide +kernel⟩
abbrev s_raw_symbols : Stmt := topS 51
abbrev N_raw_symbols : List Str := ["marked_tree", "part"]
abbrev p_raw_symbols : List Str := ["marked_tree"]
theorem sc_raw_symbols : FnScope N_raw_symbols p_raw_symbols (defScope s_raw_symbols) := ⟨rfl, rfl, rfl, by decide +kernel, rfl, by decide +kernel, by decide +kernel⟩
abbrev s_without : Stmt := topS 61
abbrev N_without : List Str := ["tracks", "marked_tree", "track", "symbol"]
abbrev p_without : List Str := ["tracks", "marked_tree", "track"]
theorem sc_without : FnScope N_without p_without (defScope s_without) := ⟨rfl, rfl, rfl, by decide +kernel, rfl, by decide +kernel, by decide +kernel⟩
abbrev s_symbols_many : Stmt := topS 42
abbrev N_symbols_many : List Str := ["tracks"]
abbrev p_symbols_many : List Str := ["tracks"]
theorem sc_symbols_many : FnScope N_symbols_many p_symbols_many (defScope s_symbols_many) := ⟨rfl, rfl, rfl, by decide +kernel, rfl, by decide +kernel, by decide +kernel⟩
abbrev s__law_refuses : Stmt := topS 77
abbrev N__law_refuses : List Str := ["hand", "tracks", "one", "telling", "wrong"]
abbrev p__law_refuses : List Str := ["hand", "tracks", "one", "telling"]
theorem sc__law_refuses : FnScope N__law_refuses p__law_refuses (defScope s__law_refuses) := ⟨rfl, rfl, rfl, by decide +kernel, rfl, by decide +kernel, by decide +kernel⟩
abbrev s__law_tracks : Stmt := topS 70
abbrev N__law_tracks : List Str := ["hand", "every"]
abbrev p__law_tracks : List Str := ["hand"]
theorem sc__law_tracks : FnScope N__law_tracks p__law_tracks (defScope s__law_tracks) := ⟨rfl, rfl, rfl, by decide +kernel, rfl, by decide +kernel, by decide +kernel⟩
abbrev s__law_places : Stmt := topS 69
abbrev N__law_places : List Str := ["one", "found", "left", "right", "part", "by", "letter", "first", "last", "end"]
abbrev p__law_places : List Str := ["one"]
theorem sc__law_places : FnScope N__law_places p__law_places (defScope s__law_places) := ⟨rfl, rfl, rfl, by decide +kernel, rfl, by decide +kernel, by decide +kernel⟩
abbrev s_symbols_of_tree : Stmt := topS 52
abbrev N_symbols_of_tree : List Str := ["tracks", "marked_tree"]
abbrev p_symbols_of_tree : List Str := ["tracks", "marked_tree"]
theorem sc_symbols_of_tree : FnScope N_symbols_of_tree p_symbols_of_tree (defScope s_symbols_of_tree) := ⟨rfl, rfl, rfl, by decide +kernel, rfl, by decide +kernel, by decide +kernel⟩
abbrev s__law_power : Stmt := topS 72
abbrev N__law_power : List Str := ["times", "found", "lap"]
abbrev p__law_power : List Str := ["times"]
theorem sc__law_power : FnScope N__law_power p__law_power (defScope s__law_power) := ⟨rfl, rfl, rfl, by decide +kernel, rfl, by decide +kernel, by decide +kernel⟩
abbrev s__law_symbol : Stmt := topS 73
abbrev N__law_symbol : List Str := ["letter", "place", "tracks", "telling", "found", "spot_at", "worth", "is_on"]
abbrev p__law_symbol : List Str := ["letter", "place", "tracks", "telling"]
theorem sc__law_symbol : FnScope N__law_symbol p__law_symbol (defScope s__law_symbol) := ⟨rfl, rfl, rfl, by decide +kernel, rfl, by decide +kernel, by decide +kernel⟩
abbrev s_bit_of : Stmt := topS 40
abbrev N_bit_of : List Str := ["symbol", "at", "part"]
abbrev p_bit_of : List Str := ["symbol", "at"]
theorem sc_bit_of : FnScope N_bit_of p_bit_of (defScope s_bit_of) := ⟨rfl, rfl, rfl, by decide +kernel, rfl, by decide +kernel, by decide +kernel⟩
abbrev s_places_on : Stmt := topS 53
abbrev N_places_on : List Str := ["symbols", "at", "place", "symbol"]
abbrev p_places_on : List Str := ["symbols", "at"]
theorem sc_places_on : FnScope N_places_on p_places_on (defScope s_places_on) := ⟨rfl, rfl, rfl, by decide +kernel, rfl, by decide +kernel, by decide +kernel⟩
abbrev s_raw_is_right : Stmt := topS 54
abbrev N_raw_is_right : List Str := ["tracks", "symbols", "at", "name"]
abbrev p_raw_is_right : List Str := ["tracks", "symbols"]
theorem sc_raw_is_right : FnScope N_raw_is_right p_raw_is_right (defScope s_raw_is_right) := ⟨rfl, rfl, rfl, by decide +kernel, rfl, by decide +kernel, by decide +kernel⟩
abbrev s_is_right : Stmt := topS 55
abbrev N_is_right : List Str := ["tracks", "marked_tree"]
abbrev p_is_right : List Str := ["tracks", "marked_tree"]
theorem sc_is_right : FnScope N_is_right p_is_right (defScope s_is_right) := ⟨rfl, rfl, rfl, by decide +kernel, rfl, by decide +kernel, by decide +kernel⟩
abbrev s_letter_of : Stmt := topS 43
abbrev N_letter_of : List Str := ["symbol", "many"]
abbrev p_letter_of : List Str := ["symbol", "many"]
theorem sc_letter_of : FnScope N_letter_of p_letter_of (defScope s_letter_of) := ⟨rfl, rfl, rfl, by decide +kernel, rfl, by decide +kernel, by decide +kernel⟩
abbrev s_raw_tree : Stmt := topS 56
abbrev N_raw_tree : List Str := ["many", "marked_tree", "symbol"]
abbrev p_raw_tree : List Str := ["many", "marked_tree"]
theorem sc_raw_tree : FnScope N_raw_tree p_raw_tree (defScope s_raw_tree) := ⟨rfl, rfl, rfl, by decide +kernel, rfl, by decide +kernel, by decide +kernel⟩
abbrev s_tree_of : Stmt := topS 57
abbrev N_tree_of : List Str := ["tracks", "marked_tree"]
abbrev p_tree_of : List Str := ["tracks", "marked_tree"]
theorem sc_tree_of : FnScope N_tree_of p_tree_of (defScope s_tree_of) := ⟨rfl, rfl, rfl, by decide +kernel, rfl, by decide +kernel, by decide +kernel⟩
abbrev s_raw_telling : Stmt := topS 58
abbrev N_raw_telling : List Str := ["tracks", "symbols", "lots", "at", "name", "lot"]
abbrev p_raw_telling : List Str := ["tracks", "symbols"]
theorem sc_raw_telling : FnScope N_raw_telling p_raw_telling (defScope s_raw_telling) := ⟨rfl, rfl, rfl, by decide +kernel, rfl, by decide +kernel, by decide +kernel⟩
abbrev s_telling_of : Stmt := topS 59
abbrev N_telling_of : List Str := ["tracks", "marked_tree"]
abbrev p_telling_of : List Str := ["tracks", "marked_tree"]
theorem sc_telling_of : FnScope N_telling_of p_telling_of (defScope s_telling_of) := ⟨rfl, rfl, rfl, by decide +kernel, rfl, by decide +kernel, by decide +kernel⟩
abbrev s__law_raises : Stmt := topS 76
abbrev N__law_raises : List Str := ["tracks", "one"]
abbrev p__law_raises : List Str := ["tracks", "one"]
theorem sc__law_raises : FnScope N__law_raises p__law_raises (defScope s__law_raises) := ⟨rfl, rfl, rfl, by decide +kernel, rfl, by decide +kernel, by decide +kernel⟩
abbrev s__law_is : Stmt := topS 65
abbrev N__law_is : List Str := ["thing", "due", "one", "other"]
abbrev p__law_is : List Str := ["thing", "due"]
theorem sc__law_is : FnScope N__law_is p__law_is (defScope s__law_is) := ⟨rfl, rfl, rfl, by decide +kernel, rfl, by decide +kernel, by decide +kernel⟩
abbrev s__law_less : Stmt := topS 75
abbrev N__law_less : List Str := ["symbol", "track", "low"]
abbrev p__law_less : List Str := ["symbol", "track"]
theorem sc__law_less : FnScope N__law_less p__law_less (defScope s__law_less) := ⟨rfl, rfl, rfl, by decide +kernel, rfl, by decide +kernel, by decide +kernel⟩
abbrev s_law : Stmt := topS 78
abbrev N_law : List Str := ["script", "hand", "one", "telling", "symbols", "due", "track", "spot_at", "great", "wrong", "tracks", "many", "place", "spot", "name", "bit", "flipped", "other", "symbol"]
abbrev p_law : List Str := ["script"]
theorem sc_law : FnScope N_law p_law (defScope s_law) := ⟨rfl, rfl, rfl, by decide +kernel, rfl, by decide +kernel, by decide +kernel⟩
/-! ### what each def does -/
def g__law_hand : Rho → SRes := (gSeq (gSet 1 (fLc [2] (fItems (fSl (fName 0) fNoPart (fPart (fC (.int 63))))) (uName 2) tsNil (fCB gAbs (fCons (fCB gIntOf (fCons (fName 2) fNil)) fNil)))) (gRet (fLst (fCons (fName 1) (fCons (fC (.int 0)) (fCons (fC (.int 0)) (fCons (fOp gAdd (fC (.int 607)) (fOp gMul (fC (.int 3)) (fCB gLen (fCons (fName 1) fNil)))) (fCons (fC (.int 0)) fNil))))))))
def F__law_hand : Rho → FRes := fnOf 3 (g__law_hand)
def g__law_draw : Rho → SRes := (gSeq (gIf (fAnd (fB (fOp gEq (fOp (gOr gIx gIxDic) (fName 0) (fC (.int 2))) (fC (.int 0)))) (fB (fOp gLt (fOp (gOr gIx gIxDic) (fName 0) (fC (.int 1))) (fCB gLen (fCons (fOp (gOr gIx gIxDic) (fName 0) (fC (.int 0))) fNil))))) (gSeq (gSet 3 (fOp (gOr gIx gIxDic) (fOp (gOr gIx gIxDic) (fName 0) (fC (.int 0))) (fOp (gOr gIx gIxDic) (fName 0) (fC (.int 1))))) (gSeq (gSetIx 0 (fC (.int 1)) (fOp gAdd (fOp (gOr gIx gIxDic) (fName 0) (fC (.int 1))) (fC (.int 1)))) (gSeq (gSetIx 0 (fC (.int 3)) (fOp gMod (fCB gIntOf (fCons (fOp gAdd (fOp gAdd (fOp gMul (fOp (gOr gIx gIxDic) (fName 0) (fC (.int 3))) (fC (.int 69621))) (fName 3)) (fC (.int 43))) fNil)) (fC (.int 2147483629)))) (gIf (fB (fOp gGe (fName 3) (fOp gPow (fC (.int 10)) (fC (.int 18))))) (gSetIx 0 (fC (.int 2)) (fName 3)) (fun ρ => .nx ρ))))) (fun ρ => .nx ρ)) (gSeq (gIf (fB (fOp gGt (fOp (gOr gIx gIxDic) (fName 0) (fC (.int 2))) (fC (.int 0)))) (gSeq (gSet 4 (fOp gMod (fCB gIntOf (fCons (fOp (gOr gIx gIxDic) (fName 0) (fC (.int 2))) fNil)) (fName 1))) (gSeq (gSetIx 0 (fC (.int 2)) (fOp gDiv (fOp (gOr gIx gIxDic) (fName 0) (fC (.int 2))) (fName 1))) (gRet (fName 4)))) (fun ρ => .nx ρ)) (gSeq (gSetIx 0 (fC (.int 4)) (fOp gAdd (fOp (gOr gIx gIxDic) (fName 0) (fC (.int 4))) (fC (.int 1)))) (gSeq (gSet 2 (fOp gMod (fCB gIntOf (fCons (fOp gMul (fCB gIntOf (fCons (fOp gAdd (fOp (gOr gIx gIxDic) (fName 0) (fC (.int 3))) (fOp gMul (fC (.int 7919)) (fOp (gOr gIx gIxDic) (fName 0) (fC (.int 4))))) fNil)) (fC (.int 48271))) fNil)) (fC (.int 2147483647)))) (gSeq (gSet 2 (fOp gMod (fCB gIntOf (fCons (fOp gMul (fName 2) (fOp gAdd (fOp gDiv (fName 2) (fC (.int 1009))) (fC (.int 69621)))) fNil)) (fC (.int 2147483647)))) (gSeq (gSet 2 (fOp gMod (fCB gIntOf (fCons (fOp gMul (fName 2) (fOp gAdd (fOp gDiv (fName 2) (fC (.int 2003))) (fC (.int 40692)))) fNil)) (fC (.int 2147483399)))) (gRet (fOp gMod (fCB gIntOf (fCons (fOp gDiv (fName 2) (fC (.int 16))) fNil)) (fName 1)))))))))
def F__law_draw : Rho → FRes := fnOf 5 (g__law_draw)
def g__law_some : Rho → SRes := (gRet (fOp (gOr gIx gIxDic) (fName 1) (fCall 2 (some 0) F__law_draw (fCons (fName 0) (fCons (fCB gLen (fCons (fName 1) fNil)) fNil)))))
def F__law_some : Rho → FRes := fnOf 2 (g__law_some)
def g__law_tree (F0 : Rho → FRes) : Rho → SRes := (gSeq (gIf (fB (fOp gLe (fName 1) (fC (.int 0)))) (gRet (fTup fNil)) (fun ρ => .nx ρ)) (gSeq (gSet 2 (fCall 2 (some 0) F__law_draw (fCons (fName 0) (fCons (fName 1) fNil)))) (gSeq (gSet 3 (fCall 2 (some 0) F__law_some (fCons (fName 0) (fCons (fLst (fCons (fC (.str "a")) (fCons (fC (.str "b")) fNil))) fNil)))) (gRet (fTup (fCons (fName 3) (fCons (fCall 2 (some 0) F0 (fCons (fName 0) (fCons (fName 2) fNil))) (fCons (fCall 2 (some 0) F0 (fCons (fName 0) (fCons (fOp gSub (fOp gSub (fName 1) (fC (.int 1))) (fName 2)) fNil))) fNil))))))))
def r__law_tree : Nat → Rho → FRes
  | 0 => fnOf 4 fun _ => .bad
  | n + 1 => fnOf 4 (g__law_tree (r__law_tree n))
def F__law_tree : Rho → FRes := r__law_tree RFUEL
def g__law_telling : Rho → SRes := (gSeq (gSet 3 (fLst fNil)) (gSeq (gFor (fItems (fName 1)) (uName 4) (gIf (fB (fOp (gOr (gIn false) (gInDic false)) (fName 4) (fC (.str "pqrstuvwxyz")))) (gExpr (fMut uAppend 3 (fCons (fCall 2 (some 0) F__law_draw (fCons (fName 0) (fCons (fName 2) fNil))) fNil))) (gExpr (fMut uAppend 3 (fCons (fCB gTuple (fCons (fLc [5] (fRange1 (fCons (fName 2) fNil)) (uName 5) (fB (fOp gEq (fCall 2 (some 0) F__law_draw (fCons (fName 0) (fCons (fC (.int 2)) fNil))) (fC (.int 0)))) (fName 5)) fNil)) fNil))))) (gRet (fCB gTuple (fCons (fName 3) fNil)))))
def F__law_telling : Rho → FRes := fnOf 6 (g__law_telling)
def g__law_many (F0 : Rho → FRes) : Rho → SRes := (gRet (fIf (fB (fOp gEq (fName 0) (fTup fNil))) (fC (.int 0)) (fOp gAdd (fOp gAdd (fC (.int 1)) (fCall 1 none F0 (fCons (fOp (gOr gIx gIxDic) (fName 0) (fC (.int 1))) fNil))) (fCall 1 none F0 (fCons (fOp (gOr gIx gIxDic) (fName 0) (fC (.int 2))) fNil)))))
def r__law_many : Nat → Rho → FRes
  | 0 => fnOf 1 fun _ => .bad
  | n + 1 => fnOf 1 (g__law_many (r__law_many n))
def F__law_many : Rho → FRes := r__law_many RFUEL
def g__law_put (F0 : Rho → FRes) : Rho → SRes := (gSeq (gIf (fB (fOp gEq (fName 0) (fTup fNil))) (gRet (fTup fNil)) (fun ρ => .nx ρ)) (gSeq (gSet 2 (fCall 1 none F__law_many (fCons (fOp (gOr gIx gIxDic) (fName 0) (fC (.int 1))) fNil))) (gRet (fTup (fCons (fOp (gOr gIx gIxDic) (fName 1) (fC (.int 0))) (fCons (fCall 2 none F0 (fCons (fOp (gOr gIx gIxDic) (fName 0) (fC (.int 1))) (fCons (fSl (fName 1) (fPart (fC (.int 1))) (fPart (fOp gAdd (fC (.int 1)) (fName 2)))) fNil))) (fCons (fCall 2 none F0 (fCons (fOp (gOr gIx gIxDic) (fName 0) (fC (.int 2))) (fCons (fSl (fName 1) (fPart (fOp gAdd (fC (.int 1)) (fName 2))) fNoPart) fNil))) fNil)))))))
def r__law_put : Nat → Rho → FRes
  | 0 => fnOf 3 fun _ => .bad
  | n + 1 => fnOf 3 (g__law_put (r__law_put n))
def F__law_put : Rho → FRes := r__law_put RFUEL
def g_is_sized : Rho → SRes := (gRet (fAndV (fCB gIsi (fCons (fName 0) (fCons (fC (.ty "tuple")) fNil))) (fChain gLe gLe (fName 1) (fCB gLen (fCons (fName 0) fNil)) (fName 2))))
def F_is_sized : Rho → FRes := fnOf 3 (g_is_sized)
def g_is_rising : Rho → SRes := (gRet (fCB (gBls fun bs => bs.all id) (fCons (fLc [1, 2] (fZip (fCons (fName 0) (fCons (fSl (fName 0) (fPart (fC (.int 1))) fNoPart) fNil))) (uTup 2 (uCons (uName 1) (uCons (uName 2) uNil))) tsNil (fOp gLt (fName 1) (fName 2))) fNil)))
def F_is_rising : Rho → FRes := fnOf 3 (g_is_rising)
def g_is_place_name : Rho → SRes := (gRet (fAndV (fCB gIsi (fCons (fName 0) (fCons (fC (.ty "str")) fNil))) (fAndV (fOp gEq (fCB gLen (fCons (fName 0) fNil)) (fC (.int 1))) (fOp (gOr (gIn false) (gInDic false)) (fName 0) (fC (.str "pqrstuvwxyz"))))))
def F_is_place_name : Rho → FRes := fnOf 1 (g_is_place_name)
def g_is_lot_name : Rho → SRes := (gRet (fAndV (fCB gIsi (fCons (fName 0) (fCons (fC (.ty "str")) fNil))) (fAndV (fOp gEq (fCB gLen (fCons (fName 0) fNil)) (fC (.int 1))) (fOp (gOr (gIn false) (gInDic false)) (fName 0) (fC (.str "PQRSTUVWXYZ"))))))
def F_is_lot_name : Rho → FRes := fnOf 1 (g_is_lot_name)
def g_is_name : Rho → SRes := (gRet (fOrV (fCall 1 none F_is_place_name (fCons (fName 0) fNil)) (fCall 1 none F_is_lot_name (fCons (fName 0) fNil))))
def F_is_name : Rho → FRes := fnOf 1 (g_is_name)
def g_are_tracks : Rho → SRes := (gRet (fAndV (fCall 3 none F_is_sized (fCons (fName 0) (fCons (fC (.int 0)) (fCons (fC (.int 3)) fNil)))) (fAndV (fCB (gBls fun bs => bs.all id) (fCons (fLc [1] (fItems (fName 0)) (uName 1) tsNil (fCall 1 none F_is_name (fCons (fName 1) fNil))) fNil)) (fCall 1 none F_is_rising (fCons (fName 0) fNil)))))
def F_are_tracks : Rho → FRes := fnOf 2 (g_are_tracks)
def g_check_tracks : Rho → SRes := (gIf (fNot (fB (fCall 1 none F_are_tracks (fCons (fName 0) fNil)))) (gRaise "NoTracks") (fun ρ => .nx ρ))
def F_check_tracks : Rho → FRes := fnOf 1 (g_check_tracks)
def g_is_letter : Rho → SRes := (gRet (fAndV (fCB gIsi (fCons (fName 0) (fCons (fC (.ty "str")) fNil))) (fAndV (fOp gEq (fCB gLen (fCons (fName 0) fNil)) (fC (.int 1))) (fOp (gOr (gIn false) (gInDic false)) (fName 0) (fC (.str "ab"))))))
def F_is_letter : Rho → FRes := fnOf 1 (g_is_letter)
def g_is_grown (fA : Addr) (fφ : List MV → Option MV) : Rho → SRes := (gSeq (gParN [4, 5] (fNCons (fLst (fCons (fTup (fCons (fName 0) (fCons (fC (.int 1)) fNil))) fNil)) (fNCons (fC (.int 0)) fNNil))) (gSeq (whileF (fB (fOp gGt (fCB gLen (fCons (fName 4) fNil)) (fC (.int 0)))) (gSeq (gAsg (uTup 2 (uCons (uName 6) (uCons (uName 7) uNil))) (fMut0 uPop 4)) (gSeq (gIf (fAnd (fB (fCB gIsi (fCons (fName 6) (fCons (fC (.ty "tuple")) fNil)))) (fB (fOp gEq (fCB gLen (fCons (fName 6) fNil)) (fC (.int 0))))) (fun ρ => .ct ρ) (fun ρ => .nx ρ)) (gSeq (gSet 5 (fOp gAdd (fName 5) (fC (.int 1)))) (gSeq (gIf (fOr (fB (fOp gGt (fName 5) (fName 1))) (fOr (fB (fOp gGt (fName 7) (fName 2))) (fOr (fNot (fB (fCall 3 none F_is_sized (fCons (fName 6) (fCons (fC (.int 3)) (fCons (fC (.int 3)) fNil)))))) (fNot (fB (fAct 3 fA fφ (fCons (fOp (gOr gIx gIxDic) (fName 6) (fC (.int 0))) fNil))))))) (gRet (fC (.bl false))) (fun ρ => .nx ρ)) (gExpr (fMut uExtend 4 (fCons (fLst (fCons (fTup (fCons (fOp (gOr gIx gIxDic) (fName 6) (fC (.int 2))) (fCons (fOp gAdd (fName 7) (fC (.int 1))) fNil))) (fCons (fTup (fCons (fOp (gOr gIx gIxDic) (fName 6) (fC (.int 1))) (fCons (fOp gAdd (fName 7) (fC (.int 1))) fNil))) fNil))) fNil))))))) WFUEL) (gRet (fC (.bl true)))))
def F_is_grown (fA : Addr) (fφ : List MV → Option MV) : Rho → FRes := fnOf 8 (g_is_grown fA fφ)
def g_is_tree (K : PySem.W.Frag) : Rho → SRes := (gRet (fCall 4 none (F_is_grown (He.ga K "is_letter") (fnV 1 F_is_letter)) (fCons (fName 0) (fCons (fC (.int 10)) (fCons (fC (.int 10)) (fCons (fC (.fn (He.ga K "is_letter"))) fNil))))))
def F_is_tree (K : PySem.W.Frag) : Rho → FRes := fnOf 1 (g_is_tree K)
def g_check_tree (K : PySem.W.Frag) : Rho → SRes := (gIf (fNot (fB (fCall 1 none (F_is_tree K) (fCons (fName 0) fNil)))) (gRaise "NoTree") (fun ρ => .nx ρ))
def F_check_tree (K : PySem.W.Frag) : Rho → FRes := fnOf 1 (g_check_tree K)
def g_tree_of_signs : Rho → SRes := (gSeq (gSet 2 (fLst fNil)) (gSeq (gFor (fItems (fRev (fName 0))) (uName 3) (gIf (fB (fOp (gOr (gIn false) (gInDic false)) (fName 3) (fName 1))) (gExpr (fMut uAppend 2 (fCons (fOp (gOr gIx gIxDic) (fName 1) (fName 3)) fNil))) (gSeq (gSet 4 (fMut0 uPop 2)) (gExpr (fMut uAppend 2 (fCons (fTup (fCons (fName 3) (fCons (fName 4) (fCons (fMut0 uPop 2) fNil)))) fNil)))))) (gRet (fOp (gOr gIx gIxDic) (fName 2) (fC (.int 0))))))
def F_tree_of_signs : Rho → FRes := fnOf 5 (g_tree_of_signs)
def g_with_signs : Rho → SRes := (gSeq (gParN [2, 3, 4] (fNCons (fLst (fCons (fName 0) fNil)) (fNCons (fLst fNil) (fNCons (fC (.int 0)) fNNil)))) (gSeq (whileF (fB (fOp gGt (fCB gLen (fCons (fName 2) fNil)) (fC (.int 0)))) (gSeq (gSet 5 (fMut0 uPop 2)) (gIf (fB (fOp gEq (fName 5) (fC (.tup [])))) (gExpr (fMut uAppend 3 (fCons (fC .non) fNil))) (gSeq (gExpr (fMut uAppend 3 (fCons (fOp (gOr gIx gIxDic) (fName 1) (fName 4)) fNil))) (gSeq (gSet 4 (fOp gAdd (fName 4) (fC (.int 1)))) (gExpr (fMut uExtend 2 (fCons (fLst (fCons (fOp (gOr gIx gIxDic) (fName 5) (fC (.int 2))) (fCons (fOp (gOr gIx gIxDic) (fName 5) (fC (.int 1))) fNil))) fNil))))))) WFUEL) (gRet (fCall 2 none F_tree_of_signs (fCons (fName 3) (fCons (fDispN (fC (.tup []))) fNil))))))
def F_with_signs : Rho → FRes := fnOf 6 (g_with_signs)
def g_parts_of_tree : Rho → SRes := (gSeq (gParN [1, 2] (fNCons (fLst fNil) (fNCons (fLst (fCons (fName 0) fNil)) fNNil))) (gSeq (whileF (fB (fOp gGt (fCB gLen (fCons (fName 2) fNil)) (fC (.int 0)))) (gSeq (gSet 3 (fMut0 uPop 2)) (gIf (fB (fOp gNe (fName 3) (fC (.tup [])))) (gSeq (gExpr (fMut uAppend 1 (fCons (fName 3) fNil))) (gExpr (fMut uExtend 2 (fCons (fLst (fCons (fOp (gOr gIx gIxDic) (fName 3) (fC (.int 2))) (fCons (fOp (gOr gIx gIxDic) (fName 3) (fC (.int 1))) fNil))) fNil)))) (fun ρ => .nx ρ))) WFUEL) (gRet (fName 1))))
def F_parts_of_tree : Rho → FRes := fnOf 4 (g_parts_of_tree)
def g_power_of : Rho → SRes := (gSeq (gSet 2 (fC (.int 1))) (gSeq (gFor (fRange1 (fCons (fName 1) fNil)) (uName 3) (gSet 2 (fOp gMul (fName 2) (fName 0)))) (gRet (fName 2))))
def F_power_of : Rho → FRes := fnOf 4 (g_power_of)
def g_has_told : Rho → SRes := (gRet (fIf (fB (fCall 1 none F_is_lot_name (fCons (fName 0) fNil))) (fOp (gOr (gIn false) (gInDic false)) (fName 2) (fName 1)) (fOp gEq (fName 2) (fName 1))))
def F_has_told : Rho → FRes := fnOf 3 (g_has_told)
def g_raw_marked : Rho → SRes := (gSeq (gSet 3 (fLst fNil)) (gSeq (gFor (fEnum (fCons (fCall 1 none F_parts_of_tree (fCons (fName 1) fNil)) fNil)) (uTup 2 (uCons (uName 4) (uCons (uName 5) uNil))) (gSeq (gSet 6 (fOp gMul (fCall 2 none F_power_of (fCons (fC (.int 2)) (fCons (fCB gLen (fCons (fName 0) fNil)) fNil))) (fMt "str" gSIndex (fC (.str "ab")) (fCons (fOp (gOr gIx gIxDic) (fName 5) (fC (.int 0))) fNil)))) (gSeq (gSet 7 (fLc [8, 9] (fEnum (fCons (fName 0) fNil)) (uTup 2 (uCons (uName 8) (uCons (uName 9) uNil))) (fB (fCall 3 none F_has_told (fCons (fName 9) (fCons (fOp (gOr gIx gIxDic) (fName 2) (fName 8)) (fCons (fName 4) fNil))))) (fName 8))) (gExpr (fMut uAppend 3 (fCons (fOp gAdd (fName 6) (fCB gSum (fCons (fLc [8] (fItems (fName 7)) (uName 8) tsNil (fCall 2 none F_power_of (fCons (fC (.int 2)) (fCons (fName 8) fNil)))) fNil))) fNil)))))) (gRet (fCall 2 none F_with_signs (fCons (fName 1) (fCons (fName 3) fNil))))))
def F_raw_marked : Rho → FRes := fnOf 10 (g_raw_marked)
def g_is_integer : Rho → SRes := (gRet (fAndV (fCB gIsi (fCons (fName 0) (fCons (fC (.ty "int")) fNil))) (fNotV (fCB gIsi (fCons (fName 0) (fCons (fC (.ty "bool")) fNil))))))
def F_is_integer : Rho → FRes := fnOf 1 (g_is_integer)
def g_is_within : Rho → SRes := (gRet (fAndV (fCall 1 none F_is_integer (fCons (fName 0) fNil)) (fChain gLe gLe (fName 1) (fName 0) (fName 2))))
def F_is_within : Rho → FRes := fnOf 3 (g_is_within)
def g_are_within : Rho → SRes := (gRet (fAndV (fCB gIsi (fCons (fName 0) (fCons (fC (.ty "tuple")) fNil))) (fCB (gBls fun bs => bs.all id) (fCons (fLc [3] (fItems (fName 0)) (uName 3) tsNil (fCall 3 none F_is_within (fCons (fName 3) (fCons (fName 1) (fCons (fName 2) fNil))))) fNil))))
def F_are_within : Rho → FRes := fnOf 4 (g_are_within)
def g_is_lot : Rho → SRes := (gRet (fAndV (fCall 3 none F_are_within (fCons (fName 0) (fCons (fC (.int 0)) (fCons (fOp gSub (fName 1) (fC (.int 1))) fNil)))) (fCall 1 none F_is_rising (fCons (fName 0) fNil))))
def F_is_lot : Rho → FRes := fnOf 2 (g_is_lot)
def g_is_worth : Rho → SRes := (gRet (fIf (fB (fCall 1 none F_is_lot_name (fCons (fName 0) fNil))) (fCall 2 none F_is_lot (fCons (fName 2) (fCons (fName 1) fNil))) (fCall 3 none F_is_within (fCons (fName 2) (fCons (fC (.int 0)) (fCons (fOp gSub (fName 1) (fC (.int 1))) fNil))))))
def F_is_worth : Rho → FRes := fnOf 3 (g_is_worth)
def g_raw_is_telling : Rho → SRes := (gSeq (gIf (fOr (fNot (fB (fCB gIsi (fCons (fName 2) (fCons (fC (.ty "tuple")) fNil))))) (fB (fOp gNe (fCB gLen (fCons (fName 2) fNil)) (fCB gLen (fCons (fName 0) fNil))))) (gRet (fC (.bl false))) (fun ρ => .nx ρ)) (gRet (fCB (gBls fun bs => bs.all id) (fCons (fLc [3, 4] (fZip (fCons (fName 0) (fCons (fName 2) fNil))) (uTup 2 (uCons (uName 3) (uCons (uName 4) uNil))) tsNil (fCall 3 none F_is_worth (fCons (fName 3) (fCons (fName 1) (fCons (fName 4) fNil))))) fNil))))
def F_raw_is_telling : Rho → FRes := fnOf 5 (g_raw_is_telling)
def g_raw_size : Rho → SRes := (gRet (fCB gLen (fCons (fCall 1 none F_parts_of_tree (fCons (fName 0) fNil)) fNil)))
def F_raw_size : Rho → FRes := fnOf 1 (g_raw_size)
def g_marked (K : PySem.W.Frag) : Rho → SRes := (gSeq (gExpr (fCall 1 none F_check_tracks (fCons (fName 0) fNil))) (gSeq (gExpr (fCall 1 none (F_check_tree K) (fCons (fName 1) fNil))) (gSeq (gIf (fNot (fB (fCall 3 none F_raw_is_telling (fCons (fName 0) (fCons (fCall 1 none F_raw_size (fCons (fName 1) fNil)) (fCons (fName 2) fNil)))))) (gRaise "NoTelling") (fun ρ => .nx ρ)) (gRet (fCall 3 none F_raw_marked (fCons (fName 0) (fCons (fName 1) (fCons (fName 2) fNil))))))))
def F_marked (K : PySem.W.Frag) : Rho → FRes := fnOf 3 (g_marked K)
def g_symbols_of : Rho → SRes := (gRet (fOp gMul (fC (.int 2)) (fCall 2 none F_power_of (fCons (fC (.int 2)) (fCons (fName 0) fNil)))))
def F_symbols_of : Rho → FRes := fnOf 1 (g_symbols_of)
def fb_raw_is_marked_0 : Rho → Res RV := (fCall 3 none F_is_within (fCons (fName 4) (fCons (fC (.int 0)) (fCons (fOp gSub (fCall 1 none F_symbols_of (fCons (fName 0) fNil)) (fC (.int 1))) fNil))))
noncomputable def g_raw_is_marked : Rho → SRes := (gRet (fCallLam 4 (fun fA fφ => fnOf 8 (g_is_grown fA fφ)) (fb_raw_is_marked_0 ) 1 (fList ((fName 1) :: ((fName 2) :: ((fName 3) :: []))))))
noncomputable def F_raw_is_marked : Rho → FRes := fnOf 4 (g_raw_is_marked)
noncomputable def g_is_marked : Rho → SRes := (gSeq (gExpr (fCall 1 none F_check_tracks (fCons (fName 0) fNil))) (gRet (fCall 4 none F_raw_is_marked (fCons (fCB gLen (fCons (fName 0) fNil)) (fCons (fName 1) (fCons (fC (.int 10)) (fCons (fC (.int 10)) fNil)))))))
noncomputable def F_is_marked : Rho → FRes := fnOf 2 (g_is_marked)
noncomputable def g_check_marked : Rho → SRes := (gIf (fNot (fB (fCall 2 none F_is_marked (fCons (fName 0) (fCons (fName 1) fNil))))) (gRaise "NoMarked") (fun ρ => .nx ρ))
noncomputable def F_check_marked : Rho → FRes := fnOf 2 (g_check_marked)
def g_symbol_without : Rho → SRes := (gSeq (gSet 2 (fCall 2 none F_power_of (fCons (fC (.int 2)) (fCons (fName 1) fNil)))) (gRet (fOp gSub (fOp gAdd (fOp gMul (fOp gDiv (fName 0) (fOp gMul (fC (.int 2)) (fName 2))) (fName 2)) (fName 0)) (fOp gMul (fName 2) (fOp gDiv (fName 0) (fName 2))))))
def F_symbol_without : Rho → FRes := fnOf 3 (g_symbol_without)
def g_raw_symbols : Rho → SRes := (gRet (fCB gTuple (fCons (fLc [1] (fItems (fCall 1 none F_parts_of_tree (fCons (fName 0) fNil))) (uName 1) tsNil (fOp (gOr gIx gIxDic) (fName 1) (fC (.int 0)))) fNil)))
def F_raw_symbols : Rho → FRes := fnOf 2 (g_raw_symbols)
noncomputable def g_without : Rho → SRes := (gSeq (gExpr (fCall 2 none F_check_marked (fCons (fName 0) (fCons (fName 1) fNil)))) (gSeq (gIf (fNot (fB (fCall 3 none F_is_within (fCons (fName 2) (fCons (fC (.int 0)) (fCons (fOp gSub (fCB gLen (fCons (fName 0) fNil)) (fC (.int 1))) fNil)))))) (gRaise "NoTrack") (fun ρ => .nx ρ)) (gRet (fCall 2 none F_with_signs (fCons (fName 1) (fCons (fLc [3] (fItems (fCall 1 none F_raw_symbols (fCons (fName 1) fNil))) (uName 3) tsNil (fCall 2 none F_symbol_without (fCons (fName 3) (fCons (fName 2) fNil)))) fNil))))))
noncomputable def F_without : Rho → FRes := fnOf 4 (g_without)
def g_symbols_many : Rho → SRes := (gSeq (gExpr (fCall 1 none F_check_tracks (fCons (fName 0) fNil))) (gRet (fCall 1 none F_symbols_of (fCons (fCB gLen (fCons (fName 0) fNil)) fNil))))
def F_symbols_many : Rho → FRes := fnOf 1 (g_symbols_many)
noncomputable def g__law_refuses (K : PySem.W.Frag) : Rho → SRes := (gSeq (gTry [("NoTelling", true), ("NoTracks", false), ("NoTree", false)] (gSeq (gExpr (fCall 3 none (F_marked K) (fCons (fName 1) (fCons (fName 2) (fCons (fOp gAdd (fName 3) (fTup (fCons (fC (.int 0)) fNil))) fNil))))) (gRet (fC (.bl false)))) (fun ρ => .nx ρ)) (gSeq (gTry [("NoMarked", false), ("NoTelling", false), ("NoTrack", true), ("NoTracks", false), ("NoTree", false)] (gSeq (gExpr (fCall 3 none F_without (fCons (fName 1) (fCons (fCall 3 none (F_marked K) (fCons (fName 1) (fCons (fName 2) (fCons (fName 3) fNil)))) (fCons (fCB gLen (fCons (fName 1) fNil)) fNil))))) (gRet (fC (.bl false)))) (fun ρ => .nx ρ)) (gSeq (gSet 4 (fCall 2 (some 0) F__law_some (fCons (fName 0) (fCons (fLst (fCons (fTup (fCons (fC (.str "y")) (fCons (fC (.str "x")) fNil))) (fCons (fTup (fCons (fC (.str "x")) (fCons (fC (.str "X")) fNil))) (fCons (fTup (fCons (fC (.str "x")) (fCons (fC (.str "x")) fNil))) (fCons (fLst (fCons (fC (.str "x")) fNil)) (fCons (fTup (fCons (fC (.str "a")) fNil)) (fCons (fTup (fCons (fC (.str "P")) (fCons (fC (.str "Q")) (fCons (fC (.str "R")) (fCons (fC (.str "S")) fNil))))) (fCons (fC (.str "x")) fNil)))))))) fNil)))) (gSeq (gTry [("NoTracks", true)] (gExpr (fCall 1 none F_symbols_many (fCons (fName 4) fNil))) (gRet (fC (.bl true)))) (gRet (fC (.bl false)))))))
noncomputable def F__law_refuses (K : PySem.W.Frag) : Rho → FRes := fnOf 5 (g__law_refuses K)
def g__law_tracks : Rho → SRes := (gSeq (gSet 1 (fLst (fCons (fTup fNil) (fCons (fTup (fCons (fC (.str "x")) fNil)) (fCons (fTup (fCons (fC (.str "X")) fNil)) (fCons (fTup (fCons (fC (.str "X")) (fCons (fC (.str "x")) fNil))) (fCons (fTup (fCons (fC (.str "x")) (fCons (fC (.str "y")) fNil))) (fCons (fTup (fCons (fC (.str "X")) (fCons (fC (.str "Y")) fNil))) fNil)))))))) (gRet (fCall 2 (some 0) F__law_some (fCons (fName 0) (fCons (fOp gAdd (fName 1) (fLst (fCons (fTup (fCons (fC (.str "X")) (fCons (fC (.str "x")) (fCons (fC (.str "y")) fNil)))) (fCons (fTup (fCons (fC (.str "X")) (fCons (fC (.str "Y")) (fCons (fC (.str "x")) fNil)))) (fCons (fTup (fCons (fC (.str "P")) (fCons (fC (.str "p")) (fCons (fC (.str "z")) fNil)))) fNil))))) fNil)))))
def F__law_tracks : Rho → FRes := fnOf 2 (g__law_tracks)
def g__law_places (F0 : Rho → FRes) : Rho → SRes := (gSeq (gIf (fB (fOp gEq (fName 0) (fTup fNil))) (gRet (fLst fNil)) (fun ρ => .nx ρ)) (gSeq (gParN [2, 3] (fNCons (fCall 1 none F__law_many (fCons (fOp (gOr gIx gIxDic) (fName 0) (fC (.int 1))) fNil)) (fNCons (fCall 1 none F__law_many (fCons (fOp (gOr gIx gIxDic) (fName 0) (fC (.int 2))) fNil)) fNNil))) (gSeq (gSet 1 (fLst (fCons (fTup (fCons (fOp (gOr gIx gIxDic) (fName 0) (fC (.int 0))) (fCons (fIf (fB (fOp gGt (fName 2) (fC (.int 0)))) (fC (.int 1)) (fC .non)) (fCons (fIf (fB (fOp gGt (fName 3) (fC (.int 0)))) (fOp gAdd (fC (.int 1)) (fName 2)) (fC .non)) (fCons (fOp gAdd (fOp gAdd (fC (.int 1)) (fName 2)) (fName 3)) fNil))))) fNil))) (gSeq (gFor (fItems (fLst (fCons (fTup (fCons (fOp (gOr gIx gIxDic) (fName 0) (fC (.int 1))) (fCons (fC (.int 1)) fNil))) (fCons (fTup (fCons (fOp (gOr gIx gIxDic) (fName 0) (fC (.int 2))) (fCons (fOp gAdd (fC (.int 1)) (fName 2)) fNil))) fNil)))) (uTup 2 (uCons (uName 4) (uCons (uName 5) uNil))) (gFor (fItems (fCall 1 none F0 (fCons (fName 4) fNil))) (uTup 4 (uCons (uName 6) (uCons (uName 7) (uCons (uName 8) (uCons (uName 9) uNil))))) (gSeq (gSet 7 (fIf (fB (fOp (gIs false) (fName 7) (fC .non))) (fC .non) (fOp gAdd (fName 7) (fName 5)))) (gSeq (gSet 8 (fIf (fB (fOp (gIs false) (fName 8) (fC .non))) (fC .non) (fOp gAdd (fName 8) (fName 5)))) (gExpr (fMut uAppend 1 (fCons (fTup (fCons (fName 6) (fCons (fName 7) (fCons (fName 8) (fCons (fOp gAdd (fName 9) (fName 5)) fNil))))) fNil))))))) (gRet (fName 1))))))
def r__law_places : Nat → Rho → FRes
  | 0 => fnOf 10 fun _ => .bad
  | n + 1 => fnOf 10 (g__law_places (r__law_places n))
def F__law_places : Rho → FRes := r__law_places RFUEL
noncomputable def g_symbols_of_tree : Rho → SRes := (gSeq (gExpr (fCall 2 none F_check_marked (fCons (fName 0) (fCons (fName 1) fNil)))) (gRet (fCall 1 none F_raw_symbols (fCons (fName 1) fNil))))
noncomputable def F_symbols_of_tree : Rho → FRes := fnOf 2 (g_symbols_of_tree)
def g__law_power : Rho → SRes := (gSeq (gSet 1 (fC (.int 1))) (gSeq (gFor (fRange1 (fCons (fName 0) fNil)) (uName 2) (gSet 1 (fOp gMul (fName 1) (fC (.int 2))))) (gRet (fName 1))))
def F__law_power : Rho → FRes := fnOf 3 (g__law_power)
def g__law_symbol : Rho → SRes := (gSeq (gSet 4 (fIf (fB (fOp gEq (fName 0) (fC (.str "b")))) (fCall 1 none F__law_power (fCons (fCB gLen (fCons (fName 2) fNil)) fNil)) (fC (.int 0)))) (gSeq (gFor (fEnum (fCons (fName 3) fNil)) (uTup 2 (uCons (uName 5) (uCons (uName 6) uNil))) (gSeq (gSet 7 (fIf (fB (fCB gIsi (fCons (fName 6) (fCons (fC (.ty "tuple")) fNil)))) (fOp (gOr (gIn false) (gInDic false)) (fName 1) (fName 6)) (fOp gEq (fName 1) (fName 6)))) (gSet 4 (fOp gAdd (fName 4) (fIf (fB (fName 7)) (fCall 1 none F__law_power (fCons (fName 5) fNil)) (fC (.int 0))))))) (gRet (fName 4))))
def F__law_symbol : Rho → FRes := fnOf 8 (g__law_symbol)
def g_bit_of : Rho → SRes := (gSeq (gSet 2 (fOp gDiv (fName 0) (fCall 2 none F_power_of (fCons (fC (.int 2)) (fCons (fName 1) fNil))))) (gRet (fOp gSub (fName 2) (fOp gMul (fC (.int 2)) (fOp gDiv (fName 2) (fC (.int 2)))))))
def F_bit_of : Rho → FRes := fnOf 3 (g_bit_of)
def g_places_on : Rho → SRes := (gRet (fCB gTuple (fCons (fLc [2, 3] (fEnum (fCons (fName 0) fNil)) (uTup 2 (uCons (uName 2) (uCons (uName 3) uNil))) (fB (fOp gEq (fCall 2 none F_bit_of (fCons (fName 3) (fCons (fName 1) fNil))) (fC (.int 1)))) (fName 2)) fNil)))
def F_places_on : Rho → FRes := fnOf 4 (g_places_on)
def g_raw_is_right : Rho → SRes := (gRet (fCB (gBls fun bs => bs.all id) (fCons (fLc [2, 3] (fEnum (fCons (fName 0) fNil)) (uTup 2 (uCons (uName 2) (uCons (uName 3) uNil))) tsNil (fOrV (fCall 1 none F_is_lot_name (fCons (fName 3) fNil)) (fOp gEq (fCB gLen (fCons (fCall 2 none F_places_on (fCons (fName 1) (fCons (fName 2) fNil))) fNil)) (fC (.int 1))))) fNil)))
def F_raw_is_right : Rho → FRes := fnOf 4 (g_raw_is_right)
noncomputable def g_is_right : Rho → SRes := (gSeq (gExpr (fCall 2 none F_check_marked (fCons (fName 0) (fCons (fName 1) fNil)))) (gRet (fCall 2 none F_raw_is_right (fCons (fName 0) (fCons (fCall 1 none F_raw_symbols (fCons (fName 1) fNil)) fNil)))))
noncomputable def F_is_right : Rho → FRes := fnOf 2 (g_is_right)
def g_letter_of : Rho → SRes := (gRet (fOp (gOr gIx gIxDic) (fC (.str "ab")) (fCall 2 none F_bit_of (fCons (fName 0) (fCons (fName 1) fNil)))))
def F_letter_of : Rho → FRes := fnOf 2 (g_letter_of)
def g_raw_tree : Rho → SRes := (gRet (fCall 2 none F_with_signs (fCons (fName 1) (fCons (fLc [2] (fItems (fCall 1 none F_raw_symbols (fCons (fName 1) fNil))) (uName 2) tsNil (fCall 2 none F_letter_of (fCons (fName 2) (fCons (fName 0) fNil)))) fNil))))
def F_raw_tree : Rho → FRes := fnOf 3 (g_raw_tree)
noncomputable def g_tree_of : Rho → SRes := (gSeq (gExpr (fCall 2 none F_check_marked (fCons (fName 0) (fCons (fName 1) fNil)))) (gSeq (gIf (fNot (fB (fCall 2 none F_raw_is_right (fCons (fName 0) (fCons (fCall 1 none F_raw_symbols (fCons (fName 1) fNil)) fNil))))) (gRaise "NoMarked") (fun ρ => .nx ρ)) (gRet (fCall 2 none F_raw_tree (fCons (fCB gLen (fCons (fName 0) fNil)) (fCons (fName 1) fNil))))))
noncomputable def F_tree_of : Rho → FRes := fnOf 2 (g_tree_of)
def g_raw_telling : Rho → SRes := (gSeq (gSet 2 (fLc [3] (fRange1 (fCons (fCB gLen (fCons (fName 0) fNil)) fNil)) (uName 3) tsNil (fCall 2 none F_places_on (fCons (fName 1) (fCons (fName 3) fNil))))) (gRet (fCB gTuple (fCons (fLc [4, 5] (fZip (fCons (fName 0) (fCons (fName 2) fNil))) (uTup 2 (uCons (uName 4) (uCons (uName 5) uNil))) tsNil (fIf (fB (fCall 1 none F_is_lot_name (fCons (fName 4) fNil))) (fName 5) (fOp (gOr gIx gIxDic) (fName 5) (fC (.int 0))))) fNil))))
def F_raw_telling : Rho → FRes := fnOf 6 (g_raw_telling)
noncomputable def g_telling_of : Rho → SRes := (gSeq (gExpr (fCall 2 none F_check_marked (fCons (fName 0) (fCons (fName 1) fNil)))) (gSeq (gIf (fNot (fB (fCall 2 none F_raw_is_right (fCons (fName 0) (fCons (fCall 1 none F_raw_symbols (fCons (fName 1) fNil)) fNil))))) (gRaise "NoMarked") (fun ρ => .nx ρ)) (gRet (fCall 2 none F_raw_telling (fCons (fName 0) (fCons (fCall 1 none F_raw_symbols (fCons (fName 1) fNil)) fNil))))))
noncomputable def F_telling_of : Rho → FRes := fnOf 2 (g_telling_of)
noncomputable def g__law_raises : Rho → SRes := (gSeq (gTry [("NoMarked", true), ("NoTracks", false)] (gExpr (fCall 2 none F_tree_of (fCons (fName 0) (fCons (fName 1) fNil)))) (gRet (fC (.bl true)))) (gRet (fC (.bl false))))
noncomputable def F__law_raises : Rho → FRes := fnOf 2 (g__law_raises)
def g__law_is (F0 : Rho → FRes) : Rho → SRes := (gSeq (gIf (fB (fCB gIsi (fCons (fName 1) (fCons (fTup (fCons (fC (.ty "tuple")) (fCons (fC (.ty "list")) fNil))) fNil)))) (gSeq (gIf (fOr (fB (fOp gNe (fCB gIsi (fCons (fName 0) (fCons (fC (.ty "tuple")) fNil))) (fCB gIsi (fCons (fName 1) (fCons (fC (.ty "tuple")) fNil))))) (fB (fOp gNe (fCB gIsi (fCons (fName 0) (fCons (fC (.ty "list")) fNil))) (fCB gIsi (fCons (fName 1) (fCons (fC (.ty "list")) fNil)))))) (gRet (fC (.bl false))) (fun ρ => .nx ρ)) (gRet (fAndV (fOp gEq (fCB gLen (fCons (fName 0) fNil)) (fCB gLen (fCons (fName 1) fNil))) (fCB (gBls fun bs => bs.all id) (fCons (fLc [2, 3] (fZip (fCons (fName 0) (fCons (fName 1) fNil))) (uTup 2 (uCons (uName 2) (uCons (uName 3) uNil))) tsNil (fCall 2 none F0 (fCons (fName 2) (fCons (fName 3) fNil)))) fNil))))) (fun ρ => .nx ρ)) (gSeq (gIf (fOr (fB (fOp (gIs false) (fName 1) (fC .non))) (fB (fOp (gIs false) (fName 0) (fC .non)))) (gRet (fAndV (fOp (gIs false) (fName 1) (fC .non)) (fOp (gIs false) (fName 0) (fC .non)))) (fun ρ => .nx ρ)) (gSeq (gIf (fOr (fB (fOp gNe (fCB gIsi (fCons (fName 0) (fCons (fC (.ty "bool")) fNil))) (fCB gIsi (fCons (fName 1) (fCons (fC (.ty "bool")) fNil))))) (fB (fOp gNe (fCB gIsi (fCons (fName 0) (fCons (fC (.ty "int")) fNil))) (fCB gIsi (fCons (fName 1) (fCons (fC (.ty "int")) fNil)))))) (gRet (fC (.bl false))) (fun ρ => .nx ρ)) (gRet (fAndV (fOp gEq (fCB gIsi (fCons (fName 0) (fCons (fC (.ty "str")) fNil))) (fCB gIsi (fCons (fName 1) (fCons (fC (.ty "str")) fNil)))) (fOp gEq (fName 0) (fName 1)))))))
def r__law_is : Nat → Rho → FRes
  | 0 => fnOf 4 fun _ => .bad
  | n + 1 => fnOf 4 (g__law_is (r__law_is n))
def F__law_is : Rho → FRes := r__law_is RFUEL
def g__law_less : Rho → SRes := (gSeq (gSet 2 (fCall 1 none F__law_power (fCons (fName 1) fNil))) (gRet (fOp gAdd (fOp gMod (fCB gIntOf (fCons (fName 0) fNil)) (fName 2)) (fOp gMul (fName 2) (fOp gDiv (fName 0) (fOp gMul (fC (.int 2)) (fName 2)))))))
def F__law_less : Rho → FRes := fnOf 3 (g__law_less)
noncomputable def g_law (K : PySem.W.Frag) : Rho → SRes := (gSeq (gSet 1 (fCall 1 none F__law_hand (fCons (fName 0) fNil))) (gSeq (gParN [10, 11] (fNCons (fCall 1 (some 0) F__law_tracks (fCons (fName 1) fNil)) (fNCons (fOp gAdd (fC (.int 1)) (fCall 2 (some 0) F__law_draw (fCons (fName 1) (fCons (fC (.int 5)) fNil)))) fNNil))) (gSeq (gSet 2 (fCall 2 (some 0) F__law_tree (fCons (fName 1) (fCons (fName 11) fNil)))) (gSeq (gSet 3 (fCall 3 (some 0) F__law_telling (fCons (fName 1) (fCons (fName 10) (fCons (fName 11) fNil))))) (gSeq (gSet 4 (fLst fNil)) (gSeq (gFor (fEnum (fCons (fCall 1 none F__law_places (fCons (fName 2) fNil)) fNil)) (uTup 2 (uCons (uName 12) (uCons (uName 13) uNil))) (gExpr (fMut uAppend 4 (fCons (fCall 4 none F__law_symbol (fCons (fOp (gOr gIx gIxDic) (fName 13) (fC (.int 0))) (fCons (fName 12) (fCons (fName 10) (fCons (fName 3) fNil))))) fNil)))) (gSeq (gSet 5 (fCall 2 none F__law_put (fCons (fName 2) (fCons (fName 4) fNil)))) (gSeq (gIf (fOr (fB (fOp gNe (fCall 3 none (F_marked K) (fCons (fName 10) (fCons (fName 2) (fCons (fName 3) fNil)))) (fName 5))) (fB (fOp gNe (fCall 1 none F_symbols_many (fCons (fName 10) fNil)) (fOp gMul (fC (.int 2)) (fCall 1 none F__law_power (fCons (fCB gLen (fCons (fName 10) fNil)) fNil)))))) (gRet (fC (.bl false))) (fun ρ => .nx ρ)) (gSeq (gIf (fOr (fB (fOp (gIs true) (fCall 2 none F_is_marked (fCons (fName 10) (fCons (fName 5) fNil))) (fC (.bl true)))) (fB (fOp (gIs true) (fCall 2 none F_is_right (fCons (fName 10) (fCons (fName 5) fNil))) (fC (.bl true))))) (gRet (fC (.bl false))) (fun ρ => .nx ρ)) (gSeq (gIf (fOr (fB (fOp gNe (fCall 2 none F_tree_of (fCons (fName 10) (fCons (fName 5) fNil))) (fName 2))) (fB (fOp gNe (fCall 2 none F_telling_of (fCons (fName 10) (fCons (fName 5) fNil))) (fName 3)))) (gRet (fC (.bl false))) (fun ρ => .nx ρ)) (gSeq (gIf (fB (fOp gNe (fCall 2 none F_symbols_of_tree (fCons (fName 10) (fCons (fName 5) fNil))) (fCB gTuple (fCons (fName 4) fNil)))) (gRet (fC (.bl false))) (fun ρ => .nx ρ)) (gSeq (gFor (fRange1 (fCons (fCB gLen (fCons (fName 10) fNil)) fNil)) (uName 6) (gIf (fB (fOp gNe (fCall 3 none F_without (fCons (fName 10) (fCons (fName 5) (fCons (fName 6) fNil)))) (fCall 2 none F__law_put (fCons (fName 2) (fCons (fLc [18] (fItems (fName 4)) (uName 18) tsNil (fCall 2 none F__law_less (fCons (fName 18) (fCons (fName 6) fNil)))) fNil))))) (gRet (fC (.bl false))) (fun ρ => .nx ρ))) (gSeq (gSet 7 (fCall 2 (some 0) F__law_draw (fCons (fName 1) (fCons (fName 11) fNil)))) (gSeq (gSet 8 (fOp gAdd (fOp gAdd (fSl (fName 4) fNoPart (fPart (fName 7))) (fLst (fCons (fOp gAdd (fOp gMul (fC (.int 2)) (fCall 1 none F__law_power (fCons (fCB gLen (fCons (fName 10) fNil)) fNil))) (fCall 2 (some 0) F__law_draw (fCons (fName 1) (fCons (fC (.int 3)) fNil)))) fNil))) (fSl (fName 4) (fPart (fOp gAdd (fName 7) (fC (.int 1)))) fNoPart))) (gSeq (gSet 9 (fCall 2 none F__law_put (fCons (fName 2) (fCons (fName 8) fNil)))) (gSeq (gIf (fOr (fB (fOp (gIs true) (fCall 2 none F_is_marked (fCons (fName 10) (fCons (fName 9) fNil))) (fC (.bl false)))) (fNot (fB (fCall 2 none F__law_raises (fCons (fName 10) (fCons (fName 9) fNil)))))) (gRet (fC (.bl false))) (fun ρ => .nx ρ)) (gSeq (gFor (fEnum (fCons (fName 10) fNil)) (uTup 2 (uCons (uName 6) (uCons (uName 14) uNil))) (gSeq (gSet 15 (fCall 1 none F__law_power (fCons (fName 6) fNil))) (gSeq (gSet 16 (fIf (fB (fOp gEq (fOp gMod (fCB gIntOf (fCons (fOp gDiv (fOp (gOr gIx gIxDic) (fName 4) (fName 7)) (fName 15)) fNil)) (fC (.int 2))) (fC (.int 1)))) (fOp gSub (fOp (gOr gIx gIxDic) (fName 4) (fName 7)) (fName 15)) (fOp gAdd (fOp (gOr gIx gIxDic) (fName 4) (fName 7)) (fName 15)))) (gSeq (gSet 17 (fCall 2 none F__law_put (fCons (fName 2) (fCons (fOp gAdd (fOp gAdd (fSl (fName 4) fNoPart (fPart (fName 7))) (fLst (fCons (fName 16) fNil))) (fSl (fName 4) (fPart (fOp gAdd (fName 7) (fC (.int 1)))) fNoPart)) fNil)))) (gSeq (gIf (fOr (fNot (fB (fCall 2 none F__law_is (fCons (fCall 2 none F_is_right (fCons (fName 10) (fCons (fName 17) fNil))) (fCons (fOp (gOr (gIn true) (gInDic true)) (fName 14) (fC (.str "pqrstuvwxyz"))) fNil))))) (fB (fOp (gIs true) (fCall 2 none F_is_marked (fCons (fName 10) (fCons (fName 17) fNil))) (fC (.bl true))))) (gRet (fC (.bl false))) (fun ρ => .nx ρ)) (gIf (fAnd (fB (fOp (gOr (gIn false) (gInDic false)) (fName 14) (fC (.str "pqrstuvwxyz")))) (fNot (fB (fCall 2 none F__law_raises (fCons (fName 10) (fCons (fName 17) fNil)))))) (gRet (fC (.bl false))) (fun ρ => .nx ρ))))))) (gRet (fCall 4 (some 0) (F__law_refuses K) (fCons (fName 1) (fCons (fName 10) (fCons (fName 2) (fCons (fName 3) fNil)))))))))))))))))))))))
noncomputable def F_law (K : PySem.W.Frag) : Rho → FRes := fnOf 19 (g_law K)
end W05
namespace W05
open PySem PySem.Spec PyProof.Rows L2 DL LamX
/-- what the head tells -/
structure Txt (K : PySem.W.Frag) (mg : Str → Option Value) (T : Tb) (base : Heap) : Prop where
  d__law_hand : DefC K mg "_law_hand" s__law_hand
  d__law_draw : DefC K mg "_law_draw" s__law_draw
  d__law_some : DefC K mg "_law_some" s__law_some
  d__law_tree : DefC K mg "_law_tree" s__law_tree
  d__law_telling : DefC K mg "_law_telling" s__law_telling
  d__law_many : DefC K mg "_law_many" s__law_many
  d__law_put : DefC K mg "_law_put" s__law_put
  d_is_sized : DefC K mg "is_sized" s_is_sized
  d_is_rising : DefC K mg "is_rising" s_is_rising
  d_is_place_name : DefC K mg "is_place_name" s_is_place_name
  d_is_lot_name : DefC K mg "is_lot_name" s_is_lot_name
  d_is_name : DefC K mg "is_name" s_is_name
  d_are_tracks : DefC K mg "are_tracks" s_are_tracks
  d_check_tracks : DefC K mg "check_tracks" s_check_tracks
  d_is_letter : DefC K mg "is_letter" s_is_letter
  d_is_grown : DefC K mg "is_grown" s_is_grown
  d_is_tree : DefC K mg "is_tree" s_is_tree
  d_check_tree : DefC K mg "check_tree" s_check_tree
  d_tree_of_signs : DefC K mg "tree_of_signs" s_tree_of_signs
  d_with_signs : DefC K mg "with_signs" s_with_signs
  d_parts_of_tree : DefC K mg "parts_of_tree" s_parts_of_tree
  d_power_of : DefC K mg "power_of" s_power_of
  d_has_told : DefC K mg "has_told" s_has_told
  d_raw_marked : DefC K mg "raw_marked" s_raw_marked
  d_is_integer : DefC K mg "is_integer" s_is_integer
  d_is_within : DefC K mg "is_within" s_is_within
  d_are_within : DefC K mg "are_within" s_are_within
  d_is_lot : DefC K mg "is_lot" s_is_lot
  d_is_worth : DefC K mg "is_worth" s_is_worth
  d_raw_is_telling : DefC K mg "raw_is_telling" s_raw_is_telling
  d_raw_size : DefC K mg "raw_size" s_raw_size
  d_marked : DefC K mg "marked" s_marked
  d_symbols_of : DefC K mg "symbols_of" s_symbols_of
  d_raw_is_marked : DefC K mg "raw_is_marked" s_raw_is_marked
  d_is_marked : DefC K mg "is_marked" s_is_marked
  d_check_marked : DefC K mg "check_marked" s_check_marked
  d_symbol_without : DefC K mg "symbol_without" s_symbol_without
  d_raw_symbols : DefC K mg "raw_symbols" s_raw_symbols
  d_without : DefC K mg "without" s_without
  d_symbols_many : DefC K mg "symbols_many" s_symbols_many
  d__law_refuses : DefC K mg "_law_refuses" s__law_refuses
  d__law_tracks : DefC K mg "_law_tracks" s__law_tracks
  d__law_places : DefC K mg "_law_places" s__law_places
  d_symbols_of_tree : DefC K mg "symbols_of_tree" s_symbols_of_tree
  d__law_power : DefC K mg "_law_power" s__law_power
  d__law_symbol : DefC K mg "_law_symbol" s__law_symbol
  d_bit_of : DefC K mg "bit_of" s_bit_of
  d_places_on : DefC K mg "places_on" s_places_on
  d_raw_is_right : DefC K mg "raw_is_right" s_raw_is_right
  d_is_right : DefC K mg "is_right" s_is_right
  d_letter_of : DefC K mg "letter_of" s_letter_of
  d_raw_tree : DefC K mg "raw_tree" s_raw_tree
  d_tree_of : DefC K mg "tree_of" s_tree_of
  d_raw_telling : DefC K mg "raw_telling" s_raw_telling
  d_telling_of : DefC K mg "telling_of" s_telling_of
  d__law_raises : DefC K mg "_law_raises" s__law_raises
  d__law_is : DefC K mg "_law_is" s__law_is
  d__law_less : DefC K mg "_law_less" s__law_less
  d_law : DefC K mg "law" s_law
  c_PLACE_NAMES : GlC K mg "PLACE_NAMES" (.str "pqrstuvwxyz")
  c_LOT_NAMES : GlC K mg "LOT_NAMES" (.str "PQRSTUVWXYZ")
  c_MOST_TRACKS : GlC K mg "MOST_TRACKS" (.int 3)
  c_LETTERS : GlC K mg "LETTERS" (.str "ab")
  c_MOST_PLACES : GlC K mg "MOST_PLACES" (.int 10)
  c_MOST_DEEP : GlC K mg "MOST_DEEP" (.int 10)
  c_EMPTY : GlC K mg "EMPTY" (.tup [])
  fr_abs : mg "abs" = none
  fr_int : mg "int" = none
  fr_len : mg "len" = none
  fr_tuple : mg "tuple" = none
  fr_range : mg "range" = none
  fr_isinstance : mg "isinstance" = none
  fr_all : mg "all" = none
  fr_zip : mg "zip" = none
  fr_str : mg "str" = none
  fr_enumerate : mg "enumerate" = none
  fr_sum : mg "sum" = none
  fr_bool : mg "bool" = none
  fr_list : mg "list" = none
  e_NoTracks : ExC K mg "NoTracks"
  e_NoTree : ExC K mg "NoTree"
  e_NoTelling : ExC K mg "NoTelling"
  e_NoMarked : ExC K mg "NoMarked"
  e_NoTrack : ExC K mg "NoTrack"
  m_NoTelling_NoTelling : PySem.W.exmOne K (.ref (He.ga K "NoTelling")) (.ref (He.ga K "NoTelling")) = some true
  m_NoTracks_NoTelling : PySem.W.exmOne K (.ref (He.ga K "NoTracks")) (.ref (He.ga K "NoTelling")) = some false
  m_NoTree_NoTelling : PySem.W.exmOne K (.ref (He.ga K "NoTree")) (.ref (He.ga K "NoTelling")) = some false
  m_NoMarked_NoTrack : PySem.W.exmOne K (.ref (He.ga K "NoMarked")) (.ref (He.ga K "NoTrack")) = some false
  m_NoTelling_NoTrack : PySem.W.exmOne K (.ref (He.ga K "NoTelling")) (.ref (He.ga K "NoTrack")) = some false
  m_NoTrack_NoTrack : PySem.W.exmOne K (.ref (He.ga K "NoTrack")) (.ref (He.ga K "NoTrack")) = some true
  m_NoTracks_NoTrack : PySem.W.exmOne K (.ref (He.ga K "NoTracks")) (.ref (He.ga K "NoTrack")) = some false
  m_NoTree_NoTrack : PySem.W.exmOne K (.ref (He.ga K "NoTree")) (.ref (He.ga K "NoTrack")) = some false
  m_NoTracks_NoTracks : PySem.W.exmOne K (.ref (He.ga K "NoTracks")) (.ref (He.ga K "NoTracks")) = some true
  m_NoMarked_NoMarked : PySem.W.exmOne K (.ref (He.ga K "NoMarked")) (.ref (He.ga K "NoMarked")) = some true
  m_NoTracks_NoMarked : PySem.W.exmOne K (.ref (He.ga K "NoTracks")) (.ref (He.ga K "NoMarked")) = some false
  t_raw_is_marked : TabB base mg (He.cT K ("raw_is_marked", none)).1 (He.cT K ("raw_is_marked", none)).2
  tm_raw_is_marked : ((He.cT K ("raw_is_marked", none)).2, (("raw_is_marked" : Str) ++ (".<locals>." : Str)) ++ ("<lambda>" : Str)) ∈ T.t
  tu_raw_is_marked : ∀ p ∈ T.t, p.1 = (He.cT K ("raw_is_marked", none)).2 → p.2 = (("raw_is_marked" : Str) ++ (".<locals>." : Str)) ++ ("<lambda>" : Str)
variable {P : Program} {w : World} {K : PySem.W.Frag} {mg : Str → Option Value} {base : Heap} {T : Tb}
theorem Txt.at {T' : Tb} (X : Txt K mg T base) (h : T'.t = T.t) : Txt K mg T' base := { X with tm_raw_is_marked := by rw [h]; exact X.tm_raw_is_marked, tu_raw_is_marked := by rw [h]; exact X.tu_raw_is_marked }
theorem ok__law_hand (X : Txt K mg T base) : Ok P w K mg base T 1 "_law_hand" p__law_hand F__law_hand :=
  ok_mk X.d__law_hand sc__law_hand (fun _ _ _ _ _ _ us h => match us, h with | [_], _ => rfl) fun cdv A outer s H E hr => by
    have hu := hr.units
    have hu1 : _ + 1 < cLine := Nat.lt_of_le_of_lt (Nat.add_le_add_left (by decide : 1 ≤ 64) _) hu
    have hN := sc__law_hand.nd
    have tk : Takes (cxOf (L2.CX P w) P w K mg base N__law_hand "_law_hand" (defScope s__law_hand) (He.ga K "_law_hand") cdv A outer s H E) (fun cls d _ H => E cls d H) := takes_of rfl rfl rfl rfl
    have hp : PassesOwn (model P w) (cxOf (L2.CX P w) P w K mg base N__law_hand "_law_hand" (defScope s__law_hand) (He.ga K "_law_hand") cdv A outer s H E).A (cxOf (L2.CX P w) P w K mg base N__law_hand "_law_hand" (defScope s__law_hand) (He.ga K "_law_hand") cdv A outer s H E).env (cxOf (L2.CX P w) P w K mg base N__law_hand "_law_hand" (defScope s__law_hand) (He.ga K "_law_hand") cdv A outer s H E).xe := passes_of rfl
    exact (qss_cons (qs_setLc (i := 1) (own := [("cell", 2)]) rfl hN (qi_items (qe_sl (qe_name 0) qo_none (qo_some qe_int))) (show BlkOk N__law_hand (defScope s__law_hand) _ _ from blkOk_by (by decide +kernel)) (fun _ _ _ _ _ => (qg_name (i := 2) hN)) (fun _ _ _ _ _ => qts_nil) (fun _ _ _ _ _ => (qe_cb call_abs ok_abs X.fr_abs boot_abs (qa_cons (qe_cty call_int1 ok_intOf X.fr_int boot_int (qa_cons (qe_name 2) qa_nil)) qa_nil)))) (qss_one (qs_ret (qe_lst (qa_cons (qe_name 1) (qa_cons qe_int (qa_cons qe_int (qa_cons (qe_op op_addA ok_add qe_int (qe_op op_mul ok_mul qe_int (qe_cb call_lenA ok_len X.fr_len boot_len (qa_cons (qe_name 1) qa_nil)))) (qa_cons qe_int qa_nil)))))))))
theorem ok__law_draw (X : Txt K mg T base) : Ok P w K mg base T 1 "_law_draw" p__law_draw F__law_draw :=
  ok_mk X.d__law_draw sc__law_draw (fun _ _ _ _ _ _ us h => match us, h with | [_, _], _ => rfl) fun cdv A outer s H E hr => by
    have hu := hr.units
    have hu1 : _ + 1 < cLine := Nat.lt_of_le_of_lt (Nat.add_le_add_left (by decide : 1 ≤ 64) _) hu
    have hN := sc__law_draw.nd
    have tk : Takes (cxOf (L2.CX P w) P w K mg base N__law_draw "_law_draw" (defScope s__law_draw) (He.ga K "_law_draw") cdv A outer s H E) (fun cls d _ H => E cls d H) := takes_of rfl rfl rfl rfl
    have hp : PassesOwn (model P w) (cxOf (L2.CX P w) P w K mg base N__law_draw "_law_draw" (defScope s__law_draw) (He.ga K "_law_draw") cdv A outer s H E).A (cxOf (L2.CX P w) P w K mg base N__law_draw "_law_draw" (defScope s__law_draw) (He.ga K "_law_draw") cdv A outer s H E).env (cxOf (L2.CX P w) P w K mg base N__law_draw "_law_draw" (defScope s__law_draw) (He.ga K "_law_draw") cdv A outer s H E).xe := passes_of rfl
    exact (qss_cons (qs_if (qt_w (qw_and (qt_cmp (op_eqA hu) ok_eq (qe_ixA hu1 (qe_name 0) qe_int) qe_int (by rfl)) (qw_and1 (qt_cmp op_ltO (ok_ord _ _) (qe_ixA hu1 (qe_name 0) qe_int) (qe_cb call_lenA ok_len X.fr_len boot_len (qa_cons (qe_ixA hu1 (qe_name 0) qe_int) qa_nil)) (by rfl))))) (qss_cons (qs_set (i := 3) hN (qe_ixA hu1 (qe_ixA hu1 (qe_name 0) qe_int) (qe_ixA hu1 (qe_name 0) qe_int))) (qss_cons (qs_setIx (i := 0) qe_int (qe_op op_addA ok_add (qe_ixA hu1 (qe_name 0) qe_int) qe_int)) (qss_cons (qs_setIx (i := 0) qe_int (qe_op op_mod ok_mod (qe_cty call_int1 ok_intOf X.fr_int boot_int (qa_cons (qe_op op_addA ok_add (qe_op op_addA ok_add (qe_op op_mul ok_mul (qe_ixA hu1 (qe_name 0) qe_int) qe_int) (qe_name 3)) qe_int) qa_nil)) qe_int)) (qss_one (qs_if (qt_cmp op_geO (ok_ord _ _) (qe_name 3) (qe_op op_pow ok_pow qe_int qe_int) (by rfl)) (qss_one (qs_setIx (i := 0) qe_int (qe_name 3))) qss_nil))))) qss_nil) (qss_cons (qs_if (qt_cmp op_gtO (ok_ord _ _) (qe_ixA hu1 (qe_name 0) qe_int) qe_int (by rfl)) (qss_cons (qs_set (i := 4) hN (qe_op op_mod ok_mod (qe_cty call_int1 ok_intOf X.fr_int boot_int (qa_cons (qe_ixA hu1 (qe_name 0) qe_int) qa_nil)) (qe_name 1))) (qss_cons (qs_setIx (i := 0) qe_int (qe_op op_fdiv ok_div (qe_ixA hu1 (qe_name 0) qe_int) (qe_name 1))) (qss_one (qs_ret (qe_name 4))))) qss_nil) (qss_cons (qs_setIx (i := 0) qe_int (qe_op op_addA ok_add (qe_ixA hu1 (qe_name 0) qe_int) qe_int)) (qss_cons (qs_set (i := 2) hN (qe_op op_mod ok_mod (qe_cty call_int1 ok_intOf X.fr_int boot_int (qa_cons (qe_op op_mul ok_mul (qe_cty call_int1 ok_intOf X.fr_int boot_int (qa_cons (qe_op op_addA ok_add (qe_ixA hu1 (qe_name 0) qe_int) (qe_op op_mul ok_mul qe_int (qe_ixA hu1 (qe_name 0) qe_int))) qa_nil)) qe_int) qa_nil)) qe_int)) (qss_cons (qs_set (i := 2) hN (qe_op op_mod ok_mod (qe_cty call_int1 ok_intOf X.fr_int boot_int (qa_cons (qe_op op_mul ok_mul (qe_name 2) (qe_op op_addA ok_add (qe_op op_fdiv ok_div (qe_name 2) qe_int) qe_int)) qa_nil)) qe_int)) (qss_cons (qs_set (i := 2) hN (qe_op op_mod ok_mod (qe_cty call_int1 ok_intOf X.fr_int boot_int (qa_cons (qe_op op_mul ok_mul (qe_name 2) (qe_op op_addA ok_add (qe_op op_fdiv ok_div (qe_name 2) qe_int) qe_int)) qa_nil)) qe_int)) (qss_one (qs_ret (qe_op op_mod ok_mod (qe_cty call_int1 ok_intOf X.fr_int boot_int (qa_cons (qe_op op_fdiv ok_div (qe_name 2) qe_int) qa_nil)) (qe_name 1))))))))))
theorem ok__law_some (X : Txt K mg T base) : Ok P w K mg base T 2 "_law_some" p__law_some F__law_some :=
  ok_mk X.d__law_some sc__law_some (fun _ _ _ _ _ _ us h => match us, h with | [_, _], _ => rfl) fun cdv A outer s H E hr => by
    have O__law_draw := (ok__law_draw (P := P) (w := w) X).le (show 1 ≤ 1 by decide)
    have hu := hr.units
    have hu1 : _ + 1 < cLine := Nat.lt_of_le_of_lt (Nat.add_le_add_left (by decide : 1 ≤ 64) _) hu
    have hN := sc__law_some.nd
    have tk : Takes (cxOf (L2.CX P w) P w K mg base N__law_some "_law_some" (defScope s__law_some) (He.ga K "_law_some") cdv A outer s H E) (fun cls d _ H => E cls d H) := takes_of rfl rfl rfl rfl
    have hp : PassesOwn (model P w) (cxOf (L2.CX P w) P w K mg base N__law_some "_law_some" (defScope s__law_some) (He.ga K "_law_some") cdv A outer s H E).A (cxOf (L2.CX P w) P w K mg base N__law_some "_law_some" (defScope s__law_some) (He.ga K "_law_some") cdv A outer s H E).env (cxOf (L2.CX P w) P w K mg base N__law_some "_law_some" (defScope s__law_some) (He.ga K "_law_some") cdv A outer s H E).xe := passes_of rfl
    exact (qss_one (qs_ret (qe_ixA hu1 (qe_name 1) (qe_callO (io := (some 0)) O__law_draw hr tk (qa_cons (qe_name 0) (qa_cons (qe_cb call_lenA ok_len X.fr_len boot_len (qa_cons (qe_name 1) qa_nil)) qa_nil))))))
theorem okr__law_tree (X : Txt K mg T base) : ∀ n : Nat, Ok P w K mg base T (3 + n) "_law_tree" p__law_tree (r__law_tree n)
  | 0 => ok_mk X.d__law_tree sc__law_tree (fun _ _ _ _ _ _ us h => match us, h with | [_, _], _ => rfl) fun cdv A outer s H E hr => qss_bad
  | n + 1 => ok_mk X.d__law_tree sc__law_tree (fun _ _ _ _ _ _ us h => match us, h with | [_, _], _ => rfl) fun cdv A outer s H E hr => by
    have O__law_tree := okr__law_tree X n
    have O__law_draw := (ok__law_draw (P := P) (w := w) X).le (show 1 ≤ 3 + n by omega)
    have O__law_some := (ok__law_some (P := P) (w := w) X).le (show 2 ≤ 3 + n by omega)
    have hu := hr.units
    have hu1 : _ + 1 < cLine := Nat.lt_of_le_of_lt (Nat.add_le_add_left (by decide : 1 ≤ 64) _) hu
    have hN := sc__law_tree.nd
    have tk : Takes (cxOf (L2.CX P w) P w K mg base N__law_tree "_law_tree" (defScope s__law_tree) (He.ga K "_law_tree") cdv A outer s H E) (fun cls d _ H => E cls d H) := takes_of rfl rfl rfl rfl
    have hp : PassesOwn (model P w) (cxOf (L2.CX P w) P w K mg base N__law_tree "_law_tree" (defScope s__law_tree) (He.ga K "_law_tree") cdv A outer s H E).A (cxOf (L2.CX P w) P w K mg base N__law_tree "_law_tree" (defScope s__law_tree) (He.ga K "_law_tree") cdv A outer s H E).env (cxOf (L2.CX P w) P w K mg base N__law_tree "_law_tree" (defScope s__law_tree) (He.ga K "_law_tree") cdv A outer s H E).xe := passes_of rfl
    exact (qss_cons (qs_if (qt_cmp op_leO (ok_ord _ _) (qe_name 1) qe_int (by rfl)) (qss_one (qs_ret (qe_tup qa_nil))) qss_nil) (qss_cons (qs_set (i := 2) hN (qe_callO (io := (some 0)) O__law_draw hr tk (qa_cons (qe_name 0) (qa_cons (qe_name 1) qa_nil)))) (qss_cons (qs_set (i := 3) hN (qe_callO (io := (some 0)) O__law_some hr tk (qa_cons (qe_name 0) (qa_cons (qe_lst (qa_cons qe_str (qa_cons qe_str qa_nil))) qa_nil)))) (qss_one (qs_ret (qe_tup (qa_cons (qe_name 3) (qa_cons (qe_callO (io := (some 0)) O__law_tree hr tk (qa_cons (qe_name 0) (qa_cons (qe_name 2) qa_nil))) (qa_cons (qe_callO (io := (some 0)) O__law_tree hr tk (qa_cons (qe_name 0) (qa_cons (qe_op op_sub ok_sub (qe_op op_sub ok_sub (qe_name 1) qe_int) (qe_name 2)) qa_nil))) qa_nil)))))))))
theorem ok__law_tree (X : Txt K mg T base) : Ok P w K mg base T 23 "_law_tree" p__law_tree F__law_tree := okr__law_tree X RFUEL
theorem ok__law_telling (X : Txt K mg T base) : Ok P w K mg base T 2 "_law_telling" p__law_telling F__law_telling :=
  ok_mk X.d__law_telling sc__law_telling (fun _ _ _ _ _ _ us h => match us, h with | [_, _, _], _ => rfl) fun cdv A outer s H E hr => by
    have O__law_draw := (ok__law_draw (P := P) (w := w) X).le (show 1 ≤ 1 by decide)
    have hu := hr.units
    have hu1 : _ + 1 < cLine := Nat.lt_of_le_of_lt (Nat.add_le_add_left (by decide : 1 ≤ 64) _) hu
    have hN := sc__law_telling.nd
    have tk : Takes (cxOf (L2.CX P w) P w K mg base N__law_telling "_law_telling" (defScope s__law_telling) (He.ga K "_law_telling") cdv A outer s H E) (fun cls d _ H => E cls d H) := takes_of rfl rfl rfl rfl
    have hp : PassesOwn (model P w) (cxOf (L2.CX P w) P w K mg base N__law_telling "_law_telling" (defScope s__law_telling) (He.ga K "_law_telling") cdv A outer s H E).A (cxOf (L2.CX P w) P w K mg base N__law_telling "_law_telling" (defScope s__law_telling) (He.ga K "_law_telling") cdv A outer s H E).env (cxOf (L2.CX P w) P w K mg base N__law_telling "_law_telling" (defScope s__law_telling) (He.ga K "_law_telling") cdv A outer s H E).xe := passes_of rfl
    exact (qss_cons (qs_set (i := 3) hN (qe_lst qa_nil)) (qss_cons (qs_for hp rfl (qi_items (qe_name 1)) (qg_name (i := 4) hN) (qss_one (qs_if (qt_cmp (op_inA hu) ((ok_in false).or (ok_inDic false)) (qe_name 4) qe_str (by rfl)) (qss_one (qs_expr (qe_mut (i := 3) PySem.F.slot_list_append PySem.F.type_list_append mt_append mu_append (qa_cons (qe_callO (io := (some 0)) O__law_draw hr tk (qa_cons (qe_name 0) (qa_cons (qe_name 2) qa_nil))) qa_nil)))) (qss_one (qs_expr (qe_mut (i := 3) PySem.F.slot_list_append PySem.F.type_list_append mt_append mu_append (qa_cons (qe_cty call_tuple_of ok_tuple X.fr_tuple boot_tuple (qa_cons (qe_lc (own := [("place", 5)]) rfl hN (qi_range1 X.fr_range (qa_cons (qe_name 2) qa_nil)) (show BlkOk N__law_telling (defScope s__law_telling) _ _ from blkOk_by (by decide +kernel)) (fun _ _ _ _ _ => (qg_name (i := 5) hN)) (fun _ _ _ _ _ => (qts_one (qt_cmp (op_eqA hu) ok_eq (qe_callO (io := (some 0)) O__law_draw hr takes_blk (qa_cons (qe_name 0) (qa_cons qe_int qa_nil))) qe_int (by rfl)))) (fun _ _ _ _ _ => (qe_name 5))) qa_nil)) qa_nil))))))) (qss_one (qs_ret (qe_cty call_tuple_of ok_tuple X.fr_tuple boot_tuple (qa_cons (qe_name 3) qa_nil))))))
theorem okr__law_many (X : Txt K mg T base) : ∀ n : Nat, Ok P w K mg base T (1 + n) "_law_many" p__law_many (r__law_many n)
  | 0 => ok_mk X.d__law_many sc__law_many (fun _ _ _ _ _ _ us h => match us, h with | [_], _ => rfl) fun cdv A outer s H E hr => qss_bad
  | n + 1 => ok_mk X.d__law_many sc__law_many (fun _ _ _ _ _ _ us h => match us, h with | [_], _ => rfl) fun cdv A outer s H E hr => by
    have O__law_many := okr__law_many X n
    have hu := hr.units
    have hu1 : _ + 1 < cLine := Nat.lt_of_le_of_lt (Nat.add_le_add_left (by decide : 1 ≤ 64) _) hu
    have hN := sc__law_many.nd
    have tk : Takes (cxOf (L2.CX P w) P w K mg base N__law_many "_law_many" (defScope s__law_many) (He.ga K "_law_many") cdv A outer s H E) (fun cls d _ H => E cls d H) := takes_of rfl rfl rfl rfl
    have hp : PassesOwn (model P w) (cxOf (L2.CX P w) P w K mg base N__law_many "_law_many" (defScope s__law_many) (He.ga K "_law_many") cdv A outer s H E).A (cxOf (L2.CX P w) P w K mg base N__law_many "_law_many" (defScope s__law_many) (He.ga K "_law_many") cdv A outer s H E).env (cxOf (L2.CX P w) P w K mg base N__law_many "_law_many" (defScope s__law_many) (He.ga K "_law_many") cdv A outer s H E).xe := passes_of rfl
    exact (qss_one (qs_ret (qe_if (qt_cmp (op_eqA hu) ok_eq (qe_name 0) (qe_tup qa_nil) (by rfl)) qe_int (qe_op op_addA ok_add (qe_op op_addA ok_add qe_int (qe_callO (io := none) O__law_many hr tk (qa_cons (qe_ixA hu1 (qe_name 0) qe_int) qa_nil))) (qe_callO (io := none) O__law_many hr tk (qa_cons (qe_ixA hu1 (qe_name 0) qe_int) qa_nil))))))
theorem ok__law_many (X : Txt K mg T base) : Ok P w K mg base T 21 "_law_many" p__law_many F__law_many := okr__law_many X RFUEL
theorem okr__law_put (X : Txt K mg T base) : ∀ n : Nat, Ok P w K mg base T (22 + n) "_law_put" p__law_put (r__law_put n)
  | 0 => ok_mk X.d__law_put sc__law_put (fun _ _ _ _ _ _ us h => match us, h with | [_, _], _ => rfl) fun cdv A outer s H E hr => qss_bad
  | n + 1 => ok_mk X.d__law_put sc__law_put (fun _ _ _ _ _ _ us h => match us, h with | [_, _], _ => rfl) fun cdv A outer s H E hr => by
    have O__law_put := okr__law_put X n
    have O__law_many := (ok__law_many (P := P) (w := w) X).le (show 21 ≤ 22 + n by omega)
    have hu := hr.units
    have hu1 : _ + 1 < cLine := Nat.lt_of_le_of_lt (Nat.add_le_add_left (by decide : 1 ≤ 64) _) hu
    have hN := sc__law_put.nd
    have tk : Takes (cxOf (L2.CX P w) P w K mg base N__law_put "_law_put" (defScope s__law_put) (He.ga K "_law_put") cdv A outer s H E) (fun cls d _ H => E cls d H) := takes_of rfl rfl rfl rfl
    have hp : PassesOwn (model P w) (cxOf (L2.CX P w) P w K mg base N__law_put "_law_put" (defScope s__law_put) (He.ga K "_law_put") cdv A outer s H E).A (cxOf (L2.CX P w) P w K mg base N__law_put "_law_put" (defScope s__law_put) (He.ga K "_law_put") cdv A outer s H E).env (cxOf (L2.CX P w) P w K mg base N__law_put "_law_put" (defScope s__law_put) (He.ga K "_law_put") cdv A outer s H E).xe := passes_of rfl
    exact (qss_cons (qs_if (qt_cmp (op_eqA hu) ok_eq (qe_name 0) (qe_tup qa_nil) (by rfl)) (qss_one (qs_ret (qe_tup qa_nil))) qss_nil) (qss_cons (qs_set (i := 2) hN (qe_callO (io := none) O__law_many hr tk (qa_cons (qe_ixA hu1 (qe_name 0) qe_int) qa_nil))) (qss_one (qs_ret (qe_tup (qa_cons (qe_ixA hu1 (qe_name 1) qe_int) (qa_cons (qe_callO (io := none) O__law_put hr tk (qa_cons (qe_ixA hu1 (qe_name 0) qe_int) (qa_cons (qe_sl (qe_name 1) (qo_some qe_int) (qo_some (qe_op op_addA ok_add qe_int (qe_name 2)))) qa_nil))) (qa_cons (qe_callO (io := none) O__law_put hr tk (qa_cons (qe_ixA hu1 (qe_name 0) qe_int) (qa_cons (qe_sl (qe_name 1) (qo_some (qe_op op_addA ok_add qe_int (qe_name 2))) qo_none) qa_nil))) qa_nil))))))))
theorem ok__law_put (X : Txt K mg T base) : Ok P w K mg base T 42 "_law_put" p__law_put F__law_put := okr__law_put X RFUEL
theorem ok_is_sized (X : Txt K mg T base) : Ok P w K mg base T 1 "is_sized" p_is_sized F_is_sized :=
  ok_mk X.d_is_sized sc_is_sized (fun _ _ _ _ _ _ us h => match us, h with | [_, _, _], _ => rfl) fun cdv A outer s H E hr => by
    have hu := hr.units
    have hu1 : _ + 1 < cLine := Nat.lt_of_le_of_lt (Nat.add_le_add_left (by decide : 1 ≤ 64) _) hu
    have hN := sc_is_sized.nd
    have tk : Takes (cxOf (L2.CX P w) P w K mg base N_is_sized "is_sized" (defScope s_is_sized) (He.ga K "is_sized") cdv A outer s H E) (fun cls d _ H => E cls d H) := takes_of rfl rfl rfl rfl
    have hp : PassesOwn (model P w) (cxOf (L2.CX P w) P w K mg base N_is_sized "is_sized" (defScope s_is_sized) (He.ga K "is_sized") cdv A outer s H E).A (cxOf (L2.CX P w) P w K mg base N_is_sized "is_sized" (defScope s_is_sized) (He.ga K "is_sized") cdv A outer s H E).env (cxOf (L2.CX P w) P w K mg base N_is_sized "is_sized" (defScope s_is_sized) (He.ga K "is_sized") cdv A outer s H E).xe := passes_of rfl
    exact (qss_one (qs_ret (qe_and (qe_cb call_isiA ok_isi X.fr_isinstance boot_isinstance (qa_cons (qe_name 0) (qa_cons (qe_ty (X.fr_tuple) boot_tuple) qa_nil))) (qe_one (qe_chain op_leO (ok_ord _ _) op_leO (ok_ord _ _) (qe_name 1) (qe_cb call_lenA ok_len X.fr_len boot_len (qa_cons (qe_name 0) qa_nil)) (qe_name 2))))))
theorem ok_is_rising (X : Txt K mg T base) : Ok P w K mg base T 1 "is_rising" p_is_rising F_is_rising :=
  ok_mk X.d_is_rising sc_is_rising (fun _ _ _ _ _ _ us h => match us, h with | [_], _ => rfl) fun cdv A outer s H E hr => by
    have hu := hr.units
    have hu1 : _ + 1 < cLine := Nat.lt_of_le_of_lt (Nat.add_le_add_left (by decide : 1 ≤ 64) _) hu
    have hN := sc_is_rising.nd
    have tk : Takes (cxOf (L2.CX P w) P w K mg base N_is_rising "is_rising" (defScope s_is_rising) (He.ga K "is_rising") cdv A outer s H E) (fun cls d _ H => E cls d H) := takes_of rfl rfl rfl rfl
    have hp : PassesOwn (model P w) (cxOf (L2.CX P w) P w K mg base N_is_rising "is_rising" (defScope s_is_rising) (He.ga K "is_rising") cdv A outer s H E).A (cxOf (L2.CX P w) P w K mg base N_is_rising "is_rising" (defScope s_is_rising) (He.ga K "is_rising") cdv A outer s H E).env (cxOf (L2.CX P w) P w K mg base N_is_rising "is_rising" (defScope s_is_rising) (He.ga K "is_rising") cdv A outer s H E).xe := passes_of rfl
    exact (qss_one (qs_ret (qe_cb (cr_all rfl) ok_all X.fr_all boot_all (qa_cons (qe_lc (own := [("one", 1), ("other", 2)]) rfl hN (qi_zip X.fr_zip (qa_cons (qe_name 0) (qa_cons (qe_sl (qe_name 0) (qo_some qe_int) qo_none) qa_nil))) (show BlkOk N_is_rising (defScope s_is_rising) _ _ from blkOk_by (by decide +kernel)) (fun _ _ _ _ _ => (qg_tup (n := 2) rfl (qgs_cons (qg_name (i := 1) hN) (qgs_cons (qg_name (i := 2) hN) qgs_nil)))) (fun _ _ _ _ _ => qts_nil) (fun _ _ _ _ _ => (qe_cmp op_ltO (ok_ord _ _) (qe_name 1) (qe_name 2) (by rfl)))) qa_nil))))
theorem ok_is_place_name (X : Txt K mg T base) : Ok P w K mg base T 1 "is_place_name" p_is_place_name F_is_place_name :=
  ok_mk X.d_is_place_name sc_is_place_name (fun _ _ _ _ _ _ us h => match us, h with | [_], _ => rfl) fun cdv A outer s H E hr => by
    have hu := hr.units
    have hu1 : _ + 1 < cLine := Nat.lt_of_le_of_lt (Nat.add_le_add_left (by decide : 1 ≤ 64) _) hu
    have hN := sc_is_place_name.nd
    have tk : Takes (cxOf (L2.CX P w) P w K mg base N_is_place_name "is_place_name" (defScope s_is_place_name) (He.ga K "is_place_name") cdv A outer s H E) (fun cls d _ H => E cls d H) := takes_of rfl rfl rfl rfl
    have hp : PassesOwn (model P w) (cxOf (L2.CX P w) P w K mg base N_is_place_name "is_place_name" (defScope s_is_place_name) (He.ga K "is_place_name") cdv A outer s H E).A (cxOf (L2.CX P w) P w K mg base N_is_place_name "is_place_name" (defScope s_is_place_name) (He.ga K "is_place_name") cdv A outer s H E).env (cxOf (L2.CX P w) P w K mg base N_is_place_name "is_place_name" (defScope s_is_place_name) (He.ga K "is_place_name") cdv A outer s H E).xe := passes_of rfl
    exact (qss_one (qs_ret (qe_and (qe_cb call_isiA ok_isi X.fr_isinstance boot_isinstance (qa_cons (qe_name 0) (qa_cons (qe_ty (X.fr_str) boot_str) qa_nil))) (qe_and (qe_cmp (op_eqA hu) ok_eq (qe_cb call_lenA ok_len X.fr_len boot_len (qa_cons (qe_name 0) qa_nil)) qe_int (by rfl)) (qe_one (qe_cmp (op_inA hu) ((ok_in false).or (ok_inDic false)) (qe_name 0) (qe_glob X.c_PLACE_NAMES) (by rfl)))))))
theorem ok_is_lot_name (X : Txt K mg T base) : Ok P w K mg base T 1 "is_lot_name" p_is_lot_name F_is_lot_name :=
  ok_mk X.d_is_lot_name sc_is_lot_name (fun _ _ _ _ _ _ us h => match us, h with | [_], _ => rfl) fun cdv A outer s H E hr => by
    have hu := hr.units
    have hu1 : _ + 1 < cLine := Nat.lt_of_le_of_lt (Nat.add_le_add_left (by decide : 1 ≤ 64) _) hu
    have hN := sc_is_lot_name.nd
    have tk : Takes (cxOf (L2.CX P w) P w K mg base N_is_lot_name "is_lot_name" (defScope s_is_lot_name) (He.ga K "is_lot_name") cdv A outer s H E) (fun cls d _ H => E cls d H) := takes_of rfl rfl rfl rfl
    have hp : PassesOwn (model P w) (cxOf (L2.CX P w) P w K mg base N_is_lot_name "is_lot_name" (defScope s_is_lot_name) (He.ga K "is_lot_name") cdv A outer s H E).A (cxOf (L2.CX P w) P w K mg base N_is_lot_name "is_lot_name" (defScope s_is_lot_name) (He.ga K "is_lot_name") cdv A outer s H E).env (cxOf (L2.CX P w) P w K mg base N_is_lot_name "is_lot_name" (defScope s_is_lot_name) (He.ga K "is_lot_name") cdv A outer s H E).xe := passes_of rfl
    exact (qss_one (qs_ret (qe_and (qe_cb call_isiA ok_isi X.fr_isinstance boot_isinstance (qa_cons (qe_name 0) (qa_cons (qe_ty (X.fr_str) boot_str) qa_nil))) (qe_and (qe_cmp (op_eqA hu) ok_eq (qe_cb call_lenA ok_len X.fr_len boot_len (qa_cons (qe_name 0) qa_nil)) qe_int (by rfl)) (qe_one (qe_cmp (op_inA hu) ((ok_in false).or (ok_inDic false)) (qe_name 0) (qe_glob X.c_LOT_NAMES) (by rfl)))))))
theorem ok_is_name (X : Txt K mg T base) : Ok P w K mg base T 2 "is_name" p_is_name F_is_name :=
  ok_mk X.d_is_name sc_is_name (fun _ _ _ _ _ _ us h => match us, h with | [_], _ => rfl) fun cdv A outer s H E hr => by
    have O_is_lot_name := (ok_is_lot_name (P := P) (w := w) X).le (show 1 ≤ 1 by decide)
    have O_is_place_name := (ok_is_place_name (P := P) (w := w) X).le (show 1 ≤ 1 by decide)
    have hu := hr.units
    have hu1 : _ + 1 < cLine := Nat.lt_of_le_of_lt (Nat.add_le_add_left (by decide : 1 ≤ 64) _) hu
    have hN := sc_is_name.nd
    have tk : Takes (cxOf (L2.CX P w) P w K mg base N_is_name "is_name" (defScope s_is_name) (He.ga K "is_name") cdv A outer s H E) (fun cls d _ H => E cls d H) := takes_of rfl rfl rfl rfl
    have hp : PassesOwn (model P w) (cxOf (L2.CX P w) P w K mg base N_is_name "is_name" (defScope s_is_name) (He.ga K "is_name") cdv A outer s H E).A (cxOf (L2.CX P w) P w K mg base N_is_name "is_name" (defScope s_is_name) (He.ga K "is_name") cdv A outer s H E).env (cxOf (L2.CX P w) P w K mg base N_is_name "is_name" (defScope s_is_name) (He.ga K "is_name") cdv A outer s H E).xe := passes_of rfl
    exact (qss_one (qs_ret (qe_or (qe_callO (io := none) O_is_place_name hr tk (qa_cons (qe_name 0) qa_nil)) (qe_one (qe_callO (io := none) O_is_lot_name hr tk (qa_cons (qe_name 0) qa_nil))))))
theorem ok_are_tracks (X : Txt K mg T base) : Ok P w K mg base T 3 "are_tracks" p_are_tracks F_are_tracks :=
  ok_mk X.d_are_tracks sc_are_tracks (fun _ _ _ _ _ _ us h => match us, h with | [_], _ => rfl) fun cdv A outer s H E hr => by
    have O_is_name := (ok_is_name (P := P) (w := w) X).le (show 2 ≤ 2 by decide)
    have O_is_rising := (ok_is_rising (P := P) (w := w) X).le (show 1 ≤ 2 by decide)
    have O_is_sized := (ok_is_sized (P := P) (w := w) X).le (show 1 ≤ 2 by decide)
    have hu := hr.units
    have hu1 : _ + 1 < cLine := Nat.lt_of_le_of_lt (Nat.add_le_add_left (by decide : 1 ≤ 64) _) hu
    have hN := sc_are_tracks.nd
    have tk : Takes (cxOf (L2.CX P w) P w K mg base N_are_tracks "are_tracks" (defScope s_are_tracks) (He.ga K "are_tracks") cdv A outer s H E) (fun cls d _ H => E cls d H) := takes_of rfl rfl rfl rfl
    have hp : PassesOwn (model P w) (cxOf (L2.CX P w) P w K mg base N_are_tracks "are_tracks" (defScope s_are_tracks) (He.ga K "are_tracks") cdv A outer s H E).A (cxOf (L2.CX P w) P w K mg base N_are_tracks "are_tracks" (defScope s_are_tracks) (He.ga K "are_tracks") cdv A outer s H E).env (cxOf (L2.CX P w) P w K mg base N_are_tracks "are_tracks" (defScope s_are_tracks) (He.ga K "are_tracks") cdv A outer s H E).xe := passes_of rfl
    exact (qss_one (qs_ret (qe_and (qe_callO (io := none) O_is_sized hr tk (qa_cons (qe_name 0) (qa_cons qe_int (qa_cons (qe_glob X.c_MOST_TRACKS) qa_nil)))) (qe_and (qe_cb (cr_all rfl) ok_all X.fr_all boot_all (qa_cons (qe_lc (own := [("one", 1)]) rfl hN (qi_items (qe_name 0)) (show BlkOk N_are_tracks (defScope s_are_tracks) _ _ from blkOk_by (by decide +kernel)) (fun _ _ _ _ _ => (qg_name (i := 1) hN)) (fun _ _ _ _ _ => qts_nil) (fun _ _ _ _ _ => (qe_callO (io := none) O_is_name hr takes_blk (qa_cons (qe_name 1) qa_nil)))) qa_nil)) (qe_one (qe_callO (io := none) O_is_rising hr tk (qa_cons (qe_name 0) qa_nil)))))))
theorem ok_check_tracks (X : Txt K mg T base) : Ok P w K mg base T 4 "check_tracks" p_check_tracks F_check_tracks :=
  ok_mk X.d_check_tracks sc_check_tracks (fun _ _ _ _ _ _ us h => match us, h with | [_], _ => rfl) fun cdv A outer s H E hr => by
    have O_are_tracks := (ok_are_tracks (P := P) (w := w) X).le (show 3 ≤ 3 by decide)
    have hu := hr.units
    have hu1 : _ + 1 < cLine := Nat.lt_of_le_of_lt (Nat.add_le_add_left (by decide : 1 ≤ 64) _) hu
    have hN := sc_check_tracks.nd
    have tk : Takes (cxOf (L2.CX P w) P w K mg base N_check_tracks "check_tracks" (defScope s_check_tracks) (He.ga K "check_tracks") cdv A outer s H E) (fun cls d _ H => E cls d H) := takes_of rfl rfl rfl rfl
    have hp : PassesOwn (model P w) (cxOf (L2.CX P w) P w K mg base N_check_tracks "check_tracks" (defScope s_check_tracks) (He.ga K "check_tracks") cdv A outer s H E).A (cxOf (L2.CX P w) P w K mg base N_check_tracks "check_tracks" (defScope s_check_tracks) (He.ga K "check_tracks") cdv A outer s H E).env (cxOf (L2.CX P w) P w K mg base N_check_tracks "check_tracks" (defScope s_check_tracks) (He.ga K "check_tracks") cdv A outer s H E).xe := passes_of rfl
    exact (qss_one (qs_if (qt_not (qt_val (qe_callO (io := none) O_are_tracks hr tk (qa_cons (qe_name 0) qa_nil)))) (qss_one (qs_raise rfl tk X.e_NoTracks)) qss_nil))
theorem ok_is_letter (X : Txt K mg T base) : Ok P w K mg base T 1 "is_letter" p_is_letter F_is_letter :=
  ok_mk X.d_is_letter sc_is_letter (fun _ _ _ _ _ _ us h => match us, h with | [_], _ => rfl) fun cdv A outer s H E hr => by
    have hu := hr.units
    have hu1 : _ + 1 < cLine := Nat.lt_of_le_of_lt (Nat.add_le_add_left (by decide : 1 ≤ 64) _) hu
    have hN := sc_is_letter.nd
    have tk : Takes (cxOf (L2.CX P w) P w K mg base N_is_letter "is_letter" (defScope s_is_letter) (He.ga K "is_letter") cdv A outer s H E) (fun cls d _ H => E cls d H) := takes_of rfl rfl rfl rfl
    have hp : PassesOwn (model P w) (cxOf (L2.CX P w) P w K mg base N_is_letter "is_letter" (defScope s_is_letter) (He.ga K "is_letter") cdv A outer s H E).A (cxOf (L2.CX P w) P w K mg base N_is_letter "is_letter" (defScope s_is_letter) (He.ga K "is_letter") cdv A outer s H E).env (cxOf (L2.CX P w) P w K mg base N_is_letter "is_letter" (defScope s_is_letter) (He.ga K "is_letter") cdv A outer s H E).xe := passes_of rfl
    exact (qss_one (qs_ret (qe_and (qe_cb call_isiA ok_isi X.fr_isinstance boot_isinstance (qa_cons (qe_name 0) (qa_cons (qe_ty (X.fr_str) boot_str) qa_nil))) (qe_and (qe_cmp (op_eqA hu) ok_eq (qe_cb call_lenA ok_len X.fr_len boot_len (qa_cons (qe_name 0) qa_nil)) qe_int (by rfl)) (qe_one (qe_cmp (op_inA hu) ((ok_in false).or (ok_inDic false)) (qe_name 0) (qe_glob X.c_LETTERS) (by rfl)))))))
theorem b_is_grown (X : Txt K mg T base) {cdv : Value} {A : Around} {outer : List Env} {s : Shared} {H : Hp} {E : XK} {fA : Addr} {fφ : List MV → Option MV} (hr : Room 1 (A.deeper (PyProof.Rows.envOfC "is_grown" (defScope s_is_grown) s.heap.objs.size (He.ga K "is_grown") cdv)))
    (act : Act (cxOf (L2.CX P w) P w K mg base N_is_grown "is_grown" (defScope s_is_grown) (He.ga K "is_grown") cdv A outer s H E) T (fun cls d _ H => E cls d H) "is_sign" 3 fA fφ) : QSs (cxOf (L2.CX P w) P w K mg base N_is_grown "is_grown" (defScope s_is_grown) (He.ga K "is_grown") cdv A outer s H E) T (fun cls d _ H => E cls d H) (defBody s_is_grown) (g_is_grown fA fφ) := by
    have O_is_sized := (ok_is_sized (P := P) (w := w) X).le (show 1 ≤ 1 by decide)
    have hu := hr.units
    have hu1 : _ + 1 < cLine := Nat.lt_of_le_of_lt (Nat.add_le_add_left (by decide : 1 ≤ 64) _) hu
    have hN := sc_is_grown.nd
    have tk : Takes (cxOf (L2.CX P w) P w K mg base N_is_grown "is_grown" (defScope s_is_grown) (He.ga K "is_grown") cdv A outer s H E) (fun cls d _ H => E cls d H) := takes_of rfl rfl rfl rfl
    have hp : PassesOwn (model P w) (cxOf (L2.CX P w) P w K mg base N_is_grown "is_grown" (defScope s_is_grown) (He.ga K "is_grown") cdv A outer s H E).A (cxOf (L2.CX P w) P w K mg base N_is_grown "is_grown" (defScope s_is_grown) (He.ga K "is_grown") cdv A outer s H E).env (cxOf (L2.CX P w) P w K mg base N_is_grown "is_grown" (defScope s_is_grown) (He.ga K "is_grown") cdv A outer s H E).xe := passes_of rfl
    exact (qss_cons (qs_par2 (i := 4) (j := 5) rfl hN (qn_cons (qe_lst (qa_cons (qe_tup (qa_cons (qe_name 0) (qa_cons qe_int qa_nil))) qa_nil)) (qn_cons qe_int qn_nil))) (qss_cons (qs_while WFUEL hp (qt_cmp op_gtO (ok_ord _ _) (qe_cb call_lenA ok_len X.fr_len boot_len (qa_cons (qe_name 4) qa_nil)) qe_int (by rfl)) (qss_cons (qs_asg (qe_mut0 (i := 4) PySem.F.slot_list_pop PySem.F.type_list_pop mt_pop mu_pop) (qg_tup (n := 2) rfl (qgs_cons (qg_name (i := 6) hN) (qgs_cons (qg_name (i := 7) hN) qgs_nil)))) (qss_cons (qs_if (qt_w (qw_and (qt_val (qe_cb call_isiA ok_isi X.fr_isinstance boot_isinstance (qa_cons (qe_name 6) (qa_cons (qe_ty (X.fr_tuple) boot_tuple) qa_nil)))) (qw_and1 (qt_cmp (op_eqA hu) ok_eq (qe_cb call_lenA ok_len X.fr_len boot_len (qa_cons (qe_name 6) qa_nil)) qe_int (by rfl))))) (qss_one qs_continue) qss_nil) (qss_cons (qs_set (i := 5) hN (qe_op op_addA ok_add (qe_name 5) qe_int)) (qss_cons (qs_if (qt_w (qw_or (qt_cmp op_gtO (ok_ord _ _) (qe_name 5) (qe_name 1) (by rfl)) (qw_or (qt_cmp op_gtO (ok_ord _ _) (qe_name 7) (qe_name 2) (by rfl)) (qw_or (qt_not (qt_val (qe_callO (io := none) O_is_sized hr tk (qa_cons (qe_name 6) (qa_cons qe_int (qa_cons qe_int qa_nil)))))) (qw_or1 (qt_not (qt_val (qe_actC act (qa_cons (qe_ixA hu1 (qe_name 6) qe_int) qa_nil))))))))) (qss_one (qs_ret qe_bl)) qss_nil) (qss_one (qs_expr (qe_mut (i := 4) PySem.F.slot_list_extend PySem.F.type_list_extend mt_extend mu_extend (qa_cons (qe_lst (qa_cons (qe_tup (qa_cons (qe_ixA hu1 (qe_name 6) qe_int) (qa_cons (qe_op op_addA ok_add (qe_name 7) qe_int) qa_nil))) (qa_cons (qe_tup (qa_cons (qe_ixA hu1 (qe_name 6) qe_int) (qa_cons (qe_op op_addA ok_add (qe_name 7) qe_int) qa_nil))) qa_nil))) qa_nil))))))))) (qss_one (qs_ret qe_bl))))
theorem ok_is_grown_is_letter (X : Txt K mg T base) : Ok P w K mg base T 2 "is_grown" p_is_grown (F_is_grown (He.ga K "is_letter") (fnV 1 F_is_letter)) :=
  ok_mk X.d_is_grown sc_is_grown (fun _ _ _ _ _ _ us h => match us, h with | [_, _, _, _], _ => rfl) fun cdv A outer s H E hr => b_is_grown X hr (act_O ((ok_is_letter (P := P) (w := w) X).le (show 1 ≤ 1 by decide)) hr (takes_of rfl rfl rfl rfl))
theorem ok_is_tree (X : Txt K mg T base) : Ok P w K mg base T 3 "is_tree" p_is_tree (F_is_tree K) :=
  ok_mk X.d_is_tree sc_is_tree (fun _ _ _ _ _ _ us h => match us, h with | [_], _ => rfl) fun cdv A outer s H E hr => by
    have O_is_grown_is_letter := (ok_is_grown_is_letter (P := P) (w := w) X).le (show 2 ≤ 2 by decide)
    have O_is_letter := (ok_is_letter (P := P) (w := w) X).le (show 1 ≤ 2 by decide)
    have hu := hr.units
    have hu1 : _ + 1 < cLine := Nat.lt_of_le_of_lt (Nat.add_le_add_left (by decide : 1 ≤ 64) _) hu
    have hN := sc_is_tree.nd
    have tk : Takes (cxOf (L2.CX P w) P w K mg base N_is_tree "is_tree" (defScope s_is_tree) (He.ga K "is_tree") cdv A outer s H E) (fun cls d _ H => E cls d H) := takes_of rfl rfl rfl rfl
    have hp : PassesOwn (model P w) (cxOf (L2.CX P w) P w K mg base N_is_tree "is_tree" (defScope s_is_tree) (He.ga K "is_tree") cdv A outer s H E).A (cxOf (L2.CX P w) P w K mg base N_is_tree "is_tree" (defScope s_is_tree) (He.ga K "is_tree") cdv A outer s H E).env (cxOf (L2.CX P w) P w K mg base N_is_tree "is_tree" (defScope s_is_tree) (He.ga K "is_tree") cdv A outer s H E).xe := passes_of rfl
    exact (qss_one (qs_ret (qe_callO (io := none) O_is_grown_is_letter hr tk (qa_cons (qe_name 0) (qa_cons (qe_glob X.c_MOST_PLACES) (qa_cons (qe_glob X.c_MOST_DEEP) (qa_cons (qe_glob (glc_fn (O_is_letter.le (Nat.le_refl _)))) qa_nil)))))))
theorem ok_check_tree (X : Txt K mg T base) : Ok P w K mg base T 4 "check_tree" p_check_tree (F_check_tree K) :=
  ok_mk X.d_check_tree sc_check_tree (fun _ _ _ _ _ _ us h => match us, h with | [_], _ => rfl) fun cdv A outer s H E hr => by
    have O_is_tree := (ok_is_tree (P := P) (w := w) X).le (show 3 ≤ 3 by decide)
    have hu := hr.units
    have hu1 : _ + 1 < cLine := Nat.lt_of_le_of_lt (Nat.add_le_add_left (by decide : 1 ≤ 64) _) hu
    have hN := sc_check_tree.nd
    have tk : Takes (cxOf (L2.CX P w) P w K mg base N_check_tree "check_tree" (defScope s_check_tree) (He.ga K "check_tree") cdv A outer s H E) (fun cls d _ H => E cls d H) := takes_of rfl rfl rfl rfl
    have hp : PassesOwn (model P w) (cxOf (L2.CX P w) P w K mg base N_check_tree "check_tree" (defScope s_check_tree) (He.ga K "check_tree") cdv A outer s H E).A (cxOf (L2.CX P w) P w K mg base N_check_tree "check_tree" (defScope s_check_tree) (He.ga K "check_tree") cdv A outer s H E).env (cxOf (L2.CX P w) P w K mg base N_check_tree "check_tree" (defScope s_check_tree) (He.ga K "check_tree") cdv A outer s H E).xe := passes_of rfl
    exact (qss_one (qs_if (qt_not (qt_val (qe_callO (io := none) O_is_tree hr tk (qa_cons (qe_name 0) qa_nil)))) (qss_one (qs_raise rfl tk X.e_NoTree)) qss_nil))
theorem ok_tree_of_signs (X : Txt K mg T base) : Ok P w K mg base T 1 "tree_of_signs" p_tree_of_signs F_tree_of_signs :=
  ok_mk X.d_tree_of_signs sc_tree_of_signs (fun _ _ _ _ _ _ us h => match us, h with | [_, _], _ => rfl) fun cdv A outer s H E hr => by
    have hu := hr.units
    have hu1 : _ + 1 < cLine := Nat.lt_of_le_of_lt (Nat.add_le_add_left (by decide : 1 ≤ 64) _) hu
    have hN := sc_tree_of_signs.nd
    have tk : Takes (cxOf (L2.CX P w) P w K mg base N_tree_of_signs "tree_of_signs" (defScope s_tree_of_signs) (He.ga K "tree_of_signs") cdv A outer s H E) (fun cls d _ H => E cls d H) := takes_of rfl rfl rfl rfl
    have hp : PassesOwn (model P w) (cxOf (L2.CX P w) P w K mg base N_tree_of_signs "tree_of_signs" (defScope s_tree_of_signs) (He.ga K "tree_of_signs") cdv A outer s H E).A (cxOf (L2.CX P w) P w K mg base N_tree_of_signs "tree_of_signs" (defScope s_tree_of_signs) (He.ga K "tree_of_signs") cdv A outer s H E).env (cxOf (L2.CX P w) P w K mg base N_tree_of_signs "tree_of_signs" (defScope s_tree_of_signs) (He.ga K "tree_of_signs") cdv A outer s H E).xe := passes_of rfl
    exact (qss_cons (qs_set (i := 2) hN (qe_lst qa_nil)) (qss_cons (qs_for hp rfl (qi_items (qe_rev (qe_name 0))) (qg_name (i := 3) hN) (qss_one (qs_if (qt_cmp (op_inA hu) ((ok_in false).or (ok_inDic false)) (qe_name 3) (qe_name 1) (by rfl)) (qss_one (qs_expr (qe_mut (i := 2) PySem.F.slot_list_append PySem.F.type_list_append mt_append mu_append (qa_cons (qe_ixA hu1 (qe_name 1) (qe_name 3)) qa_nil)))) (qss_cons (qs_set (i := 4) hN (qe_mut0 (i := 2) PySem.F.slot_list_pop PySem.F.type_list_pop mt_pop mu_pop)) (qss_one (qs_expr (qe_mut (i := 2) PySem.F.slot_list_append PySem.F.type_list_append mt_append mu_append (qa_cons (qe_tup (qa_cons (qe_name 3) (qa_cons (qe_name 4) (qa_cons (qe_mut0 (i := 2) PySem.F.slot_list_pop PySem.F.type_list_pop mt_pop mu_pop) qa_nil)))) qa_nil)))))))) (qss_one (qs_ret (qe_ixA hu1 (qe_name 2) qe_int)))))
theorem ok_with_signs (X : Txt K mg T base) : Ok P w K mg base T 2 "with_signs" p_with_signs F_with_signs :=
  ok_mk X.d_with_signs sc_with_signs (fun _ _ _ _ _ _ us h => match us, h with | [_, _], _ => rfl) fun cdv A outer s H E hr => by
    have O_tree_of_signs := (ok_tree_of_signs (P := P) (w := w) X).le (show 1 ≤ 1 by decide)
    have hu := hr.units
    have hu1 : _ + 1 < cLine := Nat.lt_of_le_of_lt (Nat.add_le_add_left (by decide : 1 ≤ 64) _) hu
    have hN := sc_with_signs.nd
    have tk : Takes (cxOf (L2.CX P w) P w K mg base N_with_signs "with_signs" (defScope s_with_signs) (He.ga K "with_signs") cdv A outer s H E) (fun cls d _ H => E cls d H) := takes_of rfl rfl rfl rfl
    have hp : PassesOwn (model P w) (cxOf (L2.CX P w) P w K mg base N_with_signs "with_signs" (defScope s_with_signs) (He.ga K "with_signs") cdv A outer s H E).A (cxOf (L2.CX P w) P w K mg base N_with_signs "with_signs" (defScope s_with_signs) (He.ga K "with_signs") cdv A outer s H E).env (cxOf (L2.CX P w) P w K mg base N_with_signs "with_signs" (defScope s_with_signs) (He.ga K "with_signs") cdv A outer s H E).xe := passes_of rfl
    exact (qss_cons (qs_par3 (i := 2) (j := 3) (l := 4) rfl hN (qn_cons (qe_lst (qa_cons (qe_name 0) qa_nil)) (qn_cons (qe_lst qa_nil) (qn_cons qe_int qn_nil)))) (qss_cons (qs_while WFUEL hp (qt_cmp op_gtO (ok_ord _ _) (qe_cb call_lenA ok_len X.fr_len boot_len (qa_cons (qe_name 2) qa_nil)) qe_int (by rfl)) (qss_cons (qs_set (i := 5) hN (qe_mut0 (i := 2) PySem.F.slot_list_pop PySem.F.type_list_pop mt_pop mu_pop)) (qss_one (qs_if (qt_cmp (op_eqA hu) ok_eq (qe_name 5) (qe_glob X.c_EMPTY) (by rfl)) (qss_one (qs_expr (qe_mut (i := 3) PySem.F.slot_list_append PySem.F.type_list_append mt_append mu_append (qa_cons qe_non qa_nil)))) (qss_cons (qs_expr (qe_mut (i := 3) PySem.F.slot_list_append PySem.F.type_list_append mt_append mu_append (qa_cons (qe_ixA hu1 (qe_name 1) (qe_name 4)) qa_nil))) (qss_cons (qs_set (i := 4) hN (qe_op op_addA ok_add (qe_name 4) qe_int)) (qss_one (qs_expr (qe_mut (i := 2) PySem.F.slot_list_extend PySem.F.type_list_extend mt_extend mu_extend (qa_cons (qe_lst (qa_cons (qe_ixA hu1 (qe_name 5) qe_int) (qa_cons (qe_ixA hu1 (qe_name 5) qe_int) qa_nil))) qa_nil)))))))))) (qss_one (qs_ret (qe_callO (io := none) O_tree_of_signs hr tk (qa_cons (qe_name 3) (qa_cons (qe_dispN (qe_glob X.c_EMPTY)) qa_nil)))))))
theorem ok_parts_of_tree (X : Txt K mg T base) : Ok P w K mg base T 1 "parts_of_tree" p_parts_of_tree F_parts_of_tree :=
  ok_mk X.d_parts_of_tree sc_parts_of_tree (fun _ _ _ _ _ _ us h => match us, h with | [_], _ => rfl) fun cdv A outer s H E hr => by
    have hu := hr.units
    have hu1 : _ + 1 < cLine := Nat.lt_of_le_of_lt (Nat.add_le_add_left (by decide : 1 ≤ 64) _) hu
    have hN := sc_parts_of_tree.nd
    have tk : Takes (cxOf (L2.CX P w) P w K mg base N_parts_of_tree "parts_of_tree" (defScope s_parts_of_tree) (He.ga K "parts_of_tree") cdv A outer s H E) (fun cls d _ H => E cls d H) := takes_of rfl rfl rfl rfl
    have hp : PassesOwn (model P w) (cxOf (L2.CX P w) P w K mg base N_parts_of_tree "parts_of_tree" (defScope s_parts_of_tree) (He.ga K "parts_of_tree") cdv A outer s H E).A (cxOf (L2.CX P w) P w K mg base N_parts_of_tree "parts_of_tree" (defScope s_parts_of_tree) (He.ga K "parts_of_tree") cdv A outer s H E).env (cxOf (L2.CX P w) P w K mg base N_parts_of_tree "parts_of_tree" (defScope s_parts_of_tree) (He.ga K "parts_of_tree") cdv A outer s H E).xe := passes_of rfl
    exact (qss_cons (qs_par2 (i := 1) (j := 2) rfl hN (qn_cons (qe_lst qa_nil) (qn_cons (qe_lst (qa_cons (qe_name 0) qa_nil)) qn_nil))) (qss_cons (qs_while WFUEL hp (qt_cmp op_gtO (ok_ord _ _) (qe_cb call_lenA ok_len X.fr_len boot_len (qa_cons (qe_name 2) qa_nil)) qe_int (by rfl)) (qss_cons (qs_set (i := 3) hN (qe_mut0 (i := 2) PySem.F.slot_list_pop PySem.F.type_list_pop mt_pop mu_pop)) (qss_one (qs_if (qt_cmp (op_neA hu) ok_ne (qe_name 3) (qe_glob X.c_EMPTY) (by rfl)) (qss_cons (qs_expr (qe_mut (i := 1) PySem.F.slot_list_append PySem.F.type_list_append mt_append mu_append (qa_cons (qe_name 3) qa_nil))) (qss_one (qs_expr (qe_mut (i := 2) PySem.F.slot_list_extend PySem.F.type_list_extend mt_extend mu_extend (qa_cons (qe_lst (qa_cons (qe_ixA hu1 (qe_name 3) qe_int) (qa_cons (qe_ixA hu1 (qe_name 3) qe_int) qa_nil))) qa_nil))))) qss_nil)))) (qss_one (qs_ret (qe_name 1)))))
theorem ok_power_of (X : Txt K mg T base) : Ok P w K mg base T 1 "power_of" p_power_of F_power_of :=
  ok_mk X.d_power_of sc_power_of (fun _ _ _ _ _ _ us h => match us, h with | [_, _], _ => rfl) fun cdv A outer s H E hr => by
    have hu := hr.units
    have hu1 : _ + 1 < cLine := Nat.lt_of_le_of_lt (Nat.add_le_add_left (by decide : 1 ≤ 64) _) hu
    have hN := sc_power_of.nd
    have tk : Takes (cxOf (L2.CX P w) P w K mg base N_power_of "power_of" (defScope s_power_of) (He.ga K "power_of") cdv A outer s H E) (fun cls d _ H => E cls d H) := takes_of rfl rfl rfl rfl
    have hp : PassesOwn (model P w) (cxOf (L2.CX P w) P w K mg base N_power_of "power_of" (defScope s_power_of) (He.ga K "power_of") cdv A outer s H E).A (cxOf (L2.CX P w) P w K mg base N_power_of "power_of" (defScope s_power_of) (He.ga K "power_of") cdv A outer s H E).env (cxOf (L2.CX P w) P w K mg base N_power_of "power_of" (defScope s_power_of) (He.ga K "power_of") cdv A outer s H E).xe := passes_of rfl
    exact (qss_cons (qs_set (i := 2) hN qe_int) (qss_cons (qs_for hp rfl (qi_range1 X.fr_range (qa_cons (qe_name 1) qa_nil)) (qg_name (i := 3) hN) (qss_one (qs_set (i := 2) hN (qe_op op_mul ok_mul (qe_name 2) (qe_name 0))))) (qss_one (qs_ret (qe_name 2)))))
theorem ok_has_told (X : Txt K mg T base) : Ok P w K mg base T 2 "has_told" p_has_told F_has_told :=
  ok_mk X.d_has_told sc_has_told (fun _ _ _ _ _ _ us h => match us, h with | [_, _, _], _ => rfl) fun cdv A outer s H E hr => by
    have O_is_lot_name := (ok_is_lot_name (P := P) (w := w) X).le (show 1 ≤ 1 by decide)
    have hu := hr.units
    have hu1 : _ + 1 < cLine := Nat.lt_of_le_of_lt (Nat.add_le_add_left (by decide : 1 ≤ 64) _) hu
    have hN := sc_has_told.nd
    have tk : Takes (cxOf (L2.CX P w) P w K mg base N_has_told "has_told" (defScope s_has_told) (He.ga K "has_told") cdv A outer s H E) (fun cls d _ H => E cls d H) := takes_of rfl rfl rfl rfl
    have hp : PassesOwn (model P w) (cxOf (L2.CX P w) P w K mg base N_has_told "has_told" (defScope s_has_told) (He.ga K "has_told") cdv A outer s H E).A (cxOf (L2.CX P w) P w K mg base N_has_told "has_told" (defScope s_has_told) (He.ga K "has_told") cdv A outer s H E).env (cxOf (L2.CX P w) P w K mg base N_has_told "has_told" (defScope s_has_told) (He.ga K "has_told") cdv A outer s H E).xe := passes_of rfl
    exact (qss_one (qs_ret (qe_if (qt_val (qe_callO (io := none) O_is_lot_name hr tk (qa_cons (qe_name 0) qa_nil))) (qe_cmp (op_inA hu) ((ok_in false).or (ok_inDic false)) (qe_name 2) (qe_name 1) (by rfl)) (qe_cmp (op_eqA hu) ok_eq (qe_name 2) (qe_name 1) (by rfl)))))
theorem ok_raw_marked (X : Txt K mg T base) : Ok P w K mg base T 3 "raw_marked" p_raw_marked F_raw_marked :=
  ok_mk X.d_raw_marked sc_raw_marked (fun _ _ _ _ _ _ us h => match us, h with | [_, _, _], _ => rfl) fun cdv A outer s H E hr => by
    have O_has_told := (ok_has_told (P := P) (w := w) X).le (show 2 ≤ 2 by decide)
    have O_parts_of_tree := (ok_parts_of_tree (P := P) (w := w) X).le (show 1 ≤ 2 by decide)
    have O_power_of := (ok_power_of (P := P) (w := w) X).le (show 1 ≤ 2 by decide)
    have O_with_signs := (ok_with_signs (P := P) (w := w) X).le (show 2 ≤ 2 by decide)
    have hu := hr.units
    have hu1 : _ + 1 < cLine := Nat.lt_of_le_of_lt (Nat.add_le_add_left (by decide : 1 ≤ 64) _) hu
    have hN := sc_raw_marked.nd
    have tk : Takes (cxOf (L2.CX P w) P w K mg base N_raw_marked "raw_marked" (defScope s_raw_marked) (He.ga K "raw_marked") cdv A outer s H E) (fun cls d _ H => E cls d H) := takes_of rfl rfl rfl rfl
    have hp : PassesOwn (model P w) (cxOf (L2.CX P w) P w K mg base N_raw_marked "raw_marked" (defScope s_raw_marked) (He.ga K "raw_marked") cdv A outer s H E).A (cxOf (L2.CX P w) P w K mg base N_raw_marked "raw_marked" (defScope s_raw_marked) (He.ga K "raw_marked") cdv A outer s H E).env (cxOf (L2.CX P w) P w K mg base N_raw_marked "raw_marked" (defScope s_raw_marked) (He.ga K "raw_marked") cdv A outer s H E).xe := passes_of rfl
    exact (qss_cons (qs_set (i := 3) hN (qe_lst qa_nil)) (qss_cons (qs_for hp rfl (qi_enum X.fr_enumerate (qa_cons (qe_callO (io := none) O_parts_of_tree hr tk (qa_cons (qe_name 1) qa_nil)) qa_nil)) (qg_tup (n := 2) rfl (qgs_cons (qg_name (i := 4) hN) (qgs_cons (qg_name (i := 5) hN) qgs_nil))) (qss_cons (qs_set (i := 6) hN (qe_op op_mul ok_mul (qe_callO (io := none) O_power_of hr tk (qa_cons qe_int (qa_cons (qe_cb call_lenA ok_len X.fr_len boot_len (qa_cons (qe_name 0) qa_nil)) qa_nil))) (qe_sindex rfl tk (qe_glob X.c_LETTERS) (qa_cons (qe_ixA hu1 (qe_name 5) qe_int) qa_nil)))) (qss_cons (qs_setLc (i := 7) (own := [("at", 8), ("name", 9)]) rfl hN (qi_enum X.fr_enumerate (qa_cons (qe_name 0) qa_nil)) (show BlkOk N_raw_marked (defScope s_raw_marked) _ _ from blkOk_by (by decide +kernel)) (fun _ _ _ _ _ => (qg_tup (n := 2) rfl (qgs_cons (qg_name (i := 8) hN) (qgs_cons (qg_name (i := 9) hN) qgs_nil)))) (fun _ _ _ _ _ => (qts_one (qt_val (qe_callO (io := none) O_has_told hr takes_blk (qa_cons (qe_name 9) (qa_cons (qe_ixA hu1 (qe_name 2) (qe_name 8)) (qa_cons (qe_name 4) qa_nil))))))) (fun _ _ _ _ _ => (qe_name 8))) (qss_one (qs_expr (qe_mut (i := 3) PySem.F.slot_list_append PySem.F.type_list_append mt_append mu_append (qa_cons (qe_op op_addA ok_add (qe_name 6) (qe_cb (cr_sum rfl) ok_sum X.fr_sum boot_sum (qa_cons (qe_lc (own := [("at", 8)]) rfl hN (qi_items (qe_name 7)) (show BlkOk N_raw_marked (defScope s_raw_marked) _ _ from blkOk_by (by decide +kernel)) (fun _ _ _ _ _ => (qg_name (i := 8) hN)) (fun _ _ _ _ _ => qts_nil) (fun _ _ _ _ _ => (qe_callO (io := none) O_power_of hr takes_blk (qa_cons qe_int (qa_cons (qe_name 8) qa_nil))))) qa_nil))) qa_nil))))))) (qss_one (qs_ret (qe_callO (io := none) O_with_signs hr tk (qa_cons (qe_name 1) (qa_cons (qe_name 3) qa_nil)))))))
theorem ok_is_integer (X : Txt K mg T base) : Ok P w K mg base T 1 "is_integer" p_is_integer F_is_integer :=
  ok_mk X.d_is_integer sc_is_integer (fun _ _ _ _ _ _ us h => match us, h with | [_], _ => rfl) fun cdv A outer s H E hr => by
    have hu := hr.units
    have hu1 : _ + 1 < cLine := Nat.lt_of_le_of_lt (Nat.add_le_add_left (by decide : 1 ≤ 64) _) hu
    have hN := sc_is_integer.nd
    have tk : Takes (cxOf (L2.CX P w) P w K mg base N_is_integer "is_integer" (defScope s_is_integer) (He.ga K "is_integer") cdv A outer s H E) (fun cls d _ H => E cls d H) := takes_of rfl rfl rfl rfl
    have hp : PassesOwn (model P w) (cxOf (L2.CX P w) P w K mg base N_is_integer "is_integer" (defScope s_is_integer) (He.ga K "is_integer") cdv A outer s H E).A (cxOf (L2.CX P w) P w K mg base N_is_integer "is_integer" (defScope s_is_integer) (He.ga K "is_integer") cdv A outer s H E).env (cxOf (L2.CX P w) P w K mg base N_is_integer "is_integer" (defScope s_is_integer) (He.ga K "is_integer") cdv A outer s H E).xe := passes_of rfl
    exact (qss_one (qs_ret (qe_and (qe_cb call_isiA ok_isi X.fr_isinstance boot_isinstance (qa_cons (qe_name 0) (qa_cons (qe_ty (X.fr_int) boot_int) qa_nil))) (qe_one (qe_not (qe_cb call_isiA ok_isi X.fr_isinstance boot_isinstance (qa_cons (qe_name 0) (qa_cons (qe_ty (X.fr_bool) boot_bool) qa_nil))))))))
theorem ok_is_within (X : Txt K mg T base) : Ok P w K mg base T 2 "is_within" p_is_within F_is_within :=
  ok_mk X.d_is_within sc_is_within (fun _ _ _ _ _ _ us h => match us, h with | [_, _, _], _ => rfl) fun cdv A outer s H E hr => by
    have O_is_integer := (ok_is_integer (P := P) (w := w) X).le (show 1 ≤ 1 by decide)
    have hu := hr.units
    have hu1 : _ + 1 < cLine := Nat.lt_of_le_of_lt (Nat.add_le_add_left (by decide : 1 ≤ 64) _) hu
    have hN := sc_is_within.nd
    have tk : Takes (cxOf (L2.CX P w) P w K mg base N_is_within "is_within" (defScope s_is_within) (He.ga K "is_within") cdv A outer s H E) (fun cls d _ H => E cls d H) := takes_of rfl rfl rfl rfl
    have hp : PassesOwn (model P w) (cxOf (L2.CX P w) P w K mg base N_is_within "is_within" (defScope s_is_within) (He.ga K "is_within") cdv A outer s H E).A (cxOf (L2.CX P w) P w K mg base N_is_within "is_within" (defScope s_is_within) (He.ga K "is_within") cdv A outer s H E).env (cxOf (L2.CX P w) P w K mg base N_is_within "is_within" (defScope s_is_within) (He.ga K "is_within") cdv A outer s H E).xe := passes_of rfl
    exact (qss_one (qs_ret (qe_and (qe_callO (io := none) O_is_integer hr tk (qa_cons (qe_name 0) qa_nil)) (qe_one (qe_chain op_leO (ok_ord _ _) op_leO (ok_ord _ _) (qe_name 1) (qe_name 0) (qe_name 2))))))
theorem ok_are_within (X : Txt K mg T base) : Ok P w K mg base T 3 "are_within" p_are_within F_are_within :=
  ok_mk X.d_are_within sc_are_within (fun _ _ _ _ _ _ us h => match us, h with | [_, _, _], _ => rfl) fun cdv A outer s H E hr => by
    have O_is_within := (ok_is_within (P := P) (w := w) X).le (show 2 ≤ 2 by decide)
    have hu := hr.units
    have hu1 : _ + 1 < cLine := Nat.lt_of_le_of_lt (Nat.add_le_add_left (by decide : 1 ≤ 64) _) hu
    have hN := sc_are_within.nd
    have tk : Takes (cxOf (L2.CX P w) P w K mg base N_are_within "are_within" (defScope s_are_within) (He.ga K "are_within") cdv A outer s H E) (fun cls d _ H => E cls d H) := takes_of rfl rfl rfl rfl
    have hp : PassesOwn (model P w) (cxOf (L2.CX P w) P w K mg base N_are_within "are_within" (defScope s_are_within) (He.ga K "are_within") cdv A outer s H E).A (cxOf (L2.CX P w) P w K mg base N_are_within "are_within" (defScope s_are_within) (He.ga K "are_within") cdv A outer s H E).env (cxOf (L2.CX P w) P w K mg base N_are_within "are_within" (defScope s_are_within) (He.ga K "are_within") cdv A outer s H E).xe := passes_of rfl
    exact (qss_one (qs_ret (qe_and (qe_cb call_isiA ok_isi X.fr_isinstance boot_isinstance (qa_cons (qe_name 0) (qa_cons (qe_ty (X.fr_tuple) boot_tuple) qa_nil))) (qe_one (qe_cb (cr_all rfl) ok_all X.fr_all boot_all (qa_cons (qe_lc (own := [("one", 3)]) rfl hN (qi_items (qe_name 0)) (show BlkOk N_are_within (defScope s_are_within) _ _ from blkOk_by (by decide +kernel)) (fun _ _ _ _ _ => (qg_name (i := 3) hN)) (fun _ _ _ _ _ => qts_nil) (fun _ _ _ _ _ => (qe_callO (io := none) O_is_within hr takes_blk (qa_cons (qe_name 3) (qa_cons (qe_name 1) (qa_cons (qe_name 2) qa_nil)))))) qa_nil))))))
theorem ok_is_lot (X : Txt K mg T base) : Ok P w K mg base T 4 "is_lot" p_is_lot F_is_lot :=
  ok_mk X.d_is_lot sc_is_lot (fun _ _ _ _ _ _ us h => match us, h with | [_, _], _ => rfl) fun cdv A outer s H E hr => by
    have O_are_within := (ok_are_within (P := P) (w := w) X).le (show 3 ≤ 3 by decide)
    have O_is_rising := (ok_is_rising (P := P) (w := w) X).le (show 1 ≤ 3 by decide)
    have hu := hr.units
    have hu1 : _ + 1 < cLine := Nat.lt_of_le_of_lt (Nat.add_le_add_left (by decide : 1 ≤ 64) _) hu
    have hN := sc_is_lot.nd
    have tk : Takes (cxOf (L2.CX P w) P w K mg base N_is_lot "is_lot" (defScope s_is_lot) (He.ga K "is_lot") cdv A outer s H E) (fun cls d _ H => E cls d H) := takes_of rfl rfl rfl rfl
    have hp : PassesOwn (model P w) (cxOf (L2.CX P w) P w K mg base N_is_lot "is_lot" (defScope s_is_lot) (He.ga K "is_lot") cdv A outer s H E).A (cxOf (L2.CX P w) P w K mg base N_is_lot "is_lot" (defScope s_is_lot) (He.ga K "is_lot") cdv A outer s H E).env (cxOf (L2.CX P w) P w K mg base N_is_lot "is_lot" (defScope s_is_lot) (He.ga K "is_lot") cdv A outer s H E).xe := passes_of rfl
    exact (qss_one (qs_ret (qe_and (qe_callO (io := none) O_are_within hr tk (qa_cons (qe_name 0) (qa_cons qe_int (qa_cons (qe_op op_sub ok_sub (qe_name 1) qe_int) qa_nil)))) (qe_one (qe_callO (io := none) O_is_rising hr tk (qa_cons (qe_name 0) qa_nil))))))
theorem ok_is_worth (X : Txt K mg T base) : Ok P w K mg base T 5 "is_worth" p_is_worth F_is_worth :=
  ok_mk X.d_is_worth sc_is_worth (fun _ _ _ _ _ _ us h => match us, h with | [_, _, _], _ => rfl) fun cdv A outer s H E hr => by
    have O_is_lot := (ok_is_lot (P := P) (w := w) X).le (show 4 ≤ 4 by decide)
    have O_is_lot_name := (ok_is_lot_name (P := P) (w := w) X).le (show 1 ≤ 4 by decide)
    have O_is_within := (ok_is_within (P := P) (w := w) X).le (show 2 ≤ 4 by decide)
    have hu := hr.units
    have hu1 : _ + 1 < cLine := Nat.lt_of_le_of_lt (Nat.add_le_add_left (by decide : 1 ≤ 64) _) hu
    have hN := sc_is_worth.nd
    have tk : Takes (cxOf (L2.CX P w) P w K mg base N_is_worth "is_worth" (defScope s_is_worth) (He.ga K "is_worth") cdv A outer s H E) (fun cls d _ H => E cls d H) := takes_of rfl rfl rfl rfl
    have hp : PassesOwn (model P w) (cxOf (L2.CX P w) P w K mg base N_is_worth "is_worth" (defScope s_is_worth) (He.ga K "is_worth") cdv A outer s H E).A (cxOf (L2.CX P w) P w K mg base N_is_worth "is_worth" (defScope s_is_worth) (He.ga K "is_worth") cdv A outer s H E).env (cxOf (L2.CX P w) P w K mg base N_is_worth "is_worth" (defScope s_is_worth) (He.ga K "is_worth") cdv A outer s H E).xe := passes_of rfl
    exact (qss_one (qs_ret (qe_if (qt_val (qe_callO (io := none) O_is_lot_name hr tk (qa_cons (qe_name 0) qa_nil))) (qe_callO (io := none) O_is_lot hr tk (qa_cons (qe_name 2) (qa_cons (qe_name 1) qa_nil))) (qe_callO (io := none) O_is_within hr tk (qa_cons (qe_name 2) (qa_cons qe_int (qa_cons (qe_op op_sub ok_sub (qe_name 1) qe_int) qa_nil)))))))
theorem ok_raw_is_telling (X : Txt K mg T base) : Ok P w K mg base T 6 "raw_is_telling" p_raw_is_telling F_raw_is_telling :=
  ok_mk X.d_raw_is_telling sc_raw_is_telling (fun _ _ _ _ _ _ us h => match us, h with | [_, _, _], _ => rfl) fun cdv A outer s H E hr => by
    have O_is_worth := (ok_is_worth (P := P) (w := w) X).le (show 5 ≤ 5 by decide)
    have hu := hr.units
    have hu1 : _ + 1 < cLine := Nat.lt_of_le_of_lt (Nat.add_le_add_left (by decide : 1 ≤ 64) _) hu
    have hN := sc_raw_is_telling.nd
    have tk : Takes (cxOf (L2.CX P w) P w K mg base N_raw_is_telling "raw_is_telling" (defScope s_raw_is_telling) (He.ga K "raw_is_telling") cdv A outer s H E) (fun cls d _ H => E cls d H) := takes_of rfl rfl rfl rfl
    have hp : PassesOwn (model P w) (cxOf (L2.CX P w) P w K mg base N_raw_is_telling "raw_is_telling" (defScope s_raw_is_telling) (He.ga K "raw_is_telling") cdv A outer s H E).A (cxOf (L2.CX P w) P w K mg base N_raw_is_telling "raw_is_telling" (defScope s_raw_is_telling) (He.ga K "raw_is_telling") cdv A outer s H E).env (cxOf (L2.CX P w) P w K mg base N_raw_is_telling "raw_is_telling" (defScope s_raw_is_telling) (He.ga K "raw_is_telling") cdv A outer s H E).xe := passes_of rfl
    exact (qss_cons (qs_if (qt_w (qw_or (qt_not (qt_val (qe_cb call_isiA ok_isi X.fr_isinstance boot_isinstance (qa_cons (qe_name 2) (qa_cons (qe_ty (X.fr_tuple) boot_tuple) qa_nil))))) (qw_or1 (qt_cmp (op_neA hu) ok_ne (qe_cb call_lenA ok_len X.fr_len boot_len (qa_cons (qe_name 2) qa_nil)) (qe_cb call_lenA ok_len X.fr_len boot_len (qa_cons (qe_name 0) qa_nil)) (by rfl))))) (qss_one (qs_ret qe_bl)) qss_nil) (qss_one (qs_ret (qe_cb (cr_all rfl) ok_all X.fr_all boot_all (qa_cons (qe_lc (own := [("name", 3), ("one", 4)]) rfl hN (qi_zip X.fr_zip (qa_cons (qe_name 0) (qa_cons (qe_name 2) qa_nil))) (show BlkOk N_raw_is_telling (defScope s_raw_is_telling) _ _ from blkOk_by (by decide +kernel)) (fun _ _ _ _ _ => (qg_tup (n := 2) rfl (qgs_cons (qg_name (i := 3) hN) (qgs_cons (qg_name (i := 4) hN) qgs_nil)))) (fun _ _ _ _ _ => qts_nil) (fun _ _ _ _ _ => (qe_callO (io := none) O_is_worth hr takes_blk (qa_cons (qe_name 3) (qa_cons (qe_name 1) (qa_cons (qe_name 4) qa_nil)))))) qa_nil)))))
theorem ok_raw_size (X : Txt K mg T base) : Ok P w K mg base T 2 "raw_size" p_raw_size F_raw_size :=
  ok_mk X.d_raw_size sc_raw_size (fun _ _ _ _ _ _ us h => match us, h with | [_], _ => rfl) fun cdv A outer s H E hr => by
    have O_parts_of_tree := (ok_parts_of_tree (P := P) (w := w) X).le (show 1 ≤ 1 by decide)
    have hu := hr.units
    have hu1 : _ + 1 < cLine := Nat.lt_of_le_of_lt (Nat.add_le_add_left (by decide : 1 ≤ 64) _) hu
    have hN := sc_raw_size.nd
    have tk : Takes (cxOf (L2.CX P w) P w K mg base N_raw_size "raw_size" (defScope s_raw_size) (He.ga K "raw_size") cdv A outer s H E) (fun cls d _ H => E cls d H) := takes_of rfl rfl rfl rfl
    have hp : PassesOwn (model P w) (cxOf (L2.CX P w) P w K mg base N_raw_size "raw_size" (defScope s_raw_size) (He.ga K "raw_size") cdv A outer s H E).A (cxOf (L2.CX P w) P w K mg base N_raw_size "raw_size" (defScope s_raw_size) (He.ga K "raw_size") cdv A outer s H E).env (cxOf (L2.CX P w) P w K mg base N_raw_size "raw_size" (defScope s_raw_size) (He.ga K "raw_size") cdv A outer s H E).xe := passes_of rfl
    exact (qss_one (qs_ret (qe_cb call_lenA ok_len X.fr_len boot_len (qa_cons (qe_callO (io := none) O_parts_of_tree hr tk (qa_cons (qe_name 0) qa_nil)) qa_nil))))
theorem ok_marked (X : Txt K mg T base) : Ok P w K mg base T 7 "marked" p_marked (F_marked K) :=
  ok_mk X.d_marked sc_marked (fun _ _ _ _ _ _ us h => match us, h with | [_, _, _], _ => rfl) fun cdv A outer s H E hr => by
    have O_check_tracks := (ok_check_tracks (P := P) (w := w) X).le (show 4 ≤ 6 by decide)
    have O_check_tree := (ok_check_tree (P := P) (w := w) X).le (show 4 ≤ 6 by decide)
    have O_raw_is_telling := (ok_raw_is_telling (P := P) (w := w) X).le (show 6 ≤ 6 by decide)
    have O_raw_marked := (ok_raw_marked (P := P) (w := w) X).le (show 3 ≤ 6 by decide)
    have O_raw_size := (ok_raw_size (P := P) (w := w) X).le (show 2 ≤ 6 by decide)
    have hu := hr.units
    have hu1 : _ + 1 < cLine := Nat.lt_of_le_of_lt (Nat.add_le_add_left (by decide : 1 ≤ 64) _) hu
    have hN := sc_marked.nd
    have tk : Takes (cxOf (L2.CX P w) P w K mg base N_marked "marked" (defScope s_marked) (He.ga K "marked") cdv A outer s H E) (fun cls d _ H => E cls d H) := takes_of rfl rfl rfl rfl
    have hp : PassesOwn (model P w) (cxOf (L2.CX P w) P w K mg base N_marked "marked" (defScope s_marked) (He.ga K "marked") cdv A outer s H E).A (cxOf (L2.CX P w) P w K mg base N_marked "marked" (defScope s_marked) (He.ga K "marked") cdv A outer s H E).env (cxOf (L2.CX P w) P w K mg base N_marked "marked" (defScope s_marked) (He.ga K "marked") cdv A outer s H E).xe := passes_of rfl
    exact (qss_cons (qs_expr (qe_callO (io := none) O_check_tracks hr tk (qa_cons (qe_name 0) qa_nil))) (qss_cons (qs_expr (qe_callO (io := none) O_check_tree hr tk (qa_cons (qe_name 1) qa_nil))) (qss_cons (qs_if (qt_not (qt_val (qe_callO (io := none) O_raw_is_telling hr tk (qa_cons (qe_name 0) (qa_cons (qe_callO (io := none) O_raw_size hr tk (qa_cons (qe_name 1) qa_nil)) (qa_cons (qe_name 2) qa_nil)))))) (qss_one (qs_raise rfl tk X.e_NoTelling)) qss_nil) (qss_one (qs_ret (qe_callO (io := none) O_raw_marked hr tk (qa_cons (qe_name 0) (qa_cons (qe_name 1) (qa_cons (qe_name 2) qa_nil)))))))))
theorem ok_symbols_of (X : Txt K mg T base) : Ok P w K mg base T 2 "symbols_of" p_symbols_of F_symbols_of :=
  ok_mk X.d_symbols_of sc_symbols_of (fun _ _ _ _ _ _ us h => match us, h with | [_], _ => rfl) fun cdv A outer s H E hr => by
    have O_power_of := (ok_power_of (P := P) (w := w) X).le (show 1 ≤ 1 by decide)
    have hu := hr.units
    have hu1 : _ + 1 < cLine := Nat.lt_of_le_of_lt (Nat.add_le_add_left (by decide : 1 ≤ 64) _) hu
    have hN := sc_symbols_of.nd
    have tk : Takes (cxOf (L2.CX P w) P w K mg base N_symbols_of "symbols_of" (defScope s_symbols_of) (He.ga K "symbols_of") cdv A outer s H E) (fun cls d _ H => E cls d H) := takes_of rfl rfl rfl rfl
    have hp : PassesOwn (model P w) (cxOf (L2.CX P w) P w K mg base N_symbols_of "symbols_of" (defScope s_symbols_of) (He.ga K "symbols_of") cdv A outer s H E).A (cxOf (L2.CX P w) P w K mg base N_symbols_of "symbols_of" (defScope s_symbols_of) (He.ga K "symbols_of") cdv A outer s H E).env (cxOf (L2.CX P w) P w K mg base N_symbols_of "symbols_of" (defScope s_symbols_of) (He.ga K "symbols_of") cdv A outer s H E).xe := passes_of rfl
    exact (qss_one (qs_ret (qe_op op_mul ok_mul qe_int (qe_callO (io := none) O_power_of hr tk (qa_cons qe_int (qa_cons (qe_name 0) qa_nil))))))
theorem ok_raw_is_marked (X : Txt K mg T base) : Ok P w K mg base T 5 "raw_is_marked" p_raw_is_marked F_raw_is_marked :=
  ok_mkC X.d_raw_is_marked sc_raw_is_marked (fun _ _ _ _ _ _ us h => match us, h with | [_, _, _, _], _ => rfl) fun cdv A outer s H E hcd hr => by
    have O_is_within := (ok_is_within (P := P) (w := w) X).le (show 2 ≤ 4 by decide)
    have O_symbols_of := (ok_symbols_of (P := P) (w := w) X).le (show 2 ≤ 4 by decide)
    have hu := hr.units
    have hu1 : _ + 1 < cLine := Nat.lt_of_le_of_lt (Nat.add_le_add_left (by decide : 1 ≤ 64) _) hu
    have hN := sc_raw_is_marked.nd
    have tk : Takes (cxOf (L2.CX P w) P w K mg base N_raw_is_marked "raw_is_marked" (defScope s_raw_is_marked) (He.ga K "raw_is_marked") cdv A outer s H E) (fun cls d _ H => E cls d H) := takes_of rfl rfl rfl rfl
    have hp : PassesOwn (model P w) (cxOf (L2.CX P w) P w K mg base N_raw_is_marked "raw_is_marked" (defScope s_raw_is_marked) (He.ga K "raw_is_marked") cdv A outer s H E).A (cxOf (L2.CX P w) P w K mg base N_raw_is_marked "raw_is_marked" (defScope s_raw_is_marked) (He.ga K "raw_is_marked") cdv A outer s H E).env (cxOf (L2.CX P w) P w K mg base N_raw_is_marked "raw_is_marked" (defScope s_raw_is_marked) (He.ga K "raw_is_marked") cdv A outer s H E).xe := passes_of rfl
    exact (qss_one (qs_ret (qe_callLamD (k := 2) (i := 3) (Ng := N_is_grown) (psg := p_is_grown) (gg := g_is_grown) (fb := fb_raw_is_marked_0 ) (ps := ["sign"]) tk X.d_is_grown sc_is_grown (fun _ _ _ _ _ _ us h => match us, h with | [_, _, _, _], _ => rfl)
        (fun cdv' f' φ' T' s' H' hT hrG act => b_is_grown (X.at hT) (hrG.mono (by decide)) act) X.t_raw_is_marked hcd X.tm_raw_is_marked X.tu_raw_is_marked (hr.mono (by decide)) (show LamP (defScope s_raw_is_marked) _ N_raw_is_marked _ from lamP_by (by decide +kernel)) (by rfl) (fun us h => match us, h with | [_], _ => fun _ _ _ _ _ => rfl)
        (fun T' A' outer' s' H' f' c' hTL hrL => by
        have hu := hrL.units
        have hu1 : _ + 1 < cLine := Nat.lt_of_le_of_lt (Nat.add_le_add_left (by decide : 1 ≤ 64) _) hu
        have O_is_within := (ok_is_within (P := P) (w := w) (X.at hTL)).le (show 2 ≤ 2 by decide)
        have O_symbols_of := (ok_symbols_of (P := P) (w := w) (X.at hTL)).le (show 2 ≤ 2 by decide)
        exact (qe_callO (io := none) O_is_within hrL takes_blk (qa_cons (qe_name 4) (qa_cons qe_int (qa_cons (qe_op op_sub ok_sub (qe_callO (io := none) O_symbols_of hrL takes_blk (qa_cons (qe_name 0) qa_nil)) qe_int) qa_nil))))) (QL.cons (qe_name 1) (QL.cons (qe_name 2) (QL.cons (qe_name 3) QL.nil))) (by rfl) (Or.inl rfl))))
theorem ok_is_marked (X : Txt K mg T base) : Ok P w K mg base T 6 "is_marked" p_is_marked F_is_marked :=
  ok_mk X.d_is_marked sc_is_marked (fun _ _ _ _ _ _ us h => match us, h with | [_, _], _ => rfl) fun cdv A outer s H E hr => by
    have O_check_tracks := (ok_check_tracks (P := P) (w := w) X).le (show 4 ≤ 5 by decide)
    have O_raw_is_marked := (ok_raw_is_marked (P := P) (w := w) X).le (show 5 ≤ 5 by decide)
    have hu := hr.units
    have hu1 : _ + 1 < cLine := Nat.lt_of_le_of_lt (Nat.add_le_add_left (by decide : 1 ≤ 64) _) hu
    have hN := sc_is_marked.nd
    have tk : Takes (cxOf (L2.CX P w) P w K mg base N_is_marked "is_marked" (defScope s_is_marked) (He.ga K "is_marked") cdv A outer s H E) (fun cls d _ H => E cls d H) := takes_of rfl rfl rfl rfl
    have hp : PassesOwn (model P w) (cxOf (L2.CX P w) P w K mg base N_is_marked "is_marked" (defScope s_is_marked) (He.ga K "is_marked") cdv A outer s H E).A (cxOf (L2.CX P w) P w K mg base N_is_marked "is_marked" (defScope s_is_marked) (He.ga K "is_marked") cdv A outer s H E).env (cxOf (L2.CX P w) P w K mg base N_is_marked "is_marked" (defScope s_is_marked) (He.ga K "is_marked") cdv A outer s H E).xe := passes_of rfl
    exact (qss_cons (qs_expr (qe_callO (io := none) O_check_tracks hr tk (qa_cons (qe_name 0) qa_nil))) (qss_one (qs_ret (qe_callO (io := none) O_raw_is_marked hr tk (qa_cons (qe_cb call_lenA ok_len X.fr_len boot_len (qa_cons (qe_name 0) qa_nil)) (qa_cons (qe_name 1) (qa_cons (qe_glob X.c_MOST_PLACES) (qa_cons (qe_glob X.c_MOST_DEEP) qa_nil))))))))
theorem ok_check_marked (X : Txt K mg T base) : Ok P w K mg base T 7 "check_marked" p_check_marked F_check_marked :=
  ok_mk X.d_check_marked sc_check_marked (fun _ _ _ _ _ _ us h => match us, h with | [_, _], _ => rfl) fun cdv A outer s H E hr => by
    have O_is_marked := (ok_is_marked (P := P) (w := w) X).le (show 6 ≤ 6 by decide)
    have hu := hr.units
    have hu1 : _ + 1 < cLine := Nat.lt_of_le_of_lt (Nat.add_le_add_left (by decide : 1 ≤ 64) _) hu
    have hN := sc_check_marked.nd
    have tk : Takes (cxOf (L2.CX P w) P w K mg base N_check_marked "check_marked" (defScope s_check_marked) (He.ga K "check_marked") cdv A outer s H E) (fun cls d _ H => E cls d H) := takes_of rfl rfl rfl rfl
    have hp : PassesOwn (model P w) (cxOf (L2.CX P w) P w K mg base N_check_marked "check_marked" (defScope s_check_marked) (He.ga K "check_marked") cdv A outer s H E).A (cxOf (L2.CX P w) P w K mg base N_check_marked "check_marked" (defScope s_check_marked) (He.ga K "check_marked") cdv A outer s H E).env (cxOf (L2.CX P w) P w K mg base N_check_marked "check_marked" (defScope s_check_marked) (He.ga K "check_marked") cdv A outer s H E).xe := passes_of rfl
    exact (qss_one (qs_if (qt_not (qt_val (qe_callO (io := none) O_is_marked hr tk (qa_cons (qe_name 0) (qa_cons (qe_name 1) qa_nil))))) (qss_one (qs_raise rfl tk X.e_NoMarked)) qss_nil))
theorem ok_symbol_without (X : Txt K mg T base) : Ok P w K mg base T 2 "symbol_without" p_symbol_without F_symbol_without :=
  ok_mk X.d_symbol_without sc_symbol_without (fun _ _ _ _ _ _ us h => match us, h with | [_, _], _ => rfl) fun cdv A outer s H E hr => by
    have O_power_of := (ok_power_of (P := P) (w := w) X).le (show 1 ≤ 1 by decide)
    have hu := hr.units
    have hu1 : _ + 1 < cLine := Nat.lt_of_le_of_lt (Nat.add_le_add_left (by decide : 1 ≤ 64) _) hu
    have hN := sc_symbol_without.nd
    have tk : Takes (cxOf (L2.CX P w) P w K mg base N_symbol_without "symbol_without" (defScope s_symbol_without) (He.ga K "symbol_without") cdv A outer s H E) (fun cls d _ H => E cls d H) := takes_of rfl rfl rfl rfl
    have hp : PassesOwn (model P w) (cxOf (L2.CX P w) P w K mg base N_symbol_without "symbol_without" (defScope s_symbol_without) (He.ga K "symbol_without") cdv A outer s H E).A (cxOf (L2.CX P w) P w K mg base N_symbol_without "symbol_without" (defScope s_symbol_without) (He.ga K "symbol_without") cdv A outer s H E).env (cxOf (L2.CX P w) P w K mg base N_symbol_without "symbol_without" (defScope s_symbol_without) (He.ga K "symbol_without") cdv A outer s H E).xe := passes_of rfl
    exact (qss_cons (qs_set (i := 2) hN (qe_callO (io := none) O_power_of hr tk (qa_cons qe_int (qa_cons (qe_name 1) qa_nil)))) (qss_one (qs_ret (qe_op op_sub ok_sub (qe_op op_addA ok_add (qe_op op_mul ok_mul (qe_op op_fdiv ok_div (qe_name 0) (qe_op op_mul ok_mul qe_int (qe_name 2))) (qe_name 2)) (qe_name 0)) (qe_op op_mul ok_mul (qe_name 2) (qe_op op_fdiv ok_div (qe_name 0) (qe_name 2)))))))
theorem ok_raw_symbols (X : Txt K mg T base) : Ok P w K mg base T 2 "raw_symbols" p_raw_symbols F_raw_symbols :=
  ok_mk X.d_raw_symbols sc_raw_symbols (fun _ _ _ _ _ _ us h => match us, h with | [_], _ => rfl) fun cdv A outer s H E hr => by
    have O_parts_of_tree := (ok_parts_of_tree (P := P) (w := w) X).le (show 1 ≤ 1 by decide)
    have hu := hr.units
    have hu1 : _ + 1 < cLine := Nat.lt_of_le_of_lt (Nat.add_le_add_left (by decide : 1 ≤ 64) _) hu
    have hN := sc_raw_symbols.nd
    have tk : Takes (cxOf (L2.CX P w) P w K mg base N_raw_symbols "raw_symbols" (defScope s_raw_symbols) (He.ga K "raw_symbols") cdv A outer s H E) (fun cls d _ H => E cls d H) := takes_of rfl rfl rfl rfl
    have hp : PassesOwn (model P w) (cxOf (L2.CX P w) P w K mg base N_raw_symbols "raw_symbols" (defScope s_raw_symbols) (He.ga K "raw_symbols") cdv A outer s H E).A (cxOf (L2.CX P w) P w K mg base N_raw_symbols "raw_symbols" (defScope s_raw_symbols) (He.ga K "raw_symbols") cdv A outer s H E).env (cxOf (L2.CX P w) P w K mg base N_raw_symbols "raw_symbols" (defScope s_raw_symbols) (He.ga K "raw_symbols") cdv A outer s H E).xe := passes_of rfl
    exact (qss_one (qs_ret (qe_cty call_tuple_of ok_tuple X.fr_tuple boot_tuple (qa_cons (qe_lc (own := [("part", 1)]) rfl hN (qi_items (qe_callO (io := none) O_parts_of_tree hr tk (qa_cons (qe_name 0) qa_nil))) (show BlkOk N_raw_symbols (defScope s_raw_symbols) _ _ from blkOk_by (by decide +kernel)) (fun _ _ _ _ _ => (qg_name (i := 1) hN)) (fun _ _ _ _ _ => qts_nil) (fun _ _ _ _ _ => (qe_ixA hu1 (qe_name 1) qe_int))) qa_nil))))
theorem ok_without (X : Txt K mg T base) : Ok P w K mg base T 8 "without" p_without F_without :=
  ok_mk X.d_without sc_without (fun _ _ _ _ _ _ us h => match us, h with | [_, _, _], _ => rfl) fun cdv A outer s H E hr => by
    have O_check_marked := (ok_check_marked (P := P) (w := w) X).le (show 7 ≤ 7 by decide)
    have O_is_within := (ok_is_within (P := P) (w := w) X).le (show 2 ≤ 7 by decide)
    have O_raw_symbols := (ok_raw_symbols (P := P) (w := w) X).le (show 2 ≤ 7 by decide)
    have O_symbol_without := (ok_symbol_without (P := P) (w := w) X).le (show 2 ≤ 7 by decide)
    have O_with_signs := (ok_with_signs (P := P) (w := w) X).le (show 2 ≤ 7 by decide)
    have hu := hr.units
    have hu1 : _ + 1 < cLine := Nat.lt_of_le_of_lt (Nat.add_le_add_left (by decide : 1 ≤ 64) _) hu
    have hN := sc_without.nd
    have tk : Takes (cxOf (L2.CX P w) P w K mg base N_without "without" (defScope s_without) (He.ga K "without") cdv A outer s H E) (fun cls d _ H => E cls d H) := takes_of rfl rfl rfl rfl
    have hp : PassesOwn (model P w) (cxOf (L2.CX P w) P w K mg base N_without "without" (defScope s_without) (He.ga K "without") cdv A outer s H E).A (cxOf (L2.CX P w) P w K mg base N_without "without" (defScope s_without) (He.ga K "without") cdv A outer s H E).env (cxOf (L2.CX P w) P w K mg base N_without "without" (defScope s_without) (He.ga K "without") cdv A outer s H E).xe := passes_of rfl
    exact (qss_cons (qs_expr (qe_callO (io := none) O_check_marked hr tk (qa_cons (qe_name 0) (qa_cons (qe_name 1) qa_nil)))) (qss_cons (qs_if (qt_not (qt_val (qe_callO (io := none) O_is_within hr tk (qa_cons (qe_name 2) (qa_cons qe_int (qa_cons (qe_op op_sub ok_sub (qe_cb call_lenA ok_len X.fr_len boot_len (qa_cons (qe_name 0) qa_nil)) qe_int) qa_nil)))))) (qss_one (qs_raise rfl tk X.e_NoTrack)) qss_nil) (qss_one (qs_ret (qe_callO (io := none) O_with_signs hr tk (qa_cons (qe_name 1) (qa_cons (qe_lc (own := [("symbol", 3)]) rfl hN (qi_items (qe_callO (io := none) O_raw_symbols hr tk (qa_cons (qe_name 1) qa_nil))) (show BlkOk N_without (defScope s_without) _ _ from blkOk_by (by decide +kernel)) (fun _ _ _ _ _ => (qg_name (i := 3) hN)) (fun _ _ _ _ _ => qts_nil) (fun _ _ _ _ _ => (qe_callO (io := none) O_symbol_without hr takes_blk (qa_cons (qe_name 3) (qa_cons (qe_name 2) qa_nil))))) qa_nil)))))))
theorem ok_symbols_many (X : Txt K mg T base) : Ok P w K mg base T 5 "symbols_many" p_symbols_many F_symbols_many :=
  ok_mk X.d_symbols_many sc_symbols_many (fun _ _ _ _ _ _ us h => match us, h with | [_], _ => rfl) fun cdv A outer s H E hr => by
    have O_check_tracks := (ok_check_tracks (P := P) (w := w) X).le (show 4 ≤ 4 by decide)
    have O_symbols_of := (ok_symbols_of (P := P) (w := w) X).le (show 2 ≤ 4 by decide)
    have hu := hr.units
    have hu1 : _ + 1 < cLine := Nat.lt_of_le_of_lt (Nat.add_le_add_left (by decide : 1 ≤ 64) _) hu
    have hN := sc_symbols_many.nd
    have tk : Takes (cxOf (L2.CX P w) P w K mg base N_symbols_many "symbols_many" (defScope s_symbols_many) (He.ga K "symbols_many") cdv A outer s H E) (fun cls d _ H => E cls d H) := takes_of rfl rfl rfl rfl
    have hp : PassesOwn (model P w) (cxOf (L2.CX P w) P w K mg base N_symbols_many "symbols_many" (defScope s_symbols_many) (He.ga K "symbols_many") cdv A outer s H E).A (cxOf (L2.CX P w) P w K mg base N_symbols_many "symbols_many" (defScope s_symbols_many) (He.ga K "symbols_many") cdv A outer s H E).env (cxOf (L2.CX P w) P w K mg base N_symbols_many "symbols_many" (defScope s_symbols_many) (He.ga K "symbols_many") cdv A outer s H E).xe := passes_of rfl
    exact (qss_cons (qs_expr (qe_callO (io := none) O_check_tracks hr tk (qa_cons (qe_name 0) qa_nil))) (qss_one (qs_ret (qe_callO (io := none) O_symbols_of hr tk (qa_cons (qe_cb call_lenA ok_len X.fr_len boot_len (qa_cons (qe_name 0) qa_nil)) qa_nil)))))
theorem ok__law_refuses (X : Txt K mg T base) : Ok P w K mg base T 9 "_law_refuses" p__law_refuses (F__law_refuses K) :=
  ok_mk X.d__law_refuses sc__law_refuses (fun _ _ _ _ _ _ us h => match us, h with | [_, _, _, _], _ => rfl) fun cdv A outer s H E hr => by
    have O__law_some := (ok__law_some (P := P) (w := w) X).le (show 2 ≤ 8 by decide)
    have O_marked := (ok_marked (P := P) (w := w) X).le (show 7 ≤ 8 by decide)
    have O_symbols_many := (ok_symbols_many (P := P) (w := w) X).le (show 5 ≤ 8 by decide)
    have O_without := (ok_without (P := P) (w := w) X).le (show 8 ≤ 8 by decide)
    have hu := hr.units
    have hu1 : _ + 1 < cLine := Nat.lt_of_le_of_lt (Nat.add_le_add_left (by decide : 1 ≤ 64) _) hu
    have hN := sc__law_refuses.nd
    have tk : Takes (cxOf (L2.CX P w) P w K mg base N__law_refuses "_law_refuses" (defScope s__law_refuses) (He.ga K "_law_refuses") cdv A outer s H E) (fun cls d _ H => E cls d H) := takes_of rfl rfl rfl rfl
    have hp : PassesOwn (model P w) (cxOf (L2.CX P w) P w K mg base N__law_refuses "_law_refuses" (defScope s__law_refuses) (He.ga K "_law_refuses") cdv A outer s H E).A (cxOf (L2.CX P w) P w K mg base N__law_refuses "_law_refuses" (defScope s__law_refuses) (He.ga K "_law_refuses") cdv A outer s H E).env (cxOf (L2.CX P w) P w K mg base N__law_refuses "_law_refuses" (defScope s__law_refuses) (He.ga K "_law_refuses") cdv A outer s H E).xe := passes_of rfl
    exact (qss_cons (qs_try (tbl := [("NoTelling", true), ("NoTracks", false), ("NoTree", false)]) rfl rfl tk X.e_NoTelling (exm_cons X.m_NoTelling_NoTelling (exm_cons X.m_NoTracks_NoTelling (exm_cons X.m_NoTree_NoTelling exm_nil))) (exg_cons X.e_NoTelling.g (exg_cons X.e_NoTracks.g (exg_cons X.e_NoTree.g exg_nil))) (fun _ _ _ tkT hpT => (qss_cons (qs_expr (qe_callO (io := none) O_marked hr tkT (qa_cons (qe_name 1) (qa_cons (qe_name 2) (qa_cons (qe_op op_addA ok_add (qe_name 3) (qe_tup (qa_cons qe_int qa_nil))) qa_nil))))) (qss_one (qs_ret qe_bl)))) (fun _ _ => (qss_one qs_pass))) (qss_cons (qs_try (tbl := [("NoMarked", false), ("NoTelling", false), ("NoTrack", true), ("NoTracks", false), ("NoTree", false)]) rfl rfl tk X.e_NoTrack (exm_cons X.m_NoMarked_NoTrack (exm_cons X.m_NoTelling_NoTrack (exm_cons X.m_NoTrack_NoTrack (exm_cons X.m_NoTracks_NoTrack (exm_cons X.m_NoTree_NoTrack exm_nil))))) (exg_cons X.e_NoMarked.g (exg_cons X.e_NoTelling.g (exg_cons X.e_NoTrack.g (exg_cons X.e_NoTracks.g (exg_cons X.e_NoTree.g exg_nil))))) (fun _ _ _ tkT hpT => (qss_cons (qs_expr (qe_callO (io := none) O_without hr tkT (qa_cons (qe_name 1) (qa_cons (qe_callO (io := none) O_marked hr tkT (qa_cons (qe_name 1) (qa_cons (qe_name 2) (qa_cons (qe_name 3) qa_nil)))) (qa_cons (qe_cb call_lenA ok_len X.fr_len boot_len (qa_cons (qe_name 1) qa_nil)) qa_nil))))) (qss_one (qs_ret qe_bl)))) (fun _ _ => (qss_one qs_pass))) (qss_cons (qs_set (i := 4) hN (qe_callO (io := (some 0)) O__law_some hr tk (qa_cons (qe_name 0) (qa_cons (qe_lst (qa_cons (qe_tup (qa_cons qe_str (qa_cons qe_str qa_nil))) (qa_cons (qe_tup (qa_cons qe_str (qa_cons qe_str qa_nil))) (qa_cons (qe_tup (qa_cons qe_str (qa_cons qe_str qa_nil))) (qa_cons (qe_lst (qa_cons qe_str qa_nil)) (qa_cons (qe_tup (qa_cons qe_str qa_nil)) (qa_cons (qe_tup (qa_cons qe_str (qa_cons qe_str (qa_cons qe_str (qa_cons qe_str qa_nil))))) (qa_cons qe_str qa_nil)))))))) qa_nil)))) (qss_cons (qs_try (tbl := [("NoTracks", true)]) rfl rfl tk X.e_NoTracks (exm_cons X.m_NoTracks_NoTracks exm_nil) (exg_cons X.e_NoTracks.g exg_nil) (fun _ _ _ tkT hpT => (qss_one (qs_expr (qe_callO (io := none) O_symbols_many hr tkT (qa_cons (qe_name 4) qa_nil))))) (fun _ _ => (qss_one (qs_ret qe_bl)))) (qss_one (qs_ret qe_bl))))))
theorem ok__law_tracks (X : Txt K mg T base) : Ok P w K mg base T 3 "_law_tracks" p__law_tracks F__law_tracks :=
  ok_mk X.d__law_tracks sc__law_tracks (fun _ _ _ _ _ _ us h => match us, h with | [_], _ => rfl) fun cdv A outer s H E hr => by
    have O__law_some := (ok__law_some (P := P) (w := w) X).le (show 2 ≤ 2 by decide)
    have hu := hr.units
    have hu1 : _ + 1 < cLine := Nat.lt_of_le_of_lt (Nat.add_le_add_left (by decide : 1 ≤ 64) _) hu
    have hN := sc__law_tracks.nd
    have tk : Takes (cxOf (L2.CX P w) P w K mg base N__law_tracks "_law_tracks" (defScope s__law_tracks) (He.ga K "_law_tracks") cdv A outer s H E) (fun cls d _ H => E cls d H) := takes_of rfl rfl rfl rfl
    have hp : PassesOwn (model P w) (cxOf (L2.CX P w) P w K mg base N__law_tracks "_law_tracks" (defScope s__law_tracks) (He.ga K "_law_tracks") cdv A outer s H E).A (cxOf (L2.CX P w) P w K mg base N__law_tracks "_law_tracks" (defScope s__law_tracks) (He.ga K "_law_tracks") cdv A outer s H E).env (cxOf (L2.CX P w) P w K mg base N__law_tracks "_law_tracks" (defScope s__law_tracks) (He.ga K "_law_tracks") cdv A outer s H E).xe := passes_of rfl
    exact (qss_cons (qs_set (i := 1) hN (qe_lst (qa_cons (qe_tup qa_nil) (qa_cons (qe_tup (qa_cons qe_str qa_nil)) (qa_cons (qe_tup (qa_cons qe_str qa_nil)) (qa_cons (qe_tup (qa_cons qe_str (qa_cons qe_str qa_nil))) (qa_cons (qe_tup (qa_cons qe_str (qa_cons qe_str qa_nil))) (qa_cons (qe_tup (qa_cons qe_str (qa_cons qe_str qa_nil))) qa_nil)))))))) (qss_one (qs_ret (qe_callO (io := (some 0)) O__law_some hr tk (qa_cons (qe_name 0) (qa_cons (qe_op op_addA ok_add (qe_name 1) (qe_lst (qa_cons (qe_tup (qa_cons qe_str (qa_cons qe_str (qa_cons qe_str qa_nil)))) (qa_cons (qe_tup (qa_cons qe_str (qa_cons qe_str (qa_cons qe_str qa_nil)))) (qa_cons (qe_tup (qa_cons qe_str (qa_cons qe_str (qa_cons qe_str qa_nil)))) qa_nil))))) qa_nil))))))
theorem okr__law_places (X : Txt K mg T base) : ∀ n : Nat, Ok P w K mg base T (22 + n) "_law_places" p__law_places (r__law_places n)
  | 0 => ok_mk X.d__law_places sc__law_places (fun _ _ _ _ _ _ us h => match us, h with | [_], _ => rfl) fun cdv A outer s H E hr => qss_bad
  | n + 1 => ok_mk X.d__law_places sc__law_places (fun _ _ _ _ _ _ us h => match us, h with | [_], _ => rfl) fun cdv A outer s H E hr => by
    have O__law_places := okr__law_places X n
    have O__law_many := (ok__law_many (P := P) (w := w) X).le (show 21 ≤ 22 + n by omega)
    have hu := hr.units
    have hu1 : _ + 1 < cLine := Nat.lt_of_le_of_lt (Nat.add_le_add_left (by decide : 1 ≤ 64) _) hu
    have hN := sc__law_places.nd
    have tk : Takes (cxOf (L2.CX P w) P w K mg base N__law_places "_law_places" (defScope s__law_places) (He.ga K "_law_places") cdv A outer s H E) (fun cls d _ H => E cls d H) := takes_of rfl rfl rfl rfl
    have hp : PassesOwn (model P w) (cxOf (L2.CX P w) P w K mg base N__law_places "_law_places" (defScope s__law_places) (He.ga K "_law_places") cdv A outer s H E).A (cxOf (L2.CX P w) P w K mg base N__law_places "_law_places" (defScope s__law_places) (He.ga K "_law_places") cdv A outer s H E).env (cxOf (L2.CX P w) P w K mg base N__law_places "_law_places" (defScope s__law_places) (He.ga K "_law_places") cdv A outer s H E).xe := passes_of rfl
    exact (qss_cons (qs_if (qt_cmp (op_eqA hu) ok_eq (qe_name 0) (qe_tup qa_nil) (by rfl)) (qss_one (qs_ret (qe_lst qa_nil))) qss_nil) (qss_cons (qs_par2 (i := 2) (j := 3) rfl hN (qn_cons (qe_callO (io := none) O__law_many hr tk (qa_cons (qe_ixA hu1 (qe_name 0) qe_int) qa_nil)) (qn_cons (qe_callO (io := none) O__law_many hr tk (qa_cons (qe_ixA hu1 (qe_name 0) qe_int) qa_nil)) qn_nil))) (qss_cons (qs_set (i := 1) hN (qe_lst (qa_cons (qe_tup (qa_cons (qe_ixA hu1 (qe_name 0) qe_int) (qa_cons (qe_if (qt_cmp op_gtO (ok_ord _ _) (qe_name 2) qe_int (by rfl)) qe_int qe_non) (qa_cons (qe_if (qt_cmp op_gtO (ok_ord _ _) (qe_name 3) qe_int (by rfl)) (qe_op op_addA ok_add qe_int (qe_name 2)) qe_non) (qa_cons (qe_op op_addA ok_add (qe_op op_addA ok_add qe_int (qe_name 2)) (qe_name 3)) qa_nil))))) qa_nil))) (qss_cons (qs_for hp rfl (qi_items (qe_lst (qa_cons (qe_tup (qa_cons (qe_ixA hu1 (qe_name 0) qe_int) (qa_cons qe_int qa_nil))) (qa_cons (qe_tup (qa_cons (qe_ixA hu1 (qe_name 0) qe_int) (qa_cons (qe_op op_addA ok_add qe_int (qe_name 2)) qa_nil))) qa_nil)))) (qg_tup (n := 2) rfl (qgs_cons (qg_name (i := 4) hN) (qgs_cons (qg_name (i := 5) hN) qgs_nil))) (qss_one (qs_for hp rfl (qi_items (qe_callO (io := none) O__law_places hr tk (qa_cons (qe_name 4) qa_nil))) (qg_tup (n := 4) rfl (qgs_cons (qg_name (i := 6) hN) (qgs_cons (qg_name (i := 7) hN) (qgs_cons (qg_name (i := 8) hN) (qgs_cons (qg_name (i := 9) hN) qgs_nil))))) (qss_cons (qs_set (i := 7) hN (qe_if (qt_cmp op_is (ok_is false) (qe_name 7) qe_non (by rfl)) qe_non (qe_op op_addA ok_add (qe_name 7) (qe_name 5)))) (qss_cons (qs_set (i := 8) hN (qe_if (qt_cmp op_is (ok_is false) (qe_name 8) qe_non (by rfl)) qe_non (qe_op op_addA ok_add (qe_name 8) (qe_name 5)))) (qss_one (qs_expr (qe_mut (i := 1) PySem.F.slot_list_append PySem.F.type_list_append mt_append mu_append (qa_cons (qe_tup (qa_cons (qe_name 6) (qa_cons (qe_name 7) (qa_cons (qe_name 8) (qa_cons (qe_op op_addA ok_add (qe_name 9) (qe_name 5)) qa_nil))))) qa_nil))))))))) (qss_one (qs_ret (qe_name 1)))))))
theorem ok__law_places (X : Txt K mg T base) : Ok P w K mg base T 42 "_law_places" p__law_places F__law_places := okr__law_places X RFUEL
theorem ok_symbols_of_tree (X : Txt K mg T base) : Ok P w K mg base T 8 "symbols_of_tree" p_symbols_of_tree F_symbols_of_tree :=
  ok_mk X.d_symbols_of_tree sc_symbols_of_tree (fun _ _ _ _ _ _ us h => match us, h with | [_, _], _ => rfl) fun cdv A outer s H E hr => by
    have O_check_marked := (ok_check_marked (P := P) (w := w) X).le (show 7 ≤ 7 by decide)
    have O_raw_symbols := (ok_raw_symbols (P := P) (w := w) X).le (show 2 ≤ 7 by decide)
    have hu := hr.units
    have hu1 : _ + 1 < cLine := Nat.lt_of_le_of_lt (Nat.add_le_add_left (by decide : 1 ≤ 64) _) hu
    have hN := sc_symbols_of_tree.nd
    have tk : Takes (cxOf (L2.CX P w) P w K mg base N_symbols_of_tree "symbols_of_tree" (defScope s_symbols_of_tree) (He.ga K "symbols_of_tree") cdv A outer s H E) (fun cls d _ H => E cls d H) := takes_of rfl rfl rfl rfl
    have hp : PassesOwn (model P w) (cxOf (L2.CX P w) P w K mg base N_symbols_of_tree "symbols_of_tree" (defScope s_symbols_of_tree) (He.ga K "symbols_of_tree") cdv A outer s H E).A (cxOf (L2.CX P w) P w K mg base N_symbols_of_tree "symbols_of_tree" (defScope s_symbols_of_tree) (He.ga K "symbols_of_tree") cdv A outer s H E).env (cxOf (L2.CX P w) P w K mg base N_symbols_of_tree "symbols_of_tree" (defScope s_symbols_of_tree) (He.ga K "symbols_of_tree") cdv A outer s H E).xe := passes_of rfl
    exact (qss_cons (qs_expr (qe_callO (io := none) O_check_marked hr tk (qa_cons (qe_name 0) (qa_cons (qe_name 1) qa_nil)))) (qss_one (qs_ret (qe_callO (io := none) O_raw_symbols hr tk (qa_cons (qe_name 1) qa_nil)))))
theorem ok__law_power (X : Txt K mg T base) : Ok P w K mg base T 1 "_law_power" p__law_power F__law_power :=
  ok_mk X.d__law_power sc__law_power (fun _ _ _ _ _ _ us h => match us, h with | [_], _ => rfl) fun cdv A outer s H E hr => by
    have hu := hr.units
    have hu1 : _ + 1 < cLine := Nat.lt_of_le_of_lt (Nat.add_le_add_left (by decide : 1 ≤ 64) _) hu
    have hN := sc__law_power.nd
    have tk : Takes (cxOf (L2.CX P w) P w K mg base N__law_power "_law_power" (defScope s__law_power) (He.ga K "_law_power") cdv A outer s H E) (fun cls d _ H => E cls d H) := takes_of rfl rfl rfl rfl
    have hp : PassesOwn (model P w) (cxOf (L2.CX P w) P w K mg base N__law_power "_law_power" (defScope s__law_power) (He.ga K "_law_power") cdv A outer s H E).A (cxOf (L2.CX P w) P w K mg base N__law_power "_law_power" (defScope s__law_power) (He.ga K "_law_power") cdv A outer s H E).env (cxOf (L2.CX P w) P w K mg base N__law_power "_law_power" (defScope s__law_power) (He.ga K "_law_power") cdv A outer s H E).xe := passes_of rfl
    exact (qss_cons (qs_set (i := 1) hN qe_int) (qss_cons (qs_for hp rfl (qi_range1 X.fr_range (qa_cons (qe_name 0) qa_nil)) (qg_name (i := 2) hN) (qss_one (qs_set (i := 1) hN (qe_op op_mul ok_mul (qe_name 1) qe_int)))) (qss_one (qs_ret (qe_name 1)))))
theorem ok__law_symbol (X : Txt K mg T base) : Ok P w K mg base T 2 "_law_symbol" p__law_symbol F__law_symbol :=
  ok_mk X.d__law_symbol sc__law_symbol (fun _ _ _ _ _ _ us h => match us, h with | [_, _, _, _], _ => rfl) fun cdv A outer s H E hr => by
    have O__law_power := (ok__law_power (P := P) (w := w) X).le (show 1 ≤ 1 by decide)
    have hu := hr.units
    have hu1 : _ + 1 < cLine := Nat.lt_of_le_of_lt (Nat.add_le_add_left (by decide : 1 ≤ 64) _) hu
    have hN := sc__law_symbol.nd
    have tk : Takes (cxOf (L2.CX P w) P w K mg base N__law_symbol "_law_symbol" (defScope s__law_symbol) (He.ga K "_law_symbol") cdv A outer s H E) (fun cls d _ H => E cls d H) := takes_of rfl rfl rfl rfl
    have hp : PassesOwn (model P w) (cxOf (L2.CX P w) P w K mg base N__law_symbol "_law_symbol" (defScope s__law_symbol) (He.ga K "_law_symbol") cdv A outer s H E).A (cxOf (L2.CX P w) P w K mg base N__law_symbol "_law_symbol" (defScope s__law_symbol) (He.ga K "_law_symbol") cdv A outer s H E).env (cxOf (L2.CX P w) P w K mg base N__law_symbol "_law_symbol" (defScope s__law_symbol) (He.ga K "_law_symbol") cdv A outer s H E).xe := passes_of rfl
    exact (qss_cons (qs_set (i := 4) hN (qe_if (qt_cmp (op_eqA hu) ok_eq (qe_name 0) qe_str (by rfl)) (qe_callO (io := none) O__law_power hr tk (qa_cons (qe_cb call_lenA ok_len X.fr_len boot_len (qa_cons (qe_name 2) qa_nil)) qa_nil)) qe_int)) (qss_cons (qs_for hp rfl (qi_enum X.fr_enumerate (qa_cons (qe_name 3) qa_nil)) (qg_tup (n := 2) rfl (qgs_cons (qg_name (i := 5) hN) (qgs_cons (qg_name (i := 6) hN) qgs_nil))) (qss_cons (qs_set (i := 7) hN (qe_if (qt_val (qe_cb call_isiA ok_isi X.fr_isinstance boot_isinstance (qa_cons (qe_name 6) (qa_cons (qe_ty (X.fr_tuple) boot_tuple) qa_nil)))) (qe_cmp (op_inA hu) ((ok_in false).or (ok_inDic false)) (qe_name 1) (qe_name 6) (by rfl)) (qe_cmp (op_eqA hu) ok_eq (qe_name 1) (qe_name 6) (by rfl)))) (qss_one (qs_set (i := 4) hN (qe_op op_addA ok_add (qe_name 4) (qe_if (qt_val (qe_name 7)) (qe_callO (io := none) O__law_power hr tk (qa_cons (qe_name 5) qa_nil)) qe_int)))))) (qss_one (qs_ret (qe_name 4)))))
theorem ok_bit_of (X : Txt K mg T base) : Ok P w K mg base T 2 "bit_of" p_bit_of F_bit_of :=
  ok_mk X.d_bit_of sc_bit_of (fun _ _ _ _ _ _ us h => match us, h with | [_, _], _ => rfl) fun cdv A outer s H E hr => by
    have O_power_of := (ok_power_of (P := P) (w := w) X).le (show 1 ≤ 1 by decide)
    have hu := hr.units
    have hu1 : _ + 1 < cLine := Nat.lt_of_le_of_lt (Nat.add_le_add_left (by decide : 1 ≤ 64) _) hu
    have hN := sc_bit_of.nd
    have tk : Takes (cxOf (L2.CX P w) P w K mg base N_bit_of "bit_of" (defScope s_bit_of) (He.ga K "bit_of") cdv A outer s H E) (fun cls d _ H => E cls d H) := takes_of rfl rfl rfl rfl
    have hp : PassesOwn (model P w) (cxOf (L2.CX P w) P w K mg base N_bit_of "bit_of" (defScope s_bit_of) (He.ga K "bit_of") cdv A outer s H E).A (cxOf (L2.CX P w) P w K mg base N_bit_of "bit_of" (defScope s_bit_of) (He.ga K "bit_of") cdv A outer s H E).env (cxOf (L2.CX P w) P w K mg base N_bit_of "bit_of" (defScope s_bit_of) (He.ga K "bit_of") cdv A outer s H E).xe := passes_of rfl
    exact (qss_cons (qs_set (i := 2) hN (qe_op op_fdiv ok_div (qe_name 0) (qe_callO (io := none) O_power_of hr tk (qa_cons qe_int (qa_cons (qe_name 1) qa_nil))))) (qss_one (qs_ret (qe_op op_sub ok_sub (qe_name 2) (qe_op op_mul ok_mul qe_int (qe_op op_fdiv ok_div (qe_name 2) qe_int))))))
theorem ok_places_on (X : Txt K mg T base) : Ok P w K mg base T 3 "places_on" p_places_on F_places_on :=
  ok_mk X.d_places_on sc_places_on (fun _ _ _ _ _ _ us h => match us, h with | [_, _], _ => rfl) fun cdv A outer s H E hr => by
    have O_bit_of := (ok_bit_of (P := P) (w := w) X).le (show 2 ≤ 2 by decide)
    have hu := hr.units
    have hu1 : _ + 1 < cLine := Nat.lt_of_le_of_lt (Nat.add_le_add_left (by decide : 1 ≤ 64) _) hu
    have hN := sc_places_on.nd
    have tk : Takes (cxOf (L2.CX P w) P w K mg base N_places_on "places_on" (defScope s_places_on) (He.ga K "places_on") cdv A outer s H E) (fun cls d _ H => E cls d H) := takes_of rfl rfl rfl rfl
    have hp : PassesOwn (model P w) (cxOf (L2.CX P w) P w K mg base N_places_on "places_on" (defScope s_places_on) (He.ga K "places_on") cdv A outer s H E).A (cxOf (L2.CX P w) P w K mg base N_places_on "places_on" (defScope s_places_on) (He.ga K "places_on") cdv A outer s H E).env (cxOf (L2.CX P w) P w K mg base N_places_on "places_on" (defScope s_places_on) (He.ga K "places_on") cdv A outer s H E).xe := passes_of rfl
    exact (qss_one (qs_ret (qe_cty call_tuple_of ok_tuple X.fr_tuple boot_tuple (qa_cons (qe_lc (own := [("place", 2), ("symbol", 3)]) rfl hN (qi_enum X.fr_enumerate (qa_cons (qe_name 0) qa_nil)) (show BlkOk N_places_on (defScope s_places_on) _ _ from blkOk_by (by decide +kernel)) (fun _ _ _ _ _ => (qg_tup (n := 2) rfl (qgs_cons (qg_name (i := 2) hN) (qgs_cons (qg_name (i := 3) hN) qgs_nil)))) (fun _ _ _ _ _ => (qts_one (qt_cmp (op_eqA hu) ok_eq (qe_callO (io := none) O_bit_of hr takes_blk (qa_cons (qe_name 3) (qa_cons (qe_name 1) qa_nil))) qe_int (by rfl)))) (fun _ _ _ _ _ => (qe_name 2))) qa_nil))))
theorem ok_raw_is_right (X : Txt K mg T base) : Ok P w K mg base T 4 "raw_is_right" p_raw_is_right F_raw_is_right :=
  ok_mk X.d_raw_is_right sc_raw_is_right (fun _ _ _ _ _ _ us h => match us, h with | [_, _], _ => rfl) fun cdv A outer s H E hr => by
    have O_is_lot_name := (ok_is_lot_name (P := P) (w := w) X).le (show 1 ≤ 3 by decide)
    have O_places_on := (ok_places_on (P := P) (w := w) X).le (show 3 ≤ 3 by decide)
    have hu := hr.units
    have hu1 : _ + 1 < cLine := Nat.lt_of_le_of_lt (Nat.add_le_add_left (by decide : 1 ≤ 64) _) hu
    have hN := sc_raw_is_right.nd
    have tk : Takes (cxOf (L2.CX P w) P w K mg base N_raw_is_right "raw_is_right" (defScope s_raw_is_right) (He.ga K "raw_is_right") cdv A outer s H E) (fun cls d _ H => E cls d H) := takes_of rfl rfl rfl rfl
    have hp : PassesOwn (model P w) (cxOf (L2.CX P w) P w K mg base N_raw_is_right "raw_is_right" (defScope s_raw_is_right) (He.ga K "raw_is_right") cdv A outer s H E).A (cxOf (L2.CX P w) P w K mg base N_raw_is_right "raw_is_right" (defScope s_raw_is_right) (He.ga K "raw_is_right") cdv A outer s H E).env (cxOf (L2.CX P w) P w K mg base N_raw_is_right "raw_is_right" (defScope s_raw_is_right) (He.ga K "raw_is_right") cdv A outer s H E).xe := passes_of rfl
    exact (qss_one (qs_ret (qe_cb (cr_all rfl) ok_all X.fr_all boot_all (qa_cons (qe_lc (own := [("at", 2), ("name", 3)]) rfl hN (qi_enum X.fr_enumerate (qa_cons (qe_name 0) qa_nil)) (show BlkOk N_raw_is_right (defScope s_raw_is_right) _ _ from blkOk_by (by decide +kernel)) (fun _ _ _ _ _ => (qg_tup (n := 2) rfl (qgs_cons (qg_name (i := 2) hN) (qgs_cons (qg_name (i := 3) hN) qgs_nil)))) (fun _ _ _ _ _ => qts_nil) (fun _ _ _ _ _ => (qe_or (qe_callO (io := none) O_is_lot_name hr takes_blk (qa_cons (qe_name 3) qa_nil)) (qe_one (qe_cmp (op_eqA hu) ok_eq (qe_cb call_lenA ok_len X.fr_len boot_len (qa_cons (qe_callO (io := none) O_places_on hr takes_blk (qa_cons (qe_name 1) (qa_cons (qe_name 2) qa_nil))) qa_nil)) qe_int (by rfl)))))) qa_nil))))
theorem ok_is_right (X : Txt K mg T base) : Ok P w K mg base T 8 "is_right" p_is_right F_is_right :=
  ok_mk X.d_is_right sc_is_right (fun _ _ _ _ _ _ us h => match us, h with | [_, _], _ => rfl) fun cdv A outer s H E hr => by
    have O_check_marked := (ok_check_marked (P := P) (w := w) X).le (show 7 ≤ 7 by decide)
    have O_raw_is_right := (ok_raw_is_right (P := P) (w := w) X).le (show 4 ≤ 7 by decide)
    have O_raw_symbols := (ok_raw_symbols (P := P) (w := w) X).le (show 2 ≤ 7 by decide)
    have hu := hr.units
    have hu1 : _ + 1 < cLine := Nat.lt_of_le_of_lt (Nat.add_le_add_left (by decide : 1 ≤ 64) _) hu
    have hN := sc_is_right.nd
    have tk : Takes (cxOf (L2.CX P w) P w K mg base N_is_right "is_right" (defScope s_is_right) (He.ga K "is_right") cdv A outer s H E) (fun cls d _ H => E cls d H) := takes_of rfl rfl rfl rfl
    have hp : PassesOwn (model P w) (cxOf (L2.CX P w) P w K mg base N_is_right "is_right" (defScope s_is_right) (He.ga K "is_right") cdv A outer s H E).A (cxOf (L2.CX P w) P w K mg base N_is_right "is_right" (defScope s_is_right) (He.ga K "is_right") cdv A outer s H E).env (cxOf (L2.CX P w) P w K mg base N_is_right "is_right" (defScope s_is_right) (He.ga K "is_right") cdv A outer s H E).xe := passes_of rfl
    exact (qss_cons (qs_expr (qe_callO (io := none) O_check_marked hr tk (qa_cons (qe_name 0) (qa_cons (qe_name 1) qa_nil)))) (qss_one (qs_ret (qe_callO (io := none) O_raw_is_right hr tk (qa_cons (qe_name 0) (qa_cons (qe_callO (io := none) O_raw_symbols hr tk (qa_cons (qe_name 1) qa_nil)) qa_nil))))))
theorem ok_letter_of (X : Txt K mg T base) : Ok P w K mg base T 3 "letter_of" p_letter_of F_letter_of :=
  ok_mk X.d_letter_of sc_letter_of (fun _ _ _ _ _ _ us h => match us, h with | [_, _], _ => rfl) fun cdv A outer s H E hr => by
    have O_bit_of := (ok_bit_of (P := P) (w := w) X).le (show 2 ≤ 2 by decide)
    have hu := hr.units
    have hu1 : _ + 1 < cLine := Nat.lt_of_le_of_lt (Nat.add_le_add_left (by decide : 1 ≤ 64) _) hu
    have hN := sc_letter_of.nd
    have tk : Takes (cxOf (L2.CX P w) P w K mg base N_letter_of "letter_of" (defScope s_letter_of) (He.ga K "letter_of") cdv A outer s H E) (fun cls d _ H => E cls d H) := takes_of rfl rfl rfl rfl
    have hp : PassesOwn (model P w) (cxOf (L2.CX P w) P w K mg base N_letter_of "letter_of" (defScope s_letter_of) (He.ga K "letter_of") cdv A outer s H E).A (cxOf (L2.CX P w) P w K mg base N_letter_of "letter_of" (defScope s_letter_of) (He.ga K "letter_of") cdv A outer s H E).env (cxOf (L2.CX P w) P w K mg base N_letter_of "letter_of" (defScope s_letter_of) (He.ga K "letter_of") cdv A outer s H E).xe := passes_of rfl
    exact (qss_one (qs_ret (qe_ixA hu1 (qe_glob X.c_LETTERS) (qe_callO (io := none) O_bit_of hr tk (qa_cons (qe_name 0) (qa_cons (qe_name 1) qa_nil))))))
theorem ok_raw_tree (X : Txt K mg T base) : Ok P w K mg base T 4 "raw_tree" p_raw_tree F_raw_tree :=
  ok_mk X.d_raw_tree sc_raw_tree (fun _ _ _ _ _ _ us h => match us, h with | [_, _], _ => rfl) fun cdv A outer s H E hr => by
    have O_letter_of := (ok_letter_of (P := P) (w := w) X).le (show 3 ≤ 3 by decide)
    have O_raw_symbols := (ok_raw_symbols (P := P) (w := w) X).le (show 2 ≤ 3 by decide)
    have O_with_signs := (ok_with_signs (P := P) (w := w) X).le (show 2 ≤ 3 by decide)
    have hu := hr.units
    have hu1 : _ + 1 < cLine := Nat.lt_of_le_of_lt (Nat.add_le_add_left (by decide : 1 ≤ 64) _) hu
    have hN := sc_raw_tree.nd
    have tk : Takes (cxOf (L2.CX P w) P w K mg base N_raw_tree "raw_tree" (defScope s_raw_tree) (He.ga K "raw_tree") cdv A outer s H E) (fun cls d _ H => E cls d H) := takes_of rfl rfl rfl rfl
    have hp : PassesOwn (model P w) (cxOf (L2.CX P w) P w K mg base N_raw_tree "raw_tree" (defScope s_raw_tree) (He.ga K "raw_tree") cdv A outer s H E).A (cxOf (L2.CX P w) P w K mg base N_raw_tree "raw_tree" (defScope s_raw_tree) (He.ga K "raw_tree") cdv A outer s H E).env (cxOf (L2.CX P w) P w K mg base N_raw_tree "raw_tree" (defScope s_raw_tree) (He.ga K "raw_tree") cdv A outer s H E).xe := passes_of rfl
    exact (qss_one (qs_ret (qe_callO (io := none) O_with_signs hr tk (qa_cons (qe_name 1) (qa_cons (qe_lc (own := [("symbol", 2)]) rfl hN (qi_items (qe_callO (io := none) O_raw_symbols hr tk (qa_cons (qe_name 1) qa_nil))) (show BlkOk N_raw_tree (defScope s_raw_tree) _ _ from blkOk_by (by decide +kernel)) (fun _ _ _ _ _ => (qg_name (i := 2) hN)) (fun _ _ _ _ _ => qts_nil) (fun _ _ _ _ _ => (qe_callO (io := none) O_letter_of hr takes_blk (qa_cons (qe_name 2) (qa_cons (qe_name 0) qa_nil))))) qa_nil)))))
theorem ok_tree_of (X : Txt K mg T base) : Ok P w K mg base T 8 "tree_of" p_tree_of F_tree_of :=
  ok_mk X.d_tree_of sc_tree_of (fun _ _ _ _ _ _ us h => match us, h with | [_, _], _ => rfl) fun cdv A outer s H E hr => by
    have O_check_marked := (ok_check_marked (P := P) (w := w) X).le (show 7 ≤ 7 by decide)
    have O_raw_is_right := (ok_raw_is_right (P := P) (w := w) X).le (show 4 ≤ 7 by decide)
    have O_raw_symbols := (ok_raw_symbols (P := P) (w := w) X).le (show 2 ≤ 7 by decide)
    have O_raw_tree := (ok_raw_tree (P := P) (w := w) X).le (show 4 ≤ 7 by decide)
    have hu := hr.units
    have hu1 : _ + 1 < cLine := Nat.lt_of_le_of_lt (Nat.add_le_add_left (by decide : 1 ≤ 64) _) hu
    have hN := sc_tree_of.nd
    have tk : Takes (cxOf (L2.CX P w) P w K mg base N_tree_of "tree_of" (defScope s_tree_of) (He.ga K "tree_of") cdv A outer s H E) (fun cls d _ H => E cls d H) := takes_of rfl rfl rfl rfl
    have hp : PassesOwn (model P w) (cxOf (L2.CX P w) P w K mg base N_tree_of "tree_of" (defScope s_tree_of) (He.ga K "tree_of") cdv A outer s H E).A (cxOf (L2.CX P w) P w K mg base N_tree_of "tree_of" (defScope s_tree_of) (He.ga K "tree_of") cdv A outer s H E).env (cxOf (L2.CX P w) P w K mg base N_tree_of "tree_of" (defScope s_tree_of) (He.ga K "tree_of") cdv A outer s H E).xe := passes_of rfl
    exact (qss_cons (qs_expr (qe_callO (io := none) O_check_marked hr tk (qa_cons (qe_name 0) (qa_cons (qe_name 1) qa_nil)))) (qss_cons (qs_if (qt_not (qt_val (qe_callO (io := none) O_raw_is_right hr tk (qa_cons (qe_name 0) (qa_cons (qe_callO (io := none) O_raw_symbols hr tk (qa_cons (qe_name 1) qa_nil)) qa_nil))))) (qss_one (qs_raise rfl tk X.e_NoMarked)) qss_nil) (qss_one (qs_ret (qe_callO (io := none) O_raw_tree hr tk (qa_cons (qe_cb call_lenA ok_len X.fr_len boot_len (qa_cons (qe_name 0) qa_nil)) (qa_cons (qe_name 1) qa_nil)))))))
theorem ok_raw_telling (X : Txt K mg T base) : Ok P w K mg base T 4 "raw_telling" p_raw_telling F_raw_telling :=
  ok_mk X.d_raw_telling sc_raw_telling (fun _ _ _ _ _ _ us h => match us, h with | [_, _], _ => rfl) fun cdv A outer s H E hr => by
    have O_is_lot_name := (ok_is_lot_name (P := P) (w := w) X).le (show 1 ≤ 3 by decide)
    have O_places_on := (ok_places_on (P := P) (w := w) X).le (show 3 ≤ 3 by decide)
    have hu := hr.units
    have hu1 : _ + 1 < cLine := Nat.lt_of_le_of_lt (Nat.add_le_add_left (by decide : 1 ≤ 64) _) hu
    have hN := sc_raw_telling.nd
    have tk : Takes (cxOf (L2.CX P w) P w K mg base N_raw_telling "raw_telling" (defScope s_raw_telling) (He.ga K "raw_telling") cdv A outer s H E) (fun cls d _ H => E cls d H) := takes_of rfl rfl rfl rfl
    have hp : PassesOwn (model P w) (cxOf (L2.CX P w) P w K mg base N_raw_telling "raw_telling" (defScope s_raw_telling) (He.ga K "raw_telling") cdv A outer s H E).A (cxOf (L2.CX P w) P w K mg base N_raw_telling "raw_telling" (defScope s_raw_telling) (He.ga K "raw_telling") cdv A outer s H E).env (cxOf (L2.CX P w) P w K mg base N_raw_telling "raw_telling" (defScope s_raw_telling) (He.ga K "raw_telling") cdv A outer s H E).xe := passes_of rfl
    exact (qss_cons (qs_setLc (i := 2) (own := [("at", 3)]) rfl hN (qi_range1 X.fr_range (qa_cons (qe_cb call_lenA ok_len X.fr_len boot_len (qa_cons (qe_name 0) qa_nil)) qa_nil)) (show BlkOk N_raw_telling (defScope s_raw_telling) _ _ from blkOk_by (by decide +kernel)) (fun _ _ _ _ _ => (qg_name (i := 3) hN)) (fun _ _ _ _ _ => qts_nil) (fun _ _ _ _ _ => (qe_callO (io := none) O_places_on hr takes_blk (qa_cons (qe_name 1) (qa_cons (qe_name 3) qa_nil))))) (qss_one (qs_ret (qe_cty call_tuple_of ok_tuple X.fr_tuple boot_tuple (qa_cons (qe_lc (own := [("name", 4), ("lot", 5)]) rfl hN (qi_zip X.fr_zip (qa_cons (qe_name 0) (qa_cons (qe_name 2) qa_nil))) (show BlkOk N_raw_telling (defScope s_raw_telling) _ _ from blkOk_by (by decide +kernel)) (fun _ _ _ _ _ => (qg_tup (n := 2) rfl (qgs_cons (qg_name (i := 4) hN) (qgs_cons (qg_name (i := 5) hN) qgs_nil)))) (fun _ _ _ _ _ => qts_nil) (fun _ _ _ _ _ => (qe_if (qt_val (qe_callO (io := none) O_is_lot_name hr takes_blk (qa_cons (qe_name 4) qa_nil))) (qe_name 5) (qe_ixA hu1 (qe_name 5) qe_int)))) qa_nil)))))
theorem ok_telling_of (X : Txt K mg T base) : Ok P w K mg base T 8 "telling_of" p_telling_of F_telling_of :=
  ok_mk X.d_telling_of sc_telling_of (fun _ _ _ _ _ _ us h => match us, h with | [_, _], _ => rfl) fun cdv A outer s H E hr => by
    have O_check_marked := (ok_check_marked (P := P) (w := w) X).le (show 7 ≤ 7 by decide)
    have O_raw_is_right := (ok_raw_is_right (P := P) (w := w) X).le (show 4 ≤ 7 by decide)
    have O_raw_symbols := (ok_raw_symbols (P := P) (w := w) X).le (show 2 ≤ 7 by decide)
    have O_raw_telling := (ok_raw_telling (P := P) (w := w) X).le (show 4 ≤ 7 by decide)
    have hu := hr.units
    have hu1 : _ + 1 < cLine := Nat.lt_of_le_of_lt (Nat.add_le_add_left (by decide : 1 ≤ 64) _) hu
    have hN := sc_telling_of.nd
    have tk : Takes (cxOf (L2.CX P w) P w K mg base N_telling_of "telling_of" (defScope s_telling_of) (He.ga K "telling_of") cdv A outer s H E) (fun cls d _ H => E cls d H) := takes_of rfl rfl rfl rfl
    have hp : PassesOwn (model P w) (cxOf (L2.CX P w) P w K mg base N_telling_of "telling_of" (defScope s_telling_of) (He.ga K "telling_of") cdv A outer s H E).A (cxOf (L2.CX P w) P w K mg base N_telling_of "telling_of" (defScope s_telling_of) (He.ga K "telling_of") cdv A outer s H E).env (cxOf (L2.CX P w) P w K mg base N_telling_of "telling_of" (defScope s_telling_of) (He.ga K "telling_of") cdv A outer s H E).xe := passes_of rfl
    exact (qss_cons (qs_expr (qe_callO (io := none) O_check_marked hr tk (qa_cons (qe_name 0) (qa_cons (qe_name 1) qa_nil)))) (qss_cons (qs_if (qt_not (qt_val (qe_callO (io := none) O_raw_is_right hr tk (qa_cons (qe_name 0) (qa_cons (qe_callO (io := none) O_raw_symbols hr tk (qa_cons (qe_name 1) qa_nil)) qa_nil))))) (qss_one (qs_raise rfl tk X.e_NoMarked)) qss_nil) (qss_one (qs_ret (qe_callO (io := none) O_raw_telling hr tk (qa_cons (qe_name 0) (qa_cons (qe_callO (io := none) O_raw_symbols hr tk (qa_cons (qe_name 1) qa_nil)) qa_nil)))))))
theorem ok__law_raises (X : Txt K mg T base) : Ok P w K mg base T 9 "_law_raises" p__law_raises F__law_raises :=
  ok_mk X.d__law_raises sc__law_raises (fun _ _ _ _ _ _ us h => match us, h with | [_, _], _ => rfl) fun cdv A outer s H E hr => by
    have O_tree_of := (ok_tree_of (P := P) (w := w) X).le (show 8 ≤ 8 by decide)
    have hu := hr.units
    have hu1 : _ + 1 < cLine := Nat.lt_of_le_of_lt (Nat.add_le_add_left (by decide : 1 ≤ 64) _) hu
    have hN := sc__law_raises.nd
    have tk : Takes (cxOf (L2.CX P w) P w K mg base N__law_raises "_law_raises" (defScope s__law_raises) (He.ga K "_law_raises") cdv A outer s H E) (fun cls d _ H => E cls d H) := takes_of rfl rfl rfl rfl
    have hp : PassesOwn (model P w) (cxOf (L2.CX P w) P w K mg base N__law_raises "_law_raises" (defScope s__law_raises) (He.ga K "_law_raises") cdv A outer s H E).A (cxOf (L2.CX P w) P w K mg base N__law_raises "_law_raises" (defScope s__law_raises) (He.ga K "_law_raises") cdv A outer s H E).env (cxOf (L2.CX P w) P w K mg base N__law_raises "_law_raises" (defScope s__law_raises) (He.ga K "_law_raises") cdv A outer s H E).xe := passes_of rfl
    exact (qss_cons (qs_try (tbl := [("NoMarked", true), ("NoTracks", false)]) rfl rfl tk X.e_NoMarked (exm_cons X.m_NoMarked_NoMarked (exm_cons X.m_NoTracks_NoMarked exm_nil)) (exg_cons X.e_NoMarked.g (exg_cons X.e_NoTracks.g exg_nil)) (fun _ _ _ tkT hpT => (qss_one (qs_expr (qe_callO (io := none) O_tree_of hr tkT (qa_cons (qe_name 0) (qa_cons (qe_name 1) qa_nil)))))) (fun _ _ => (qss_one (qs_ret qe_bl)))) (qss_one (qs_ret qe_bl)))
theorem okr__law_is (X : Txt K mg T base) : ∀ n : Nat, Ok P w K mg base T (1 + n) "_law_is" p__law_is (r__law_is n)
  | 0 => ok_mk X.d__law_is sc__law_is (fun _ _ _ _ _ _ us h => match us, h with | [_, _], _ => rfl) fun cdv A outer s H E hr => qss_bad
  | n + 1 => ok_mk X.d__law_is sc__law_is (fun _ _ _ _ _ _ us h => match us, h with | [_, _], _ => rfl) fun cdv A outer s H E hr => by
    have O__law_is := okr__law_is X n
    have hu := hr.units
    have hu1 : _ + 1 < cLine := Nat.lt_of_le_of_lt (Nat.add_le_add_left (by decide : 1 ≤ 64) _) hu
    have hN := sc__law_is.nd
    have tk : Takes (cxOf (L2.CX P w) P w K mg base N__law_is "_law_is" (defScope s__law_is) (He.ga K "_law_is") cdv A outer s H E) (fun cls d _ H => E cls d H) := takes_of rfl rfl rfl rfl
    have hp : PassesOwn (model P w) (cxOf (L2.CX P w) P w K mg base N__law_is "_law_is" (defScope s__law_is) (He.ga K "_law_is") cdv A outer s H E).A (cxOf (L2.CX P w) P w K mg base N__law_is "_law_is" (defScope s__law_is) (He.ga K "_law_is") cdv A outer s H E).env (cxOf (L2.CX P w) P w K mg base N__law_is "_law_is" (defScope s__law_is) (He.ga K "_law_is") cdv A outer s H E).xe := passes_of rfl
    exact (qss_cons (qs_if (qt_val (qe_cb call_isiA ok_isi X.fr_isinstance boot_isinstance (qa_cons (qe_name 1) (qa_cons (qe_tup (qa_cons (qe_ty (X.fr_tuple) boot_tuple) (qa_cons (qe_ty (X.fr_list) boot_list) qa_nil))) qa_nil)))) (qss_cons (qs_if (qt_w (qw_or (qt_cmp (op_neA hu) ok_ne (qe_cb call_isiA ok_isi X.fr_isinstance boot_isinstance (qa_cons (qe_name 0) (qa_cons (qe_ty (X.fr_tuple) boot_tuple) qa_nil))) (qe_cb call_isiA ok_isi X.fr_isinstance boot_isinstance (qa_cons (qe_name 1) (qa_cons (qe_ty (X.fr_tuple) boot_tuple) qa_nil))) (by rfl)) (qw_or1 (qt_cmp (op_neA hu) ok_ne (qe_cb call_isiA ok_isi X.fr_isinstance boot_isinstance (qa_cons (qe_name 0) (qa_cons (qe_ty (X.fr_list) boot_list) qa_nil))) (qe_cb call_isiA ok_isi X.fr_isinstance boot_isinstance (qa_cons (qe_name 1) (qa_cons (qe_ty (X.fr_list) boot_list) qa_nil))) (by rfl))))) (qss_one (qs_ret qe_bl)) qss_nil) (qss_one (qs_ret (qe_and (qe_cmp (op_eqA hu) ok_eq (qe_cb call_lenA ok_len X.fr_len boot_len (qa_cons (qe_name 0) qa_nil)) (qe_cb call_lenA ok_len X.fr_len boot_len (qa_cons (qe_name 1) qa_nil)) (by rfl)) (qe_one (qe_cb (cr_all rfl) ok_all X.fr_all boot_all (qa_cons (qe_lc (own := [("one", 2), ("other", 3)]) rfl hN (qi_zip X.fr_zip (qa_cons (qe_name 0) (qa_cons (qe_name 1) qa_nil))) (show BlkOk N__law_is (defScope s__law_is) _ _ from blkOk_by (by decide +kernel)) (fun _ _ _ _ _ => (qg_tup (n := 2) rfl (qgs_cons (qg_name (i := 2) hN) (qgs_cons (qg_name (i := 3) hN) qgs_nil)))) (fun _ _ _ _ _ => qts_nil) (fun _ _ _ _ _ => (qe_callO (io := none) O__law_is hr takes_blk (qa_cons (qe_name 2) (qa_cons (qe_name 3) qa_nil))))) qa_nil))))))) qss_nil) (qss_cons (qs_if (qt_w (qw_or (qt_cmp op_is (ok_is false) (qe_name 1) qe_non (by rfl)) (qw_or1 (qt_cmp op_is (ok_is false) (qe_name 0) qe_non (by rfl))))) (qss_one (qs_ret (qe_and (qe_cmp op_is (ok_is false) (qe_name 1) qe_non (by rfl)) (qe_one (qe_cmp op_is (ok_is false) (qe_name 0) qe_non (by rfl)))))) qss_nil) (qss_cons (qs_if (qt_w (qw_or (qt_cmp (op_neA hu) ok_ne (qe_cb call_isiA ok_isi X.fr_isinstance boot_isinstance (qa_cons (qe_name 0) (qa_cons (qe_ty (X.fr_bool) boot_bool) qa_nil))) (qe_cb call_isiA ok_isi X.fr_isinstance boot_isinstance (qa_cons (qe_name 1) (qa_cons (qe_ty (X.fr_bool) boot_bool) qa_nil))) (by rfl)) (qw_or1 (qt_cmp (op_neA hu) ok_ne (qe_cb call_isiA ok_isi X.fr_isinstance boot_isinstance (qa_cons (qe_name 0) (qa_cons (qe_ty (X.fr_int) boot_int) qa_nil))) (qe_cb call_isiA ok_isi X.fr_isinstance boot_isinstance (qa_cons (qe_name 1) (qa_cons (qe_ty (X.fr_int) boot_int) qa_nil))) (by rfl))))) (qss_one (qs_ret qe_bl)) qss_nil) (qss_one (qs_ret (qe_and (qe_cmp (op_eqA hu) ok_eq (qe_cb call_isiA ok_isi X.fr_isinstance boot_isinstance (qa_cons (qe_name 0) (qa_cons (qe_ty (X.fr_str) boot_str) qa_nil))) (qe_cb call_isiA ok_isi X.fr_isinstance boot_isinstance (qa_cons (qe_name 1) (qa_cons (qe_ty (X.fr_str) boot_str) qa_nil))) (by rfl)) (qe_one (qe_cmp (op_eqA hu) ok_eq (qe_name 0) (qe_name 1) (by rfl)))))))))
theorem ok__law_is (X : Txt K mg T base) : Ok P w K mg base T 21 "_law_is" p__law_is F__law_is := okr__law_is X RFUEL
theorem ok__law_less (X : Txt K mg T base) : Ok P w K mg base T 2 "_law_less" p__law_less F__law_less :=
  ok_mk X.d__law_less sc__law_less (fun _ _ _ _ _ _ us h => match us, h with | [_, _], _ => rfl) fun cdv A outer s H E hr => by
    have O__law_power := (ok__law_power (P := P) (w := w) X).le (show 1 ≤ 1 by decide)
    have hu := hr.units
    have hu1 : _ + 1 < cLine := Nat.lt_of_le_of_lt (Nat.add_le_add_left (by decide : 1 ≤ 64) _) hu
    have hN := sc__law_less.nd
    have tk : Takes (cxOf (L2.CX P w) P w K mg base N__law_less "_law_less" (defScope s__law_less) (He.ga K "_law_less") cdv A outer s H E) (fun cls d _ H => E cls d H) := takes_of rfl rfl rfl rfl
    have hp : PassesOwn (model P w) (cxOf (L2.CX P w) P w K mg base N__law_less "_law_less" (defScope s__law_less) (He.ga K "_law_less") cdv A outer s H E).A (cxOf (L2.CX P w) P w K mg base N__law_less "_law_less" (defScope s__law_less) (He.ga K "_law_less") cdv A outer s H E).env (cxOf (L2.CX P w) P w K mg base N__law_less "_law_less" (defScope s__law_less) (He.ga K "_law_less") cdv A outer s H E).xe := passes_of rfl
    exact (qss_cons (qs_set (i := 2) hN (qe_callO (io := none) O__law_power hr tk (qa_cons (qe_name 1) qa_nil))) (qss_one (qs_ret (qe_op op_addA ok_add (qe_op op_mod ok_mod (qe_cty call_int1 ok_intOf X.fr_int boot_int (qa_cons (qe_name 0) qa_nil)) (qe_name 2)) (qe_op op_mul ok_mul (qe_name 2) (qe_op op_fdiv ok_div (qe_name 0) (qe_op op_mul ok_mul qe_int (qe_name 2))))))))
theorem ok_law (X : Txt K mg T base) : Ok P w K mg base T 43 "law" p_law (F_law K) :=
  ok_mk X.d_law sc_law (fun _ _ _ _ _ _ us h => match us, h with | [_], _ => rfl) fun cdv A outer s H E hr => by
    have O__law_draw := (ok__law_draw (P := P) (w := w) X).le (show 1 ≤ 42 by decide)
    have O__law_hand := (ok__law_hand (P := P) (w := w) X).le (show 1 ≤ 42 by decide)
    have O__law_is := (ok__law_is (P := P) (w := w) X).le (show 21 ≤ 42 by decide)
    have O__law_less := (ok__law_less (P := P) (w := w) X).le (show 2 ≤ 42 by decide)
    have O__law_places := (ok__law_places (P := P) (w := w) X).le (show 42 ≤ 42 by decide)
    have O__law_power := (ok__law_power (P := P) (w := w) X).le (show 1 ≤ 42 by decide)
    have O__law_put := (ok__law_put (P := P) (w := w) X).le (show 42 ≤ 42 by decide)
    have O__law_raises := (ok__law_raises (P := P) (w := w) X).le (show 9 ≤ 42 by decide)
    have O__law_refuses := (ok__law_refuses (P := P) (w := w) X).le (show 9 ≤ 42 by decide)
    have O__law_symbol := (ok__law_symbol (P := P) (w := w) X).le (show 2 ≤ 42 by decide)
    have O__law_telling := (ok__law_telling (P := P) (w := w) X).le (show 2 ≤ 42 by decide)
    have O__law_tracks := (ok__law_tracks (P := P) (w := w) X).le (show 3 ≤ 42 by decide)
    have O__law_tree := (ok__law_tree (P := P) (w := w) X).le (show 23 ≤ 42 by decide)
    have O_is_marked := (ok_is_marked (P := P) (w := w) X).le (show 6 ≤ 42 by decide)
    have O_is_right := (ok_is_right (P := P) (w := w) X).le (show 8 ≤ 42 by decide)
    have O_marked := (ok_marked (P := P) (w := w) X).le (show 7 ≤ 42 by decide)
    have O_symbols_many := (ok_symbols_many (P := P) (w := w) X).le (show 5 ≤ 42 by decide)
    have O_symbols_of_tree := (ok_symbols_of_tree (P := P) (w := w) X).le (show 8 ≤ 42 by decide)
    have O_telling_of := (ok_telling_of (P := P) (w := w) X).le (show 8 ≤ 42 by decide)
    have O_tree_of := (ok_tree_of (P := P) (w := w) X).le (show 8 ≤ 42 by decide)
    have O_without := (ok_without (P := P) (w := w) X).le (show 8 ≤ 42 by decide)
    have hu := hr.units
    have hu1 : _ + 1 < cLine := Nat.lt_of_le_of_lt (Nat.add_le_add_left (by decide : 1 ≤ 64) _) hu
    have hN := sc_law.nd
    have tk : Takes (cxOf (L2.CX P w) P w K mg base N_law "law" (defScope s_law) (He.ga K "law") cdv A outer s H E) (fun cls d _ H => E cls d H) := takes_of rfl rfl rfl rfl
    have hp : PassesOwn (model P w) (cxOf (L2.CX P w) P w K mg base N_law "law" (defScope s_law) (He.ga K "law") cdv A outer s H E).A (cxOf (L2.CX P w) P w K mg base N_law "law" (defScope s_law) (He.ga K "law") cdv A outer s H E).env (cxOf (L2.CX P w) P w K mg base N_law "law" (defScope s_law) (He.ga K "law") cdv A outer s H E).xe := passes_of rfl
    exact (qss_cons (qs_set (i := 1) hN (qe_callO (io := none) O__law_hand hr tk (qa_cons (qe_name 0) qa_nil))) (qss_cons (qs_par2 (i := 10) (j := 11) rfl hN (qn_cons (qe_callO (io := (some 0)) O__law_tracks hr tk (qa_cons (qe_name 1) qa_nil)) (qn_cons (qe_op op_addA ok_add qe_int (qe_callO (io := (some 0)) O__law_draw hr tk (qa_cons (qe_name 1) (qa_cons qe_int qa_nil)))) qn_nil))) (qss_cons (qs_set (i := 2) hN (qe_callO (io := (some 0)) O__law_tree hr tk (qa_cons (qe_name 1) (qa_cons (qe_name 11) qa_nil)))) (qss_cons (qs_set (i := 3) hN (qe_callO (io := (some 0)) O__law_telling hr tk (qa_cons (qe_name 1) (qa_cons (qe_name 10) (qa_cons (qe_name 11) qa_nil))))) (qss_cons (qs_set (i := 4) hN (qe_lst qa_nil)) (qss_cons (qs_for hp rfl (qi_enum X.fr_enumerate (qa_cons (qe_callO (io := none) O__law_places hr tk (qa_cons (qe_name 2) qa_nil)) qa_nil)) (qg_tup (n := 2) rfl (qgs_cons (qg_name (i := 12) hN) (qgs_cons (qg_name (i := 13) hN) qgs_nil))) (qss_one (qs_expr (qe_mut (i := 4) PySem.F.slot_list_append PySem.F.type_list_append mt_append mu_append (qa_cons (qe_callO (io := none) O__law_symbol hr tk (qa_cons (qe_ixA hu1 (qe_name 13) qe_int) (qa_cons (qe_name 12) (qa_cons (qe_name 10) (qa_cons (qe_name 3) qa_nil))))) qa_nil))))) (qss_cons (qs_set (i := 5) hN (qe_callO (io := none) O__law_put hr tk (qa_cons (qe_name 2) (qa_cons (qe_name 4) qa_nil)))) (qss_cons (qs_if (qt_w (qw_or (qt_cmp (op_neA hu) ok_ne (qe_callO (io := none) O_marked hr tk (qa_cons (qe_name 10) (qa_cons (qe_name 2) (qa_cons (qe_name 3) qa_nil)))) (qe_name 5) (by rfl)) (qw_or1 (qt_cmp (op_neA hu) ok_ne (qe_callO (io := none) O_symbols_many hr tk (qa_cons (qe_name 10) qa_nil)) (qe_op op_mul ok_mul qe_int (qe_callO (io := none) O__law_power hr tk (qa_cons (qe_cb call_lenA ok_len X.fr_len boot_len (qa_cons (qe_name 10) qa_nil)) qa_nil))) (by rfl))))) (qss_one (qs_ret qe_bl)) qss_nil) (qss_cons (qs_if (qt_w (qw_or (qt_cmp op_isnot (ok_is true) (qe_callO (io := none) O_is_marked hr tk (qa_cons (qe_name 10) (qa_cons (qe_name 5) qa_nil))) qe_bl (by rfl)) (qw_or1 (qt_cmp op_isnot (ok_is true) (qe_callO (io := none) O_is_right hr tk (qa_cons (qe_name 10) (qa_cons (qe_name 5) qa_nil))) qe_bl (by rfl))))) (qss_one (qs_ret qe_bl)) qss_nil) (qss_cons (qs_if (qt_w (qw_or (qt_cmp (op_neA hu) ok_ne (qe_callO (io := none) O_tree_of hr tk (qa_cons (qe_name 10) (qa_cons (qe_name 5) qa_nil))) (qe_name 2) (by rfl)) (qw_or1 (qt_cmp (op_neA hu) ok_ne (qe_callO (io := none) O_telling_of hr tk (qa_cons (qe_name 10) (qa_cons (qe_name 5) qa_nil))) (qe_name 3) (by rfl))))) (qss_one (qs_ret qe_bl)) qss_nil) (qss_cons (qs_if (qt_cmp (op_neA hu) ok_ne (qe_callO (io := none) O_symbols_of_tree hr tk (qa_cons (qe_name 10) (qa_cons (qe_name 5) qa_nil))) (qe_cty call_tuple_of ok_tuple X.fr_tuple boot_tuple (qa_cons (qe_name 4) qa_nil)) (by rfl)) (qss_one (qs_ret qe_bl)) qss_nil) (qss_cons (qs_for hp rfl (qi_range1 X.fr_range (qa_cons (qe_cb call_lenA ok_len X.fr_len boot_len (qa_cons (qe_name 10) qa_nil)) qa_nil)) (qg_name (i := 6) hN) (qss_one (qs_if (qt_cmp (op_neA hu) ok_ne (qe_callO (io := none) O_without hr tk (qa_cons (qe_name 10) (qa_cons (qe_name 5) (qa_cons (qe_name 6) qa_nil)))) (qe_callO (io := none) O__law_put hr tk (qa_cons (qe_name 2) (qa_cons (qe_lc (own := [("symbol", 18)]) rfl hN (qi_items (qe_name 4)) (show BlkOk N_law (defScope s_law) _ _ from blkOk_by (by decide +kernel)) (fun _ _ _ _ _ => (qg_name (i := 18) hN)) (fun _ _ _ _ _ => qts_nil) (fun _ _ _ _ _ => (qe_callO (io := none) O__law_less hr takes_blk (qa_cons (qe_name 18) (qa_cons (qe_name 6) qa_nil))))) qa_nil))) (by rfl)) (qss_one (qs_ret qe_bl)) qss_nil))) (qss_cons (qs_set (i := 7) hN (qe_callO (io := (some 0)) O__law_draw hr tk (qa_cons (qe_name 1) (qa_cons (qe_name 11) qa_nil)))) (qss_cons (qs_set (i := 8) hN (qe_op op_addA ok_add (qe_op op_addA ok_add (qe_sl (qe_name 4) qo_none (qo_some (qe_name 7))) (qe_lst (qa_cons (qe_op op_addA ok_add (qe_op op_mul ok_mul qe_int (qe_callO (io := none) O__law_power hr tk (qa_cons (qe_cb call_lenA ok_len X.fr_len boot_len (qa_cons (qe_name 10) qa_nil)) qa_nil))) (qe_callO (io := (some 0)) O__law_draw hr tk (qa_cons (qe_name 1) (qa_cons qe_int qa_nil)))) qa_nil))) (qe_sl (qe_name 4) (qo_some (qe_op op_addA ok_add (qe_name 7) qe_int)) qo_none))) (qss_cons (qs_set (i := 9) hN (qe_callO (io := none) O__law_put hr tk (qa_cons (qe_name 2) (qa_cons (qe_name 8) qa_nil)))) (qss_cons (qs_if (qt_w (qw_or (qt_cmp op_isnot (ok_is true) (qe_callO (io := none) O_is_marked hr tk (qa_cons (qe_name 10) (qa_cons (qe_name 9) qa_nil))) qe_bl (by rfl)) (qw_or1 (qt_not (qt_val (qe_callO (io := none) O__law_raises hr tk (qa_cons (qe_name 10) (qa_cons (qe_name 9) qa_nil)))))))) (qss_one (qs_ret qe_bl)) qss_nil) (qss_cons (qs_for hp rfl (qi_enum X.fr_enumerate (qa_cons (qe_name 10) qa_nil)) (qg_tup (n := 2) rfl (qgs_cons (qg_name (i := 6) hN) (qgs_cons (qg_name (i := 14) hN) qgs_nil))) (qss_cons (qs_set (i := 15) hN (qe_callO (io := none) O__law_power hr tk (qa_cons (qe_name 6) qa_nil))) (qss_cons (qs_set (i := 16) hN (qe_if (qt_cmp (op_eqA hu) ok_eq (qe_op op_mod ok_mod (qe_cty call_int1 ok_intOf X.fr_int boot_int (qa_cons (qe_op op_fdiv ok_div (qe_ixA hu1 (qe_name 4) (qe_name 7)) (qe_name 15)) qa_nil)) qe_int) qe_int (by rfl)) (qe_op op_sub ok_sub (qe_ixA hu1 (qe_name 4) (qe_name 7)) (qe_name 15)) (qe_op op_addA ok_add (qe_ixA hu1 (qe_name 4) (qe_name 7)) (qe_name 15)))) (qss_cons (qs_set (i := 17) hN (qe_callO (io := none) O__law_put hr tk (qa_cons (qe_name 2) (qa_cons (qe_op op_addA ok_add (qe_op op_addA ok_add (qe_sl (qe_name 4) qo_none (qo_some (qe_name 7))) (qe_lst (qa_cons (qe_name 16) qa_nil))) (qe_sl (qe_name 4) (qo_some (qe_op op_addA ok_add (qe_name 7) qe_int)) qo_none)) qa_nil)))) (qss_cons (qs_if (qt_w (qw_or (qt_not (qt_val (qe_callO (io := none) O__law_is hr tk (qa_cons (qe_callO (io := none) O_is_right hr tk (qa_cons (qe_name 10) (qa_cons (qe_name 17) qa_nil))) (qa_cons (qe_cmp (op_ninA hu) ((ok_in true).or (ok_inDic true)) (qe_name 14) qe_str (by rfl)) qa_nil))))) (qw_or1 (qt_cmp op_isnot (ok_is true) (qe_callO (io := none) O_is_marked hr tk (qa_cons (qe_name 10) (qa_cons (qe_name 17) qa_nil))) qe_bl (by rfl))))) (qss_one (qs_ret qe_bl)) qss_nil) (qss_one (qs_if (qt_w (qw_and (qt_cmp (op_inA hu) ((ok_in false).or (ok_inDic false)) (qe_name 14) qe_str (by rfl)) (qw_and1 (qt_not (qt_val (qe_callO (io := none) O__law_raises hr tk (qa_cons (qe_name 10) (qa_cons (qe_name 17) qa_nil)))))))) (qss_one (qs_ret qe_bl)) qss_nil))))))) (qss_one (qs_ret (qe_callO (io := (some 0)) O__law_refuses hr tk (qa_cons (qe_name 1) (qa_cons (qe_name 10) (qa_cons (qe_name 2) (qa_cons (qe_name 3) qa_nil))))))))))))))))))))))))
end W05
namespace W05
open PySem PySem.Spec PyProof.Rows L2 DL LamX
theorem x_is_integer (i : Int) : F_is_integer [.sh (.int i)] = .ret (.v (.bl true)) [.no] := by rfl
theorem x_is_within (i a b : Int) : F_is_within [.sh (.int i), .sh (.int a), .sh (.int b)] = .ret (.v (.bl (decide (a ≤ i) && decide (i ≤ b)))) [.no, .no, .no] := by
  by_cases h : a ≤ i <;> by_cases h2 : i ≤ b <;> simp [F_is_within, g_is_within, fnOf, x_is_integer, h, h2]
theorem x_is_sized (xs : List MV) (a b : Int) : F_is_sized [.sh (.tup xs), .sh (.int a), .sh (.int b)] = .ret (.v (.bl (decide (a ≤ xs.length) && decide ((xs.length : Int) ≤ b)))) [.no, .no, .no] := by
  by_cases h : a ≤ xs.length <;> by_cases h2 : (xs.length : Int) ≤ b <;> simp [F_is_sized, g_is_sized, fnOf, fChain, h, h2]
section
variable {α β : Type} {f : α → MV}
/-! ### parts_of_tree -/
def partsB : Rho → SRes := (gSeq (gSet 3 (fMut0 uPop 2)) (gIf (fB (fOp gNe (fName 3) (fC (.tup [])))) (gSeq (gExpr (fMut uAppend 1 (fCons (fName 3) fNil))) (gExpr (fMut uExtend 2 (fCons (fLst (fCons (fOp (gOr gIx gIxDic) (fName 3) (fC (.int 2))) (fCons (fOp (gOr gIx gIxDic) (fName 3) (fC (.int 1))) fNil))) fNil)))) (fun ρ => .nx ρ)))
def partsT : Rho → Res Bool := (fB (fOp gGt (fCB gLen (fCons (fName 2) fNil)) (fC (.int 0))))
def partsR (f : α → MV) (m : MV) (P : List (Tr α)) (s : List (Tr α)) (j : Option MV) : Rho := [.sh m, .ow (.lst (s.map (Tr.enc f))), .ow (.lst (P.map (Tr.enc f))), jS j]
theorem parts_T (m : MV) (P : List (Tr α)) (t : Tr α) (s : List (Tr α)) (j : Option MV) : partsT (partsR f m (P ++ [t]) s j) = .ok true (partsR f m (P ++ [t]) s j) := by
  simp [partsT, partsR]
theorem parts_E (h : ∀ a, (f a).isD = true) (m : MV) (P : List (Tr α)) (s : List (Tr α)) (j : Option MV) : partsB (partsR f m (P ++ [.e]) s j) = .nx (partsR f m P s (some (.tup []))) := by
  cases j <;> simp [partsB, partsR, jS, Tr.enc, ne_empty]
theorem parts_N (h : ∀ a, (f a).isD = true) (m : MV) (P : List (Tr α)) (s : List (Tr α)) (j : Option MV) (a : α) (l r : Tr α) (hs : s.length < 1000) (hP : P.length < 1000) : partsB (partsR f m (P ++ [.n a l r]) s j) = .nx (partsR f m (P ++ [r, l]) (s ++ [.n a l r]) (some (Tr.enc f (.n a l r)))) := by
  have hd := Tr.node_isD h a l r
  have h1 : s.length < sizeLine := by rw [sizeLine_eq]; omega
  have h2 : P.length + 2 ≤ sizeLine := by rw [sizeLine_eq]; omega
  cases j <;> simp [partsB, partsR, jS, Tr.enc, ne_empty hd, h1, h2]
theorem parts_run (h : ∀ a, (f a).isD = true) (m : MV) (t : Tr α) (hz : t.size ≤ 400) : ∃ j, whileF partsT partsB WFUEL (partsR f m [t] [] none) = .nx (partsR f m [] t.subs j) := by
  obtain ⟨j, key⟩ := pile_run (T := partsT) (B := partsB) (partsR f m) (fun s => s) (fun a l r s => s ++ [.n a l r]) (fun P t s => P.length + t.depth < 1000 ∧ s.length + t.size < 1000) (fun P t s j => parts_T m P t s j)
    (fun P s j _ => ⟨_, .inl (parts_E h m P s j)⟩) (fun P a l r s j hk => ⟨_, .inl (parts_N h m P s j a l r (by have := hk.2; rw [Tr.size] at this; omega) (by have := hk.1; rw [Tr.depth] at this; omega))⟩)
    (fun t s => s ++ t.subs) (fun s => by simp [Tr.subs]) (fun a l r s => by simp [Tr.subs]) (fun P a l r s hk => by
      obtain ⟨h1, h2⟩ := hk
      rw [Tr.depth] at h1
      rw [Tr.size] at h2
      simp only [List.length_append, List.length_singleton, Tr.subs_len]
      omega) t [] [] none (WFUEL - t.cost) ⟨by have := Tr.depth_le t; simp; omega, by simp; omega⟩
  have hc := Tr.cost_eq t
  have hw : WFUEL = 4000 := rfl
  rw [show WFUEL - t.cost + t.cost = WFUEL from by omega, List.nil_append, List.nil_append] at key
  refine ⟨j, ?_⟩
  rw [key, show WFUEL - t.cost = (WFUEL - t.cost - 1) + 1 from by omega, whileF_succ]
  simp [partsT, partsR]
theorem x_parts (h : ∀ a, (f a).isD = true) (t : Tr α) (hz : t.size ≤ 400) : F_parts_of_tree [.sh (Tr.enc f t)] = .ret (.o (.lst (t.subs.map (Tr.enc f)))) [.no] := by
  obtain ⟨j, hj⟩ := parts_run h (Tr.enc f t) t hz
  have e1 : g_parts_of_tree [.sh (Tr.enc f t), .no, .no, .no] = .rt (.o (.lst (t.subs.map (Tr.enc f)))) [.sh (Tr.enc f t), .no, .ow (.lst []), jS j] := by
    show gSeq _ (gSeq (whileF partsT partsB WFUEL) (gRet (fName 1))) _ = _
    have e2 : gParN [1, 2] (fNCons (fLst fNil) (fNCons (fLst (fCons (fName 0) fNil)) fNNil)) [.sh (Tr.enc f t), .no, .no, .no] = .nx (partsR f (Tr.enc f t) [t] [] none) := by
      simp [partsR, jS]
    rw [gSeq_s, e2, seq_nx, gSeq_s, hj, seq_nx]
    simp [partsR, retS]
  simp [F_parts_of_tree, fnOf, e1]
/-! ### tree_of_signs -/
def cdM (g : α → MV) : Option α → MV
  | none => .non
  | some a => g a
def tosB : Rho → SRes := (gIf (fB (fOp (gOr (gIn false) (gInDic false)) (fName 3) (fName 1))) (gExpr (fMut uAppend 2 (fCons (fOp (gOr gIx gIxDic) (fName 1) (fName 3)) fNil))) (gSeq (gSet 4 (fMut0 uPop 2)) (gExpr (fMut uAppend 2 (fCons (fTup (fCons (fName 3) (fCons (fName 4) (fCons (fMut0 uPop 2) fNil)))) fNil)))))
def tosR (sg : MV) (P : List MV) (s3 s4 : Option MV) : Rho := [.sh sg, .sh (.dic [(.non, .tup [])]), .ow (.lst P), jS s3, jS s4]
theorem tos_e (sg : MV) (P : List MV) (s3 s4 : Option MV) (hP : P.length < 1000) (rest : List MV) : forF (uName 3) tosB (.non :: rest) (tosR sg P s3 s4) = forF (uName 3) tosB rest (tosR sg (P ++ [.tup []]) (some .non) s4) := by
  have h1 : P.length < sizeLine := by rw [sizeLine_eq]; omega
  rw [forF_cons]
  cases s3 <;> cases s4 <;> simp [tosB, tosR, jS, h1]
def keyN (m : MV) : Prop := isKey m = true ∧ keyEq .non m = false
theorem tos_n (sg : MV) (P : List MV) (x y m : MV) (s3 s4 : Option MV) (hP : P.length < 1000) (hk : keyN m) (rest : List MV) : forF (uName 3) tosB (m :: rest) (tosR sg (P ++ [y, x]) s3 s4) = forF (uName 3) tosB rest (tosR sg (P ++ [.tup [m, x, y]]) (some m) (some x)) := by
  have h1 : P.length < sizeLine := by rw [sizeLine_eq]; omega
  obtain ⟨h2, h3⟩ := hk
  have e1 : P ++ [y, x] = (P ++ [y]) ++ [x] := by simp
  rw [forF_cons, e1]
  cases s3 <;> cases s4 <;> simp [tosB, tosR, jS, h1, h2, h3]
theorem tos_run (g : α → MV) (hk : ∀ a, keyN (g a)) (sg : MV) : ∀ (t : Tr α) (P : List MV) (s3 s4 : Option MV) (rest : List MV), P.length + t.size < 900 → ∃ s3' s4', forF (uName 3) tosB ((t.ord.reverse.map (cdM g)) ++ rest) (tosR sg P s3 s4) = forF (uName 3) tosB rest (tosR sg (P ++ [Tr.enc g t]) s3' s4')
  | .e, P, s3, s4, rest, hz => ⟨_, _, tos_e sg P s3 s4 (by omega) rest⟩
  | .n a l r, P, s3, s4, rest, hz => by
    rw [Tr.size] at hz
    have e : (Tr.ord (.n a l r)).reverse.map (cdM g) ++ rest = (r.ord.reverse.map (cdM g)) ++ ((l.ord.reverse.map (cdM g)) ++ (g a :: rest)) := by
      simp [Tr.ord, cdM]
    obtain ⟨a1, b1, h1⟩ := tos_run g hk sg r P s3 s4 ((l.ord.reverse.map (cdM g)) ++ (g a :: rest)) (by omega)
    obtain ⟨a2, b2, h2⟩ := tos_run g hk sg l (P ++ [Tr.enc g r]) a1 b1 (g a :: rest) (by rw [List.length_append, List.length_singleton]; omega)
    refine ⟨some (g a), some (Tr.enc g l), ?_⟩
    rw [e, h1, h2, List.append_assoc]
    exact tos_n sg P (Tr.enc g l) (Tr.enc g r) (g a) a2 b2 (by omega) (hk a) rest
theorem x_tree_of_signs (g : α → MV) (hk : ∀ a, keyN (g a)) (t : Tr α) (hz : t.size ≤ 400) : F_tree_of_signs [.sh (.lst (t.ord.map (cdM g))), .sh (.dic [(.non, .tup [])])] = .ret (.v (Tr.enc g t)) [.no, .no] := by
  obtain ⟨a, b, h⟩ := tos_run g hk (.lst (t.ord.map (cdM g))) t [] none none [] (by simp; omega)
  rw [List.append_nil, List.nil_append, forF_nil, List.map_reverse] at h
  have e1 : g_tree_of_signs [.sh (.lst (t.ord.map (cdM g))), .sh (.dic [(.non, .tup [])]), .no, .no, .no] = .rt (.v (Tr.enc g t)) (tosR (.lst (t.ord.map (cdM g))) [Tr.enc g t] a b) := by
    show gSeq _ (gSeq (gFor (fItems (fRev (fName 0))) (uName 3) tosB) (gRet _)) _ = _
    have e2 : gFor (fItems (fRev (fName 0))) (uName 3) tosB (tosR (.lst (t.ord.map (cdM g))) [] none none) = .nx (tosR (.lst (t.ord.map (cdM g))) [Tr.enc g t] a b) := by
      rw [← h]
      simp [tosR]
    have e3 : gSet 2 (fLst fNil) [.sh (.lst (t.ord.map (cdM g))), .sh (.dic [(.non, .tup [])]), .no, .no, .no] = .nx (tosR (.lst (t.ord.map (cdM g))) [] none none) := by
      simp [tosR, jS]
    rw [gSeq_s, e3, seq_nx, gSeq_s, e2, seq_nx]
    simp [tosR]
  simp [F_tree_of_signs, fnOf, e1, tosR]
/-! ### with_signs -/
def wsB : Rho → SRes := (gSeq (gSet 5 (fMut0 uPop 2)) (gIf (fB (fOp gEq (fName 5) (fC (.tup [])))) (gExpr (fMut uAppend 3 (fCons (fC .non) fNil))) (gSeq (gExpr (fMut uAppend 3 (fCons (fOp (gOr gIx gIxDic) (fName 1) (fName 4)) fNil))) (gSeq (gSet 4 (fOp gAdd (fName 4) (fC (.int 1)))) (gExpr (fMut uExtend 2 (fCons (fLst (fCons (fOp (gOr gIx gIxDic) (fName 5) (fC (.int 2))) (fCons (fOp (gOr gIx gIxDic) (fName 5) (fC (.int 1))) fNil))) fNil)))))))
def wsT : Rho → Res Bool := (fB (fOp gGt (fCB gLen (fCons (fName 2) fNil)) (fC (.int 0))))
def wsR (f : α → MV) (m : MV) (ms : List MV) (P : List (Tr α)) (s : List MV × Nat) (j : Option MV) : Rho := [.sh m, .sh (.lst ms), .ow (.lst (P.map (Tr.enc f))), .ow (.lst s.1), .sh (.int (s.2 : Nat)), jS j]
theorem ws_T (m : MV) (ms : List MV) (P : List (Tr α)) (t : Tr α) (s : List MV × Nat) (j : Option MV) : wsT (wsR f m ms (P ++ [t]) s j) = .ok true (wsR f m ms (P ++ [t]) s j) := by
  simp [wsT, wsR]
theorem ws_E (m : MV) (ms : List MV) (P : List (Tr α)) (s : List MV × Nat) (j : Option MV) (hs : s.1.length < 10000) : wsB (wsR f m ms (P ++ [.e]) s j) = .nx (wsR f m ms P (s.1 ++ [.non], s.2) (some (.tup []))) := by
  have h1 : s.1.length < sizeLine := by rw [sizeLine_eq]; omega
  cases j <;> simp [wsB, wsR, jS, Tr.enc, h1]
theorem ws_N (h : ∀ a, (f a).isD = true) (m x : MV) (ms : List MV) (P : List (Tr α)) (s : List MV × Nat) (j : Option MV) (a : α) (l r : Tr α) (hs : s.1.length < 10000) (hP : P.length < 1000) (hx : ms[s.2]? = some x) : wsB (wsR f m ms (P ++ [.n a l r]) s j) = .nx (wsR f m ms (P ++ [r, l]) (s.1 ++ [x], s.2 + 1) (some (Tr.enc f (.n a l r)))) := by
  have hd := Tr.node_isD h a l r
  have h1 : s.1.length < sizeLine := by rw [sizeLine_eq]; omega
  have h2 : P.length + 2 ≤ sizeLine := by rw [sizeLine_eq]; omega
  have h3 := atI_nat ms s.2
  rw [hx] at h3
  cases j <;> simp [wsB, wsR, jS, Tr.enc, eq_empty hd, h1, h2, h3]
theorem ord_fill (g : α → MV) (lab : Nat → α) : ∀ (t : Tr β) (k : Nat), ((Tr.fill lab t k).ord.map (cdM g)).length ≤ 2 * t.size + 1
  | .e, _ => by simp [Tr.fill, Tr.ord]
  | .n a l r, k => by
    have h1 := ord_fill g lab l (k + 1)
    have h2 := ord_fill g lab r (k + 1 + l.size)
    simp only [Tr.fill, Tr.ord, Tr.size, List.map_cons, List.map_append, List.length_cons, List.length_append] at h1 h2 ⊢
    omega
theorem ws_run {γ : Type} {f : β → MV} (h : ∀ a, (f a).isD = true) (g : γ → MV) (lab : Nat → γ) (m : MV) (t : Tr β) (ls : List γ) (hl : ls.length = t.size) (hlab : ∀ (i : Nat) (x : γ), ls[i]? = some x → lab i = x) (hz : t.size ≤ 400) :
    ∃ j, whileF wsT wsB WFUEL (wsR f m (ls.map g) [t] ([], 0) none) = .nx (wsR f m (ls.map g) [] ((Tr.fill lab t 0).ord.map (cdM g), t.size) j) := by
  have hat : ∀ i, i < t.size → (ls.map g)[i]? = some (g (lab i)) := fun i hi => by
    rw [List.getElem?_map]
    have : ls[i]? = some ls[i] := List.getElem?_eq_getElem (by omega)
    rw [this, hlab i _ this]
    rfl
  obtain ⟨j, key⟩ := pile_run (T := wsT) (B := wsB) (wsR f m (ls.map g)) (fun s => (s.1 ++ [.non], s.2)) (fun a l r s => (s.1 ++ [g (lab s.2)], s.2 + 1)) (fun P u s => P.length + u.depth < 1000 ∧ s.1.length + 2 * u.size < 2000 ∧ s.2 + u.size ≤ t.size)
    (fun P t s j => ws_T m (ls.map g) P t s j)
    (fun P s j hk => ⟨_, .inl (ws_E m (ls.map g) P s j (by have := hk.2.1; omega))⟩) (fun P a l r s j hk => ⟨_, .inl (ws_N h m (g (lab s.2)) (ls.map g) P s j a l r (by have := hk.2.1; omega) (by have := hk.1; rw [Tr.depth] at this; omega) (hat s.2 (by have := hk.2.2; rw [Tr.size] at this; omega)))⟩)
    (fun u s => (s.1 ++ (Tr.fill lab u s.2).ord.map (cdM g), s.2 + u.size)) (fun s => by simp [Tr.fill, Tr.ord, Tr.size, cdM]) (fun a l r s => by
      simp only [Tr.fill, Tr.ord, Tr.size, List.map_cons, List.map_append, cdM, Prod.mk.injEq, List.append_assoc, List.cons_append, List.nil_append]
      exact ⟨trivial, by omega⟩) (fun P a l r s hk => by
      obtain ⟨h1, h2, h3⟩ := hk
      rw [Tr.depth] at h1
      rw [Tr.size] at h2 h3
      have h4 := ord_fill g lab l (s.2 + 1)
      simp only [List.length_append, List.length_singleton]
      omega) t [] ([], 0) none (WFUEL - t.cost) ⟨by have := Tr.depth_le t; simp; omega, by simp; omega, by simp⟩
  have hc := Tr.cost_eq t
  have hw : WFUEL = 4000 := rfl
  rw [show WFUEL - t.cost + t.cost = WFUEL from by omega, List.nil_append] at key
  refine ⟨j, ?_⟩
  rw [key, show WFUEL - t.cost = (WFUEL - t.cost - 1) + 1 from by omega, whileF_succ]
  simp [wsT, wsR]
theorem x_with_signs {γ : Type} {f : β → MV} (h : ∀ a, (f a).isD = true) (g : γ → MV) (hk : ∀ a, keyN (g a)) (lab : Nat → γ) (t : Tr β) (ls : List γ) (hl : ls.length = t.size) (hlab : ∀ (i : Nat) (x : γ), ls[i]? = some x → lab i = x) (hz : t.size ≤ 400) :
    F_with_signs [.sh (Tr.enc f t), .sh (.lst (ls.map g))] = .ret (.v (Tr.enc g (Tr.fill lab t 0))) [.no, .no] := by
  obtain ⟨j, hj⟩ := ws_run h g lab (Tr.enc f t) t ls hl hlab hz
  have hx := x_tree_of_signs g hk (Tr.fill lab t 0) (by rw [Tr.fill_size]; exact hz)
  have e1 : g_with_signs [.sh (Tr.enc f t), .sh (.lst (ls.map g)), .no, .no, .no, .no] = .rt (.v (Tr.enc g (Tr.fill lab t 0))) [.sh (Tr.enc f t), .sh (.lst (ls.map g)), .ow (.lst []), .sh (.lst ((Tr.fill lab t 0).ord.map (cdM g))), .sh (.int (t.size : Nat)), jS j] := by
    show gSeq _ (gSeq (whileF wsT wsB WFUEL) (gRet _)) _ = _
    have e2 : gParN [2, 3, 4] (fNCons (fLst (fCons (fName 0) fNil)) (fNCons (fLst fNil) (fNCons (fC (.int 0)) fNNil))) [.sh (Tr.enc f t), .sh (.lst (ls.map g)), .no, .no, .no, .no] = .nx (wsR f (Tr.enc f t) (ls.map g) [t] ([], 0) none) := by
      simp [wsR, jS]
    rw [gSeq_s, e2, seq_nx, gSeq_s, hj, seq_nx]
    simp [wsR, hx]
  simp [F_with_signs, fnOf, e1]
/-! ### is_grown -/
def grB (fA : Addr) (fφ : List MV → Option MV) : Rho → SRes := (gSeq (gAsg (uTup 2 (uCons (uName 6) (uCons (uName 7) uNil))) (fMut0 uPop 4)) (gSeq (gIf (fAnd (fB (fCB gIsi (fCons (fName 6) (fCons (fC (.ty "tuple")) fNil)))) (fB (fOp gEq (fCB gLen (fCons (fName 6) fNil)) (fC (.int 0))))) (fun ρ => .ct ρ) (fun ρ => .nx ρ)) (gSeq (gSet 5 (fOp gAdd (fName 5) (fC (.int 1)))) (gSeq (gIf (fOr (fB (fOp gGt (fName 5) (fName 1))) (fOr (fB (fOp gGt (fName 7) (fName 2))) (fOr (fNot (fB (fCall 3 none F_is_sized (fCons (fName 6) (fCons (fC (.int 3)) (fCons (fC (.int 3)) fNil)))))) (fNot (fB (fAct 3 fA fφ (fCons (fOp (gOr gIx gIxDic) (fName 6) (fC (.int 0))) fNil))))))) (gRet (fC (.bl false))) (fun ρ => .nx ρ)) (gExpr (fMut uExtend 4 (fCons (fLst (fCons (fTup (fCons (fOp (gOr gIx gIxDic) (fName 6) (fC (.int 2))) (fCons (fOp gAdd (fName 7) (fC (.int 1))) fNil))) (fCons (fTup (fCons (fOp (gOr gIx gIxDic) (fName 6) (fC (.int 1))) (fCons (fOp gAdd (fName 7) (fC (.int 1))) fNil))) fNil))) fNil)))))))
def grT : Rho → Res Bool := (fB (fOp gGt (fCB gLen (fCons (fName 4) fNil)) (fC (.int 0))))
def encP (f : α → MV) (q : Tr α × Nat) : MV := .tup [Tr.enc f q.1, .int (q.2 : Nat)]
def grR (f : α → MV) (fA : Addr) (m : MV) (pl dp : Int) (P : List (Tr α × Nat)) (k : Nat) (j : Option MV × Option MV) : Rho := [.sh m, .sh (.int pl), .sh (.int dp), .sh (.fn fA), .ow (.lst (P.map (encP f))), .sh (.int (k : Nat)), jS j.1, jS j.2]
section
variable {fA : Addr} {fφ : List MV → Option MV} {p : α → Bool} {m : MV} {pl dp : Int}
theorem gr_T (P : List (Tr α × Nat)) (q : Tr α × Nat) (k : Nat) (j : Option MV × Option MV) : grT (grR f fA m pl dp (P ++ [q]) k j) = .ok true (grR f fA m pl dp (P ++ [q]) k j) := by
  simp [grT, grR]
theorem gr_E (P : List (Tr α × Nat)) (d k : Nat) (j : Option MV × Option MV) : grB fA fφ (grR f fA m pl dp (P ++ [(.e, d)]) k j) = .ct (grR f fA m pl dp P k (some (.tup []), some (.int (d : Nat)))) := by
  obtain ⟨j1, j2⟩ := j
  cases j1 <;> cases j2 <;> simp [grB, grR, jS, Tr.enc, encP]
theorem gr_N (hφ : ∀ a, fφ [f a] = some (.bl (p a))) (P : List (Tr α × Nat)) (a : α) (l r : Tr α) (d k : Nat) (j : Option MV × Option MV) (hp : p a = true) (hk : (k : Int) + 1 ≤ pl) (hd : (d : Int) ≤ dp) (hP : P.length < 1000) :
    grB fA fφ (grR f fA m pl dp (P ++ [(.n a l r, d)]) k j) = .nx (grR f fA m pl dp (P ++ [(r, d + 1), (l, d + 1)]) (k + 1) (some (Tr.enc f (.n a l r)), some (.int (d : Nat)))) := by
  obtain ⟨j1, j2⟩ := j
  have h1 : ¬ (pl < (k : Int) + 1) := by omega
  have h2 : ¬ (dp < (d : Int)) := by omega
  have h3 : P.length + 2 ≤ sizeLine := by rw [sizeLine_eq]; omega
  cases j1 <;> cases j2 <;> simp [grB, grR, jS, Tr.enc, encP, x_is_sized, hφ, hp, h1, h2, h3]
theorem gr_X (hφ : ∀ a, fφ [f a] = some (.bl (p a))) (P : List (Tr α × Nat)) (a : α) (l r : Tr α) (d k : Nat) (j : Option MV × Option MV) (hp : p a = false) (hk : (k : Int) + 1 ≤ pl) (hd : (d : Int) ≤ dp) :
    ∃ ρ, grB fA fφ (grR f fA m pl dp (P ++ [(.n a l r, d)]) k j) = .rt (.v (.bl false)) ρ ∧ keepIo 4 ρ = [.no, .no, .no, .no] := by
  obtain ⟨j1, j2⟩ := j
  have h1 : ¬ (pl < (k : Int) + 1) := by omega
  have h2 : ¬ (dp < (d : Int)) := by omega
  cases j1 <;> cases j2 <;> exact ⟨_, by simp [grB, grR, jS, Tr.enc, encP, x_is_sized, hφ, hp, h1, h2]; rfl, by simp⟩
theorem gr_run (hφ : ∀ a, fφ [f a] = some (.bl (p a))) : ∀ (t : Tr α) (P : List (Tr α × Nat)) (d k n : Nat) (j : Option MV × Option MV), (k : Int) + t.size ≤ pl → (t.size > 0 → (d : Int) + t.depth ≤ dp + 1) → P.length + t.depth < 900 →
    (t.pre.all p = true ∧ ∃ j', whileF grT (grB fA fφ) (n + t.cost) (grR f fA m pl dp (P ++ [(t, d)]) k j) = whileF grT (grB fA fφ) n (grR f fA m pl dp P (k + t.size) j')) ∨
    (t.pre.all p = false ∧ ∃ ρ, whileF grT (grB fA fφ) (n + t.cost) (grR f fA m pl dp (P ++ [(t, d)]) k j) = .rt (.v (.bl false)) ρ ∧ keepIo 4 ρ = [.no, .no, .no, .no])
  | .e, P, d, k, n, j, _, _, _ => by
    refine .inl ⟨rfl, (some (.tup []), some (.int (d : Nat))), ?_⟩
    rw [Tr.cost, whileF_succ, gr_T]
    simp only [toS_ok]
    rw [gr_E]
    rfl
  | .n a l r, P, d, k, n, j, hk, hd, hP => by
    rw [Tr.size] at hk hd
    rw [Tr.depth] at hd hP
    have hd' := hd (by omega)
    have e : n + (Tr.n a l r).cost = (n + r.cost + l.cost) + 1 := by rw [Tr.cost]; omega
    rw [e, whileF_succ, gr_T]
    simp only [toS_ok]
    cases hp : p a with
    | false =>
      obtain ⟨ρ, hx, hi⟩ := gr_X (fA := fA) (m := m) (pl := pl) (dp := dp) hφ P a l r d k j hp (by omega) (by omega)
      refine .inr ⟨by rw [Tr.pre, List.all_cons, hp]; rfl, ρ, ?_, hi⟩
      rw [hx]
      rfl
    | true =>
      rw [gr_N hφ P a l r d k j hp (by omega) (by omega) (by omega)]
      simp only [loopS_nx]
      rw [show P ++ [(r, d + 1), (l, d + 1)] = (P ++ [(r, d + 1)]) ++ [(l, d + 1)] from by simp]
      rcases gr_run hφ l (P ++ [(r, d + 1)]) (d + 1) (k + 1) (n + r.cost) (some (Tr.enc f (.n a l r)), some (.int (d : Nat))) (by omega) (fun _ => by omega) (by simp; omega) with ⟨a1, j1, e1⟩ | ⟨a1, ρ, e1⟩
      · rw [e1]
        rcases gr_run hφ r P (d + 1) (k + 1 + l.size) n j1 (by omega) (fun _ => by omega) (by omega) with ⟨a2, j2, e2⟩ | ⟨a2, ρ, e2⟩
        · refine .inl ⟨by rw [Tr.pre, List.all_cons, List.all_append, hp, a1, a2]; rfl, j2, ?_⟩
          rw [e2, Tr.size, show k + 1 + l.size + r.size = k + (1 + l.size + r.size) from by omega]
        · exact .inr ⟨by rw [Tr.pre, List.all_cons, List.all_append, hp, a1, a2]; rfl, ρ, e2⟩
      · exact .inr ⟨by rw [Tr.pre, List.all_cons, List.all_append, hp, a1]; rfl, ρ, e1⟩
theorem x_is_grown (hφ : ∀ a, fφ [f a] = some (.bl (p a))) (t : Tr α) (h1 : (t.size : Int) ≤ pl) (h2 : (t.depth : Int) ≤ dp) (hz : t.size ≤ 400) :
    F_is_grown fA fφ [.sh (Tr.enc f t), .sh (.int pl), .sh (.int dp), .sh (.fn fA)] = .ret (.v (.bl (t.pre.all p))) [.no, .no, .no, .no] := by
  have hc := Tr.cost_eq t
  have hw : WFUEL = 4000 := rfl
  have hdl := Tr.depth_le t
  have e2 : gParN [4, 5] (fNCons (fLst (fCons (fTup (fCons (fName 0) (fCons (fC (.int 1)) fNil))) fNil)) (fNCons (fC (.int 0)) fNNil)) [.sh (Tr.enc f t), .sh (.int pl), .sh (.int dp), .sh (.fn fA), .no, .no, .no, .no] = .nx (grR f fA (Tr.enc f t) pl dp [(t, 1)] 0 (none, none)) := by
    simp [grR, jS, encP]
  have e3 : g_is_grown fA fφ [.sh (Tr.enc f t), .sh (.int pl), .sh (.int dp), .sh (.fn fA), .no, .no, .no, .no] = (whileF grT (grB fA fφ) WFUEL (grR f fA (Tr.enc f t) pl dp [(t, 1)] 0 (none, none))).seq (gRet (fC (.bl true))) := by
    show gSeq _ (gSeq (whileF grT (grB fA fφ) WFUEL) (gRet (fC (.bl true)))) _ = _
    rw [gSeq_s, e2, seq_nx, gSeq_s]
  rcases gr_run (fA := fA) (m := Tr.enc f t) (pl := pl) (dp := dp) hφ t [] 1 0 (WFUEL - t.cost) (none, none) (by omega) (fun _ => by omega) (by simp; omega) with ⟨ha, j, e⟩ | ⟨ha, ρ, e⟩
  · rw [show WFUEL - t.cost + t.cost = WFUEL from by omega, List.nil_append] at e
    rw [e, show WFUEL - t.cost = (WFUEL - t.cost - 1) + 1 from by omega, whileF_succ] at e3
    simp [F_is_grown, fnOf, e3, ha]
    simp [grT, grR]
  · obtain ⟨e, hi⟩ := e
    rw [show WFUEL - t.cost + t.cost = WFUEL from by omega, List.nil_append] at e
    rw [e] at e3
    simp only [F_is_grown, fnOf, List.length_cons, List.length_nil]
    show finF 4 (g_is_grown fA fφ [.sh (Tr.enc f t), .sh (.int pl), .sh (.int dp), .sh (.fn fA), .no, .no, .no, .no]) = _
    rw [e3, ha]
    simp only [seq_rt, finF_v, hi]
end
end
end W05
namespace W05
open PySem PySem.Spec PyProof.Rows L2 DL LamX
abbrev S (x : Str) : MV := .str x
def TRS : List (List MV) := [[], [S "x"], [S "X"], [S "X", S "x"], [S "x", S "y"], [S "X", S "Y"], [S "X", S "x", S "y"], [S "X", S "Y", S "x"], [S "P", S "p", S "z"]]
theorem x_pow (k : Nat) (h : k ≤ 3) : F_power_of [.sh (.int 2), .sh (.int (k : Nat))] = .ret (.v (.int ((2 ^ k : Nat) : Int))) [.no, .no] := by
  match k, h with
  | 0, _ => rfl
  | 1, _ => rfl
  | 2, _ => rfl
  | 3, _ => rfl
theorem x_check_tracks {ts : List MV} (h : ts ∈ TRS) : F_check_tracks [.sh (.tup ts)] = .ret (.v .non) [.no] := by
  simp only [TRS, List.mem_cons, List.not_mem_nil, or_false] at h
  rcases h with rfl | rfl | rfl | rfl | rfl | rfl | rfl | rfl | rfl <;> rfl
theorem x_lname {x : Str} (h : x ∈ (["X", "Y", "P"] : List Str)) : F_is_lot_name [.sh (S x)] = .ret (.v (.bl true)) [.no] := by
  simp only [List.mem_cons, List.not_mem_nil, or_false] at h
  rcases h with rfl | rfl | rfl <;> rfl
theorem x_pname {x : Str} (h : x ∈ (["x", "y", "p", "z"] : List Str)) : F_is_lot_name [.sh (S x)] = .ret (.v (.bl false)) [.no] := by
  simp only [List.mem_cons, List.not_mem_nil, or_false] at h
  rcases h with rfl | rfl | rfl | rfl <;> rfl
end W05
namespace W05
open PySem PySem.Spec PyProof.Rows L2 DL LamX
/-- a hand that draws -/
def hnd (cs : List Int) (a : Nat) (b c d : Int) : MV := .lst [.lst (cs.map .int), .int (a : Nat), .int b, .int c, .int d]
def Hand (m : MV) : Prop := ∃ cs a b c d, m = hnd cs a b c d
theorem x_draw {m : MV} (h : Hand m) (n : Int) (h1 : 0 < n) (h2 : n < 1000000) : ∃ d m', F__law_draw [.io m, .sh (.int n)] = .ret (.v (.int d)) [.io m', .no] ∧ 0 ≤ d ∧ d < n ∧ Hand m' := by
  obtain ⟨cs, a, b, c, d, rfl⟩ := h
  have h3 : n < 1073741824 := by omega
  have hm : ∀ z : Int, 0 ≤ z % n ∧ z % n < n := fun z => ⟨Int.emod_nonneg _ (by omega), Int.emod_lt_of_pos _ h1⟩
  have hn : (n.natAbs < 1073741824) = True := eq_true (by omega)
  have hx : ∀ z : Int, ((z % 2147483647).natAbs < 18446744073709551616) = True := fun z => eq_true (by
    have e1 := Int.emod_nonneg z (by decide : (2147483647 : Int) ≠ 0)
    have e2 := Int.emod_lt_of_pos z (by decide : (0 : Int) < 2147483647)
    omega)
  have hq : cPow 10 18 = true := by decide
  by_cases hb : b = 0
  · subst hb
    by_cases ha : a < cs.length
    · have hg : L2.atI (cs.map MV.int) (a : Nat) = some (.int cs[a]) := by
        rw [DL.atI_nat, List.getElem?_map, List.getElem?_eq_getElem ha]
        rfl
      by_cases hc : (1000000000000000000 : Int) ≤ cs[a]
      · have hp : (0 : Int) < cs[a] := by omega
        refine ⟨_, hnd cs (a + 1) (cs[a] / n) ((c * 69621 + cs[a] + 43) % 2147483629) d, by simp [F__law_draw, g__law_draw, fnOf, hnd, hq, ha, hg, hc, hp, h1, h3, hn, hx]; rfl, (hm _).1, (hm _).2, _, _, _, _, _, rfl⟩
      · refine ⟨_, hnd cs (a + 1) 0 ((c * 69621 + cs[a] + 43) % 2147483629) (d + 1), by simp [F__law_draw, g__law_draw, fnOf, hnd, hq, ha, hg, hc, h1, h3, hn, hx]; rfl, (hm _).1, (hm _).2, _, _, _, _, _, rfl⟩
    · refine ⟨_, hnd cs a 0 c (d + 1), by simp [F__law_draw, g__law_draw, fnOf, hnd, ha, h1, h3, hn, hx]; rfl, (hm _).1, (hm _).2, _, _, _, _, _, rfl⟩
  · by_cases hp : 0 < b
    · refine ⟨_, hnd cs a (b / n) c d, by simp [F__law_draw, g__law_draw, fnOf, hnd, hb, hp, h1, h3, hn]; rfl, (hm b).1, (hm b).2, _, _, _, _, _, rfl⟩
    · refine ⟨_, hnd cs a b c (d + 1), by simp [F__law_draw, g__law_draw, fnOf, hnd, hb, hp, h1, h3, hn, hx]; rfl, (hm _).1, (hm _).2, _, _, _, _, _, rfl⟩
end W05
namespace W05
open PySem PySem.Spec PyProof.Rows L2 DL LamX
theorem x_some {m : MV} (h : Hand m) (xs : List MV) (h0 : xs ≠ []) (hl : xs.length < 1000) : ∃ x m', F__law_some [.io m, .sh (.lst xs)] = .ret (.v x) [.io m', .no] ∧ x ∈ xs ∧ Hand m' := by
  have h1 : 0 < xs.length := List.length_pos_iff.mpr h0
  obtain ⟨d, m', e, hd0, hd1, hm⟩ := x_draw h xs.length (by omega) (by omega)
  obtain ⟨i, rfl⟩ : ∃ i : Nat, d = i := ⟨d.toNat, by omega⟩
  have hi : i < xs.length := by omega
  have hg : L2.atI xs (i : Nat) = some xs[i] := by rw [DL.atI_nat, List.getElem?_eq_getElem hi]
  refine ⟨xs[i], m', ?_, List.getElem_mem hi, hm⟩
  simp [F__law_some, g__law_some, fnOf, e, hg]
def ltr (b : Bool) : MV := .str (if b then "b" else "a")
theorem ltr_isD (b : Bool) : (ltr b).isD = true := by cases b <;> rfl
theorem ltr_nob (b : Bool) : (ltr b).nob = true := by cases b <;> rfl
theorem ltr_dep (b : Bool) : depM (ltr b) = 0 := by cases b <;> (unfold ltr depM; rw [MV.pd, PyData.depth])
theorem x_tree : ∀ (n k : Nat) (m : MV), k < n → k < 1000 → Hand m → ∃ t m', r__law_tree n [.io m, .sh (.int (k : Nat))] = .ret (.v (Tr.enc ltr t)) [.io m', .no] ∧ t.size = k ∧ Hand m'
  | 0, k, m, h, _, _ => absurd h (Nat.not_lt_zero _)
  | n + 1, 0, m, _, _, hm => ⟨.e, m, by simp [r__law_tree, g__law_tree, fnOf, Tr.enc], rfl, hm⟩
  | n + 1, k + 1, m, h, hk, hm => by
    obtain ⟨d, m1, e1, hd0, hd1, hm1⟩ := x_draw hm (k + 1 : Nat) (by omega) (by omega)
    obtain ⟨i, rfl⟩ : ∃ i : Nat, d = i := ⟨d.toNat, by omega⟩
    obtain ⟨x, m2, e2, hx, hm2⟩ := x_some hm1 [.str "a", .str "b"] (by simp) (by decide)
    obtain ⟨b, rfl⟩ : ∃ b, x = ltr b := by
      simp only [List.mem_cons, List.not_mem_nil, or_false] at hx
      rcases hx with rfl | rfl
      · exact ⟨false, rfl⟩
      · exact ⟨true, rfl⟩
    obtain ⟨l, m3, e3, hl, hm3⟩ := x_tree n i m2 (by omega) (by omega) hm2
    obtain ⟨r, m4, e4, hr, hm4⟩ := x_tree n (k - i) m3 (by omega) (by omega) hm3
    refine ⟨.n b l r, m4, ?_, by rw [Tr.size]; omega, hm4⟩
    have hp : ¬ ((k : Int) + 1 ≤ 0) := by omega
    have hs : ((k : Int) + 1 - 1 - (i : Nat)) = ((k - i : Nat) : Int) := by omega
    have e1' : F__law_draw [.io m, .sh (.int ((k : Int) + 1))] = .ret (.v (.int (i : Nat))) [.io m1, .no] := by
      have := e1
      push_cast at this
      exact this
    have hs' : ((k : Int) - (i : Nat)) = ((k - i : Nat) : Int) := by omega
    simp [r__law_tree, g__law_tree, fnOf, Tr.enc, e1', e2, e3, e4, hp, hs']
section
variable {α : Type} {f : α → MV}
theorem x_many (hf : ∀ a, (f a).isD = true) : ∀ (n : Nat) (t : Tr α), t.depth < n → r__law_many n [.sh (Tr.enc f t)] = .ret (.v (.int (t.size : Nat))) [.no]
  | 0, t, h => absurd h (Nat.not_lt_zero _)
  | n + 1, .e, h => by
    simp [r__law_many, g__law_many, fnOf, Tr.enc, Tr.size]
  | n + 1, .n a l r, h => by
    rw [Tr.depth] at h
    have e1 := x_many hf n l (by omega)
    have e2 := x_many hf n r (by omega)
    have hd := Tr.node_isD hf a l r
    simp [r__law_many, g__law_many, fnOf, Tr.enc, Tr.size, eq_empty hd, e1, e2]
theorem X_many (hf : ∀ a, (f a).isD = true) (t : Tr α) (h : t.size < 20) : F__law_many [.sh (Tr.enc f t)] = .ret (.v (.int (t.size : Nat))) [.no] :=
  x_many hf RFUEL t (by have := Tr.depth_le t; unfold RFUEL; omega)
abbrev Sp (α : Type) : Type := α × Option Int × Option Int × Int
def oI : Option Int → MV
  | none => .non
  | some i => .int i
def spE (f : α → MV) (s : Sp α) : MV := .tup [f s.1, oI s.2.1, oI s.2.2.1, .int s.2.2.2]
def spS (by' : Int) (s : Sp α) : Sp α := (s.1, s.2.1.map (· + by'), s.2.2.1.map (· + by'), s.2.2.2 + by')
def plc : Tr α → List (Sp α)
  | .e => []
  | .n a l r => (a, (if 0 < l.size then some 1 else none), (if 0 < r.size then some (1 + (l.size : Int)) else none), 1 + (l.size : Int) + r.size) :: ((plc l).map (spS 1) ++ (plc r).map (spS (1 + (l.size : Int))))
theorem plc_fst : ∀ t : Tr α, (plc t).map Prod.fst = t.pre
  | .e => rfl
  | .n a l r => by
    rw [plc, Tr.pre, List.map_cons, List.map_append, List.map_map, List.map_map, ← plc_fst l, ← plc_fst r]
    congr 1
theorem plc_len (t : Tr α) : (plc t).length = t.size := by
  rw [← Tr.pre_len, ← plc_fst, List.length_map]
def plB : Rho → SRes := (gSeq (gSet 7 (fIf (fB (fOp (gIs false) (fName 7) (fC .non))) (fC .non) (fOp gAdd (fName 7) (fName 5)))) (gSeq (gSet 8 (fIf (fB (fOp (gIs false) (fName 8) (fC .non))) (fC .non) (fOp gAdd (fName 8) (fName 5)))) (gExpr (fMut uAppend 1 (fCons (fTup (fCons (fName 6) (fCons (fName 7) (fCons (fName 8) (fCons (fOp gAdd (fName 9) (fName 5)) fNil))))) fNil)))))
def plR (o : MV) (S : List MV) (a b : Int) (p : MV) (y : Int) (j : Option MV × Option MV × Option MV × Option MV) : Rho := [.sh o, .ow (.lst S), .sh (.int a), .sh (.int b), .sh p, .sh (.int y), jS j.1, jS j.2.1, jS j.2.2.1, jS j.2.2.2]
theorem pl_one (o : MV) (S : List MV) (a b : Int) (p : MV) (y : Int) (j : Option MV × Option MV × Option MV × Option MV) (s : Sp α) (rest : List MV) (hS : S.length < 1000) : ∃ j', forF (uTup 4 (uCons (uName 6) (uCons (uName 7) (uCons (uName 8) (uCons (uName 9) uNil))))) plB (spE f s :: rest) (plR o S a b p y j) = forF (uTup 4 (uCons (uName 6) (uCons (uName 7) (uCons (uName 8) (uCons (uName 9) uNil))))) plB rest (plR o (S ++ [spE f (spS y s)]) a b p y j') := by
  obtain ⟨c, u, v, w⟩ := s
  have h1 : S.length < sizeLine := by rw [sizeLine_eq]; omega
  obtain ⟨j1, j2, j3, j4⟩ := j
  refine ⟨(some (f c), some (oI (u.map (· + y))), some (oI (v.map (· + y))), some (.int w)), ?_⟩
  rw [forF_cons]
  cases j1 <;> cases j2 <;> cases j3 <;> cases j4 <;> cases u <;> cases v <;> simp [plB, plR, jS, spE, spS, oI, h1]
theorem pl_run (o : MV) (a b : Int) (p : MV) (y : Int) : ∀ (ss : List (Sp α)) (S : List MV) (j : Option MV × Option MV × Option MV × Option MV), S.length + ss.length < 1000 → ∃ j', forF (uTup 4 (uCons (uName 6) (uCons (uName 7) (uCons (uName 8) (uCons (uName 9) uNil))))) plB (ss.map (spE f)) (plR o S a b p y j) = .nx (plR o (S ++ (ss.map (spS y)).map (spE f)) a b p y j')
  | [], S, j, _ => ⟨j, by simp⟩
  | s :: ss, S, j, h => by
    rw [List.length_cons] at h
    obtain ⟨j1, e1⟩ := pl_one (f := f) o S a b p y j s (ss.map (spE f)) (by omega)
    obtain ⟨j2, e2⟩ := pl_run o a b p y ss (S ++ [spE f (spS y s)]) j1 (by rw [List.length_append, List.length_singleton]; omega)
    refine ⟨j2, ?_⟩
    rw [List.map_cons, e1, e2, List.map_cons, List.map_cons, List.append_assoc]
    rfl
end
end W05
namespace W05
open PySem PySem.Spec PyProof.Rows L2 DL LamX
section
variable {α : Type} {f : α → MV}
def plO (F0 : Rho → FRes) : Rho → SRes := gFor (fItems (fCall 1 none F0 (fCons (fName 4) fNil))) (uTup 4 (uCons (uName 6) (uCons (uName 7) (uCons (uName 8) (uCons (uName 9) uNil))))) plB
def plQ (o : MV) (S : List MV) (a b : Int) (p y : Option MV) (j : Option MV × Option MV × Option MV × Option MV) : Rho := [.sh o, .ow (.lst S), .sh (.int a), .sh (.int b), jS p, jS y, jS j.1, jS j.2.1, jS j.2.2.1, jS j.2.2.2]
theorem pl_out {F0 : Rho → FRes} (t : Tr α) (hF : F0 [.sh (Tr.enc f t)] = .ret (.o (.lst ((plc t).map (spE f)))) [.no]) (o : MV) (S : List MV) (a b : Int) (p y : Option MV) (z : Int) (j : Option MV × Option MV × Option MV × Option MV) (rest : List MV) (hS : S.length + t.size < 1000) :
    ∃ j', forF (uTup 2 (uCons (uName 4) (uCons (uName 5) uNil))) (plO F0) (.tup [Tr.enc f t, .int z] :: rest) (plQ o S a b p y j) = forF (uTup 2 (uCons (uName 4) (uCons (uName 5) uNil))) (plO F0) rest (plQ o (S ++ ((plc t).map (spS z)).map (spE f)) a b (some (Tr.enc f t)) (some (.int z)) j') := by
  obtain ⟨j', e⟩ := pl_run (f := f) o a b (Tr.enc f t) z (plc t) S j (by rw [plc_len]; exact hS)
  refine ⟨j', ?_⟩
  have e2 : plO F0 (plR o S a b (Tr.enc f t) z j) = .nx (plR o (S ++ ((plc t).map (spS z)).map (spE f)) a b (Tr.enc f t) z j') := by
    rw [← e]
    simp [plO, plR, hF]
  have e3 : uTup 2 (uCons (uName 4) (uCons (uName 5) uNil)) (.tup [Tr.enc f t, .int z]) (plQ o S a b p y j) = some (plR o S a b (Tr.enc f t) z j) := by
    cases p <;> cases y <;> simp [plQ, plR, jS]
  rw [forF_cons, e3]
  show loopS (plO F0 (plR o S a b (Tr.enc f t) z j)) _ = _
  rw [e2, loopS_nx]
  rfl
theorem x_places (hf : ∀ a, (f a).isD = true) : ∀ (n : Nat) (t : Tr α), t.depth < n → t.size < 20 → r__law_places n [.sh (Tr.enc f t)] = .ret (.o (.lst ((plc t).map (spE f)))) [.no]
  | 0, t, h, _ => absurd h (Nat.not_lt_zero _)
  | n + 1, .e, h, _ => by
    simp [r__law_places, g__law_places, fnOf, Tr.enc, plc]
  | n + 1, .n a l r, h, hz => by
    rw [Tr.depth] at h
    rw [Tr.size] at hz
    have e1 := x_places hf n l (by omega) (by omega)
    have e2 := x_places hf n r (by omega) (by omega)
    have hd := Tr.node_isD hf a l r
    have m1 := X_many hf l (by omega)
    have m2 := X_many hf r (by omega)
    obtain ⟨j1, o1⟩ := pl_out (f := f) l e1 (Tr.enc f (.n a l r)) [spE f (a, (if 0 < l.size then some 1 else none), (if 0 < r.size then some (1 + (l.size : Int)) else none), 1 + (l.size : Int) + r.size)] l.size r.size none none 1 (none, none, none, none) [.tup [Tr.enc f r, .int (1 + (l.size : Nat))]] (by simp; omega)
    obtain ⟨j2, o2⟩ := pl_out (f := f) r e2 (Tr.enc f (.n a l r)) ([spE f (a, (if 0 < l.size then some 1 else none), (if 0 < r.size then some (1 + (l.size : Int)) else none), 1 + (l.size : Int) + r.size)] ++ ((plc l).map (spS 1)).map (spE f)) l.size r.size (some (Tr.enc f l)) (some (.int 1)) (1 + (l.size : Nat)) j1 [] (by simp [plc_len]; omega)
    rw [o2, forF_nil] at o1
    have e3 : g__law_places (r__law_places n) [.sh (Tr.enc f (.n a l r)), .no, .no, .no, .no, .no, .no, .no, .no, .no] = (forF (uTup 2 (uCons (uName 4) (uCons (uName 5) uNil))) (plO (r__law_places n)) [.tup [Tr.enc f l, .int 1], .tup [Tr.enc f r, .int (1 + (l.size : Nat))]] (plQ (Tr.enc f (.n a l r)) [spE f (a, (if 0 < l.size then some 1 else none), (if 0 < r.size then some (1 + (l.size : Int)) else none), 1 + (l.size : Int) + r.size)] l.size r.size none none (none, none, none, none))).seq (gRet (fName 1)) := by
      by_cases h1 : 0 < l.size <;> by_cases h2 : 0 < r.size <;> simp [g__law_places, Tr.enc, eq_empty hd, m1, m2, h1, h2, plO, plB, plQ, jS, spE, oI]
    rw [o1, seq_nx] at e3
    show fnOf 10 (g__law_places (r__law_places n)) [.sh (Tr.enc f (.n a l r))] = _
    have e4 : fnOf 10 (g__law_places (r__law_places n)) [.sh (Tr.enc f (.n a l r))] = finF 1 (g__law_places (r__law_places n) [.sh (Tr.enc f (.n a l r)), .no, .no, .no, .no, .no, .no, .no, .no, .no]) := rfl
    rw [e4, e3, plc]
    simp [plQ, retS]
theorem X_places (hf : ∀ a, (f a).isD = true) (t : Tr α) (h : t.size < 20) : F__law_places [.sh (Tr.enc f t)] = .ret (.o (.lst ((plc t).map (spE f)))) [.no] :=
  x_places hf RFUEL t (by have := Tr.depth_le t; unfold RFUEL; omega) h
theorem cut_1 {β : Type} (xs : List β) (i j : Nat) (h : j ≤ xs.length) : cutL xs (some (i : Int)) (some (j : Int)) = (xs.drop i).take (j - i) := by
  unfold cutL
  rw [HT.sIx_nat, HT.sIx_nat]
  by_cases hi : i ≤ xs.length
  · rw [Nat.min_eq_left hi, Nat.min_eq_left h]
  · rw [Nat.min_eq_right (show xs.length ≤ i from by omega), Nat.min_eq_left h, List.drop_eq_nil_of_le (by omega), List.drop_eq_nil_of_le (by omega)]
    simp
theorem cut_2 {β : Type} (xs : List β) (i : Nat) : cutL xs (some (i : Int)) none = xs.drop i := by
  unfold cutL
  rw [HT.sIx_nat, HT.sIx_none]
  by_cases hi : i ≤ xs.length
  · rw [Nat.min_eq_left hi, List.take_of_length_le (by simp)]
  · rw [Nat.min_eq_right (show xs.length ≤ i from by omega), List.drop_eq_nil_of_le (by omega), List.drop_eq_nil_of_le (by omega)]
    simp
theorem cut_3 {β : Type} (xs : List β) (j : Nat) : cutL xs none (some (j : Int)) = xs.take j := by
  unfold cutL
  rw [HT.sIx_nat, HT.sIx_none, List.drop_zero, Nat.sub_zero]
  by_cases hi : j ≤ xs.length
  · rw [Nat.min_eq_left hi]
  · rw [Nat.min_eq_right (show xs.length ≤ j from by omega), List.take_of_length_le (Nat.le_refl _), List.take_of_length_le (by omega)]
theorem x_put (hf : ∀ a, (f a).isD = true) (lab : Nat → MV) : ∀ (n : Nat) (t : Tr α) (k : Nat) (ls : List MV), t.depth < n → t.size < 20 → ls.length = t.size → (∀ i x, ls[i]? = some x → lab (k + i) = x) →
    r__law_put n [.sh (Tr.enc f t), .sh (.lst ls)] = .ret (.v (Tr.enc id (Tr.fill lab t k))) [.no, .no]
  | 0, t, k, ls, h, _, _, _ => absurd h (Nat.not_lt_zero _)
  | n + 1, .e, k, ls, h, _, _, _ => by
    simp [r__law_put, g__law_put, fnOf, Tr.enc, Tr.fill]
  | n + 1, .n a l r, k, ls, h, hz, hl, hlab => by
    rw [Tr.depth] at h
    rw [Tr.size] at hz hl
    have hd := Tr.node_isD hf a l r
    have m1 := X_many hf l (by omega)
    obtain ⟨x, xs, rfl⟩ : ∃ x xs, ls = x :: xs := by
      cases ls with
      | nil => simp at hl; omega
      | cons x xs => exact ⟨x, xs, rfl⟩
    rw [List.length_cons] at hl
    have e1 := x_put hf lab n l (k + 1) (xs.take l.size) (by omega) (by omega) (by rw [List.length_take]; omega) fun i y hy => by
      rw [List.getElem?_take] at hy
      split at hy
      · have := hlab (i + 1) y (by rw [List.getElem?_cons_succ]; exact hy)
        rw [← this]; congr 1; omega
      · cases hy
    have e2 := x_put hf lab n r (k + 1 + l.size) (xs.drop l.size) (by omega) (by omega) (by rw [List.length_drop]; omega) fun i y hy => by
      rw [List.getElem?_drop] at hy
      have := hlab (l.size + i + 1) y (by rw [List.getElem?_cons_succ]; exact hy)
      rw [← this]; congr 1; omega
    have h0 : lab k = x := hlab 0 x rfl
    have c1 : cutL (x :: xs) (some 1) (some (1 + (l.size : Nat))) = xs.take l.size := by
      have := cut_1 (x :: xs) 1 (1 + l.size) (by rw [List.length_cons]; omega)
      push_cast at this
      rw [this, show 1 + l.size - 1 = l.size from by omega]
      rfl
    have c2 : cutL (x :: xs) (some (1 + (l.size : Nat))) none = xs.drop l.size := by
      have := cut_2 (x :: xs) (1 + l.size)
      push_cast at this
      rw [this, Nat.add_comm]
      rfl
    simp [-cutL_s, r__law_put, g__law_put, fnOf, Tr.enc, Tr.fill, eq_empty hd, m1, c1, c2, e1, e2, h0]
theorem X_put (hf : ∀ a, (f a).isD = true) (lab : Nat → MV) (t : Tr α) (ls : List MV) (h : t.size < 20) (hl : ls.length = t.size) (hlab : ∀ i x, ls[i]? = some x → lab i = x) : F__law_put [.sh (Tr.enc f t), .sh (.lst ls)] = .ret (.v (Tr.enc id (Tr.fill lab t 0))) [.no, .no] :=
  x_put hf lab RFUEL t 0 ls (by have := Tr.depth_le t; unfold RFUEL; omega) h hl fun i x hx => by rw [Nat.zero_add]; exact hlab i x hx
end
end W05
namespace W05
open PySem PySem.Spec PyProof.Rows L2 DL LamX
theorem sm62 {i : Int} (h1 : -1000000 < i) (h2 : i < 1000000) : small62 i = true := by
  unfold small62
  rw [decide_eq_true_eq]
  omega
theorem inM_int {α : Type} (g : α → Int) (i : Int) : ∀ xs : List α, inM (.int i) (xs.map fun x => .int (g x)) = decide (i ∈ xs.map g)
  | [] => rfl
  | x :: xs => by
    have h := inM_int g i xs
    unfold inM at h ⊢
    rw [List.map_cons, pds_cons, List.any_cons, h, MV.pd, MV.pd, PyData.eqv]
    by_cases e : g x = i
    · subst e; simp
    · have e' : ¬ i = g x := fun h => e h.symm
      simp [e, e']
theorem ints_isD {α : Type} (g : α → Int) : ∀ xs : List α, isDs (xs.map fun x => MV.int (g x)) = true
  | [] => by rw [List.map_nil, isDs]
  | x :: xs => by rw [List.map_cons, isDs_cons, ints_isD g xs, MV.isD]; rfl
theorem in_ints {α : Type} (g : α → Int) (i : Int) (xs : List α) : gIn false (.int i) (.tup (xs.map fun x => MV.int (g x))) = some (.v (.bl (decide (i ∈ xs.map g)))) := by
  have h : inOk (.int i) (xs.map fun x => MV.int (g x)) = true := by
    unfold inOk
    rw [ints_isD]
    have : depM (.int i) = 0 := by unfold depM; rw [MV.pd, PyData.depth]
    rw [this, MV.isD]
    simp
  unfold gIn
  simp only [h, if_true, inM_int]
  rfl
def isP (x : Str) : Prop := x ∈ (["x", "y", "p", "z"] : List Str)
def isL (x : Str) : Prop := x ∈ (["X", "Y", "P"] : List Str)
theorem trs {ts : List MV} (h : ts ∈ TRS) : ∃ ns : List Str, ts = ns.map S ∧ ns.length ≤ 3 ∧ ∀ x ∈ ns, isP x ∨ isL x := by
  simp only [TRS, List.mem_cons, List.not_mem_nil, or_false] at h
  rcases h with rfl | rfl | rfl | rfl | rfl | rfl | rfl | rfl | rfl
  · exact ⟨[], rfl, by decide, by simp⟩
  · exact ⟨["x"], rfl, by decide, by unfold isP isL; decide⟩
  · exact ⟨["X"], rfl, by decide, by unfold isP isL; decide⟩
  · exact ⟨["X", "x"], rfl, by decide, by unfold isP isL; decide⟩
  · exact ⟨["x", "y"], rfl, by decide, by unfold isP isL; decide⟩
  · exact ⟨["X", "Y"], rfl, by decide, by unfold isP isL; decide⟩
  · exact ⟨["X", "x", "y"], rfl, by decide, by unfold isP isL; decide⟩
  · exact ⟨["X", "Y", "x"], rfl, by decide, by unfold isP isL; decide⟩
  · exact ⟨["P", "p", "z"], rfl, by decide, by unfold isP isL; decide⟩
theorem pin {x : Str} (h : isP x) : gIn false (S x) (.str "pqrstuvwxyz") = some (.v (.bl true)) ∧ gIn true (S x) (.str "pqrstuvwxyz") = some (.v (.bl false)) := by
  unfold isP at h
  simp only [List.mem_cons, List.not_mem_nil, or_false] at h
  rcases h with rfl | rfl | rfl | rfl <;> exact ⟨rfl, rfl⟩
theorem lin {x : Str} (h : isL x) : gIn false (S x) (.str "pqrstuvwxyz") = some (.v (.bl false)) ∧ gIn true (S x) (.str "pqrstuvwxyz") = some (.v (.bl true)) := by
  unfold isL at h
  simp only [List.mem_cons, List.not_mem_nil, or_false] at h
  rcases h with rfl | rfl | rfl <;> exact ⟨rfl, rfl⟩
inductive Wo where
  | pl (i : Nat) | lot (p : Nat → Bool)
def Wo.on : Wo → Nat → Bool
  | .pl i, j => decide (j = i)
  | .lot p, j => p j
def Wo.enc (n : Nat) : Wo → MV
  | .pl i => .int (i : Nat)
  | .lot p => .tup (((List.range n).filter p).map fun i => .int (i : Nat))
def Fit (n : Nat) (x : Str) : Wo → Prop
  | .pl i => isP x ∧ i < n
  | .lot _ => isL x
theorem x_tracks {m : MV} (h : Hand m) : ∃ ts m', F__law_tracks [.io m] = .ret (.v (.tup ts)) [.io m'] ∧ ts ∈ TRS ∧ Hand m' := by
  obtain ⟨x, m', e, hx, hm⟩ := x_some h (TRS.map .tup) (by simp [TRS]) (by decide)
  obtain ⟨ts, hts, rfl⟩ := List.mem_map.mp hx
  refine ⟨ts, m', ?_, hts, hm⟩
  simp only [TRS, List.map_cons, List.map_nil, S] at e
  simp [F__law_tracks, g__law_tracks, fnOf, e]
/-- a filter that draws -/
theorem tl_lot (K1 : Rho) (o w fo : MV) (nm : Option MV) : ∀ (n k : Nat) (m : MV) (acc : List MV), Hand m → acc.length + n < 1000 → ∃ p m', Hand m' ∧
    lcF [5] (uName 5) (fB (fOp gEq (fCall 2 (some 0) F__law_draw (fCons (fName 0) (fCons (fC (.int 2)) fNil))) (fC (.int 0)))) (fName 5) ((List.range' k n).map fun i => .int (i : Nat)) acc [.io m, .sh o, .sh w, .ow fo, jS nm, .no] = .ok (acc ++ ((List.range' k n).filter p).map fun i => .int (i : Nat)) [.io m', .sh o, .sh w, .ow fo, jS nm, .no]
  | 0, k, m, acc, hm, _ => ⟨fun _ => true, m, hm, by simp [lcF_nil]⟩
  | n + 1, k, m, acc, hm, hl => by
    obtain ⟨d, m1, e, hd0, hd1, hm1⟩ := x_draw hm 2 (by decide) (by decide)
    have hs : acc.length < sizeLine := by rw [sizeLine_eq]; omega
    by_cases h : d = 0
    · obtain ⟨p, m', hm', h2⟩ := tl_lot K1 o w fo nm n (k + 1) m1 (acc ++ [.int (k : Nat)]) hm1 (by rw [List.length_append, List.length_singleton]; omega)
      refine ⟨fun i => if i = k then true else p i, m', hm', ?_⟩
      have hf : (List.range' (k + 1) n).filter (fun i => if i = k then true else p i) = (List.range' (k + 1) n).filter p := List.filter_congr fun i hi => by
        have := (List.mem_range'_1.mp hi).1
        rw [if_neg (by omega)]
      rw [List.range'_succ, List.map_cons, lcF_cons, List.filter_cons_of_pos (by simp), hf, List.map_cons]
      rw [List.append_assoc] at h2
      rw [show MV.int (k : Nat) :: List.map (fun i => MV.int (i : Nat)) (List.filter p (List.range' (k + 1) n)) = [MV.int (k : Nat)] ++ List.map (fun i => MV.int (i : Nat)) (List.filter p (List.range' (k + 1) n)) from rfl, ← h2]
      cases nm <;> simp [e, h, hs, jS]
    · obtain ⟨p, m', hm', h2⟩ := tl_lot K1 o w fo nm n (k + 1) m1 acc hm1 (by omega)
      refine ⟨fun i => if i = k then false else p i, m', hm', ?_⟩
      have hf : (List.range' (k + 1) n).filter (fun i => if i = k then false else p i) = (List.range' (k + 1) n).filter p := List.filter_congr fun i hi => by
        have := (List.mem_range'_1.mp hi).1
        rw [if_neg (by omega)]
      rw [List.range'_succ, List.map_cons, lcF_cons, List.filter_cons_of_neg (by simp), hf, ← h2]
      cases nm <;> simp [e, h, hs, jS]
def tlB : Rho → SRes := (gIf (fB (fOp (gOr (gIn false) (gInDic false)) (fName 4) (fC (.str "pqrstuvwxyz")))) (gExpr (fMut uAppend 3 (fCons (fCall 2 (some 0) F__law_draw (fCons (fName 0) (fCons (fName 2) fNil))) fNil))) (gExpr (fMut uAppend 3 (fCons (fCB gTuple (fCons (fLc [5] (fRange1 (fCons (fName 2) fNil)) (uName 5) (fB (fOp gEq (fCall 2 (some 0) F__law_draw (fCons (fName 0) (fCons (fC (.int 2)) fNil))) (fC (.int 0)))) (fName 5)) fNil)) fNil))))
theorem rgM_0 (n : Nat) : rgM 0 n = (List.range' 0 n).map fun i => .int (i : Nat) := by
  unfold rgM
  rw [List.range_eq_range']
  simp
def tlR (m o : MV) (n : Nat) (fo : List MV) (nm : Option MV) : Rho := [.io m, .sh o, .sh (.int (n : Nat)), .ow (.lst fo), jS nm, .no]
theorem tl_P {m m1 o : MV} {n i : Nat} {fo : List MV} {nm : Option MV} {x : Str} (h : isP x) (e : F__law_draw [.io m, .sh (.int (n : Nat))] = .ret (.v (.int (i : Nat))) [.io m1, .no]) (hs : fo.length < sizeLine) : tlB (tlR m o n fo (some (S x))) = .nx (tlR m1 o n (fo ++ [.int (i : Nat)]) (some (S x))) := by
  simp [tlB, tlR, jS, gOr, (pin h).1, e, hs]
theorem tl_L {m m1 o : MV} {n : Nat} {fo ys : List MV} {nm : Option MV} {x : Str} (h : isL x) (hn : n < 100) (e : lcF [5] (uName 5) (fB (fOp gEq (fCall 2 (some 0) F__law_draw (fCons (fName 0) (fCons (fC (.int 2)) fNil))) (fC (.int 0)))) (fName 5) (rgM 0 n) [] (tlR m o n fo (some (S x))) = .ok ys (tlR m1 o n fo (some (S x)))) (hs : fo.length < sizeLine) : tlB (tlR m o n fo (some (S x))) = .nx (tlR m1 o n (fo ++ [.tup ys]) (some (S x))) := by
  have hr := sm62 (i := (n : Nat)) (by omega) (by omega)
  simp only [tlR, jS] at e
  simp [-small62_s, tlB, tlR, jS, gOr, (lin h).1, e, hs, hr]
theorem tl_U (m o : MV) (n : Nat) (fo : List MV) (nm : Option MV) (x : Str) : uName 4 (S x) (tlR m o n fo nm) = some (tlR m o n fo (some (S x))) := by
  cases nm <;> simp [tlR, jS]
theorem tl_run (o : MV) (n : Nat) (hn : 0 < n) (hn2 : n < 100) : ∀ (xs : List Str) (m : MV) (fo : List MV) (nm : Option MV), Hand m → fo.length + xs.length < 1000 → (∀ x ∈ xs, isP x ∨ isL x) → ∃ (ws : List (Str × Wo)) (m' : MV) (nm' : Option MV), Hand m' ∧ xs = ws.map Prod.fst ∧ (∀ q ∈ ws, Fit n q.1 q.2) ∧
    forF (uName 4) tlB (xs.map S) (tlR m o n fo nm) = .nx (tlR m' o n (fo ++ ws.map fun q => q.2.enc n) nm')
  | [], m, fo, nm, hm, _, _ => ⟨[], m, nm, hm, rfl, by simp, by simp⟩
  | x :: xs, m, fo, nm, hm, hl, hx => by
    rw [List.length_cons] at hl
    have hs : fo.length < sizeLine := by rw [sizeLine_eq]; omega
    rcases hx x List.mem_cons_self with h | h
    · obtain ⟨d, m1, e, hd0, hd1, hm1⟩ := x_draw hm n (by omega) (by omega)
      obtain ⟨i, rfl⟩ : ∃ i : Nat, d = i := ⟨d.toNat, by omega⟩
      obtain ⟨ws, m', nm', hm', hx', hw, e2⟩ := tl_run o n hn hn2 xs m1 (fo ++ [.int (i : Nat)]) (some (S x)) hm1 (by rw [List.length_append, List.length_singleton]; omega) fun y hy => hx y (List.mem_cons_of_mem _ hy)
      refine ⟨(x, .pl i) :: ws, m', nm', hm', by rw [List.map_cons, hx'], fun q hq => ?_, ?_⟩
      · rcases List.mem_cons.mp hq with rfl | hq
        · exact ⟨h, by omega⟩
        · exact hw q hq
      · rw [List.append_assoc] at e2
        rw [List.map_cons, forF_cons, tl_U]
        simp only [tl_P (nm := nm) h e hs, loopS_nx]
        exact e2
    · obtain ⟨p, m1, hm1, e⟩ := tl_lot [] o (.int (n : Nat)) (.lst fo) (some (S x)) n 0 m [] hm (by simp; omega)
      obtain ⟨ws, m', nm', hm', hx', hw, e2⟩ := tl_run o n hn hn2 xs m1 (fo ++ [.tup (((List.range n).filter p).map fun i => .int (i : Nat))]) (some (S x)) hm1 (by rw [List.length_append, List.length_singleton]; omega) fun y hy => hx y (List.mem_cons_of_mem _ hy)
      rw [← rgM_0, List.nil_append, ← List.range_eq_range'] at e
      refine ⟨(x, .lot p) :: ws, m', nm', hm', by rw [List.map_cons, hx'], fun q hq => ?_, ?_⟩
      · rcases List.mem_cons.mp hq with rfl | hq
        · exact h
        · exact hw q hq
      · rw [List.append_assoc] at e2
        rw [List.map_cons, forF_cons, tl_U]
        simp only [tl_L (nm := nm) h hn2 e hs, loopS_nx]
        exact e2
theorem x_telling {m : MV} (hm : Hand m) (n : Nat) (hn : 0 < n) (hn2 : n < 100) (xs : List Str) (hl : xs.length ≤ 3) (hx : ∀ x ∈ xs, isP x ∨ isL x) : ∃ (ws : List (Str × Wo)) (m' : MV), Hand m' ∧ xs = ws.map Prod.fst ∧ (∀ q ∈ ws, Fit n q.1 q.2) ∧
    F__law_telling [.io m, .sh (.tup (xs.map S)), .sh (.int (n : Nat))] = .ret (.v (.tup (ws.map fun q => q.2.enc n))) [.io m', .no, .no] := by
  obtain ⟨ws, m', nm', hm', hx', hw, e⟩ := tl_run (.tup (xs.map S)) n hn hn2 xs m [] none hm (by simp; omega) hx
  refine ⟨ws, m', hm', hx', hw, ?_⟩
  have e1 : g__law_telling [.io m, .sh (.tup (xs.map S)), .sh (.int (n : Nat)), .no, .no, .no] = (forF (uName 4) tlB (xs.map S) (tlR m (.tup (xs.map S)) n [] none)).seq (gRet (fCB gTuple (fCons (fName 3) fNil))) := by
    simp [g__law_telling, tlB, tlR, jS]
  rw [e, seq_nx] at e1
  have e2 : F__law_telling [.io m, .sh (.tup (xs.map S)), .sh (.int (n : Nat))] = finF 3 (g__law_telling [.io m, .sh (.tup (xs.map S)), .sh (.int (n : Nat)), .no, .no, .no]) := rfl
  rw [e2, e1]
  simp [tlR]
theorem x_lpow (k : Nat) (h : k ≤ 3) : F__law_power [.sh (.int (k : Nat))] = .ret (.v (.int ((2 ^ k : Nat) : Int))) [.no] := by
  match k, h with
  | 0, _ => rfl
  | 1, _ => rfl
  | 2, _ => rfl
  | 3, _ => rfl
end W05
namespace DL
open PySem PySem.Spec PyProof.Rows L2 LamX
/-! lists told by their places -/
theorem enumM_rm (f : Nat → MV) : ∀ (n k a : Nat), enumM k ((List.range' a n).map f) = (List.range' a n).map fun i => .tup [.int ((k + (i - a) : Nat) : Int), f i]
  | 0, k, a => rfl
  | n + 1, k, a => by
    rw [List.range'_succ, List.map_cons, List.map_cons, enumM, enumM_rm f n (k + 1) (a + 1), Nat.sub_self, Nat.add_zero]
    congr 1
    apply List.map_congr_left
    intro i hi
    have := (List.mem_range'_1.mp hi).1
    rw [show k + 1 + (i - (a + 1)) = k + (i - a) from by omega]
theorem enum_rm (f : Nat → MV) (n : Nat) : enumM 0 ((List.range n).map f) = (List.range n).map fun i => .tup [.int (i : Nat), f i] := by
  rw [List.range_eq_range', enumM_rm]
  apply List.map_congr_left
  intro i hi
  rw [show 0 + (i - 0) = i from by omega]
theorem zip_map {α β : Type} (f : α → MV) (g : β → MV) : ∀ (xs : List α) (ys : List β), zipM (xs.map f) (ys.map g) = (xs.zip ys).map fun q => .tup [f q.1, g q.2]
  | [], _ => by simp [zipM]
  | _ :: _, [] => by simp [zipM]
  | x :: xs, y :: ys => by rw [List.map_cons, List.map_cons, zipM, zip_map f g xs ys]; rfl
theorem zip_self {α : Type} (f g : α → MV) : ∀ xs : List α, zipM (xs.map f) (xs.map g) = xs.map fun x => .tup [f x, g x]
  | [] => by simp [zipM]
  | x :: xs => by rw [List.map_cons, List.map_cons, zipM, zip_self f g xs]; rfl
/-- a loop over a list told by its places -/
theorem for_rm {J : Type} {u : MV → Rho → Option Rho} {b : Rho → SRes} (g : Nat → MV) (R : Nat → J → Rho) : ∀ (n k : Nat) (j : J), (∀ i, k ≤ i → i < k + n → ∀ (j : J) (rest : List MV), ∃ j', forF u b (g i :: rest) (R i j) = forF u b rest (R (i + 1) j')) → ∃ j', forF u b ((List.range' k n).map g) (R k j) = .nx (R (k + n) j')
  | 0, k, j, _ => ⟨j, rfl⟩
  | n + 1, k, j, h => by
    obtain ⟨j1, e1⟩ := h k (Nat.le_refl _) (by omega) j ((List.range' (k + 1) n).map g)
    obtain ⟨j2, e2⟩ := for_rm g R n (k + 1) j1 fun i h1 h2 => h i (by omega) (by omega)
    refine ⟨j2, ?_⟩
    rw [List.range'_succ, List.map_cons, e1, e2, show k + 1 + n = k + (n + 1) from by omega]
theorem for_rg {J : Type} {u : MV → Rho → Option Rho} {b : Rho → SRes} (g : Nat → MV) (R : Nat → J → Rho) (n : Nat) (j : J) (h : ∀ i, i < n → ∀ (j : J) (rest : List MV), ∃ j', forF u b (g i :: rest) (R i j) = forF u b rest (R (i + 1) j')) : ∃ j', forF u b ((List.range n).map g) (R 0 j) = .nx (R n j') := by
  obtain ⟨j', e⟩ := for_rm g R n 0 j fun i _ h2 => h i (by omega)
  refine ⟨j', ?_⟩
  rw [List.range_eq_range', e, Nat.zero_add]
theorem lc_if {vs : List Nat} {u : MV → Rho → Option Rho} {t : Rho → Res Bool} {e : Rho → Res RV} {α : Type} {inj : α → MV} {g : α → MV} {p : α → Bool} {ρ : Rho} : ∀ (xs : List α) (acc : List MV), acc.length + xs.length ≤ 1000000 →
    (∀ x ∈ xs, ∀ acc ms, acc.length < sizeLine → lcF vs u t e (inj x :: ms) acc ρ = lcF vs u t e ms (if p x = true then acc ++ [g x] else acc) ρ) → lcF vs u t e (xs.map inj) acc ρ = .ok (acc ++ (xs.filter p).map g) ρ
  | [], acc, _, _ => by rw [List.map_nil, lcF_nil, List.filter_nil, List.map_nil, List.append_nil]
  | x :: xs, acc, hl, h => by
    rw [List.length_cons] at hl
    rw [List.map_cons, h x List.mem_cons_self acc _ (by rw [sizeLine_eq]; omega)]
    cases hp : p x with
    | true =>
      rw [if_pos rfl, lc_if xs _ (by rw [List.length_append, List.length_singleton]; omega) fun y hy => h y (List.mem_cons_of_mem _ hy), List.filter_cons_of_pos hp, List.map_cons, List.append_assoc]
      rfl
    | false =>
      rw [if_neg (by decide), lc_if xs _ (by omega) fun y hy => h y (List.mem_cons_of_mem _ hy), List.filter_cons_of_neg (by simp [hp])]
theorem lc_all {vs : List Nat} {u : MV → Rho → Option Rho} {t : Rho → Res Bool} {e : Rho → Res RV} {α : Type} {inj : α → MV} {g : α → MV} {ρ : Rho} : ∀ (xs : List α) (acc : List MV), acc.length + xs.length ≤ 1000000 →
    (∀ x ∈ xs, ∀ acc ms, acc.length < sizeLine → lcF vs u t e (inj x :: ms) acc ρ = lcF vs u t e ms (acc ++ [g x]) ρ) → lcF vs u t e (xs.map inj) acc ρ = .ok (acc ++ xs.map g) ρ
  | [], acc, _, _ => by rw [List.map_nil, lcF_nil, List.map_nil, List.append_nil]
  | x :: xs, acc, hl, h => by
    rw [List.length_cons] at hl
    rw [List.map_cons, h x List.mem_cons_self acc _ (by rw [sizeLine_eq]; omega), lc_all xs _ (by rw [List.length_append, List.length_singleton]; omega) fun y hy => h y (List.mem_cons_of_mem _ hy), List.map_cons, List.append_assoc]
    rfl
theorem rm_of {α : Type} (d : α) (xs : List α) : xs = (List.range xs.length).map fun i => xs.getD i d := by
  apply List.ext_getElem
  · simp
  · intro i h1 h2
    rw [List.getElem_map, List.getElem_range, List.getD_eq_getElem?_getD, List.getElem?_eq_getElem h1, Option.getD_some]
end DL
namespace W05
open PySem PySem.Spec PyProof.Rows L2 DL LamX
def bitN (s a : Nat) : Nat := s / 2 ^ a % 2
def gI (s : Nat) : MV := .int (s : Nat)
def L (n : Nat) (lab : Nat → Nat) : List MV := (List.range n).map fun i => .int (lab i : Nat)
def pOn (n : Nat) (lab : Nat → Nat) (a : Nat) : List Nat := (List.range n).filter fun i => decide (bitN (lab i) a = 1)
theorem L_len (n : Nat) (lab : Nat → Nat) : (L n lab).length = n := by simp [L]
theorem L_gI (n : Nat) (lab : Nat → Nat) : L n lab = ((List.range n).map lab).map gI := by simp [L, gI]
theorem x_bit_of (s a : Nat) (ha : a ≤ 3) : F_bit_of [.sh (.int (s : Nat)), .sh (.int (a : Nat))] = .ret (.v (.int (bitN s a : Nat))) [.no, .no] := by
  have hp := x_pow a ha
  match a, ha with
  | 0, _ => simp at hp; simp [F_bit_of, g_bit_of, fnOf, hp, bitN]; omega
  | 1, _ => simp at hp; simp [F_bit_of, g_bit_of, fnOf, hp, bitN]; omega
  | 2, _ => simp at hp; simp [F_bit_of, g_bit_of, fnOf, hp, bitN]; omega
  | 3, _ => simp at hp; simp [F_bit_of, g_bit_of, fnOf, hp, bitN]; omega
theorem x_places_on (n : Nat) (lab : Nat → Nat) (a : Nat) (ha : a ≤ 3) (hn : n ≤ 100) : F_places_on [.sh (.tup (L n lab)), .sh (.int (a : Nat))] = .ret (.v (.tup ((pOn n lab a).map gI))) [.no, .no] := by
  have e : lcF [2, 3] (uTup 2 (uCons (uName 2) (uCons (uName 3) uNil))) (fB (fOp gEq (fCall 2 none F_bit_of (fCons (fName 3) (fCons (fName 1) fNil))) (fC (.int 1)))) (fName 2) ((List.range n).map fun i => .tup [.int (i : Nat), .int (lab i : Nat)]) [] [.sh (.tup (L n lab)), .sh (.int (a : Nat)), .no, .no] = .ok ([] ++ (pOn n lab a).map gI) [.sh (.tup (L n lab)), .sh (.int (a : Nat)), .no, .no] := by
    refine lc_if (List.range n) [] (by simp; omega) fun i _ acc ms hs => ?_
    rw [lcF_cons]
    have hb := x_bit_of (lab i) a ha
    by_cases h : bitN (lab i) a = 1
    · simp [hb, h, hs, gI]
    · have h' : ¬ ((bitN (lab i) a : Int) = 1) := by omega
      simp [hb, h, h']
  simp [F_places_on, g_places_on, fnOf, L, enum_rm] at e ⊢
  simp [e]
end W05
namespace W05
open PySem PySem.Spec PyProof.Rows L2 DL LamX
instance isL_dec (x : Str) : Decidable (isL x) := by unfold isL; infer_instance
theorem PnL {x : Str} (h : isP x) : ¬ isL x := by
  unfold isP at h
  simp only [List.mem_cons, List.not_mem_nil, or_false] at h
  rcases h with rfl | rfl | rfl | rfl <;> decide
theorem lname {x : Str} (h : isP x ∨ isL x) : F_is_lot_name [.sh (S x)] = .ret (.v (.bl (decide (isL x)))) [.no] := by
  rcases h with h | h
  · rw [x_pname h, decide_eq_false (PnL h)]
  · rw [x_lname h, decide_eq_true h]
theorem fit_or {n : Nat} {x : Str} {w : Wo} (h : Fit n x w) : isP x ∨ isL x := by
  cases w with
  | pl i => exact .inl h.1
  | lot p => exact .inr h
theorem on_lot (n : Nat) (p : Nat → Bool) (j : Nat) (hj : j < n) : decide ((j : Int) ∈ ((List.range n).filter p).map fun i => ((i : Nat) : Int)) = p j := by
  cases hp : p j with
  | true =>
    rw [decide_eq_true_eq, List.mem_map]
    exact ⟨j, List.mem_filter.mpr ⟨List.mem_range.mpr hj, hp⟩, rfl⟩
  | false =>
    rw [decide_eq_false_iff_not, List.mem_map]
    rintro ⟨i, hi, e⟩
    have : i = j := by omega
    subst this
    have := (List.mem_filter.mp hi).2
    rw [hp] at this
    cases this
theorem x_has_told {n : Nat} {x : Str} {w : Wo} (h : Fit n x w) (j : Nat) (hj : j < n) : F_has_told [.sh (S x), .sh (w.enc n), .sh (.int (j : Nat))] = .ret (.v (.bl (w.on j))) [.no, .no, .no] := by
  cases w with
  | pl i =>
    have e := x_pname h.1
    by_cases hji : j = i
    · subst hji
      simp [F_has_told, g_has_told, fnOf, e, Wo.enc, Wo.on]
    · have : ¬ ((j : Int) = (i : Int)) := by omega
      simp [F_has_told, g_has_told, fnOf, e, Wo.enc, Wo.on, hji, this]
  | lot p =>
    have e := x_lname h
    have e2 := in_ints (fun i : Nat => (i : Int)) (j : Nat) ((List.range n).filter p)
    rw [on_lot n p j hj] at e2
    simp [F_has_told, g_has_told, fnOf, e, Wo.enc, Wo.on, gOr, e2]
/-! ### judges of tellings -/
theorem all_true {α : Type} {p : α → Bool} {xs : List α} (h : ∀ x ∈ xs, p x = true) : (xs.map p).all id = true := by
  rw [List.all_map, List.all_eq_true]
  exact h
theorem x_are_within (l : List Nat) (b : Int) (h : ∀ i ∈ l, (i : Int) ≤ b) (hl : l.length ≤ 1000) : F_are_within [.sh (.tup (l.map gI)), .sh (.int 0), .sh (.int b)] = .ret (.v (.bl true)) [.no, .no, .no] := by
  have e : lcF [3] (uName 3) tsNil (fCall 3 none F_is_within (fCons (fName 3) (fCons (fName 1) (fCons (fName 2) fNil)))) (l.map gI) [] [.sh (.tup (l.map gI)), .sh (.int 0), .sh (.int b), .no] = .ok ([] ++ l.map fun _ => MV.bl true) [.sh (.tup (l.map gI)), .sh (.int 0), .sh (.int b), .no] := by
    refine lc_all l [] (by simp; omega) fun i hi acc ms hs => ?_
    have := h i hi
    rw [lcF_cons]
    simp [gI, x_is_within, this, hs]
  have e2 : (l.map fun _ => true).all id = true := all_true fun _ _ => rfl
  have e3 : asBls (l.map fun _ => MV.bl true) = some (l.map fun _ => true) := asBls_map (fun _ => true) l
  simp only [List.nil_append] at e
  simp only [F_are_within, g_are_within]
  simp [e, e3, -List.map_const', -asBls_map]
theorem zip_lt : ∀ l : List Nat, l.Pairwise (· < ·) → ∀ q ∈ l.zip (l.drop 1), q.1 < q.2
  | [], _, q, hq => by simp at hq
  | [a], _, q, hq => by simp at hq
  | a :: b :: l, h, q, hq => by
    rw [List.drop_one, List.tail_cons, List.zip_cons_cons] at hq
    rcases List.mem_cons.mp hq with rfl | hq
    · exact (List.pairwise_cons.mp h).1 b List.mem_cons_self
    · exact zip_lt (b :: l) (List.pairwise_cons.mp h).2 q (by rw [List.drop_one, List.tail_cons]; exact hq)
theorem x_is_rising (l : List Nat) (h : l.Pairwise (· < ·)) (hl : l.length ≤ 1000) : F_is_rising [.sh (.tup (l.map gI))] = .ret (.v (.bl true)) [.no] := by
  have e : lcF [1, 2] (uTup 2 (uCons (uName 1) (uCons (uName 2) uNil))) tsNil (fOp gLt (fName 1) (fName 2)) ((l.zip (l.drop 1)).map fun q => .tup [gI q.1, gI q.2]) [] [.sh (.tup (l.map gI)), .no, .no] = .ok ([] ++ (l.zip (l.drop 1)).map fun _ => MV.bl true) [.sh (.tup (l.map gI)), .no, .no] := by
    refine lc_all _ [] (by simp; omega) fun q hq acc ms hs => ?_
    have h1 := zip_lt l h q hq
    have h2 : ((q.1 : Nat) : Int) < (q.2 : Nat) := by omega
    rw [lcF_cons]
    simp [gI, h2, hs, gLt, gOrd]
  have e3 : asBls ((l.zip (l.drop 1)).map fun _ => MV.bl true) = some ((l.zip (l.drop 1)).map fun _ => true) := asBls_map (fun _ => true) _
  have c := cut_2 (l.map gI) 1
  have hz : zipM (l.map gI) ((l.map gI).drop 1) = (l.zip (l.drop 1)).map fun q => .tup [gI q.1, gI q.2] := by
    rw [← List.map_drop, zip_map]
  simp only [List.nil_append] at e
  have c' : cutL (l.map gI) (some 1) none = (l.map gI).drop 1 := c
  simp only [F_is_rising, g_is_rising]
  simp [-cutL_s, -List.drop_one, c', hz, e, e3, -List.map_const', -asBls_map]
end W05
namespace W05
open PySem PySem.Spec PyProof.Rows L2 DL LamX
theorem enc_gI (n : Nat) (p : Nat → Bool) : (Wo.lot p).enc n = .tup (((List.range n).filter p).map gI) := rfl
theorem x_is_lot (n : Nat) (p : Nat → Bool) (hn : n ≤ 100) : F_is_lot [.sh ((Wo.lot p).enc n), .sh (.int (n : Nat))] = .ret (.v (.bl true)) [.no, .no] := by
  have hl : ((List.range n).filter p).length ≤ 1000 := by
    have := List.length_filter_le p (List.range n)
    rw [List.length_range] at this
    omega
  have e1 := x_are_within ((List.range n).filter p) ((n : Int) - 1) (fun i hi => by
    have := List.mem_range.mp (List.mem_filter.mp hi).1
    omega) hl
  have e2 := x_is_rising ((List.range n).filter p) (List.Pairwise.filter p List.pairwise_lt_range) hl
  rw [enc_gI]
  simp [F_is_lot, g_is_lot, fnOf, e1, e2]
theorem x_is_worth {n : Nat} {x : Str} {w : Wo} (h : Fit n x w) (hn : n ≤ 100) : F_is_worth [.sh (S x), .sh (.int (n : Nat)), .sh (w.enc n)] = .ret (.v (.bl true)) [.no, .no, .no] := by
  cases w with
  | pl i =>
    have e := x_pname h.1
    have h1 : (i : Int) ≤ (n : Int) - 1 := by have := h.2; omega
    simp [F_is_worth, g_is_worth, fnOf, e, Wo.enc, x_is_within, h1]
  | lot p =>
    have e := x_lname h
    have e2 := x_is_lot n p hn
    simp [F_is_worth, g_is_worth, fnOf, e, e2]
def NS (k : Nat) (nm : Nat → Str) : List MV := (List.range k).map fun a => .str (nm a)
def TW (n k : Nat) (wo : Nat → Wo) : List MV := (List.range k).map fun a => (wo a).enc n
theorem NS_len (k : Nat) (nm : Nat → Str) : (NS k nm).length = k := by simp [NS]
theorem TW_len (n k : Nat) (wo : Nat → Wo) : (TW n k wo).length = k := by simp [TW]
theorem x_raw_is_telling {n k : Nat} {nm : Nat → Str} {wo : Nat → Wo} (h : ∀ a, a < k → Fit n (nm a) (wo a)) (hk : k ≤ 3) (hn : n ≤ 100) : F_raw_is_telling [.sh (.tup (NS k nm)), .sh (.int (n : Nat)), .sh (.tup (TW n k wo))] = .ret (.v (.bl true)) [.no, .no, .no] := by
  have e : lcF [3, 4] (uTup 2 (uCons (uName 3) (uCons (uName 4) uNil))) tsNil (fCall 3 none F_is_worth (fCons (fName 3) (fCons (fName 1) (fCons (fName 4) fNil)))) ((List.range k).map fun a => .tup [.str (nm a), (wo a).enc n]) [] [.sh (.tup (NS k nm)), .sh (.int (n : Nat)), .sh (.tup (TW n k wo)), .no, .no] = .ok ([] ++ (List.range k).map fun _ => MV.bl true) [.sh (.tup (NS k nm)), .sh (.int (n : Nat)), .sh (.tup (TW n k wo)), .no, .no] := by
    refine lc_all _ [] (by simp; omega) fun a ha acc ms hs => ?_
    have h1 := x_is_worth (h a (List.mem_range.mp ha)) hn
    rw [lcF_cons]
    simp [h1, hs]
  have e3 : asBls ((List.range k).map fun _ => MV.bl true) = some ((List.range k).map fun _ => true) := asBls_map (fun _ => true) _
  have hz : zipM (NS k nm) (TW n k wo) = (List.range k).map fun a => .tup [.str (nm a), (wo a).enc n] := zip_self _ _ _
  simp only [List.nil_append] at e
  simp only [F_raw_is_telling, g_raw_is_telling]
  simp [NS_len, TW_len, hz, e, e3, -List.map_const', -asBls_map]
theorem x_raw_no_telling {n k : Nat} {nm : Nat → Str} (tw : List MV) (h : ¬ tw.length = k) : F_raw_is_telling [.sh (.tup (NS k nm)), .sh (.int (n : Nat)), .sh (.tup tw)] = .ret (.v (.bl false)) [.no, .no, .no] := by
  have h' : ¬ ((tw.length : Int) = (k : Int)) := by omega
  simp [F_raw_is_telling, g_raw_is_telling, fnOf, NS_len, h']
/-! ### trees -/
section
variable {α : Type} {f : α → MV}
theorem x_raw_size (h : ∀ a, (f a).isD = true) (t : Tr α) (hz : t.size ≤ 400) : F_raw_size [.sh (Tr.enc f t)] = .ret (.v (.int (t.size : Nat))) [.no] := by
  have e := x_parts h t hz
  simp [F_raw_size, g_raw_size, fnOf, e, Tr.subs_len]
theorem subs_node : ∀ (t : Tr α) (u : Tr α), u ∈ t.subs → ∃ a l r, u = .n a l r
  | .e, u, h => by simp [Tr.subs] at h
  | .n a l r, u, h => by
    rw [Tr.subs] at h
    rcases List.mem_cons.mp h with rfl | h
    · exact ⟨_, _, _, rfl⟩
    · rcases List.mem_append.mp h with h | h
      · exact subs_node l u h
      · exact subs_node r u h
def hd (f : α → MV) : Tr α → MV
  | .e => .non
  | .n a _ _ => f a
theorem subs_hd : ∀ t : Tr α, t.subs.map (hd f) = t.pre.map f
  | .e => rfl
  | .n a l r => by rw [Tr.subs, Tr.pre, List.map_cons, List.map_cons, List.map_append, List.map_append, subs_hd l, subs_hd r]; rfl
theorem x_raw_symbols (h : ∀ a, (f a).isD = true) (t : Tr α) (hz : t.size ≤ 400) : F_raw_symbols [.sh (Tr.enc f t)] = .ret (.v (.tup (t.pre.map f))) [.no] := by
  have e := x_parts h t hz
  have e2 : lcF [1] (uName 1) tsNil (fOp (gOr gIx gIxDic) (fName 1) (fC (.int 0))) (t.subs.map (Tr.enc f)) [] [.sh (Tr.enc f t), .no] = .ok ([] ++ t.subs.map (hd f)) [.sh (Tr.enc f t), .no] := by
    refine lc_all _ [] (by rw [Tr.subs_len]; simp; omega) fun u hu acc ms hs => ?_
    obtain ⟨a, l, r, rfl⟩ := subs_node t u hu
    rw [lcF_cons]
    simp [Tr.enc, gOr, hs, hd]
  rw [List.nil_append, subs_hd] at e2
  simp only [F_raw_symbols, g_raw_symbols]
  simp [e, e2]
end
theorem gI_isD (s : Nat) : (gI s).isD = true := rfl
theorem gI_key (s : Nat) : keyN (gI s) := ⟨rfl, rfl⟩
theorem ltr_key (b : Bool) : keyN (ltr b) := by cases b <;> exact ⟨rfl, rfl⟩
/-- the marked tree with these symbols -/
def mt (t : Tr Bool) (lab : Nat → Nat) : MV := Tr.enc gI (Tr.fill lab t 0)
theorem mt_pre (t : Tr Bool) (lab : Nat → Nat) : (Tr.fill lab t 0).pre.map gI = L t.size lab := by
  rw [Tr.fill_pre, L_gI, List.range_eq_range']
theorem lab_at {α : Type} (lab : Nat → α) (n : Nat) (i : Nat) (x : α) (h : ((List.range n).map lab)[i]? = some x) : lab i = x := by
  rw [List.getElem?_map] at h
  by_cases hi : i < n
  · rw [List.getElem?_range hi] at h
    simpa using h
  · rw [List.getElem?_eq_none (by rw [List.length_range]; omega)] at h
    cases h
theorem enc_id {α γ : Type} (g : γ → MV) (lab : Nat → γ) : ∀ (t : Tr α) (k : Nat), Tr.enc id (Tr.fill (fun i => g (lab i)) t k) = Tr.enc g (Tr.fill lab t k)
  | .e, _ => rfl
  | .n a l r, k => by rw [Tr.fill, Tr.fill, Tr.enc, Tr.enc, enc_id g lab l, enc_id g lab r]; rfl
theorem x_law_put (t : Tr Bool) (lab : Nat → Nat) (hz : t.size < 20) : F__law_put [.sh (Tr.enc ltr t), .sh (.lst (L t.size lab))] = .ret (.v (mt t lab)) [.no, .no] := by
  rw [X_put ltr_isD (fun i => gI (lab i)) t (L t.size lab) hz (L_len _ _) fun i x h => lab_at (fun i => gI (lab i)) t.size i x h, enc_id gI lab t 0]
  rfl
theorem x_mark_signs (t : Tr Bool) (lab : Nat → Nat) (hz : t.size ≤ 400) : F_with_signs [.sh (Tr.enc ltr t), .sh (.lst (L t.size lab))] = .ret (.v (mt t lab)) [.no, .no] := by
  rw [L_gI]
  exact x_with_signs ltr_isD gI gI_key lab t ((List.range t.size).map lab) (by simp) (fun i x h => lab_at lab t.size i x h) hz
theorem x_mark_again (t : Tr Bool) (lab lab' : Nat → Nat) (hz : t.size ≤ 400) : F_with_signs [.sh (mt t lab'), .sh (.lst (L t.size lab))] = .ret (.v (mt t lab)) [.no, .no] := by
  have := x_with_signs gI_isD gI gI_key lab (Tr.fill lab' t 0) ((List.range t.size).map lab) (by rw [Tr.fill_size]; simp) (fun i x h => lab_at lab t.size i x h) (by rw [Tr.fill_size]; exact hz)
  rw [Tr.fill_fill] at this
  rw [L_gI]
  exact this
theorem x_mark_back (t : Tr Bool) (lab : Nat → Nat) (lt : Nat → Bool) (h : ∀ (i : Nat) (b : Bool), t.pre[i]? = some b → lt i = b) (hz : t.size ≤ 400) : F_with_signs [.sh (mt t lab), .sh (.lst ((List.range t.size).map fun i => ltr (lt i)))] = .ret (.v (Tr.enc ltr t)) [.no, .no] := by
  have := x_with_signs gI_isD ltr ltr_key lt (Tr.fill lab t 0) ((List.range t.size).map lt) (by rw [Tr.fill_size]; simp) (fun i x h => lab_at lt t.size i x h) (by rw [Tr.fill_size]; exact hz)
  rw [Tr.fill_fill, Tr.fill_self t t 0 lt fun i a ha => by rw [Nat.zero_add]; exact h i a ha, List.map_map] at this
  exact this
theorem x_mt_symbols (t : Tr Bool) (lab : Nat → Nat) (hz : t.size ≤ 400) : F_raw_symbols [.sh (mt t lab)] = .ret (.v (.tup (L t.size lab))) [.no] := by
  have := x_raw_symbols gI_isD (Tr.fill lab t 0) (by rw [Tr.fill_size]; exact hz)
  rwa [mt_pre] at this
theorem x_letter (b : Bool) : F_is_letter [.sh (ltr b)] = .ret (.v (.bl true)) [.no] := by cases b <;> rfl
theorem x_is_tree (K : PySem.W.Frag) (t : Tr Bool) (hz : t.size ≤ 10) : F_is_tree K [.sh (Tr.enc ltr t)] = .ret (.v (.bl true)) [.no] := by
  have hd := Tr.depth_le t
  have := x_is_grown (fA := He.ga K "is_letter") (fφ := fnV 1 F_is_letter) (p := fun _ => true) (pl := 10) (dp := 10) (f := ltr) (fun a => by simp [x_letter]) t (by omega) (by omega) (by omega)
  rw [show t.pre.all (fun _ => true) = true from List.all_eq_true.mpr fun _ _ => rfl] at this
  simp only [F_is_tree, g_is_tree]
  simp [this]
theorem x_check_tree (K : PySem.W.Frag) (t : Tr Bool) (hz : t.size ≤ 10) : F_check_tree K [.sh (Tr.enc ltr t)] = .ret (.v .non) [.no] := by
  have := x_is_tree K t hz
  simp only [F_check_tree, g_check_tree]
  simp [this]
/-! ### is_marked -/
theorem x_symbols_of (k : Nat) (hk : k ≤ 3) : F_symbols_of [.sh (.int (k : Nat))] = .ret (.v (.int (2 * 2 ^ k : Nat))) [.no] := by
  match k, hk with
  | 0, _ => rfl
  | 1, _ => rfl
  | 2, _ => rfl
  | 3, _ => rfl
theorem x_raw_is_marked (k : Nat) (hk : k ≤ 3) (t : Tr Bool) (lab : Nat → Nat) (hz : t.size ≤ 10) : F_raw_is_marked [.sh (.int (k : Nat)), .sh (mt t lab), .sh (.int 10), .sh (.int 10)] = .ret (.v (.bl ((List.range t.size).all fun i => decide (lab i < 2 * 2 ^ k)))) [.no, .no, .no, .no] := by
  have hd := Tr.depth_le t
  have hs := x_symbols_of k hk
  have e : ∀ f : Addr, F_is_grown f (lamV fb_raw_is_marked_0 [.sh (.int (k : Nat)), .sh (mt t lab), .sh (.int 10), .sh (.int 10)] 1) [.sh (mt t lab), .sh (.int 10), .sh (.int 10), .sh (.fn f)] = .ret (.v (.bl ((List.range t.size).all fun i => decide (lab i < 2 * 2 ^ k)))) [.no, .no, .no, .no] := fun f => by
    have := x_is_grown (fA := f) (fφ := lamV fb_raw_is_marked_0 [.sh (.int (k : Nat)), .sh (mt t lab), .sh (.int 10), .sh (.int 10)] 1) (p := fun s : Nat => decide (s < 2 * 2 ^ k)) (pl := 10) (dp := 10) (f := gI) (fun a => by
      by_cases h : a < 2 * 2 ^ k
      · have h1 : ((a : Nat) : Int) ≤ ((2 * 2 ^ k : Nat) : Int) - 1 := by omega
        simp [fb_raw_is_marked_0, hs, x_is_within, gI, h, -Int.natCast_mul, -Int.natCast_pow, h1]
      · have h1 : ¬ ((a : Nat) : Int) ≤ ((2 * 2 ^ k : Nat) : Int) - 1 := by omega
        simp [fb_raw_is_marked_0, hs, x_is_within, gI, h, -Int.natCast_mul, -Int.natCast_pow, h1]) (Tr.fill lab t 0) (by rw [Tr.fill_size]; omega) (by rw [Tr.fill_depth]; omega) (by rw [Tr.fill_size]; omega)
    rw [Tr.fill_pre, List.all_map, ← List.range_eq_range'] at this
    exact this
  have e2 := allF_eq e
  have e3 : fCallLam 4 (fun fA fφ => fnOf 8 (g_is_grown fA fφ)) fb_raw_is_marked_0 1 (fList [fName 1, fName 2, fName 3]) [.sh (.int (k : Nat)), .sh (mt t lab), .sh (.int 10), .sh (.int 10)] = .ok (.v (.bl ((List.range t.size).all fun i => decide (lab i < 2 * 2 ^ k)))) [.sh (.int (k : Nat)), .sh (mt t lab), .sh (.int 10), .sh (.int 10)] := by
    unfold fCallLam
    have e4 : allF (fun f => fnOf 8 (g_is_grown f (lamV fb_raw_is_marked_0 [.sh (.int (k : Nat)), .sh (mt t lab), .sh (.int 10), .sh (.int 10)] 1)) [.sh (mt t lab), .sh (.int 10), .sh (.int 10), .sh (.fn f)]) = .ret (.v (.bl ((List.range t.size).all fun i => decide (lab i < 2 * 2 ^ k)))) [.no, .no, .no, .no] := e2
    simp [fList, -lamV_s, -fnOf_s, e4]
  have e5 : F_raw_is_marked [.sh (.int (k : Nat)), .sh (mt t lab), .sh (.int 10), .sh (.int 10)] = finF 4 (gRet (fCallLam 4 (fun fA fφ => fnOf 8 (g_is_grown fA fφ)) fb_raw_is_marked_0 1 (fList [fName 1, fName 2, fName 3])) [.sh (.int (k : Nat)), .sh (mt t lab), .sh (.int 10), .sh (.int 10)]) := rfl
  rw [e5, gRet_s, e3]
  simp
end W05
namespace W05
open PySem PySem.Spec PyProof.Rows L2 DL LamX
def bnd (k n : Nat) (lab : Nat → Nat) : Bool := (List.range n).all fun i => decide (lab i < 2 * 2 ^ k)
def right (k : Nat) (nm : Nat → Str) (n : Nat) (lab : Nat → Nat) : Bool := (List.range k).all fun a => decide (isL (nm a)) || decide ((pOn n lab a).length = 1)
section
variable {k : Nat} {nm : Nat → Str} {t : Tr Bool} {lab : Nat → Nat} {n : Nat}
theorem x_is_marked (hT : NS k nm ∈ TRS) (hk : k ≤ 3) (hz : t.size ≤ 10) : F_is_marked [.sh (.tup (NS k nm)), .sh (mt t lab)] = .ret (.v (.bl (bnd k t.size lab))) [.no, .no] := by
  have e1 := x_check_tracks hT
  have e2 := x_raw_is_marked k hk t lab hz
  simp only [F_is_marked, g_is_marked]
  simp [e1, e2, NS_len, bnd]
theorem x_check_marked (hT : NS k nm ∈ TRS) (hk : k ≤ 3) (hz : t.size ≤ 10) (h : bnd k t.size lab = true) : F_check_marked [.sh (.tup (NS k nm)), .sh (mt t lab)] = .ret (.v .non) [.no, .no] := by
  have e1 := x_is_marked (t := t) (lab := lab) hT hk hz
  simp only [F_check_marked, g_check_marked]
  simp [e1, h]
theorem x_check_not (hT : NS k nm ∈ TRS) (hk : k ≤ 3) (hz : t.size ≤ 10) (h : bnd k t.size lab = false) : F_check_marked [.sh (.tup (NS k nm)), .sh (mt t lab)] = .ex ⟨"NoMarked", none⟩ [.no, .no] := by
  have e1 := x_is_marked (t := t) (lab := lab) hT hk hz
  simp only [F_check_marked, g_check_marked]
  simp [e1, h]
theorem x_symbols_many (hT : NS k nm ∈ TRS) (hk : k ≤ 3) : F_symbols_many [.sh (.tup (NS k nm))] = .ret (.v (.int (2 * 2 ^ k : Nat))) [.no] := by
  have e1 := x_check_tracks hT
  have e2 := x_symbols_of k hk
  simp only [F_symbols_many, g_symbols_many]
  simp [e1, e2, NS_len]
theorem x_symbols_of_tree (hT : NS k nm ∈ TRS) (hk : k ≤ 3) (hz : t.size ≤ 10) (h : bnd k t.size lab = true) : F_symbols_of_tree [.sh (.tup (NS k nm)), .sh (mt t lab)] = .ret (.v (.tup (L t.size lab))) [.no, .no] := by
  have e1 := x_check_marked hT hk hz h
  have e2 := x_mt_symbols t lab (by omega)
  simp only [F_symbols_of_tree, g_symbols_of_tree]
  simp [e1, e2]
theorem x_raw_is_right (hN : ∀ a, a < k → isP (nm a) ∨ isL (nm a)) (hk : k ≤ 3) (hn : n ≤ 100) : F_raw_is_right [.sh (.tup (NS k nm)), .sh (.tup (L n lab))] = .ret (.v (.bl (right k nm n lab))) [.no, .no] := by
  have e : lcF [2, 3] (uTup 2 (uCons (uName 2) (uCons (uName 3) uNil))) tsNil (fOrV (fCall 1 none F_is_lot_name (fCons (fName 3) fNil)) (fOp gEq (fCB gLen (fCons (fCall 2 none F_places_on (fCons (fName 1) (fCons (fName 2) fNil))) fNil)) (fC (.int 1)))) ((List.range k).map fun a => .tup [.int (a : Nat), .str (nm a)]) [] [.sh (.tup (NS k nm)), .sh (.tup (L n lab)), .no, .no] = .ok ([] ++ (List.range k).map fun a => MV.bl (decide (isL (nm a)) || decide ((pOn n lab a).length = 1))) [.sh (.tup (NS k nm)), .sh (.tup (L n lab)), .no, .no] := by
    refine lc_all _ [] (by simp; omega) fun a ha acc ms hs => ?_
    have ha' := List.mem_range.mp ha
    have h1 := lname (hN a ha')
    have h2 := x_places_on n lab a (by omega) hn
    rw [lcF_cons]
    by_cases hl : isL (nm a)
    · simp [h1, hl, hs]
    · by_cases hc : (pOn n lab a).length = 1
      · simp [h1, hl, h2, hc, hs]
      · have hc' : ¬ (((pOn n lab a).length : Int) = 1) := by omega
        simp [h1, hl, h2, hc, hc', hs]
  have e3 : asBls ((List.range k).map fun a => MV.bl (decide (isL (nm a)) || decide ((pOn n lab a).length = 1))) = some ((List.range k).map fun a => (decide (isL (nm a)) || decide ((pOn n lab a).length = 1))) := asBls_map _ _
  have hz : enumM 0 (NS k nm) = (List.range k).map fun a => .tup [.int (a : Nat), .str (nm a)] := enum_rm _ _
  have e4 : ((List.range k).map fun a => (decide (isL (nm a)) || decide ((pOn n lab a).length = 1))).all id = right k nm n lab := by
    rw [List.all_map]
    rfl
  simp only [List.nil_append] at e
  simp only [F_raw_is_right, g_raw_is_right]
  simp [-List.all_map, -asBls_map, hz, e, e3, e4]
theorem x_is_right (hT : NS k nm ∈ TRS) (hN : ∀ a, a < k → isP (nm a) ∨ isL (nm a)) (hk : k ≤ 3) (hz : t.size ≤ 10) (h : bnd k t.size lab = true) : F_is_right [.sh (.tup (NS k nm)), .sh (mt t lab)] = .ret (.v (.bl (right k nm t.size lab))) [.no, .no] := by
  have e1 := x_check_marked hT hk hz h
  have e2 := x_mt_symbols t lab (by omega)
  have e3 := x_raw_is_right (lab := lab) (n := t.size) hN hk (by omega)
  simp only [F_is_right, g_is_right]
  simp [e1, e2, e3]
theorem bit_01 (s a : Nat) : bitN s a = 0 ∨ bitN s a = 1 := by unfold bitN; omega
theorem x_letter_of (s k : Nat) (hk : k ≤ 3) : F_letter_of [.sh (.int (s : Nat)), .sh (.int (k : Nat))] = .ret (.v (ltr (decide (bitN s k = 1)))) [.no, .no] := by
  have e1 := x_bit_of s k hk
  have g0 : gOr gIx gIxDic (.str "ab") (.int 0) = some (.v (ltr false)) := rfl
  have g1 : gOr gIx gIxDic (.str "ab") (.int 1) = some (.v (ltr true)) := rfl
  rcases bit_01 s k with h | h
  · simp only [F_letter_of, g_letter_of]
    simp [-gOr_s, e1, h, g0]
  · simp only [F_letter_of, g_letter_of]
    simp [-gOr_s, e1, h, g1]
theorem x_raw_tree (hk : k ≤ 3) (hz : t.size ≤ 10) (hb : ∀ (i : Nat) (b : Bool), t.pre[i]? = some b → decide (bitN (lab i) k = 1) = b) : F_raw_tree [.sh (.int (k : Nat)), .sh (mt t lab)] = .ret (.v (Tr.enc ltr t)) [.no, .no] := by
  have e1 := x_mt_symbols t lab (by omega)
  have e2 := x_mark_back t lab (fun i => decide (bitN (lab i) k = 1)) hb (by omega)
  have e : lcF [2] (uName 2) tsNil (fCall 2 none F_letter_of (fCons (fName 2) (fCons (fName 0) fNil))) ((List.range t.size).map fun i => .int (lab i : Nat)) [] [.sh (.int (k : Nat)), .sh (mt t lab), .no] = .ok ([] ++ (List.range t.size).map fun i => ltr (decide (bitN (lab i) k = 1))) [.sh (.int (k : Nat)), .sh (mt t lab), .no] := by
    refine lc_all _ [] (by simp; omega) fun i hi acc ms hs => ?_
    have := x_letter_of (lab i) k hk
    rw [lcF_cons]
    simp [this, hs]
  simp only [List.nil_append] at e
  have e1' : F_raw_symbols [.sh (mt t lab)] = .ret (.v (.tup ((List.range t.size).map fun i => .int (lab i : Nat)))) [.no] := e1
  simp only [F_raw_tree, g_raw_tree]
  simp [e1', e, e2]
theorem x_tree_of (hT : NS k nm ∈ TRS) (hN : ∀ a, a < k → isP (nm a) ∨ isL (nm a)) (hk : k ≤ 3) (hz : t.size ≤ 10) (h : bnd k t.size lab = true) (hr : right k nm t.size lab = true) (hb : ∀ (i : Nat) (b : Bool), t.pre[i]? = some b → decide (bitN (lab i) k = 1) = b) : F_tree_of [.sh (.tup (NS k nm)), .sh (mt t lab)] = .ret (.v (Tr.enc ltr t)) [.no, .no] := by
  have e1 := x_check_marked hT hk hz h
  have e2 := x_mt_symbols t lab (by omega)
  have e3 := x_raw_is_right (lab := lab) (n := t.size) hN hk (by omega)
  have e4 := x_raw_tree (lab := lab) hk hz hb
  simp only [F_tree_of, g_tree_of]
  simp [e1, e2, e3, hr, NS_len, e4]
theorem x_tree_not (hT : NS k nm ∈ TRS) (hN : ∀ a, a < k → isP (nm a) ∨ isL (nm a)) (hk : k ≤ 3) (hz : t.size ≤ 10) (h : bnd k t.size lab = false ∨ right k nm t.size lab = false) : F_tree_of [.sh (.tup (NS k nm)), .sh (mt t lab)] = .ex ⟨"NoMarked", none⟩ [.no, .no] := by
  have e2 := x_mt_symbols t lab (by omega)
  have e3 := x_raw_is_right (lab := lab) (n := t.size) hN hk (by omega)
  cases hb : bnd k t.size lab with
  | false =>
    have e1 := x_check_not (t := t) (lab := lab) hT hk hz hb
    simp only [F_tree_of, g_tree_of]
    simp [e1]
  | true =>
    have e1 := x_check_marked (t := t) (lab := lab) hT hk hz hb
    have hr : right k nm t.size lab = false := by
      rcases h with h | h
      · rw [hb] at h; cases h
      · exact h
    simp only [F_tree_of, g_tree_of]
    simp [e1, e2, e3, hr]
theorem x_raises (hT : NS k nm ∈ TRS) (hN : ∀ a, a < k → isP (nm a) ∨ isL (nm a)) (hk : k ≤ 3) (hz : t.size ≤ 10) (h : bnd k t.size lab = false ∨ right k nm t.size lab = false) : F__law_raises [.sh (.tup (NS k nm)), .sh (mt t lab)] = .ret (.v (.bl true)) [.no, .no] := by
  have e1 := x_tree_not hT hN hk hz h
  simp only [F__law_raises, g__law_raises]
  simp [e1, List.lookup]
/-! ### telling_of -/
theorem rgM_00 (n : Nat) : rgM 0 n = (List.range n).map fun i => .int (i : Nat) := by
  unfold rgM
  simp
theorem filter_one (n i : Nat) (h : i < n) : (List.range n).filter (fun j => decide (j = i)) = [i] := by
  induction n with
  | zero => omega
  | succ n ih =>
    rw [List.range_succ, List.filter_append]
    by_cases hi : i = n
    · subst hi
      rw [List.filter_eq_nil_iff.mpr (fun j hj => by have := List.mem_range.mp hj; simp; omega)]
      simp
    · rw [ih (by omega)]
      simp
      omega
theorem x_raw_telling {wo : Nat → Wo} (hF : ∀ a, a < k → Fit n (nm a) (wo a)) (hp : ∀ a, a < k → pOn n lab a = (List.range n).filter (wo a).on) (hk : k ≤ 3) (hn : n ≤ 100) : F_raw_telling [.sh (.tup (NS k nm)), .sh (.tup (L n lab))] = .ret (.v (.tup (TW n k wo))) [.no, .no] := by
  have e1 : lcF [3] (uName 3) tsNil (fCall 2 none F_places_on (fCons (fName 1) (fCons (fName 3) fNil))) ((List.range k).map fun a => .int (a : Nat)) [] [.sh (.tup (NS k nm)), .sh (.tup (L n lab)), .no, .no, .no, .no] = .ok ([] ++ (List.range k).map fun a => .tup ((pOn n lab a).map gI)) [.sh (.tup (NS k nm)), .sh (.tup (L n lab)), .no, .no, .no, .no] := by
    refine lc_all _ [] (by simp; omega) fun a ha acc ms hs => ?_
    have ha' := List.mem_range.mp ha
    have h2 := x_places_on n lab a (by omega) hn
    rw [lcF_cons]
    simp [h2, hs]
  have e2 : lcF [4, 5] (uTup 2 (uCons (uName 4) (uCons (uName 5) uNil))) tsNil (fIf (fB (fCall 1 none F_is_lot_name (fCons (fName 4) fNil))) (fName 5) (fOp (gOr gIx gIxDic) (fName 5) (fC (.int 0)))) ((List.range k).map fun a => .tup [.str (nm a), .tup ((pOn n lab a).map gI)]) [] [.sh (.tup (NS k nm)), .sh (.tup (L n lab)), .sh (.lst ((List.range k).map fun a => .tup ((pOn n lab a).map gI))), .no, .no, .no] = .ok ([] ++ TW n k wo) [.sh (.tup (NS k nm)), .sh (.tup (L n lab)), .sh (.lst ((List.range k).map fun a => .tup ((pOn n lab a).map gI))), .no, .no, .no] := by
    refine lc_all _ [] (by simp; omega) fun a ha acc ms hs => ?_
    have ha' := List.mem_range.mp ha
    have h1 := lname (fit_or (hF a ha'))
    have h2 := hp a ha'
    have h3 := hF a ha'
    rw [lcF_cons]
    cases hw : wo a with
    | pl i =>
      rw [hw] at h3 h2
      have h4 : pOn n lab a = [i] := by rw [h2]; exact filter_one n i h3.2
      have h5 := PnL h3.1
      simp [h1, h5, h4, gI, gOr, Wo.enc, hs]
    | lot p =>
      rw [hw] at h3 h2
      have h5 : isL (nm a) := h3
      have h4 : MV.tup ((pOn n lab a).map gI) = (Wo.lot p).enc n := by rw [h2]; rfl
      simp [h1, h5, h4, hs]
  have hz : zipM (NS k nm) ((List.range k).map fun a => .tup ((pOn n lab a).map gI)) = (List.range k).map fun a => .tup [.str (nm a), .tup ((pOn n lab a).map gI)] := zip_self _ _ _
  have hr := sm62 (i := (k : Nat)) (by omega) (by omega)
  simp only [List.nil_append] at e1 e2
  simp only [F_raw_telling, g_raw_telling]
  simp [-small62_s, NS_len, hr, rgM_00, e1, hz, e2]
theorem x_telling_of {wo : Nat → Wo} (hT : NS k nm ∈ TRS) (hF : ∀ a, a < k → Fit t.size (nm a) (wo a)) (hp : ∀ a, a < k → pOn t.size lab a = (List.range t.size).filter (wo a).on) (hk : k ≤ 3) (hz : t.size ≤ 10) (h : bnd k t.size lab = true) (hr : right k nm t.size lab = true) : F_telling_of [.sh (.tup (NS k nm)), .sh (mt t lab)] = .ret (.v (.tup (TW t.size k wo))) [.no, .no] := by
  have e1 := x_check_marked hT hk hz h
  have e2 := x_mt_symbols t lab (by omega)
  have e3 := x_raw_is_right (lab := lab) (n := t.size) (fun a ha => fit_or (hF a ha)) hk (by omega)
  have e4 := x_raw_telling (lab := lab) hF hp hk (by omega)
  simp only [F_telling_of, g_telling_of]
  simp [e1, e2, e3, hr, e4]
end
end W05
namespace W05
open PySem PySem.Spec PyProof.Rows L2 DL LamX
def sw (s a : Nat) : Nat := s % 2 ^ a + 2 ^ a * (s / (2 * 2 ^ a))
theorem x_symbol_without (s a : Nat) (ha : a ≤ 3) : F_symbol_without [.sh (.int (s : Nat)), .sh (.int (a : Nat))] = .ret (.v (.int (sw s a : Nat))) [.no, .no] := by
  have hp := x_pow a ha
  match a, ha with
  | 0, _ => simp at hp; simp [F_symbol_without, g_symbol_without, fnOf, hp, sw, -gInt_s, gT_i, gM_r, gM_l, gD_i]
  | 1, _ => simp at hp; simp [F_symbol_without, g_symbol_without, fnOf, hp, sw, -gInt_s, gT_i, gM_r, gM_l, gD_i]; omega
  | 2, _ => simp at hp; simp [F_symbol_without, g_symbol_without, fnOf, hp, sw, -gInt_s, gT_i, gM_r, gM_l, gD_i]; omega
  | 3, _ => simp at hp; simp [F_symbol_without, g_symbol_without, fnOf, hp, sw, -gInt_s, gT_i, gM_r, gM_l, gD_i]; omega
theorem x_law_less (s a : Nat) (ha : a ≤ 3) : F__law_less [.sh (.int (s : Nat)), .sh (.int (a : Nat))] = .ret (.v (.int (sw s a : Nat))) [.no, .no] := by
  have hp := x_lpow a ha
  match a, ha with
  | 0, _ => simp at hp; simp [F__law_less, g__law_less, fnOf, hp, sw]
  | 1, _ => simp at hp; simp [F__law_less, g__law_less, fnOf, hp, sw]
  | 2, _ => simp at hp; simp [F__law_less, g__law_less, fnOf, hp, sw]
  | 3, _ => simp at hp; simp [F__law_less, g__law_less, fnOf, hp, sw]
section
variable {k : Nat} {nm : Nat → Str} {t : Tr Bool} {lab : Nat → Nat} {n : Nat}
theorem x_without (hT : NS k nm ∈ TRS) (hk : k ≤ 3) (hz : t.size ≤ 10) (h : bnd k t.size lab = true) (a : Nat) (ha : a < k) : F_without [.sh (.tup (NS k nm)), .sh (mt t lab), .sh (.int (a : Nat))] = .ret (.v (mt t fun i => sw (lab i) a)) [.no, .no, .no] := by
  have e1 := x_check_marked hT hk hz h
  have e2 : F_raw_symbols [.sh (mt t lab)] = .ret (.v (.tup ((List.range t.size).map fun i => .int (lab i : Nat)))) [.no] := x_mt_symbols t lab (by omega)
  have e3 := x_mark_again t (fun i => sw (lab i) a) lab (by omega)
  have e : lcF [3] (uName 3) tsNil (fCall 2 none F_symbol_without (fCons (fName 3) (fCons (fName 2) fNil))) ((List.range t.size).map fun i => .int (lab i : Nat)) [] [.sh (.tup (NS k nm)), .sh (mt t lab), .sh (.int (a : Nat)), .no] = .ok ([] ++ L t.size fun i => sw (lab i) a) [.sh (.tup (NS k nm)), .sh (mt t lab), .sh (.int (a : Nat)), .no] := by
    refine lc_all _ [] (by simp; omega) fun i hi acc ms hs => ?_
    have := x_symbol_without (lab i) a (by omega)
    rw [lcF_cons]
    simp [this, hs]
  simp only [List.nil_append] at e
  have h1 : (a : Int) ≤ (k : Int) - 1 := by omega
  simp only [F_without, g_without]
  simp [e1, e2, NS_len, x_is_within, h1, e, e3]
theorem x_without_not (hT : NS k nm ∈ TRS) (hk : k ≤ 3) (hz : t.size ≤ 10) (h : bnd k t.size lab = true) : F_without [.sh (.tup (NS k nm)), .sh (mt t lab), .sh (.int (k : Nat))] = .ex ⟨"NoTrack", none⟩ [.no, .no, .no] := by
  have e1 := x_check_marked hT hk hz h
  have h1 : ¬ (k : Int) ≤ (k : Int) - 1 := by omega
  simp only [F_without, g_without]
  simp [e1, NS_len, x_is_within, h1]
end
/-! ### marked -/
def sy (k : Nat) (wo : Nat → Wo) (b : Bool) (j : Nat) : Nat := (if b then 2 ^ k else 0) + ((List.range k).map fun a => if (wo a).on j then 2 ^ a else 0).sum
theorem sum_filter (p : Nat → Bool) (g : Nat → Nat) : ∀ l : List Nat, ((l.filter p).map fun a => ((g a : Nat) : Int)).sum = (((l.map fun a => if p a then g a else 0).sum : Nat) : Int)
  | [] => rfl
  | x :: l => by
    have := sum_filter p g l
    cases hp : p x with
    | true => rw [List.filter_cons_of_pos hp, List.map_cons, List.sum_cons, this, List.map_cons, List.sum_cons, if_pos hp]; omega
    | false => rw [List.filter_cons_of_neg (by simp [hp]), this, List.map_cons, List.sum_cons, if_neg (by simp [hp])]; omega
theorem idx_ab (b : Bool) : gSIndex (.str "ab") [ltr b] = some (.v (.int (if b then 1 else 0))) := by
  have h0 : Txt.index0 ("ab" : Str) ("a" : Str) = some 0 := by decide +kernel
  have h1 : Txt.index0 ("ab" : Str) ("b" : Str) = some 1 := by decide +kernel
  cases b
  · simp [ltr, h0]
  · simp [ltr, h1]
theorem ltr_str (b : Bool) : ∃ x : Str, ltr b = .str x := ⟨_, rfl⟩
section
variable {k : Nat} {nm : Nat → Str} {wo : Nat → Wo} {n : Nat}
def rmB : Rho → SRes := (gSeq (gSet 6 (fOp gMul (fCall 2 none F_power_of (fCons (fC (.int 2)) (fCons (fCB gLen (fCons (fName 0) fNil)) fNil))) (fMt "str" gSIndex (fC (.str "ab")) (fCons (fOp (gOr gIx gIxDic) (fName 5) (fC (.int 0))) fNil)))) (gSeq (gSet 7 (fLc [8, 9] (fEnum (fCons (fName 0) fNil)) (uTup 2 (uCons (uName 8) (uCons (uName 9) uNil))) (fB (fCall 3 none F_has_told (fCons (fName 9) (fCons (fOp (gOr gIx gIxDic) (fName 2) (fName 8)) (fCons (fName 4) fNil))))) (fName 8))) (gExpr (fMut uAppend 3 (fCons (fOp gAdd (fName 6) (fCB gSum (fCons (fLc [8] (fItems (fName 7)) (uName 8) tsNil (fCall 2 none F_power_of (fCons (fC (.int 2)) (fCons (fName 8) fNil)))) fNil))) fNil)))))
def rmR (k : Nat) (nm : Nat → Str) (n : Nat) (wo : Nat → Wo) (T : MV) (S : List MV) (j : Option MV × Option MV × Option MV × Option MV) : Rho := [.sh (.tup (NS k nm)), .sh T, .sh (.tup (TW n k wo)), .ow (.lst S), jS j.1, jS j.2.1, jS j.2.2.1, jS j.2.2.2, .no, .no]
theorem TW_at (a : Nat) (ha : a < k) : L2.atI (TW n k wo) (a : Nat) = some ((wo a).enc n) := by
  rw [DL.atI_nat, TW, List.getElem?_map, List.getElem?_range ha]
  rfl
theorem rm_bits (hF : ∀ a, a < k → Fit n (nm a) (wo a)) (hk : k ≤ 3) (T p v : MV) (S : List MV) (i : Nat) (hi : i < n) (s7 : Option MV) :
    lcF [8, 9] (uTup 2 (uCons (uName 8) (uCons (uName 9) uNil))) (fB (fCall 3 none F_has_told (fCons (fName 9) (fCons (fOp (gOr gIx gIxDic) (fName 2) (fName 8)) (fCons (fName 4) fNil))))) (fName 8) ((List.range k).map fun a => .tup [.int (a : Nat), .str (nm a)]) [] [.sh (.tup (NS k nm)), .sh T, .sh (.tup (TW n k wo)), .ow (.lst S), .sh (.int (i : Nat)), .sh p, .sh v, jS s7, .no, .no] = .ok ([] ++ ((List.range k).filter fun a => (wo a).on i).map gI) [.sh (.tup (NS k nm)), .sh T, .sh (.tup (TW n k wo)), .ow (.lst S), .sh (.int (i : Nat)), .sh p, .sh v, jS s7, .no, .no] := by
  refine lc_if _ [] (by simp; omega) fun a ha acc ms hs => ?_
  have ha' := List.mem_range.mp ha
  have h1 := x_has_told (hF a ha') i hi
  have h2 := TW_at (n := n) (wo := wo) a ha'
  rw [lcF_cons]
  cases hp : (wo a).on i <;> cases s7 <;> simp [jS, gOr, h1, h2, hp, hs, gI]
theorem rm_sum (hk : k ≤ 3) (A T p v : MV) (B : MV) (S ls : List MV) (i : Nat) (f : Nat → Bool) :
    lcF [8] (uName 8) tsNil (fCall 2 none F_power_of (fCons (fC (.int 2)) (fCons (fName 8) fNil))) (((List.range k).filter f).map gI) [] [.sh A, .sh T, .sh B, .ow (.lst S), .sh (.int (i : Nat)), .sh p, .sh v, .sh (.lst ls), .no, .no] = .ok ([] ++ ((List.range k).filter f).map fun a => .int ((2 ^ a : Nat) : Int)) [.sh A, .sh T, .sh B, .ow (.lst S), .sh (.int (i : Nat)), .sh p, .sh v, .sh (.lst ls), .no, .no] := by
  have hl := List.length_filter_le f (List.range k)
  rw [List.length_range] at hl
  refine lc_all _ [] (by simp; omega) fun a ha acc ms hs => ?_
  have ha' := List.mem_range.mp (List.mem_filter.mp ha).1
  have h1 := x_pow a (by omega)
  rw [lcF_cons]
  simp [-Int.natCast_pow, h1, hs, gI]
theorem rm_turn (hF : ∀ a, a < k → Fit n (nm a) (wo a)) (hk : k ≤ 3) (T : MV) (b : Bool) (l r : Tr Bool) (S : List MV) (hS : S.length < 1000) (i : Nat) (hi : i < n) (j : Option MV × Option MV × Option MV × Option MV) (rest : List MV) :
    ∃ j', forF (uTup 2 (uCons (uName 4) (uCons (uName 5) uNil))) rmB (.tup [.int (i : Nat), Tr.enc ltr (.n b l r)] :: rest) (rmR k nm n wo T S j) = forF (uTup 2 (uCons (uName 4) (uCons (uName 5) uNil))) rmB rest (rmR k nm n wo T (S ++ [.int (sy k wo b i : Nat)]) j') := by
  have hs : S.length < sizeLine := by rw [sizeLine_eq]; omega
  have hp := x_pow k hk
  have hz : enumM 0 (NS k nm) = (List.range k).map fun a => .tup [.int (a : Nat), .str (nm a)] := enum_rm _ _
  have hm : gInt cMul (fun i j => i * j) (.int ((2 ^ k : Nat) : Int)) (.int (if b then 1 else 0)) = some (.v (.int (((2 ^ k : Nat) : Int) * (if b then 1 else 0)))) := by
    refine gM_r _ _ _ ?_ ?_ <;> cases b <;> decide
  have hx := idx_ab b
  have e1 := rm_bits (p := Tr.enc ltr (.n b l r)) (v := .int (((2 ^ k : Nat) : Int) * (if b then 1 else 0))) hF hk T S i hi j.2.2.2
  have e2 := rm_sum hk (.tup (NS k nm)) T (Tr.enc ltr (.n b l r)) (.int (((2 ^ k : Nat) : Int) * (if b then 1 else 0))) (.tup (TW n k wo)) S (((List.range k).filter fun a => (wo a).on i).map gI) i (fun a => (wo a).on i)
  have e3 : asInts (((List.range k).filter fun a => (wo a).on i).map fun a => MV.int ((2 ^ a : Nat) : Int)) = some (((List.range k).filter fun a => (wo a).on i).map fun a => ((2 ^ a : Nat) : Int)) := asInts_map _ _
  have e4 := sum_filter (fun a => (wo a).on i) (fun a => 2 ^ a) (List.range k)
  have e5 : (((2 ^ k : Nat) : Int) * (if b then 1 else 0)) + (((List.range k).map fun a => if (wo a).on i then 2 ^ a else 0).sum : Nat) = (sy k wo b i : Nat) := by
    unfold sy
    cases b <;> simp
  simp only [List.nil_append] at e1 e2
  rw [Tr.enc] at e1 e2
  refine ⟨(some (.int (i : Nat)), some (Tr.enc ltr (.n b l r)), some (.int (((2 ^ k : Nat) : Int) * (if b then 1 else 0))), some (.lst (((List.range k).filter fun a => (wo a).on i).map gI))), ?_⟩
  rw [forF_cons, Tr.enc]
  obtain ⟨j1, j2, j3, j4⟩ := j
  have hl : ltr b = .str (if b then "b" else "a") := rfl
  cases j1 <;> cases j2 <;> cases j3 <;> cases j4 <;> simp only [jS] at e1 <;> simp [-Int.natCast_pow, -gInt_s, -gSIndex_s, rmB, rmR, jS, NS_len, hp, gOr, hx, hm, hz, e1, e2, e3, e4, e5, hs]
end
end W05
namespace W05
open PySem PySem.Spec PyProof.Rows L2 DL LamX
section
variable {k : Nat} {nm : Nat → Str} {wo : Nat → Wo} {t : Tr Bool}
def lt (t : Tr Bool) (i : Nat) : Bool := t.pre.getD i false
theorem lt_at (t : Tr Bool) (i : Nat) (b : Bool) (h : t.pre[i]? = some b) : lt t i = b := by
  unfold lt
  rw [List.getD_eq_getElem?_getD, h]
  rfl
theorem sub_at (t : Tr Bool) (i : Nat) (hi : i < t.size) : ∃ l r, t.subs.getD i .e = .n (lt t i) l r := by
  have h1 : i < t.subs.length := by rw [Tr.subs_len]; exact hi
  have e1 : t.subs[i]? = some t.subs[i] := List.getElem?_eq_getElem h1
  obtain ⟨a, l, r, e⟩ := subs_node t t.subs[i] (List.getElem_mem h1)
  have e2 : (t.subs.map (hd ltr))[i]? = some (ltr a) := by
    rw [List.getElem?_map, e1, e]
    rfl
  rw [subs_hd, List.getElem?_map] at e2
  cases h : t.pre[i]? with
  | none => rw [h] at e2; cases e2
  | some b =>
    rw [h] at e2
    have : b = a := by
      simp only [Option.map_some, Option.some.injEq] at e2
      have e3 := MV.str.inj e2
      cases a <;> cases b <;> first | rfl | exact absurd e3 (by decide)
    refine ⟨l, r, ?_⟩
    rw [List.getD_eq_getElem?_getD, e1, Option.getD_some, e, lt_at t i b h, this]
/-- the symbols -/
def sym (t : Tr Bool) (k : Nat) (wo : Nat → Wo) (i : Nat) : Nat := sy k wo (lt t i) i
theorem L_succ (lab : Nat → Nat) (i : Nat) : L (i + 1) lab = L i lab ++ [.int (lab i : Nat)] := by
  unfold L
  rw [List.range_succ, List.map_append]
  rfl
theorem x_raw_marked (hF : ∀ a, a < k → Fit t.size (nm a) (wo a)) (hk : k ≤ 3) (hz : t.size ≤ 10) : F_raw_marked [.sh (.tup (NS k nm)), .sh (Tr.enc ltr t), .sh (.tup (TW t.size k wo))] = .ret (.v (mt t (sym t k wo))) [.no, .no, .no] := by
  have e1 := x_parts ltr_isD t (by omega)
  have e2 : t.subs.map (Tr.enc ltr) = (List.range t.size).map fun i => Tr.enc ltr (t.subs.getD i .e) := by
    have := rm_of (.e : Tr Bool) t.subs
    rw [Tr.subs_len] at this
    conv => lhs; rw [this]
    rw [List.map_map]
    rfl
  rw [e2] at e1
  obtain ⟨j, e3⟩ := for_rg (u := uTup 2 (uCons (uName 4) (uCons (uName 5) uNil))) (b := rmB) (fun i => .tup [.int (i : Nat), Tr.enc ltr (t.subs.getD i .e)]) (fun i j => rmR k nm t.size wo (Tr.enc ltr t) (L i (sym t k wo)) j) t.size (none, none, none, none) fun i hi j rest => by
    obtain ⟨l, r, e⟩ := sub_at t i hi
    obtain ⟨j', e'⟩ := rm_turn hF hk (Tr.enc ltr t) (lt t i) l r (L i (sym t k wo)) (by rw [L_len]; omega) i hi j rest
    refine ⟨j', ?_⟩
    rw [e, e', L_succ]
    rfl
  have e4 := x_mark_signs t (sym t k wo) (by omega)
  have e5 : g_raw_marked [.sh (.tup (NS k nm)), .sh (Tr.enc ltr t), .sh (.tup (TW t.size k wo)), .no, .no, .no, .no, .no, .no, .no] = (forF (uTup 2 (uCons (uName 4) (uCons (uName 5) uNil))) rmB ((List.range t.size).map fun i => .tup [.int (i : Nat), Tr.enc ltr (t.subs.getD i .e)]) (rmR k nm t.size wo (Tr.enc ltr t) (L 0 (sym t k wo)) (none, none, none, none))).seq (gRet (fCall 2 none F_with_signs (fCons (fName 1) (fCons (fName 3) fNil)))) := by
    have hL : L 0 (sym t k wo) = [] := rfl
    rw [hL]
    simp [g_raw_marked, rmB, rmR, jS, e1, enum_rm]
  rw [e3, seq_nx] at e5
  have e6 : F_raw_marked [.sh (.tup (NS k nm)), .sh (Tr.enc ltr t), .sh (.tup (TW t.size k wo))] = finF 3 (g_raw_marked [.sh (.tup (NS k nm)), .sh (Tr.enc ltr t), .sh (.tup (TW t.size k wo)), .no, .no, .no, .no, .no, .no, .no]) := rfl
  rw [e6, e5]
  simp [rmR, e4]
theorem x_marked (K : PySem.W.Frag) (hT : NS k nm ∈ TRS) (hF : ∀ a, a < k → Fit t.size (nm a) (wo a)) (hk : k ≤ 3) (hz : t.size ≤ 10) : F_marked K [.sh (.tup (NS k nm)), .sh (Tr.enc ltr t), .sh (.tup (TW t.size k wo))] = .ret (.v (mt t (sym t k wo))) [.no, .no, .no] := by
  have e1 := x_check_tracks hT
  have e2 := x_check_tree K t hz
  have e3 := x_raw_size ltr_isD t (by omega)
  have e4 := x_raw_is_telling (n := t.size) hF hk (by omega)
  have e5 := x_raw_marked hF hk hz
  simp only [F_marked, g_marked]
  simp [e1, e2, e3, e4, e5]
theorem x_marked_not (K : PySem.W.Frag) (hT : NS k nm ∈ TRS) (tw : List MV) (h : ¬ tw.length = k) (hz : t.size ≤ 10) : F_marked K [.sh (.tup (NS k nm)), .sh (Tr.enc ltr t), .sh (.tup tw)] = .ex ⟨"NoTelling", none⟩ [.no, .no, .no] := by
  have e1 := x_check_tracks hT
  have e2 := x_check_tree K t hz
  have e3 := x_raw_size ltr_isD t (by omega)
  have e4 := x_raw_no_telling (n := t.size) (nm := nm) tw h
  simp only [F_marked, g_marked]
  simp [e1, e2, e3, e4]
/-! ### _law_symbol -/
def lsB : Rho → SRes := (gSeq (gSet 7 (fIf (fB (fCB gIsi (fCons (fName 6) (fCons (fC (.ty "tuple")) fNil)))) (fOp (gOr (gIn false) (gInDic false)) (fName 1) (fName 6)) (fOp gEq (fName 1) (fName 6)))) (gSet 4 (fOp gAdd (fName 4) (fIf (fB (fName 7)) (fCall 1 none F__law_power (fCons (fName 5) fNil)) (fC (.int 0))))))
def lsR (a b c d : MV) (v : Nat) (j : Option MV × Option MV × Option MV) : Rho := [.sh a, .sh b, .sh c, .sh d, .sh (.int (v : Nat)), jS j.1, jS j.2.1, jS j.2.2]
theorem ls_turn {n : Nat} (A C D : MV) (v i at' : Nat) (x : Str) (w : Wo) (hi : i < n) (hw : Fit n x w) (ha : at' ≤ 3) (j : Option MV × Option MV × Option MV) (rest : List MV) :
    ∃ j', forF (uTup 2 (uCons (uName 5) (uCons (uName 6) uNil))) lsB (.tup [.int (at' : Nat), w.enc n] :: rest) (lsR A (.int (i : Nat)) C D v j) = forF (uTup 2 (uCons (uName 5) (uCons (uName 6) uNil))) lsB rest (lsR A (.int (i : Nat)) C D (v + if w.on i then 2 ^ at' else 0) j') := by
  have hp := x_lpow at' ha
  obtain ⟨j1, j2, j3⟩ := j
  refine ⟨(some (.int (at' : Nat)), some (w.enc n), some (.bl (w.on i))), ?_⟩
  rw [forF_cons]
  have e0 : isL x ∨ True := .inr trivial
  cases w with
  | pl q =>
    by_cases hji : i = q
    · subst hji
      cases j1 <;> cases j2 <;> cases j3 <;> simp [-Int.natCast_pow, lsB, lsR, jS, Wo.enc, Wo.on, hp]
    · have : ¬ ((i : Int) = (q : Int)) := by omega
      cases j1 <;> cases j2 <;> cases j3 <;> simp [lsB, lsR, jS, Wo.enc, Wo.on, this, hji]
  | lot p =>
    have e2 := in_ints (fun i : Nat => (i : Int)) (i : Nat) ((List.range n).filter p)
    rw [on_lot n p i hi] at e2
    cases hpi : p i <;> cases j1 <;> cases j2 <;> cases j3 <;> simp [-Int.natCast_pow, lsB, lsR, jS, Wo.enc, Wo.on, gOr, e2, hpi, hp]
def psum (wo : Nat → Wo) (i a : Nat) : Nat := ((List.range a).map fun a => if (wo a).on i then 2 ^ a else 0).sum
theorem psum_succ (wo : Nat → Wo) (i a : Nat) : psum wo i (a + 1) = psum wo i a + if (wo a).on i then 2 ^ a else 0 := by
  unfold psum
  rw [List.range_succ, List.map_append, List.sum_append]
  simp
theorem x_law_symbol {n : Nat} (hF : ∀ a, a < k → Fit n (nm a) (wo a)) (hk : k ≤ 3) (b : Bool) (i : Nat) (hi : i < n) : F__law_symbol [.sh (ltr b), .sh (.int (i : Nat)), .sh (.tup (NS k nm)), .sh (.tup (TW n k wo))] = .ret (.v (.int (sy k wo b i : Nat))) [.no, .no, .no, .no] := by
  have hp := x_lpow k hk
  obtain ⟨j, e3⟩ := for_rg (u := uTup 2 (uCons (uName 5) (uCons (uName 6) uNil))) (b := lsB) (fun a => .tup [.int (a : Nat), (wo a).enc n]) (fun a j => lsR (ltr b) (.int (i : Nat)) (.tup (NS k nm)) (.tup (TW n k wo)) ((if b then 2 ^ k else 0) + psum wo i a) j) k (none, none, none) fun a ha j rest => by
    obtain ⟨j', e'⟩ := ls_turn (ltr b) (.tup (NS k nm)) (.tup (TW n k wo)) ((if b then 2 ^ k else 0) + psum wo i a) i a (nm a) (wo a) hi (hF a ha) (by omega) j rest
    refine ⟨j', ?_⟩
    rw [e', psum_succ, Nat.add_assoc]
  have hz : enumM 0 (TW n k wo) = (List.range k).map fun a => .tup [.int (a : Nat), (wo a).enc n] := enum_rm _ _
  have hb : gEq (ltr b) (.str "b") = some (.v (.bl b)) := by cases b <;> exact (eqf_str _ _).1
  have e5 : g__law_symbol [.sh (ltr b), .sh (.int (i : Nat)), .sh (.tup (NS k nm)), .sh (.tup (TW n k wo)), .no, .no, .no, .no] = (forF (uTup 2 (uCons (uName 5) (uCons (uName 6) uNil))) lsB ((List.range k).map fun a => .tup [.int (a : Nat), (wo a).enc n]) (lsR (ltr b) (.int (i : Nat)) (.tup (NS k nm)) (.tup (TW n k wo)) ((if b then 2 ^ k else 0) + psum wo i 0) (none, none, none))).seq (gRet (fName 4)) := by
    have h0 : psum wo i 0 = 0 := rfl
    rw [h0]
    cases b <;> simp [-Int.natCast_pow, g__law_symbol, lsB, lsR, jS, hb, hp, NS_len, hz]
  rw [e3, seq_nx] at e5
  have e6 : F__law_symbol [.sh (ltr b), .sh (.int (i : Nat)), .sh (.tup (NS k nm)), .sh (.tup (TW n k wo))] = finF 4 (g__law_symbol [.sh (ltr b), .sh (.int (i : Nat)), .sh (.tup (NS k nm)), .sh (.tup (TW n k wo)), .no, .no, .no, .no]) := rfl
  rw [e6, e5]
  simp [lsR, retS]
  rfl
theorem x_law_is (a b : Bool) : F__law_is [.sh (.bl a), .sh (.bl b)] = .ret (.v (.bl (decide (a = b)))) [.no, .no] := by
  cases a <;> cases b <;> rfl
theorem x_law_hand (ns : List Int) (h : ns.length ≤ 63) : ∃ m, F__law_hand [.sh (.scr ns)] = .ret (.o m) [.no] ∧ Hand m := by
  have c := cut_3 ns 63
  rw [List.take_of_length_le h] at c
  have c' : cutL ns none (some 63) = ns := c
  have e : lcF [2] (uName 2) tsNil (fCB gAbs (fCons (fCB gIntOf (fCons (fName 2) fNil)) fNil)) (ns.map .int) [] [.sh (.scr ns), .no, .no] = .ok ([] ++ ns.map fun i => .int (if i < 0 then -i else i)) [.sh (.scr ns), .no, .no] := by
    refine lc_all _ [] (by simp; omega) fun i hi acc ms hs => ?_
    rw [lcF_cons]
    simp [hs]
  simp only [List.nil_append] at e
  refine ⟨hnd (ns.map fun i => if i < 0 then -i else i) 0 0 (607 + 3 * (ns.length : Int)) 0, ?_, _, _, _, _, _, rfl⟩
  simp only [F__law_hand, g__law_hand]
  simp [-cutL_s, c', e, hnd, retS, -gInt_s, gM_l]
end
end W05
namespace W05
open PySem PySem.Spec PyProof.Rows L2 DL LamX
/-! ### what the symbols tell -/
theorem sy_0 (wo : Nat → Wo) (b : Bool) (j : Nat) : sy 0 wo b j = (if b then 1 else 0) + 0 := rfl
theorem sy_1 (wo : Nat → Wo) (b : Bool) (j : Nat) : sy 1 wo b j = (if b then 2 else 0) + ((if (wo 0).on j then 1 else 0) + 0) := rfl
theorem sy_2 (wo : Nat → Wo) (b : Bool) (j : Nat) : sy 2 wo b j = (if b then 4 else 0) + ((if (wo 0).on j then 1 else 0) + ((if (wo 1).on j then 2 else 0) + 0)) := rfl
theorem sy_3 (wo : Nat → Wo) (b : Bool) (j : Nat) : sy 3 wo b j = (if b then 8 else 0) + ((if (wo 0).on j then 1 else 0) + ((if (wo 1).on j then 2 else 0) + ((if (wo 2).on j then 4 else 0) + 0))) := rfl
theorem sy_bnd {k : Nat} (hk : k ≤ 3) (wo : Nat → Wo) (b : Bool) (j : Nat) : sy k wo b j < 2 * 2 ^ k := by
  match k, hk with
  | 0, _ => rw [sy_0]; cases b <;> decide
  | 1, _ => rw [sy_1]; cases b <;> cases (wo 0).on j <;> decide
  | 2, _ => rw [sy_2]; cases b <;> cases (wo 0).on j <;> cases (wo 1).on j <;> decide
  | 3, _ => rw [sy_3]; cases b <;> cases (wo 0).on j <;> cases (wo 1).on j <;> cases (wo 2).on j <;> decide
theorem sy_top {k : Nat} (hk : k ≤ 3) (wo : Nat → Wo) (b : Bool) (j : Nat) : decide (bitN (sy k wo b j) k = 1) = b := by
  match k, hk with
  | 0, _ => rw [sy_0]; cases b <;> decide
  | 1, _ => rw [sy_1]; cases b <;> cases (wo 0).on j <;> decide
  | 2, _ => rw [sy_2]; cases b <;> cases (wo 0).on j <;> cases (wo 1).on j <;> decide
  | 3, _ => rw [sy_3]; cases b <;> cases (wo 0).on j <;> cases (wo 1).on j <;> cases (wo 2).on j <;> decide
theorem sy_bit {k : Nat} (hk : k ≤ 3) (wo : Nat → Wo) (b : Bool) (j a : Nat) (ha : a < k) : decide (bitN (sy k wo b j) a = 1) = (wo a).on j := by
  match k, hk, a, ha with
  | 1, _, 0, _ => rw [sy_1]; cases b <;> cases (wo 0).on j <;> decide
  | 2, _, 0, _ => rw [sy_2]; cases b <;> cases (wo 0).on j <;> cases (wo 1).on j <;> decide
  | 2, _, 1, _ => rw [sy_2]; cases b <;> cases (wo 0).on j <;> cases (wo 1).on j <;> decide
  | 3, _, 0, _ => rw [sy_3]; cases b <;> cases (wo 0).on j <;> cases (wo 1).on j <;> cases (wo 2).on j <;> decide
  | 3, _, 1, _ => rw [sy_3]; cases b <;> cases (wo 0).on j <;> cases (wo 1).on j <;> cases (wo 2).on j <;> decide
  | 3, _, 2, _ => rw [sy_3]; cases b <;> cases (wo 0).on j <;> cases (wo 1).on j <;> cases (wo 2).on j <;> decide
def up (lab : Nat → Nat) (p f : Nat) (i : Nat) : Nat := if i = p then f else lab i
def fl (s a : Nat) : Nat := if bitN s a = 1 then s - 2 ^ a else s + 2 ^ a
theorem fl_bnd0 : ∀ k < 4, ∀ s < 2 * 2 ^ k, ∀ a < k, fl s a < 2 * 2 ^ k := by decide +kernel
theorem fl_bit0 : ∀ s < 16, ∀ a < 3, ∀ c < 4, decide (bitN (fl s a) c = 1) = if c = a then !decide (bitN s a = 1) else decide (bitN s c = 1) := by decide +kernel
theorem tog0 : ∀ n < 6, ∀ i < n, ∀ p < n, ((List.range n).filter fun j => if j = p then !decide (j = i) else decide (j = i)).length ≠ 1 := by decide +kernel
section
variable {k : Nat} {nm : Nat → Str} {wo : Nat → Wo} {t : Tr Bool} {n : Nat}
theorem sym_bnd (hk : k ≤ 3) (i : Nat) : sym t k wo i < 2 * 2 ^ k := sy_bnd hk wo _ _
theorem sym_16 (hk : k ≤ 3) (i : Nat) : sym t k wo i < 16 := by
  have h1 := sym_bnd (t := t) (wo := wo) hk i
  have h2 : 2 ^ k ≤ 2 ^ 3 := Nat.pow_le_pow_right (by decide) hk
  omega
theorem bnd_sym (hk : k ≤ 3) : bnd k n (sym t k wo) = true := by
  unfold bnd
  rw [List.all_eq_true]
  intro i _
  exact decide_eq_true (sym_bnd hk i)
theorem pOn_sym (hk : k ≤ 3) (a : Nat) (ha : a < k) : pOn n (sym t k wo) a = (List.range n).filter (wo a).on := by
  unfold pOn
  apply List.filter_congr
  intro i _
  exact sy_bit hk wo _ i a ha
theorem right_of {lab : Nat → Nat} (hF : ∀ a, a < k → Fit n (nm a) (wo a)) (h : ∀ a, a < k → ¬ isL (nm a) → pOn n lab a = (List.range n).filter (wo a).on) : right k nm n lab = true := by
  unfold right
  rw [List.all_eq_true]
  intro a ha
  have ha' := List.mem_range.mp ha
  by_cases hl : isL (nm a)
  · rw [decide_eq_true hl, Bool.true_or]
  · have h1 := hF a ha'
    rw [h a ha' hl]
    cases hw : wo a with
    | lot p => rw [hw] at h1; exact absurd h1 hl
    | pl i =>
      rw [hw] at h1
      have : (List.range n).filter (Wo.pl i).on = [i] := filter_one n i h1.2
      rw [this]
      simp
theorem right_sym (hF : ∀ a, a < k → Fit n (nm a) (wo a)) (hk : k ≤ 3) : right k nm n (sym t k wo) = true :=
  right_of hF fun a ha _ => pOn_sym hk a ha
theorem bnd_flip (hk : k ≤ 3) (p a : Nat) (ha : a < k) : bnd k n (up (sym t k wo) p (fl (sym t k wo p) a)) = true := by
  unfold bnd
  rw [List.all_eq_true]
  intro i _
  apply decide_eq_true
  unfold up
  split
  · exact fl_bnd0 k (by omega) _ (sym_bnd hk p) a ha
  · exact sym_bnd hk i
theorem bit_flip (hk : k ≤ 3) (p a : Nat) (ha : a < k) (c : Nat) (hc : c < k) (i : Nat) : decide (bitN (up (sym t k wo) p (fl (sym t k wo p) a) i) c = 1) = if i = p ∧ c = a then !(wo c).on i else (wo c).on i := by
  unfold up
  by_cases hi : i = p
  · subst hi
    rw [if_pos rfl, fl_bit0 _ (sym_16 hk i) a (by omega) c (by omega)]
    by_cases hca : c = a
    · subst hca
      rw [if_pos rfl, if_pos ⟨rfl, rfl⟩]
      exact congrArg Bool.not (sy_bit hk wo _ i c hc)
    · rw [if_neg hca, if_neg fun h => hca h.2]
      exact sy_bit hk wo _ i c hc
  · rw [if_neg hi, if_neg fun h => hi h.1]
    exact sy_bit hk wo _ i c hc
theorem right_lot (hF : ∀ a, a < k → Fit n (nm a) (wo a)) (hk : k ≤ 3) (p a : Nat) (ha : a < k) (hl : isL (nm a)) : right k nm n (up (sym t k wo) p (fl (sym t k wo p) a)) = true :=
  right_of hF fun c hc hcl => by
    unfold pOn
    apply List.filter_congr
    intro i _
    rw [bit_flip hk p a ha c hc i, if_neg]
    rintro ⟨_, rfl⟩
    exact hcl hl
theorem right_place (hF : ∀ a, a < k → Fit n (nm a) (wo a)) (hk : k ≤ 3) (hn : n < 6) (p a : Nat) (hp : p < n) (ha : a < k) (hl : ¬ isL (nm a)) : right k nm n (up (sym t k wo) p (fl (sym t k wo p) a)) = false := by
  unfold right
  rw [List.all_eq_false]
  refine ⟨a, List.mem_range.mpr ha, ?_⟩
  have h1 := hF a ha
  cases hw : wo a with
  | lot q => rw [hw] at h1; exact absurd h1 hl
  | pl i =>
    rw [hw] at h1
    have e : pOn n (up (sym t k wo) p (fl (sym t k wo p) a)) a = (List.range n).filter fun j => if j = p then !decide (j = i) else decide (j = i) := by
      unfold pOn
      apply List.filter_congr
      intro j _
      rw [bit_flip hk p a ha a ha j, hw]
      by_cases hj : j = p
      · rw [if_pos ⟨hj, rfl⟩, if_pos hj]; rfl
      · rw [if_neg fun h => hj h.1, if_neg hj]; rfl
    rw [e]
    have := tog0 n hn i h1.2 p hp
    simp [hl, this]
theorem bnd_great {lab : Nat → Nat} (p d : Nat) (hp : p < n) : bnd k n (up lab p (2 * 2 ^ k + d)) = false := by
  unfold bnd
  rw [List.all_eq_false]
  refine ⟨p, List.mem_range.mpr hp, ?_⟩
  unfold up
  rw [if_pos rfl]
  simp
theorem sym_back (hk : k ≤ 3) (i : Nat) (b : Bool) (h : t.pre[i]? = some b) : decide (bitN (sym t k wo i) k = 1) = b := by
  have := sy_top hk wo (lt t i) i
  rw [lt_at t i b h] at this
  unfold sym
  rw [lt_at t i b h]
  exact this
end
theorem L_up (n : Nat) (lab : Nat → Nat) (p f : Nat) (hp : p < n) : (L n lab).take p ++ ([.int (f : Nat)] ++ (L n lab).drop (p + 1)) = L n (up lab p f) := by
  have h1 : (L n lab).set p (.int (f : Nat)) = L n (up lab p f) := by
    apply List.ext_getElem
    · rw [List.length_set, L_len, L_len]
    · intro i h1 h2
      simp only [List.getElem_set, L, up, List.getElem_map, List.getElem_range]
      by_cases h : p = i
      · rw [if_pos h, if_pos h.symm]
      · rw [if_neg h, if_neg fun h' => h h'.symm]
  rw [← h1, List.set_eq_take_append_cons_drop, if_pos (by rw [L_len]; exact hp)]
  rfl
theorem L_at (n : Nat) (lab : Nat → Nat) (p : Nat) (hp : p < n) : L2.atI (L n lab) (p : Nat) = some (.int (lab p : Nat)) := by
  rw [DL.atI_nat, L, List.getElem?_map, List.getElem?_range hp]
  rfl
end W05
namespace W05
open PySem PySem.Spec PyProof.Rows L2 DL LamX
noncomputable def s0_law (K : PySem.W.Frag) : Rho → SRes := (gSet 1 (fCall 1 none F__law_hand (fCons (fName 0) fNil)))
noncomputable def s1_law (K : PySem.W.Frag) : Rho → SRes := (gParN [10, 11] (fNCons (fCall 1 (some 0) F__law_tracks (fCons (fName 1) fNil)) (fNCons (fOp gAdd (fC (.int 1)) (fCall 2 (some 0) F__law_draw (fCons (fName 1) (fCons (fC (.int 5)) fNil)))) fNNil)))
noncomputable def s2_law (K : PySem.W.Frag) : Rho → SRes := (gSet 2 (fCall 2 (some 0) F__law_tree (fCons (fName 1) (fCons (fName 11) fNil))))
noncomputable def s3_law (K : PySem.W.Frag) : Rho → SRes := (gSet 3 (fCall 3 (some 0) F__law_telling (fCons (fName 1) (fCons (fName 10) (fCons (fName 11) fNil)))))
noncomputable def s4_law (K : PySem.W.Frag) : Rho → SRes := (gSet 4 (fLst fNil))
noncomputable def b5_law (K : PySem.W.Frag) : Rho → SRes := (gExpr (fMut uAppend 4 (fCons (fCall 4 none F__law_symbol (fCons (fOp (gOr gIx gIxDic) (fName 13) (fC (.int 0))) (fCons (fName 12) (fCons (fName 10) (fCons (fName 3) fNil))))) fNil)))
noncomputable def s5_law (K : PySem.W.Frag) : Rho → SRes := (gFor (fEnum (fCons (fCall 1 none F__law_places (fCons (fName 2) fNil)) fNil)) (uTup 2 (uCons (uName 12) (uCons (uName 13) uNil))) (b5_law K))
noncomputable def s6_law (K : PySem.W.Frag) : Rho → SRes := (gSet 5 (fCall 2 none F__law_put (fCons (fName 2) (fCons (fName 4) fNil))))
noncomputable def s7_law (K : PySem.W.Frag) : Rho → SRes := (gIf (fOr (fB (fOp gNe (fCall 3 none (F_marked K) (fCons (fName 10) (fCons (fName 2) (fCons (fName 3) fNil)))) (fName 5))) (fB (fOp gNe (fCall 1 none F_symbols_many (fCons (fName 10) fNil)) (fOp gMul (fC (.int 2)) (fCall 1 none F__law_power (fCons (fCB gLen (fCons (fName 10) fNil)) fNil)))))) (gRet (fC (.bl false))) (fun ρ => .nx ρ))
noncomputable def s8_law (K : PySem.W.Frag) : Rho → SRes := (gIf (fOr (fB (fOp (gIs true) (fCall 2 none F_is_marked (fCons (fName 10) (fCons (fName 5) fNil))) (fC (.bl true)))) (fB (fOp (gIs true) (fCall 2 none F_is_right (fCons (fName 10) (fCons (fName 5) fNil))) (fC (.bl true))))) (gRet (fC (.bl false))) (fun ρ => .nx ρ))
noncomputable def s9_law (K : PySem.W.Frag) : Rho → SRes := (gIf (fOr (fB (fOp gNe (fCall 2 none F_tree_of (fCons (fName 10) (fCons (fName 5) fNil))) (fName 2))) (fB (fOp gNe (fCall 2 none F_telling_of (fCons (fName 10) (fCons (fName 5) fNil))) (fName 3)))) (gRet (fC (.bl false))) (fun ρ => .nx ρ))
noncomputable def s10_law (K : PySem.W.Frag) : Rho → SRes := (gIf (fB (fOp gNe (fCall 2 none F_symbols_of_tree (fCons (fName 10) (fCons (fName 5) fNil))) (fCB gTuple (fCons (fName 4) fNil)))) (gRet (fC (.bl false))) (fun ρ => .nx ρ))
noncomputable def b11_law (K : PySem.W.Frag) : Rho → SRes := (gIf (fB (fOp gNe (fCall 3 none F_without (fCons (fName 10) (fCons (fName 5) (fCons (fName 6) fNil)))) (fCall 2 none F__law_put (fCons (fName 2) (fCons (fLc [18] (fItems (fName 4)) (uName 18) tsNil (fCall 2 none F__law_less (fCons (fName 18) (fCons (fName 6) fNil)))) fNil))))) (gRet (fC (.bl false))) (fun ρ => .nx ρ))
noncomputable def s11_law (K : PySem.W.Frag) : Rho → SRes := (gFor (fRange1 (fCons (fCB gLen (fCons (fName 10) fNil)) fNil)) (uName 6) (b11_law K))
noncomputable def s12_law (K : PySem.W.Frag) : Rho → SRes := (gSet 7 (fCall 2 (some 0) F__law_draw (fCons (fName 1) (fCons (fName 11) fNil))))
noncomputable def s13_law (K : PySem.W.Frag) : Rho → SRes := (gSet 8 (fOp gAdd (fOp gAdd (fSl (fName 4) fNoPart (fPart (fName 7))) (fLst (fCons (fOp gAdd (fOp gMul (fC (.int 2)) (fCall 1 none F__law_power (fCons (fCB gLen (fCons (fName 10) fNil)) fNil))) (fCall 2 (some 0) F__law_draw (fCons (fName 1) (fCons (fC (.int 3)) fNil)))) fNil))) (fSl (fName 4) (fPart (fOp gAdd (fName 7) (fC (.int 1)))) fNoPart)))
noncomputable def s14_law (K : PySem.W.Frag) : Rho → SRes := (gSet 9 (fCall 2 none F__law_put (fCons (fName 2) (fCons (fName 8) fNil))))
noncomputable def s15_law (K : PySem.W.Frag) : Rho → SRes := (gIf (fOr (fB (fOp (gIs true) (fCall 2 none F_is_marked (fCons (fName 10) (fCons (fName 9) fNil))) (fC (.bl false)))) (fNot (fB (fCall 2 none F__law_raises (fCons (fName 10) (fCons (fName 9) fNil)))))) (gRet (fC (.bl false))) (fun ρ => .nx ρ))
noncomputable def b16_law (K : PySem.W.Frag) : Rho → SRes := (gSeq (gSet 15 (fCall 1 none F__law_power (fCons (fName 6) fNil))) (gSeq (gSet 16 (fIf (fB (fOp gEq (fOp gMod (fCB gIntOf (fCons (fOp gDiv (fOp (gOr gIx gIxDic) (fName 4) (fName 7)) (fName 15)) fNil)) (fC (.int 2))) (fC (.int 1)))) (fOp gSub (fOp (gOr gIx gIxDic) (fName 4) (fName 7)) (fName 15)) (fOp gAdd (fOp (gOr gIx gIxDic) (fName 4) (fName 7)) (fName 15)))) (gSeq (gSet 17 (fCall 2 none F__law_put (fCons (fName 2) (fCons (fOp gAdd (fOp gAdd (fSl (fName 4) fNoPart (fPart (fName 7))) (fLst (fCons (fName 16) fNil))) (fSl (fName 4) (fPart (fOp gAdd (fName 7) (fC (.int 1)))) fNoPart)) fNil)))) (gSeq (gIf (fOr (fNot (fB (fCall 2 none F__law_is (fCons (fCall 2 none F_is_right (fCons (fName 10) (fCons (fName 17) fNil))) (fCons (fOp (gOr (gIn true) (gInDic true)) (fName 14) (fC (.str "pqrstuvwxyz"))) fNil))))) (fB (fOp (gIs true) (fCall 2 none F_is_marked (fCons (fName 10) (fCons (fName 17) fNil))) (fC (.bl true))))) (gRet (fC (.bl false))) (fun ρ => .nx ρ)) (gIf (fAnd (fB (fOp (gOr (gIn false) (gInDic false)) (fName 14) (fC (.str "pqrstuvwxyz")))) (fNot (fB (fCall 2 none F__law_raises (fCons (fName 10) (fCons (fName 17) fNil)))))) (gRet (fC (.bl false))) (fun ρ => .nx ρ))))))
noncomputable def s16_law (K : PySem.W.Frag) : Rho → SRes := (gFor (fEnum (fCons (fName 10) fNil)) (uTup 2 (uCons (uName 6) (uCons (uName 14) uNil))) (b16_law K))
noncomputable def s17_law (K : PySem.W.Frag) : Rho → SRes := (gRet (fCall 4 (some 0) (F__law_refuses K) (fCons (fName 1) (fCons (fName 10) (fCons (fName 2) (fCons (fName 3) fNil))))))
theorem spine_law (K : PySem.W.Frag) : g_law K = gSeq (s0_law K) (gSeq (s1_law K) (gSeq (s2_law K) (gSeq (s3_law K) (gSeq (s4_law K) (gSeq (s5_law K) (gSeq (s6_law K) (gSeq (s7_law K) (gSeq (s8_law K) (gSeq (s9_law K) (gSeq (s10_law K) (gSeq (s11_law K) (gSeq (s12_law K) (gSeq (s13_law K) (gSeq (s14_law K) (gSeq (s15_law K) (gSeq (s16_law K) ((s17_law K)))))))))))))))))) := rfl
theorem x_telling2 {m : MV} (hm : Hand m) (n : Nat) (hn : 0 < n) (hn2 : n < 100) {ts : List MV} (h : ts ∈ TRS) : ∃ (k : Nat) (nm : Nat → Str) (wo : Nat → Wo) (m' : MV), Hand m' ∧ k ≤ 3 ∧ ts = NS k nm ∧ (∀ a, a < k → Fit n (nm a) (wo a)) ∧
    F__law_telling [.io m, .sh (.tup ts), .sh (.int (n : Nat))] = .ret (.v (.tup (TW n k wo))) [.io m', .no, .no] := by
  obtain ⟨xs, rfl, hl, hx⟩ := trs h
  obtain ⟨ws, m', hm', rfl, hf, e⟩ := x_telling hm n hn hn2 xs hl hx
  rw [List.length_map] at hl
  have hr := rm_of (("", .pl 0) : Str × Wo) ws
  refine ⟨ws.length, fun a => (ws.getD a ("", .pl 0)).1, fun a => (ws.getD a ("", .pl 0)).2, m', hm', hl, ?_, fun a ha => ?_, ?_⟩
  · rw [List.map_map]
    conv => lhs; rw [hr]
    rw [List.map_map]
    rfl
  · have : ws.getD a ("", .pl 0) = ws[a] := by rw [List.getD_eq_getElem?_getD, List.getElem?_eq_getElem ha]; rfl
    show Fit n (ws.getD a ("", .pl 0)).1 (ws.getD a ("", .pl 0)).2
    rw [this]
    exact hf _ (List.getElem_mem ha)
  · rw [e]
    congr 3
    conv => lhs; rw [hr]
    rw [List.map_map]
    rfl
section
variable (K : PySem.W.Frag) {sc m m' m'' T : MV}
theorem st_0 {ns : List Int} (e : F__law_hand [.sh (.scr ns)] = .ret (.o m) [.no]) : s0_law K (.sh (.scr ns) :: List.replicate 18 .no) = .nx (.sh (.scr ns) :: .ow m :: List.replicate 17 .no) := by
  simp [s0_law, List.replicate, e]
theorem st_1 {ts : List MV} {i : Nat} (e1 : F__law_tracks [.io m] = .ret (.v (.tup ts)) [.io m']) (e2 : F__law_draw [.io m', .sh (.int 5)] = .ret (.v (.int (i : Nat))) [.io m'', .no]) :
    s1_law K (.sh sc :: .ow m :: List.replicate 17 .no) = .nx [.sh sc, .ow m'', .no, .no, .no, .no, .no, .no, .no, .no, .sh (.tup ts), .sh (.int (1 + i : Nat)), .no, .no, .no, .no, .no, .no, .no] := by
  simp [s1_law, List.replicate, e1, e2]
theorem st_2 {n : Nat} {o : MV} (e : F__law_tree [.io m, .sh (.int (n : Nat))] = .ret (.v o) [.io m', .no]) :
    s2_law K [.sh sc, .ow m, .no, .no, .no, .no, .no, .no, .no, .no, .sh T, .sh (.int (n : Nat)), .no, .no, .no, .no, .no, .no, .no] = .nx [.sh sc, .ow m', .sh o, .no, .no, .no, .no, .no, .no, .no, .sh T, .sh (.int (n : Nat)), .no, .no, .no, .no, .no, .no, .no] := by
  simp [s2_law, e]
theorem st_3 {n : Nat} {o w : MV} (e : F__law_telling [.io m, .sh T, .sh (.int (n : Nat))] = .ret (.v w) [.io m', .no, .no]) :
    s3_law K [.sh sc, .ow m, .sh o, .no, .no, .no, .no, .no, .no, .no, .sh T, .sh (.int (n : Nat)), .no, .no, .no, .no, .no, .no, .no] = .nx [.sh sc, .ow m', .sh o, .sh w, .no, .no, .no, .no, .no, .no, .sh T, .sh (.int (n : Nat)), .no, .no, .no, .no, .no, .no, .no] := by
  simp [s3_law, e]
theorem st_4 {n : Nat} {o w : MV} :
    s4_law K [.sh sc, .ow m, .sh o, .sh w, .no, .no, .no, .no, .no, .no, .sh T, .sh (.int (n : Nat)), .no, .no, .no, .no, .no, .no, .no] = .nx [.sh sc, .ow m, .sh o, .sh w, .ow (.lst []), .no, .no, .no, .no, .no, .sh T, .sh (.int (n : Nat)), .no, .no, .no, .no, .no, .no, .no] := by
  simp [s4_law]
end
section
variable (K : PySem.W.Frag) {sc m : MV} {k : Nat} {nm : Nat → Str} {wo : Nat → Wo} {t : Tr Bool}
/-- the symbols are put one behind another -/
def R5 (sc m : MV) (k : Nat) (nm : Nat → Str) (wo : Nat → Wo) (t : Tr Bool) (i : Nat) (j : Option MV × Option MV) : Rho := [.sh sc, .ow m, .sh (Tr.enc ltr t), .sh (.tup (TW t.size k wo)), .ow (.lst (L i (sym t k wo))), .no, .no, .no, .no, .no, .sh (.tup (NS k nm)), .sh (.int (t.size : Nat)), jS j.1, jS j.2, .no, .no, .no, .no, .no]
theorem pl_at (t : Tr Bool) (i : Nat) (hi : i < t.size) : ∃ r, spE ltr ((plc t).getD i (false, none, none, 0)) = .tup (ltr (lt t i) :: r) := by
  have h1 : i < (plc t).length := by rw [plc_len]; exact hi
  have e1 : (plc t).getD i (false, none, none, 0) = (plc t)[i] := by rw [List.getD_eq_getElem?_getD, List.getElem?_eq_getElem h1]; rfl
  have e2 : lt t i = ((plc t)[i]).1 := by
    apply lt_at
    rw [← plc_fst, List.getElem?_map, List.getElem?_eq_getElem h1]
    rfl
  rw [e1, e2]
  exact ⟨_, rfl⟩
theorem st_5 (hF : ∀ a, a < k → Fit t.size (nm a) (wo a)) (hk : k ≤ 3) (hz : t.size ≤ 10) : ∃ j, s5_law K (R5 sc m k nm wo t 0 (none, none)) = .nx (R5 sc m k nm wo t t.size j) := by
  have e1 := X_places ltr_isD t (by omega)
  have e2 : (plc t).map (spE ltr) = (List.range t.size).map fun i => spE ltr ((plc t).getD i (false, none, none, 0)) := by
    have := rm_of ((false, none, none, 0) : Sp Bool) (plc t)
    rw [plc_len] at this
    conv => lhs; rw [this]
    rw [List.map_map]
    rfl
  rw [e2] at e1
  obtain ⟨j, e3⟩ := for_rg (u := uTup 2 (uCons (uName 12) (uCons (uName 13) uNil))) (b := b5_law K) (fun i => .tup [.int (i : Nat), spE ltr ((plc t).getD i (false, none, none, 0))]) (fun i j => R5 sc m k nm wo t i j) t.size (none, none) fun i hi j rest => by
    obtain ⟨r, e⟩ := pl_at t i hi
    have e' := x_law_symbol hF hk (lt t i) i hi
    have hs : (L i (sym t k wo)).length < sizeLine := by rw [sizeLine_eq, L_len]; omega
    obtain ⟨j1, j2⟩ := j
    refine ⟨(some (.int (i : Nat)), some (.tup (ltr (lt t i) :: r))), ?_⟩
    rw [e, forF_cons]
    have hL := L_succ (sym t k wo) i
    have hq : sy k wo (lt t i) i = sym t k wo i := rfl
    cases j1 <;> cases j2 <;> simp [b5_law, R5, jS, gOr, e', hs, hL, hq]
  refine ⟨j, ?_⟩
  rw [← e3]
  simp [s5_law, R5, jS, e1, enum_rm]
end
end W05
namespace W05
open PySem PySem.Spec PyProof.Rows L2 DL LamX
theorem mt_ne (t : Tr Bool) (lab : Nat → Nat) (hz : t.size ≤ 10) : gNe (mt t lab) (mt t lab) = some (.v (.bl false)) := by
  have h1 := Tr.enc_depth (f := gI) (fun a => dep_int _) (Tr.fill lab t 0)
  have h2 := Tr.depth_le (Tr.fill lab t 0)
  rw [Tr.fill_size] at h2
  exact ne_self (Tr.enc_nob (fun a => by unfold gI; rw [MV.nob]) _) (by unfold mt; omega)
theorem one_ne (t : Tr Bool) (hz : t.size ≤ 10) : gNe (Tr.enc ltr t) (Tr.enc ltr t) = some (.v (.bl false)) := by
  have h1 := Tr.enc_depth (f := ltr) ltr_dep t
  have h2 := Tr.depth_le t
  exact ne_self (Tr.enc_nob ltr_nob t) (by omega)
theorem L_ne (n : Nat) (lab : Nat → Nat) : gNe (.tup (L n lab)) (.tup (L n lab)) = some (.v (.bl false)) := by
  refine ne_self (nob_tup fun x hx => ?_) (Nat.le_trans (dep_tup (n := 0) fun x hx => ?_) (by decide))
  · obtain ⟨i, _, rfl⟩ := List.mem_map.mp hx
    rw [MV.nob]
  · obtain ⟨i, _, rfl⟩ := List.mem_map.mp hx
    rw [dep_int]
    exact Nat.le_refl _
theorem wo_nob (n : Nat) (w : Wo) : (w.enc n).nob = true := by
  cases w with
  | pl i => unfold Wo.enc; rw [MV.nob]
  | lot p =>
    unfold Wo.enc
    refine nob_tup fun x hx => ?_
    obtain ⟨i, _, rfl⟩ := List.mem_map.mp hx
    rw [MV.nob]
theorem wo_dep (n : Nat) (w : Wo) : depM (w.enc n) ≤ 1 := by
  cases w with
  | pl i => unfold Wo.enc; rw [dep_int]; omega
  | lot p =>
    unfold Wo.enc
    refine dep_tup fun x hx => ?_
    obtain ⟨i, _, rfl⟩ := List.mem_map.mp hx
    rw [dep_int]
    exact Nat.le_refl _
theorem TW_ne (n k : Nat) (wo : Nat → Wo) : gNe (.tup (TW n k wo)) (.tup (TW n k wo)) = some (.v (.bl false)) := by
  refine ne_self (nob_tup fun x hx => ?_) (Nat.le_trans (dep_tup (n := 1) fun x hx => ?_) (by decide))
  · obtain ⟨i, _, rfl⟩ := List.mem_map.mp hx
    exact wo_nob _ _
  · obtain ⟨i, _, rfl⟩ := List.mem_map.mp hx
    exact wo_dep _ _
section
variable (K : PySem.W.Frag) {sc m m' : MV} {k : Nat} {nm : Nat → Str} {wo : Nat → Wo} {t : Tr Bool}
def R6 (sc m : MV) (k : Nat) (nm : Nat → Str) (wo : Nat → Wo) (t : Tr Bool) (j : Option MV × Option MV) (s6 s7 s8 s9 : Sl) : Rho := [.sh sc, .ow m, .sh (Tr.enc ltr t), .sh (.tup (TW t.size k wo)), .sh (.lst (L t.size (sym t k wo))), .sh (mt t (sym t k wo)), s6, s7, s8, s9, .sh (.tup (NS k nm)), .sh (.int (t.size : Nat)), jS j.1, jS j.2, .no, .no, .no, .no, .no]
theorem st_6 (hz : t.size ≤ 10) (j : Option MV × Option MV) : s6_law K (R5 sc m k nm wo t t.size j) = .nx (R6 sc m k nm wo t j .no .no .no .no) := by
  have e := x_law_put t (sym t k wo) (by omega)
  obtain ⟨j1, j2⟩ := j
  cases j1 <;> cases j2 <;> simp [s6_law, R5, R6, jS, e]
theorem st_7 (hT : NS k nm ∈ TRS) (hF : ∀ a, a < k → Fit t.size (nm a) (wo a)) (hk : k ≤ 3) (hz : t.size ≤ 10) (j : Option MV × Option MV) : s7_law K (R6 sc m k nm wo t j .no .no .no .no) = .nx (R6 sc m k nm wo t j .no .no .no .no) := by
  have e1 := x_marked K hT hF hk hz
  have e2 := mt_ne t (sym t k wo) hz
  have e3 := x_symbols_many hT hk
  have e4 := x_lpow k hk
  have e5 : (2 : Int) * ((2 ^ k : Nat) : Int) = ((2 * 2 ^ k : Nat) : Int) := by omega
  obtain ⟨j1, j2⟩ := j
  cases j1 <;> cases j2 <;> simp [-Int.natCast_mul, -Int.natCast_pow, s7_law, R6, jS, e1, e2, e3, e4, e5, NS_len, -gInt_s, gM_l]
theorem st_8 (hT : NS k nm ∈ TRS) (hF : ∀ a, a < k → Fit t.size (nm a) (wo a)) (hk : k ≤ 3) (hz : t.size ≤ 10) (j : Option MV × Option MV) : s8_law K (R6 sc m k nm wo t j .no .no .no .no) = .nx (R6 sc m k nm wo t j .no .no .no .no) := by
  have e1 := x_is_marked (t := t) (lab := sym t k wo) hT hk hz
  rw [bnd_sym hk] at e1
  have e2 := x_is_right (t := t) (lab := sym t k wo) hT (fun a ha => fit_or (hF a ha)) hk hz (bnd_sym hk)
  rw [right_sym hF hk] at e2
  obtain ⟨j1, j2⟩ := j
  cases j1 <;> cases j2 <;> simp [s8_law, R6, jS, e1, e2]
theorem st_9 (hT : NS k nm ∈ TRS) (hF : ∀ a, a < k → Fit t.size (nm a) (wo a)) (hk : k ≤ 3) (hz : t.size ≤ 10) (j : Option MV × Option MV) : s9_law K (R6 sc m k nm wo t j .no .no .no .no) = .nx (R6 sc m k nm wo t j .no .no .no .no) := by
  have e1 := x_tree_of (t := t) (lab := sym t k wo) hT (fun a ha => fit_or (hF a ha)) hk hz (bnd_sym hk) (right_sym hF hk) (sym_back hk)
  have e2 := x_telling_of (t := t) (lab := sym t k wo) hT hF (fun a ha => pOn_sym hk a ha) hk hz (bnd_sym hk) (right_sym hF hk)
  have e3 := one_ne t hz
  have e4 := TW_ne t.size k wo
  obtain ⟨j1, j2⟩ := j
  cases j1 <;> cases j2 <;> simp [s9_law, R6, jS, e1, e2, e3, e4]
theorem st_10 (hT : NS k nm ∈ TRS) (hk : k ≤ 3) (hz : t.size ≤ 10) (j : Option MV × Option MV) : s10_law K (R6 sc m k nm wo t j .no .no .no .no) = .nx (R6 sc m k nm wo t j .no .no .no .no) := by
  have e1 := x_symbols_of_tree (t := t) (lab := sym t k wo) hT hk hz (bnd_sym hk)
  have e2 := L_ne t.size (sym t k wo)
  obtain ⟨j1, j2⟩ := j
  cases j1 <;> cases j2 <;> simp [s10_law, R6, jS, e1, e2]
theorem lc_less (hz : t.size ≤ 10) (j : Option MV × Option MV) (a : Nat) (ha : a ≤ 3) : lcF [18] (uName 18) tsNil (fCall 2 none F__law_less (fCons (fName 18) (fCons (fName 6) fNil))) (L t.size (sym t k wo)) [] (R6 sc m k nm wo t j (.sh (.int (a : Nat))) .no .no .no) = .ok ([] ++ L t.size fun i => sw (sym t k wo i) a) (R6 sc m k nm wo t j (.sh (.int (a : Nat))) .no .no .no) := by
  refine lc_all (List.range t.size) [] (by simp; omega) fun i hi acc ms hs => ?_
  have := x_law_less (sym t k wo i) a ha
  obtain ⟨j1, j2⟩ := j
  rw [lcF_cons]
  cases j1 <;> cases j2 <;> simp [R6, jS, this, hs]
theorem st_11 (hT : NS k nm ∈ TRS) (hk : k ≤ 3) (hz : t.size ≤ 10) (j : Option MV × Option MV) : ∃ j6, s11_law K (R6 sc m k nm wo t j .no .no .no .no) = .nx (R6 sc m k nm wo t j (jS j6) .no .no .no) := by
  obtain ⟨j6, e3⟩ := for_rg (u := uName 6) (b := b11_law K) (fun a => .int (a : Nat)) (fun _ j6 => R6 sc m k nm wo t j (jS j6) .no .no .no) k none fun a ha j6 rest => by
    have e1 := x_without (t := t) (lab := sym t k wo) hT hk hz (bnd_sym hk) a ha
    have e2 := lc_less (sc := sc) (m := m) (k := k) (nm := nm) (wo := wo) hz j a (by omega)
    have e3 := x_law_put t (fun i => sw (sym t k wo i) a) (by omega)
    have e4 := mt_ne t (fun i => sw (sym t k wo i) a) hz
    refine ⟨some (.int (a : Nat)), ?_⟩
    rw [forF_cons]
    obtain ⟨j1, j2⟩ := j
    simp only [List.nil_append] at e2
    cases j1 <;> cases j2 <;> cases j6 <;> simp only [R6, jS] at e2 <;> simp [b11_law, R6, jS, e1, e2, e3, e4]
  refine ⟨j6, ?_⟩
  have e3' := e3
  have hr := sm62 (i := (k : Nat)) (by omega) (by omega)
  rw [← e3]
  obtain ⟨j1, j2⟩ := j
  cases j1 <;> cases j2 <;> simp [-small62_s, s11_law, R6, jS, NS_len, hr, rgM_00]
end
end W05
namespace W05
open PySem PySem.Spec PyProof.Rows L2 DL LamX
section
variable (K : PySem.W.Frag) {sc m m' : MV} {k : Nat} {nm : Nat → Str} {wo : Nat → Wo} {t : Tr Bool}
theorem st_12 {j : Option MV × Option MV} {j6 : Option MV} {p : Nat} (e : F__law_draw [.io m, .sh (.int (t.size : Nat))] = .ret (.v (.int (p : Nat))) [.io m', .no]) : s12_law K (R6 sc m k nm wo t j (jS j6) .no .no .no) = .nx (R6 sc m' k nm wo t j (jS j6) (.sh (.int (p : Nat))) .no .no) := by
  obtain ⟨j1, j2⟩ := j
  cases j1 <;> cases j2 <;> cases j6 <;> simp [s12_law, R6, jS, e]
def grt (k : Nat) (wo : Nat → Wo) (t : Tr Bool) (p d : Nat) : Nat → Nat := up (sym t k wo) p (2 * 2 ^ k + d)
theorem cutA (n : Nat) (lab : Nat → Nat) (p : Nat) : cutL (L n lab) none (some (p : Int)) = (L n lab).take p := cut_3 _ _
theorem cutB (n : Nat) (lab : Nat → Nat) (p : Nat) : cutL (L n lab) (some ((p : Int) + 1)) none = (L n lab).drop (p + 1) := cut_2 _ (p + 1)
theorem len_take (n : Nat) (lab : Nat → Nat) (p : Nat) (hp : p < n) : ((L n lab).take p).length = p := by rw [List.length_take, L_len]; omega
theorem len_drop (n : Nat) (lab : Nat → Nat) (p : Nat) : ((L n lab).drop (p + 1)).length = n - (p + 1) := by rw [List.length_drop, L_len]
theorem st_13 {j : Option MV × Option MV} {j6 : Option MV} {p d : Nat} (hk : k ≤ 3) (hp : p < t.size) (hz : t.size ≤ 10) (e : F__law_draw [.io m, .sh (.int 3)] = .ret (.v (.int (d : Nat))) [.io m', .no]) : s13_law K (R6 sc m k nm wo t j (jS j6) (.sh (.int (p : Nat))) .no .no) = .nx (R6 sc m' k nm wo t j (jS j6) (.sh (.int (p : Nat))) (.ow (.lst (L t.size (grt k wo t p d)))) .no) := by
  have e1 := x_lpow k hk
  have e2 := L_up t.size (sym t k wo) p (2 * 2 ^ k + d) hp
  have e3 := cutA t.size (sym t k wo) p
  have e4 := cutB t.size (sym t k wo) p
  have h1 := len_take t.size (sym t k wo) p hp
  have h2 := len_drop t.size (sym t k wo) p
  have h3 : p + 1 ≤ sizeLine := by rw [sizeLine_eq]; omega
  have h4 : p + 1 + (t.size - (p + 1)) ≤ sizeLine := by rw [sizeLine_eq]; omega
  have e5 : (2 : Int) * ((2 ^ k : Nat) : Int) + (d : Nat) = ((2 * 2 ^ k + d : Nat) : Int) := by omega
  have e6 : (L t.size (sym t k wo)).take p ++ ([.int ((2 * 2 ^ k + d : Nat) : Int)] ++ (L t.size (sym t k wo)).drop (p + 1)) = L t.size (grt k wo t p d) := e2
  rw [List.cons_append, List.nil_append] at e6
  obtain ⟨j1, j2⟩ := j
  cases j1 <;> cases j2 <;> cases j6 <;> simp [-Int.natCast_mul, -Int.natCast_pow, -Int.natCast_add, -List.length_take, -List.length_drop, -cutL_s, -gInt_s, gM_l, s13_law, R6, jS, e, e1, e3, e4, e5, NS_len, h1, h2, h3, h4, e6]
theorem st_14 {j : Option MV × Option MV} {j6 : Option MV} {p d : Nat} (hz : t.size ≤ 10) : s14_law K (R6 sc m k nm wo t j (jS j6) (.sh (.int (p : Nat))) (.ow (.lst (L t.size (grt k wo t p d)))) .no) = .nx (R6 sc m k nm wo t j (jS j6) (.sh (.int (p : Nat))) (.sh (.lst (L t.size (grt k wo t p d)))) (.sh (mt t (grt k wo t p d)))) := by
  have e := x_law_put t (grt k wo t p d) (by omega)
  obtain ⟨j1, j2⟩ := j
  cases j1 <;> cases j2 <;> cases j6 <;> simp [s14_law, R6, jS, e]
theorem st_15 {j : Option MV × Option MV} {j6 : Option MV} {p d : Nat} {s8 : MV} (hT : NS k nm ∈ TRS) (hF : ∀ a, a < k → Fit t.size (nm a) (wo a)) (hk : k ≤ 3) (hp : p < t.size) (hz : t.size ≤ 10) : s15_law K (R6 sc m k nm wo t j (jS j6) (.sh (.int (p : Nat))) (.sh s8) (.sh (mt t (grt k wo t p d)))) = .nx (R6 sc m k nm wo t j (jS j6) (.sh (.int (p : Nat))) (.sh s8) (.sh (mt t (grt k wo t p d)))) := by
  have hb : bnd k t.size (grt k wo t p d) = false := bnd_great p d hp
  have e1 := x_is_marked (t := t) (lab := grt k wo t p d) hT hk hz
  rw [hb] at e1
  have e2 := x_raises (t := t) (lab := grt k wo t p d) hT (fun a ha => fit_or (hF a ha)) hk hz (.inl hb)
  obtain ⟨j1, j2⟩ := j
  cases j1 <;> cases j2 <;> cases j6 <;> simp [s15_law, R6, jS, e1, e2]
def R16 (sc m : MV) (k : Nat) (nm : Nat → Str) (wo : Nat → Wo) (t : Tr Bool) (p : Nat) (x8 x9 : MV) (j12 j13 : Option MV) (j : Option MV × Option MV × Option MV × Option MV × Option MV) : Rho := [.sh sc, .ow m, .sh (Tr.enc ltr t), .sh (.tup (TW t.size k wo)), .sh (.lst (L t.size (sym t k wo))), .sh (mt t (sym t k wo)), jS j.1, .sh (.int (p : Nat)), .sh x8, .sh x9, .sh (.tup (NS k nm)), .sh (.int (t.size : Nat)), jS j12, jS j13, jS j.2.1, jS j.2.2.1, jS j.2.2.2.1, jS j.2.2.2.2, .no]
theorem div_p (s a : Nat) (ha : a ≤ 3) : gInt cDiv (fun i j => i / j) (.int (s : Nat)) (.int ((2 ^ a : Nat) : Int)) = some (.v (.int ((s / 2 ^ a : Nat) : Int))) := by
  have h1 : 2 ^ a ≤ 2 ^ 3 := Nat.pow_le_pow_right (by decide) ha
  have h2 : 0 < 2 ^ a := Nat.pow_pos (by decide)
  rw [gD_i _ _ _ (by omega) (by omega)]
  rfl
theorem mod_p (s a : Nat) : gInt cMod (fun i j => i % j) (.int ((s / 2 ^ a : Nat) : Int)) (.int 2) = some (.v (.int (bitN s a : Nat))) := by
  rw [gO_i _ _ _ (by omega)]
  rfl
theorem fl_1 (s a : Nat) (h : bitN s a = 1) : ((s : Nat) : Int) - ((2 ^ a : Nat) : Int) = (fl s a : Nat) := by
  unfold fl
  rw [if_pos h]
  unfold bitN at h
  have : 2 ^ a ≤ s := by
    rcases Nat.lt_or_ge s (2 ^ a) with h' | h'
    · rw [Nat.div_eq_of_lt h'] at h
      omega
    · exact h'
  omega
theorem fl_0 (s a : Nat) (h : ¬ bitN s a = 1) : ((s : Nat) : Int) + ((2 ^ a : Nat) : Int) = (fl s a : Nat) := by
  unfold fl
  rw [if_neg h]
  omega
/-- the bit and the number with it turned -/
def R16a (sc m : MV) (k : Nat) (nm : Nat → Str) (wo : Nat → Wo) (t : Tr Bool) (p : Nat) (x8 x9 : MV) (j12 j13 : Option MV) (a : Nat) (s17 : Sl) : Rho := [.sh sc, .ow m, .sh (Tr.enc ltr t), .sh (.tup (TW t.size k wo)), .sh (.lst (L t.size (sym t k wo))), .sh (mt t (sym t k wo)), .sh (.int (a : Nat)), .sh (.int (p : Nat)), .sh x8, .sh x9, .sh (.tup (NS k nm)), .sh (.int (t.size : Nat)), jS j12, jS j13, .sh (.str (nm a)), .sh (.int ((2 ^ a : Nat) : Int)), .sh (.int (fl (sym t k wo p) a : Nat)), s17, .no]
end
end W05
namespace W05
open PySem PySem.Spec PyProof.Rows L2 DL LamX
noncomputable def s0_b16_law (K : PySem.W.Frag) : Rho → SRes := (gSet 15 (fCall 1 none F__law_power (fCons (fName 6) fNil)))
noncomputable def s1_b16_law (K : PySem.W.Frag) : Rho → SRes := (gSet 16 (fIf (fB (fOp gEq (fOp gMod (fCB gIntOf (fCons (fOp gDiv (fOp (gOr gIx gIxDic) (fName 4) (fName 7)) (fName 15)) fNil)) (fC (.int 2))) (fC (.int 1)))) (fOp gSub (fOp (gOr gIx gIxDic) (fName 4) (fName 7)) (fName 15)) (fOp gAdd (fOp (gOr gIx gIxDic) (fName 4) (fName 7)) (fName 15))))
noncomputable def s2_b16_law (K : PySem.W.Frag) : Rho → SRes := (gSet 17 (fCall 2 none F__law_put (fCons (fName 2) (fCons (fOp gAdd (fOp gAdd (fSl (fName 4) fNoPart (fPart (fName 7))) (fLst (fCons (fName 16) fNil))) (fSl (fName 4) (fPart (fOp gAdd (fName 7) (fC (.int 1)))) fNoPart)) fNil))))
noncomputable def s3_b16_law (K : PySem.W.Frag) : Rho → SRes := (gIf (fOr (fNot (fB (fCall 2 none F__law_is (fCons (fCall 2 none F_is_right (fCons (fName 10) (fCons (fName 17) fNil))) (fCons (fOp (gOr (gIn true) (gInDic true)) (fName 14) (fC (.str "pqrstuvwxyz"))) fNil))))) (fB (fOp (gIs true) (fCall 2 none F_is_marked (fCons (fName 10) (fCons (fName 17) fNil))) (fC (.bl true))))) (gRet (fC (.bl false))) (fun ρ => .nx ρ))
noncomputable def s4_b16_law (K : PySem.W.Frag) : Rho → SRes := (gIf (fAnd (fB (fOp (gOr (gIn false) (gInDic false)) (fName 14) (fC (.str "pqrstuvwxyz")))) (fNot (fB (fCall 2 none F__law_raises (fCons (fName 10) (fCons (fName 17) fNil)))))) (gRet (fC (.bl false))) (fun ρ => .nx ρ))
theorem spine_b16_law (K : PySem.W.Frag) : b16_law K = gSeq (s0_b16_law K) (gSeq (s1_b16_law K) (gSeq (s2_b16_law K) (gSeq (s3_b16_law K) ((s4_b16_law K))))) := rfl
section
variable (K : PySem.W.Frag) {sc m m' x8 x9 : MV} {k : Nat} {nm : Nat → Str} {wo : Nat → Wo} {t : Tr Bool} {p a : Nat} {j12 j13 : Option MV}
theorem b_0 {j15 j16 j17 : Option MV} (ha : a ≤ 3) : s0_b16_law K [.sh sc, .ow m, .sh (Tr.enc ltr t), .sh (.tup (TW t.size k wo)), .sh (.lst (L t.size (sym t k wo))), .sh (mt t (sym t k wo)), .sh (.int (a : Nat)), .sh (.int (p : Nat)), .sh x8, .sh x9, .sh (.tup (NS k nm)), .sh (.int (t.size : Nat)), jS j12, jS j13, .sh (.str (nm a)), jS j15, jS j16, jS j17, .no] = .nx [.sh sc, .ow m, .sh (Tr.enc ltr t), .sh (.tup (TW t.size k wo)), .sh (.lst (L t.size (sym t k wo))), .sh (mt t (sym t k wo)), .sh (.int (a : Nat)), .sh (.int (p : Nat)), .sh x8, .sh x9, .sh (.tup (NS k nm)), .sh (.int (t.size : Nat)), jS j12, jS j13, .sh (.str (nm a)), .sh (.int ((2 ^ a : Nat) : Int)), jS j16, jS j17, .no] := by
  have e := x_lpow a ha
  cases j12 <;> cases j13 <;> cases j15 <;> cases j16 <;> cases j17 <;> simp [-Int.natCast_pow, s0_b16_law, jS, e]
theorem b_1 {j16 j17 : Option MV} (ha : a ≤ 3) (hp : p < t.size) : s1_b16_law K [.sh sc, .ow m, .sh (Tr.enc ltr t), .sh (.tup (TW t.size k wo)), .sh (.lst (L t.size (sym t k wo))), .sh (mt t (sym t k wo)), .sh (.int (a : Nat)), .sh (.int (p : Nat)), .sh x8, .sh x9, .sh (.tup (NS k nm)), .sh (.int (t.size : Nat)), jS j12, jS j13, .sh (.str (nm a)), .sh (.int ((2 ^ a : Nat) : Int)), jS j16, jS j17, .no] = .nx (R16a sc m k nm wo t p x8 x9 j12 j13 a (jS j17)) := by
  have e1 := L_at t.size (sym t k wo) p hp
  have e2 := div_p (sym t k wo p) a ha
  have e3 := mod_p (sym t k wo p) a
  by_cases hb : bitN (sym t k wo p) a = 1
  · have e4 := fl_1 _ _ hb
    cases j12 <;> cases j13 <;> cases j16 <;> cases j17 <;> simp [-Int.natCast_pow, -Int.natCast_ediv, -gInt_s, gT_i, s1_b16_law, R16a, jS, gOr, e1, e2, e3, e4, hb]
  · have e4 := fl_0 _ _ hb
    have hb' : ¬ ((bitN (sym t k wo p) a : Int) = 1) := by omega
    cases j12 <;> cases j13 <;> cases j16 <;> cases j17 <;> simp [-Int.natCast_pow, -Int.natCast_ediv, -gInt_s, gT_i, s1_b16_law, R16a, jS, gOr, e1, e2, e3, e4, hb, hb']
theorem b_2 {s17 : Option MV} (hp : p < t.size) (hz : t.size ≤ 10) : s2_b16_law K (R16a sc m k nm wo t p x8 x9 j12 j13 a (jS s17)) = .nx (R16a sc m k nm wo t p x8 x9 j12 j13 a (.sh (mt t (up (sym t k wo) p (fl (sym t k wo p) a))))) := by
  have e0 := x_law_put t (up (sym t k wo) p (fl (sym t k wo p) a)) (by omega)
  have e2 := L_up t.size (sym t k wo) p (fl (sym t k wo p) a) hp
  have e3 := cutA t.size (sym t k wo) p
  have e4 := cutB t.size (sym t k wo) p
  have h1 := len_take t.size (sym t k wo) p hp
  have h2 := len_drop t.size (sym t k wo) p
  have h3 : p + 1 ≤ sizeLine := by rw [sizeLine_eq]; omega
  have h4 : p + 1 + (t.size - (p + 1)) ≤ sizeLine := by rw [sizeLine_eq]; omega
  rw [List.cons_append, List.nil_append] at e2
  cases j12 <;> cases j13 <;> cases s17 <;> simp [-Int.natCast_pow, -List.length_take, -List.length_drop, -cutL_s, s2_b16_law, R16a, jS, e0, e3, e4, h1, h2, h3, h4, e2]
theorem b_3 (hT : NS k nm ∈ TRS) (hF : ∀ a, a < k → Fit t.size (nm a) (wo a)) (hk : k ≤ 3) (ha : a < k) (hp : p < t.size) (hz : t.size < 6) : s3_b16_law K (R16a sc m k nm wo t p x8 x9 j12 j13 a (.sh (mt t (up (sym t k wo) p (fl (sym t k wo p) a))))) = .nx (R16a sc m k nm wo t p x8 x9 j12 j13 a (.sh (mt t (up (sym t k wo) p (fl (sym t k wo p) a))))) := by
  have hb := bnd_flip (n := t.size) (t := t) (wo := wo) hk p a ha
  have e1 := x_is_marked (t := t) (lab := up (sym t k wo) p (fl (sym t k wo p) a)) hT hk (by omega)
  rw [hb] at e1
  have e2 := x_is_right (t := t) (lab := up (sym t k wo) p (fl (sym t k wo p) a)) hT (fun a ha => fit_or (hF a ha)) hk (by omega) hb
  rcases fit_or (hF a ha) with h | h
  · have hr := right_place (t := t) hF hk hz p a hp ha (PnL h)
    rw [hr] at e2
    have e3 := pin h
    have e4 := x_law_is false false
    cases j12 <;> cases j13 <;> simp [s3_b16_law, R16a, jS, gOr, e1, e2, e3, e4]
  · have hr := right_lot (t := t) hF hk p a ha h
    rw [hr] at e2
    have e3 := lin h
    have e4 := x_law_is true true
    cases j12 <;> cases j13 <;> simp [s3_b16_law, R16a, jS, gOr, e1, e2, e3, e4]
theorem b_4 (hT : NS k nm ∈ TRS) (hF : ∀ a, a < k → Fit t.size (nm a) (wo a)) (hk : k ≤ 3) (ha : a < k) (hp : p < t.size) (hz : t.size < 6) : s4_b16_law K (R16a sc m k nm wo t p x8 x9 j12 j13 a (.sh (mt t (up (sym t k wo) p (fl (sym t k wo p) a))))) = .nx (R16a sc m k nm wo t p x8 x9 j12 j13 a (.sh (mt t (up (sym t k wo) p (fl (sym t k wo p) a))))) := by
  rcases fit_or (hF a ha) with h | h
  · have hr := right_place (t := t) hF hk hz p a hp ha (PnL h)
    have e3 := pin h
    have e4 := x_raises (t := t) (lab := up (sym t k wo) p (fl (sym t k wo p) a)) hT (fun a ha => fit_or (hF a ha)) hk (by omega) (.inr hr)
    cases j12 <;> cases j13 <;> simp [s4_b16_law, R16a, jS, gOr, e3, e4]
  · have e3 := lin h
    cases j12 <;> cases j13 <;> simp [s4_b16_law, R16a, jS, gOr, e3]
theorem st_16 {j6 : Option MV} (hT : NS k nm ∈ TRS) (hF : ∀ a, a < k → Fit t.size (nm a) (wo a)) (hk : k ≤ 3) (hp : p < t.size) (hz : t.size < 6) : ∃ j, s16_law K (R16 sc m k nm wo t p x8 x9 j12 j13 (j6, none, none, none, none)) = .nx (R16 sc m k nm wo t p x8 x9 j12 j13 j) := by
  obtain ⟨j, e3⟩ := for_rg (u := uTup 2 (uCons (uName 6) (uCons (uName 14) uNil))) (b := b16_law K) (fun a => .tup [.int (a : Nat), .str (nm a)]) (fun _ j => R16 sc m k nm wo t p x8 x9 j12 j13 j) k (j6, none, none, none, none) fun a ha j rest => by
    obtain ⟨q1, q2, q3, q4, q5⟩ := j
    refine ⟨(some (.int (a : Nat)), some (.str (nm a)), some (.int ((2 ^ a : Nat) : Int)), some (.int (fl (sym t k wo p) a : Nat)), some (mt t (up (sym t k wo) p (fl (sym t k wo p) a)))), ?_⟩
    have eu : uTup 2 (uCons (uName 6) (uCons (uName 14) uNil)) (.tup [.int (a : Nat), .str (nm a)]) (R16 sc m k nm wo t p x8 x9 j12 j13 (q1, q2, q3, q4, q5)) = some [.sh sc, .ow m, .sh (Tr.enc ltr t), .sh (.tup (TW t.size k wo)), .sh (.lst (L t.size (sym t k wo))), .sh (mt t (sym t k wo)), .sh (.int (a : Nat)), .sh (.int (p : Nat)), .sh x8, .sh x9, .sh (.tup (NS k nm)), .sh (.int (t.size : Nat)), jS j12, jS j13, .sh (.str (nm a)), jS q3, jS q4, jS q5, .no] := by
      cases q1 <;> cases q2 <;> simp [R16, jS]
    rw [forF_cons, eu]
    show loopS (b16_law K _) _ = _
    rw [spine_b16_law, gSeq_s, b_0 K (by omega), seq_nx, gSeq_s, b_1 K (by omega) hp, seq_nx, gSeq_s, b_2 K hp (by omega), seq_nx, gSeq_s, b_3 K hT hF hk ha hp hz, seq_nx, b_4 K hT hF hk ha hp hz, loopS_nx]
    rfl
  refine ⟨j, ?_⟩
  have hz : enumM 0 (NS k nm) = (List.range k).map fun a => .tup [.int (a : Nat), .str (nm a)] := enum_rm _ _
  rw [← e3]
  cases j12 <;> cases j13 <;> cases j6 <;> simp [s16_law, R16, jS, hz]
end
end W05
namespace W05
open PySem PySem.Spec PyProof.Rows L2 DL LamX
noncomputable def s0__law_refuses (K : PySem.W.Frag) : Rho → SRes := (gTry [ ("NoTelling" , true) , ("NoTracks" , false) , ("NoTree" , false) ] (gSeq (gExpr (fCall 3 none (F_marked K) (fCons (fName 1) (fCons (fName 2) (fCons (fOp gAdd (fName 3) (fTup (fCons (fC (.int 0)) fNil))) fNil))))) (gRet (fC (.bl false)))) (fun ρ => .nx ρ))
noncomputable def s1__law_refuses (K : PySem.W.Frag) : Rho → SRes := (gTry [ ("NoMarked" , false) , ("NoTelling" , false) , ("NoTrack" , true) , ("NoTracks" , false) , ("NoTree" , false) ] (gSeq (gExpr (fCall 3 none F_without (fCons (fName 1) (fCons (fCall 3 none (F_marked K) (fCons (fName 1) (fCons (fName 2) (fCons (fName 3) fNil)))) (fCons (fCB gLen (fCons (fName 1) fNil)) fNil))))) (gRet (fC (.bl false)))) (fun ρ => .nx ρ))
noncomputable def s2__law_refuses (K : PySem.W.Frag) : Rho → SRes := (gSet 4 (fCall 2 (some 0) F__law_some (fCons (fName 0) (fCons (fLst (fCons (fTup (fCons (fC (.str "y")) (fCons (fC (.str "x")) fNil))) (fCons (fTup (fCons (fC (.str "x")) (fCons (fC (.str "X")) fNil))) (fCons (fTup (fCons (fC (.str "x")) (fCons (fC (.str "x")) fNil))) (fCons (fLst (fCons (fC (.str "x")) fNil)) (fCons (fTup (fCons (fC (.str "a")) fNil)) (fCons (fTup (fCons (fC (.str "P")) (fCons (fC (.str "Q")) (fCons (fC (.str "R")) (fCons (fC (.str "S")) fNil))))) (fCons (fC (.str "x")) fNil)))))))) fNil))))
noncomputable def s3__law_refuses (K : PySem.W.Frag) : Rho → SRes := (gTry [ ("NoTracks" , true) ] (gExpr (fCall 1 none F_symbols_many (fCons (fName 4) fNil))) (gRet (fC (.bl true))))
noncomputable def s4__law_refuses (K : PySem.W.Frag) : Rho → SRes := (gRet (fC (.bl false)))
theorem spine__law_refuses (K : PySem.W.Frag) : g__law_refuses K = gSeq (s0__law_refuses K) (gSeq (s1__law_refuses K) (gSeq (s2__law_refuses K) (gSeq (s3__law_refuses K) ((s4__law_refuses K))))) := rfl
section
variable (K : PySem.W.Frag) {m m' : MV} {k : Nat} {nm : Nat → Str} {wo : Nat → Wo} {t : Tr Bool}
def wrongs : List MV := [.tup [.str "y", .str "x"], .tup [.str "x", .str "X"], .tup [.str "x", .str "x"], .lst [.str "x"], .tup [.str "a"], .tup [.str "P", .str "Q", .str "R", .str "S"], .str "x"]
theorem x_wrong {x : MV} (h : x ∈ wrongs) : F_symbols_many [.sh x] = .ex ⟨"NoTracks", none⟩ [.no] := by
  simp only [wrongs, List.mem_cons, List.not_mem_nil, or_false] at h
  rcases h with rfl | rfl | rfl | rfl | rfl | rfl | rfl <;> rfl
theorem x_refuses (hm : Hand m) (hT : NS k nm ∈ TRS) (hF : ∀ a, a < k → Fit t.size (nm a) (wo a)) (hk : k ≤ 3) (hz : t.size < 6) : ∃ m', F__law_refuses K [.io m, .sh (.tup (NS k nm)), .sh (Tr.enc ltr t), .sh (.tup (TW t.size k wo))] = .ret (.v (.bl true)) [.io m', .no, .no, .no] := by
  obtain ⟨x, m', e, hx, _⟩ := x_some hm wrongs (by decide) (by decide)
  refine ⟨m', ?_⟩
  have e1 := x_marked_not (t := t) K hT (TW t.size k wo ++ [.int 0]) (by rw [List.length_append, TW_len]; simp) (by omega)
  have e2 := x_marked K hT hF hk (by omega)
  have e3 := x_without_not (t := t) (lab := sym t k wo) hT hk (by omega) (bnd_sym hk)
  have e4 := x_wrong hx
  have h1 : k + 1 ≤ sizeLine := by rw [sizeLine_eq]; omega
  have s0 : s0__law_refuses K [.io m, .sh (.tup (NS k nm)), .sh (Tr.enc ltr t), .sh (.tup (TW t.size k wo)), .no] = .nx [.io m, .sh (.tup (NS k nm)), .sh (Tr.enc ltr t), .sh (.tup (TW t.size k wo)), .no] := by
    simp [s0__law_refuses, TW_len, h1, e1, List.lookup]
  have s1 : s1__law_refuses K [.io m, .sh (.tup (NS k nm)), .sh (Tr.enc ltr t), .sh (.tup (TW t.size k wo)), .no] = .nx [.io m, .sh (.tup (NS k nm)), .sh (Tr.enc ltr t), .sh (.tup (TW t.size k wo)), .no] := by
    have l1 : (([("NoMarked", false), ("NoTelling", false), ("NoTrack", true), ("NoTracks", false), ("NoTree", false)] : List (Str × Bool)).lookup ("NoTrack" : Str)) = some true := by decide
    simp [s1__law_refuses, NS_len, e2, e3, l1]
  have s2 : s2__law_refuses K [.io m, .sh (.tup (NS k nm)), .sh (Tr.enc ltr t), .sh (.tup (TW t.size k wo)), .no] = .nx [.io m', .sh (.tup (NS k nm)), .sh (Tr.enc ltr t), .sh (.tup (TW t.size k wo)), .sh x] := by
    simp only [wrongs] at e
    simp [s2__law_refuses, e]
  have e6 : F__law_refuses K [.io m, .sh (.tup (NS k nm)), .sh (Tr.enc ltr t), .sh (.tup (TW t.size k wo))] = finF 4 (g__law_refuses K [.io m, .sh (.tup (NS k nm)), .sh (Tr.enc ltr t), .sh (.tup (TW t.size k wo)), .no]) := rfl
  rw [e6, spine__law_refuses, gSeq_s, s0, seq_nx, gSeq_s, s1, seq_nx, gSeq_s, s2, seq_nx]
  simp [s3__law_refuses, s4__law_refuses, e4, List.lookup]
end
theorem law_true (K : PySem.W.Frag) (ns : List Int) (h : ns.length ≤ 63) : ∃ ρ', F_law K [.sh (.scr ns)] = .ret (.v (.bl true)) ρ' := by
  obtain ⟨m0, e0, hm0⟩ := x_law_hand ns h
  obtain ⟨ts, m1, e1, hts, hm1⟩ := x_tracks hm0
  obtain ⟨d, m2, e2, hd0, hd1, hm2⟩ := x_draw hm1 5 (by decide) (by decide)
  obtain ⟨i, rfl⟩ : ∃ i : Nat, d = i := ⟨d.toNat, by omega⟩
  obtain ⟨t, m3, e3, hz, hm3⟩ := x_tree RFUEL (1 + i) m2 (by unfold RFUEL; omega) (by omega) hm2
  obtain ⟨k, nm, wo, m4, hm4, hk, rfl, hF, e4⟩ := x_telling2 hm3 (1 + i) (by omega) (by omega) hts
  rw [← hz] at hF e4
  have hz6 : t.size < 6 := by omega
  obtain ⟨j5, e5⟩ := st_5 K (sc := .scr ns) (m := m4) hF hk (by omega)
  obtain ⟨j11, e11⟩ := st_11 K (sc := .scr ns) (m := m4) (wo := wo) hts hk (by omega : t.size ≤ 10) j5
  obtain ⟨q, m5, e12, hq0, hq1, hm5⟩ := x_draw hm4 (t.size : Nat) (by omega) (by omega)
  obtain ⟨p, rfl⟩ : ∃ p : Nat, q = p := ⟨q.toNat, by omega⟩
  have hp : p < t.size := by omega
  obtain ⟨q, m6, e13, hq0, hq1, hm6⟩ := x_draw hm5 3 (by decide) (by decide)
  obtain ⟨g, rfl⟩ : ∃ g : Nat, q = g := ⟨q.toNat, by omega⟩
  obtain ⟨j16, e16⟩ := st_16 K (sc := .scr ns) (m := m6) (x8 := .lst (L t.size (grt k wo t p g))) (x9 := mt t (grt k wo t p g)) (j12 := j5.1) (j13 := j5.2) (j6 := j11) hts hF hk hp hz6
  obtain ⟨m7, e17⟩ := x_refuses K hm6 hts hF hk hz6
  have s17 : s17_law K (R16 (.scr ns) m6 k nm wo t p (.lst (L t.size (grt k wo t p g))) (mt t (grt k wo t p g)) j5.1 j5.2 j16) = .rt (.v (.bl true)) (R16 (.scr ns) m7 k nm wo t p (.lst (L t.size (grt k wo t p g))) (mt t (grt k wo t p g)) j5.1 j5.2 j16) := by
    simp [s17_law, R16, e17]
  have key : g_law K (.sh (.scr ns) :: List.replicate 18 .no) = .rt (.v (.bl true)) (R16 (.scr ns) m7 k nm wo t p (.lst (L t.size (grt k wo t p g))) (mt t (grt k wo t p g)) j5.1 j5.2 j16) := by
    have e3' : F__law_tree [.io m2, .sh (.int (1 + i : Nat))] = .ret (.v (Tr.enc ltr t)) [.io m3, .no] := e3
    rw [spine_law, gSeq_s, st_0 K e0, seq_nx, gSeq_s, st_1 K e1 e2, seq_nx, gSeq_s, st_2 K e3', seq_nx, ← hz, gSeq_s, st_3 K e4, seq_nx, gSeq_s, st_4 K, seq_nx, gSeq_s]
    have e5' : s5_law K [.sh (.scr ns), .ow m4, .sh (Tr.enc ltr t), .sh (.tup (TW t.size k wo)), .ow (.lst []), .no, .no, .no, .no, .no, .sh (.tup (NS k nm)), .sh (.int (t.size : Nat)), .no, .no, .no, .no, .no, .no, .no] = .nx (R5 (.scr ns) m4 k nm wo t t.size j5) := e5
    rw [e5', seq_nx, gSeq_s, st_6 K (by omega), seq_nx, gSeq_s, st_7 K hts hF hk (by omega), seq_nx, gSeq_s, st_8 K hts hF hk (by omega), seq_nx, gSeq_s, st_9 K hts hF hk (by omega), seq_nx, gSeq_s, st_10 K hts hk (by omega), seq_nx, gSeq_s, e11, seq_nx, gSeq_s, st_12 K e12, seq_nx, gSeq_s, st_13 K hk hp (by omega) e13, seq_nx, gSeq_s, st_14 K (by omega), seq_nx, gSeq_s, st_15 K hts hF hk hp (by omega), seq_nx, gSeq_s]
    have e16' : s16_law K (R6 (.scr ns) m6 k nm wo t j5 (jS j11) (.sh (.int (p : Nat))) (.sh (.lst (L t.size (grt k wo t p g)))) (.sh (mt t (grt k wo t p g)))) = .nx (R16 (.scr ns) m6 k nm wo t p (.lst (L t.size (grt k wo t p g))) (mt t (grt k wo t p g)) j5.1 j5.2 j16) := e16
    rw [e16', seq_nx, s17]
  have e6 : F_law K [.sh (.scr ns)] = finF 1 (g_law K (.sh (.scr ns) :: List.replicate 18 .no)) := rfl
  rw [e6, key]
  exact ⟨_, rfl⟩
end W05
namespace W05
open PySem PySem.Spec PyProof.Rows L2 DL LamX
def fn : List He.DefD := [⟨("_law_hand", none), "_law_hand", "_law_hand", defArgs s__law_hand, defBody s__law_hand, defScope s__law_hand, [], []⟩, ⟨("_law_draw", none), "_law_draw", "_law_draw", defArgs s__law_draw, defBody s__law_draw, defScope s__law_draw, [], []⟩, ⟨("_law_some", none), "_law_some", "_law_some", defArgs s__law_some, defBody s__law_some, defScope s__law_some, [], []⟩, ⟨("_law_tree", none), "_law_tree", "_law_tree", defArgs s__law_tree, defBody s__law_tree, defScope s__law_tree, [], []⟩, ⟨("_law_telling", none), "_law_telling", "_law_telling", defArgs s__law_telling, defBody s__law_telling, defScope s__law_telling, [], []⟩, ⟨("_law_many", none), "_law_many", "_law_many", defArgs s__law_many, defBody s__law_many, defScope s__law_many, [], []⟩, ⟨("_law_put", none), "_law_put", "_law_put", defArgs s__law_put, defBody s__law_put, defScope s__law_put, [], []⟩, ⟨("is_sized", none), "is_sized", "is_sized", defArgs s_is_sized, defBody s_is_sized, defScope s_is_sized, [], []⟩, ⟨("is_rising", none), "is_rising", "is_rising", defArgs s_is_rising, defBody s_is_rising, defScope s_is_rising, [], []⟩, ⟨("is_place_name", none), "is_place_name", "is_place_name", defArgs s_is_place_name, defBody s_is_place_name, defScope s_is_place_name, [], []⟩, ⟨("is_lot_name", none), "is_lot_name", "is_lot_name", defArgs s_is_lot_name, defBody s_is_lot_name, defScope s_is_lot_name, [], []⟩, ⟨("is_name", none), "is_name", "is_name", defArgs s_is_name, defBody s_is_name, defScope s_is_name, [], []⟩, ⟨("are_tracks", none), "are_tracks", "are_tracks", defArgs s_are_tracks, defBody s_are_tracks, defScope s_are_tracks, [], []⟩, ⟨("check_tracks", none), "check_tracks", "check_tracks", defArgs s_check_tracks, defBody s_check_tracks, defScope s_check_tracks, [], []⟩, ⟨("is_letter", none), "is_letter", "is_letter", defArgs s_is_letter, defBody s_is_letter, defScope s_is_letter, [], []⟩, ⟨("is_grown", none), "is_grown", "is_grown", defArgs s_is_grown, defBody s_is_grown, defScope s_is_grown, [], []⟩, ⟨("is_tree", none), "is_tree", "is_tree", defArgs s_is_tree, defBody s_is_tree, defScope s_is_tree, [], []⟩, ⟨("check_tree", none), "check_tree", "check_tree", defArgs s_check_tree, defBody s_check_tree, defScope s_check_tree, [], []⟩, ⟨("tree_of_signs", none), "tree_of_signs", "tree_of_signs", defArgs s_tree_of_signs, defBody s_tree_of_signs, defScope s_tree_of_signs, [], []⟩, ⟨("with_signs", none), "with_signs", "with_signs", defArgs s_with_signs, defBody s_with_signs, defScope s_with_signs, [], []⟩, ⟨("parts_of_tree", none), "parts_of_tree", "parts_of_tree", defArgs s_parts_of_tree, defBody s_parts_of_tree, defScope s_parts_of_tree, [], []⟩, ⟨("power_of", none), "power_of", "power_of", defArgs s_power_of, defBody s_power_of, defScope s_power_of, [], []⟩, ⟨("has_told", none), "has_told", "has_told", defArgs s_has_told, defBody s_has_told, defScope s_has_told, [], []⟩, ⟨("raw_marked", none), "raw_marked", "raw_marked", defArgs s_raw_marked, defBody s_raw_marked, defScope s_raw_marked, [], []⟩, ⟨("is_integer", none), "is_integer", "is_integer", defArgs s_is_integer, defBody s_is_integer, defScope s_is_integer, [], []⟩, ⟨("is_within", none), "is_within", "is_within", defArgs s_is_within, defBody s_is_within, defScope s_is_within, [], []⟩, ⟨("are_within", none), "are_within", "are_within", defArgs s_are_within, defBody s_are_within, defScope s_are_within, [], []⟩, ⟨("is_lot", none), "is_lot", "is_lot", defArgs s_is_lot, defBody s_is_lot, defScope s_is_lot, [], []⟩, ⟨("is_worth", none), "is_worth", "is_worth", defArgs s_is_worth, defBody s_is_worth, defScope s_is_worth, [], []⟩, ⟨("raw_is_telling", none), "raw_is_telling", "raw_is_telling", defArgs s_raw_is_telling, defBody s_raw_is_telling, defScope s_raw_is_telling, [], []⟩, ⟨("raw_size", none), "raw_size", "raw_size", defArgs s_raw_size, defBody s_raw_size, defScope s_raw_size, [], []⟩, ⟨("marked", none), "marked", "marked", defArgs s_marked, defBody s_marked, defScope s_marked, [], []⟩, ⟨("symbols_of", none), "symbols_of", "symbols_of", defArgs s_symbols_of, defBody s_symbols_of, defScope s_symbols_of, [], []⟩, ⟨("raw_is_marked", none), "raw_is_marked", "raw_is_marked", defArgs s_raw_is_marked, defBody s_raw_is_marked, defScope s_raw_is_marked, [], []⟩, ⟨("is_marked", none), "is_marked", "is_marked", defArgs s_is_marked, defBody s_is_marked, defScope s_is_marked, [], []⟩, ⟨("check_marked", none), "check_marked", "check_marked", defArgs s_check_marked, defBody s_check_marked, defScope s_check_marked, [], []⟩, ⟨("symbol_without", none), "symbol_without", "symbol_without", defArgs s_symbol_without, defBody s_symbol_without, defScope s_symbol_without, [], []⟩, ⟨("raw_symbols", none), "raw_symbols", "raw_symbols", defArgs s_raw_symbols, defBody s_raw_symbols, defScope s_raw_symbols, [], []⟩, ⟨("without", none), "without", "without", defArgs s_without, defBody s_without, defScope s_without, [], []⟩, ⟨("symbols_many", none), "symbols_many", "symbols_many", defArgs s_symbols_many, defBody s_symbols_many, defScope s_symbols_many, [], []⟩, ⟨("_law_refuses", none), "_law_refuses", "_law_refuses", defArgs s__law_refuses, defBody s__law_refuses, defScope s__law_refuses, [], []⟩, ⟨("_law_tracks", none), "_law_tracks", "_law_tracks", defArgs s__law_tracks, defBody s__law_tracks, defScope s__law_tracks, [], []⟩, ⟨("_law_places", none), "_law_places", "_law_places", defArgs s__law_places, defBody s__law_places, defScope s__law_places, [], []⟩, ⟨("symbols_of_tree", none), "symbols_of_tree", "symbols_of_tree", defArgs s_symbols_of_tree, defBody s_symbols_of_tree, defScope s_symbols_of_tree, [], []⟩, ⟨("_law_power", none), "_law_power", "_law_power", defArgs s__law_power, defBody s__law_power, defScope s__law_power, [], []⟩, ⟨("_law_symbol", none), "_law_symbol", "_law_symbol", defArgs s__law_symbol, defBody s__law_symbol, defScope s__law_symbol, [], []⟩, ⟨("bit_of", none), "bit_of", "bit_of", defArgs s_bit_of, defBody s_bit_of, defScope s_bit_of, [], []⟩, ⟨("places_on", none), "places_on", "places_on", defArgs s_places_on, defBody s_places_on, defScope s_places_on, [], []⟩, ⟨("raw_is_right", none), "raw_is_right", "raw_is_right", defArgs s_raw_is_right, defBody s_raw_is_right, defScope s_raw_is_right, [], []⟩, ⟨("is_right", none), "is_right", "is_right", defArgs s_is_right, defBody s_is_right, defScope s_is_right, [], []⟩, ⟨("letter_of", none), "letter_of", "letter_of", defArgs s_letter_of, defBody s_letter_of, defScope s_letter_of, [], []⟩, ⟨("raw_tree", none), "raw_tree", "raw_tree", defArgs s_raw_tree, defBody s_raw_tree, defScope s_raw_tree, [], []⟩, ⟨("tree_of", none), "tree_of", "tree_of", defArgs s_tree_of, defBody s_tree_of, defScope s_tree_of, [], []⟩, ⟨("raw_telling", none), "raw_telling", "raw_telling", defArgs s_raw_telling, defBody s_raw_telling, defScope s_raw_telling, [], []⟩, ⟨("telling_of", none), "telling_of", "telling_of", defArgs s_telling_of, defBody s_telling_of, defScope s_telling_of, [], []⟩, ⟨("_law_raises", none), "_law_raises", "_law_raises", defArgs s__law_raises, defBody s__law_raises, defScope s__law_raises, [], []⟩, ⟨("_law_is", none), "_law_is", "_law_is", defArgs s__law_is, defBody s__law_is, defScope s__law_is, [], []⟩, ⟨("_law_less", none), "_law_less", "_law_less", defArgs s__law_less, defBody s__law_less, defScope s__law_less, [], []⟩, ⟨("law", none), "law", "law", defArgs s_law, defBody s_law, defScope s_law, [], []⟩]
def fa : List He.Fa := [.glo "_law_hand", .glo "_law_draw", .glo "_law_some", .glo "_law_tree", .glo "_law_telling", .glo "_law_many", .glo "_law_put", .glo "is_sized", .glo "is_rising", .glo "is_place_name", .glo "is_lot_name", .glo "is_name", .glo "are_tracks", .glo "check_tracks", .glo "is_letter", .glo "is_grown", .glo "is_tree", .glo "check_tree", .glo "tree_of_signs", .glo "with_signs", .glo "parts_of_tree", .glo "power_of", .glo "has_told", .glo "raw_marked", .glo "is_integer", .glo "is_within", .glo "are_within", .glo "is_lot", .glo "is_worth", .glo "raw_is_telling", .glo "raw_size", .glo "marked", .glo "symbols_of", .glo "raw_is_marked", .glo "is_marked", .glo "check_marked", .glo "symbol_without", .glo "raw_symbols", .glo "without", .glo "symbols_many", .glo "_law_refuses", .glo "_law_tracks", .glo "_law_places", .glo "symbols_of_tree", .glo "_law_power", .glo "_law_symbol", .glo "bit_of", .glo "places_on", .glo "raw_is_right", .glo "is_right", .glo "letter_of", .glo "raw_tree", .glo "tree_of", .glo "raw_telling", .glo "telling_of", .glo "_law_raises", .glo "_law_is", .glo "_law_less", .glo "law", .str "PLACE_NAMES" "pqrstuvwxyz", .str "LOT_NAMES" "PQRSTUVWXYZ", .int "MOST_TRACKS" 3, .str "LETTERS" "ab", .int "MOST_PLACES" 10, .int "MOST_DEEP" 10, .glo "EMPTY", .free "abs", .free "int", .free "len", .free "tuple", .free "range", .free "isinstance", .free "all", .free "zip", .free "str", .free "enumerate", .free "sum", .free "bool", .free "list", .glo "NoTracks", .exc "NoTracks", .glo "NoTree", .exc "NoTree", .glo "NoTelling", .exc "NoTelling", .glo "NoMarked", .exc "NoMarked", .glo "NoTrack", .exc "NoTrack", .exm "NoTelling" "NoTelling" true, .exm "NoTracks" "NoTelling" false, .exm "NoTree" "NoTelling" false, .exm "NoMarked" "NoTrack" false, .exm "NoTelling" "NoTrack" false, .exm "NoTrack" "NoTrack" true, .exm "NoTracks" "NoTrack" false, .exm "NoTree" "NoTrack" false, .exm "NoTracks" "NoTracks" true, .exm "NoMarked" "NoMarked" true, .exm "NoTracks" "NoMarked" false]
def tf : List He.Defn := [("raw_is_marked", none)]
def exB (K : PySem.W.Frag) : Bool := (He.tupB K "EMPTY" [] && true)
abbrev R : PySem.W.OpenRow := PySem.W.OpenLaw.row PySem.Challenge.rw_treesayings_k05_marks_of_trees_with_trac
def nm0 : List PySem.Str := ["is_integer", "is_within", "is_sized", "are_within", "is_rising", "is_lot", "is_letter", "power_of", "is_place_name", "is_lot_name", "is_name", "is_grown", "is_tree", "check_tree", "parts_of_tree", "raw_size"]
def nm1 : List PySem.Str := ["tree_of_signs", "is_worth", "raw_is_telling", "are_tracks", "check_tracks", "bit_of", "symbols_of", "symbols_many", "letter_of", "has_told", "with_signs", "raw_marked", "marked", "raw_is_marked", "is_marked", "check_marked"]
def nm2 : List PySem.Str := ["raw_symbols", "symbols_of_tree", "places_on", "raw_is_right", "is_right", "raw_tree", "tree_of", "raw_telling", "telling_of", "symbol_without", "without", "_law_draw", "_law_some", "_law_is", "_law_hand", "_law_tree"]
def nm3 : List PySem.Str := ["_law_many", "_law_places", "_law_tracks", "_law_telling", "_law_power", "_law_symbol", "_law_put", "_law_less", "_law_raises", "_law_refuses", "LETTERS", "PLACE_NAMES", "LOT_NAMES", "MOST_PLACES", "MOST_DEEP", "EMPTY"]
def nm4 : List PySem.Str := ["MOST_TRACKS", "TreeError", "NoTree", "NoTelling", "NoTracks", "NoMarked", "NoTrack"]
def names : List PySem.Str := nm0 ++ nm1 ++ nm2 ++ nm3 ++ nm4
abbrev hk : PySem.W.Hook := He.hookX 5 fa fn [] tf exB
def ob (s : PySem.W.SharedT) : He.AlX := He.obsX 5 fa fn [] tf exB (HandSHeadRun.getT s)
theorem ob_eq (s : PySem.W.SharedT) : ob s = hk.obs s.abs := He.obsX_eq (HandSHeadRun.getT_eq s)
theorem run (w : World) : HandSHeadRun.RunEq R (PySem.W.view R.prog [78]) hk ob 12000 names w := by
  intro os
  kernel_rfl
def tbs (K : PySem.W.Frag) : List (Addr × Str) := [((He.cT K ("raw_is_marked", none)).2, (("raw_is_marked" : Str) ++ (".<locals>." : Str)) ++ ("<lambda>" : Str))]
theorem txt {K : PySem.W.Frag} {w : World} {h base : Heap} {mg : Str → Option Value} (X : K.In h) (G : h.Ns mainGlobals mg) (c : He.SaysX fa fn [] tf exB w h K) (TB : ∀ p ∈ tf.map (He.cT K), TabB base mg p.1 p.2) : Txt K mg ⟨tbs K, [], []⟩ base := by
  have cd := c.t.d
  have cm : (He.tupB K "EMPTY" [] && true) = true := c.more
  exact {
    d__law_hand := ⟨He.glo_ok X G (cd.fact 0 (f := .glo "_law_hand") rfl), cd.def_ 0 (d := ⟨("_law_hand", none), "_law_hand", "_law_hand", defArgs s__law_hand, defBody s__law_hand, defScope s__law_hand, [], []⟩) rfl⟩
    d__law_draw := ⟨He.glo_ok X G (cd.fact 1 (f := .glo "_law_draw") rfl), cd.def_ 1 (d := ⟨("_law_draw", none), "_law_draw", "_law_draw", defArgs s__law_draw, defBody s__law_draw, defScope s__law_draw, [], []⟩) rfl⟩
    d__law_some := ⟨He.glo_ok X G (cd.fact 2 (f := .glo "_law_some") rfl), cd.def_ 2 (d := ⟨("_law_some", none), "_law_some", "_law_some", defArgs s__law_some, defBody s__law_some, defScope s__law_some, [], []⟩) rfl⟩
    d__law_tree := ⟨He.glo_ok X G (cd.fact 3 (f := .glo "_law_tree") rfl), cd.def_ 3 (d := ⟨("_law_tree", none), "_law_tree", "_law_tree", defArgs s__law_tree, defBody s__law_tree, defScope s__law_tree, [], []⟩) rfl⟩
    d__law_telling := ⟨He.glo_ok X G (cd.fact 4 (f := .glo "_law_telling") rfl), cd.def_ 4 (d := ⟨("_law_telling", none), "_law_telling", "_law_telling", defArgs s__law_telling, defBody s__law_telling, defScope s__law_telling, [], []⟩) rfl⟩
    d__law_many := ⟨He.glo_ok X G (cd.fact 5 (f := .glo "_law_many") rfl), cd.def_ 5 (d := ⟨("_law_many", none), "_law_many", "_law_many", defArgs s__law_many, defBody s__law_many, defScope s__law_many, [], []⟩) rfl⟩
    d__law_put := ⟨He.glo_ok X G (cd.fact 6 (f := .glo "_law_put") rfl), cd.def_ 6 (d := ⟨("_law_put", none), "_law_put", "_law_put", defArgs s__law_put, defBody s__law_put, defScope s__law_put, [], []⟩) rfl⟩
    d_is_sized := ⟨He.glo_ok X G (cd.fact 7 (f := .glo "is_sized") rfl), cd.def_ 7 (d := ⟨("is_sized", none), "is_sized", "is_sized", defArgs s_is_sized, defBody s_is_sized, defScope s_is_sized, [], []⟩) rfl⟩
    d_is_rising := ⟨He.glo_ok X G (cd.fact 8 (f := .glo "is_rising") rfl), cd.def_ 8 (d := ⟨("is_rising", none), "is_rising", "is_rising", defArgs s_is_rising, defBody s_is_rising, defScope s_is_rising, [], []⟩) rfl⟩
    d_is_place_name := ⟨He.glo_ok X G (cd.fact 9 (f := .glo "is_place_name") rfl), cd.def_ 9 (d := ⟨("is_place_name", none), "is_place_name", "is_place_name", defArgs s_is_place_name, defBody s_is_place_name, defScope s_is_place_name, [], []⟩) rfl⟩
    d_is_lot_name := ⟨He.glo_ok X G (cd.fact 10 (f := .glo "is_lot_name") rfl), cd.def_ 10 (d := ⟨("is_lot_name", none), "is_lot_name", "is_lot_name", defArgs s_is_lot_name, defBody s_is_lot_name, defScope s_is_lot_name, [], []⟩) rfl⟩
    d_is_name := ⟨He.glo_ok X G (cd.fact 11 (f := .glo "is_name") rfl), cd.def_ 11 (d := ⟨("is_name", none), "is_name", "is_name", defArgs s_is_name, defBody s_is_name, defScope s_is_name, [], []⟩) rfl⟩
    d_are_tracks := ⟨He.glo_ok X G (cd.fact 12 (f := .glo "are_tracks") rfl), cd.def_ 12 (d := ⟨("are_tracks", none), "are_tracks", "are_tracks", defArgs s_are_tracks, defBody s_are_tracks, defScope s_are_tracks, [], []⟩) rfl⟩
    d_check_tracks := ⟨He.glo_ok X G (cd.fact 13 (f := .glo "check_tracks") rfl), cd.def_ 13 (d := ⟨("check_tracks", none), "check_tracks", "check_tracks", defArgs s_check_tracks, defBody s_check_tracks, defScope s_check_tracks, [], []⟩) rfl⟩
    d_is_letter := ⟨He.glo_ok X G (cd.fact 14 (f := .glo "is_letter") rfl), cd.def_ 14 (d := ⟨("is_letter", none), "is_letter", "is_letter", defArgs s_is_letter, defBody s_is_letter, defScope s_is_letter, [], []⟩) rfl⟩
    d_is_grown := ⟨He.glo_ok X G (cd.fact 15 (f := .glo "is_grown") rfl), cd.def_ 15 (d := ⟨("is_grown", none), "is_grown", "is_grown", defArgs s_is_grown, defBody s_is_grown, defScope s_is_grown, [], []⟩) rfl⟩
    d_is_tree := ⟨He.glo_ok X G (cd.fact 16 (f := .glo "is_tree") rfl), cd.def_ 16 (d := ⟨("is_tree", none), "is_tree", "is_tree", defArgs s_is_tree, defBody s_is_tree, defScope s_is_tree, [], []⟩) rfl⟩
    d_check_tree := ⟨He.glo_ok X G (cd.fact 17 (f := .glo "check_tree") rfl), cd.def_ 17 (d := ⟨("check_tree", none), "check_tree", "check_tree", defArgs s_check_tree, defBody s_check_tree, defScope s_check_tree, [], []⟩) rfl⟩
    d_tree_of_signs := ⟨He.glo_ok X G (cd.fact 18 (f := .glo "tree_of_signs") rfl), cd.def_ 18 (d := ⟨("tree_of_signs", none), "tree_of_signs", "tree_of_signs", defArgs s_tree_of_signs, defBody s_tree_of_signs, defScope s_tree_of_signs, [], []⟩) rfl⟩
    d_with_signs := ⟨He.glo_ok X G (cd.fact 19 (f := .glo "with_signs") rfl), cd.def_ 19 (d := ⟨("with_signs", none), "with_signs", "with_signs", defArgs s_with_signs, defBody s_with_signs, defScope s_with_signs, [], []⟩) rfl⟩
    d_parts_of_tree := ⟨He.glo_ok X G (cd.fact 20 (f := .glo "parts_of_tree") rfl), cd.def_ 20 (d := ⟨("parts_of_tree", none), "parts_of_tree", "parts_of_tree", defArgs s_parts_of_tree, defBody s_parts_of_tree, defScope s_parts_of_tree, [], []⟩) rfl⟩
    d_power_of := ⟨He.glo_ok X G (cd.fact 21 (f := .glo "power_of") rfl), cd.def_ 21 (d := ⟨("power_of", none), "power_of", "power_of", defArgs s_power_of, defBody s_power_of, defScope s_power_of, [], []⟩) rfl⟩
    d_has_told := ⟨He.glo_ok X G (cd.fact 22 (f := .glo "has_told") rfl), cd.def_ 22 (d := ⟨("has_told", none), "has_told", "has_told", defArgs s_has_told, defBody s_has_told, defScope s_has_told, [], []⟩) rfl⟩
    d_raw_marked := ⟨He.glo_ok X G (cd.fact 23 (f := .glo "raw_marked") rfl), cd.def_ 23 (d := ⟨("raw_marked", none), "raw_marked", "raw_marked", defArgs s_raw_marked, defBody s_raw_marked, defScope s_raw_marked, [], []⟩) rfl⟩
    d_is_integer := ⟨He.glo_ok X G (cd.fact 24 (f := .glo "is_integer") rfl), cd.def_ 24 (d := ⟨("is_integer", none), "is_integer", "is_integer", defArgs s_is_integer, defBody s_is_integer, defScope s_is_integer, [], []⟩) rfl⟩
    d_is_within := ⟨He.glo_ok X G (cd.fact 25 (f := .glo "is_within") rfl), cd.def_ 25 (d := ⟨("is_within", none), "is_within", "is_within", defArgs s_is_within, defBody s_is_within, defScope s_is_within, [], []⟩) rfl⟩
    d_are_within := ⟨He.glo_ok X G (cd.fact 26 (f := .glo "are_within") rfl), cd.def_ 26 (d := ⟨("are_within", none), "are_within", "are_within", defArgs s_are_within, defBody s_are_within, defScope s_are_within, [], []⟩) rfl⟩
    d_is_lot := ⟨He.glo_ok X G (cd.fact 27 (f := .glo "is_lot") rfl), cd.def_ 27 (d := ⟨("is_lot", none), "is_lot", "is_lot", defArgs s_is_lot, defBody s_is_lot, defScope s_is_lot, [], []⟩) rfl⟩
    d_is_worth := ⟨He.glo_ok X G (cd.fact 28 (f := .glo "is_worth") rfl), cd.def_ 28 (d := ⟨("is_worth", none), "is_worth", "is_worth", defArgs s_is_worth, defBody s_is_worth, defScope s_is_worth, [], []⟩) rfl⟩
    d_raw_is_telling := ⟨He.glo_ok X G (cd.fact 29 (f := .glo "raw_is_telling") rfl), cd.def_ 29 (d := ⟨("raw_is_telling", none), "raw_is_telling", "raw_is_telling", defArgs s_raw_is_telling, defBody s_raw_is_telling, defScope s_raw_is_telling, [], []⟩) rfl⟩
    d_raw_size := ⟨He.glo_ok X G (cd.fact 30 (f := .glo "raw_size") rfl), cd.def_ 30 (d := ⟨("raw_size", none), "raw_size", "raw_size", defArgs s_raw_size, defBody s_raw_size, defScope s_raw_size, [], []⟩) rfl⟩
    d_marked := ⟨He.glo_ok X G (cd.fact 31 (f := .glo "marked") rfl), cd.def_ 31 (d := ⟨("marked", none), "marked", "marked", defArgs s_marked, defBody s_marked, defScope s_marked, [], []⟩) rfl⟩
    d_symbols_of := ⟨He.glo_ok X G (cd.fact 32 (f := .glo "symbols_of") rfl), cd.def_ 32 (d := ⟨("symbols_of", none), "symbols_of", "symbols_of", defArgs s_symbols_of, defBody s_symbols_of, defScope s_symbols_of, [], []⟩) rfl⟩
    d_raw_is_marked := ⟨He.glo_ok X G (cd.fact 33 (f := .glo "raw_is_marked") rfl), cd.def_ 33 (d := ⟨("raw_is_marked", none), "raw_is_marked", "raw_is_marked", defArgs s_raw_is_marked, defBody s_raw_is_marked, defScope s_raw_is_marked, [], []⟩) rfl⟩
    d_is_marked := ⟨He.glo_ok X G (cd.fact 34 (f := .glo "is_marked") rfl), cd.def_ 34 (d := ⟨("is_marked", none), "is_marked", "is_marked", defArgs s_is_marked, defBody s_is_marked, defScope s_is_marked, [], []⟩) rfl⟩
    d_check_marked := ⟨He.glo_ok X G (cd.fact 35 (f := .glo "check_marked") rfl), cd.def_ 35 (d := ⟨("check_marked", none), "check_marked", "check_marked", defArgs s_check_marked, defBody s_check_marked, defScope s_check_marked, [], []⟩) rfl⟩
    d_symbol_without := ⟨He.glo_ok X G (cd.fact 36 (f := .glo "symbol_without") rfl), cd.def_ 36 (d := ⟨("symbol_without", none), "symbol_without", "symbol_without", defArgs s_symbol_without, defBody s_symbol_without, defScope s_symbol_without, [], []⟩) rfl⟩
    d_raw_symbols := ⟨He.glo_ok X G (cd.fact 37 (f := .glo "raw_symbols") rfl), cd.def_ 37 (d := ⟨("raw_symbols", none), "raw_symbols", "raw_symbols", defArgs s_raw_symbols, defBody s_raw_symbols, defScope s_raw_symbols, [], []⟩) rfl⟩
    d_without := ⟨He.glo_ok X G (cd.fact 38 (f := .glo "without") rfl), cd.def_ 38 (d := ⟨("without", none), "without", "without", defArgs s_without, defBody s_without, defScope s_without, [], []⟩) rfl⟩
    d_symbols_many := ⟨He.glo_ok X G (cd.fact 39 (f := .glo "symbols_many") rfl), cd.def_ 39 (d := ⟨("symbols_many", none), "symbols_many", "symbols_many", defArgs s_symbols_many, defBody s_symbols_many, defScope s_symbols_many, [], []⟩) rfl⟩
    d__law_refuses := ⟨He.glo_ok X G (cd.fact 40 (f := .glo "_law_refuses") rfl), cd.def_ 40 (d := ⟨("_law_refuses", none), "_law_refuses", "_law_refuses", defArgs s__law_refuses, defBody s__law_refuses, defScope s__law_refuses, [], []⟩) rfl⟩
    d__law_tracks := ⟨He.glo_ok X G (cd.fact 41 (f := .glo "_law_tracks") rfl), cd.def_ 41 (d := ⟨("_law_tracks", none), "_law_tracks", "_law_tracks", defArgs s__law_tracks, defBody s__law_tracks, defScope s__law_tracks, [], []⟩) rfl⟩
    d__law_places := ⟨He.glo_ok X G (cd.fact 42 (f := .glo "_law_places") rfl), cd.def_ 42 (d := ⟨("_law_places", none), "_law_places", "_law_places", defArgs s__law_places, defBody s__law_places, defScope s__law_places, [], []⟩) rfl⟩
    d_symbols_of_tree := ⟨He.glo_ok X G (cd.fact 43 (f := .glo "symbols_of_tree") rfl), cd.def_ 43 (d := ⟨("symbols_of_tree", none), "symbols_of_tree", "symbols_of_tree", defArgs s_symbols_of_tree, defBody s_symbols_of_tree, defScope s_symbols_of_tree, [], []⟩) rfl⟩
    d__law_power := ⟨He.glo_ok X G (cd.fact 44 (f := .glo "_law_power") rfl), cd.def_ 44 (d := ⟨("_law_power", none), "_law_power", "_law_power", defArgs s__law_power, defBody s__law_power, defScope s__law_power, [], []⟩) rfl⟩
    d__law_symbol := ⟨He.glo_ok X G (cd.fact 45 (f := .glo "_law_symbol") rfl), cd.def_ 45 (d := ⟨("_law_symbol", none), "_law_symbol", "_law_symbol", defArgs s__law_symbol, defBody s__law_symbol, defScope s__law_symbol, [], []⟩) rfl⟩
    d_bit_of := ⟨He.glo_ok X G (cd.fact 46 (f := .glo "bit_of") rfl), cd.def_ 46 (d := ⟨("bit_of", none), "bit_of", "bit_of", defArgs s_bit_of, defBody s_bit_of, defScope s_bit_of, [], []⟩) rfl⟩
    d_places_on := ⟨He.glo_ok X G (cd.fact 47 (f := .glo "places_on") rfl), cd.def_ 47 (d := ⟨("places_on", none), "places_on", "places_on", defArgs s_places_on, defBody s_places_on, defScope s_places_on, [], []⟩) rfl⟩
    d_raw_is_right := ⟨He.glo_ok X G (cd.fact 48 (f := .glo "raw_is_right") rfl), cd.def_ 48 (d := ⟨("raw_is_right", none), "raw_is_right", "raw_is_right", defArgs s_raw_is_right, defBody s_raw_is_right, defScope s_raw_is_right, [], []⟩) rfl⟩
    d_is_right := ⟨He.glo_ok X G (cd.fact 49 (f := .glo "is_right") rfl), cd.def_ 49 (d := ⟨("is_right", none), "is_right", "is_right", defArgs s_is_right, defBody s_is_right, defScope s_is_right, [], []⟩) rfl⟩
    d_letter_of := ⟨He.glo_ok X G (cd.fact 50 (f := .glo "letter_of") rfl), cd.def_ 50 (d := ⟨("letter_of", none), "letter_of", "letter_of", defArgs s_letter_of, defBody s_letter_of, defScope s_letter_of, [], []⟩) rfl⟩
    d_raw_tree := ⟨He.glo_ok X G (cd.fact 51 (f := .glo "raw_tree") rfl), cd.def_ 51 (d := ⟨("raw_tree", none), "raw_tree", "raw_tree", defArgs s_raw_tree, defBody s_raw_tree, defScope s_raw_tree, [], []⟩) rfl⟩
    d_tree_of := ⟨He.glo_ok X G (cd.fact 52 (f := .glo "tree_of") rfl), cd.def_ 52 (d := ⟨("tree_of", none), "tree_of", "tree_of", defArgs s_tree_of, defBody s_tree_of, defScope s_tree_of, [], []⟩) rfl⟩
    d_raw_telling := ⟨He.glo_ok X G (cd.fact 53 (f := .glo "raw_telling") rfl), cd.def_ 53 (d := ⟨("raw_telling", none), "raw_telling", "raw_telling", defArgs s_raw_telling, defBody s_raw_telling, defScope s_raw_telling, [], []⟩) rfl⟩
    d_telling_of := ⟨He.glo_ok X G (cd.fact 54 (f := .glo "telling_of") rfl), cd.def_ 54 (d := ⟨("telling_of", none), "telling_of", "telling_of", defArgs s_telling_of, defBody s_telling_of, defScope s_telling_of, [], []⟩) rfl⟩
    d__law_raises := ⟨He.glo_ok X G (cd.fact 55 (f := .glo "_law_raises") rfl), cd.def_ 55 (d := ⟨("_law_raises", none), "_law_raises", "_law_raises", defArgs s__law_raises, defBody s__law_raises, defScope s__law_raises, [], []⟩) rfl⟩
    d__law_is := ⟨He.glo_ok X G (cd.fact 56 (f := .glo "_law_is") rfl), cd.def_ 56 (d := ⟨("_law_is", none), "_law_is", "_law_is", defArgs s__law_is, defBody s__law_is, defScope s__law_is, [], []⟩) rfl⟩
    d__law_less := ⟨He.glo_ok X G (cd.fact 57 (f := .glo "_law_less") rfl), cd.def_ 57 (d := ⟨("_law_less", none), "_law_less", "_law_less", defArgs s__law_less, defBody s__law_less, defScope s__law_less, [], []⟩) rfl⟩
    d_law := ⟨He.glo_ok X G (cd.fact 58 (f := .glo "law") rfl), cd.def_ 58 (d := ⟨("law", none), "law", "law", defArgs s_law, defBody s_law, defScope s_law, [], []⟩) rfl⟩
    c_PLACE_NAMES := glc_str X G (cd.fact 59 (f := .str "PLACE_NAMES" "pqrstuvwxyz") rfl)
    c_LOT_NAMES := glc_str X G (cd.fact 60 (f := .str "LOT_NAMES" "PQRSTUVWXYZ") rfl)
    c_MOST_TRACKS := glc_int X G (cd.fact 61 (f := .int "MOST_TRACKS" 3) rfl)
    c_LETTERS := glc_str X G (cd.fact 62 (f := .str "LETTERS" "ab") rfl)
    c_MOST_PLACES := glc_int X G (cd.fact 63 (f := .int "MOST_PLACES" 10) rfl)
    c_MOST_DEEP := glc_int X G (cd.fact 64 (f := .int "MOST_DEEP" 10) rfl)
    c_EMPTY := glc_tup (ds := []) X G (cd.fact 65 (f := .glo "EMPTY") rfl) (He.ba cm).1 rfl
    fr_abs := He.free_ok X G (cd.fact 66 (f := .free "abs") rfl)
    fr_int := He.free_ok X G (cd.fact 67 (f := .free "int") rfl)
    fr_len := He.free_ok X G (cd.fact 68 (f := .free "len") rfl)
    fr_tuple := He.free_ok X G (cd.fact 69 (f := .free "tuple") rfl)
    fr_range := He.free_ok X G (cd.fact 70 (f := .free "range") rfl)
    fr_isinstance := He.free_ok X G (cd.fact 71 (f := .free "isinstance") rfl)
    fr_all := He.free_ok X G (cd.fact 72 (f := .free "all") rfl)
    fr_zip := He.free_ok X G (cd.fact 73 (f := .free "zip") rfl)
    fr_str := He.free_ok X G (cd.fact 74 (f := .free "str") rfl)
    fr_enumerate := He.free_ok X G (cd.fact 75 (f := .free "enumerate") rfl)
    fr_sum := He.free_ok X G (cd.fact 76 (f := .free "sum") rfl)
    fr_bool := He.free_ok X G (cd.fact 77 (f := .free "bool") rfl)
    fr_list := He.free_ok X G (cd.fact 78 (f := .free "list") rfl)
    e_NoTracks := exC_mk X G (cd.fact 79 (f := .glo "NoTracks") rfl) (cd.fact 80 (f := .exc "NoTracks") rfl)
    e_NoTree := exC_mk X G (cd.fact 81 (f := .glo "NoTree") rfl) (cd.fact 82 (f := .exc "NoTree") rfl)
    e_NoTelling := exC_mk X G (cd.fact 83 (f := .glo "NoTelling") rfl) (cd.fact 84 (f := .exc "NoTelling") rfl)
    e_NoMarked := exC_mk X G (cd.fact 85 (f := .glo "NoMarked") rfl) (cd.fact 86 (f := .exc "NoMarked") rfl)
    e_NoTrack := exC_mk X G (cd.fact 87 (f := .glo "NoTrack") rfl) (cd.fact 88 (f := .exc "NoTrack") rfl)
    m_NoTelling_NoTelling := He.exm_ok (cd.fact 89 (f := .exm "NoTelling" "NoTelling" true) rfl)
    m_NoTracks_NoTelling := He.exm_ok (cd.fact 90 (f := .exm "NoTracks" "NoTelling" false) rfl)
    m_NoTree_NoTelling := He.exm_ok (cd.fact 91 (f := .exm "NoTree" "NoTelling" false) rfl)
    m_NoMarked_NoTrack := He.exm_ok (cd.fact 92 (f := .exm "NoMarked" "NoTrack" false) rfl)
    m_NoTelling_NoTrack := He.exm_ok (cd.fact 93 (f := .exm "NoTelling" "NoTrack" false) rfl)
    m_NoTrack_NoTrack := He.exm_ok (cd.fact 94 (f := .exm "NoTrack" "NoTrack" true) rfl)
    m_NoTracks_NoTrack := He.exm_ok (cd.fact 95 (f := .exm "NoTracks" "NoTrack" false) rfl)
    m_NoTree_NoTrack := He.exm_ok (cd.fact 96 (f := .exm "NoTree" "NoTrack" false) rfl)
    m_NoTracks_NoTracks := He.exm_ok (cd.fact 97 (f := .exm "NoTracks" "NoTracks" true) rfl)
    m_NoMarked_NoMarked := He.exm_ok (cd.fact 98 (f := .exm "NoMarked" "NoMarked" true) rfl)
    m_NoTracks_NoMarked := He.exm_ok (cd.fact 99 (f := .exm "NoTracks" "NoMarked" false) rfl)
    t_raw_is_marked := TB _ (List.mem_map.mpr ⟨("raw_is_marked", none), by decide, rfl⟩)
    tm_raw_is_marked := by simp [tbs]
    tu_raw_is_marked := fun p hp _ => by
      simp only [tbs, List.mem_singleton] at hp
      rw [hp] }
end W05
open PySem PySem.W PySem.Calls PyProof.Rows
set_option maxRecDepth 100000 in
set_option maxHeartbeats 0 in
theorem PySem.Challenge.cw_treesayings_k05_marks_of_trees_with_trac_holds : PySem.Challenge.rw_treesayings_k05_marks_of_trees_with_trac.Holds := by
  w_on; o_law
  refine HandSHeadRun.head_any (r := OpenLaw.row PySem.Challenge.rw_treesayings_k05_marks_of_trees_with_trac) (q := view (OpenLaw.row PySem.Challenge.rw_treesayings_k05_marks_of_trees_with_trac).prog [78]) (H := W05.hk) (ob := W05.ob) (M := 12000) (loose := W05.names) (d := HandSHeadRun.topDef (OpenLaw.row PySem.Challenge.rw_treesayings_k05_marks_of_trees_with_trac).prog 78) (kwd := []) W05.ob_eq
    (by kernel_rfl) (fun s => by kernel_rfl) W05.run (by kernel_rfl) (by kernel_rfl) (by kernel_rfl) (by rfl) (by first | assumption | decide +kernel) (by decide +kernel) ⟨rfl, rfl, rfl, rfl, rfl, by decide +kernel⟩ ?hw ?hc
  case hw => w_witness2
  case hc =>
    refine LamX.walk_ofTsE (l := PySem.Challenge.rw_treesayings_k05_marks_of_trees_with_trac) (n := 63) (k := 43) (x := "script") (CX := fun w => L2.CX (PySem.Challenge.rw_treesayings_k05_marks_of_trees_with_trac).prog w) rfl (by decide) (by kernel_rfl) ⟨rfl, by decide, by decide⟩ ?F ?hX
    case F =>
      intro w mg fa h Y G hmg0
      obtain ⟨K, KX, c⟩ := Y
      have hmg : mg ("law" : PySem.Str) = some (.ref fa) := by
        have e : (HandSHeadRun.topDef (OpenLaw.row PySem.Challenge.rw_treesayings_k05_marks_of_trees_with_trac).prog 78).name = ("law" : PySem.Str) := by kernel_rfl
        rw [← e]
        exact hmg0
      obtain ⟨fd, F⟩ := c.t.d.def_ 58 (d := ⟨("law", none), "law", "law", L2.defArgs W05.s_law, L2.defBody W05.s_law, L2.defScope W05.s_law, [], []⟩) rfl
      have b := L2.FunD.bindsA (ps := ["script"]) F fun _ _ _ _ _ _ us hl => match us, hl with | [_], _ => rfl
      have eg := hmg.symm.trans (He.glo_ok KX G (c.t.d.fact 58 (f := .glo "law") rfl))
      cases eg
      refine ⟨K, KX, fd, W05.tf.map (He.cT K), DL.spV K mg ⟨W05.tbs K, [], []⟩ 1 (W05.F_law K), ?_, ?_, ?_, fun s v => b s [v] rfl, ?_, ?_⟩
      · intro p hp
        obtain ⟨q, hq, rfl⟩ := List.mem_map.mp hp
        exact c.empty q hq
      · intro p hp
        obtain ⟨q, hq, rfl⟩ := List.mem_map.mp hp
        exact c.out q hq
      · intro p hp
        obtain ⟨q, hq, rfl⟩ := List.mem_map.mp hp
        exact PySem.W.codeHd_of_K KX (c.hd q hq)
      · intro H a ns hl _ ht hS
        obtain ⟨ρ', e⟩ := W05.law_true K ns hl
        exact DL.law_sp (DL.tabs_start fun p hp => by
          simp only [W05.tbs, List.mem_cons, List.not_mem_nil, or_false] at hp
          rcases hp with rfl <;> exact ht _ (List.mem_map.mpr ⟨_, by decide, rfl⟩)) rfl rfl hS e
      · intro base KB GB TB
        obtain ⟨fd', h1, _, oc', od', osl', lk'⟩ := (W05.ok_law (P := (PySem.Challenge.rw_treesayings_k05_marks_of_trees_with_trac).prog) (w := w) (W05.txt KX G c TB)).ex
        obtain ⟨oc, od, _, _, _, _, _, _, _, osl, _, lk, _⟩ := F.ex
        have lk2 := lk'.symm.trans lk
        simp only [Option.some.injEq, Obj.mk.injEq, Data.func.injEq] at lk2
        obtain ⟨_, _, e, _⟩ := lk2
        rw [← e]
        exact h1
    case hX => exact fun w H s e s' ⟨_, _, _, _, _, _, _, _, _, _, _, _, z⟩ => z
