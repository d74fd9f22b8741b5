import PyProof.Rows.All
import Wide.All
import OpenK.AllK
import Wide.FinOn
import HandS.ForMost
import HandS.TupAny
import HandS.Deep
import HandS.IsInst
import HandS.FStr
import HandS.Wide
import HandS.Flow
import HandS.Defaults
import HandS.Style
import PySem.Challenge.RW_sentnames_k01_names_known
set_option Elab.async false
set_option linter.all false
set_option maxRecDepth 100000
namespace Mir
open PySem L2
inductive D where
  | non | bl (b : Bool) | int (i : Int) | str (x : Str) | tup (xs : List D) | lst (xs : List D) | frz (xs : List D) | hnd (k : Nat) | nam (x : Str)
inductive MO where
  | lst (xs : List D)
abbrev Mu := List MO
structure Xc where
  cls : Str
  fs : List (Str × D)
inductive Rs (A : Type) where
  | bad
  | ok (a : A) (m : Mu)
  | exc (x : Xc) (m : Mu)
structure M (A : Type) where
  run : Mu → Rs A
def M.ret {A : Type} (a : A) : M A := ⟨fun m => .ok a m⟩
def Rs.then {A B : Type} (r : Rs A) (f : A → M B) : Rs B := match r with
  | .bad => .bad
  | .ok a m1 => (f a).run m1
  | .exc e m1 => .exc e m1
def M.bind {A B : Type} (x : M A) (f : A → M B) : M B := ⟨fun m => (x.run m).then f⟩
def M.bad {A : Type} : M A := ⟨fun _ => .bad⟩
def M.exc {A : Type} (x : Xc) : M A := ⟨fun m => .exc x m⟩
instance : Monad M where
  pure := M.ret
  bind := M.bind
theorem M.ext {A : Type} {x y : M A} (h : ∀ m, x.run m = y.run m) : x = y := by
  obtain ⟨x⟩ := x
  obtain ⟨y⟩ := y
  have e : x = y := funext h
  rw [e]
theorem pure_run {A : Type} (a : A) (m : Mu) : (pure a : M A).run m = .ok a m := rfl
theorem bind_run {A B : Type} (x : M A) (f : A → M B) (m : Mu) : (x >>= f).run m = (x.run m).then f := rfl
@[simp] theorem pure_bind' {A B : Type} (a : A) (f : A → M B) : ((pure a : M A) >>= f) = f a := rfl
@[simp] theorem bad_bind' {A B : Type} (f : A → M B) : ((M.bad : M A) >>= f) = M.bad := rfl
@[simp] theorem exc_bind' {A B : Type} (x : Xc) (f : A → M B) : ((M.exc x : M A) >>= f) = M.exc x := rfl
@[simp] theorem bind_assoc' {A B C : Type} (x : M A) (f : A → M B) (g : B → M C) : ((x >>= f) >>= g) = (x >>= fun a => f a >>= g) := by
  refine M.ext fun m => ?_
  simp only [bind_run]
  cases x.run m <;> rfl
@[simp] theorem bind_pure' {A : Type} (x : M A) : (x >>= fun a => (pure a : M A)) = x := by
  refine M.ext fun m => ?_
  simp only [bind_run]
  cases x.run m <;> rfl
def M.opt {A : Type} : Option A → M A
  | some a => pure a
  | none => M.bad
def M.guard (b : Bool) : M Unit := if b then pure () else M.bad
abbrev Env := List (Option D)
structure Wd where
  al : List Addr
  G : Hp
mutual
inductive Rp (K : PySem.W.Frag) (F : Str → Option V) (W : Wd) : V → D → Prop
  | non : Rp K F W .non .non
  | bl (b : Bool) : Rp K F W (.bl b) (.bl b)
  | int (i : Int) : Rp K F W (.int i) (.int i)
  | str (x : Str) : Rp K F W (.str x) (.str x)
  | lst {a : Addr} {xs : List V} {ds : List D} : W.G a = some (.lst xs) → Rps K F W xs ds → Rp K F W (.ref a) (.lst ds)
  | frz {a : Addr} {xs : List V} {ds : List D} : SqL K W.G a xs → Rps K F W xs ds → Rp K F W (.ref a) (.frz ds)
  | tup {a : Addr} {xs : List V} {ds : List D} : SqT K W.G a xs → Rps K F W xs ds → Rp K F W (.ref a) (.tup ds)
  | hnd {a : Addr} {k : Nat} : W.al[k]? = some a → Rp K F W (.ref a) (.hnd k)
  | nam {v : V} {x : Str} : F x = some v → Rp K F W v (.nam x)
inductive Rps (K : PySem.W.Frag) (F : Str → Option V) (W : Wd) : List V → List D → Prop
  | nil : Rps K F W [] []
  | cons {v : V} {vs : List V} {d : D} {ds : List D} : Rp K F W v d → Rps K F W vs ds → Rps K F W (v :: vs) (d :: ds)
end
def ObR (K : PySem.W.Frag) (F : Str → Option V) (W : Wd) (H : Hp) (a : Addr) : MO → Prop
  | .lst ds => ∃ vs, H a = some (.lst vs) ∧ Rps K F W vs ds
structure Ok (K : PySem.W.Frag) (F : Str → Option V) (W : Wd) (m : Mu) (H : Hp) : Prop where
  gh : ∀ a o, W.G a = some o → H a = some o
  nd : W.al.Nodup
  gn : ∀ a, a ∈ W.al → W.G a = none
  len : W.al.length = m.length
  ob : ∀ (k : Nat) (a : Addr) (o : MO), W.al[k]? = some a → m[k]? = some o → ObR K F W H a o
structure Ext (W : Wd) (H : Hp) (W' : Wd) (H' : Hp) : Prop where
  al : ∃ r, W'.al = W.al ++ r
  ex : ∀ a o, W.G a = some o → W'.G a = some o
  kp : ∀ a o, H a = some o → a ∉ W.al → H' a = some o
  na : ∀ a, a ∈ W'.al → a ∈ W.al ∨ H a = none
  ng : ∀ a o, W'.G a = some o → W.G a = some o ∨ H a = none ∨ a ∈ W.al
theorem Ext.refl (W : Wd) (H : Hp) : Ext W H W H := ⟨⟨[], by simp⟩, fun _ _ h => h, fun _ _ h _ => h, fun _ h => .inl h, fun _ _ h => .inl h⟩
theorem Ext.trans {W W1 W2 : Wd} {H H1 H2 : Hp} (x : Ext W H W1 H1) (y : Ext W1 H1 W2 H2) : Ext W H W2 H2 := by
  have h1 : ∀ a, a ∈ W.al → a ∈ W1.al := fun a h => by
    obtain ⟨r, e⟩ := x.al
    rw [e]
    exact List.mem_append_left _ h
  have h2 : ∀ a o, H a = some o → a ∉ W.al → a ∉ W1.al := fun a o h n q => by
    rcases x.na a q with z | z
    · exact n z
    · rw [h] at z
      cases z
  refine ⟨?_, fun a o h => y.ex a o (x.ex a o h), fun a o h n => y.kp a o (x.kp a o h n) (h2 a o h n), fun a h => ?_, fun a o h => ?_⟩
  · obtain ⟨r, e⟩ := x.al
    obtain ⟨t, e2⟩ := y.al
    exact ⟨r ++ t, by rw [e2, e, List.append_assoc]⟩
  · rcases y.na a h with z | z
    · exact x.na a z
    · by_cases q : a ∈ W.al
      · exact .inl q
      · cases e : H a with
        | none => exact .inr rfl
        | some o =>
          rw [x.kp a o e q] at z
          cases z
  · rcases y.ng a o h with z | z | z
    · exact x.ng a o z
    · by_cases q : a ∈ W.al
      · exact .inr (.inr q)
      · cases e : H a with
        | none => exact .inr (.inl rfl)
        | some o =>
          rw [x.kp a o e q] at z
          cases z
    · rcases x.na a z with q | q
      · exact .inr (.inr q)
      · exact .inr (.inl q)
section
variable {K : PySem.W.Frag} {F : Str → Option V} {W W' : Wd} {H H' : Hp}
theorem rd_mono {G G' : Hp} {a : Addr} {u : HO} (e : ∀ a o, G a = some o → G' a = some o) (h : Rd G a u) : Rd G' a u := by
  rcases h with h | ⟨o, h⟩
  · exact Or.inl (e a _ h)
  · exact Or.inr ⟨o, e a _ h⟩
theorem sql_mono {G G' : Hp} {a : Addr} {xs : List V} (e : ∀ a o, G a = some o → G' a = some o) (h : SqL K G a xs) : SqL K G' a xs := by
  rcases h with h | h
  · exact Or.inl (rd_mono e h)
  · exact Or.inr h
theorem sqt_mono {G G' : Hp} {a : Addr} {xs : List V} (e : ∀ a o, G a = some o → G' a = some o) (h : SqT K G a xs) : SqT K G' a xs := by
  rcases h with h | h
  · exact Or.inl (rd_mono e h)
  · exact Or.inr h
mutual
theorem Rp.mono' (ea : ∃ r, W'.al = W.al ++ r) (e : ∀ a o, W.G a = some o → W'.G a = some o) : ∀ {v : V} {d : D}, Rp K F W v d → Rp K F W' v d
  | _, _, .non => .non
  | _, _, .bl b => .bl b
  | _, _, .int i => .int i
  | _, _, .str x => .str x
  | _, _, .lst h r => .lst (e _ _ h) (Rps.mono' ea e r)
  | _, _, .frz h r => .frz (sql_mono e h) (Rps.mono' ea e r)
  | _, _, .tup h r => .tup (sqt_mono e h) (Rps.mono' ea e r)
  | _, _, .hnd h => .hnd (by
    obtain ⟨r, q⟩ := ea
    rw [q, List.getElem?_append_left (List.getElem?_eq_some_iff.mp h).1]
    exact h)
  | _, _, .nam h => .nam h
theorem Rps.mono' (ea : ∃ r, W'.al = W.al ++ r) (e : ∀ a o, W.G a = some o → W'.G a = some o) : ∀ {vs : List V} {ds : List D}, Rps K F W vs ds → Rps K F W' vs ds
  | _, _, .nil => .nil
  | _, _, .cons h r => .cons (Rp.mono' ea e h) (Rps.mono' ea e r)
end
theorem Rp.mono {v : V} {d : D} (x : Ext W H W' H') (h : Rp K F W v d) : Rp K F W' v d := Rp.mono' x.al x.ex h
theorem Rps.mono {vs : List V} {ds : List D} (x : Ext W H W' H') (h : Rps K F W vs ds) : Rps K F W' vs ds := Rps.mono' x.al x.ex h
theorem Rps.length : ∀ {vs : List V} {ds : List D}, Rps K F W vs ds → vs.length = ds.length
  | _, _, .nil => rfl
  | _, _, .cons _ r => congrArg (· + 1) (Rps.length r)
theorem Rps.append : ∀ {vs ws : List V} {ds es : List D}, Rps K F W vs ds → Rps K F W ws es → Rps K F W (vs ++ ws) (ds ++ es)
  | _, _, _, _, .nil, s => s
  | _, _, _, _, .cons h r, s => .cons h (Rps.append r s)
theorem Rps.get : ∀ {vs : List V} {ds : List D} {i : Nat} {d : D}, Rps K F W vs ds → ds[i]? = some d → ∃ v, vs[i]? = some v ∧ Rp K F W v d
  | _, _, _, _, .nil, e => by simp at e
  | _, _, 0, _, .cons h _, e => by simp at e; subst e; exact ⟨_, rfl, h⟩
  | _, _, i + 1, d, .cons _ r, e => by
    obtain ⟨v, h1, h2⟩ := Rps.get (i := i) (d := d) r (by simpa using e)
    exact ⟨v, by simpa using h1, h2⟩
theorem Rps.getV : ∀ {vs : List V} {ds : List D} {i : Nat} {v : V}, Rps K F W vs ds → vs[i]? = some v → ∃ d, ds[i]? = some d ∧ Rp K F W v d
  | _, _, _, _, .nil, e => by simp at e
  | _, _, 0, _, .cons h _, e => by simp at e; subst e; exact ⟨_, rfl, h⟩
  | _, _, i + 1, d, .cons _ r, e => by
    obtain ⟨v, h1, h2⟩ := Rps.getV (i := i) (v := d) r (by simpa using e)
    exact ⟨v, by simpa using h1, h2⟩
theorem Rps.take : ∀ {vs : List V} {ds : List D} (n : Nat), Rps K F W vs ds → Rps K F W (vs.take n) (ds.take n)
  | _, _, 0, _ => .nil
  | _, _, _ + 1, .nil => .nil
  | _, _, n + 1, .cons h r => .cons h (Rps.take n r)
theorem Rps.drop : ∀ {vs : List V} {ds : List D} (n : Nat), Rps K F W vs ds → Rps K F W (vs.drop n) (ds.drop n)
  | _, _, 0, r => r
  | _, _, _ + 1, .nil => .nil
  | _, _, n + 1, .cons _ r => Rps.drop n r
theorem Rps.set {v : V} {d : D} (h : Rp K F W v d) : ∀ {vs : List V} {ds : List D} (n : Nat), Rps K F W vs ds → Rps K F W (vs.set n v) (ds.set n d)
  | _, _, _, .nil => .nil
  | _, _, 0, .cons _ r => .cons h r
  | _, _, n + 1, .cons q r => .cons q (Rps.set h n r)
theorem Rps.reverse : ∀ {vs : List V} {ds : List D}, Rps K F W vs ds → Rps K F W vs.reverse ds.reverse
  | _, _, .nil => .nil
  | _, _, .cons h r => by
    rw [List.reverse_cons, List.reverse_cons]
    exact Rps.append (Rps.reverse r) (.cons h .nil)
def Wd.new (W : Wd) (p : Addr) (o : HO) : Wd := { W with G := upd W.G p o }
theorem Ok.gnone {m : Mu} {p : Addr} (k : Ok K F W m H) (h : H p = none) : W.G p = none := by
  cases e : W.G p with
  | none => rfl
  | some o =>
    rw [k.gh p o e] at h
    cases h
theorem ObR.there {a : Addr} {o : MO} (h : ObR K F W H a o) : ∃ u, H a = some u := by
  cases o with
  | lst ds => obtain ⟨vs, e, _⟩ := h; exact ⟨_, e⟩
theorem Ok.there {m : Mu} {a : Addr} (k : Ok K F W m H) (h : a ∈ W.al) : ∃ u, H a = some u := by
  obtain ⟨i, e⟩ := List.mem_iff_getElem?.mp h
  have hi : i < m.length := by rw [← k.len]; exact (List.getElem?_eq_some_iff.mp e).1
  exact (k.ob i a m[i] e (List.getElem?_eq_getElem hi)).there
theorem Ok.fresh {m : Mu} {p : Addr} (k : Ok K F W m H) (h : H p = none) : p ∉ W.al := fun q => by
  obtain ⟨u, e⟩ := k.there q
  rw [h] at e
  cases e
theorem Ext.new {m : Mu} {p : Addr} {o : HO} (k : Ok K F W m H) (h : H p = none) : Ext W H (W.new p o) (upd H p o) :=
  ⟨⟨[], by simp [Wd.new]⟩, fun a u e => (upd_ne (ne_of_none e (k.gnone h))).trans e, fun a u e _ => (upd_ne (ne_of_none e h)).trans e, fun a q => .inl q, fun a u e => by
    by_cases hp : a = p
    · subst hp
      exact .inr (.inl h)
    · exact .inl ((upd_ne hp).symm.trans e)⟩
theorem ObR.mono {a : Addr} {o : MO} (x : Ext W H W' H') (h : ObR K F W H a o) (e : H' a = H a) : ObR K F W' H' a o := by
  cases o with
  | lst ds => obtain ⟨vs, e1, r⟩ := h; exact ⟨vs, e.trans e1, r.mono x⟩
theorem Ok.new {m : Mu} {p : Addr} {o : HO} (k : Ok K F W m H) (h : H p = none) : Ok K F (W.new p o) m (upd H p o) := by
  refine ⟨fun a u e => ?_, k.nd, fun a q => ?_, k.len, fun i a u e1 e2 => ?_⟩
  · by_cases hp : a = p
    · subst hp
      have e : upd W.G a o a = some u := e
      rw [upd_same] at e ⊢
      exact e
    · have e : upd W.G p o a = some u := e
      rw [upd_ne hp] at e ⊢
      exact k.gh a u e
  · have hp : a ≠ p := fun z => k.fresh h (z ▸ q)
    show upd W.G p o a = none
    rw [upd_ne hp]
    exact k.gn a q
  · have e1 : W.al[i]? = some a := e1
    have hp : a ≠ p := fun z => k.fresh h (z ▸ List.mem_of_getElem? e1)
    exact (k.ob i a u e1 e2).mono (Ext.new k h) (upd_ne hp)
def Wd.more (W : Wd) (p : Addr) : Wd := { W with al := W.al ++ [p] }
theorem Ext.more {p : Addr} {o : HO} (h : H p = none) : Ext W H (W.more p) (upd H p o) :=
  ⟨⟨[p], rfl⟩, fun a u e => e, fun a u e _ => (upd_ne (ne_of_none e h)).trans e, fun a q => by
    rcases List.mem_append.mp q with z | z
    · exact .inl z
    · rw [List.mem_singleton.mp z]
      exact .inr h, fun a u e => .inl e⟩
theorem Ok.more {m : Mu} {p : Addr} {o : HO} {u : MO} (k : Ok K F W m H) (h : H p = none) (q : ObR K F (W.more p) (upd H p o) p u) : Ok K F (W.more p) (m ++ [u]) (upd H p o) := by
  refine ⟨fun a u e => ?_, ?_, fun a q => ?_, ?_, fun i a v e1 e2 => ?_⟩
  · have e : W.G a = some u := e
    exact (upd_ne (ne_of_none (k.gh a u e) h)).trans (k.gh a u e)
  · show (W.al ++ [p]).Nodup
    rw [List.nodup_append]
    exact ⟨k.nd, by simp, fun a ha b hb => by rw [List.mem_singleton.mp hb]; exact fun z => k.fresh h (z ▸ ha)⟩
  · rcases List.mem_append.mp q with z | z
    · exact k.gn a z
    · rw [List.mem_singleton.mp z]
      exact k.gnone h
  · show (W.al ++ [p]).length = _
    rw [List.length_append, List.length_append, k.len]
    rfl
  · have e1 : (W.al ++ [p])[i]? = some a := e1
    by_cases hi : i < W.al.length
    · rw [List.getElem?_append_left hi] at e1
      rw [List.getElem?_append_left (by rw [← k.len]; exact hi)] at e2
      have hp : a ≠ p := fun z => k.fresh h (z ▸ List.mem_of_getElem? e1)
      exact (k.ob i a v e1 e2).mono (Ext.more h) (upd_ne hp)
    · have h0 : W.al.length ≤ i := Nat.le_of_not_lt hi
      rw [List.getElem?_append_right h0] at e1
      rw [List.getElem?_append_right (by rw [← k.len]; exact h0)] at e2
      rw [← k.len] at e2
      have hz : i - W.al.length = 0 := by
        have := (List.getElem?_eq_some_iff.mp e1).1
        simp at this
        omega
      rw [hz] at e1 e2
      simp at e1 e2
      subst e1 e2
      exact q
theorem Ext.write {k : Nat} {p : Addr} {o : HO} (h : W.al[k]? = some p) : Ext W H W (upd H p o) :=
  ⟨⟨[], by simp⟩, fun a u e => e, fun a u e n => (upd_ne fun z => n (by rw [z]; exact List.mem_of_getElem? h)).trans e, fun a q => .inl q, fun a u e => .inl e⟩
theorem Ok.write {m : Mu} {k : Nat} {p : Addr} {o : HO} {u : MO} (c : Ok K F W m H) (h : W.al[k]? = some p) (q : ObR K F W (upd H p o) p u) : Ok K F W (m.set k u) (upd H p o) := by
  refine ⟨fun a v e => ?_, c.nd, c.gn, by rw [List.length_set]; exact c.len, fun i a v e1 e2 => ?_⟩
  · have hp : a ≠ p := fun z => by
      rw [z, c.gn p (List.mem_of_getElem? h)] at e
      cases e
    rw [upd_ne hp]
    exact c.gh a v e
  · by_cases hi : k = i
    · subst hi
      rw [h] at e1
      cases e1
      rw [List.getElem?_set_self (by rw [← c.len]; exact (List.getElem?_eq_some_iff.mp h).1)] at e2
      cases e2
      exact q
    · rw [List.getElem?_set_ne hi] at e2
      have hp : a ≠ p := fun z => by
        subst z
        have h1 := (List.getElem?_eq_some_iff.mp e1)
        have h2 := (List.getElem?_eq_some_iff.mp h)
        exact hi ((List.getElem_inj c.nd).mp (h2.2.trans h1.2.symm))
      exact (c.ob i a v e1 e2).mono (Ext.write h) (upd_ne hp)
end
def XR (K : PySem.W.Frag) (F : Str → Option V) (W : Wd) (H : Hp) (x : Xc) (c : Value) (dd : Option Addr) : Prop :=
  ∃ C, F x.cls = some (.ref C) ∧ c = .ref C ∧
    match dd with
    | none => x.fs = []
    | some d => ∃ fv, H d = some (.xd fv) ∧ fv.map (·.1) = x.fs.map (·.1) ∧ Rps K F W (fv.map (·.2)) (x.fs.map (·.2))
def PostR {A : Type} (K : PySem.W.Frag) (F : Str → Option V) (r : Rs A) (W : Wd) (H : Hp) (Q : Wd → Hp → Mu → A → Prop) (E : XK) : Prop := match r with
  | .bad => False
  | .ok a m' => ∀ W' H', Ext W H W' H' → Ok K F W' m' H' → Q W' H' m' a
  | .exc x m' => ∀ W' H' c dd, Ext W H W' H' → Ok K F W' m' H' → XR K F W' H' x c dd → E c dd H'
def PostE (K : PySem.W.Frag) (F : Str → Option V) (r : Rs D) (W : Wd) (H : Hp) (Q : VK) (E : XK) : Prop := PostR K F r W H (fun W' H' _ d => ∀ v, Rp K F W' v d → Q v H') E
def PostA (K : PySem.W.Frag) (F : Str → Option V) (r : Rs (List D)) (W : Wd) (H : Hp) (Q : List V → Hp → Prop) (E : XK) : Prop := PostR K F r W H (fun W' H' _ ds => ∀ vs, Rps K F W' vs ds → Q vs H') E
def PostB (K : PySem.W.Frag) (F : Str → Option V) (r : Rs Bool) (W : Wd) (H : Hp) (Q : Bool → Hp → Prop) (E : XK) : Prop := PostR K F r W H (fun _ H' _ b => Q b H') E
structure Sl (K : PySem.W.Frag) (F : Str → Option V) (W : Wd) (ρ : Env) (σ : L2.St) : Prop where
  len : ρ.length = σ.length
  get : ∀ (i : Nat) (d : D), ρ[i]? = some (some d) → ∃ v, σ[i]? = some (some v) ∧ Rp K F W v d
theorem Sl.mono {K : PySem.W.Frag} {F : Str → Option V} {W W' : Wd} {H H' : Hp} {ρ : Env} {σ : L2.St} (x : Ext W H W' H') (h : Sl K F W ρ σ) : Sl K F W' ρ σ := ⟨h.len, fun i d e => by
  obtain ⟨v, e1, r⟩ := h.get i d e
  exact ⟨v, e1, r.mono x⟩⟩
inductive Fl where
  | nx (ρ : Env) | rt (d : D) | bk (ρ : Env) | ct (ρ : Env)
def PostF (K : PySem.W.Frag) (F : Str → Option V) (r : Rs Fl) (W : Wd) (H : Hp) (N : Ends) (E : XK) : Prop := PostR K F r W H (fun W' H' _ f => match f with
  | .nx ρ => ∀ σ, Sl K F W' ρ σ → N.nx σ H'
  | .rt d => ∀ v, Rp K F W' v d → N.rt v H'
  | .bk ρ => ∀ σ, Sl K F W' ρ σ → N.bk σ H'
  | .ct ρ => ∀ σ, Sl K F W' ρ σ → N.ct σ H') E
theorem PostR.mono {A : Type} {K : PySem.W.Frag} {F : Str → Option V} {r : Rs A} {W W' : Wd} {H H' : Hp} {Q : Wd → Hp → Mu → A → Prop} {E : XK} (x : Ext W H W' H') (h : PostR K F r W H Q E) : PostR K F r W' H' Q E := by
  cases r with
  | bad => exact h
  | ok a m => exact fun W2 H2 y => h W2 H2 (x.trans y)
  | exc e m => exact fun W2 H2 c dd y => h W2 H2 c dd (x.trans y)
theorem PostR.bind {A B : Type} {K : PySem.W.Frag} {F : Str → Option V} {x : M A} {f : A → M B} {m : Mu} {W : Wd} {H : Hp} {Q : Wd → Hp → Mu → B → Prop} {E : XK} (h : PostR K F ((x >>= f).run m) W H Q E) :
    PostR K F (x.run m) W H (fun W' H' m' a => PostR K F ((f a).run m') W' H' Q E) E := by
  rw [bind_run] at h
  cases e : x.run m with
  | bad => rw [e] at h; exact h
  | ok a m1 => rw [e] at h; exact fun W' H' y _ => h.mono y
  | exc c m1 => rw [e] at h; exact h
theorem PostR.imp {A : Type} {K : PySem.W.Frag} {F : Str → Option V} {r : Rs A} {W : Wd} {H : Hp} {Q Q' : Wd → Hp → Mu → A → Prop} {E : XK} (h : PostR K F r W H Q E) (f : ∀ W' H' m' a, r = .ok a m' → Ext W H W' H' → Ok K F W' m' H' → Q W' H' m' a → Q' W' H' m' a) : PostR K F r W H Q' E := by
  cases r with
  | bad => exact h
  | ok a m => exact fun W2 H2 y k => f W2 H2 m a rfl y k (h W2 H2 y k)
  | exc e m => exact h
theorem PostR.ok {A : Type} {K : PySem.W.Frag} {F : Str → Option V} {W : Wd} {H : Hp} {Q : Wd → Hp → Mu → A → Prop} {E : XK} {a : A} {m : Mu} (k : Ok K F W m H) (h : PostR K F (.ok a m) W H Q E) : Q W H m a := h W H (Ext.refl W H) k
theorem PostR.pure {A : Type} {K : PySem.W.Frag} {F : Str → Option V} {W : Wd} {H : Hp} {Q : Wd → Hp → Mu → A → Prop} {E : XK} {a : A} {m : Mu} (k : Ok K F W m H) (h : PostR K F ((Pure.pure a : M A).run m) W H Q E) : Q W H m a := h W H (Ext.refl W H) k
def EvE (K : PySem.W.Frag) (F : Str → Option V) (E : XK) (te : TE) (f : Env → M D) : Prop := ∀ ρ m W σ H, Sl K F W ρ σ → Ok K F W m H → ∀ Q, PostE K F ((f ρ).run m) W H Q E → te σ H Q
def EvT (K : PySem.W.Frag) (F : Str → Option V) (E : XK) (tt : TT) (f : Env → M Bool) : Prop := ∀ ρ m W σ H, Sl K F W ρ σ → Ok K F W m H → ∀ Q, PostB K F ((f ρ).run m) W H Q E → tt σ H Q
def EvA (K : PySem.W.Frag) (F : Str → Option V) (E : XK) (ta : TA) (f : Env → M (List D)) : Prop := ∀ ρ m W σ H, Sl K F W ρ σ → Ok K F W m H → ∀ Q, PostA K F ((f ρ).run m) W H Q E → ta σ H Q
def EvS (K : PySem.W.Frag) (F : Str → Option V) (E : XK) (ts : TS) (f : Env → M Fl) : Prop := ∀ ρ m W σ H, Sl K F W ρ σ → Ok K F W m H → ∀ N, PostF K F ((f ρ).run m) W H N E → ts N σ H
structure PD (F : Str → Option V) (X : Cx) (E : XK) (e : Expr) (f : Env → M D) : Prop where
  ex : ∃ te, PE X e te ∧ EvE X.K F E te f
structure PDt (F : Str → Option V) (X : Cx) (E : XK) (e : Expr) (f : Env → M Bool) : Prop where
  ex : ∃ te, PT X e te ∧ EvT X.K F E te f
structure PDw (F : Str → Option V) (X : Cx) (E : XK) (e : Expr) (f : Env → M Bool) : Prop where
  ex : ∃ te, PW X e te ∧ EvT X.K F E te f
structure PDa (F : Str → Option V) (X : Cx) (E : XK) (es : List Expr) (f : Env → M (List D)) : Prop where
  ex : ∃ te, PA X es te ∧ EvA X.K F E te f
structure PDs (F : Str → Option V) (X : Cx) (E : XK) (s : Stmt) (f : Env → M Fl) : Prop where
  ex : ∃ te, PS X s te ∧ EvS X.K F E te f
structure PDss (F : Str → Option V) (X : Cx) (E : XK) (s : List Stmt) (f : Env → M Fl) : Prop where
  ex : ∃ te, PSs X s te ∧ EvS X.K F E te f
end Mir
set_option maxRecDepth 100000
namespace Mir
open PySem L2
open PyProof.Rows (b2i)
def slot (ρ : Env) (i : Nat) : M D := M.opt ((ρ[i]?).join)
def D.now : D → M D
  | .hnd k => ⟨fun m => match m[k]? with
    | some (.lst ds) => .ok (.lst ds) m
    | _ => .bad⟩
  | d => pure d
def Rn (K : PySem.W.Frag) (F : Str → Option V) (W : Wd) (H : Hp) (v : V) : D → Prop
  | .lst ds => ∃ a vs, v = .ref a ∧ H a = some (.lst vs) ∧ Rps K F W vs ds
  | d => Rp K F W v d
theorem Rn.of {K : PySem.W.Frag} {F : Str → Option V} {W : Wd} {H : Hp} {m : Mu} {v : V} {d : D} (k : Ok K F W m H) (r : Rp K F W v d) : Rn K F W H v d := by
  cases r with
  | lst h r => exact ⟨_, _, rfl, k.gh _ _ h, r⟩
  | frz h r => exact .frz h r
  | tup h r => exact .tup h r
  | non => exact .non
  | bl b => exact .bl b
  | int i => exact .int i
  | str x => exact .str x
  | hnd h => exact .hnd h
  | nam h => exact .nam h
theorem now_ok {K : PySem.W.Frag} {F : Str → Option V} {W : Wd} {H : Hp} {m : Mu} {v : V} {d : D} {B : Type} {f : D → M B} {Q : Wd → Hp → Mu → B → Prop} {E : XK} (k : Ok K F W m H) (r : Rp K F W v d) (h : PostR K F ((d.now >>= f).run m) W H Q E) :
    ∃ d', Rn K F W H v d' ∧ PostR K F ((f d').run m) W H Q E := by
  cases r with
  | @hnd a i hi =>
    cases e : m[i]? with
    | none => simp only [bind_run, D.now, e] at h; exact h.elim
    | some o =>
      cases o with
      | lst ds =>
        simp only [bind_run, D.now, e] at h
        obtain ⟨vs, e1, r1⟩ := k.ob i a _ hi e
        exact ⟨.lst ds, ⟨a, vs, rfl, e1, r1⟩, h⟩
  | lst h1 r1 => exact ⟨_, Rn.of k (.lst h1 r1), h⟩
  | frz h1 r1 => exact ⟨_, Rn.of k (.frz h1 r1), h⟩
  | tup h1 r1 => exact ⟨_, Rn.of k (.tup h1 r1), h⟩
  | non => exact ⟨_, Rn.of k (.non), h⟩
  | bl b => exact ⟨_, Rn.of k (.bl b), h⟩
  | int i => exact ⟨_, Rn.of k (.int i), h⟩
  | str x => exact ⟨_, Rn.of k (.str x), h⟩
  | nam h1 => exact ⟨_, Rn.of k (.nam h1), h⟩
theorem gd {A B : Type} {b : Bool} {f : M B} {m : Mu} {K : PySem.W.Frag} {F : Str → Option V} {W : Wd} {H : Hp} {Q : Wd → Hp → Mu → B → Prop} {E : XK} (h : PostR K F ((M.guard b >>= fun _ => f).run m) W H Q E) : b = true ∧ PostR K F (f.run m) W H Q E := by
  cases b with
  | true => exact ⟨rfl, h⟩
  | false => exact h.elim
section
variable {F : Str → Option V} {X : Cx} {E : XK} {pos : Pos} {a b e : Expr} {fa fb fc : Env → M D}
theorem pd_var {x : Str} (i : Nat) (hN : X.N[i]? = some x := by rfl) (hv : Vis X.env.scope x := by first | exact Or.inl rfl | exact Or.inr (Or.inl rfl) | exact Or.inr (Or.inr rfl)) (hd : (x == ("__debug__" : Str)) = false := by decide)
    (hcd : (x == ("__classdict__" : Str)) = false := by decide) : PD F X E (.Name x pos) (fun ρ => slot ρ i) :=
  ⟨tVar i, pe_var hN hv hd hcd, fun ρ m W σ H s k Q h => by
    cases e : (ρ[i]?).join with
    | none => simp only [slot, e] at h; exact h.elim
    | some d =>
      simp only [slot, e] at h
      have e1 : ρ[i]? = some (some d) := by
        cases q : ρ[i]? with
        | none => rw [q] at e; cases e
        | some z => rw [q] at e; simp at e; rw [e]
      obtain ⟨v, h1, r⟩ := s.get i d e1
      exact ⟨v, h1, PostR.pure k h v r⟩⟩
theorem pd_con {v : V} {d : D} (h : PE X e (tC v)) (r : ∀ W, Rp X.K F W v d) : PD F X E e (fun _ => pure d) :=
  ⟨tC v, h, fun ρ m W σ H s k Q h => PostR.pure k h v (r W)⟩
theorem pd_int {i : Int} {j : Nat} : PD F X E (.Constant (.int i) j pos) (fun _ => pure (.int i)) := pd_con pe_int fun _ => .int i
theorem pd_str {x : Str} {j : Nat} : PD F X E (.Constant (.str x) j pos) (fun _ => pure (.str x)) := pd_con pe_str fun _ => .str x
theorem pd_bl {x : Bool} {j : Nat} : PD F X E (.Constant (.bool x) j pos) (fun _ => pure (.bl x)) := pd_con pe_bl fun _ => .bl x
theorem pd_non {j : Nat} : PD F X E (.Constant .none j pos) (fun _ => pure .non) := pd_con pe_non fun _ => .non
theorem pd_glob {x : Str} {v : V} {u : Value} {d : D} (hg : Gl X x) (hm : X.mg x = some u) (r : RelV v u) (rd : ∀ W, Rp X.K F W v d) (hd : (x == ("__debug__" : Str)) = false := by decide) : PD F X E (.Name x pos) (fun _ => pure d) :=
  pd_con (pe_glob hg hm r hd) rd
def OpD (K : PySem.W.Frag) (F : Str → Option V) (E : XK) (r : R2) (g : D → D → M D) : Prop := ∀ x y d e m W H Q, Rp K F W x d → Rp K F W y e → Ok K F W m H → PostE K F ((g d e).run m) W H Q E → r x y H Q
theorem ev_bin {r : R2} {g : D → D → M D} {K : PySem.W.Frag} {F : Str → Option V} {ta tb : TE} (hr : OpD K F E r g) (ha : EvE K F E ta fa) (hb : EvE K F E tb fb) : EvE K F E (tOp r ta tb) (fun ρ => fa ρ >>= fun x => fb ρ >>= fun y => g x y) := fun ρ m W σ H s k Q h => by
  refine ha ρ m W σ H s k _ ((PostR.bind h).imp fun W1 H1 m1 d e x1 k1 h1 v r1 => ?_)
  refine hb ρ m1 W1 σ H1 (s.mono x1) k1 _ ((PostR.bind h1).imp fun W2 H2 m2 d2 e2 x2 k2 h2 v2 r2 => ?_)
  exact hr v v2 d d2 m2 W2 H2 Q (r1.mono x2) r2 k2 h2
theorem pd_bin {op : Operator} {r : R2} {g : D → D → M D} (ho : OpR X (binaryOp op) r) (hr : OpD X.K F E r g) (ha : PD F X E a fa) (hb : PD F X E b fb) : PD F X E (.BinOp a op b pos) (fun ρ => fa ρ >>= fun x => fb ρ >>= fun y => g x y) := by
  obtain ⟨ta, pa, ea⟩ := ha
  obtain ⟨tb, pb, eb⟩ := hb
  exact ⟨_, pe_op ho pa pb, ev_bin hr ea eb⟩
theorem op_or2 {f : Value → Value → Sem Value} {r r' : R2} (h : OpR X f r) (h' : OpR X f r') : OpR X f (fun x y H Q => r x y H Q ∨ r' x y H Q) := fun pins s σ H x y v u Q I rx ry q => by
  rcases q with q | q
  · exact h pins s σ H x y v u Q I rx ry q
  · exact h' pins s σ H x y v u Q I rx ry q
theorem new_ok {K : PySem.W.Frag} {F : Str → Option V} {W : Wd} {H : Hp} {m : Mu} {Q : VK} {d : D} (k : Ok K F W m H) (h : PostE K F (.ok d m) W H Q E) {p : Addr} {o : HO} (hp : H p = none) (r : Rp K F (W.new p o) (.ref p) d) : Q (.ref p) (upd H p o) :=
  h (W.new p o) (upd H p o) (Ext.new k hp) (k.new hp) _ r
theorem rp_tup {K : PySem.W.Frag} {F : Str → Option V} {W : Wd} {p : Addr} {vs : List V} {ds : List D} {m : Mu} {H : Hp} (k : Ok K F W m H) (hp : H p = none) (r : Rps K F W vs ds) : Rp K F (W.new p (.tup vs)) (.ref p) (.tup ds) := by
  have x : Ext W H (W.new p (.tup vs)) (upd H p (.tup vs)) := Ext.new k hp
  exact .tup (.inl (.inl upd_same)) (r.mono x)
theorem rp_lst {K : PySem.W.Frag} {F : Str → Option V} {W : Wd} {p : Addr} {vs : List V} {ds : List D} {m : Mu} {H : Hp} (k : Ok K F W m H) (hp : H p = none) (r : Rps K F W vs ds) : Rp K F (W.new p (.lst vs)) (.ref p) (.lst ds) := by
  have x : Ext W H (W.new p (.lst vs)) (upd H p (.lst vs)) := Ext.new k hp
  exact .lst upd_same (r.mono x)
def D.add1 : D → D → M D
  | .int i, .int j => pure (.int (i + j))
  | .int i, .bl b => pure (.int (i + b2i b))
  | .str a, .str b => M.guard (decide (a.length + b.length ≤ sizeLine)) >>= fun _ => pure (.str (a ++ b))
  | .tup a, .tup b => M.guard (decide (a.length + b.length ≤ sizeLine)) >>= fun _ => pure (.tup (a ++ b))
  | .lst a, .lst b => M.guard (decide (a.length + b.length ≤ sizeLine)) >>= fun _ => pure (.lst (a ++ b))
  | _, _ => M.bad
def D.add (x y : D) : M D := x.now >>= fun x => y.now >>= fun y => D.add1 x y
def rAddA (K : PySem.W.Frag) : R2 := fun x y H Q => ((((rI0 fun i j => .int (i + j)) x y H Q ∨ (∃ i k, x = .int i ∧ y = .bl k ∧ Q (.int (i + b2i k)) H)) ∨ (∃ i j, x = .str i ∧ y = .str j ∧ i.length + j.length ≤ sizeLine ∧ Q (.str (i ++ j)) H)) ∨ rCatA K x y H Q) ∨ rCat x y H Q
theorem opd_add {K : PySem.W.Frag} {F : Str → Option V} : OpD K F E (rAddA K) D.add := fun x y d0 e0 m W H Q rx ry k h => by
  unfold D.add at h
  obtain ⟨d, rx, h⟩ := now_ok k rx h
  obtain ⟨e, ry, h⟩ := now_ok k ry h
  cases d with
  | int i =>
    cases rx
    cases e with
    | int j => cases ry; exact .inl (.inl (.inl (.inl ⟨i, j, rfl, rfl, PostR.pure k h _ (.int _)⟩)))
    | bl b => cases ry; exact .inl (.inl (.inl (.inr ⟨i, b, rfl, rfl, PostR.pure k h _ (.int _)⟩)))
    | _ => exact h.elim
  | str i =>
    cases rx
    cases e with
    | str j =>
      cases ry
      obtain ⟨g, h⟩ := gd (A := D) h
      exact .inl (.inl (.inr ⟨i, j, rfl, rfl, of_decide_eq_true g, PostR.pure k h _ (.str _)⟩))
    | _ => exact h.elim
  | tup ds =>
    cases rx with
    | @tup a1 v1 _ h1 r1 =>
    cases e with
    | tup es =>
      cases ry with
      | @tup a2 v2 _ h2 r2 =>
      obtain ⟨g, h⟩ := gd (A := D) h
      have g := of_decide_eq_true g
      refine .inl (.inr ⟨_, _, _, _, rfl, rfl, sqt_mono k.gh h1, sqt_mono k.gh h2, by rw [r1.length, r2.length]; exact g, fun z => ?_, fun z1 z2 => ?_, fun z1 z2 p hp => ?_⟩)
      · subst z
        cases r1
        exact PostR.pure k h _ (.tup h2 r2)
      · subst z2
        cases r2
        rw [List.append_nil] at h
        exact PostR.pure k h _ (.tup h1 r1)
      · exact new_ok k h hp (rp_tup k hp (r1.append r2))
    | _ => exact h.elim
  | lst ds =>
    obtain ⟨a1, v1, rfl, h1, r1⟩ := rx
    cases e with
    | lst es =>
      obtain ⟨a2, v2, rfl, h2, r2⟩ := ry
      obtain ⟨g, h⟩ := gd (A := D) h
      have g := of_decide_eq_true g
      exact .inr ⟨_, _, _, _, rfl, rfl, h1, h2, by rw [r1.length, r2.length]; exact g, fun p hp => new_ok k h hp (rp_lst k hp (r1.append r2))⟩
    | _ => exact h.elim
  | _ => exact h.elim
theorem pd_add (ha : PD F X E a fa) (hb : PD F X E b fb) : PD F X E (.BinOp a .Add b pos) (fun ρ => fa ρ >>= fun x => fb ρ >>= fun y => D.add x y) :=
  pd_bin (op_or2 (op_or2 (op_or2 (op_or2 op_add op_add_ib) op_add_str) op_catA) op_cat) opd_add ha hb
def D.arith (c : Int → Int → Bool) (g : Int → Int → D) : D → D → M D
  | .int i, .int j => M.guard (c i j) >>= fun _ => pure (g i j)
  | _, _ => M.bad
theorem opd_arith {K : PySem.W.Frag} {F : Str → Option V} {C : Int → Int → Prop} {c : Int → Int → Bool} {g : Int → Int → V} {g' : Int → Int → D} (hc : ∀ i j, c i j = true → C i j) (hg : ∀ W i j, Rp K F W (g i j) (g' i j)) : OpD K F E (rI C g) (D.arith c g') := fun x y d e m W H Q rx ry k h => by
  cases rx with
  | int i =>
    cases ry with
    | int j =>
      obtain ⟨q, h⟩ := gd (A := D) h
      exact ⟨i, j, rfl, rfl, hc i j q, PostR.pure k h _ (hg W i j)⟩
    | _ => exact h.elim
  | _ => exact h.elim
def D.sub : D → D → M D := D.arith (fun _ _ => true) fun i j => .int (i - j)
def D.mul : D → D → M D := D.arith (fun i j => decide ((-(2 ^ 64) < i ∧ i < 2 ^ 64) ∨ (-(2 ^ 64) < j ∧ j < 2 ^ 64))) fun i j => .int (i * j)
def D.fdiv : D → D → M D := D.arith (fun _ j => decide (0 < j ∧ j < 1073741824)) fun i j => .int (i / j)
def D.mod : D → D → M D := D.arith (fun _ j => decide (0 < j)) fun i j => .int (i % j)
def D.pow : D → D → M D := D.arith (fun i j => decide (0 ≤ j ∧ j ≤ 1000000 ∧ i.natAbs < 2 ^ 64)) fun i j => .int (i ^ j.toNat)
theorem opd_sub {K : PySem.W.Frag} {F : Str → Option V} : OpD K F E (rI0 fun i j => .int (i - j)) D.sub := fun x y d e m W H Q rx ry k h => by
  obtain ⟨i, j, e1, e2, _, q⟩ := opd_arith (C := fun _ _ => True) (g := fun i j => .int (i - j)) (fun _ _ _ => trivial) (fun W i j => Rp.int (i - j)) x y d e m W H Q rx ry k h
  exact ⟨i, j, e1, e2, q⟩
theorem pd_sub (ha : PD F X E a fa) (hb : PD F X E b fb) : PD F X E (.BinOp a .Sub b pos) (fun ρ => fa ρ >>= fun x => fb ρ >>= fun y => D.sub x y) := pd_bin op_sub opd_sub ha hb
theorem c_mul (i j : Int) (q : decide ((-(2 ^ 64) < i ∧ i < 2 ^ 64) ∨ (-(2 ^ 64) < j ∧ j < 2 ^ 64)) = true) : CMul i j := by
  have q' := of_decide_eq_true q
  exact q'
theorem c_div (i j : Int) (q : decide (0 < j ∧ j < 1073741824) = true) : CDiv i j := by
  have q' := of_decide_eq_true q
  exact q'
theorem c_mod (i j : Int) (q : decide (0 < j) = true) : 0 < j := of_decide_eq_true q
theorem c_pow (i j : Int) (q : decide (0 ≤ j ∧ j ≤ 1000000 ∧ i.natAbs < 2 ^ 64) = true) : CPow i j := by
  have q' := of_decide_eq_true q
  exact q'
theorem pd_mul (ha : PD F X E a fa) (hb : PD F X E b fb) : PD F X E (.BinOp a .Mult b pos) (fun ρ => fa ρ >>= fun x => fb ρ >>= fun y => D.mul x y) := pd_bin op_mul (opd_arith c_mul fun W i j => .int _) ha hb
theorem pd_fdiv (ha : PD F X E a fa) (hb : PD F X E b fb) : PD F X E (.BinOp a .FloorDiv b pos) (fun ρ => fa ρ >>= fun x => fb ρ >>= fun y => D.fdiv x y) := pd_bin op_fdiv (opd_arith c_div fun W i j => .int _) ha hb
theorem pd_mod (ha : PD F X E a fa) (hb : PD F X E b fb) : PD F X E (.BinOp a .Mod b pos) (fun ρ => fa ρ >>= fun x => fb ρ >>= fun y => D.mod x y) := pd_bin op_mod (opd_arith c_mod fun W i j => .int _) ha hb
theorem pd_pow (ha : PD F X E a fa) (hb : PD F X E b fb) : PD F X E (.BinOp a .Pow b pos) (fun ρ => fa ρ >>= fun x => fb ρ >>= fun y => D.pow x y) := pd_bin op_pow (opd_arith c_pow fun W i j => .int _) ha hb
theorem pd_cmp {op : CmpOp} {r : R2} {g : D → D → M D} (ho : OpR X (compareOp op) r) (hr : OpD X.K F E r g) (ha : PD F X E a fa) (hb : PD F X E b fb) (hm : behindInMarks op b = false) : PD F X E (.Compare a [op] [b] pos) (fun ρ => fa ρ >>= fun x => fb ρ >>= fun y => g x y) := by
  obtain ⟨ta, pa, ea⟩ := ha
  obtain ⟨tb, pb, eb⟩ := hb
  exact ⟨_, pe_cmpR ho pa pb hm, ev_bin hr ea eb⟩
def D.bool : D → M Bool
  | .bl b => pure b
  | _ => M.bad
theorem ev_test {K : PySem.W.Frag} {F : Str → Option V} {te : TE} (h : EvE K F E te fa) : EvT K F E (tTest te) (fun ρ => fa ρ >>= D.bool) := fun ρ m W σ H s k Q q => by
  refine h ρ m W σ H s k _ ((PostR.bind q).imp fun W1 H1 m1 d e x1 k1 h1 v r1 => ?_)
  cases r1 with
  | bl b => exact ⟨b, rfl, PostR.pure k1 h1⟩
  | _ => exact h1.elim
theorem pt_cmp {op : CmpOp} {r : R2} {g : D → D → M D} (ho : OpR X (compareOp op) r) (hr : OpD X.K F E r g) (ha : PD F X E a fa) (hb : PD F X E b fb) (hm : behindInMarks op b = false) : PDt F X E (.Compare a [op] [b] pos) (fun ρ => (fa ρ >>= fun x => fb ρ >>= fun y => g x y) >>= D.bool) := by
  obtain ⟨ta, pa, ea⟩ := ha
  obtain ⟨tb, pb, eb⟩ := hb
  exact ⟨_, pt_cmpR ho pa pb hm, ev_test (ev_bin hr ea eb)⟩
theorem ev_chain {r r' : R2} {g g' : D → D → M D} {K : PySem.W.Frag} {F : Str → Option V} {ta tb tc : TE} (hr : OpD K F E r g) (hr' : OpD K F E r' g') (ha : EvE K F E ta fa) (hb : EvE K F E tb fb) (hc : EvE K F E tc fc) :
    EvE K F E (tChain r r' ta tb tc) (fun ρ => fa ρ >>= fun x => fb ρ >>= fun y => (g x y >>= D.bool) >>= fun t => if t = true then fc ρ >>= fun z => g' y z else pure (.bl false)) := fun ρ m W σ H s k Q h => by
  refine ha ρ m W σ H s k _ ((PostR.bind h).imp fun W1 H1 m1 d e x1 k1 h1 v r1 => ?_)
  refine hb ρ m1 W1 σ H1 (s.mono x1) k1 _ ((PostR.bind h1).imp fun W2 H2 m2 d2 e2 x2 k2 h2 v2 r2 => ?_)
  rw [bind_assoc'] at h2
  refine hr v v2 d d2 m2 W2 H2 _ (r1.mono x2) r2 k2 ((PostR.bind h2).imp fun W3 H3 m3 d3 e3 x3 k3 h3 v3 r3 => ?_)
  cases r3 with
  | bl t =>
    refine ⟨t, rfl, ?_⟩
    cases t with
    | false => exact PostR.pure k3 h3 _ (.bl false)
    | true =>
      have h3 : PostE K F ((fc ρ >>= fun z => g' d2 z).run m3) W3 H3 Q E := h3
      exact hc ρ m3 W3 σ H3 (((s.mono x1).mono x2).mono x3) k3 _ ((PostR.bind h3).imp fun W4 H4 m4 d4 e4 x4 k4 h4 v4 r4 => hr' v2 v4 d2 d4 m4 W4 H4 Q ((r2.mono x3).mono x4) r4 k4 h4)
  | _ => exact h3.elim
theorem pd_chain {c : Expr} {op op' : CmpOp} {r r' : R2} {g g' : D → D → M D} (ho : OpR X (compareOp op) r) (ho' : OpR X (compareOp op') r') (hr : OpD X.K F E r g) (hr' : OpD X.K F E r' g') (ha : PD F X E a fa) (hb : PD F X E b fb) (hc : PD F X E c fc)
    (hm : lastMarks [op, op'] [b, c] = false := by with_unfolding_all rfl) :
    PD F X E (.Compare a [op, op'] [b, c] pos) (fun ρ => fa ρ >>= fun x => fb ρ >>= fun y => (g x y >>= D.bool) >>= fun t => if t = true then fc ρ >>= fun z => g' y z else pure (.bl false)) := by
  obtain ⟨ta, pa, ea⟩ := ha
  obtain ⟨tb, pb, eb⟩ := hb
  obtain ⟨tc, pc, ec⟩ := hc
  exact ⟨_, pe_chain ho ho' pa pb pc hm, ev_chain hr hr' ea eb ec⟩
theorem ptd_chain {c : Expr} {op op' : CmpOp} {r r' : R2} {g g' : D → D → M D} (ho : OpR X (compareOp op) r) (ho' : OpR X (compareOp op') r') (hr : OpD X.K F E r g) (hr' : OpD X.K F E r' g') (ha : PD F X E a fa) (hb : PD F X E b fb) (hc : PD F X E c fc)
    (hm : lastMarks [op, op'] [b, c] = false := by with_unfolding_all rfl) :
    PDt F X E (.Compare a [op, op'] [b, c] pos) (fun ρ => (fa ρ >>= fun x => fb ρ >>= fun y => (g x y >>= D.bool) >>= fun t => if t = true then fc ρ >>= fun z => g' y z else pure (.bl false)) >>= D.bool) := by
  obtain ⟨ta, pa, ea⟩ := ha
  obtain ⟨tb, pb, eb⟩ := hb
  obtain ⟨tc, pc, ec⟩ := hc
  exact ⟨_, pt_chain ho ho' pa pb pc hm, ev_test (ev_chain hr hr' ea eb ec)⟩
def D.cmpI (p : Int → Int → Bool) : D → D → M D := D.arith (fun _ _ => true) fun i j => .bl (p i j)
theorem opd_cmpI {K : PySem.W.Frag} {F : Str → Option V} (p : Int → Int → Bool) : OpD K F E (rI0 fun i j => .bl (p i j)) (D.cmpI p) := fun x y d e m W H Q rx ry k h => by
  obtain ⟨i, j, e1, e2, _, q⟩ := opd_arith (C := fun _ _ => True) (g := fun i j => .bl (p i j)) (fun _ _ _ => trivial) (fun W i j => Rp.bl (p i j)) x y d e m W H Q rx ry k h
  exact ⟨i, j, e1, e2, q⟩
def D.lt : D → D → M D := D.cmpI fun i j => decide (i < j)
def D.le : D → D → M D := D.cmpI fun i j => decide (i ≤ j)
def D.gt : D → D → M D := D.cmpI fun i j => decide (j < i)
def D.ge : D → D → M D := D.cmpI fun i j => decide (j ≤ i)
theorem opd_lt {K : PySem.W.Frag} {F : Str → Option V} : OpD K F E (rI0 fun i j => .bl (decide (i < j))) D.lt := opd_cmpI _
theorem opd_le {K : PySem.W.Frag} {F : Str → Option V} : OpD K F E (rI0 fun i j => .bl (decide (i ≤ j))) D.le := opd_cmpI _
theorem opd_gt {K : PySem.W.Frag} {F : Str → Option V} : OpD K F E (rI0 fun i j => .bl (decide (j < i))) D.gt := opd_cmpI _
theorem opd_ge {K : PySem.W.Frag} {F : Str → Option V} : OpD K F E (rI0 fun i j => .bl (decide (j ≤ i))) D.ge := opd_cmpI _
mutual
def D.py : D → Option PyData
  | .non => some .none
  | .bl b => some (.bool b)
  | .int i => some (.int i)
  | .str x => some (.str x)
  | .lst ds => (D.pys ds).map .list
  | .frz ds => (D.pys ds).map .list
  | .tup ds => (D.pys ds).map .tuple
  | .hnd _ => none
  | .nam _ => none
def D.pys : List D → Option (List PyData)
  | [] => some []
  | d :: ds => match d.py, D.pys ds with
    | some p, some ps => some (p :: ps)
    | _, _ => none
end
mutual
theorem dp_of {K : PySem.W.Frag} {F : Str → Option V} {W : Wd} {H : Hp} {m : Mu} (k : Ok K F W m H) : ∀ (d : D) (v : V) (p : PyData), Rp K F W v d → d.py = some p → Dp K H v p
  | .non, _, _, .non, e => by cases e; exact .non
  | .bl b, _, _, .bl _, e => by cases e; exact .bl b
  | .int b, _, _, .int _, e => by cases e; exact .int b
  | .str b, _, _, .str _, e => by cases e; exact .str b
  | .lst ds, _, p, .lst h r, e => by
    unfold D.py at e
    cases q : D.pys ds with
    | none => rw [q] at e; cases e
    | some ps => rw [q] at e; cases e; exact .lst (.inl (.inl (k.gh _ _ h))) (dps_of k ds _ ps r q)
  | .frz ds, _, p, .frz h r, e => by
    unfold D.py at e
    cases q : D.pys ds with
    | none => rw [q] at e; cases e
    | some ps => rw [q] at e; cases e; exact .lst (sql_mono k.gh h) (dps_of k ds _ ps r q)
  | .tup ds, _, p, .tup h r, e => by
    unfold D.py at e
    cases q : D.pys ds with
    | none => rw [q] at e; cases e
    | some ps => rw [q] at e; cases e; exact .tup (sqt_mono k.gh h) (dps_of k ds _ ps r q)
  | .hnd _, _, _, _, e => by cases e
  | .nam _, _, _, _, e => by cases e
theorem dps_of {K : PySem.W.Frag} {F : Str → Option V} {W : Wd} {H : Hp} {m : Mu} (k : Ok K F W m H) : ∀ (ds : List D) (vs : List V) (ps : List PyData), Rps K F W vs ds → D.pys ds = some ps → DpAll K H vs ps
  | [], _, _, .nil, e => by cases e; exact .nil
  | d :: ds, _, _, .cons h r, e => by
    unfold D.pys at e
    cases q1 : d.py with
    | none => rw [q1] at e; cases e
    | some p =>
      cases q2 : D.pys ds with
      | none => rw [q1, q2] at e; cases e
      | some ps =>
        rw [q1, q2] at e
        cases e
        exact .cons (dp_of k d _ p h q1) (dps_of k ds _ ps r q2)
end
theorem dp_now {K : PySem.W.Frag} {F : Str → Option V} {W : Wd} {H : Hp} {m : Mu} (k : Ok K F W m H) {d : D} {v : V} {p : PyData} (r : Rn K F W H v d) (e : d.py = some p) : Dp K H v p := by
  cases d with
  | lst ds =>
    obtain ⟨a, vs, rfl, h, r⟩ := r
    unfold D.py at e
    cases q : D.pys ds with
    | none => rw [q] at e; cases e
    | some ps => rw [q] at e; cases e; exact .lst (.inl (.inl h)) (dps_of k ds _ ps r q)
  | frz ds => exact dp_of k _ _ _ r e
  | tup ds => exact dp_of k _ _ _ r e
  | non => exact dp_of k _ _ _ r e
  | bl b => exact dp_of k _ _ _ r e
  | int b => exact dp_of k _ _ _ r e
  | str b => exact dp_of k _ _ _ r e
  | hnd b => exact dp_of k _ _ _ r e
  | nam b => exact dp_of k _ _ _ r e
def D.eqo (x y : D) : Option Bool := match x.py, y.py with
  | some p, some q => if SeqAt.shaped p = true ∧ SeqAt.shaped q = true then some (PyData.eqv p q) else none
  | _, _ => none
def D.eqd (x y : D) : M D := x.now >>= fun x => y.now >>= fun y => M.opt ((D.eqo x y).map .bl)
def D.ned (x y : D) : M D := x.now >>= fun x => y.now >>= fun y => M.opt ((D.eqo x y).map fun b => .bl !b)
def D.eq : D → D → M D
  | .str a, .str b => pure (.bl (a == b))
  | x, y => D.eqd x y
def D.ne : D → D → M D
  | .str a, .str b => pure (.bl (!(a == b)))
  | x, y => D.ned x y
theorem eqo_ok {K : PySem.W.Frag} {F : Str → Option V} {W : Wd} {H : Hp} {m : Mu} {x y : V} {d e : D} {Q : VK} {g : Bool → D} (k : Ok K F W m H) (rx : Rn K F W H x d) (ry : Rn K F W H y e) (h : PostE K F ((M.opt ((D.eqo d e).map g)).run m) W H Q E) :
    ∃ p q, Dp K H x p ∧ Dp K H y q ∧ SeqAt.shaped p = true ∧ SeqAt.shaped q = true ∧ PostE K F (.ok (g (PyData.eqv p q)) m) W H Q E := by
  unfold D.eqo at h
  cases e1 : d.py with
  | none => rw [e1] at h; exact h.elim
  | some p =>
    cases e2 : e.py with
    | none => rw [e1, e2] at h; exact h.elim
    | some q =>
      rw [e1, e2] at h
      by_cases c : SeqAt.shaped p = true ∧ SeqAt.shaped q = true
      · simp only [if_pos c] at h
        exact ⟨p, q, dp_now k rx e1, dp_now k ry e2, c.1, c.2, h⟩
      · simp only [if_neg c] at h
        exact h.elim
theorem opd_eqd {K : PySem.W.Frag} {F : Str → Option V} : OpD K F E (rEqD K) D.eqd := fun x y d e m W H Q rx ry k h => by
  unfold D.eqd at h
  obtain ⟨d1, r1, h⟩ := now_ok k rx h
  obtain ⟨d2, r2, h⟩ := now_ok k ry h
  obtain ⟨p, q, a1, a2, a3, a4, h⟩ := eqo_ok k r1 r2 h
  exact ⟨p, q, a1, a2, a3, a4, PostR.ok k h _ (.bl _)⟩
theorem opd_ned {K : PySem.W.Frag} {F : Str → Option V} : OpD K F E (rNeD K) D.ned := fun x y d e m W H Q rx ry k h => by
  unfold D.ned at h
  obtain ⟨d1, r1, h⟩ := now_ok k rx h
  obtain ⟨d2, r2, h⟩ := now_ok k ry h
  obtain ⟨p, q, a1, a2, a3, a4, h⟩ := eqo_ok k r1 r2 h
  exact ⟨p, q, a1, a2, a3, a4, PostR.ok k h _ (.bl _)⟩
theorem opd_eq {K : PySem.W.Frag} {F : Str → Option V} : OpD K F E (fun x y H Q => rEq x y H Q ∨ rEqD K x y H Q) D.eq := fun x y d e m W H Q rx ry k h => by
  by_cases c : ∃ a b, d = .str a ∧ e = .str b
  · obtain ⟨a, b, rfl, rfl⟩ := c
    cases rx
    cases ry
    refine .inl ⟨rfl, ?_⟩
    rw [dec_str]
    exact PostR.pure k h _ (.bl _)
  · refine .inr (opd_eqd (E := E) x y d e m W H Q rx ry k ?_)
    have e1 : D.eq d e = D.eqd d e := by
      unfold D.eq
      split
      · exact (c ⟨_, _, rfl, rfl⟩).elim
      · rfl
    rw [e1] at h
    exact h
theorem opd_ne {K : PySem.W.Frag} {F : Str → Option V} : OpD K F E (fun x y H Q => rNe x y H Q ∨ rNeD K x y H Q) D.ne := fun x y d e m W H Q rx ry k h => by
  by_cases c : ∃ a b, d = .str a ∧ e = .str b
  · obtain ⟨a, b, rfl, rfl⟩ := c
    cases rx
    cases ry
    refine .inl ⟨rfl, ?_⟩
    rw [dec_str]
    exact PostR.pure k h _ (.bl _)
  · refine .inr (opd_ned (E := E) x y d e m W H Q rx ry k ?_)
    have e1 : D.ne d e = D.ned d e := by
      unfold D.ne
      split
      · exact (c ⟨_, _, rfl, rfl⟩).elim
      · rfl
    rw [e1] at h
    exact h
end
end Mir
set_option maxRecDepth 100000
namespace Mir
open PySem L2
open PyProof.Rows (b2i)
section
variable {F : Str → Option V} {X : Cx} {E : XK} {pos : Pos} {a b e : Expr} {rest : List Expr} {fa fb fc : Env → M D} {ga gb : Env → M Bool}
def D.tru1 : D → M Bool
  | .non => pure false
  | .bl b => pure b
  | .int i => pure (i != 0)
  | .str x => M.guard (decide (x.length ≤ sizeLine)) >>= fun _ => pure ((x.length : Int) != 0)
  | .lst ds => pure (!ds.isEmpty)
  | .frz ds => pure (!ds.isEmpty)
  | .tup ds => pure (!ds.isEmpty)
  | _ => M.bad
def D.tru (x : D) : M Bool := x.now >>= D.tru1
theorem rps_empty {K : PySem.W.Frag} {W : Wd} {vs : List V} {ds : List D} (r : Rps K F W vs ds) : vs.isEmpty = ds.isEmpty := by cases r <;> rfl
theorem tru_ok {K : PySem.W.Frag} {W : Wd} {H : Hp} {m : Mu} {v : V} {d : D} {Q : Wd → Hp → Mu → Bool → Prop} (k : Ok K F W m H) (r : Rp K F W v d) (h : PostR K F ((d.tru).run m) W H Q E) : ∃ t, TruV K v H t ∧ PostR K F (.ok t m) W H Q E := by
  unfold D.tru at h
  obtain ⟨d', r, h⟩ := now_ok k r h
  cases d' with
  | non => cases r; exact ⟨_, rfl, h⟩
  | bl b => cases r; exact ⟨_, rfl, h⟩
  | int b => cases r; exact ⟨_, rfl, h⟩
  | str b =>
    cases r
    obtain ⟨g, h⟩ := gd (A := D) h
    exact ⟨_, ⟨of_decide_eq_true g, rfl⟩, h⟩
  | lst ds =>
    obtain ⟨p, vs, rfl, h1, r1⟩ := r
    exact ⟨_, .inl ⟨vs, .inl (.inl h1), by rw [rps_empty r1]⟩, h⟩
  | frz ds =>
    cases r with
    | frz h1 r1 => exact ⟨_, .inl ⟨_, sql_mono k.gh h1, by rw [rps_empty r1]⟩, h⟩
  | tup ds =>
    cases r with
    | tup h1 r1 => exact ⟨_, .inr (.inl ⟨_, sqt_mono k.gh h1, by rw [rps_empty r1]⟩), h⟩
  | hnd _ => exact h.elim
  | nam _ => exact h.elim
theorem pt_of (ha : PD F X E a fa) (he : ∀ whole, isTrue a X.env whole = (do let v ← whole; standAt a.pos; holding [v] (truthy v)) := by intro _; rfl) : PDt F X E a (fun ρ => fa ρ >>= D.tru) := by
  obtain ⟨ta, pa, ea⟩ := ha
  refine ⟨_, pt_truth pa he, fun ρ m W σ H s k Q h => ea ρ m W σ H s k _ ((PostR.bind h).imp fun W1 H1 m1 d e x1 k1 h1 v r1 => ?_)⟩
  obtain ⟨t, h2, h3⟩ := tru_ok k1 r1 h1
  exact ⟨t, h2, PostR.ok k1 h3⟩
theorem pt_w (h : PDw F X E a ga) : PDt F X E a ga := by
  obtain ⟨t, p, q⟩ := h
  exact ⟨t, p.pt, q⟩
theorem ptn (h : PDt F X E a ga) : PDt F X E (.UnaryOp .Not a pos) (fun ρ => ga ρ >>= fun t => pure (!t)) := by
  obtain ⟨t, p, q⟩ := h
  exact ⟨_, pt_not p, fun ρ m W σ H s k Q h => q ρ m W σ H s k _ ((PostR.bind h).imp fun W1 H1 m1 d e x1 k1 h1 => PostR.pure k1 h1)⟩
theorem pw_a1 (h : PDt F X E a ga) : PDw F X E (.BoolOp .And [a] pos) ga := by
  obtain ⟨t, p, q⟩ := h
  exact ⟨_, pw_and1 p, q⟩
theorem pw_o1 (h : PDt F X E a ga) : PDw F X E (.BoolOp .Or [a] pos) ga := by
  obtain ⟨t, p, q⟩ := h
  exact ⟨_, pw_or1 p, q⟩
theorem pw_a (h : PDt F X E a ga) (h' : PDw F X E (.BoolOp .And (b :: rest) pos) gb) : PDw F X E (.BoolOp .And (a :: b :: rest) pos) (fun ρ => ga ρ >>= fun t => if t = true then gb ρ else pure false) := by
  obtain ⟨t, p, q⟩ := h
  obtain ⟨t', p', q'⟩ := h'
  refine ⟨_, pw_and p p', fun ρ m W σ H s k Q h => q ρ m W σ H s k _ ((PostR.bind h).imp fun W1 H1 m1 d e x1 k1 h1 => ?_)⟩
  cases d with
  | true => exact q' ρ m1 W1 σ H1 (s.mono x1) k1 _ h1
  | false => exact PostR.pure k1 h1
theorem pw_o (h : PDt F X E a ga) (h' : PDw F X E (.BoolOp .Or (b :: rest) pos) gb) : PDw F X E (.BoolOp .Or (a :: b :: rest) pos) (fun ρ => ga ρ >>= fun t => if t = true then pure true else gb ρ) := by
  obtain ⟨t, p, q⟩ := h
  obtain ⟨t', p', q'⟩ := h'
  refine ⟨_, pw_or p p', fun ρ m W σ H s k Q h => q ρ m W σ H s k _ ((PostR.bind h).imp fun W1 H1 m1 d e x1 k1 h1 => ?_)⟩
  cases d with
  | false => exact q' ρ m1 W1 σ H1 (s.mono x1) k1 _ h1
  | true => exact PostR.pure k1 h1
theorem pd_one {op : BoolOp} (h : PD F X E a fa) : PD F X E (.BoolOp op [a] pos) fa := by
  obtain ⟨t, p, q⟩ := h
  exact ⟨_, pe_one p, q⟩
theorem pd_and (h : PD F X E a fa) (h' : PD F X E (.BoolOp .And (b :: rest) pos) fb) : PD F X E (.BoolOp .And (a :: b :: rest) pos) (fun ρ => fa ρ >>= fun x => x.tru >>= fun t => if t = true then fb ρ else pure x) := by
  obtain ⟨t, p, q⟩ := h
  obtain ⟨t', p', q'⟩ := h'
  refine ⟨_, pe_andT p p', fun ρ m W σ H s k Q h => q ρ m W σ H s k _ ((PostR.bind h).imp fun W1 H1 m1 d e x1 k1 h1 v r1 => ?_)⟩
  obtain ⟨t, h2, h3⟩ := tru_ok k1 r1 (PostR.bind h1)
  have h3 := PostR.ok k1 h3
  refine ⟨t, h2, ?_⟩
  cases t with
  | true => exact q' ρ m1 W1 σ H1 (s.mono x1) k1 _ h3
  | false => exact PostR.pure k1 h3 v r1
theorem pd_or (h : PD F X E a fa) (h' : PD F X E (.BoolOp .Or (b :: rest) pos) fb) : PD F X E (.BoolOp .Or (a :: b :: rest) pos) (fun ρ => fa ρ >>= fun x => x.tru >>= fun t => if t = true then pure x else fb ρ) := by
  obtain ⟨t, p, q⟩ := h
  obtain ⟨t', p', q'⟩ := h'
  refine ⟨_, pe_orT p p', fun ρ m W σ H s k Q h => q ρ m W σ H s k _ ((PostR.bind h).imp fun W1 H1 m1 d e x1 k1 h1 v r1 => ?_)⟩
  obtain ⟨t, h2, h3⟩ := tru_ok k1 r1 (PostR.bind h1)
  have h3 := PostR.ok k1 h3
  refine ⟨t, h2, ?_⟩
  cases t with
  | false => exact q' ρ m1 W1 σ H1 (s.mono x1) k1 _ h3
  | true => exact PostR.pure k1 h3 v r1
theorem pd_not (h : PD F X E a fa) : PD F X E (.UnaryOp .Not a pos) (fun ρ => fa ρ >>= fun x => x.tru >>= fun t => pure (.bl (!t))) := by
  obtain ⟨t, p, q⟩ := h
  refine ⟨_, pe_notT p, fun ρ m W σ H s k Q h => q ρ m W σ H s k _ ((PostR.bind h).imp fun W1 H1 m1 d e x1 k1 h1 v r1 => ?_)⟩
  obtain ⟨t, h2, h3⟩ := tru_ok k1 r1 (PostR.bind h1)
  exact ⟨t, h2, PostR.pure k1 (PostR.ok k1 h3) _ (.bl _)⟩
theorem pd_if {c : Expr} (hc : PDt F X E c ga) (ha : PD F X E a fa) (hb : PD F X E b fb) : PD F X E (.IfExp c a b pos) (fun ρ => ga ρ >>= fun t => if t = true then fa ρ else fb ρ) := by
  obtain ⟨tc, pc, qc⟩ := hc
  obtain ⟨ta, pa, qa⟩ := ha
  obtain ⟨tb, pb, qb⟩ := hb
  refine ⟨_, pe_ifExp pc pa pb, fun ρ m W σ H s k Q h => qc ρ m W σ H s k _ ((PostR.bind h).imp fun W1 H1 m1 d e x1 k1 h1 => ?_)⟩
  cases d with
  | true => exact qa ρ m1 W1 σ H1 (s.mono x1) k1 _ h1
  | false => exact qb ρ m1 W1 σ H1 (s.mono x1) k1 _ h1
theorem pd_neg (h : PD F X E a fa) : PD F X E (.UnaryOp .USub a pos) (fun ρ => fa ρ >>= fun x => match x with
  | .int i => pure (.int (-i))
  | _ => M.bad) := by
  obtain ⟨t, p, q⟩ := h
  refine ⟨_, pe_un un_neg p, fun ρ m W σ H s k Q h => q ρ m W σ H s k _ ((PostR.bind h).imp fun W1 H1 m1 d e x1 k1 h1 v r1 => ?_)⟩
  cases r1 with
  | int i => exact ⟨i, rfl, PostR.pure k1 h1 _ (.int _)⟩
  | _ => exact h1.elim
theorem pda_nil : PDa F X E [] (fun _ => pure []) := ⟨_, pa_nil, fun ρ m W σ H s k Q h => PostR.pure k h _ .nil⟩
theorem pda_cons {es : List Expr} {f : Env → M (List D)} (ha : PD F X E e fa) (hr : PDa F X E es f) (hs : starEach (e :: es) X.env = (false, eval e X.env) :: starEach es X.env := by rfl) :
    PDa F X E (e :: es) (fun ρ => fa ρ >>= fun x => f ρ >>= fun xs => pure (x :: xs)) := by
  obtain ⟨t, p, q⟩ := ha
  obtain ⟨t', p', q'⟩ := hr
  refine ⟨_, pa_cons p p' hs, fun ρ m W σ H s k Q h => q ρ m W σ H s k _ ((PostR.bind h).imp fun W1 H1 m1 d e x1 k1 h1 v r1 => ?_)⟩
  exact q' ρ m1 W1 σ H1 (s.mono x1) k1 _ ((PostR.bind h1).imp fun W2 H2 m2 d2 e2 x2 k2 h2 vs r2 => PostR.pure k2 h2 _ (.cons (r1.mono x2) r2))
theorem pd_tup {es : List Expr} {x1} {f : Env → M (List D)} (h : PDa F X E es f) : PD F X E (.Tuple es x1 pos) (fun ρ => f ρ >>= fun xs => M.guard (decide (xs.length ≤ sizeLine)) >>= fun _ => pure (.tup xs)) := by
  obtain ⟨t, p, q⟩ := h
  refine ⟨_, pe_tup p, fun ρ m W σ H s k Q h => q ρ m W σ H s k _ ((PostR.bind h).imp fun W1 H1 m1 d e x1 k1 h1 v r1 => ?_)⟩
  obtain ⟨g, h1⟩ := gd (A := D) h1
  exact ⟨by rw [r1.length]; exact of_decide_eq_true g, fun p hp => new_ok k1 h1 hp (rp_tup k1 hp r1)⟩
theorem pd_lst {es : List Expr} {f : Env → M (List D)} (h : PDa F X E es f) : PD F X E (.List es pos) (fun ρ => f ρ >>= fun xs => M.guard (decide (xs.length ≤ sizeLine)) >>= fun _ => pure (.lst xs)) := by
  obtain ⟨t, p, q⟩ := h
  refine ⟨_, pe_lst p, fun ρ m W σ H s k Q h => q ρ m W σ H s k _ ((PostR.bind h).imp fun W1 H1 m1 d e x1 k1 h1 v r1 => ?_)⟩
  obtain ⟨g, h1⟩ := gd (A := D) h1
  exact ⟨by rw [r1.length]; exact of_decide_eq_true g, fun p hp => new_ok k1 h1 hp (rp_lst k1 hp r1)⟩
def M.more (o : MO) : M D := ⟨fun m => .ok (.hnd m.length) (m ++ [o])⟩
theorem more_ok {K : PySem.W.Frag} {W : Wd} {H : Hp} {m : Mu} {Q : VK} {ds : List D} {vs : List V} {p : Addr} (k : Ok K F W m H) (hp : H p = none) (r : Rps K F W vs ds) (h : PostE K F ((M.more (.lst ds)).run m) W H Q E) : Q (.ref p) (upd H p (.lst vs)) := by
  have x : Ext W H (W.more p) (upd H p (.lst vs)) := Ext.more hp
  refine h (W.more p) _ x (k.more hp ⟨vs, upd_same, r.mono x⟩) _ (.hnd ?_)
  show (W.al ++ [p])[m.length]? = some p
  rw [← k.len]
  simp
theorem pd_lstH {es : List Expr} {f : Env → M (List D)} (h : PDa F X E es f) : PD F X E (.List es pos) (fun ρ => f ρ >>= fun xs => M.guard (decide (xs.length ≤ sizeLine)) >>= fun _ => M.more (.lst xs)) := by
  obtain ⟨t, p, q⟩ := h
  refine ⟨_, pe_lst p, fun ρ m W σ H s k Q h => q ρ m W σ H s k _ ((PostR.bind h).imp fun W1 H1 m1 d e x1 k1 h1 v r1 => ?_)⟩
  obtain ⟨g, h1⟩ := gd (A := D) h1
  exact ⟨by rw [r1.length]; exact of_decide_eq_true g, fun p hp => more_ok k1 hp r1 h1⟩
def D.ix1 : D → D → M D
  | .lst ds, .int i => M.opt (atI ds i)
  | .frz ds, .int i => M.opt (atI ds i)
  | .tup ds, .int i => M.opt (atI ds i)
  | .str x, .int i => M.guard (decide (x.length ≤ sizeLine)) >>= fun _ => M.opt ((atI x.cps.toList i).map fun c => .str ⟨#[c]⟩)
  | _, _ => M.bad
def D.ix (x y : D) : M D := x.now >>= fun x => D.ix1 x y
theorem opt_ok {A B : Type} {K : PySem.W.Frag} {W : Wd} {H : Hp} {m : Mu} {o : Option A} {Q : Wd → Hp → Mu → A → Prop} (h : PostR K F ((M.opt o).run m) W H Q E) : ∃ x, o = some x ∧ PostR K F (.ok x m) W H Q E := by
  cases o with
  | none => exact h.elim
  | some x => exact ⟨x, rfl, h⟩
theorem at_get {K : PySem.W.Frag} {W : Wd} {vs : List V} {ds : List D} {i : Int} {d : D} (r : Rps K F W vs ds) (h : atI ds i = some d) : ∃ v, atI vs i = some v ∧ Rp K F W v d := by
  unfold atI at h ⊢
  rw [r.length]
  cases e : ixN ds.length i with
  | none => rw [e] at h; cases h
  | some j => rw [e] at h; exact r.get h
theorem opd_ix {K : PySem.W.Frag} : OpD K F E (rIx K) D.ix := fun x y d0 e m W H Q rx ry k h => by
  unfold D.ix at h
  obtain ⟨d, rx, h⟩ := now_ok k rx h
  cases d with
  | lst ds =>
    obtain ⟨p, vs, rfl, h1, r1⟩ := rx
    cases ry with
    | int i =>
      obtain ⟨z, e1, h⟩ := opt_ok (B := D) h
      obtain ⟨v, e2, r2⟩ := at_get r1 e1
      exact .inl ⟨p, vs, i, v, rfl, rfl, .inl (.inl h1), e2, PostR.ok k h v r2⟩
    | _ => exact h.elim
  | frz ds =>
    cases rx with
    | @frz p vs _ h1 r1 =>
      cases ry with
      | int i =>
        obtain ⟨z, e1, h⟩ := opt_ok (B := D) h
        obtain ⟨v, e2, r2⟩ := at_get r1 e1
        exact .inl ⟨p, vs, i, v, rfl, rfl, sql_mono k.gh h1, e2, PostR.ok k h v r2⟩
      | _ => exact h.elim
  | tup ds =>
    cases rx with
    | @tup p vs _ h1 r1 =>
      cases ry with
      | int i =>
        obtain ⟨z, e1, h⟩ := opt_ok (B := D) h
        obtain ⟨v, e2, r2⟩ := at_get r1 e1
        exact .inr (.inl ⟨p, vs, i, v, rfl, rfl, sqt_mono k.gh h1, e2, PostR.ok k h v r2⟩)
      | _ => exact h.elim
  | str x =>
    cases rx
    cases ry with
    | int i =>
      obtain ⟨g, h⟩ := gd (A := D) h
      obtain ⟨z, e1, h⟩ := opt_ok (B := D) h
      obtain ⟨c, e2, rfl⟩ := Option.map_eq_some_iff.mp e1
      exact .inr (.inr ⟨x, i, c, rfl, rfl, of_decide_eq_true g, e2, PostR.ok k h _ (.str _)⟩)
    | _ => exact h.elim
  | _ => exact h.elim
theorem pd_ix (ha : PD F X E a fa) (hb : PD F X E b fb) (hs : PlainIx b := by exact fun _ _ => rfl) : PD F X E (.Subscript a b pos) (fun ρ => fa ρ >>= fun x => fb ρ >>= fun y => D.ix x y) := by
  obtain ⟨ta, pa, ea⟩ := ha
  obtain ⟨tb, pb, eb⟩ := hb
  exact ⟨_, pe_ix ix_seq pa pb hs, ev_bin opd_ix ea eb⟩
structure PDo (F : Str → Option V) (X : Cx) (E : XK) (e : Option Expr) (f : Env → M (Option Int)) : Prop where
  ex : ∃ t, PO X e t ∧ ∀ ρ m W σ H, Sl X.K F W ρ σ → Ok X.K F W m H → ∀ Q : Option Int → Hp → Prop, PostR X.K F ((f ρ).run m) W H (fun _ H' _ o => Q o H') E → t σ H Q
theorem pdo_none : PDo F X E none (fun _ => pure none) := ⟨_, po_none, fun ρ m W σ H s k Q h => PostR.pure k h⟩
def D.part : D → M (Option Int)
  | .int i => pure (some i)
  | _ => M.bad
theorem pdo_some (ha : PD F X E a fa) : PDo F X E (some a) (fun ρ => fa ρ >>= D.part) := by
  obtain ⟨t, p, q⟩ := ha
  refine ⟨_, po_some p, fun ρ m W σ H s k Q h => q ρ m W σ H s k _ ((PostR.bind h).imp fun W1 H1 m1 d e x1 k1 h1 v r1 => ?_)⟩
  cases r1 with
  | int i => exact ⟨i, rfl, PostR.pure k1 h1⟩
  | _ => exact h1.elim
def cut {A : Type} (xs : List A) (lo hi : Option Int) : List A := (xs.drop (HT.sIx xs.length 0 lo)).take (HT.sIx xs.length xs.length hi - HT.sIx xs.length 0 lo)
theorem rps_cut {K : PySem.W.Frag} {W : Wd} {vs : List V} {ds : List D} {lo hi : Option Int} (r : Rps K F W vs ds) : Rps K F W (cutV vs lo hi) (cut ds lo hi) := by
  show Rps K F W ((vs.drop (HT.sIx vs.length 0 lo)).take (HT.sIx vs.length vs.length hi - HT.sIx vs.length 0 lo)) _
  rw [r.length]
  exact (r.drop _).take _
def D.slice1 (lo hi : Option Int) : D → M D
  | .lst ds => pure (.lst (cut ds lo hi))
  | .frz ds => pure (.lst (cut ds lo hi))
  | .tup ds => pure (.tup (cut ds lo hi))
  | .str x => M.guard (decide (x.length ≤ sizeLine)) >>= fun _ => pure (.str (cutS x lo hi))
  | _ => M.bad
def D.slice (x : D) (lo hi : Option Int) : M D := x.now >>= D.slice1 lo hi
theorem pd_slice {lo hi : Option Expr} {p2 : Pos} {fl fh : Env → M (Option Int)} (ha : PD F X E a fa) (hl : PDo F X E lo fl) (hh : PDo F X E hi fh) :
    PD F X E (.Subscript a (.Slice lo hi none p2) pos) (fun ρ => fa ρ >>= fun x => fl ρ >>= fun l => fh ρ >>= fun u => D.slice x l u) := by
  obtain ⟨t, p, q⟩ := ha
  obtain ⟨tl, pl, ql⟩ := hl
  obtain ⟨th, ph, qh⟩ := hh
  refine ⟨_, pe_slice (SlR.or sl_list (SlR.or sl_tupA sl_str)) p pl ph, fun ρ m W σ H s k Q h => q ρ m W σ H s k _ ((PostR.bind h).imp fun W1 H1 m1 d e x1 k1 h1 v r1 => ?_)⟩
  refine ql ρ m1 W1 σ H1 (s.mono x1) k1 _ ((PostR.bind h1).imp fun W2 H2 m2 l e2 x2 k2 h2 => ?_)
  refine qh ρ m2 W2 σ H2 ((s.mono x1).mono x2) k2 _ ((PostR.bind h2).imp fun W3 H3 m3 u e3 x3 k3 h3 => ?_)
  have r3 := (r1.mono x2).mono x3
  unfold D.slice at h3
  obtain ⟨d', r3, h3⟩ := now_ok k3 r3 h3
  cases d' with
  | lst ds =>
    obtain ⟨p, vs, rfl, h4, r4⟩ := r3
    exact .inl ⟨p, vs, rfl, .inl (.inl h4), fun p hp => new_ok k3 h3 hp (rp_lst k3 hp (rps_cut r4))⟩
  | frz ds =>
    cases r3 with
    | @frz p vs _ h4 r4 => exact .inl ⟨p, vs, rfl, sql_mono k3.gh h4, fun p hp => new_ok k3 h3 hp (rp_lst k3 hp (rps_cut r4))⟩
  | tup ds =>
    cases r3 with
    | @tup p vs _ h4 r4 =>
      refine .inr (.inl ⟨p, vs, rfl, sqt_mono k3.gh h4, fun w => ?_, fun w p hp => new_ok k3 h3 hp (rp_tup k3 hp (rps_cut r4))⟩)
      have e5 : cut ds l u = ds := by
        unfold cut
        rw [← r4.length, w.1, w.2]
        simp [r4.length]
      rw [show D.slice1 l u (.tup ds) = pure (.tup (cut ds l u)) from rfl, e5] at h3
      exact PostR.pure k3 h3 _ (.tup h4 r4)
  | str x =>
    cases r3
    obtain ⟨g, h3⟩ := gd (A := D) h3
    exact .inr (.inr ⟨x, rfl, of_decide_eq_true g, PostR.pure k3 h3 _ (.str _)⟩)
  | _ => exact h3.elim
def ClD (K : PySem.W.Frag) (F : Str → Option V) (E : XK) (r : List V → Hp → VK → Prop) (g : List D → M D) : Prop := ∀ vs ds m W H Q, Rps K F W vs ds → Ok K F W m H → PostE K F ((g ds).run m) W H Q E → r vs H Q
theorem ev_cb {K : PySem.W.Frag} {r : List V → Hp → VK → Prop} {g : List D → M D} {t : TA} {f : Env → M (List D)} (hr : ClD K F E r g) (h : EvA K F E t f) : EvE K F E (tCB r t) (fun ρ => f ρ >>= g) := fun ρ m W σ H s k Q q =>
  h ρ m W σ H s k _ ((PostR.bind q).imp fun W1 H1 m1 d e x1 k1 h1 v r1 => hr v d m1 W1 H1 Q r1 k1 h1)
theorem pd_callB {x : Str} {p : Pos} {es : List Expr} {id : String} {r : List V → Hp → VK → Prop} {g : List D → M D} {f : Env → M (List D)} (hc : CallR X (.builtin id) r) (hr : ClD X.K F E r g) (hg : Gl X x) (hm : X.mg x = none) (hv : bootBuiltins x = some (.builtin id))
    (ha : PDa F X E (e :: es) f) (hn : x ≠ "__name__" := by decide) (hdb : (x == ("__debug__" : Str)) = false := by decide)
    (he : starEach (e :: es) X.env = (false, eval e X.env) :: starEach es X.env := by rfl) (hpl : (backTo pos (starEach es X.env)).any (·.1) = false := by rfl) : PD F X E (.Call (.Name x p) (e :: es) [] pos) (fun ρ => f ρ >>= g) := by
  obtain ⟨t, p, q⟩ := ha
  exact ⟨_, pe_callB hc hg hm hv p hn hdb he hpl, ev_cb hr q⟩
theorem pd_callTy {x : Str} {p : Pos} {es : List Expr} {T : String} {r : List V → Hp → VK → Prop} {g : List D → M D} {f : Env → M (List D)} (hc : CallR X (.type T) r) (hr : ClD X.K F E r g) (hg : Gl X x) (hm : X.mg x = none) (hv : bootBuiltins x = some (.type T))
    (ha : PDa F X E (e :: es) f) (hn : x ≠ "__name__" := by decide) (hdb : (x == ("__debug__" : Str)) = false := by decide)
    (he : starEach (e :: es) X.env = (false, eval e X.env) :: starEach es X.env := by rfl) (hpl : (backTo pos (starEach es X.env)).any (·.1) = false := by rfl) : PD F X E (.Call (.Name x p) (e :: es) [] pos) (fun ρ => f ρ >>= g) := by
  obtain ⟨t, p, q⟩ := ha
  exact ⟨_, pe_callTy hc hg hm hv p hn hdb he hpl, ev_cb hr q⟩
def d1 (g : D → M D) : List D → M D
  | [x] => g x
  | _ => M.bad
theorem cl1 {K : PySem.W.Frag} {r : List V → Hp → VK → Prop} {g : D → M D} (h : ∀ v d m W H Q, Rp K F W v d → Ok K F W m H → PostE K F ((g d).run m) W H Q E → r [v] H Q) : ClD K F E r (d1 g) := fun vs ds m W H Q r k q => by
  cases r with
  | nil => exact q.elim
  | cons r1 r2 =>
    cases r2 with
    | nil => exact h _ _ m W H Q r1 k q
    | cons _ _ => exact q.elim
def d2 (g : D → D → M D) : List D → M D
  | [x, y] => g x y
  | _ => M.bad
theorem cl2 {K : PySem.W.Frag} {r : List V → Hp → VK → Prop} {g : D → D → M D} (h : ∀ v u d e m W H Q, Rp K F W v d → Rp K F W u e → Ok K F W m H → PostE K F ((g d e).run m) W H Q E → r [v, u] H Q) : ClD K F E r (d2 g) := fun vs ds m W H Q r k q => by
  cases r with
  | nil => exact q.elim
  | cons r1 r2 =>
    cases r2 with
    | nil => exact q.elim
    | cons r2 r3 =>
      cases r3 with
      | nil => exact h _ _ _ _ m W H Q r1 r2 k q
      | cons _ _ => exact q.elim
def D.len1 : D → M D
  | .str x => M.guard (decide (x.length ≤ sizeLine)) >>= fun _ => pure (.int x.length)
  | .lst ds => pure (.int ds.length)
  | .frz ds => pure (.int ds.length)
  | .tup ds => pure (.int ds.length)
  | _ => M.bad
def D.len (x : D) : M D := x.now >>= D.len1
theorem cl_len {K : PySem.W.Frag} : ClD K F E (fun xs H Q => ∃ x n, xs = [x] ∧ LenV K x H n ∧ Q (.int n) H) (d1 D.len) := cl1 fun v d0 m W H Q rx k h => by
  unfold D.len at h
  obtain ⟨d, rx, h⟩ := now_ok k rx h
  cases d with
  | str x =>
    cases rx
    obtain ⟨g, h⟩ := gd (A := D) h
    exact ⟨_, x.length, rfl, ⟨of_decide_eq_true g, rfl⟩, PostR.pure k h _ (.int _)⟩
  | lst ds =>
    obtain ⟨p, vs, rfl, h1, r1⟩ := rx
    exact ⟨_, ds.length, rfl, .inl ⟨vs, .inl (.inl h1), r1.length.symm⟩, PostR.pure k h _ (.int _)⟩
  | frz ds =>
    cases rx with
    | frz h1 r1 => exact ⟨_, ds.length, rfl, .inl ⟨_, sql_mono k.gh h1, r1.length.symm⟩, PostR.pure k h _ (.int _)⟩
  | tup ds =>
    cases rx with
    | tup h1 r1 => exact ⟨_, ds.length, rfl, .inr ⟨_, sqt_mono k.gh h1, r1.length.symm⟩, PostR.pure k h _ (.int _)⟩
  | _ => exact h.elim
theorem pd_len {p : Pos} (hg : Gl X "len") (hm : X.mg "len" = none) (ha : PD F X E a fa) (hs : starEach [a] X.env = (false, eval a X.env) :: starEach [] X.env := by rfl) (hpl : (backTo pos (starEach [] X.env)).any (·.1) = false := by rfl) :
    PD F X E (.Call (.Name "len" p) [a] [] pos) (fun ρ => (fa ρ >>= fun x => (pure [] : M (List D)) >>= fun xs => pure (x :: xs)) >>= d1 D.len) := pd_callB call_len cl_len hg hm PySem.boot_len (pda_cons ha pda_nil hs) (by decide) (by decide) hs hpl
def D.bls : List D → Option (List Bool)
  | [] => some []
  | .bl b :: r => (D.bls r).map (b :: ·)
  | _ :: _ => none
theorem bls_ok {K : PySem.W.Frag} {W : Wd} : ∀ {ds : List D} {vs : List V} {bs : List Bool}, Rps K F W vs ds → D.bls ds = some bs → vs = bs.map V.bl
  | [], _, _, .nil, e => by cases e; rfl
  | .bl b :: r, _, bs, .cons h t, e => by
    cases h
    simp only [D.bls, Option.map_eq_some_iff] at e
    obtain ⟨c, e, rfl⟩ := e
    rw [List.map_cons, bls_ok t e]
  | .non :: _, _, _, _, e | .int _ :: _, _, _, _, e | .str _ :: _, _, _, _, e | .tup _ :: _, _, _, _, e | .lst _ :: _, _, _, _, e | .frz _ :: _, _, _, _, e | .hnd _ :: _, _, _, _, e | .nam _ :: _, _, _, _, e => by cases e
def D.all (x : D) : M D := x.now >>= fun x => match x with
  | .lst ds => M.opt ((D.bls ds).map fun bs => .bl (bs.all id))
  | _ => M.bad
def D.any (x : D) : M D := x.now >>= fun x => match x with
  | .lst ds => M.opt ((D.bls ds).map fun bs => .bl (bs.any id))
  | _ => M.bad
theorem cl_all {K : PySem.W.Frag} : ClD K F E (rAll K) (d1 D.all) := cl1 fun v d0 m W H Q rx k h => by
  unfold D.all at h
  obtain ⟨d, rx, h⟩ := now_ok k rx h
  cases d with
  | lst ds =>
    obtain ⟨p, vs, rfl, h1, r1⟩ := rx
    obtain ⟨z, e1, h⟩ := opt_ok (B := D) h
    obtain ⟨bs, e2, rfl⟩ := Option.map_eq_some_iff.mp e1
    exact ⟨p, bs, rfl, .inl (.inl (by rw [h1, bls_ok r1 e2])), PostR.ok k h _ (.bl _)⟩
  | _ => exact h.elim
theorem cl_any {K : PySem.W.Frag} : ClD K F E (rAny K) (d1 D.any) := cl1 fun v d0 m W H Q rx k h => by
  unfold D.any at h
  obtain ⟨d, rx, h⟩ := now_ok k rx h
  cases d with
  | lst ds =>
    obtain ⟨p, vs, rfl, h1, r1⟩ := rx
    obtain ⟨z, e1, h⟩ := opt_ok (B := D) h
    obtain ⟨bs, e2, rfl⟩ := Option.map_eq_some_iff.mp e1
    exact ⟨p, bs, rfl, .inl (.inl (by rw [h1, bls_ok r1 e2])), PostR.ok k h _ (.bl _)⟩
  | _ => exact h.elim
def D.tuple (x : D) : M D := x.now >>= fun x => match x with
  | .lst ds => pure (.tup ds)
  | .frz ds => pure (.tup ds)
  | .tup ds => pure (.tup ds)
  | _ => M.bad
theorem cl_tuple {K : PySem.W.Frag} : ClD K F E (fun xs H Q => ∃ p ys, xs = [.ref p] ∧ ((SqL K H p ys ∧ ∀ l, H l = none → Q (.ref l) (upd H l (.tup ys))) ∨ (SqT K H p ys ∧ Q (.ref p) H))) (d1 D.tuple) := cl1 fun v d0 m W H Q rx k h => by
  unfold D.tuple at h
  obtain ⟨d, rx, h⟩ := now_ok k rx h
  cases d with
  | lst ds =>
    obtain ⟨p, vs, rfl, h1, r1⟩ := rx
    exact ⟨p, vs, rfl, .inl ⟨.inl (.inl h1), fun l hl => new_ok k h hl (rp_tup k hl r1)⟩⟩
  | frz ds =>
    cases rx with
    | @frz p vs _ h1 r1 => exact ⟨p, vs, rfl, .inl ⟨sql_mono k.gh h1, fun l hl => new_ok k h hl (rp_tup k hl r1)⟩⟩
  | tup ds =>
    cases rx with
    | @tup p vs _ h1 r1 => exact ⟨p, vs, rfl, .inr ⟨sqt_mono k.gh h1, PostR.pure k h _ (.tup h1 r1)⟩⟩
  | _ => exact h.elim
def D.list (x : D) : M D := x.now >>= fun x => match x with
  | .lst ds => pure (.lst ds)
  | .frz ds => pure (.lst ds)
  | .tup ds => pure (.lst ds)
  | _ => M.bad
theorem cl_list {K : PySem.W.Frag} : ClD K F E (fun xs H Q => ∃ p ys, xs = [.ref p] ∧ (SqL K H p ys ∨ SqT K H p ys) ∧ ∀ l, H l = none → Q (.ref l) (upd H l (.lst ys))) (d1 D.list) := cl1 fun v d0 m W H Q rx k h => by
  unfold D.list at h
  obtain ⟨d, rx, h⟩ := now_ok k rx h
  cases d with
  | lst ds =>
    obtain ⟨p, vs, rfl, h1, r1⟩ := rx
    exact ⟨p, vs, rfl, .inl (.inl (.inl h1)), fun l hl => new_ok k h hl (rp_lst k hl r1)⟩
  | frz ds =>
    cases rx with
    | @frz p vs _ h1 r1 => exact ⟨p, vs, rfl, .inl (sql_mono k.gh h1), fun l hl => new_ok k h hl (rp_lst k hl r1)⟩
  | tup ds =>
    cases rx with
    | @tup p vs _ h1 r1 => exact ⟨p, vs, rfl, .inr (sqt_mono k.gh h1), fun l hl => new_ok k h hl (rp_lst k hl r1)⟩
  | _ => exact h.elim
def D.abs : D → M D
  | .int i => pure (.int (if i < 0 then -i else i))
  | _ => M.bad
theorem cl_abs {K : PySem.W.Frag} : ClD K F E (fun xs H Q => ∃ i, xs = [.int i] ∧ Q (.int (if i < 0 then -i else i)) H) (d1 D.abs) := cl1 fun v d m W H Q rx k h => by
  cases rx with
  | int i => exact ⟨i, rfl, PostR.pure k h _ (.int _)⟩
  | _ => exact h.elim
def D.toInt : D → M D
  | .int i => pure (.int i)
  | .bl b => pure (.int (if b then 1 else 0))
  | _ => M.bad
theorem cl_int {K : PySem.W.Frag} : ClD K F E (fun xs H Q => (∃ i, xs = [.int i] ∧ Q (.int i) H) ∨ ∃ k, xs = [.bl k] ∧ Q (.int (if k then 1 else 0)) H) (d1 D.toInt) := cl1 fun v d m W H Q rx k h => by
  cases rx with
  | int i => exact .inl ⟨i, rfl, PostR.pure k h _ (.int _)⟩
  | bl i => exact .inr ⟨i, rfl, PostR.pure k h _ (.int _)⟩
  | _ => exact h.elim
def D.strOf : D → M D
  | .int i => M.guard (decide (i.natAbs.log2 < 1920)) >>= fun _ => pure (.str (toString i))
  | _ => M.bad
theorem cl_str {K : PySem.W.Frag} : ClD K F E (fun xs H Q => ∃ i, xs = [.int i] ∧ i.natAbs.log2 < 1920 ∧ Q (.str (toString i)) H) (d1 D.strOf) := cl1 fun v d m W H Q rx k h => by
  cases rx with
  | int i =>
    obtain ⟨g, h⟩ := gd (A := D) h
    exact ⟨i, rfl, of_decide_eq_true g, PostR.pure k h _ (.str _)⟩
  | _ => exact h.elim
def D.max2 : D → D → M D
  | .int i, .int j => pure (.int (if j > i then j else i))
  | _, _ => M.bad
def D.min2 : D → D → M D
  | .int i, .int j => pure (.int (if j < i then j else i))
  | _, _ => M.bad
theorem cl_max2 {K : PySem.W.Frag} : ClD K F E (fun xs H Q => ∃ i j, xs = [.int i, .int j] ∧ Q (.int (if j > i then j else i)) H) (d2 D.max2) := cl2 fun v u d e m W H Q rx ry k h => by
  cases rx with
  | int i =>
    cases ry with
    | int j => exact ⟨i, j, rfl, PostR.pure k h _ (.int _)⟩
    | _ => exact h.elim
  | _ => exact h.elim
theorem cl_min2 {K : PySem.W.Frag} : ClD K F E (fun xs H Q => ∃ i j, xs = [.int i, .int j] ∧ Q (.int (if j < i then j else i)) H) (d2 D.min2) := cl2 fun v u d e m W H Q rx ry k h => by
  cases rx with
  | int i =>
    cases ry with
    | int j => exact ⟨i, j, rfl, PostR.pure k h _ (.int _)⟩
    | _ => exact h.elim
  | _ => exact h.elim
end
end Mir
set_option maxRecDepth 100000
namespace Mir
open PySem L2
open PyProof.Rows (b2i)
theorem PostR.bind0 {A B : Type} {K : PySem.W.Frag} {F : Str → Option V} {x : M A} {f : A → M B} {m : Mu} {W W' : Wd} {H H' : Hp} {Q : Wd → Hp → Mu → B → Prop} {E : XK} (h : PostR K F ((x >>= f).run m) W H Q E) (e : Ext W H W' H') :
    PostR K F (x.run m) W' H' (fun _ _ m' a => PostR K F ((f a).run m') W H Q E) E := by
  rw [bind_run] at h
  cases q : x.run m with
  | bad => rw [q] at h; exact h
  | ok a m1 => rw [q] at h; exact fun _ _ _ _ => h
  | exc c m1 => rw [q] at h; exact fun W2 H2 c dd y => h W2 H2 c dd (e.trans y)
def Rs.noexc {A : Type} : Rs A → Rs A
  | .exc _ _ => .bad
  | r => r
def M.noexc {A : Type} (x : M A) : M A := ⟨fun m => (x.run m).noexc⟩
theorem PostR.noexc {A : Type} {K : PySem.W.Frag} {F : Str → Option V} {x : M A} {m : Mu} {W : Wd} {H : Hp} {Q : Wd → Hp → Mu → A → Prop} {E E' : XK} (h : PostR K F ((M.noexc x).run m) W H Q E) : PostR K F (x.run m) W H Q E' := by
  unfold M.noexc at h
  cases e : x.run m with
  | bad => simp only [e] at h; exact h.elim
  | ok a m1 => simp only [e] at h; exact h
  | exc c m1 => simp only [e] at h; exact h.elim
@[simp] theorem noexc_pure {A : Type} (a : A) : M.noexc (pure a : M A) = pure a := rfl
@[simp] theorem noexc_bind {A B : Type} (x : M A) (f : A → M B) : M.noexc (x >>= f) = (M.noexc x >>= fun a => M.noexc (f a)) := by
  refine M.ext fun m => ?_
  show (((x.run m).then f).noexc) = ((x.run m).noexc).then fun a => M.noexc (f a)
  cases x.run m <;> rfl
section
variable {F : Str → Option V} {X : Cx} {E : XK} {pos : Pos} {a b e : Expr} {rest : List Expr} {fa fb fc : Env → M D} {ga gb : Env → M Bool}
def D.flat : D → Bool
  | .non => true
  | .bl _ => true
  | .int _ => true
  | .str _ => true
  | _ => false
def D.feq : D → D → Bool
  | .non, .non => true
  | .bl a, .bl b => a == b
  | .bl a, .int b => (if a then 1 else 0) == b
  | .int a, .bl b => a == (if b then 1 else 0)
  | .int a, .int b => a == b
  | .str a, .str b => a == b
  | _, _ => false
theorem flat_ok {K : PySem.W.Frag} {W : Wd} {v : V} {d : D} (r : Rp K F W v d) (h : d.flat = true) : flatV v = true := by
  cases r <;> first | rfl | cases h
theorem feq_ok {K : PySem.W.Frag} {W : Wd} {v u : V} {d e : D} (r : Rp K F W v d) (q : Rp K F W u e) (h : d.flat = true) (h' : e.flat = true) : eqV v u = d.feq e := by
  cases r <;> first | (cases h; done) | (cases q <;> first | (cases h'; done) | rfl)
theorem flats_ok {K : PySem.W.Frag} {W : Wd} : ∀ {vs : List V} {ds : List D}, Rps K F W vs ds → ds.all D.flat = true → vs.all flatV = true
  | _, _, .nil, _ => rfl
  | _, _, .cons r t, h => by
    rw [List.all_cons, Bool.and_eq_true] at h
    rw [List.all_cons, flat_ok r h.1, flats_ok t h.2]
    rfl
theorem inV_ok {K : PySem.W.Frag} {W : Wd} {x : V} {dx : D} (r : Rp K F W x dx) (f : dx.flat = true) : ∀ {vs : List V} {ds : List D}, Rps K F W vs ds → ds.all D.flat = true → inV x vs = ds.any fun y => y.feq dx
  | _, _, .nil, _ => rfl
  | _, _, .cons q t, h => by
    rw [List.all_cons, Bool.and_eq_true] at h
    show (eqV _ x || inV x _) = _
    rw [feq_ok q r h.1 f, inV_ok r f t h.2]
    rfl
def strIn (a b : Str) : Bool := !(Builtin.Str.occurrences b a 0 b.length 1).isEmpty
def D.inSeq (neg : Bool) (x : D) (ds : List D) : M D := M.guard (x.flat && ds.all D.flat) >>= fun _ => pure (.bl (if neg = true then !(ds.any fun y => y.feq x) else ds.any fun y => y.feq x))
def D.inDeep (neg : Bool) (x : D) (ds : List D) : M D := match x.py, D.pys ds with
  | some p, some ps => M.guard (SeqAt.shaped p && SeqAt.shaped (.list ps)) >>= fun _ => pure (.bl (if neg = true then !(ps.any fun z => PyData.eqv z p) else ps.any fun z => PyData.eqv z p))
  | _, _ => M.bad
def D.isIn1 (neg : Bool) (x : D) : D → M D
  | .str b => match x with
    | .str a => pure (.bl (if neg = true then !(strIn a b) else strIn a b))
    | _ => M.bad
  | .lst ds => if (x.flat && ds.all D.flat) = true then D.inSeq neg x ds else D.inDeep neg x ds
  | .frz ds => D.inSeq neg x ds
  | .tup ds => D.inSeq neg x ds
  | _ => M.bad
def D.isIn (x y : D) : M D := y.now >>= D.isIn1 false x
def D.notIn (x y : D) : M D := y.now >>= D.isIn1 true x
def rInA (K : PySem.W.Frag) (neg : Bool) : R2 := fun x y H Q => ((∃ i j, x = .str i ∧ y = .str j ∧ Q (.bl (if neg = true then !(strIn i j) else strIn i j)) H) ∨ rIn K neg x y H Q) ∨
  ∃ d ds, Dp K H x d ∧ Dp K H y (.list ds) ∧ SeqAt.shaped d = true ∧ SeqAt.shaped (.list ds) = true ∧ Q (.bl (if neg = true then !(ds.any fun z => PyData.eqv z d) else ds.any fun z => PyData.eqv z d)) H
theorem op_inA (hu : X.A.units + 65 < cLine) : OpR X (compareOp .In) (rInA X.K false) := op_or2 (op_or2 op_in_str op_in_seq) (op_inD hu)
theorem op_notInA (hu : X.A.units + 65 < cLine) : OpR X (compareOp .NotIn) (rInA X.K true) := op_or2 (op_or2 op_notIn_str op_notIn_seq) (op_notInD hu)
theorem opd_inA {K : PySem.W.Frag} {neg : Bool} : OpD K F E (rInA K neg) (fun x y => y.now >>= D.isIn1 neg x) := fun x y d e0 m W H Q rx ry k h => by
  obtain ⟨e, ry, h⟩ := now_ok k ry h
  have seq : ∀ (p : Addr) (vs : List V) (ds : List D), (SqL K H p vs ∨ SqT K H p vs) → Rps K F W vs ds → PostE K F ((D.inSeq neg d ds).run m) W H Q E → rIn K neg x (.ref p) H Q := fun p vs ds hq r1 h => by
    obtain ⟨g, h⟩ := gd (A := D) h
    rw [Bool.and_eq_true] at g
    refine ⟨p, vs, rfl, hq, flat_ok rx g.1, flats_ok r1 g.2, ?_⟩
    rw [inV_ok rx g.1 r1 g.2]
    exact PostR.pure k h _ (.bl _)
  cases e with
  | str b =>
    cases ry
    cases rx with
    | str i => exact .inl (.inl ⟨i, b, rfl, rfl, PostR.pure k h _ (.bl _)⟩)
    | _ => exact h.elim
  | lst ds =>
    obtain ⟨p, vs, rfl, h1, r1⟩ := ry
    by_cases c : (d.flat && ds.all D.flat) = true
    · simp only [D.isIn1, if_pos c] at h
      exact .inl (.inr (seq p vs ds (.inl (.inl (.inl h1))) r1 h))
    · simp only [D.isIn1, if_neg c] at h
      unfold D.inDeep at h
      cases e1 : d.py with
      | none => rw [e1] at h; exact h.elim
      | some q =>
        cases e2 : D.pys ds with
        | none => rw [e1, e2] at h; exact h.elim
        | some qs =>
          rw [e1, e2] at h
          obtain ⟨g, h⟩ := gd (A := D) h
          rw [Bool.and_eq_true] at g
          exact .inr ⟨q, qs, dp_of k d x q rx e1, .lst (.inl (.inl h1)) (dps_of k ds vs qs r1 e2), g.1, g.2, PostR.pure k h _ (.bl _)⟩
  | frz ds =>
    cases ry with
    | @frz p vs _ h1 r1 => exact .inl (.inr (seq p vs ds (.inl (sql_mono k.gh h1)) r1 h))
  | tup ds =>
    cases ry with
    | @tup p vs _ h1 r1 => exact .inl (.inr (seq p vs ds (.inr (sqt_mono k.gh h1)) r1 h))
  | _ => exact h.elim
def D.kind : D → Option String
  | .non => some "NoneType"
  | .bl _ => some "bool"
  | .int _ => some "int"
  | .str _ => some "str"
  | .lst _ => some "list"
  | .frz _ => some "list"
  | .tup _ => some "tuple"
  | _ => none
def D.isT (T : String) (x : D) : M D := x.now >>= fun x => M.opt ((x.kind.bind fun t => kitB t T).map .bl)
theorem kind_ok {K : PySem.W.Frag} {W : Wd} {H : Hp} {m : Mu} {v : V} {d : D} {t : String} (k : Ok K F W m H) (r : Rn K F W H v d) (h : d.kind = some t) : TyX K H v (.type t) := by
  have seqL : ∀ {p : Addr} {vs : List V}, SqL K H p vs → TyX K H (.ref p) (.type "list") := fun {p vs} h => by
    rcases h with (h | ⟨o, h⟩) | ⟨o, its, n, lk, c, _⟩
    · exact .base (.lst h)
    · exact .base (.frz h)
    · exact .kList lk c
  have seqT : ∀ {p : Addr} {vs : List V}, SqT K H p vs → TyX K H (.ref p) (.type "tuple") := fun {p vs} h => by
    rcases h with (h | ⟨o, h⟩) | ⟨o, its, n, lk, c, _⟩
    · exact .base (.tup h)
    · exact .fTuple h
    · exact .kTuple lk c
  cases d with
  | non => cases h; cases r; exact .base .non
  | bl b => cases h; cases r; exact .base (.bl b)
  | int b => cases h; cases r; exact .base (.int b)
  | str b => cases h; cases r; exact .base (.str b)
  | lst ds =>
    cases h
    obtain ⟨p, vs, rfl, h1, _⟩ := r
    exact .base (.lst h1)
  | frz ds =>
    cases h
    cases r with
    | frz h1 _ => exact seqL (sql_mono k.gh h1)
  | tup ds =>
    cases h
    cases r with
    | tup h1 _ => exact seqT (sqt_mono k.gh h1)
  | hnd _ => cases h
  | nam _ => cases h
theorem pd_isi {x : Str} {p q : Pos} {T : String} (hg : Gl X "isinstance") (hm : X.mg "isinstance" = none) (hg' : Gl X x) (hm' : X.mg x = none) (hv : bootBuiltins x = some (.type T)) (ha : PD F X E a fa) (hn : x ≠ "__name__" := by decide) (hdb : (x == ("__debug__" : Str)) = false := by decide)
    (he : starEach (a :: [.Name x q]) X.env = (false, eval a X.env) :: starEach [.Name x q] X.env := by rfl) (he2 : starEach (.Name x q :: []) X.env = (false, eval (.Name x q) X.env) :: starEach [] X.env := by rfl)
    (hpl : (backTo pos (starEach [.Name x q] X.env)).any (·.1) = false := by rfl) : PD F X E (.Call (.Name "isinstance" p) [a, .Name x q] [] pos) (fun ρ => fa ρ >>= D.isT T) := by
  obtain ⟨t, p1, q1⟩ := ha
  refine ⟨_, pe_callB call_isi hg hm (by decide +kernel) (pa_cons p1 (pa_cons (pe_bltn (v := .ty T) hg' hm' hv rfl hn hdb) pa_nil he2) he) (by decide) (by decide) he hpl, fun ρ m W σ H s k Q h => ?_⟩
  refine q1 ρ m W σ H s k _ ((PostR.bind h).imp fun W1 H1 m1 d e x1 k1 h1 v r1 => ?_)
  unfold D.isT at h1
  obtain ⟨d', r1, h1⟩ := now_ok k1 r1 h1
  obtain ⟨z, e1, h1⟩ := opt_ok (B := D) h1
  obtain ⟨c, e2, rfl⟩ := Option.map_eq_some_iff.mp e1
  obtain ⟨t, e3, e4⟩ := Option.bind_eq_some_iff.mp e2
  exact ⟨v, .ty T, .type t, .type T, c, rfl, .ty T, kind_ok k1 r1 e3, kit_ty e4, PostR.ok k1 h1 _ (.bl _)⟩
structure PDj (F : Str → Option V) (X : Cx) (E : XK) (es : List Expr) (f : Env → Str → M Str) : Prop where
  ex : ∃ ts, PJ X es ts ∧ ∀ ρ acc m W σ H, Sl X.K F W ρ σ → Ok X.K F W m H → ∀ Q : Str → Hp → Prop, PostR X.K F ((f ρ acc).run m) W H (fun _ H' _ o => Q o H') E → tJs ts acc σ H Q
theorem pdj_nil : PDj F X E [] (fun _ acc => pure acc) := ⟨[], .nil, fun ρ acc m W σ H s k Q h => PostR.pure k h⟩
def D.onto (acc : Str) : D → M Str
  | .str y => M.guard (decide ((acc ++ y).length ≤ sizeLine)) >>= fun _ => pure (acc ++ y)
  | _ => M.bad
theorem pdj_cons {es : List Expr} {f : Env → Str → M Str} (ha : PD F X E e fa) (hr : PDj F X E es f) : PDj F X E (e :: es) (fun ρ acc => fa ρ >>= fun x => D.onto acc x >>= fun acc => f ρ acc) := by
  obtain ⟨t, p, q⟩ := ha
  obtain ⟨ts, ps, qs⟩ := hr
  refine ⟨t :: ts, .cons p ps, fun ρ acc m W σ H s k Q h => ?_⟩
  refine q ρ m W σ H s k _ ((PostR.bind h).imp fun W1 H1 m1 d e x1 k1 h1 v r1 => ?_)
  cases r1 with
  | str y =>
    have h1 : PostR X.K F ((M.guard (decide ((acc ++ y).length ≤ sizeLine)) >>= fun _ => f ρ (acc ++ y)).run m1) W1 H1 (fun _ H' _ o => Q o H') E := by
      rw [show D.onto acc (.str y) = (M.guard (decide ((acc ++ y).length ≤ sizeLine)) >>= fun _ => pure (acc ++ y)) from rfl, bind_assoc'] at h1
      exact h1
    obtain ⟨g, h1⟩ := gd (A := D) h1
    exact ⟨y, rfl, of_decide_eq_true g, qs ρ _ m1 W1 σ H1 (s.mono x1) k1 Q h1⟩
  | _ => exact h1.elim
def D.fmt : D → M D
  | .str y => M.guard (decide (y.length ≤ sizeLine)) >>= fun _ => pure (.str y)
  | .int i => M.guard (decide (i.natAbs.log2 < 1920)) >>= fun _ => pure (.str (toString i))
  | _ => M.bad
theorem pd_fmt (ha : PD F X E e fa) : PD F X E (.FormattedValue e (-1) none pos) (fun ρ => fa ρ >>= D.fmt) := by
  obtain ⟨t, p, q⟩ := ha
  refine ⟨_, pe_fmt p, fun ρ m W σ H s k Q h => q ρ m W σ H s k _ ((PostR.bind h).imp fun W1 H1 m1 d e x1 k1 h1 v r1 => ?_)⟩
  cases r1 with
  | str y =>
    obtain ⟨g, h1⟩ := gd (A := D) h1
    exact .inl ⟨y, rfl, of_decide_eq_true g, PostR.pure k1 h1 _ (.str _)⟩
  | int y =>
    obtain ⟨g, h1⟩ := gd (A := D) h1
    exact .inr ⟨y, rfl, of_decide_eq_true g, PostR.pure k1 h1 _ (.str _)⟩
  | _ => exact h1.elim
theorem pd_joined {v1 v2 : Expr} {f : Env → Str → M Str} (h : PDj F X E (v1 :: v2 :: rest) f) : PD F X E (.JoinedStr (v1 :: v2 :: rest) pos) (fun ρ => f ρ Str.empty >>= fun x => pure (.str x)) := by
  obtain ⟨ts, ps, qs⟩ := h
  exact ⟨_, pe_joined ps, fun ρ m W σ H s k Q h => qs ρ _ m W σ H s k _ ((PostR.bind h).imp fun W1 H1 m1 d e x1 k1 h1 => PostR.pure k1 h1 _ (.str _))⟩
theorem pd_joined1 (h : PD F X E e fa) : PD F X E (.JoinedStr [e] pos) fa := by
  obtain ⟨t, p, q⟩ := h
  exact ⟨_, pe_joined1 p, q⟩
def D.text : D → M Str
  | .str a => pure a
  | _ => M.bad
theorem text_ok {A : Type} {K : PySem.W.Frag} {W : Wd} {H : Hp} {m : Mu} {v : V} {d : D} {f : Str → M A} {Q : Wd → Hp → Mu → A → Prop} (r : Rp K F W v d) (h : PostR K F ((d.text >>= f).run m) W H Q E) : ∃ x, v = .str x ∧ PostR K F ((f x).run m) W H Q E := by
  cases r with
  | str x => exact ⟨x, rfl, h⟩
  | _ => exact h.elim
def MtD (K : PySem.W.Frag) (F : Str → Option V) (E : XK) (r : V → List V → Hp → VK → Prop) (g : Str → D → M D) : Prop := ∀ x u e m W H Q, Rp K F W u e → Ok K F W m H → PostE K F ((g x e).run m) W H Q E → r (.str x) [u] H Q
theorem pd_m1 {id : String} {name : Str} {apos : Pos} {r : V → List V → Hp → VK → Prop} {g : Str → D → M D} (slot : PySem.Slot "str" name id) (ty : typeOf (.builtin id) = pure (.type "method_descriptor")) (rule : MtR X id r) (hr : MtD X.K F E r g) (ha : PD F X E a fa) (hb : PD F X E b fb)
    (hs : starEach [b] X.env = [(false, eval b X.env)] := by rfl) (hbase : attributeBase a name X.env (eval a X.env) = eval a X.env := by rfl) (hline : (apos.endLine == pos.line) = true := by rfl) :
    PD F X E (.Call (.Attribute a name apos) [b] [] pos) (fun ρ => fa ρ >>= fun x => D.text x >>= fun x => fb ρ >>= fun y => g x y) := by
  obtain ⟨t, p, q⟩ := ha
  obtain ⟨t', p', q'⟩ := hb
  refine ⟨_, pe_m1 slot ty rule p p' hs hbase hline, fun ρ m W σ H s k Q h => q ρ m W σ H s k _ ((PostR.bind h).imp fun W1 H1 m1 d e x1 k1 h1 v r1 => ?_)⟩
  obtain ⟨x, rfl, h1⟩ := text_ok r1 h1
  exact ⟨⟨x, rfl⟩, q' ρ m1 W1 σ H1 (s.mono x1) k1 _ ((PostR.bind h1).imp fun W2 H2 m2 d2 e2 x2 k2 h2 v2 r2 => hr x v2 d2 m2 W2 H2 Q r2 k2 h2)⟩
def D.startswith (a : Str) : D → M D
  | .str b => pure (.bl (Txt.startswith a b))
  | _ => M.bad
theorem mt_d_startswith {K : PySem.W.Frag} : MtD K F E (fun x xs H Q => ∃ a b, x = .str a ∧ xs = [.str b] ∧ Q (.bl (Txt.startswith a b)) H) D.startswith := fun x u e m W H Q r k h => by
  cases r with
  | str y => exact ⟨x, y, rfl, rfl, PostR.pure k h _ (.bl _)⟩
  | _ => exact h.elim
def D.texts : List D → Option (List Str)
  | [] => some []
  | .str b :: r => (D.texts r).map (b :: ·)
  | _ :: _ => none
theorem texts_ok {K : PySem.W.Frag} {W : Wd} : ∀ {ds : List D} {vs : List V} {bs : List Str}, Rps K F W vs ds → D.texts ds = some bs → vs = bs.map V.str
  | [], _, _, .nil, e => by cases e; rfl
  | .str b :: r, _, bs, .cons h t, e => by
    cases h
    simp only [D.texts, Option.map_eq_some_iff] at e
    obtain ⟨c, e, rfl⟩ := e
    rw [List.map_cons, texts_ok t e]
  | .non :: _, _, _, _, e | .int _ :: _, _, _, _, e | .bl _ :: _, _, _, _, e | .tup _ :: _, _, _, _, e | .lst _ :: _, _, _, _, e | .frz _ :: _, _, _, _, e | .hnd _ :: _, _, _, _, e | .nam _ :: _, _, _, _, e => by cases e
def D.join2 (a : Str) (ds : List D) : M D := M.opt (D.texts ds) >>= fun ys => M.guard (decide ((ys.map (·.length)).sum + ys.length * a.length ≤ 16777216)) >>= fun _ => pure (.str (Txt.join a ys))
def D.join1 (a : Str) : D → M D
  | .lst ds => D.join2 a ds
  | .tup ds => D.join2 a ds
  | _ => M.bad
def D.join (a : Str) (y : D) : M D := y.now >>= D.join1 a
theorem mt_d_join {K : PySem.W.Frag} : MtD K F E (fun x xs H Q => ∃ a p, ∃ ys : List Str, x = .str a ∧ xs = [.ref p] ∧ (SqL K H p (ys.map V.str) ∨ SqT K H p (ys.map V.str)) ∧
    (ys.map (·.length)).sum + ys.length * a.length ≤ 16777216 ∧ Q (.str (Txt.join a ys)) H) D.join := fun x u e0 m W H Q r k h => by
  unfold D.join at h
  obtain ⟨e, r, h⟩ := now_ok k r h
  have fin : ∀ (p : Addr) (vs : List V) (ds : List D), (SqL K H p vs ∨ SqT K H p vs) → Rps K F W vs ds → PostE K F ((D.join2 x ds).run m) W H Q E → ∃ a q, ∃ ys : List Str, V.str x = .str a ∧ [V.ref p] = [.ref q] ∧ (SqL K H q (ys.map V.str) ∨ SqT K H q (ys.map V.str)) ∧
    (ys.map (·.length)).sum + ys.length * a.length ≤ 16777216 ∧ Q (.str (Txt.join a ys)) H := fun p vs ds hq r1 h => by
    unfold D.join2 at h
    cases e1 : D.texts ds with
    | none => rw [e1] at h; exact h.elim
    | some ys =>
      rw [e1] at h
      obtain ⟨g, h⟩ := gd (A := D) h
      rw [texts_ok r1 e1] at hq
      exact ⟨x, p, ys, rfl, rfl, hq, of_decide_eq_true g, PostR.pure k h _ (.str _)⟩
  cases e with
  | lst ds =>
    obtain ⟨p, vs, rfl, h1, r1⟩ := r
    exact fin p vs ds (.inl (.inl (.inl h1))) r1 h
  | tup ds =>
    cases r with
    | @tup p vs _ h1 r1 => exact fin p vs ds (.inr (sqt_mono k.gh h1)) r1 h
  | _ => exact h.elim
theorem pd_join {apos : Pos} (ha : PD F X E a fa) (hb : PD F X E b fb) (hs : starEach [b] X.env = [(false, eval b X.env)] := by rfl) (hbase : attributeBase a "join" X.env (eval a X.env) = eval a X.env := by rfl) (hline : (apos.endLine == pos.line) = true := by rfl) :
    PD F X E (.Call (.Attribute a "join" apos) [b] [] pos) (fun ρ => fa ρ >>= fun x => D.text x >>= fun x => fb ρ >>= fun y => D.join x y) := pd_m1 PySem.F.slot_str_join PySem.F.type_str_join mt_join mt_d_join ha hb hs hbase hline
theorem pd_startswith {apos : Pos} (ha : PD F X E a fa) (hb : PD F X E b fb) (hs : starEach [b] X.env = [(false, eval b X.env)] := by rfl) (hbase : attributeBase a "startswith" X.env (eval a X.env) = eval a X.env := by rfl) (hline : (apos.endLine == pos.line) = true := by rfl) :
    PD F X E (.Call (.Attribute a "startswith" apos) [b] [] pos) (fun ρ => fa ρ >>= fun x => D.text x >>= fun x => fb ρ >>= fun y => D.startswith x y) := pd_m1 PySem.F.slot_str_startswith PySem.F.type_str_startswith mt_startswith mt_d_startswith ha hb hs hbase hline
def Stays (o : Option Nat) (ds : List D) (m : Mu) : Prop := match o with
  | none => True
  | some k => m[k]? = some (.lst ds)
def ItOk (K : PySem.W.Frag) (F : Str → Option V) (W : Wd) (H : Hp) (J : It) (ds : List D) (o : Option Nat) : Prop :=
  ∀ W' m' H', Ext W H W' H' → Ok K F W' m' H' → Stays o ds m' →
    (∀ i d, ds[i]? = some d → J.go i H' ∧ ∀ x H'', J.yld i H' x H'' → ∃ W'', Ext W' H' W'' H'' ∧ Ok K F W'' m' H'' ∧ Rp K F W'' x d) ∧ J.stop ds.length H'
structure PDi (F : Str → Option V) (X : Cx) (E : XK) (tg iter : Expr) (f : Env → M (List D × Option Nat)) : Prop where
  ex : ∃ wi, PI X tg iter wi ∧ ∀ ρ m W σ H, Sl X.K F W ρ σ → Ok X.K F W m H → ∀ R : It → Hp → Prop, PostR X.K F ((f ρ).run m) W H (fun W' H' _ p => ∀ J, ItOk X.K F W' H' J p.1 p.2 → R J H') E → wi σ H R
def signs (x : Str) : List D := x.cps.toList.map fun c => .str ⟨#[c]⟩
def D.iter : D → M (List D × Option Nat)
  | .lst ds => pure (ds, none)
  | .frz ds => pure (ds, none)
  | .tup ds => pure (ds, none)
  | .str x => pure (signs x, none)
  | .hnd k => ⟨fun m => match m[k]? with
    | some (.lst ds) => .ok (ds, some k) m
    | _ => .bad⟩
  | _ => M.bad
theorem PI.or {tg iter : Expr} {w1 w2 : TI} (h1 : PI X tg iter w1) (h2 : PI X tg iter w2) : PI X tg iter (fun σ H R => w1 σ H R ∨ w2 σ H R) := ⟨fun pins s σ H R I h => by
  rcases h with h | h
  · exact h1.run pins s σ H R I h
  · exact h2.run pins s σ H R I h⟩
theorem itl_ok {K : PySem.W.Frag} {W : Wd} {H : Hp} {p : Addr} {vs : List V} {ds : List D} (h : SqL K W.G p vs) (r : Rps K F W vs ds) : ItOk K F W H (Itl K p) ds none := fun W' m' H' x k _ => by
  have hs : SqL K H' p vs := sql_mono (fun a o e => k.gh a o (x.ex a o e)) h
  refine ⟨fun i d hd => ?_, ⟨vs, hs, by rw [r.length]; exact Nat.le_refl _⟩⟩
  obtain ⟨v, hv, rv⟩ := r.get hd
  refine ⟨⟨vs, v, hs, hv⟩, fun y H'' hy => ?_⟩
  obtain ⟨rfl, hy⟩ := hy
  have e := hy vs hs
  rw [hv] at e
  cases e
  exact ⟨W', Ext.refl _ _, k, rv.mono x⟩
theorem itt_ok {K : PySem.W.Frag} {W : Wd} {H : Hp} {p : Addr} {vs : List V} {ds : List D} (h : SqT K W.G p vs) (r : Rps K F W vs ds) : ItOk K F W H (Itt K p) ds none := fun W' m' H' x k _ => by
  have hs : SqT K H' p vs := sqt_mono (fun a o e => k.gh a o (x.ex a o e)) h
  refine ⟨fun i d hd => ?_, ⟨vs, hs, by rw [r.length]; exact Nat.le_refl _⟩⟩
  obtain ⟨v, hv, rv⟩ := r.get hd
  refine ⟨⟨vs, v, hs, hv⟩, fun y H'' hy => ?_⟩
  obtain ⟨rfl, hy⟩ := hy
  have e := hy vs hs
  rw [hv] at e
  cases e
  exact ⟨W', Ext.refl _ _, k, rv.mono x⟩
theorem sql_lst {K : PySem.W.Frag} {H : Hp} {p : Addr} {xs ys : List V} (h : H p = some (.lst xs)) (q : SqL K H p ys) (hK : ∀ b o, K.lookup b = some o → H b = none) : ys = xs := by
  rcases q with (q | ⟨o, q⟩) | ⟨o, _, _, q, _⟩
  · rw [h] at q; cases q; rfl
  · rw [h] at q; cases q
  · rw [hK p o q] at h; cases h
theorem its_ok {K : PySem.W.Frag} {W : Wd} {H : Hp} {x : Str} : ItOk K F W H (Its x) (signs x) none := fun W' m' H' xe k _ => by
  refine ⟨fun i d hd => ?_, by show x.cps.size ≤ (signs x).length; simp [signs]⟩
  unfold signs at hd
  rw [List.getElem?_map] at hd
  obtain ⟨c, hc, rfl⟩ := Option.map_eq_some_iff.mp hd
  have hi := (List.getElem?_eq_some_iff.mp hc).1
  refine ⟨by show i < x.cps.size; simpa using hi, fun y H'' hy => ?_⟩
  obtain ⟨rfl, c', hc', rfl⟩ := hy
  have : c' = c := by
    rw [Array.getElem?_toList] at hc
    rw [hc'] at hc
    exact Option.some.inj hc
  subst this
  exact ⟨W', Ext.refl _ _, k, .str _⟩
theorem ith_ok {K : PySem.W.Frag} {W : Wd} {H : Hp} {p : Addr} {k : Nat} {ds : List D} (h : W.al[k]? = some p) : ItOk K F W H (Itl K p) ds (some k) := fun W' m' H' x c st => by
  have hp : W'.al[k]? = some p := by
    obtain ⟨r, q⟩ := x.al
    rw [q, List.getElem?_append_left (List.getElem?_eq_some_iff.mp h).1]
    exact h
  obtain ⟨vs, h1, r⟩ := c.ob k p _ hp st
  have hs : SqL K H' p vs := .inl (.inl h1)
  refine ⟨fun i d hd => ?_, ⟨vs, hs, by rw [r.length]; exact Nat.le_refl _⟩⟩
  obtain ⟨v, hv, rv⟩ := r.get hd
  refine ⟨⟨vs, v, hs, hv⟩, fun y H'' hy => ?_⟩
  obtain ⟨rfl, hy⟩ := hy
  have e := hy vs hs
  rw [hv] at e
  cases e
  exact ⟨W', Ext.refl _ _, c, rv⟩
theorem pdi_val {tg : Expr} (ha : PD F X E a fa) : PDi F X E tg a (fun ρ => fa ρ >>= D.iter) := by
  obtain ⟨t, p, q⟩ := ha
  refine ⟨_, PI.or (pi_list p) (PI.or (pi_tup p) (pi_str p)), fun ρ m W σ H s k R h => ?_⟩
  have aux : ∀ d m1, (fa ρ).run m = .ok d m1 → ((fa ρ >>= D.iter).run m) = (D.iter d).run m1 := fun d m1 e => by rw [bind_run, e]; rfl
  cases e : (fa ρ).run m with
  | bad => rw [bind_run, e] at h; exact h.elim
  | exc c m1 =>
    rw [bind_run, e] at h
    exact .inl (q ρ m W σ H s k _ (by rw [e]; exact h))
  | ok d m1 =>
    rw [aux d m1 e] at h
    have run : ∀ Q : VK, (∀ W1 H1, Ext W H W1 H1 → Ok X.K F W1 m1 H1 → ∀ v, Rp X.K F W1 v d → Q v H1) → t σ H Q := fun Q hQ => q ρ m W σ H s k Q (by rw [e]; exact hQ)
    cases d with
    | lst ds =>
      refine .inl (run _ fun W1 H1 x1 k1 v r1 => ?_)
      cases r1 with
      | @lst pp vs _ h1 r1 => exact ⟨pp, rfl, ⟨vs, .inl (.inl (k1.gh _ _ h1))⟩, h W1 H1 x1 k1 _ (itl_ok (.inl (.inl h1)) r1)⟩
    | frz ds =>
      refine .inl (run _ fun W1 H1 x1 k1 v r1 => ?_)
      cases r1 with
      | @frz pp vs _ h1 r1 => exact ⟨pp, rfl, ⟨vs, sql_mono k1.gh h1⟩, h W1 H1 x1 k1 _ (itl_ok h1 r1)⟩
    | tup ds =>
      refine .inr (.inl (run _ fun W1 H1 x1 k1 v r1 => ?_))
      cases r1 with
      | @tup pp vs _ h1 r1 => exact ⟨pp, rfl, ⟨vs, sqt_mono k1.gh h1⟩, h W1 H1 x1 k1 _ (itt_ok h1 r1)⟩
    | str x =>
      refine .inr (.inr (run _ fun W1 H1 x1 k1 v r1 => ?_))
      cases r1
      exact ⟨x, rfl, h W1 H1 x1 k1 _ its_ok⟩
    | hnd i =>
      refine .inl (run _ fun W1 H1 x1 k1 v r1 => ?_)
      cases r1 with
      | @hnd pp _ h1 =>
        cases e2 : m1[i]? with
        | none => simp only [D.iter, e2] at h; exact h.elim
        | some o =>
          cases o with
          | lst ds =>
            simp only [D.iter, e2] at h
            obtain ⟨vs, h2, r2⟩ := k1.ob i pp _ h1 e2
            exact ⟨pp, rfl, ⟨vs, .inl (.inl h2)⟩, h W1 H1 x1 k1 _ (ith_ok h1)⟩
    | non => exact h.elim
    | bl _ => exact h.elim
    | int _ => exact h.elim
    | nam _ => exact h.elim
def rangeD (lo : Int) (n : Nat) : List D := (List.range n).map fun (i : Nat) => .int (lo + (i : Int))
theorem itr_ok {K : PySem.W.Frag} {W : Wd} {H : Hp} {lo : Int} {n : Nat} : ItOk K F W H (Itr lo n) (rangeD lo n) none := fun W' m' H' xe k _ => by
  refine ⟨fun i d hd => ?_, by show n ≤ (rangeD lo n).length; simp [rangeD]⟩
  unfold rangeD at hd
  rw [List.getElem?_map] at hd
  obtain ⟨c, hc, rfl⟩ := Option.map_eq_some_iff.mp hd
  have hi := (List.getElem?_eq_some_iff.mp hc).1
  rw [List.length_range] at hi
  rw [List.getElem?_range hi] at hc
  cases hc
  refine ⟨hi, fun y H'' hy => ?_⟩
  obtain ⟨rfl, rfl⟩ := hy
  exact ⟨W', Ext.refl _ _, k, .int _⟩
def D.range1 : List D → M (List D × Option Nat)
  | [.int n] => M.guard (decide (-(2 ^ 62) ≤ n ∧ n < 2 ^ 62)) >>= fun _ => pure (rangeD 0 n.toNat, none)
  | _ => M.bad
def D.range2 : List D → M (List D × Option Nat)
  | [.int i, .int j] => M.guard (decide (-(2 ^ 62) ≤ i ∧ i < 2 ^ 62 ∧ -(2 ^ 62) ≤ j ∧ j < 2 ^ 62)) >>= fun _ => pure (rangeD i (j - i).toNat, none)
  | _ => M.bad
theorem pdi_range1 {tg : Expr} {p : Pos} (hg : Gl X "range") (hm : X.mg "range" = none) (ha : PD F X E a fa) (hs : starEach [a] X.env = [(false, eval a X.env)] := by rfl) :
    PDi F X E tg (.Call (.Name "range" p) [a] [] pos) (fun ρ => fa ρ >>= fun x => D.range1 [x]) := by
  obtain ⟨t, p1, q⟩ := ha
  refine ⟨_, pi_range1 hg hm (pa_cons p1 pa_nil hs) hs, fun ρ m W σ H s k R h => ?_⟩
  refine q ρ m W σ H s k _ ((PostR.bind h).imp fun W1 H1 m1 d e x1 k1 h1 v r1 => ?_)
  cases r1 with
  | int n =>
    obtain ⟨g, h1⟩ := gd (A := D) h1
    have g := of_decide_eq_true g
    exact ⟨n, rfl, g.1, g.2, PostR.pure k1 h1 _ itr_ok⟩
  | _ => exact h1.elim
theorem pdi_range2 {tg : Expr} {p : Pos} (hg : Gl X "range") (hm : X.mg "range" = none) (ha : PD F X E a fa) (hb : PD F X E b fb) (hs : starEach [a, b] X.env = [(false, eval a X.env), (false, eval b X.env)] := by rfl) (hs2 : starEach [b] X.env = [(false, eval b X.env)] := by rfl) :
    PDi F X E tg (.Call (.Name "range" p) [a, b] [] pos) (fun ρ => fa ρ >>= fun x => fb ρ >>= fun y => D.range2 [x, y]) := by
  obtain ⟨t, p1, q⟩ := ha
  obtain ⟨t2, p2, q2⟩ := hb
  refine ⟨_, pi_range2 hg hm (pa_cons p1 (pa_cons p2 pa_nil hs2) (by rw [hs, hs2])) hs hs2, fun ρ m W σ H s k R h => ?_⟩
  refine q ρ m W σ H s k _ ((PostR.bind h).imp fun W1 H1 m1 d e x1 k1 h1 v r1 => ?_)
  refine q2 ρ m1 W1 σ H1 (s.mono x1) k1 _ ((PostR.bind h1).imp fun W2 H2 m2 d2 e2 x2 k2 h2 v2 r2 => ?_)
  cases r1 with
  | int i =>
    cases r2 with
    | int j =>
      obtain ⟨g, h2⟩ := gd (A := D) h2
      have g := of_decide_eq_true g
      exact ⟨i, j, rfl, g, PostR.pure k2 h2 _ itr_ok⟩
    | _ => exact h2.elim
  | _ => exact h2.elim
end
end Mir
set_option maxRecDepth 100000
namespace Mir
open PySem L2
def Out (is : List Nat) (σ σ' : L2.St) : Prop := ∀ vs : List Nat, (∀ i, i ∈ is → i ∈ vs) → wipe σ' vs = wipe σ vs
theorem wipe_get (σ : L2.St) (i : Nat) : ∀ vs : List Nat, (wipe σ vs)[i]? = if i ∈ vs ∧ i < σ.length then some none else σ[i]?
  | [] => by simp [wipe]
  | v :: vs => by
    unfold wipe
    by_cases h : v = i
    · subst h
      by_cases hl : v < σ.length
      · rw [List.getElem?_set_self (by rw [wipe_length]; exact hl), if_pos ⟨List.mem_cons_self, hl⟩]
      · rw [List.getElem?_eq_none (by rw [List.length_set, wipe_length]; omega), if_neg (fun z => hl z.2), List.getElem?_eq_none (by omega)]
    · rw [List.getElem?_set_ne h, wipe_get σ i vs]
      by_cases hl : i < σ.length
      · by_cases hm : i ∈ vs
        · rw [if_pos ⟨hm, hl⟩, if_pos ⟨List.mem_cons_of_mem _ hm, hl⟩]
        · rw [if_neg (fun z => hm z.1), if_neg (fun z => (List.mem_cons.mp z.1).elim (fun q => h q.symm) hm)]
      · rw [if_neg (fun z => hl z.2), if_neg (fun z => hl z.2)]
theorem out_set {σ : L2.St} {i : Nat} {o : Option V} {is : List Nat} (h : i ∈ is) : Out is σ (σ.set i o) := fun vs hv => by
  refine List.ext_getElem? fun j => ?_
  rw [wipe_get, wipe_get, List.length_set]
  by_cases c : j ∈ vs ∧ j < σ.length
  · rw [if_pos c, if_pos c]
  · rw [if_neg c, if_neg c]
    by_cases e : i = j
    · subst e
      have hl : ¬ i < σ.length := fun z => c ⟨hv i h, z⟩
      rw [List.getElem?_eq_none (by rw [List.length_set]; omega), List.getElem?_eq_none (by omega)]
    · rw [List.getElem?_set_ne e]
theorem out_refl {σ : L2.St} {is : List Nat} : Out is σ σ := fun _ _ => rfl
theorem out_trans {σ σ' σ'' : L2.St} {is : List Nat} (h : Out is σ σ') (h' : Out is σ' σ'') : Out is σ σ'' := fun vs hv => (h' vs hv).trans (h vs hv)
theorem out_mono {σ σ' : L2.St} {is js : List Nat} (h : Out is σ σ') (q : ∀ i, i ∈ is → i ∈ js) : Out js σ σ' := fun vs hv => h vs fun i hi => hv i (q i hi)
theorem sl_set {K : PySem.W.Frag} {F : Str → Option V} {W : Wd} {ρ : Env} {σ : L2.St} {i : Nat} {d : D} {v : V} (s : Sl K F W ρ σ) (r : Rp K F W v d) : Sl K F W (ρ.set i (some d)) (σ.set i (some v)) := by
  refine ⟨by rw [List.length_set, List.length_set]; exact s.len, fun j e hj => ?_⟩
  by_cases h : i = j
  · subst h
    by_cases hl : i < ρ.length
    · rw [List.getElem?_set_self hl] at hj
      cases hj
      exact ⟨v, List.getElem?_set_self (by rw [← s.len]; exact hl), r⟩
    · rw [List.getElem?_eq_none (by rw [List.length_set]; omega)] at hj
      cases hj
  · rw [List.getElem?_set_ne h] at hj ⊢
    exact s.get j e hj
def wipeE (ρ : Env) : List Nat → Env
  | [] => ρ
  | v :: vs => (wipeE ρ vs).set v none
theorem sl_wipe {K : PySem.W.Frag} {F : Str → Option V} {W : Wd} {ρ : Env} {σ : L2.St} (s : Sl K F W ρ σ) : ∀ vs : List Nat, Sl K F W (wipeE ρ vs) (wipe σ vs)
  | [] => s
  | v :: vs => by
    have q := sl_wipe s vs
    refine ⟨?_, fun j e hj => ?_⟩
    · show ((wipeE ρ vs).set v none).length = ((wipe σ vs).set v none).length
      rw [List.length_set, List.length_set]
      exact q.len
    · have hj : ((wipeE ρ vs).set v none)[j]? = some (some e) := hj
      show ∃ u, ((wipe σ vs).set v none)[j]? = _ ∧ _
      by_cases h : v = j
      · subst h
        by_cases hl : v < (wipeE ρ vs).length
        · rw [List.getElem?_set_self hl] at hj; cases hj
        · rw [List.getElem?_eq_none (by rw [List.length_set]; omega)] at hj; cases hj
      · rw [List.getElem?_set_ne h] at hj ⊢
        exact q.get j e hj
section
variable {F : Str → Option V} {X : Cx} {E : XK} {pos : Pos} {a b e : Expr} {rest : List Expr} {fa fb fc : Env → M D} {ga gb : Env → M Bool}
def EvG (K : PySem.W.Frag) (F : Str → Option V) (E : XK) (is : List Nat) (g : TG) (f : D → Env → M Env) : Prop := ∀ d ρ m W σ H v, Sl K F W ρ σ → Ok K F W m H → Rp K F W v d → ∀ Q : L2.St → Hp → Prop,
  PostR K F ((f d ρ).run m) W H (fun W' H' _ ρ' => ∀ σ', Sl K F W' ρ' σ' → Out is σ σ' → Q σ' H') E → g v σ H Q
def EvGs (K : PySem.W.Frag) (F : Str → Option V) (E : XK) (is : List Nat) (g : TGs) (f : List D → Env → M Env) : Prop := ∀ ds ρ m W σ H vs, Sl K F W ρ σ → Ok K F W m H → Rps K F W vs ds → ∀ Q : L2.St → Hp → Prop,
  PostR K F ((f ds ρ).run m) W H (fun W' H' _ ρ' => ∀ σ', Sl K F W' ρ' σ' → Out is σ σ' → Q σ' H') E → g vs σ H Q
structure PDg (F : Str → Option V) (X : Cx) (E : XK) (tg : Expr) (is : List Nat) (f : D → Env → M Env) : Prop where
  ex : ∃ g, PG X tg g ∧ EvG X.K F E is g f
structure PDgs (F : Str → Option V) (X : Cx) (E : XK) (tgs : List Expr) (is : List Nat) (f : List D → Env → M Env) : Prop where
  ex : ∃ g, PGs X tgs g ∧ EvGs X.K F E is g f
theorem pdg_name {x : Str} {is : List Nat} (i : Nat) (hm : i ∈ is) (hN : X.N.Nodup) (hi : X.N[i]? = some x) (hx : Loc X.env.scope x) (hf : X.fn x = true ∨ X.env.scope.names.lookup x = some .local := by first | exact .inl rfl | exact .inr rfl | assumption) :
    PDg F X E (.Name x pos) is (fun d ρ => pure (ρ.set i (some d))) :=
  ⟨_, pg_name hN hi hx hf, fun d ρ m W σ H v s k r Q h => PostR.pure k h _ (sl_set s r) (out_set hm)⟩
theorem pdgs_nil {is : List Nat} : PDgs F X E [] is (fun ds ρ => match ds with
  | [] => pure ρ
  | _ => M.bad) := ⟨_, pgs_nil, fun ds ρ m W σ H vs s k r Q h => by
    cases r with
    | nil => exact ⟨rfl, PostR.pure k h _ s out_refl⟩
    | cons _ _ => exact h.elim⟩
theorem pdgs_cons {es : List Expr} {is : List Nat} {f : D → Env → M Env} {fs : List D → Env → M Env} (h1 : PDg F X E e is f) (h2 : PDgs F X E es is fs)
    (hs : (assignEach (e :: es) X.env).map (·.2) = assign e X.env :: (assignEach es X.env).map (·.2) := by rfl) : PDgs F X E (e :: es) is (fun ds ρ => match ds with
      | d :: ds => f d ρ >>= fun ρ => fs ds ρ
      | _ => M.bad) := by
  obtain ⟨g, p, q⟩ := h1
  obtain ⟨gs, ps, qs⟩ := h2
  refine ⟨_, pgs_cons p ps hs, fun ds ρ m W σ H vs s k r Q h => ?_⟩
  cases r with
  | nil => exact h.elim
  | @cons v vs d ds r1 r2 =>
    refine ⟨v, vs, rfl, q d ρ m W σ H v s k r1 _ ((PostR.bind h).imp fun W1 H1 m1 ρ1 e1 x1 k1 h1 σ1 s1 o1 => ?_)⟩
    exact qs ds ρ1 m1 W1 σ1 H1 vs s1 k1 (r2.mono x1) Q (h1.imp fun W2 H2 m2 ρ2 e2 x2 k2 h2 σ2 s2 o2 => h2 σ2 s2 (out_trans o1 o2))
def D.unpack (n : Nat) : D → M (List D)
  | .tup ds => M.guard (decide (ds.length = n)) >>= fun _ => pure ds
  | _ => M.bad
theorem pdg_tup {es : List Expr} {is : List Nat} {kk n : Nat} {fs : List D → Env → M Env} (hc : X.calm = true) (h : PDgs F X E es is fs) (hn : (assignEach es X.env).length = n := by rfl) (hst : (assignEach es X.env).findIdx? (·.1) = none := by rfl) :
    PDg F X E (.Tuple es kk pos) is (fun d ρ => D.unpack n d >>= fun ds => fs ds ρ) := by
  obtain ⟨g, p, q⟩ := h
  refine ⟨_, pg_tup hc p hn hst, fun d ρ m W σ H v s k r Q h => ?_⟩
  cases r with
  | @tup pp vs ds h1 r1 =>
    have h : PostR X.K F ((M.guard (decide (ds.length = n)) >>= fun _ => fs ds ρ).run m) W H (fun W' H' _ ρ' => ∀ σ', Sl X.K F W' ρ' σ' → Out is σ σ' → Q σ' H') E := by
      dsimp only [D.unpack] at h
      rw [bind_assoc'] at h
      exact h
    obtain ⟨g, h⟩ := gd (A := D) h
    exact ⟨pp, vs, rfl, sqt_mono k.gh h1, by rw [r1.length]; exact of_decide_eq_true g, q ds ρ m W σ H vs s k r1 Q h⟩
  | _ => exact h.elim
abbrev XKF : XK := fun _ _ _ => False
def wPE (C : Cx → Prop) (e : Expr) : TE := fun σ H Q => ∀ X, C X → ∀ pins s, Inv X pins σ H s → wpAny (model X.prog X.w) X.A (eval e X.env) (EP X pins σ Q) X.xe s
def wPT (C : Cx → Prop) (es : List Expr) : TT := fun σ H Q => ∀ X, C X → ∀ pins s, Inv X pins σ H s →
  wpAny (model X.prog X.w) X.A (forIn es true fun c r => if r = true then do let ok ← isTrue c X.env (eval c X.env); pure (ForInStep.yield ok) else pure (ForInStep.yield r)) (TP X pins σ Q) X.xe s
def wPG (C : Cx → Prop) (e : Expr) : TG := fun v σ H Q => ∀ X, C X → ∀ pins s u, Inv X pins σ H s → RelV v u → wpAny (model X.prog X.w) X.A (assign e X.env u) (fun _ s' => ∃ σ' H', Inv X pins σ' H' s' ∧ Q σ' H') X.xe s
structure PDts (F : Str → Option V) (X : Cx) (E : XK) (es : List Expr) (f : Env → M Bool) : Prop where
  ex : ∃ t, PTs X es t ∧ EvT X.K F E t f
theorem pdts_nil : PDts F X E [] (fun _ => pure true) := ⟨_, pts_nil, fun ρ m W σ H s k Q h => PostR.pure k h⟩
theorem pdts_one (h : PDt F X E a ga) : PDts F X E [a] ga := by
  obtain ⟨t, p, q⟩ := h
  exact ⟨_, pts_one p, q⟩
theorem side_ok {K : PySem.W.Frag} {W : Wd} {H : Hp} {m : Mu} {p : Addr} {o : HO} (k : Ok K F W m H) (h1 : p ∉ W.al) (h2 : W.G p = none) : Ok K F W m (upd H p o) := by
  refine ⟨fun a u e => ?_, k.nd, k.gn, k.len, fun i a u e1 e2 => ?_⟩
  · have hp : a ≠ p := fun z => by rw [z, h2] at e; cases e
    rw [upd_ne hp]
    exact k.gh a u e
  · have hp : a ≠ p := fun z => h1 (z ▸ List.mem_of_getElem? e1)
    have q := k.ob i a u e1 e2
    cases u with
    | lst ds =>
      obtain ⟨vs, e3, r⟩ := q
      exact ⟨vs, (upd_ne hp).trans e3, r⟩
theorem side_ext {W W' : Wd} {H H' : Hp} {p : Addr} {o : HO} (x : Ext W H W' H') (h : H p = none) : Ext W H W' (upd H' p o) :=
  ⟨x.al, x.ex, fun a u e n => (upd_ne (ne_of_none e h)).trans (x.kp a u e n), x.na, x.ng⟩
theorem adopt_ok {K : PySem.W.Frag} {W : Wd} {H : Hp} {m : Mu} {p : Addr} {o : HO} (k : Ok K F W m H) (h1 : p ∉ W.al) (h2 : W.G p = none) (h3 : H p = some o) : Ok K F (W.new p o) m H := by
  have ex : ∀ a u, W.G a = some u → (W.new p o).G a = some u := fun a u e => (upd_ne (fun z => by rw [z, h2] at e; cases e)).trans e
  refine ⟨fun a u e => ?_, k.nd, fun a q => ?_, k.len, fun i a u e1 e2 => ?_⟩
  · by_cases hp : a = p
    · subst hp
      have e : upd W.G a o a = some u := e
      rw [upd_same] at e
      cases e
      exact h3
    · have e : upd W.G p o a = some u := e
      rw [upd_ne hp] at e
      exact k.gh a u e
  · have hp : a ≠ p := fun z => h1 (z ▸ q)
    show upd W.G p o a = none
    rw [upd_ne hp]
    exact k.gn a q
  · have q := k.ob i a u e1 e2
    cases u with
    | lst ds =>
      obtain ⟨vs, e3, r⟩ := q
      exact ⟨vs, e3, Rps.mono' ⟨[], by simp [Wd.new]⟩ ex r⟩
theorem adopt_ext {W W' : Wd} {H H' : Hp} {p : Addr} {o : HO} (x : Ext W H W' H') (h : H p = none) (h2 : W'.G p = none) : Ext W H (W'.new p o) H' :=
  ⟨x.al, fun a u e => (upd_ne (fun z => by have q := x.ex a u e; rw [z, h2] at q; cases q)).trans (x.ex a u e), x.kp, x.na, fun a u e => by
    by_cases hp : a = p
    · rw [hp]
      exact .inr (.inl h)
    · exact x.ng a u ((upd_ne hp).symm.trans e)⟩
theorem adopt_more {K : PySem.W.Frag} {W : Wd} {H : Hp} {m : Mu} {p : Addr} {vs : List V} {ds : List D} (k : Ok K F W m H) (h1 : p ∉ W.al) (h2 : W.G p = none) (h3 : H p = some (.lst vs)) (r : Rps K F W vs ds) : Ok K F (W.more p) (m ++ [.lst ds]) H := by
  have mo : ∀ {us : List V} {es : List D}, Rps K F W us es → Rps K F (W.more p) us es := fun r => Rps.mono' (W := W) (W' := W.more p) ⟨[p], rfl⟩ (fun _ _ e => e) r
  refine ⟨k.gh, ?_, fun a q => ?_, ?_, fun i a u e1 e2 => ?_⟩
  · show (W.al ++ [p]).Nodup
    rw [List.nodup_append]
    exact ⟨k.nd, by simp, fun a ha b hb => by rw [List.mem_singleton.mp hb]; exact fun z => h1 (z ▸ ha)⟩
  · rcases List.mem_append.mp q with z | z
    · exact k.gn a z
    · rw [List.mem_singleton.mp z]
      exact h2
  · show (W.al ++ [p]).length = _
    rw [List.length_append, List.length_append, k.len]
    rfl
  · have e1 : (W.al ++ [p])[i]? = some a := e1
    by_cases hi : i < W.al.length
    · rw [List.getElem?_append_left hi] at e1
      rw [List.getElem?_append_left (by rw [← k.len]; exact hi)] at e2
      have q := k.ob i a u e1 e2
      cases u with
      | lst es =>
        obtain ⟨us, e3, r⟩ := q
        exact ⟨us, e3, mo r⟩
    · have h0 : W.al.length ≤ i := Nat.le_of_not_lt hi
      rw [List.getElem?_append_right h0] at e1
      rw [List.getElem?_append_right (by rw [← k.len]; exact h0)] at e2
      rw [← k.len] at e2
      have hz : i - W.al.length = 0 := by
        have := (List.getElem?_eq_some_iff.mp e1).1
        simp at this
        omega
      rw [hz] at e1 e2
      simp at e1 e2
      subst e1 e2
      exact ⟨vs, h3, mo r⟩
theorem adopt_mext {W W' : Wd} {H H' : Hp} {p : Addr} (x : Ext W H W' H') (h : H p = none) : Ext W H (W'.more p) H' := by
  refine ⟨?_, x.ex, x.kp, fun a q => ?_, x.ng⟩
  · obtain ⟨r, e⟩ := x.al
    exact ⟨r ++ [p], by show W'.al ++ [p] = _; rw [e, List.append_assoc]⟩
  · rcases List.mem_append.mp q with z | z
    · exact x.na a z
    · rw [List.mem_singleton.mp z]
      exact .inr h
theorem side_keep {W W' : Wd} {H H' : Hp} {p : Addr} {o : HO} (x : Ext W H W' H') (h : H p = some o) (h1 : p ∉ W.al) (h2 : W.G p = none) : H' p = some o ∧ p ∉ W'.al ∧ W'.G p = none := by
  refine ⟨x.kp p o h h1, fun z => ?_, ?_⟩
  · rcases x.na p z with q | q
    · exact h1 q
    · rw [h] at q; cases q
  · cases e : W'.G p with
    | none => rfl
    | some u =>
      rcases x.ng p u e with q | q | q
      · rw [h2] at q; cases q
      · rw [h] at q; cases q
      · exact (h1 q).elim
def M.stays (o : Option Nat) (ds : List D) : M Unit := match o with
  | none => pure ()
  | some k => ⟨fun m => match m[k]? with
    | some (.lst es) => if es.length = ds.length then .ok () m else .bad
    | _ => .bad⟩
def lcGo (fg : D → Env → M Env) (ft : Env → M Bool) (fe : Env → M D) (ρ : Env) : List D → List D → M (List D)
  | [], acc => pure acc
  | d :: ds, acc => fg d ρ >>= fun ρ1 => ft ρ1 >>= fun t => if t = true then fe ρ1 >>= fun y => M.guard (decide (acc.length < sizeLine)) >>= fun _ => lcGo fg ft fe ρ ds (acc ++ [y]) else lcGo fg ft fe ρ ds acc
def lcAll (fi : Env → M (List D × Option Nat)) (fg : D → Env → M Env) (ft : Env → M Bool) (fe : Env → M D) (own : List Nat) (ρ : Env) : M (List D) :=
  fi ρ >>= fun p => M.guard (p.2 == none) >>= fun _ => M.noexc (lcGo fg ft fe (wipeE ρ own) p.1 [])
theorem ev_lc {K : PySem.W.Frag} {wi : TI} {g : TG} {tt : TT} {te : TE} {own is : List Nat} {fi : Env → M (List D × Option Nat)} {fg : D → Env → M Env} {ft : Env → M Bool} {fe : Env → M D}
    (hi : ∀ ρ m W σ H, Sl K F W ρ σ → Ok K F W m H → ∀ R : It → Hp → Prop, PostR K F ((fi ρ).run m) W H (fun W' H' _ p => ∀ J, ItOk K F W' H' J p.1 p.2 → R J H') E → wi σ H R)
    (hg : EvG K F XKF is g fg) (ht : EvT K F XKF tt ft) (he : EvE K F XKF te fe) (hs : ∀ i, i ∈ is → i ∈ own) (ρ : Env) (m : Mu) (W : Wd) (σ : L2.St) (H : Hp) (s : Sl K F W ρ σ) (k : Ok K F W m H) (Q : VK)
    (h : PostR K F ((lcAll fi fg ft fe own ρ).run m) W H (fun W' H' m' ds => ∀ p vs, H' p = some (.lst vs) → Rps K F W' vs ds → p ∉ W'.al → W'.G p = none → H p = none → Q (.ref p) H') E) :
    tLc wi g tt te own σ H Q := by
  refine hi ρ m W σ H s k _ ((PostR.bind0 h (Ext.refl W H)).imp fun W1 H1 m1 pr e1 x1 k1 h1 J hJ => ?_)
  obtain ⟨ds, o⟩ := pr
  obtain ⟨g0, h1⟩ := gd (A := List D) h1
  have ho : o = none := by simpa using g0
  subst ho
  have h1 := PostR.noexc (E' := XKF) h1
  intro Dl hDl
  have s1 := sl_wipe (s.mono x1) own
  have hDH : H Dl = none := by
    cases q : H Dl with
    | none => rfl
    | some u =>
      by_cases z : Dl ∈ W.al
      · have : Dl ∈ W1.al := by
          obtain ⟨r, e⟩ := x1.al
          rw [e]
          exact List.mem_append_left _ z
        exact ((k1.fresh hDl) this).elim
      · rw [x1.kp Dl u q z] at hDl
        cases hDl
  refine ⟨fun i mm H' => mm = ds.length - i ∧ i ≤ ds.length ∧ ∃ W' m' acc vs, Ext W1 H1 W' H' ∧ Ok K F W' m' H' ∧ H' Dl = some (.lst vs) ∧ Dl ∉ W'.al ∧ W'.G Dl = none ∧ Rps K F W' vs acc ∧
      PostR K F ((lcGo fg ft fe (wipeE ρ own) (ds.drop i) acc).run m') W H (fun W' H' m' ds => ∀ p vs, H' p = some (.lst vs) → Rps K F W' vs ds → p ∉ W'.al → W'.G p = none → H p = none → Q (.ref p) H') XKF, ⟨ds.length, rfl, Nat.zero_le _, W1, m1, [], [], ?_, ?_, upd_same, k1.fresh hDl, k1.gnone hDl, .nil, ?_⟩, ?_⟩
  · exact side_ext (Ext.refl _ _) hDl
  · exact side_ok k1 (k1.fresh hDl) (k1.gnone hDl)
  · exact h1
  · rintro i mm H2 ⟨rfl, hi2, W2, m2, acc, vs, x2, k2, d1, d2, d3, r2, h2⟩
    have xx : Ext W H W2 H2 := x1.trans x2
    obtain ⟨items, stop⟩ := hJ W2 m2 H2 x2 k2 trivial
    by_cases hlt : i < ds.length
    · obtain ⟨go, yl⟩ := items i ds[i] (List.getElem?_eq_getElem hlt)
      refine .inr ⟨go, fun H' => ∃ m', m' < ds.length - i ∧ (m' = ds.length - (i + 1) ∧ i + 1 ≤ ds.length ∧ ∃ W' m' acc vs, Ext W1 H1 W' H' ∧ Ok K F W' m' H' ∧ H' Dl = some (.lst vs) ∧ Dl ∉ W'.al ∧ W'.G Dl = none ∧ Rps K F W' vs acc ∧
      PostR K F ((lcGo fg ft fe (wipeE ρ own) (ds.drop (i + 1)) acc).run m') W H (fun W' H' m' ds => ∀ p vs, H' p = some (.lst vs) → Rps K F W' vs ds → p ∉ W'.al → W'.G p = none → H p = none → Q (.ref p) H') XKF), fun H' z => z, fun x H3 hy => ?_⟩
      obtain ⟨W3, x3, k3, r3⟩ := yl x H3 hy
      have ed : ds.drop i = ds[i] :: ds.drop (i + 1) := List.drop_eq_getElem_cons hlt
      rw [ed] at h2
      have xt : Ext W H W3 H3 := xx.trans x3
      obtain ⟨d1, d2, d3⟩ := side_keep x3 d1 d2 d3
      have r2 := r2.mono x3
      refine hg ds[i] (wipeE ρ own) m2 W3 (wipe σ own) H3 x (s1.mono (x2.trans x3)) k3 r3 _ ((PostR.bind0 h2 xt).imp fun W4 H4 m4 ρ4 e4 x4 k4 h4 σ4 s4 o4 => ⟨?_, ?_⟩)
      · have q := o4 own hs
        rw [q]
        refine List.ext_getElem? fun j => ?_
        rw [wipe_get, wipe_get, wipe_length]
        by_cases c : j ∈ own ∧ j < σ.length
        · rw [if_pos c, if_pos c]
        · rw [if_neg c, if_neg c]
      obtain ⟨d1, d2, d3⟩ := side_keep x4 d1 d2 d3
      have r2 := r2.mono x4
      refine ht ρ4 m4 W4 σ4 H4 s4 k4 _ ((PostR.bind0 h4 (xt.trans x4)).imp fun W5 H5 m5 t e5 x5 k5 h5 => ?_)
      obtain ⟨d1, d2, d3⟩ := side_keep x5 d1 d2 d3
      have r2 := r2.mono x5
      cases t with
      | false => exact ⟨ds.length - (i + 1), by omega, rfl, hlt, W5, m5, acc, vs, x2.trans (x3.trans (x4.trans x5)), k5, d1, d2, d3, r2, h5⟩
      | true =>
        refine he ρ4 m5 W5 σ4 H5 (s4.mono x5) k5 _ ((PostR.bind0 h5 ((xt.trans x4).trans x5)).imp fun W6 H6 m6 y e6 x6 k6 h6 v6 r6 => ?_)
        obtain ⟨d1, d2, d3⟩ := side_keep x6 d1 d2 d3
        have r2 := r2.mono x6
        obtain ⟨g6, h6⟩ := gd (A := List D) h6
        refine ⟨vs, d1, by rw [r2.length]; exact of_decide_eq_true g6, ds.length - (i + 1), by omega, rfl, hlt, W6, m6, acc ++ [y], vs ++ [v6], ?_, ?_, upd_same, d2, d3, r2.append (.cons r6 .nil), h6⟩
        · exact side_ext (x2.trans (x3.trans (x4.trans (x5.trans x6)))) hDl
        · exact side_ok k6 d2 d3
    · have e : i = ds.length := by omega
      subst e
      rw [List.drop_length] at h2
      exact .inl ⟨stop, h2 W2 H2 xx k2 Dl vs d1 r2 d2 d3 hDH⟩
structure Blk (F : Str → Option V) (X : Cx) (tg elt : Expr) (ifs : List Expr) (scope : Scope) (own is : List Nat) (fg : D → Env → M Env) (ft : Env → M Bool) (fe : Env → M D) : Prop where
  g : ∀ (s : Shared) (H : Hp) (C : Addr) (cl : List (Str × Addr)) (fp : List Addr), PDg F (X.blk s H scope (compEnvC scope cl C X.env) fp) XKF tg is fg
  t : ∀ (s : Shared) (H : Hp) (C : Addr) (cl : List (Str × Addr)) (fp : List Addr), PDts F (X.blk s H scope (compEnvC scope cl C X.env) fp) XKF ifs ft
  e : ∀ (s : Shared) (H : Hp) (C : Addr) (cl : List (Str × Addr)) (fp : List Addr), PD F (X.blk s H scope (compEnvC scope cl C X.env) fp) XKF elt fe
  sub : ∀ i, i ∈ is → i ∈ own
def isBlk (X : Cx) (scope : Scope) (Y : Cx) : Prop := ∃ s H C cl fp, Y = X.blk s H scope (compEnvC scope cl C X.env) fp
variable {tg iter elt : Expr} {ifs : List Expr} {scope : Scope} {own : List (Str × Nat)} {is : List Nat} {fi : Env → M (List D × Option Nat)} {fg : D → Env → M Env} {ft : Env → M Bool} {fe : Env → M D}
theorem Blk.pg {o : List Nat} (B : Blk F X tg elt ifs scope o is fg ft fe) (s : Shared) (H : Hp) (C : Addr) (cl : List (Str × Addr)) (fp : List Addr) : PG (X.blk s H scope (compEnvC scope cl C X.env) fp) tg (wPG (isBlk X scope) tg) :=
  ⟨fun pins s1 σ H1 v u Q I r h => h _ ⟨s, H, C, cl, fp, rfl⟩ pins s1 u I r⟩
theorem Blk.pt {o : List Nat} (B : Blk F X tg elt ifs scope o is fg ft fe) (s : Shared) (H : Hp) (C : Addr) (cl : List (Str × Addr)) (fp : List Addr) : PTs (X.blk s H scope (compEnvC scope cl C X.env) fp) ifs (wPT (isBlk X scope) ifs) :=
  ⟨fun pins s1 σ H1 Q I h => h _ ⟨s, H, C, cl, fp, rfl⟩ pins s1 I⟩
theorem Blk.pe {o : List Nat} (B : Blk F X tg elt ifs scope o is fg ft fe) (s : Shared) (H : Hp) (C : Addr) (cl : List (Str × Addr)) (fp : List Addr) : PE (X.blk s H scope (compEnvC scope cl C X.env) fp) elt (wPE (isBlk X scope) elt) :=
  ⟨fun pins s1 σ H1 Q I h => h _ ⟨s, H, C, cl, fp, rfl⟩ pins s1 I⟩
theorem Blk.eg {o : List Nat} (B : Blk F X tg elt ifs scope o is fg ft fe) : EvG X.K F XKF is (wPG (isBlk X scope) tg) fg := fun d ρ m W σ H v s k r Q h Y hY pins s1 u I ru => by
  obtain ⟨s0, H0, C, cl, fp, rfl⟩ := hY
  obtain ⟨g, p, q⟩ := B.g s0 H0 C cl fp
  exact p.run pins s1 σ H v u Q I ru (q d ρ m W σ H v s k r Q h)
theorem Blk.et {o : List Nat} (B : Blk F X tg elt ifs scope o is fg ft fe) : EvT X.K F XKF (wPT (isBlk X scope) ifs) ft := fun ρ m W σ H s k Q h Y hY pins s1 I => by
  obtain ⟨s0, H0, C, cl, fp, rfl⟩ := hY
  obtain ⟨t, p, q⟩ := B.t s0 H0 C cl fp
  exact p.run pins s1 σ H Q I (q ρ m W σ H s k Q h)
theorem Blk.ee {o : List Nat} (B : Blk F X tg elt ifs scope o is fg ft fe) : EvE X.K F XKF (wPE (isBlk X scope) elt) fe := fun ρ m W σ H s k Q h Y hY pins s1 I => by
  obtain ⟨s0, H0, C, cl, fp, rfl⟩ := hY
  obtain ⟨t, p, q⟩ := B.e s0 H0 C cl fp
  exact p.run pins s1 σ H Q I (q ρ m W σ H s k Q h)
theorem lc_end {K : PySem.W.Frag} {W W' : Wd} {H H' : Hp} {m' : Mu} {Q : VK} {ds : List D} (x : Ext W H W' H') (k : Ok K F W' m' H') (h : PostE K F (.ok (.lst ds) m') W H Q E) (p : Addr) (vs : List V) (h1 : H' p = some (.lst vs)) (r : Rps K F W' vs ds) (h2 : p ∉ W'.al) (h3 : W'.G p = none) (h4 : H p = none) : Q (.ref p) H' :=
  h (W'.new p (.lst vs)) H' (adopt_ext x h4 h3) (adopt_ok k h2 h3 h1) _ (.lst upd_same (Rps.mono' ⟨[], by simp [Wd.new]⟩ (fun a u e => (upd_ne (fun z => by rw [z, h3] at e; cases e)).trans e) r))
theorem lc_endH {K : PySem.W.Frag} {W W' : Wd} {H H' : Hp} {m' : Mu} {Q : VK} {ds : List D} (x : Ext W H W' H') (k : Ok K F W' m' H') (h : PostE K F ((M.more (.lst ds)).run m') W H Q E) (p : Addr) (vs : List V) (h1 : H' p = some (.lst vs)) (r : Rps K F W' vs ds) (h2 : p ∉ W'.al) (h3 : W'.G p = none) (h4 : H p = none) : Q (.ref p) H' :=
  h (W'.more p) H' (adopt_mext x h4) (adopt_more k h2 h3 h1 r) _ (.hnd (by show (W'.al ++ [p])[m'.length]? = some p; rw [← k.len]; simp))
theorem pd_lc (hc : X.calm = true) (hN : X.N.Nodup) (ok : BlkOk X.N X.env.scope scope own) (hi : PDi F X E tg iter fi) (B : Blk F X tg elt ifs scope (own.map (·.2)) is fg ft fe) (hs : ∀ x, foldedSetIterable iter X.env x = pure x := by intro _; rfl) :
    PD F X E (.ListComp elt [⟨tg, iter, ifs, 0⟩] scope pos) (fun ρ => lcAll fi fg ft fe (own.map (·.2)) ρ >>= fun ds => pure (.lst ds)) := by
  obtain ⟨wi, pi, qi⟩ := hi
  refine ⟨_, pe_lc hc hN pi ok B.pg B.pt B.pe hs, fun ρ m W σ H s k Q h => ?_⟩
  exact ev_lc qi B.eg B.et B.ee B.sub ρ m W σ H s k Q ((PostR.bind0 h (Ext.refl W H)).imp fun W1 H1 m1 ds e1 x1 k1 h1 => lc_end x1 k1 h1)
theorem pd_lcH (hc : X.calm = true) (hN : X.N.Nodup) (ok : BlkOk X.N X.env.scope scope own) (hi : PDi F X E tg iter fi) (B : Blk F X tg elt ifs scope (own.map (·.2)) is fg ft fe) (hs : ∀ x, foldedSetIterable iter X.env x = pure x := by intro _; rfl) :
    PD F X E (.ListComp elt [⟨tg, iter, ifs, 0⟩] scope pos) (fun ρ => lcAll fi fg ft fe (own.map (·.2)) ρ >>= fun ds => M.more (.lst ds)) := by
  obtain ⟨wi, pi, qi⟩ := hi
  refine ⟨_, pe_lc hc hN pi ok B.pg B.pt B.pe hs, fun ρ m W σ H s k Q h => ?_⟩
  exact ev_lc qi B.eg B.et B.ee B.sub ρ m W σ H s k Q ((PostR.bind0 h (Ext.refl W H)).imp fun W1 H1 m1 ds e1 x1 k1 h1 => lc_endH x1 k1 h1)
def flow (fl : Fl) (f : Env → M Fl) : M Fl := match fl with
  | .nx ρ => f ρ
  | fl => pure fl
variable {f g : Env → M Fl} {st : Stmt} {sts : List Stmt}
theorem pdss_one (h : PDs F X E st f) : PDss F X E [st] f := by
  obtain ⟨t, p, q⟩ := h
  exact ⟨_, pss_one p, q⟩
theorem pdss_nil : PDss F X E [] (fun ρ => pure (.nx ρ)) := ⟨_, pss_nil, fun ρ m W σ H s k N h => PostR.pure k h σ s⟩
theorem ev_seq {K : PySem.W.Frag} {t u : TS} (h : EvS K F E t f) (h' : EvS K F E u g) : EvS K F E (tSeq t u) (fun ρ => f ρ >>= fun fl => flow fl g) := fun ρ m W σ H s k N q => by
  refine h ρ m W σ H s k _ ((PostR.bind q).imp fun W1 H1 m1 fl e1 x1 k1 h1 => ?_)
  cases fl with
  | nx ρ1 => exact fun σ1 s1 => h' ρ1 m1 W1 σ1 H1 s1 k1 N h1
  | rt d => exact fun v r => PostR.pure k1 h1 v r
  | bk ρ1 => exact fun σ1 s1 => PostR.pure k1 h1 σ1 s1
  | ct ρ1 => exact fun σ1 s1 => PostR.pure k1 h1 σ1 s1
theorem pdss_cons (h : PDs F X E st f) (h' : PDss F X E sts g) : PDss F X E (st :: sts) (fun ρ => f ρ >>= fun fl => flow fl g) := by
  obtain ⟨t, p, q⟩ := h
  obtain ⟨t', p', q'⟩ := h'
  exact ⟨_, pss_cons p p', ev_seq q q'⟩
theorem pds_ret (h : PD F X E e fa) : PDs F X E (.Return (some e) pos) (fun ρ => fa ρ >>= fun d => pure (.rt d)) := by
  obtain ⟨t, p, q⟩ := h
  exact ⟨_, ps_ret p, fun ρ m W σ H s k N h => q ρ m W σ H s k _ ((PostR.bind h).imp fun W1 H1 m1 d e1 x1 k1 h1 v r => PostR.pure k1 h1 v r)⟩
theorem pds_retN : PDs F X E (.Return none pos) (fun _ => pure (.rt .non)) := ⟨_, ps_retN, fun ρ m W σ H s k N h => PostR.pure k h _ .non⟩
theorem pds_expr (h : PD F X E e fa) (hs : swapsWith e none pos.line X.env = pure false := by rfl) : PDs F X E (.Expr e pos) (fun ρ => fa ρ >>= fun _ => pure (.nx ρ)) := by
  obtain ⟨t, p, q⟩ := h
  exact ⟨_, ps_expr p hs, fun ρ m W σ H s k N h => q ρ m W σ H s k _ ((PostR.bind h).imp fun W1 H1 m1 d e1 x1 k1 h1 v r => PostR.pure k1 h1 σ (s.mono x1))⟩
theorem pds_if {c : Expr} {as bs : List Stmt} (hc : PDt F X E c ga) (ha : PDss F X E as f) (hb : PDss F X E bs g) : PDs F X E (.If c as bs pos) (fun ρ => ga ρ >>= fun t => if t = true then f ρ else g ρ) := by
  obtain ⟨tc, pc, qc⟩ := hc
  obtain ⟨ta, pa, qa⟩ := ha
  obtain ⟨tb, pb, qb⟩ := hb
  refine ⟨_, ps_if pc pa pb, fun ρ m W σ H s k N h => qc ρ m W σ H s k _ ((PostR.bind h).imp fun W1 H1 m1 t e1 x1 k1 h1 => ?_)⟩
  cases t with
  | true => exact qa ρ m1 W1 σ H1 (s.mono x1) k1 N h1
  | false => exact qb ρ m1 W1 σ H1 (s.mono x1) k1 N h1
theorem ev_asg {K : PySem.W.Frag} {te : TE} {gg : TG} (q : EvE K F E te fa) (qg : EvG K F E is gg fg) : EvS K F E (tAsg te gg) (fun ρ => fa ρ >>= fun d => fg d ρ >>= fun ρ => pure (.nx ρ)) := fun ρ m W σ H s k N h => by
  refine q ρ m W σ H s k _ ((PostR.bind h).imp fun W1 H1 m1 d e1 x1 k1 h1 v r => ?_)
  exact qg d ρ m1 W1 σ H1 v (s.mono x1) k1 r _ ((PostR.bind h1).imp fun W2 H2 m2 ρ2 e2 x2 k2 h2 σ2 s2 _ => PostR.pure k2 h2 σ2 s2)
theorem pds_asg (h : PD F X E e fa) (hg : PDg F X E tg is fg) (hs : swapsWithSole [tg] e pos.line X.env = pure false := by rfl) (hw : swappedStores [tg] e X.env = pure none := by rfl) (h1 : (assignEach [tg] X.env).map (·.2) = [assign tg X.env] := by rfl) :
    PDs F X E (.Assign [tg] e pos) (fun ρ => fa ρ >>= fun d => fg d ρ >>= fun ρ => pure (.nx ρ)) := by
  obtain ⟨t, p, q⟩ := h
  obtain ⟨gg, pg, qg⟩ := hg
  exact ⟨_, ps_asg p pg hs hw h1, ev_asg q qg⟩
theorem pds_set {x : Str} {p' : Pos} (i : Nat) (hN : X.N.Nodup) (hi : X.N[i]? = some x) (hx : Loc X.env.scope x) (h : PD F X E e fa) (hs : swapsWith e (some (.Name x p')) pos.line X.env = pure false := by rfl)
    (hf : X.fn x = true ∨ X.env.scope.names.lookup x = some .local := by first | exact .inl rfl | exact .inr rfl | assumption) : PDs F X E (.Assign [.Name x p'] e pos) (fun ρ => fa ρ >>= fun d => pure (.nx (ρ.set i (some d)))) := by
  obtain ⟨t, p, q⟩ := h
  refine ⟨_, ps_set hN hi hx p hs hf, fun ρ m W σ H s k N h => q ρ m W σ H s k _ ((PostR.bind h).imp fun W1 H1 m1 d e1 x1 k1 h1 v r => ?_)⟩
  exact PostR.pure k1 h1 _ (sl_set (s.mono x1) r)
theorem ev_setLc {K : PySem.W.Frag} {wi : TI} {tt : TT} {te : TE} {gg : TG} {i : Nat} {own' : List Nat} {F2 : Env → M D} (hq : ∀ ρ m W σ H, Sl K F W ρ σ → Ok K F W m H → ∀ Q : VK, PostE K F ((F2 ρ).run m) W H Q E → tLc wi gg tt te own' σ H Q) :
    EvS K F E (tAsg (tLc wi gg tt te own') (gName i)) (fun ρ => F2 ρ >>= fun d => pure (.nx (ρ.set i (some d)))) := fun ρ m W σ H s k N h =>
  hq ρ m W σ H s k _ ((PostR.bind h).imp fun W1 H1 m1 d e1 x1 k1 h1 v r => PostR.pure k1 h1 _ (sl_set (s.mono x1) r))
theorem pds_lc {i : Nat} {y : Str} {py spos : Pos} (hc : X.calm = true) (hN : X.N.Nodup) (hy : X.N[i]? = some y) (hyl : X.env.scope.names.lookup y = some .local) (hsw : swapsWith (.ListComp elt [⟨tg, iter, ifs, 0⟩] scope pos) (some (.Name y py)) spos.line X.env = pure true)
    (ok : BlkOk X.N X.env.scope scope own) (hi : PDi F X E tg iter fi) (B : Blk F X tg elt ifs scope (own.map (·.2)) is fg ft fe) (hs : ∀ x, foldedSetIterable iter X.env x = pure x := by intro _; rfl) :
    PDs F X E (.Assign [.Name y py] (.ListComp elt [⟨tg, iter, ifs, 0⟩] scope pos) spos) (fun ρ => (lcAll fi fg ft fe (own.map (·.2)) ρ >>= fun ds => pure (.lst ds)) >>= fun d => pure (.nx (ρ.set i (some d)))) := by
  obtain ⟨wi, pi, qi⟩ := hi
  refine ⟨_, ps_setLc hc hN hy hyl hsw pi ok B.pg B.pt B.pe hs, ev_setLc fun ρ m W σ H s k Q h => ?_⟩
  exact ev_lc qi B.eg B.et B.ee B.sub ρ m W σ H s k Q ((PostR.bind0 h (Ext.refl W H)).imp fun W1 H1 m1 ds e1 x1 k1 h1 => lc_end x1 k1 h1)
theorem pds_lcH {i : Nat} {y : Str} {py spos : Pos} (hc : X.calm = true) (hN : X.N.Nodup) (hy : X.N[i]? = some y) (hyl : X.env.scope.names.lookup y = some .local) (hsw : swapsWith (.ListComp elt [⟨tg, iter, ifs, 0⟩] scope pos) (some (.Name y py)) spos.line X.env = pure true)
    (ok : BlkOk X.N X.env.scope scope own) (hi : PDi F X E tg iter fi) (B : Blk F X tg elt ifs scope (own.map (·.2)) is fg ft fe) (hs : ∀ x, foldedSetIterable iter X.env x = pure x := by intro _; rfl) :
    PDs F X E (.Assign [.Name y py] (.ListComp elt [⟨tg, iter, ifs, 0⟩] scope pos) spos) (fun ρ => (lcAll fi fg ft fe (own.map (·.2)) ρ >>= fun ds => M.more (.lst ds)) >>= fun d => pure (.nx (ρ.set i (some d)))) := by
  obtain ⟨wi, pi, qi⟩ := hi
  refine ⟨_, ps_setLc hc hN hy hyl hsw pi ok B.pg B.pt B.pe hs, ev_setLc fun ρ m W σ H s k Q h => ?_⟩
  exact ev_lc qi B.eg B.et B.ee B.sub ρ m W σ H s k Q ((PostR.bind0 h (Ext.refl W H)).imp fun W1 H1 m1 ds e1 x1 k1 h1 => lc_endH x1 k1 h1)
theorem pds_pass : PDs F X E (.Pass pos) (fun ρ => pure (.nx ρ)) := ⟨_, ps_pass, fun ρ m W σ H s k N h => PostR.pure k h σ s⟩
theorem pds_break : PDs F X E (.Break pos) (fun ρ => pure (.bk ρ)) := ⟨_, ps_break, fun ρ m W σ H s k N h => PostR.pure k h σ s⟩
theorem pds_cont : PDs F X E (.Continue pos) (fun ρ => pure (.ct ρ)) := ⟨_, ps_continue, fun ρ m W σ H s k N h => PostR.pure k h σ s⟩
theorem pds_aug {x : Str} {p' : Pos} (i : Nat) (hN : X.N.Nodup) (hi : X.N[i]? = some x) (hx : Loc X.env.scope x) (h : PD F X E e fa) (hf : X.fn x = true ∨ X.env.scope.names.lookup x = some .local := by first | exact .inl rfl | exact .inr rfl | assumption) :
    PDs F X E (.AugAssign (.Name x p') .Add e pos) (fun ρ => slot ρ i >>= fun x => fa ρ >>= fun y => (match x, y with
      | .int a, .int b => pure (.int (a + b))
      | _, _ => M.bad) >>= fun d => pure (.nx (ρ.set i (some d)))) := by
  obtain ⟨t, p, q⟩ := h
  refine ⟨_, ps_aug hN hi hx p ip_add hf, fun ρ m W σ H s k N h => ?_⟩
  cases e1 : (ρ[i]?).join with
  | none => simp only [slot, e1] at h; exact h.elim
  | some d =>
    have e3 : slot ρ i = pure d := by unfold slot; rw [e1]; rfl
    dsimp only at h
    rw [e3, pure_bind'] at h
    have e2 : ρ[i]? = some (some d) := by
      cases q : ρ[i]? with
      | none => rw [q] at e1; cases e1
      | some z => rw [q] at e1; simp at e1; rw [e1]
    obtain ⟨v, h1, r⟩ := s.get i d e2
    refine ⟨v, h1, q ρ m W σ H s k _ ((PostR.bind h).imp fun W1 H1 m1 y e3 x1 k1 h3 u r3 => ?_)⟩
    cases r with
    | int a =>
      cases r3 with
      | int b => exact ⟨a, b, rfl, rfl, PostR.pure k1 h3 _ (sl_set (s.mono x1) (.int _))⟩
      | _ => exact h3.elim
    | _ => exact h3.elim
end
end Mir
set_option maxRecDepth 100000
namespace Mir
open PySem L2
open PyProof.Rows (envOfC)
section
variable {F : Str → Option V} {X : Cx} {E : XK} {pos : Pos} {a b e : Expr} {rest : List Expr} {fa fb fc : Env → M D} {ga gb : Env → M Bool} {is : List Nat} {fg : D → Env → M Env} {f g : Env → M Fl} {tg iter : Expr} {fi : Env → M (List D × Option Nat)} {body : List Stmt}
def whileL (gc : Env → M Bool) (fb : Env → M Fl) : Nat → Env → M Fl
  | 0, _ => M.bad
  | n + 1, ρ => gc ρ >>= fun t => if t = true then fb ρ >>= fun fl => match fl with
      | .nx ρ => whileL gc fb n ρ
      | .ct ρ => whileL gc fb n ρ
      | .bk ρ => pure (.nx ρ)
      | .rt d => pure (.rt d)
    else pure (.nx ρ)
theorem pds_while (n : Nat) {c : Expr} (hp : PassesOwn (model X.prog X.w) X.A X.env X.xe) (hc : PDt F X E c ga) (hb : PDss F X E body f) : PDs F X E (.While c body [] pos) (whileL ga f n) := by
  obtain ⟨tc, pc, qc⟩ := hc
  obtain ⟨tb, pb, qb⟩ := hb
  refine ⟨_, ps_while hp pc pb, fun ρ m W σ H s k N h => ?_⟩
  refine ⟨fun n σ2 H2 => ∃ W2 m2 ρ2, Ext W H W2 H2 ∧ Ok X.K F W2 m2 H2 ∧ Sl X.K F W2 ρ2 σ2 ∧ PostF X.K F ((whileL ga f n ρ2).run m2) W H N E, ⟨n, W, m, ρ, Ext.refl W H, k, s, h⟩, ?_⟩
  rintro n σ2 H2 ⟨W2, m2, ρ2, x2, k2, s2, h2⟩
  cases n with
  | zero => exact h2.elim
  | succ n =>
    refine qc ρ2 m2 W2 σ2 H2 s2 k2 _ ((PostR.bind0 h2 x2).imp fun W3 H3 m3 t e3 x3 k3 h3 => ?_)
    cases t with
    | false => exact h3 W3 H3 (x2.trans x3) k3 σ2 (s2.mono x3)
    | true =>
      refine ⟨fun σ' H' => ∃ m', m' < n + 1 ∧ ∃ W2 m2 ρ2, Ext W H W2 H' ∧ Ok X.K F W2 m2 H' ∧ Sl X.K F W2 ρ2 σ' ∧ PostF X.K F ((whileL ga f m' ρ2).run m2) W H N E, fun _ _ z => z, ?_⟩
      refine qb ρ2 m3 W3 σ2 H3 (s2.mono x3) k3 _ ((PostR.bind0 h3 (x2.trans x3)).imp fun W4 H4 m4 fl e4 x4 k4 h4 => ?_)
      have xx := (x2.trans x3).trans x4
      cases fl with
      | nx ρ4 => exact fun σ4 s4 => ⟨n, Nat.lt_succ_self n, W4, m4, ρ4, xx, k4, s4, h4⟩
      | ct ρ4 => exact fun σ4 s4 => ⟨n, Nat.lt_succ_self n, W4, m4, ρ4, xx, k4, s4, h4⟩
      | bk ρ4 => exact fun σ4 s4 => h4 W4 H4 xx k4 σ4 s4
      | rt d => exact fun v r => h4 W4 H4 xx k4 v r
def forL (fg : D → Env → M Env) (fb : Env → M Fl) : List D → Env → M Fl
  | [], ρ => pure (.nx ρ)
  | d :: ds, ρ => fg d ρ >>= fun ρ => fb ρ >>= fun fl => match fl with
    | .nx ρ => forL fg fb ds ρ
    | .ct ρ => forL fg fb ds ρ
    | .bk ρ => pure (.nx ρ)
    | .rt d => pure (.rt d)
def forAll (fi : Env → M (List D × Option Nat)) (fg : D → Env → M Env) (fb : Env → M Fl) (ρ : Env) : M Fl := fi ρ >>= fun p => M.guard (p.2 == none) >>= fun _ => forL fg fb p.1 ρ
theorem pds_for (hp : PassesOwn (model X.prog X.w) X.A X.env X.xe) (hc : X.calm = true) (hi : PDi F X E tg iter fi) (hg : PDg F X E tg is fg) (hb : PDss F X E body f) (hs : ∀ x, foldedSetIterable iter X.env x = pure x := by intro _; rfl) :
    PDs F X E (.For tg iter body [] pos) (forAll fi fg f) := by
  obtain ⟨wi, pi, qi⟩ := hi
  obtain ⟨gg, pg, qg⟩ := hg
  obtain ⟨tb, pb, qb⟩ := hb
  refine ⟨_, ps_for hp hc pi pg pb hs, fun ρ m W σ H s k N h => ?_⟩
  refine qi ρ m W σ H s k _ ((PostR.bind0 h (Ext.refl W H)).imp fun W1 H1 m1 pr e1 x1 k1 h1 J hJ => ?_)
  obtain ⟨ds, o⟩ := pr
  obtain ⟨g0, h1⟩ := gd (A := Fl) h1
  have ho : o = none := by simpa using g0
  subst ho
  refine ⟨fun i mm σ2 H2 => mm = ds.length - i ∧ i ≤ ds.length ∧ ∃ W2 m2 ρ2, Ext W1 H1 W2 H2 ∧ Ok X.K F W2 m2 H2 ∧ Sl X.K F W2 ρ2 σ2 ∧ PostF X.K F ((forL fg f (ds.drop i) ρ2).run m2) W H N E, ⟨ds.length, rfl, Nat.zero_le _, W1, m1, ρ, Ext.refl _ _, k1, s.mono x1, h1⟩, ?_⟩
  rintro i mm σ2 H2 ⟨rfl, hi2, W2, m2, ρ2, x2, k2, s2, h2⟩
  have xx : Ext W H W2 H2 := x1.trans x2
  obtain ⟨items, stop⟩ := hJ W2 m2 H2 x2 k2 trivial
  by_cases hlt : i < ds.length
  · obtain ⟨go, yl⟩ := items i ds[i] (List.getElem?_eq_getElem hlt)
    refine .inr ⟨go, fun σ' H' => ∃ m', m' < ds.length - i ∧ (m' = ds.length - (i + 1) ∧ i + 1 ≤ ds.length ∧ ∃ W2 m2 ρ2, Ext W1 H1 W2 H' ∧ Ok X.K F W2 m2 H' ∧ Sl X.K F W2 ρ2 σ' ∧ PostF X.K F ((forL fg f (ds.drop (i + 1)) ρ2).run m2) W H N E), fun _ _ z => z, fun x H3 hy => ?_⟩
    obtain ⟨W3, x3, k3, r3⟩ := yl x H3 hy
    have ed : ds.drop i = ds[i] :: ds.drop (i + 1) := List.drop_eq_getElem_cons hlt
    rw [ed] at h2
    have xt : Ext W H W3 H3 := xx.trans x3
    refine qg ds[i] ρ2 m2 W3 σ2 H3 x (s2.mono x3) k3 r3 _ ((PostR.bind0 h2 xt).imp fun W4 H4 m4 ρ4 e4 x4 k4 h4 σ4 s4 o4 => ?_)
    refine qb ρ4 m4 W4 σ4 H4 s4 k4 _ ((PostR.bind0 h4 (xt.trans x4)).imp fun W5 H5 m5 fl e5 x5 k5 h5 => ?_)
    have xe := (xt.trans x4).trans x5
    have x15 := x2.trans (x3.trans (x4.trans x5))
    cases fl with
    | nx ρ5 => exact fun σ5 s5 => ⟨ds.length - (i + 1), by omega, rfl, hlt, W5, m5, ρ5, x15, k5, s5, h5⟩
    | ct ρ5 => exact fun σ5 s5 => ⟨ds.length - (i + 1), by omega, rfl, hlt, W5, m5, ρ5, x15, k5, s5, h5⟩
    | bk ρ5 => exact fun σ5 s5 => h5 W5 H5 xe k5 σ5 s5
    | rt d => exact fun v r => h5 W5 H5 xe k5 v r
  · have e : i = ds.length := by omega
    subst e
    rw [List.drop_length] at h2
    exact .inl ⟨stop, h2 W2 H2 xx k2 σ2 s2⟩
def M.app (k : Nat) (d : D) : M Unit := ⟨fun m => match m[k]? with
  | some (.lst ds) => if ds.length < sizeLine then .ok () (m.set k (.lst (ds ++ [d]))) else .bad
  | _ => .bad⟩
def M.put (k : Nat) (i : Int) (d : D) : M Unit := ⟨fun m => match m[k]? with
  | some (.lst ds) => match ixN ds.length i with
    | some j => .ok () (m.set k (.lst (ds.set j d)))
    | none => .bad
  | _ => .bad⟩
def D.ref : D → M Nat
  | .hnd k => pure k
  | _ => M.bad
def M.isL (k : Nat) : M Unit := ⟨fun m => match m[k]? with
  | some (.lst _) => .ok () m
  | _ => .bad⟩
theorem isL_ok {A : Type} {K : PySem.W.Frag} {W : Wd} {H : Hp} {m : Mu} {k : Nat} {fx : M A} {Q : Wd → Hp → Mu → A → Prop} (h : PostR K F ((M.isL k >>= fun _ => fx).run m) W H Q E) : (∃ ds, m[k]? = some (.lst ds)) ∧ PostR K F (fx.run m) W H Q E := by
  rw [bind_run] at h
  cases e : m[k]? with
  | none => simp only [M.isL, e] at h; exact h.elim
  | some o =>
    cases o with
    | lst ds =>
      simp only [M.isL, e] at h
      exact ⟨⟨ds, rfl⟩, h⟩
theorem pd_append {apos : Pos} (ha : PD F X E a fa) (hb : PD F X E b fb) (hbase : attributeBase a "append" X.env (eval a X.env) = eval a X.env := by rfl)
    (hfew : ((backTo pos (starEach (b :: []) X.env)).all (fun x => !x.1) && (backToKw pos (keywordEach [] X.env)).all (fun x => x.1.isSome)
      && decide ((b :: []).length + ([] : List Keyword).length + (if ([] : List Keyword).isEmpty then 0 else 1) < 30)) = true := by rfl)
    (hline : (apos.endLine == pos.line) = true := by rfl) (hs : starEach (b :: []) X.env = (false, eval b X.env) :: starEach [] X.env := by rfl) (hplain : (backTo pos (starEach [] X.env)).any (·.1) = false := by rfl) :
    PD F X E (.Call (.Attribute a "append" apos) [b] [] pos) (fun ρ => fa ρ >>= fun x => D.ref x >>= fun k => M.isL k >>= fun _ => fb ρ >>= fun y => M.app k y >>= fun _ => pure .non) := by
  obtain ⟨t, p, q⟩ := ha
  obtain ⟨t', p', q'⟩ := hb
  refine ⟨_, pe_bm PySem.F.plainAttrs_list PySem.F.slot_list_append PySem.F.type_list_append mt_append p (pa_cons p' pa_nil hs) hbase hfew hline hs hplain, fun ρ m W σ H s k Q h => ?_⟩
  refine q ρ m W σ H s k _ ((PostR.bind h).imp fun W1 H1 m1 d e1 x1 k1 h1 v r1 => ?_)
  cases r1 with
  | @hnd pp i hp =>
    obtain ⟨⟨ds, hd⟩, h1⟩ := isL_ok h1
    obtain ⟨vs, hH, rv⟩ := k1.ob i pp _ hp hd
    refine ⟨.inl ⟨rfl, vs, .inl (.inl hH)⟩, q' ρ m1 W1 σ H1 (s.mono x1) k1 _ ((PostR.bind h1).imp fun W2 H2 m2 d2 e2 x2 k2 h2 v2 r2 => ?_)⟩
    have hp2 : W2.al[i]? = some pp := by
      obtain ⟨r, q⟩ := x2.al
      rw [q, List.getElem?_append_left (List.getElem?_eq_some_iff.mp hp).1]
      exact hp
    cases e3 : m2[i]? with
    | none => simp only [bind_run, M.app, e3] at h2; exact h2.elim
    | some o =>
      cases o with
      | lst es =>
        simp only [bind_run, M.app, e3] at h2
        obtain ⟨us, h3, r3⟩ := k2.ob i pp _ hp2 e3
        by_cases hl : es.length < sizeLine
        · simp only [if_pos hl] at h2
          refine ⟨pp, us, v2, rfl, rfl, h3, by rw [r3.length]; exact hl, ?_⟩
          have ob : ObR X.K F W2 (upd H2 pp (.lst (us ++ [v2]))) pp (.lst (es ++ [d2])) := ⟨_, upd_same, r3.append (.cons r2 .nil)⟩
          exact h2 W2 (upd H2 pp (.lst (us ++ [v2]))) (Ext.write hp2) (k2.write hp2 ob) _ .non
        · simp only [if_neg hl] at h2
          exact h2.elim
  | _ => exact h1.elim
theorem pdg_sub {p2 : Pos} {is : List Nat} (ha : PD F X E a fa) (hb : PD F X E b fb) (hw : ∀ v, assign (.Subscript a b p2) X.env v = (do
      let ov ← holding [v] (eval a X.env)
      let iv ← holding [v, ov] (eval b X.env)
      standAt p2
      holding [v, ov, iv] (setItem ov iv v)
      release [v, ov, iv] []) := by intro _; rfl) : PDg F X E (.Subscript a b p2) is (fun d ρ => fa ρ >>= fun x => D.ref x >>= fun k => fb ρ >>= fun y => D.part y >>= fun o => (match o with
    | some i => M.put k i d
    | none => M.bad) >>= fun _ => pure ρ) := by
  obtain ⟨t, p, q⟩ := ha
  obtain ⟨t', p', q'⟩ := hb
  refine ⟨_, pg_sub p p' set_list hw, fun d ρ m W σ H v s k r Q h => ?_⟩
  refine q ρ m W σ H s k _ ((PostR.bind h).imp fun W1 H1 m1 x e1 x1 k1 h1 u r1 => ?_)
  cases r1 with
  | @hnd pp i hp =>
    have h1 : PostR X.K F ((fb ρ >>= fun y => D.part y >>= fun o => (match o with
      | some j => M.put i j d
      | none => M.bad) >>= fun _ => pure ρ).run m1) W1 H1 (fun W' H' _ ρ' => ∀ σ', Sl X.K F W' ρ' σ' → Out is σ σ' → Q σ' H') E := h1
    refine q' ρ m1 W1 σ H1 (s.mono x1) k1 _ ((PostR.bind h1).imp fun W2 H2 m2 y e2 x2 k2 h2 u2 r2 => ?_)
    cases r2 with
    | int j =>
      have hp2 : W2.al[i]? = some pp := by
        obtain ⟨r, q⟩ := x2.al
        rw [q, List.getElem?_append_left (List.getElem?_eq_some_iff.mp hp).1]
        exact hp
      have h2 : PostR X.K F ((M.put i j d >>= fun _ => pure ρ).run m2) W2 H2 (fun W' H' _ ρ' => ∀ σ', Sl X.K F W' ρ' σ' → Out is σ σ' → Q σ' H') E := h2
      cases e3 : m2[i]? with
      | none => simp only [bind_run, M.put, e3] at h2; exact h2.elim
      | some o =>
        cases o with
        | lst es =>
          simp only [bind_run, M.put, e3] at h2
          obtain ⟨us, h3, r3⟩ := k2.ob i pp _ hp2 e3
          cases e4 : ixN es.length j with
          | none => simp only [e4] at h2; exact h2.elim
          | some n =>
            simp only [e4] at h2
            have ob : ObR X.K F W2 (upd H2 pp (.lst (us.set n v))) pp (.lst (es.set n d)) := ⟨_, upd_same, r3.set ((r.mono x1).mono x2) n⟩
            exact ⟨pp, us, j, n, rfl, rfl, h3, by rw [r3.length]; exact e4, h2 W2 _ (Ext.write hp2) (k2.write hp2 ob) σ ((s.mono x1).mono x2) out_refl⟩
    | _ => exact h2.elim
  | _ => exact h1.elim
def spM (K : PySem.W.Frag) (F : Str → Option V) (n : Nat) (g : List D → M D) : Sp := fun vs H Q E => vs.length = n ∧ ∃ W m ds, Rps K F W vs ds ∧ Ok K F W m H ∧ PostE K F ((g ds).run m) W H Q E
def endOf : Fl → M D
  | .nx _ => pure .non
  | .rt d => pure d
  | _ => M.bad
def startE (n : Nat) (ds : List D) : Env := ds.map some ++ List.replicate (n - ds.length) none
def mirK (n : Nat) (f : Env → M Fl) (ds : List D) : M D := M.noexc (f (startE n ds) >>= endOf)
theorem sl_start {K : PySem.W.Frag} {W : Wd} {N : List Str} {vs : List V} {ds : List D} (r : Rps K F W vs ds) : Sl K F W (startE N.length ds) (L2.start N vs) := by
  refine ⟨?_, fun i d h => ?_⟩
  · unfold startE L2.start
    rw [List.length_append, List.length_append, List.length_map, List.length_map, List.length_replicate, List.length_replicate, r.length]
  · unfold startE at h
    unfold L2.start
    by_cases hi : i < ds.length
    · rw [List.getElem?_append_left (by rw [List.length_map]; exact hi), List.getElem?_map] at h
      cases e : ds[i]? with
      | none => rw [e] at h; cases h
      | some z =>
        rw [e] at h
        cases h
        obtain ⟨v, h1, h2⟩ := r.get e
        exact ⟨v, by rw [List.getElem?_append_left (by rw [List.length_map, r.length]; exact hi), List.getElem?_map, h1]; rfl, h2⟩
    · rw [List.getElem?_append_right (by rw [List.length_map]; omega), List.getElem?_replicate] at h
      split at h <;> cases h
variable {P : Program} {w : World} {K : PySem.W.Frag} {mg : Str → Option Value} {base : Heap}
abbrev cxB (P : Program) (w : World) (K : PySem.W.Frag) (mg : Str → Option Value) (base : Heap) (N : List Str) (qual : Str) (st : Stmt) (f : Addr) (cdv : Value) (A : Around) (outer : List PySem.Env) (s : Shared) (H : Hp) (E : XK) : Cx := (cxOf CX0 P w K mg base N qual (defScope st) f cdv A outer s H E).nox
theorem fn_run {K : PySem.W.Frag} {N : List Str} {vs : List V} {H : Hp} {Q : VK} {E : XK} {n : Nat} {t : TS} {body : Env → M Fl} {gg : List D → M D} (q : EvS K F XKF t body) (hg : ∀ ds W m H Q, Ok K F W m H → PostE K F ((gg ds).run m) W H Q E → PostE K F ((mirK N.length body ds).run m) W H Q E)
    (h : spM K F n gg vs H Q E) : t { nx := fun _ H' => Q .non H', rt := Q } (L2.start N vs) H := by
  obtain ⟨_, W, m, ds, r, k, h⟩ := h
  have h := PostR.noexc (E' := XKF) (hg ds W m H Q k h)
  refine q (startE N.length ds) m W (L2.start N vs) H (sl_start r) k _ ((PostR.bind0 h (Ext.refl W H)).imp fun W1 H1 m1 fl e1 x1 k1 h1 => ?_)
  cases fl with
  | nx ρ => exact fun σ s => h1 W1 H1 x1 k1 _ .non
  | rt d => exact fun v r => h1 W1 H1 x1 k1 v r
  | bk ρ => exact h1.elim
  | ct ρ => exact h1.elim
theorem fn_ok {x qual : Str} {st : Stmt} {f : Addr} {fd : FuncData} {N ps : List Str} {k : Nat} {body : Env → M Fl} (FF : Fun K x qual st f fd) (S : FnScope N ps (defScope st))
    (h : ∀ (cdv : Value) (A : Around) (outer : List PySem.Env) (s : Shared) (H : Hp) (E : XK), Room k (A.deeper (envOfC qual (defScope st) s.heap.objs.size f cdv)) → PDss F (cxB P w K mg base N qual st f cdv A outer s H E) XKF (defBody st) body) :
    FnOk P w K mg base CX0 (k + 1) f fd ps (spM K F ps.length (mirK N.length body)) := by
  refine FF.ok S (fun vs H Q E h => h.1) fun cdv A outer s H vs Q E hr hs => ?_
  obtain ⟨t, p, q⟩ := h cdv A outer s H E hr
  exact ⟨t, p, fn_run q (fun _ _ _ _ _ _ h => h) hs⟩
theorem fn_okD {x qual : Str} {st : Stmt} {dvs : List V} {kws : List (Str × V)} {f : Addr} {fd : FuncData} {N ps : List Str} {k : Nat} {body : Env → M Fl} (FF : FunD K x qual (defArgs st) (defBody st) (defScope st) dvs kws f fd) (S : FnScope N ps (defScope st))
    (h : ∀ (cdv : Value) (A : Around) (outer : List PySem.Env) (s : Shared) (H : Hp) (E : XK), Room k (A.deeper (envOfC qual (defScope st) s.heap.objs.size f cdv)) → PDss F (cxB P w K mg base N qual st f cdv A outer s H E) XKF (defBody st) body) :
    FnOk P w K mg base CX0 (k + 1) f fd ps (spM K F ps.length (mirK N.length body)) := by
  refine FF.ok S (fun vs H Q E h => h.1) fun cdv A outer s H vs Q E hr hs => ?_
  obtain ⟨t, p, q⟩ := h cdv A outer s H E hr
  exact ⟨t, p.nox, fn_run q (fun _ _ _ _ _ _ h => h) hs⟩
theorem fn_as {CX : CXT} {k n : Nat} {f : Addr} {fd : FuncData} {ps : List Str} {g g' : List D → M D} (h : FnOk P w K mg base CX k f fd ps (spM K F n g)) (e : g' = g) : FnOk P w K mg base CX k f fd ps (spM K F n g') := by
  rw [e]
  exact h
variable {CX : CXT} {k : Nat} {fd : FuncData} {ps : List Str} {x : Str} {p apos : Pos} {es : List Expr} {fs : Env → M (List D)} {gg : List D → M D} {n : Nat}
theorem ev_call {t : TA} {dvs : List V} {dds : List D} (hd : ∀ W, Rps K F W dvs dds) (hn : ∀ ds : List D, n = (ds ++ dds).length ∨ n ≠ (ds ++ dds).length) (q : EvA K F E t fs) : EvE K F E (tCall (spM K F n gg) dvs E t) (fun ρ => fs ρ >>= fun ds => M.guard (decide ((ds ++ dds).length = n)) >>= fun _ => gg (ds ++ dds)) := fun ρ m W σ H s k Q h => by
  refine q ρ m W σ H s k _ ((PostR.bind h).imp fun W1 H1 m1 ds e1 x1 k1 h1 vs r => ?_)
  obtain ⟨g, h1⟩ := gd (A := D) h1
  have r2 := r.append (hd W1)
  exact ⟨by rw [r2.length]; exact of_decide_eq_true g, W1, m1, ds ++ dds, r2, k1, h1⟩
theorem pd_call {f : Addr} {dds : List D} {dvs : List V} {ds : List Value} (G : FnOk X.prog X.w X.K X.mg X.base CX0 k f fd ps (spM X.K F n gg)) (hr : Room k X.A) (hg : Gl X x) (hm : X.mg x = some (.ref f)) (hk : PySem.W.keepIn X.K (.ref f) = true)
    (hb : Binds X.K fd ps ds) (hd : Vals dvs ds) (hdd : ∀ W, Rps X.K F W dvs dds) (ha : PDa F X XKF (e :: es) fs) (hdb : (x == ("__debug__" : Str)) = false := by decide) (he : starEach (e :: es) X.env = (false, eval e X.env) :: starEach es X.env := by rfl) (hpl : (backTo pos (starEach es X.env)).any (·.1) = false := by rfl) :
    PD F X XKF (.Call (.Name x p) (e :: es) [] pos) (fun ρ => fs ρ >>= fun ds => M.guard (decide ((ds ++ dds).length = n)) >>= fun _ => gg (ds ++ dds)) := by
  obtain ⟨t, pa, qa⟩ := ha
  exact ⟨_, pe_call G hr hg hm hk hb hd pass0 pa hdb he hpl, ev_call hdd (fun _ => Decidable.em _) qa⟩
theorem pd_call1 {f : Addr} (G : FnOk X.prog X.w X.K X.mg X.base CX0 k f fd ps (spM X.K F n gg)) (hr : Room k X.A) (hg : Gl X x) (hm : X.mg x = some (.ref f)) (hk : PySem.W.keepIn X.K (.ref f) = true)
    (hb : Binds X.K fd ps []) (ha : PDa F X XKF (e :: es) fs) (hdb : (x == ("__debug__" : Str)) = false := by decide) (he : starEach (e :: es) X.env = (false, eval e X.env) :: starEach es X.env := by rfl) (hpl : (backTo pos (starEach es X.env)).any (·.1) = false := by rfl) :
    PD F X XKF (.Call (.Name x p) (e :: es) [] pos) (fun ρ => fs ρ >>= fun ds => M.guard (decide (ds.length = n)) >>= fun _ => gg ds) := by
  have q := pd_call (p := p) (pos := pos) (dds := []) G hr hg hm hk hb .nil (fun _ => .nil) ha hdb he hpl
  simp only [List.append_nil] at q
  exact q
end
end Mir
set_option maxRecDepth 100000
namespace Mir
open PySem L2
open PyProof.Rows (envOfC)
def eVar (i : Nat) : Env → M D := fun ρ => slot ρ i
def eC (d : D) : Env → M D := fun _ => pure d
def eBin (g : D → D → M D) (fa fb : Env → M D) : Env → M D := fun ρ => fa ρ >>= fun x => fb ρ >>= fun y => g x y
def eChain (g g' : D → D → M D) (fa fb fc : Env → M D) : Env → M D := fun ρ => fa ρ >>= fun x => fb ρ >>= fun y => (g x y >>= D.bool) >>= fun t => if t = true then fc ρ >>= fun z => g' y z else pure (.bl false)
def tBool (fa : Env → M D) : Env → M Bool := fun ρ => fa ρ >>= D.bool
def tTru (fa : Env → M D) : Env → M Bool := fun ρ => fa ρ >>= D.tru
def tNeg (ga : Env → M Bool) : Env → M Bool := fun ρ => ga ρ >>= fun t => pure (!t)
def tAn (ga gb : Env → M Bool) : Env → M Bool := fun ρ => ga ρ >>= fun t => if t = true then gb ρ else pure false
def tOrr (ga gb : Env → M Bool) : Env → M Bool := fun ρ => ga ρ >>= fun t => if t = true then pure true else gb ρ
def eAnd (fa fb : Env → M D) : Env → M D := fun ρ => fa ρ >>= fun x => x.tru >>= fun t => if t = true then fb ρ else pure x
def eOr (fa fb : Env → M D) : Env → M D := fun ρ => fa ρ >>= fun x => x.tru >>= fun t => if t = true then pure x else fb ρ
def eNot (fa : Env → M D) : Env → M D := fun ρ => fa ρ >>= fun x => x.tru >>= fun t => pure (.bl (!t))
def eIf (ga : Env → M Bool) (fa fb : Env → M D) : Env → M D := fun ρ => ga ρ >>= fun t => if t = true then fa ρ else fb ρ
def D.neg : D → M D
  | .int i => pure (.int (-i))
  | _ => M.bad
def eUn (g : D → M D) (fa : Env → M D) : Env → M D := fun ρ => fa ρ >>= g
def aNil : Env → M (List D) := fun _ => pure []
def aCons (fa : Env → M D) (f : Env → M (List D)) : Env → M (List D) := fun ρ => fa ρ >>= fun x => f ρ >>= fun xs => pure (x :: xs)
def eTup (f : Env → M (List D)) : Env → M D := fun ρ => f ρ >>= fun xs => M.guard (decide (xs.length ≤ sizeLine)) >>= fun _ => pure (.tup xs)
def eLst (f : Env → M (List D)) : Env → M D := fun ρ => f ρ >>= fun xs => M.guard (decide (xs.length ≤ sizeLine)) >>= fun _ => pure (.lst xs)
def eLstH (f : Env → M (List D)) : Env → M D := fun ρ => f ρ >>= fun xs => M.guard (decide (xs.length ≤ sizeLine)) >>= fun _ => M.more (.lst xs)
def oNone : Env → M (Option Int) := fun _ => pure none
def oSome (fa : Env → M D) : Env → M (Option Int) := fun ρ => fa ρ >>= D.part
def eSlice (fa : Env → M D) (fl fh : Env → M (Option Int)) : Env → M D := fun ρ => fa ρ >>= fun x => fl ρ >>= fun l => fh ρ >>= fun u => D.slice x l u
def eB (g : List D → M D) (f : Env → M (List D)) : Env → M D := fun ρ => f ρ >>= g
def jNil : Env → Str → M Str := fun _ acc => pure acc
def jCons (fa : Env → M D) (f : Env → Str → M Str) : Env → Str → M Str := fun ρ acc => fa ρ >>= fun x => D.onto acc x >>= fun acc => f ρ acc
def eJoined (f : Env → Str → M Str) : Env → M D := fun ρ => f ρ Str.empty >>= fun x => pure (.str x)
def eM1 (g : Str → D → M D) (fa fb : Env → M D) : Env → M D := fun ρ => fa ρ >>= fun x => D.text x >>= fun x => fb ρ >>= fun y => g x y
def iVal (fa : Env → M D) : Env → M (List D × Option Nat) := fun ρ => fa ρ >>= D.iter
def iRange1 (fa : Env → M D) : Env → M (List D × Option Nat) := fun ρ => fa ρ >>= fun x => D.range1 [x]
def iRange2 (fa fb : Env → M D) : Env → M (List D × Option Nat) := fun ρ => fa ρ >>= fun x => fb ρ >>= fun y => D.range2 [x, y]
def gNam (i : Nat) : D → Env → M Env := fun d ρ => pure (ρ.set i (some d))
def gsNil : List D → Env → M Env := fun ds ρ => match ds with
  | [] => pure ρ
  | _ => M.bad
def gsCons (f : D → Env → M Env) (fs : List D → Env → M Env) : List D → Env → M Env := fun ds ρ => match ds with
  | d :: ds => f d ρ >>= fun ρ => fs ds ρ
  | _ => M.bad
def gTp (n : Nat) (fs : List D → Env → M Env) : D → Env → M Env := fun d ρ => D.unpack n d >>= fun ds => fs ds ρ
def M.puto (k : Nat) (o : Option Int) (d : D) : M Unit := match o with
  | some i => M.put k i d
  | none => M.bad
def gSb (fa fb : Env → M D) : D → Env → M Env := fun d ρ => fa ρ >>= fun x => D.ref x >>= fun k => fb ρ >>= fun y => D.part y >>= fun o => M.puto k o d >>= fun _ => pure ρ
def D.iadd : D → D → M D
  | .int a, .int b => pure (.int (a + b))
  | _, _ => M.bad
def eLc (fi : Env → M (List D × Option Nat)) (fg : D → Env → M Env) (ft : Env → M Bool) (fe : Env → M D) (own : List Nat) : Env → M D := fun ρ => lcAll fi fg ft fe own ρ >>= fun ds => pure (.lst ds)
def eLcH (fi : Env → M (List D × Option Nat)) (fg : D → Env → M Env) (ft : Env → M Bool) (fe : Env → M D) (own : List Nat) : Env → M D := fun ρ => lcAll fi fg ft fe own ρ >>= fun ds => M.more (.lst ds)
def tAll : Env → M Bool := fun _ => pure true
def eApp (fa fb : Env → M D) : Env → M D := fun ρ => fa ρ >>= fun x => D.ref x >>= fun k => M.isL k >>= fun _ => fb ρ >>= fun y => M.app k y >>= fun _ => pure .non
def eCall (n : Nat) (gg : List D → M D) (fs : Env → M (List D)) : Env → M D := fun ρ => fs ρ >>= fun ds => M.guard (decide (ds.length = n)) >>= fun _ => gg ds
def eCallD (n : Nat) (dds : List D) (gg : List D → M D) (fs : Env → M (List D)) : Env → M D := fun ρ => fs ρ >>= fun ds => M.guard (decide ((ds ++ dds).length = n)) >>= fun _ => gg (ds ++ dds)
def sNil : Env → M Fl := fun ρ => pure (.nx ρ)
def sCons (f g : Env → M Fl) : Env → M Fl := fun ρ => f ρ >>= fun fl => flow fl g
def sRet (fa : Env → M D) : Env → M Fl := fun ρ => fa ρ >>= fun d => pure (.rt d)
def sRetN : Env → M Fl := fun _ => pure (.rt .non)
def sExpr (fa : Env → M D) : Env → M Fl := fun ρ => fa ρ >>= fun _ => pure (.nx ρ)
def sIf (ga : Env → M Bool) (f g : Env → M Fl) : Env → M Fl := fun ρ => ga ρ >>= fun t => if t = true then f ρ else g ρ
def sAsg (fa : Env → M D) (fg : D → Env → M Env) : Env → M Fl := fun ρ => fa ρ >>= fun d => fg d ρ >>= fun ρ => pure (.nx ρ)
def sSet (i : Nat) (fa : Env → M D) : Env → M Fl := fun ρ => fa ρ >>= fun d => pure (.nx (ρ.set i (some d)))
def sAug (i : Nat) (fa : Env → M D) : Env → M Fl := fun ρ => slot ρ i >>= fun x => fa ρ >>= fun y => D.iadd x y >>= fun d => pure (.nx (ρ.set i (some d)))
def sWhile (n : Nat) (ga : Env → M Bool) (f : Env → M Fl) : Env → M Fl := whileL ga f n
def sFor (fi : Env → M (List D × Option Nat)) (fg : D → Env → M Env) (f : Env → M Fl) : Env → M Fl := forAll fi fg f
def sBreak : Env → M Fl := fun ρ => pure (.bk ρ)
def sCont : Env → M Fl := fun ρ => pure (.ct ρ)
section
variable {F : Str → Option V} {X : Cx} {E : XK} {pos : Pos} {a b c e : Expr} {rest : List Expr} {fa fb fc : Env → M D} {ga gb : Env → M Bool} {f g : Env → M Fl} {st : Stmt} {sts : List Stmt} {es : List Expr} {fs : Env → M (List D)}
theorem x_var {x : Str} (i : Nat) (hN : X.N[i]? = some x := by rfl) (hv : Vis X.env.scope x := by first | exact Or.inl rfl | exact Or.inr (Or.inl rfl) | exact Or.inr (Or.inr rfl)) (hd : (x == ("__debug__" : Str)) = false := by decide)
    (hcd : (x == ("__classdict__" : Str)) = false := by decide) : PD F X E (.Name x pos) (eVar i) := pd_var i hN hv hd hcd
theorem x_int {i : Int} {j : Nat} : PD F X E (.Constant (.int i) j pos) (eC (.int i)) := pd_int
theorem x_str {x : Str} {j : Nat} : PD F X E (.Constant (.str x) j pos) (eC (.str x)) := pd_str
theorem x_bl {x : Bool} {j : Nat} : PD F X E (.Constant (.bool x) j pos) (eC (.bl x)) := pd_bl
theorem x_non {j : Nat} : PD F X E (.Constant .none j pos) (eC .non) := pd_non
def GlD (K : PySem.W.Frag) (F : Str → Option V) (mg : Str → Option Value) (x : Str) (d : D) : Prop := ∃ u v, mg x = some u ∧ RelV v u ∧ ∀ W, Rp K F W v d
theorem x_glob {x : Str} {d : D} (h : GlD X.K F X.mg x d) (hg : Gl X x := by rfl) (hd : (x == ("__debug__" : Str)) = false := by decide) : PD F X E (.Name x pos) (eC d) := by
  obtain ⟨u, v, h1, h2, h3⟩ := h
  exact pd_glob hg h1 h2 h3 hd
theorem x_add (ha : PD F X E a fa) (hb : PD F X E b fb) : PD F X E (.BinOp a .Add b pos) (eBin D.add fa fb) := pd_add ha hb
theorem x_sub (ha : PD F X E a fa) (hb : PD F X E b fb) : PD F X E (.BinOp a .Sub b pos) (eBin D.sub fa fb) := pd_sub ha hb
theorem x_mul (ha : PD F X E a fa) (hb : PD F X E b fb) : PD F X E (.BinOp a .Mult b pos) (eBin D.mul fa fb) := pd_mul ha hb
theorem x_fdiv (ha : PD F X E a fa) (hb : PD F X E b fb) : PD F X E (.BinOp a .FloorDiv b pos) (eBin D.fdiv fa fb) := pd_fdiv ha hb
theorem x_mod (ha : PD F X E a fa) (hb : PD F X E b fb) : PD F X E (.BinOp a .Mod b pos) (eBin D.mod fa fb) := pd_mod ha hb
theorem x_pow (ha : PD F X E a fa) (hb : PD F X E b fb) : PD F X E (.BinOp a .Pow b pos) (eBin D.pow fa fb) := pd_pow ha hb
theorem x_neg (ha : PD F X E a fa) : PD F X E (.UnaryOp .USub a pos) (eUn D.neg fa) := by
  have h := pd_neg (pos := pos) ha
  have e : eUn D.neg fa = (fun ρ => fa ρ >>= fun x => match x with
    | .int i => pure (.int (-i))
    | _ => M.bad) := by
    funext ρ
    show (fa ρ >>= D.neg) = _
    congr 1
  rw [e]
  exact h
structure Cop (F : Str → Option V) (X : Cx) (E : XK) (op : CmpOp) (g : D → D → M D) : Prop where
  ex : ∃ r, OpR X (compareOp op) r ∧ OpD X.K F E r g
theorem c_lt : Cop F X E .Lt D.lt := ⟨_, op_lt, opd_lt⟩
theorem c_le : Cop F X E .LtE D.le := ⟨_, op_le, opd_le⟩
theorem c_gt : Cop F X E .Gt D.gt := ⟨_, op_gt, opd_gt⟩
theorem c_ge : Cop F X E .GtE D.ge := ⟨_, op_ge, opd_ge⟩
theorem c_eq (hu : X.A.units + 64 < cLine) : Cop F X E .Eq D.eq := ⟨_, op_or2 op_eq (op_eqD hu), opd_eq⟩
theorem c_ne (hu : X.A.units + 64 < cLine) : Cop F X E .NotEq D.ne := ⟨_, op_or2 op_ne (op_neD hu), opd_ne⟩
theorem c_in (hu : X.A.units + 65 < cLine) : Cop F X E .In D.isIn := ⟨_, op_inA hu, opd_inA⟩
theorem c_notIn (hu : X.A.units + 65 < cLine) : Cop F X E .NotIn D.notIn := ⟨_, op_notInA hu, opd_inA⟩
theorem x_cmp {op : CmpOp} {gg : D → D → M D} (o : Cop F X E op gg) (ha : PD F X E a fa) (hb : PD F X E b fb) (hm : behindInMarks op b = false := by first | rfl | exact nomark _) : PD F X E (.Compare a [op] [b] pos) (eBin gg fa fb) := by
  obtain ⟨r, h1, h2⟩ := o
  exact pd_cmp h1 h2 ha hb hm
theorem t_cmp {op : CmpOp} {gg : D → D → M D} (o : Cop F X E op gg) (ha : PD F X E a fa) (hb : PD F X E b fb) (hm : behindInMarks op b = false := by first | rfl | exact nomark _) : PDt F X E (.Compare a [op] [b] pos) (tBool (eBin gg fa fb)) := by
  obtain ⟨r, h1, h2⟩ := o
  exact pt_cmp h1 h2 ha hb hm
theorem x_chain {op op' : CmpOp} {gg gg' : D → D → M D} (o : Cop F X E op gg) (o' : Cop F X E op' gg') (ha : PD F X E a fa) (hb : PD F X E b fb) (hc : PD F X E c fc) (hm : lastMarks [op, op'] [b, c] = false := by with_unfolding_all rfl) :
    PD F X E (.Compare a [op, op'] [b, c] pos) (eChain gg gg' fa fb fc) := by
  obtain ⟨r, h1, h2⟩ := o
  obtain ⟨r', h1', h2'⟩ := o'
  exact pd_chain h1 h1' h2 h2' ha hb hc hm
theorem t_chain {op op' : CmpOp} {gg gg' : D → D → M D} (o : Cop F X E op gg) (o' : Cop F X E op' gg') (ha : PD F X E a fa) (hb : PD F X E b fb) (hc : PD F X E c fc) (hm : lastMarks [op, op'] [b, c] = false := by with_unfolding_all rfl) :
    PDt F X E (.Compare a [op, op'] [b, c] pos) (tBool (eChain gg gg' fa fb fc)) := by
  obtain ⟨r, h1, h2⟩ := o
  obtain ⟨r', h1', h2'⟩ := o'
  exact ptd_chain h1 h1' h2 h2' ha hb hc hm
theorem t_val (ha : PD F X E a fa) (he : ∀ whole, isTrue a X.env whole = (do let v ← whole; standAt a.pos; holding [v] (truthy v)) := by intro _; rfl) : PDt F X E a (tTru fa) := pt_of ha he
theorem t_not (h : PDt F X E a ga) : PDt F X E (.UnaryOp .Not a pos) (tNeg ga) := ptn h
theorem t_w (h : PDw F X E a ga) : PDt F X E a ga := pt_w h
theorem w_a1 (h : PDt F X E a ga) : PDw F X E (.BoolOp .And [a] pos) ga := pw_a1 h
theorem w_o1 (h : PDt F X E a ga) : PDw F X E (.BoolOp .Or [a] pos) ga := pw_o1 h
theorem w_a (h : PDt F X E a ga) (h' : PDw F X E (.BoolOp .And (b :: rest) pos) gb) : PDw F X E (.BoolOp .And (a :: b :: rest) pos) (tAn ga gb) := pw_a h h'
theorem w_o (h : PDt F X E a ga) (h' : PDw F X E (.BoolOp .Or (b :: rest) pos) gb) : PDw F X E (.BoolOp .Or (a :: b :: rest) pos) (tOrr ga gb) := pw_o h h'
theorem x_one {op : BoolOp} (h : PD F X E a fa) : PD F X E (.BoolOp op [a] pos) fa := pd_one h
theorem x_and (h : PD F X E a fa) (h' : PD F X E (.BoolOp .And (b :: rest) pos) fb) : PD F X E (.BoolOp .And (a :: b :: rest) pos) (eAnd fa fb) := pd_and h h'
theorem x_or (h : PD F X E a fa) (h' : PD F X E (.BoolOp .Or (b :: rest) pos) fb) : PD F X E (.BoolOp .Or (a :: b :: rest) pos) (eOr fa fb) := pd_or h h'
theorem x_not (h : PD F X E a fa) : PD F X E (.UnaryOp .Not a pos) (eNot fa) := pd_not h
theorem x_if (hc : PDt F X E c ga) (ha : PD F X E a fa) (hb : PD F X E b fb) : PD F X E (.IfExp c a b pos) (eIf ga fa fb) := pd_if hc ha hb
theorem a_nil : PDa F X E [] aNil := pda_nil
theorem a_cons (ha : PD F X E e fa) (hr : PDa F X E es fs) (hs : starEach (e :: es) X.env = (false, eval e X.env) :: starEach es X.env := by rfl) : PDa F X E (e :: es) (aCons fa fs) := pda_cons ha hr hs
theorem x_tup {x1} (h : PDa F X E es fs) : PD F X E (.Tuple es x1 pos) (eTup fs) := pd_tup h
theorem x_lst (h : PDa F X E es fs) : PD F X E (.List es pos) (eLst fs) := pd_lst h
theorem x_lstH (h : PDa F X E es fs) : PD F X E (.List es pos) (eLstH fs) := pd_lstH h
theorem x_ix (ha : PD F X E a fa) (hb : PD F X E b fb) (hs : PlainIx b := by exact fun _ _ => rfl) : PD F X E (.Subscript a b pos) (eBin D.ix fa fb) := pd_ix ha hb hs
theorem o_none : PDo F X E none oNone := pdo_none
theorem o_some (ha : PD F X E a fa) : PDo F X E (some a) (oSome fa) := pdo_some ha
theorem x_slice {lo hi : Option Expr} {p2 : Pos} {fl fh : Env → M (Option Int)} (ha : PD F X E a fa) (hl : PDo F X E lo fl) (hh : PDo F X E hi fh) : PD F X E (.Subscript a (.Slice lo hi none p2) pos) (eSlice fa fl fh) := pd_slice ha hl hh
structure Bif (F : Str → Option V) (X : Cx) (E : XK) (x : Str) (g : List D → M D) : Prop where
  ex : ∃ r, ((∃ id, CallR X (.builtin id) r ∧ bootBuiltins x = some (.builtin id)) ∨ ∃ T, CallR X (.type T) r ∧ bootBuiltins x = some (.type T)) ∧ ClD X.K F E r g
theorem b_len : Bif F X E "len" (d1 D.len) := ⟨_, .inl ⟨_, call_len, PySem.boot_len⟩, cl_len⟩
theorem b_all (hc : X.calm = true := by rfl) : Bif F X E "all" (d1 D.all) := ⟨_, .inl ⟨_, cr_all hc, by decide +kernel⟩, cl_all⟩
theorem b_any (hc : X.calm = true := by rfl) : Bif F X E "any" (d1 D.any) := ⟨_, .inl ⟨_, cr_any hc, by decide +kernel⟩, cl_any⟩
theorem b_abs : Bif F X E "abs" (d1 D.abs) := ⟨_, .inl ⟨_, call_abs, by decide +kernel⟩, cl_abs⟩
theorem b_max2 (hc : X.calm = true := by rfl) : Bif F X E "max" (d2 D.max2) := ⟨_, .inl ⟨_, call_max2 hc, by decide +kernel⟩, cl_max2⟩
theorem b_min2 (hc : X.calm = true := by rfl) : Bif F X E "min" (d2 D.min2) := ⟨_, .inl ⟨_, call_min2 hc, by decide +kernel⟩, cl_min2⟩
theorem b_int : Bif F X E "int" (d1 D.toInt) := ⟨_, .inr ⟨_, call_int1, by decide +kernel⟩, cl_int⟩
theorem b_str : Bif F X E "str" (d1 D.strOf) := ⟨_, .inr ⟨_, call_str_int, by decide +kernel⟩, cl_str⟩
theorem b_tuple : Bif F X E "tuple" (d1 D.tuple) := ⟨_, .inr ⟨_, call_tuple_of, by decide +kernel⟩, cl_tuple⟩
theorem b_list : Bif F X E "list" (d1 D.list) := ⟨_, .inr ⟨_, call_list_of, by decide +kernel⟩, cl_list⟩
theorem x_b {x : Str} {p : Pos} {gg : List D → M D} (B : Bif F X E x gg) (hm : X.mg x = none) (ha : PDa F X E (e :: es) fs) (hg : Gl X x := by rfl) (hn : x ≠ "__name__" := by decide) (hdb : (x == ("__debug__" : Str)) = false := by decide)
    (he : starEach (e :: es) X.env = (false, eval e X.env) :: starEach es X.env := by rfl) (hpl : (backTo pos (starEach es X.env)).any (·.1) = false := by rfl) : PD F X E (.Call (.Name x p) (e :: es) [] pos) (eB gg fs) := by
  obtain ⟨r, h, q⟩ := B
  rcases h with ⟨id, h1, h2⟩ | ⟨T, h1, h2⟩
  · exact pd_callB h1 q hg hm h2 ha hn hdb he hpl
  · exact pd_callTy h1 q hg hm h2 ha hn hdb he hpl
theorem x_isi {x : Str} {p q : Pos} (T : String) (hm : X.mg "isinstance" = none) (hm' : X.mg x = none) (ha : PD F X E a fa) (hv : bootBuiltins x = some (.type T) := by decide +kernel) (hg : Gl X "isinstance" := by rfl) (hg' : Gl X x := by rfl) (hn : x ≠ "__name__" := by decide) (hdb : (x == ("__debug__" : Str)) = false := by decide)
    (he : starEach (a :: [.Name x q]) X.env = (false, eval a X.env) :: starEach [.Name x q] X.env := by rfl) (he2 : starEach (.Name x q :: []) X.env = (false, eval (.Name x q) X.env) :: starEach [] X.env := by rfl)
    (hpl : (backTo pos (starEach [.Name x q] X.env)).any (·.1) = false := by rfl) : PD F X E (.Call (.Name "isinstance" p) [a, .Name x q] [] pos) (eUn (D.isT T) fa) := pd_isi hg hm hg' hm' hv ha hn hdb he he2 hpl
theorem j_nil : PDj F X E [] jNil := pdj_nil
theorem j_cons {fj : Env → Str → M Str} (ha : PD F X E e fa) (hr : PDj F X E es fj) : PDj F X E (e :: es) (jCons fa fj) := pdj_cons ha hr
theorem x_fmt (ha : PD F X E e fa) : PD F X E (.FormattedValue e (-1) none pos) (eUn D.fmt fa) := pd_fmt ha
theorem x_joined {v1 v2 : Expr} {fj : Env → Str → M Str} (h : PDj F X E (v1 :: v2 :: rest) fj) : PD F X E (.JoinedStr (v1 :: v2 :: rest) pos) (eJoined fj) := pd_joined h
theorem x_joined1 (h : PD F X E e fa) : PD F X E (.JoinedStr [e] pos) fa := pd_joined1 h
theorem x_join {apos : Pos} (ha : PD F X E a fa) (hb : PD F X E b fb) (hs : starEach [b] X.env = [(false, eval b X.env)] := by rfl) (hbase : attributeBase a "join" X.env (eval a X.env) = eval a X.env := by rfl) (hline : (apos.endLine == pos.line) = true := by rfl) :
    PD F X E (.Call (.Attribute a "join" apos) [b] [] pos) (eM1 D.join fa fb) := pd_join ha hb hs hbase hline
theorem x_startswith {apos : Pos} (ha : PD F X E a fa) (hb : PD F X E b fb) (hs : starEach [b] X.env = [(false, eval b X.env)] := by rfl) (hbase : attributeBase a "startswith" X.env (eval a X.env) = eval a X.env := by rfl) (hline : (apos.endLine == pos.line) = true := by rfl) :
    PD F X E (.Call (.Attribute a "startswith" apos) [b] [] pos) (eM1 D.startswith fa fb) := pd_startswith ha hb hs hbase hline
theorem i_val {tg : Expr} (ha : PD F X E a fa) : PDi F X E tg a (iVal fa) := pdi_val ha
theorem i_range1 {tg : Expr} {p : Pos} (hm : X.mg "range" = none) (ha : PD F X E a fa) (hg : Gl X "range" := by rfl) (hs : starEach [a] X.env = [(false, eval a X.env)] := by rfl) : PDi F X E tg (.Call (.Name "range" p) [a] [] pos) (iRange1 fa) := pdi_range1 hg hm ha hs
theorem i_range2 {tg : Expr} {p : Pos} (hm : X.mg "range" = none) (ha : PD F X E a fa) (hb : PD F X E b fb) (hg : Gl X "range" := by rfl) (hs : starEach [a, b] X.env = [(false, eval a X.env), (false, eval b X.env)] := by rfl) (hs2 : starEach [b] X.env = [(false, eval b X.env)] := by rfl) :
    PDi F X E tg (.Call (.Name "range" p) [a, b] [] pos) (iRange2 fa fb) := pdi_range2 hg hm ha hb hs hs2
theorem g_name {x : Str} {is : List Nat} (i : Nat) (hN : X.N.Nodup) (hm : i ∈ is := by decide) (hi : X.N[i]? = some x := by rfl) (hx : Loc X.env.scope x := by first | exact Or.inl rfl | exact Or.inr rfl) (hf : X.fn x = true ∨ X.env.scope.names.lookup x = some .local := by first | exact .inl rfl | exact .inr rfl | assumption) :
    PDg F X E (.Name x pos) is (gNam i) := pdg_name i hm hN hi hx hf
theorem gs_nil {is : List Nat} : PDgs F X E [] is gsNil := pdgs_nil
theorem gs_cons {is : List Nat} {fg : D → Env → M Env} {fgs : List D → Env → M Env} (h1 : PDg F X E e is fg) (h2 : PDgs F X E es is fgs)
    (hs : (assignEach (e :: es) X.env).map (·.2) = assign e X.env :: (assignEach es X.env).map (·.2) := by rfl) : PDgs F X E (e :: es) is (gsCons fg fgs) := pdgs_cons h1 h2 hs
theorem g_tup {is : List Nat} {kk n : Nat} {fgs : List D → Env → M Env} (h : PDgs F X E es is fgs) (hc : X.calm = true := by rfl) (hn : (assignEach es X.env).length = n := by rfl) (hst : (assignEach es X.env).findIdx? (·.1) = none := by rfl) :
    PDg F X E (.Tuple es kk pos) is (gTp n fgs) := pdg_tup hc h hn hst
theorem g_sub {p2 : Pos} {is : List Nat} (ha : PD F X E a fa) (hb : PD F X E b fb) (hw : ∀ v, assign (.Subscript a b p2) X.env v = (do
      let ov ← holding [v] (eval a X.env)
      let iv ← holding [v, ov] (eval b X.env)
      standAt p2
      holding [v, ov, iv] (setItem ov iv v)
      release [v, ov, iv] []) := by intro _; rfl) : PDg F X E (.Subscript a b p2) is (gSb fa fb) := by
  have h := pdg_sub (is := is) ha hb hw
  have e : gSb fa fb = (fun d ρ => fa ρ >>= fun x => D.ref x >>= fun k => fb ρ >>= fun y => D.part y >>= fun o => (match o with
    | some i => M.put k i d
    | none => M.bad) >>= fun _ => pure ρ) := rfl
  rw [e]
  exact h
theorem ts_nil : PDts F X E [] tAll := pdts_nil
theorem ts_one (h : PDt F X E a ga) : PDts F X E [a] ga := pdts_one h
variable {tg iter elt : Expr} {ifs : List Expr} {scope : Scope} {is : List Nat} {fi : Env → M (List D × Option Nat)} {fg : D → Env → M Env} {ft : Env → M Bool} {fe : Env → M D}
theorem x_lc (own : List (Str × Nat)) (hN : X.N.Nodup) (hi : PDi F X E tg iter fi) (B : Blk F X tg elt ifs scope (own.map (·.2)) is fg ft fe) (ok : blkC X.N X.env.scope scope own = true := by decide +kernel) (hc : X.calm = true := by rfl) (hs : ∀ x, foldedSetIterable iter X.env x = pure x := by intro _; rfl) :
    PD F X E (.ListComp elt [⟨tg, iter, ifs, 0⟩] scope pos) (eLc fi fg ft fe (own.map (·.2))) := pd_lc hc hN (blkOk_by ok) hi B hs
theorem x_lcH (own : List (Str × Nat)) (hN : X.N.Nodup) (hi : PDi F X E tg iter fi) (B : Blk F X tg elt ifs scope (own.map (·.2)) is fg ft fe) (ok : blkC X.N X.env.scope scope own = true := by decide +kernel) (hc : X.calm = true := by rfl) (hs : ∀ x, foldedSetIterable iter X.env x = pure x := by intro _; rfl) :
    PD F X E (.ListComp elt [⟨tg, iter, ifs, 0⟩] scope pos) (eLcH fi fg ft fe (own.map (·.2))) := pd_lcH hc hN (blkOk_by ok) hi B hs
theorem s_lc (own : List (Str × Nat)) {i : Nat} {y : Str} {py spos : Pos} (hN : X.N.Nodup) (hi : PDi F X E tg iter fi) (B : Blk F X tg elt ifs scope (own.map (·.2)) is fg ft fe) (hsw : swapsWith (.ListComp elt [⟨tg, iter, ifs, 0⟩] scope pos) (some (.Name y py)) spos.line X.env = pure true)
    (ok : blkC X.N X.env.scope scope own = true := by decide +kernel) (hc : X.calm = true := by rfl) (hy : X.N[i]? = some y := by rfl) (hyl : X.env.scope.names.lookup y = some .local := by rfl) (hs : ∀ x, foldedSetIterable iter X.env x = pure x := by intro _; rfl) :
    PDs F X E (.Assign [.Name y py] (.ListComp elt [⟨tg, iter, ifs, 0⟩] scope pos) spos) (sSet i (eLc fi fg ft fe (own.map (·.2)))) := pds_lc hc hN hy hyl hsw (blkOk_by ok) hi B hs
theorem s_lcH (own : List (Str × Nat)) {i : Nat} {y : Str} {py spos : Pos} (hN : X.N.Nodup) (hi : PDi F X E tg iter fi) (B : Blk F X tg elt ifs scope (own.map (·.2)) is fg ft fe) (hsw : swapsWith (.ListComp elt [⟨tg, iter, ifs, 0⟩] scope pos) (some (.Name y py)) spos.line X.env = pure true)
    (ok : blkC X.N X.env.scope scope own = true := by decide +kernel) (hc : X.calm = true := by rfl) (hy : X.N[i]? = some y := by rfl) (hyl : X.env.scope.names.lookup y = some .local := by rfl) (hs : ∀ x, foldedSetIterable iter X.env x = pure x := by intro _; rfl) :
    PDs F X E (.Assign [.Name y py] (.ListComp elt [⟨tg, iter, ifs, 0⟩] scope pos) spos) (sSet i (eLcH fi fg ft fe (own.map (·.2)))) := pds_lcH hc hN hy hyl hsw (blkOk_by ok) hi B hs
theorem x_append {apos : Pos} (ha : PD F X E a fa) (hb : PD F X E b fb) (hbase : attributeBase a "append" X.env (eval a X.env) = eval a X.env := by rfl)
    (hfew : ((backTo pos (starEach (b :: []) X.env)).all (fun x => !x.1) && (backToKw pos (keywordEach [] X.env)).all (fun x => x.1.isSome)
      && decide ((b :: []).length + ([] : List Keyword).length + (if ([] : List Keyword).isEmpty then 0 else 1) < 30)) = true := by rfl)
    (hline : (apos.endLine == pos.line) = true := by rfl) (hs : starEach (b :: []) X.env = (false, eval b X.env) :: starEach [] X.env := by rfl) (hplain : (backTo pos (starEach [] X.env)).any (·.1) = false := by rfl) :
    PD F X E (.Call (.Attribute a "append" apos) [b] [] pos) (eApp fa fb) := pd_append ha hb hbase hfew hline hs hplain
theorem ss_nil : PDss F X E [] sNil := pdss_nil
theorem ss_one (h : PDs F X E st f) : PDss F X E [st] f := pdss_one h
theorem ss_cons (h : PDs F X E st f) (h' : PDss F X E sts g) : PDss F X E (st :: sts) (sCons f g) := pdss_cons h h'
theorem s_ret (h : PD F X E e fa) : PDs F X E (.Return (some e) pos) (sRet fa) := pds_ret h
theorem s_retN : PDs F X E (.Return none pos) sRetN := pds_retN
theorem s_expr (h : PD F X E e fa) (hs : swapsWith e none pos.line X.env = pure false := by rfl) : PDs F X E (.Expr e pos) (sExpr fa) := pds_expr h hs
theorem s_if {as bs : List Stmt} (hc : PDt F X E c ga) (ha : PDss F X E as f) (hb : PDss F X E bs g) : PDs F X E (.If c as bs pos) (sIf ga f g) := pds_if hc ha hb
theorem s_asg (h : PD F X E e fa) (hg : PDg F X E tg is fg) (hs : swapsWithSole [tg] e pos.line X.env = pure false := by rfl) (hw : swappedStores [tg] e X.env = pure none := by rfl) (h1 : (assignEach [tg] X.env).map (·.2) = [assign tg X.env] := by rfl) :
    PDs F X E (.Assign [tg] e pos) (sAsg fa fg) := pds_asg h hg hs hw h1
theorem s_set {x : Str} {p' : Pos} (i : Nat) (hN : X.N.Nodup) (h : PD F X E e fa) (hi : X.N[i]? = some x := by rfl) (hx : Loc X.env.scope x := by first | exact Or.inl rfl | exact Or.inr rfl) (hs : swapsWith e (some (.Name x p')) pos.line X.env = pure false := by rfl)
    (hf : X.fn x = true ∨ X.env.scope.names.lookup x = some .local := by first | exact .inl rfl | exact .inr rfl | assumption) : PDs F X E (.Assign [.Name x p'] e pos) (sSet i fa) := pds_set i hN hi hx h hs hf
theorem s_aug {x : Str} {p' : Pos} (i : Nat) (hN : X.N.Nodup) (h : PD F X E e fa) (hi : X.N[i]? = some x := by rfl) (hx : Loc X.env.scope x := by first | exact Or.inl rfl | exact Or.inr rfl) (hf : X.fn x = true ∨ X.env.scope.names.lookup x = some .local := by first | exact .inl rfl | exact .inr rfl | assumption) :
    PDs F X E (.AugAssign (.Name x p') .Add e pos) (sAug i fa) := by
  have q := pds_aug (pos := pos) (p' := p') i hN hi hx h hf
  have e : sAug i fa = (fun ρ => slot ρ i >>= fun x => fa ρ >>= fun y => (match x, y with
      | .int a, .int b => pure (.int (a + b))
      | _, _ => M.bad) >>= fun d => pure (.nx (ρ.set i (some d)))) := by
    funext ρ
    show (slot ρ i >>= fun x => fa ρ >>= fun y => D.iadd x y >>= fun d => (pure (Fl.nx (ρ.set i (some d))) : M Fl)) = _
    rfl
  rw [e]
  exact q
theorem s_while (n : Nat) {body : List Stmt} (hc : PDt F X E c ga) (hb : PDss F X E body f) (hp : PassesOwn (model X.prog X.w) X.A X.env X.xe := by exact PassesOwn.never) : PDs F X E (.While c body [] pos) (sWhile n ga f) := pds_while n hp hc hb
theorem s_for {body : List Stmt} (hi : PDi F X E tg iter fi) (hg : PDg F X E tg is fg) (hb : PDss F X E body f) (hp : PassesOwn (model X.prog X.w) X.A X.env X.xe := by exact PassesOwn.never) (hc : X.calm = true := by rfl) (hs : ∀ x, foldedSetIterable iter X.env x = pure x := by intro _; rfl) :
    PDs F X E (.For tg iter body [] pos) (sFor fi fg f) := pds_for hp hc hi hg hb hs
theorem s_pass : PDs F X E (.Pass pos) sNil := pds_pass
theorem s_break : PDs F X E (.Break pos) sBreak := pds_break
theorem s_cont : PDs F X E (.Continue pos) sCont := pds_cont
end
theorem hu65 {A : Around} {k : Nat} (r : Room k A) : A.units + 65 < cLine := by have := r.un; omega
structure Fn (P : Program) (w : World) (K : PySem.W.Frag) (mg : Str → Option Value) (base : Heap) (F : Str → Option V) (k : Nat) (x : Str) (n : Nat) (dds : List D) (g : List D → M D) : Prop where
  ex : ∃ f fd ps dvs ds, FnOk P w K mg base CX0 k f fd ps (spM K F n g) ∧ mg x = some (.ref f) ∧ PySem.W.keepIn K (.ref f) = true ∧ Binds K fd ps ds ∧ Vals dvs ds ∧ ∀ W, Rps K F W dvs dds
section
variable {F : Str → Option V} {X : Cx} {pos p : Pos} {e : Expr} {es : List Expr} {fs : Env → M (List D)} {x : Str} {j k n : Nat} {gg : List D → M D} {dds : List D}
theorem x_call (c : Fn X.prog X.w X.K X.mg X.base F k x n [] gg) (hr : Room j X.A) (ha : PDa F X XKF (e :: es) fs) (hk : k ≤ j := by decide) (hg : Gl X x := by rfl) (hdb : (x == ("__debug__" : Str)) = false := by decide) (he : starEach (e :: es) X.env = (false, eval e X.env) :: starEach es X.env := by rfl) (hpl : (backTo pos (starEach es X.env)).any (·.1) = false := by rfl) :
    PD F X XKF (.Call (.Name x p) (e :: es) [] pos) (eCall n gg fs) := by
  obtain ⟨f, fd, ps, dvs, ds, h1, h2, h3, h4, h5, h6⟩ := c
  have e0 : dvs = [] := by
    have q := h6 ⟨[], fun _ => none⟩
    cases q
    rfl
  subst e0
  cases h5
  exact pd_call1 h1 (hr.mono hk) hg h2 h3 h4 ha hdb he hpl
theorem x_callD (c : Fn X.prog X.w X.K X.mg X.base F k x n dds gg) (hr : Room j X.A) (ha : PDa F X XKF (e :: es) fs) (hk : k ≤ j := by decide) (hg : Gl X x := by rfl) (hdb : (x == ("__debug__" : Str)) = false := by decide) (he : starEach (e :: es) X.env = (false, eval e X.env) :: starEach es X.env := by rfl) (hpl : (backTo pos (starEach es X.env)).any (·.1) = false := by rfl) :
    PD F X XKF (.Call (.Name x p) (e :: es) [] pos) (eCallD n dds gg fs) := by
  obtain ⟨f, fd, ps, dvs, ds, h1, h2, h3, h4, h5, h6⟩ := c
  exact pd_call h1 (hr.mono hk) hg h2 h3 h4 h5 h6 ha hdb he hpl
end
theorem fn_zero {P : Program} {w : World} {K : PySem.W.Frag} {mg : Str → Option Value} {base : Heap} {F : Str → Option V} {k n : Nat} {f : Addr} {fd : FuncData} {ps : List Str} (hn : n = ps.length) : FnOk P w K mg base CX0 k f fd ps (spM K F n fun _ => M.bad) := by
  have no : ∀ vs H Q E, ¬ spM K F n (fun _ => M.bad) vs H Q E := fun vs H Q E h => by
    obtain ⟨_, W, m, ds, _, _, h⟩ := h
    exact h.elim
  exact ⟨fun vs H Q E h => (no vs H Q E h).elim, fun A outer s H args us vs Q E _ _ _ _ h => (no vs H Q E h).elim⟩
end Mir
set_option maxRecDepth 100000
set_option maxHeartbeats 4000000
namespace L2
open PySem PySem.Spec PyProof.Rows HT
section
variable {prog : Program} {w : World} {A : Around} {E : Value → Shared → Prop} {s : Shared}
theorem sliceApplied_back {sl : Addr} {tk : Tok} {n : Nat} {Q : Int × Int × Nat → Shared → Prop} (hs : s.heap.IsSliceOf sl .none .none (.int (-1) tk))
    (h : Q ((n : Int) - 1, -1, n) s) : wpAny (model prog w) A (Builtin.Slice.sliceApplied (.ref sl) (pure (n : Int))) Q E s := by
  obtain ⟨os, hos, hcs, hds⟩ := id hs
  unfold Builtin.Slice.sliceApplied Builtin.Slice.sliceFields
  refine wpAny_bind (wpAny_bind (wpAny_field hos hds (x := .none) rfl (wpAny_bind (wpAny_field hos hds (x := .none) rfl (wpAny_bind (wpAny_field hos hds (x := .int (-1) tk) rfl (wpAny_pure ?_)))))))
  refine wpAny_bind (slicePart_ (.int (-1) tk) ?_)
  show wpAny _ _ (if ((-1 : Int) == 0) = true then _ else _) _ _ s
  rw [if_neg (by decide)]
  refine wpAny_bind (slicePart_none (wpAny_bind (slicePart_none (wpAny_bind (wpAny_pure ?_)))))
  have e1 : Builtin.Slice.sliceAdjust none none (-1) (n : Int) = ((n : Int) - 1, -1) := by
    unfold Builtin.Slice.sliceAdjust
    simp
  show wpAny _ _ (match Builtin.Slice.sliceAdjust none none (-1) (n : Int) with | (lo, hi) => pure (lo, (-1 : Int), Builtin.Slice.slicePlaces lo hi (-1))) _ _ s
  rw [e1]
  have e2 : Builtin.Slice.slicePlaces ((n : Int) - 1) (-1) (-1) = n := by
    unfold Builtin.Slice.slicePlaces
    simp
    omega
  show wpAny _ _ (pure ((n : Int) - 1, (-1 : Int), Builtin.Slice.slicePlaces ((n : Int) - 1) (-1) (-1))) _ _ s
  rw [e2]
  exact wpAny_pure h
theorem fm_congr {A B : Type} {f g : A → Option B} : ∀ {l : List A}, (∀ a, a ∈ l → f a = g a) → l.filterMap f = l.filterMap g
  | [], _ => rfl
  | a :: l, h => by
    have e := fm_congr (l := l) fun b hb => h b (List.mem_cons_of_mem _ hb)
    have e1 := h a List.mem_cons_self
    cases q : g a with
    | none => rw [List.filterMap_cons_none (e1.trans q), List.filterMap_cons_none q, e]
    | some z => rw [List.filterMap_cons_some (e1.trans q), List.filterMap_cons_some q, e]
theorem pick_back (xs : Array Value) : ((List.range xs.size).filterMap fun (m : Nat) => xs[(((xs.size : Int) - 1) + (m : Int) * (-1)).toNat]?).toArray = xs.toList.reverse.toArray := by
  have e : (List.range xs.size).filterMap (fun (m : Nat) => xs[(((xs.size : Int) - 1) + (m : Int) * (-1)).toNat]?) = ((List.range xs.size).map (fun k => xs.size - 1 - k)).filterMap (xs[·]?) := by
    rw [List.filterMap_map]
    refine fm_congr fun m hm => ?_
    have : (((xs.size : Int) - 1) + (m : Int) * (-1)).toNat = xs.size - 1 - m := by
      have := List.mem_range.mp hm
      omega
    simp only [Function.comp, this]
  rw [e, PySem.W.krv_range, List.filterMap_reverse, PySem.W.krv_all]
theorem getItem_tuple_back {t sl : Addr} {items : Array Value} {tk : Tok} {Q : Value → Shared → Prop} (ht : IsTup s.heap t items) (hs : s.heap.IsSliceOf sl .none .none (.int (-1) tk))
    (h : Q (.ref s.heap.objs.size) { s with heap := s.heap.push { cls := .type "tuple", data := .seq items.toList.reverse.toArray } })
    (hsz : items.size ≤ sizeLine) : wpAny (model prog w) A (getItem (.ref t) (.ref sl)) Q E s := by
  have htake : sizeOk (.seq items.toList.reverse.toArray) := by
    show items.toList.reverse.toArray.size ≤ sizeLine
    rw [List.size_toArray, List.length_reverse, Array.length_toList]
    exact hsz
  obtain ⟨os, hos, hcs, hds⟩ := id hs
  have hTs : s.TypeIs (.ref sl) "slice" := ⟨os, hos, hcs⟩
  unfold getItem
  try with_reducible refine wpAny_holding ?_
  first | refine wpAny_bind (wpAny_pure ?_) | skip
  refine wpAny_bind (wpAny_sequenceKey ht.typeIs (by decide) ?_)
  refine wpAny_bind (wpAny_callSpecial?_slot (name := Str.ofString "__getitem__") ht.typeIs PyProof.Rows.slot_tuple_getitem
    (wpAny_call_entry PyProof.Rows.slot_tuple_getitem ht.typeIs entry_tuple_getitem ?_ (args_tuple_getitem _ _)))
  show wpAny _ _ (Builtin.Tuple.tupleItemsOf (.ref t) >>= _) _ _ s
  refine wpAny_bind (tupleItemsOf_ ht ?_)
  refine wpAny_bind (wpAny_typeOf hTs ?_)
  rw [if_pos (by decide)]
  refine wpAny_bind (sliceApplied_back hs ?_)
  have hno : ¬ ((((items.size : Int) - 1) == 0 && (-1 : Int) == 1 && items.size == items.size) = true) := by simp
  show wpAny _ _ (if (((items.size : Int) - 1) == 0 && (-1 : Int) == 1 && items.size == items.size) = true then _ else _) _ _ s
  rw [if_neg hno, pick_back]
  first
    | exact wpAny_bind (m := Builtin.Tuple.tupleExact _) (wpAny_newObj_type (wpAny_pure ⟨_, rfl, wpAny_pure h⟩) htake)
    | exact wpAny_bind (m := Builtin.Tuple.tupleExact _) (wpAny_newObj_type (wpAny_bind (wpAny_pure (wpAny_pure ⟨_, rfl, wpAny_pure h⟩))) htake)
    | exact wpAny_bind (wpAny_bind (m := Builtin.Tuple.tupleExact _) (wpAny_newObj_type (wpAny_pure (wpAny_pure ⟨_, rfl, wpAny_pure h⟩)) htake))
    | exact wpAny_bind (wpAny_bind (m := Builtin.Tuple.tupleExact _) (wpAny_newObj_type (wpAny_pure ⟨_, rfl, wpAny_pure h⟩) htake))
end
section
variable {X : Cx}
def rRevT (K : PySem.W.Frag) : V → Hp → VK → Prop := fun x H1 Q => ∃ a xs, x = .ref a ∧ SqT K H1 a xs ∧ ∀ p, H1 p = none → Q (.ref p) (upd H1 p (.tup xs.reverse))
theorem pe_revT {e : Expr} {te : TE} {k : Nat} {p1 p2 p3 pos : Pos} (he : PE X e te) : PE X (.Subscript e (.Slice none none (some (.UnaryOp .USub (.Constant (.int 1) k p1) p2)) p3) pos) (tUn (rRevT X.K) te) := by
  refine ⟨fun pins s σ H Q I h => ?_⟩
  refine Subscript_ (thn (he.run pins s σ H _ I h) fun v s1 ⟨x, H1, I1, r1, q1⟩ => ?_)
  obtain ⟨a, xs, ex, hx, q⟩ := q1
  subst ex
  cases r1
  have hst : PO X (some (.UnaryOp .USub (.Constant (.int 1) k p1) p2)) (tPart (tUn (rU fun i => .int (-i)) (tC (.int 1)))) := po_some (pe_un un_neg pe_int)
  refine wpAny_Slice (thn (po_none.run pins s1 σ H1 (fun o H2 => o = none ∧ H2 = H1) I1 ⟨rfl, rfl⟩) fun vl s2 ⟨l, H2, I2, pl, el, e2⟩ => ?_)
  subst el e2
  refine thn (po_none.run pins s2 σ H2 (fun o H3 => o = none ∧ H3 = H2) I2 ⟨rfl, rfl⟩) fun vu s3 ⟨u, H3, I3, pu, eu, e3⟩ => ?_
  subst eu e3
  refine thn (hst.run pins s3 σ H3 (fun o H4 => o = some (-1) ∧ H4 = H3) I3 ⟨1, rfl, -1, rfl, rfl, rfl⟩) fun vs s4 ⟨o, H4, I4, ps, eo, e4⟩ => ?_
  subst eo e4
  cases pl
  cases pu
  cases ps with
  | int _ tk =>
  have I5 : Inv X pins σ H4 { s4 with heap := s4.heap.push { cls := .type "slice", data := .fields #[.none, .none, .int (-1) tk] } } := I4.kept (t' := s4.toks) fun b ob q => Heap.get?_push_of_some _ q
  obtain ⟨its, r, ht, hz⟩ := I5.tuple hx
  have hlen := r.length
  show wpAny (model X.prog X.w) X.A (subscriptTail e (.Slice none none (some (.UnaryOp .USub (.Constant (.int 1) k p1) p2)) p3) (.ref a) (.ref s4.heap.objs.size)) (EP X pins σ Q) X.xe { s4 with heap := s4.heap.push { cls := .type "slice", data := .fields #[.none, .none, .int (-1) tk] } }
  refine tail_any (ops := [.ref a, .ref s4.heap.objs.size]) ht.typeIs (PyProof.Rows.slot_tuple_getitem.lookup) ?_ (by with_unfolding_all rfl)
  refine getItem_tuple_back ht (Heap.IsSliceOf.new _ _ _ _) ?_ (by rw [List.size_toArray]; omega)
  refine ⟨.ref _, _, I5.laid (t' := s4.toks) (o := .tup xs.reverse) (fun b ob q => Heap.get?_push_of_some _ q) (Nat.le_refl _) ?_, rfl, q _ (I5.hok.fresh (Nat.le_refl _))⟩
  exact ⟨by rw [List.length_reverse]; exact hz, _, r.reverse, ⟨_, Heap.get?_push_size _ rfl, rfl, 0, by simp⟩⟩
end
end L2
namespace Mir
open PySem L2
section
variable {F : Str → Option V} {X : Cx} {E : XK} {e : Expr} {fa : Env → M D}
def D.back (x : D) : M D := x.now >>= fun x => match x with
  | .lst ds => pure (.lst ds.reverse)
  | .tup ds => pure (.tup ds.reverse)
  | _ => M.bad
theorem ev_by {K : PySem.W.Frag} {te : TE} (q : EvE K F E te fa) {ρ : Env} {m : Mu} {W : Wd} {σ : L2.St} {H : Hp} (s : Sl K F W ρ σ) (k : Ok K F W m H) {d : D} {m1 : Mu} (e : (fa ρ).run m = .ok d m1) {Q : VK} (hQ : ∀ W1 H1, Ext W H W1 H1 → Ok K F W1 m1 H1 → ∀ v, Rp K F W1 v d → Q v H1) : te σ H Q :=
  q ρ m W σ H s k Q (by rw [e]; exact hQ)
theorem x_back {k : Nat} {p1 p2 p3 pos : Pos} (h : PD F X E e fa) : PD F X E (.Subscript e (.Slice none none (some (.UnaryOp .USub (.Constant (.int 1) k p1) p2)) p3) pos) (eUn D.back fa) := by
  obtain ⟨t, p, q⟩ := h
  refine ⟨fun σ H Q => tRevL X.K t σ H Q ∨ tUn (rRevT X.K) t σ H Q, ⟨fun pins s σ H Q I h => ?_⟩, fun ρ m W σ H s k Q h => ?_⟩
  · rcases h with h | h
    · exact (pe_revL p).run pins s σ H Q I h
    · exact (pe_revT p).run pins s σ H Q I h
  have h : PostE X.K F ((fa ρ >>= D.back).run m) W H Q E := h
  cases e1 : (fa ρ).run m with
  | bad => rw [bind_run, e1] at h; exact h.elim
  | exc c m1 =>
    rw [bind_run, e1] at h
    exact .inl (q ρ m W σ H s k _ (by rw [e1]; exact h))
  | ok d m1 =>
    have h := PostR.bind h
    rw [e1] at h
    cases d with
    | lst ds =>
      refine .inl (ev_by q s k e1 fun W1 H1 x1 k1 v r1 => ?_)
      have h1 := h W1 H1 x1 k1
      cases r1 with
      | @lst pp vs _ g r1 => exact ⟨pp, vs, rfl, .inl (.inl (k1.gh _ _ g)), fun p hp => new_ok k1 h1 hp (rp_lst k1 hp r1.reverse)⟩
    | tup ds =>
      refine .inr (ev_by q s k e1 fun W1 H1 x1 k1 v r1 => ?_)
      have h1 := h W1 H1 x1 k1
      cases r1 with
      | @tup pp vs _ g r1 => exact ⟨pp, vs, rfl, sqt_mono k1.gh g, fun p hp => new_ok k1 h1 hp (rp_tup k1 hp r1.reverse)⟩
    | hnd i =>
      refine .inl (ev_by q s k e1 fun W1 H1 x1 k1 v r1 => ?_)
      have h1 := h W1 H1 x1 k1
      cases r1 with
      | @hnd pp _ g =>
        have h1 : PostE X.K F (((D.hnd i).now >>= fun x => match x with
          | .lst ds => pure (.lst ds.reverse)
          | .tup ds => pure (.tup ds.reverse)
          | _ => M.bad : M D).run m1) W1 H1 Q E := h1
        cases e2 : m1[i]? with
        | none => simp only [bind_run, D.now, e2] at h1; exact h1.elim
        | some o =>
          cases o with
          | lst ds =>
            simp only [bind_run, D.now, e2] at h1
            obtain ⟨vs, h2, r2⟩ := k1.ob i pp _ g e2
            exact ⟨pp, vs, rfl, .inl (.inl h2), fun p hp => new_ok k1 h1 hp (rp_lst k1 hp r2.reverse)⟩
    | _ => exact .inl (ev_by q s k e1 fun W1 H1 x1 k1 v r1 => ((h W1 H1 x1 k1) : PostR X.K F _ _ _ _ _).elim)
end
theorem rps_ints {K : PySem.W.Frag} {F : Str → Option V} {W : Wd} : ∀ ns : List Int, Rps K F W (ns.map V.int) (ns.map D.int)
  | [] => .nil
  | n :: ns => .cons (.int n) (rps_ints ns)
theorem law_end {K : PySem.W.Frag} {F : Str → Option V} {H : Hp} {a : Addr} {ns : List Int} {g : List D → M D} {Q : VK} {E : XK} (hS : SqL K H a (ns.map V.int)) (hm : ∃ m, (g [.frz (ns.map .int)]).run [] = .ok (.bl true) m) (hQ : ∀ H', Q (.bl true) H') : spM K F 1 g [.ref a] H Q E := by
  obtain ⟨m, e⟩ := hm
  refine ⟨rfl, ⟨[], H⟩, [], [.frz (ns.map .int)], .cons (.frz hS (rps_ints ns)) .nil, ⟨fun _ _ h => h, List.nodup_nil, fun _ h => (by cases h), rfl, fun i a o h _ => by cases h⟩, ?_⟩
  rw [e]
  intro W' H' _ _ v r
  cases r
  exact hQ H'
end Mir
set_option maxRecDepth 100000
namespace Mir
open PySem L2
@[simp] theorem slot_0 (d : D) (ρ : Env) : slot (some d :: ρ) 0 = pure d := (rfl)
@[simp] theorem slot_s (o : Option D) (ρ : Env) (i : Nat) : slot (o :: ρ) (i + 1) = slot ρ i := (rfl)
@[simp] theorem ite_bind' {A B : Type} (c : Prop) [Decidable c] (x y : M A) (f : A → M B) : ((if c then x else y) >>= f) = if c then x >>= f else y >>= f := by split <;> rfl
@[simp] theorem flow_nx (ρ : Env) (f : Env → M Fl) : flow (.nx ρ) f = f ρ := (rfl)
@[simp] theorem flow_rt (d : D) (f : Env → M Fl) : flow (.rt d) f = pure (.rt d) := (rfl)
@[simp] theorem flow_bk (ρ : Env) (f : Env → M Fl) : flow (.bk ρ) f = pure (.bk ρ) := (rfl)
@[simp] theorem flow_ct (ρ : Env) (f : Env → M Fl) : flow (.ct ρ) f = pure (.ct ρ) := (rfl)
@[simp] theorem endOf_rt (d : D) : endOf (.rt d) = pure d := (rfl)
@[simp] theorem endOf_nx (ρ : Env) : endOf (.nx ρ) = pure .non := (rfl)
@[simp] theorem guard_t : M.guard true = pure () := (rfl)
@[simp] theorem opt_some {A : Type} (a : A) : M.opt (some a) = pure a := (rfl)
@[simp] theorem noexc_ite {A : Type} (c : Prop) [Decidable c] (x y : M A) : M.noexc (if c then x else y) = if c then M.noexc x else M.noexc y := by split <;> rfl
theorem pure_bb {A B : Type} (a : A) (f : A → M B) : ((pure a : M A) >>= f) = f a := (rfl)
theorem bad_bb {A B : Type} (f : A → M B) : ((M.bad : M A) >>= f) = M.bad := (rfl)
theorem noexc_p {A : Type} (a : A) : M.noexc (pure a : M A) = pure a := (rfl)
theorem puto_some (k : Nat) (i : Int) (d : D) : M.puto k (some i) d = M.put k i d := (rfl)
theorem guard_of {p : Prop} [Decidable p] (h : p) : M.guard (decide p) = pure () := by rw [decide_eq_true h]; rfl
@[simp] theorem now_int (i : Int) : (D.int i).now = pure (.int i) := (rfl)
@[simp] theorem now_str (i : Str) : (D.str i).now = pure (.str i) := (rfl)
@[simp] theorem now_bl (i : Bool) : (D.bl i).now = pure (.bl i) := (rfl)
@[simp] theorem now_non : (D.non).now = pure .non := (rfl)
@[simp] theorem now_tup (i : List D) : (D.tup i).now = pure (.tup i) := (rfl)
@[simp] theorem now_lst (i : List D) : (D.lst i).now = pure (.lst i) := (rfl)
@[simp] theorem now_frz (i : List D) : (D.frz i).now = pure (.frz i) := (rfl)
@[simp] theorem add_int (i j : Int) : D.add (.int i) (.int j) = pure (.int (i + j)) := (rfl)
theorem add_str (a b : Str) (h : a.length + b.length ≤ sizeLine) : D.add (.str a) (.str b) = pure (.str (a ++ b)) := by
  show (M.guard (decide (a.length + b.length ≤ sizeLine)) >>= fun _ => (pure (D.str (a ++ b)) : M D)) = _
  rw [guard_of h]; rfl
theorem add_tup (a b : List D) (h : a.length + b.length ≤ sizeLine) : D.add (.tup a) (.tup b) = pure (.tup (a ++ b)) := by
  show (M.guard (decide (a.length + b.length ≤ sizeLine)) >>= fun _ => (pure (D.tup (a ++ b)) : M D)) = _
  rw [guard_of h]; rfl
theorem add_lst (a b : List D) (h : a.length + b.length ≤ sizeLine) : D.add (.lst a) (.lst b) = pure (.lst (a ++ b)) := by
  show (M.guard (decide (a.length + b.length ≤ sizeLine)) >>= fun _ => (pure (D.lst (a ++ b)) : M D)) = _
  rw [guard_of h]; rfl
@[simp] theorem sub_int (i j : Int) : D.sub (.int i) (.int j) = pure (.int (i - j)) := (rfl)
theorem mul_int' (i j : Int) (h : (-(2 ^ 64) < i ∧ i < 2 ^ 64) ∨ (-(2 ^ 64) < j ∧ j < 2 ^ 64)) : D.mul (.int i) (.int j) = pure (.int (i * j)) := by
  show (M.guard (decide _) >>= fun _ => (pure (D.int (i * j)) : M D)) = _
  rw [guard_of h]; rfl
theorem fdiv_int (i j : Int) (h : 0 < j ∧ j < 1073741824) : D.fdiv (.int i) (.int j) = pure (.int (i / j)) := by
  show (M.guard (decide _) >>= fun _ => (pure (D.int (i / j)) : M D)) = _
  rw [guard_of h]; rfl
theorem mod_int' (i j : Int) (h : 0 < j) : D.mod (.int i) (.int j) = pure (.int (i % j)) := by
  show (M.guard (decide _) >>= fun _ => (pure (D.int (i % j)) : M D)) = _
  rw [guard_of h]; rfl
theorem pow_int' (i j : Int) (h : 0 ≤ j ∧ j ≤ 1000000 ∧ i.natAbs < 2 ^ 64) : D.pow (.int i) (.int j) = pure (.int (i ^ j.toNat)) := by
  show (M.guard (decide _) >>= fun _ => (pure (D.int (i ^ j.toNat)) : M D)) = _
  rw [guard_of h]; rfl
@[simp] theorem lt_int' (i j : Int) : D.lt (.int i) (.int j) = pure (.bl (decide (i < j))) := (rfl)
@[simp] theorem le_int' (i j : Int) : D.le (.int i) (.int j) = pure (.bl (decide (i ≤ j))) := (rfl)
@[simp] theorem gt_int' (i j : Int) : D.gt (.int i) (.int j) = pure (.bl (decide (j < i))) := (rfl)
@[simp] theorem ge_int' (i j : Int) : D.ge (.int i) (.int j) = pure (.bl (decide (j ≤ i))) := (rfl)
@[simp] theorem bool_bl (b : Bool) : D.bool (.bl b) = pure b := (rfl)
@[simp] theorem tru_bl (b : Bool) : D.tru (.bl b) = pure b := (rfl)
@[simp] theorem tru_int (b : Int) : D.tru (.int b) = pure (b != 0) := (rfl)
@[simp] theorem toInt_int (i : Int) : D.toInt (.int i) = pure (.int i) := (rfl)
@[simp] theorem toInt_bl (b : Bool) : D.toInt (.bl b) = pure (.int (if b then 1 else 0)) := (rfl)
@[simp] theorem abs_int (i : Int) : D.abs (.int i) = pure (.int (if i < 0 then -i else i)) := (rfl)
@[simp] theorem max2_int (i j : Int) : D.max2 (.int i) (.int j) = pure (.int (if j > i then j else i)) := (rfl)
@[simp] theorem min2_int (i j : Int) : D.min2 (.int i) (.int j) = pure (.int (if j < i then j else i)) := (rfl)
@[simp] theorem len_lst (ds : List D) : D.len (.lst ds) = pure (.int ds.length) := (rfl)
@[simp] theorem len_frz (ds : List D) : D.len (.frz ds) = pure (.int ds.length) := (rfl)
@[simp] theorem len_tup (ds : List D) : D.len (.tup ds) = pure (.int ds.length) := (rfl)
theorem len_str (x : Str) (h : x.length ≤ sizeLine) : D.len (.str x) = pure (.int x.length) := by
  show (M.guard (decide _) >>= fun _ => (pure (D.int (x.length : Int)) : M D)) = _
  rw [guard_of h]; rfl
@[simp] theorem d1_one (g : D → M D) (x : D) : d1 g [x] = g x := (rfl)
@[simp] theorem d2_two (g : D → D → M D) (x y : D) : d2 g [x, y] = g x y := (rfl)
@[simp] theorem ref_hnd (k : Nat) : D.ref (.hnd k) = pure k := (rfl)
@[simp] theorem part_int (i : Int) : D.part (.int i) = pure (some i) := (rfl)
@[simp] theorem text_str (x : Str) : D.text (.str x) = pure x := (rfl)
theorem atI_nat' {A : Type} {xs : List A} {i : Int} {n : Nat} {a : A} (h0 : i = (n : Int)) (h : xs[n]? = some a) : atI xs i = some a := by
  subst h0
  exact atI_nat h
theorem dx_lst (ds : List D) (i : Int) : D.ix (.lst ds) (.int i) = M.opt (atI ds i) := (rfl)
theorem dx_tup (ds : List D) (i : Int) : D.ix (.tup ds) (.int i) = M.opt (atI ds i) := (rfl)
theorem dx_frz (ds : List D) (i : Int) : D.ix (.frz ds) (.int i) = M.opt (atI ds i) := (rfl)
theorem dx_str (x : Str) (i : Int) (h : x.length ≤ sizeLine) : D.ix (.str x) (.int i) = M.opt ((atI x.cps.toList i).map fun c => .str ⟨#[c]⟩) := by
  show (M.guard (decide _) >>= fun _ => M.opt ((atI x.cps.toList i).map fun c => D.str ⟨#[c]⟩)) = _
  rw [guard_of h]; rfl
theorem noexc_idem {A : Type} (x : M A) : M.noexc (M.noexc x) = M.noexc x := by
  refine M.ext fun m => ?_
  show ((x.run m).noexc).noexc = (x.run m).noexc
  cases x.run m <;> rfl
@[simp] theorem noexc_guard (b : Bool) : M.noexc (M.guard b) = M.guard b := by cases b <;> rfl
@[simp] theorem noexc_opt {A : Type} (b : Option A) : M.noexc (M.opt b) = M.opt b := by cases b <;> rfl
@[simp] theorem noexc_bad {A : Type} : M.noexc (M.bad : M A) = M.bad := (rfl)
section
variable {fa fb fc : Env → M D} {ga gb : Env → M Bool} {f g : Env → M Fl} {fs : Env → M (List D)} {ρ : Env} {d : D}
theorem ap_var (i : Nat) : eVar i ρ = slot ρ i := (rfl)
theorem ap_c : eC d ρ = pure d := (rfl)
theorem ap_bin (op : D → D → M D) : eBin op fa fb ρ = (fa ρ >>= fun x => fb ρ >>= fun y => op x y) := (rfl)
theorem ap_chain (op op' : D → D → M D) : eChain op op' fa fb fc ρ = (fa ρ >>= fun x => fb ρ >>= fun y => (op x y >>= D.bool) >>= fun t => if t = true then fc ρ >>= fun z => op' y z else pure (.bl false)) := (rfl)
theorem ap_bool : tBool fa ρ = (fa ρ >>= D.bool) := (rfl)
theorem ap_tru : tTru fa ρ = (fa ρ >>= D.tru) := (rfl)
theorem ap_neg : tNeg ga ρ = (ga ρ >>= fun t => pure (!t)) := (rfl)
theorem ap_an : tAn ga gb ρ = (ga ρ >>= fun t => if t = true then gb ρ else pure false) := (rfl)
theorem ap_orr : tOrr ga gb ρ = (ga ρ >>= fun t => if t = true then pure true else gb ρ) := (rfl)
theorem ap_and : eAnd fa fb ρ = (fa ρ >>= fun x => x.tru >>= fun t => if t = true then fb ρ else pure x) := (rfl)
theorem ap_or : eOr fa fb ρ = (fa ρ >>= fun x => x.tru >>= fun t => if t = true then pure x else fb ρ) := (rfl)
theorem ap_not : eNot fa ρ = (fa ρ >>= fun x => x.tru >>= fun t => pure (.bl (!t))) := (rfl)
theorem ap_if : eIf ga fa fb ρ = (ga ρ >>= fun t => if t = true then fa ρ else fb ρ) := (rfl)
theorem ap_un (op : D → M D) : eUn op fa ρ = (fa ρ >>= op) := (rfl)
theorem ap_nil : aNil ρ = pure [] := (rfl)
theorem ap_cons : aCons fa fs ρ = (fa ρ >>= fun x => fs ρ >>= fun xs => pure (x :: xs)) := (rfl)
theorem ap_tup : eTup fs ρ = (fs ρ >>= fun xs => M.guard (decide (xs.length ≤ sizeLine)) >>= fun _ => pure (.tup xs)) := (rfl)
theorem ap_lst : eLst fs ρ = (fs ρ >>= fun xs => M.guard (decide (xs.length ≤ sizeLine)) >>= fun _ => pure (.lst xs)) := (rfl)
theorem ap_lstH : eLstH fs ρ = (fs ρ >>= fun xs => M.guard (decide (xs.length ≤ sizeLine)) >>= fun _ => M.more (.lst xs)) := (rfl)
theorem ap_onone : oNone ρ = pure none := (rfl)
theorem ap_osome : oSome fa ρ = (fa ρ >>= D.part) := (rfl)
theorem ap_slice {fl fh : Env → M (Option Int)} : eSlice fa fl fh ρ = (fa ρ >>= fun x => fl ρ >>= fun l => fh ρ >>= fun u => D.slice x l u) := (rfl)
theorem ap_b (op : List D → M D) : eB op fs ρ = (fs ρ >>= op) := (rfl)
theorem ap_jnil (acc : Str) : jNil ρ acc = pure acc := (rfl)
theorem ap_jcons {fj : Env → Str → M Str} (acc : Str) : jCons fa fj ρ acc = (fa ρ >>= fun x => D.onto acc x >>= fun acc => fj ρ acc) := (rfl)
theorem ap_joined {fj : Env → Str → M Str} : eJoined fj ρ = (fj ρ Str.empty >>= fun x => pure (.str x)) := (rfl)
theorem ap_m1 (op : Str → D → M D) : eM1 op fa fb ρ = (fa ρ >>= fun x => D.text x >>= fun x => fb ρ >>= fun y => op x y) := (rfl)
theorem ap_ival : iVal fa ρ = (fa ρ >>= D.iter) := (rfl)
theorem ap_range1 : iRange1 fa ρ = (fa ρ >>= fun x => D.range1 [x]) := (rfl)
theorem ap_range2 : iRange2 fa fb ρ = (fa ρ >>= fun x => fb ρ >>= fun y => D.range2 [x, y]) := (rfl)
theorem ap_gnam (i : Nat) : gNam i d ρ = pure (ρ.set i (some d)) := (rfl)
theorem ap_gsnil : gsNil [] ρ = pure ρ := (rfl)
theorem ap_gscons {fg : D → Env → M Env} {fgs : List D → Env → M Env} (ds : List D) : gsCons fg fgs (d :: ds) ρ = (fg d ρ >>= fun ρ => fgs ds ρ) := (rfl)
theorem ap_gtp (n : Nat) {fgs : List D → Env → M Env} : gTp n fgs d ρ = (D.unpack n d >>= fun ds => fgs ds ρ) := (rfl)
theorem ap_gsb : gSb fa fb d ρ = (fa ρ >>= fun x => D.ref x >>= fun k => fb ρ >>= fun y => D.part y >>= fun o => M.puto k o d >>= fun _ => pure ρ) := (rfl)
theorem ap_lc {fi : Env → M (List D × Option Nat)} {fg : D → Env → M Env} {ft : Env → M Bool} {own : List Nat} : eLc fi fg ft fa own ρ = (lcAll fi fg ft fa own ρ >>= fun ds => pure (.lst ds)) := (rfl)
theorem ap_lcH {fi : Env → M (List D × Option Nat)} {fg : D → Env → M Env} {ft : Env → M Bool} {own : List Nat} : eLcH fi fg ft fa own ρ = (lcAll fi fg ft fa own ρ >>= fun ds => M.more (.lst ds)) := (rfl)
theorem ap_all : tAll ρ = pure true := (rfl)
theorem ap_app : eApp fa fb ρ = (fa ρ >>= fun x => D.ref x >>= fun k => M.isL k >>= fun _ => fb ρ >>= fun y => M.app k y >>= fun _ => pure .non) := (rfl)
theorem ap_call (n : Nat) (gg : List D → M D) : eCall n gg fs ρ = (fs ρ >>= fun ds => M.guard (decide (ds.length = n)) >>= fun _ => gg ds) := (rfl)
theorem ap_callD (n : Nat) (dds : List D) (gg : List D → M D) : eCallD n dds gg fs ρ = (fs ρ >>= fun ds => M.guard (decide ((ds ++ dds).length = n)) >>= fun _ => gg (ds ++ dds)) := (rfl)
theorem ap_snil : sNil ρ = pure (.nx ρ) := (rfl)
theorem ap_scons : sCons f g ρ = (f ρ >>= fun fl => flow fl g) := (rfl)
theorem ap_ret : sRet fa ρ = (fa ρ >>= fun d => pure (.rt d)) := (rfl)
theorem ap_retN : sRetN ρ = pure (.rt .non) := (rfl)
theorem ap_expr : sExpr fa ρ = (fa ρ >>= fun _ => pure (.nx ρ)) := (rfl)
theorem ap_sif : sIf ga f g ρ = (ga ρ >>= fun t => if t = true then f ρ else g ρ) := (rfl)
theorem ap_asg {fg : D → Env → M Env} : sAsg fa fg ρ = (fa ρ >>= fun d => fg d ρ >>= fun ρ => pure (.nx ρ)) := (rfl)
theorem ap_set (i : Nat) : sSet i fa ρ = (fa ρ >>= fun d => pure (.nx (ρ.set i (some d)))) := (rfl)
theorem ap_aug (i : Nat) : sAug i fa ρ = (slot ρ i >>= fun x => fa ρ >>= fun y => D.iadd x y >>= fun d => pure (.nx (ρ.set i (some d)))) := (rfl)
theorem ap_while (n : Nat) : sWhile n ga f ρ = whileL ga f n ρ := (rfl)
theorem ap_for {fi : Env → M (List D × Option Nat)} {fg : D → Env → M Env} : sFor fi fg f ρ = forAll fi fg f ρ := (rfl)
theorem ap_break : sBreak ρ = pure (.bk ρ) := (rfl)
theorem ap_cont : sCont ρ = pure (.ct ρ) := (rfl)
theorem iadd_int (a b : Int) : D.iadd (.int a) (.int b) = pure (.int (a + b)) := (rfl)
theorem len_eq (xs : List D) (x : D) (n : Nat) (h : xs.length = n) : (x :: xs).length = n + 1 := by rw [List.length_cons, h]
theorem callg (n : Nat) : (n = n) = True := by simp
end
def Bag (k : Nat) (m : Mu) (z : Nat) : Prop := ∃ x y : Int, m[k]? = some (.lst [.int x, .int y, .int (z : Int)]) ∧ 0 ≤ x ∧ 0 ≤ y ∧ y ≤ 2 ^ 32
def Draws {A : Type} (k c : Nat) (x : M A) (R : A → Prop) : Prop := ∀ m z, Bag k m z → z + c ≤ 1000000 → ∃ a m' z', x.run m = .ok a m' ∧ Bag k m' z' ∧ z' ≤ z + c ∧ R a ∧ m'.length = m.length ∧ ∀ j, j ≠ k → m'[j]? = m[j]?
section
variable {A B : Type} {k c c' : Nat} {x : M A} {f : A → M B} {R : A → Prop} {R' : B → Prop}
theorem dr_pure {a : A} (h : R a) : Draws k 0 (pure a) R := fun m z b _ => ⟨a, m, z, rfl, b, Nat.le_refl _, h, rfl, fun _ _ => rfl⟩
theorem dr_bind (h : Draws k c x R) (h' : ∀ a, R a → Draws k c' (f a) R') : Draws k (c + c') (x >>= f) R' := fun m z b hz => by
  obtain ⟨a, m1, z1, e1, b1, l1, r1, n1, o1⟩ := h m z b (by omega)
  obtain ⟨a2, m2, z2, e2, b2, l2, r2, n2, o2⟩ := h' a r1 m1 z1 b1 (by omega)
  exact ⟨a2, m2, z2, by rw [bind_run, e1]; exact e2, b2, by omega, r2, n2.trans n1, fun j hj => (o2 j hj).trans (o1 j hj)⟩
theorem dr_le (h : Draws k c x R) (hc : c ≤ c') : Draws k c' x R := fun m z b hz => by
  obtain ⟨a, m1, z1, e1, b1, l1, r1, n1, o1⟩ := h m z b (by omega)
  exact ⟨a, m1, z1, e1, b1, by omega, r1, n1, o1⟩
theorem dr_imp {R' : A → Prop} (h : Draws k c x R) (hR : ∀ a, R a → R' a) : Draws k c x R' := fun m z b hz => by
  obtain ⟨a, m1, z1, e1, b1, l1, r1, n1, o1⟩ := h m z b (by omega)
  exact ⟨a, m1, z1, e1, b1, l1, hR a r1, n1, o1⟩
theorem dr_pure' {a : A} (h : R a) : Draws k c (pure a) R := dr_le (dr_pure h) (Nat.zero_le _)
theorem dr_noexc (h : Draws k c x R) : Draws k c (M.noexc x) R := fun m z b hz => by
  obtain ⟨a, m1, z1, e1, r⟩ := h m z b (by omega)
  exact ⟨a, m1, z1, by unfold M.noexc; simp only [e1]; rfl, r⟩
theorem dr_guard {p : Prop} [Decidable p] {y : M A} (h : p) (hy : Draws k c y R) : Draws k c (M.guard (decide p) >>= fun _ => y) R := by
  rw [guard_of h]
  exact hy
theorem dr_ite {p : Prop} [Decidable p] {y : M A} (h1 : p → Draws k c x R) (h2 : ¬ p → Draws k c y R) : Draws k c (if p then x else y) R := by
  split
  · exact h1 (by assumption)
  · exact h2 (by assumption)
theorem dr_lc {fg : D → Env → M Env} {fe : Env → M D} {ρ : Env} {R : D → Prop} : ∀ (ds acc : List D), (∀ d, d ∈ ds → ∃ ρ', fg d ρ = pure ρ' ∧ Draws k c (fe ρ') R) → ds.length + acc.length ≤ 100000 → (∀ d, d ∈ acc → R d) →
    Draws k (ds.length * c) (lcGo fg tAll fe ρ ds acc) (fun es => es.length = acc.length + ds.length ∧ ∀ e, e ∈ es → R e)
  | [], acc, _, _, ha => by
    rw [List.length_nil, Nat.zero_mul]
    exact dr_pure ⟨rfl, ha⟩
  | d :: ds, acc, h, hl, ha => by
    obtain ⟨ρ', e, hd⟩ := h d List.mem_cons_self
    have e2 : (d :: ds).length * c = c + ds.length * c := by rw [List.length_cons, Nat.succ_mul]; omega
    rw [e2]
    have hl2 : ds.length + acc.length + 1 ≤ 100000 := by rw [List.length_cons] at hl; omega
    show Draws k _ (fg d ρ >>= fun ρ1 => tAll ρ1 >>= fun t => if t = true then fe ρ1 >>= fun y => M.guard (decide (acc.length < sizeLine)) >>= fun _ => lcGo fg tAll fe ρ ds (acc ++ [y]) else lcGo fg tAll fe ρ ds acc) _
    rw [e]
    show Draws k _ (fe ρ' >>= fun y => M.guard (decide (acc.length < sizeLine)) >>= fun _ => lcGo fg tAll fe ρ ds (acc ++ [y])) _
    refine dr_bind hd fun y hy => dr_guard (Nat.lt_of_lt_of_le (show acc.length < 100000 by omega) (by decide)) ?_
    refine dr_imp (dr_lc ds (acc ++ [y]) (fun z hz => h z (List.mem_cons_of_mem _ hz)) (by rw [List.length_append, List.length_singleton]; omega) fun z hz => ?_) fun es hes => ?_
    · rcases List.mem_append.mp hz with q | q
      · exact ha z q
      · rw [List.mem_singleton.mp q]; exact hy
    · rw [List.length_append, List.length_singleton] at hes
      exact ⟨by rw [hes.1, List.length_cons]; omega, hes.2⟩
theorem lcGo_pure {fg : D → Env → M Env} {ft : Env → M Bool} {fe : Env → M D} {ρ : Env} (t : D → Bool) (g : D → D) : ∀ (ds acc : List D), (∀ d, d ∈ ds → ∃ ρ', fg d ρ = pure ρ' ∧ ft ρ' = pure (t d) ∧ (t d = true → fe ρ' = pure (g d))) → ds.length + acc.length ≤ 100000 →
    lcGo fg ft fe ρ ds acc = pure (acc ++ (ds.filter t).map g)
  | [], acc, _, _ => by simp [lcGo]
  | d :: ds, acc, h, hl => by
    obtain ⟨ρ', e1, e2, e3⟩ := h d List.mem_cons_self
    have hl2 : ds.length + acc.length + 1 ≤ 100000 := by rw [List.length_cons] at hl; omega
    have hr : ∀ z, z ∈ ds → ∃ ρ', fg z ρ = pure ρ' ∧ ft ρ' = pure (t z) ∧ (t z = true → fe ρ' = pure (g z)) := fun z hz => h z (List.mem_cons_of_mem _ hz)
    show (fg d ρ >>= fun ρ1 => ft ρ1 >>= fun t => if t = true then fe ρ1 >>= fun y => M.guard (decide (acc.length < sizeLine)) >>= fun _ => lcGo fg ft fe ρ ds (acc ++ [y]) else lcGo fg ft fe ρ ds acc) = _
    rw [e1, pure_bind', e2, pure_bind']
    by_cases c : t d = true
    · rw [if_pos c, e3 c, pure_bind', guard_of (Nat.lt_of_lt_of_le (show acc.length < 100000 by omega) (by decide)), pure_bind', lcGo_pure t g ds _ hr (by rw [List.length_append, List.length_singleton]; omega), List.filter_cons_of_pos c]
      simp
    · rw [if_neg c, lcGo_pure t g ds acc hr (by omega), List.filter_cons_of_neg c]
end
theorem ix_hnd {k : Nat} {m : Mu} {ds : List D} {d : D} {i : Int} {A : Type} {f : D → M A} (h : m[k]? = some (.lst ds)) (e : atI ds i = some d) : (D.ix (.hnd k) (.int i) >>= f).run m = (f d).run m := by
  show (((D.hnd k).now >>= fun x => D.ix1 x (.int i)) >>= f).run m = _
  rw [bind_assoc', bind_run]
  simp only [D.now, h]
  show ((M.opt (atI ds i) >>= f)).run m = _
  rw [e]
  rfl
theorem put_hnd {k j : Nat} {m : Mu} {ds : List D} {d : D} {i : Int} {A : Type} {f : Unit → M A} (h : m[k]? = some (.lst ds)) (e : ixN ds.length i = some j) : (M.put k i d >>= f).run m = (f ()).run (m.set k (.lst (ds.set j d))) := by
  rw [bind_run]
  simp only [M.put, h, e]
  rfl
theorem lcAll_pure {fi : Env → M (List D × Option Nat)} {fg : D → Env → M Env} {ft : Env → M Bool} {fe : Env → M D} {own : List Nat} {ρ : Env} {ds : List D} (t : D → Bool) (g : D → D) (hi : fi ρ = pure (ds, none))
    (h : ∀ d, d ∈ ds → ∃ ρ', fg d (wipeE ρ own) = pure ρ' ∧ ft ρ' = pure (t d) ∧ (t d = true → fe ρ' = pure (g d))) (hl : ds.length ≤ 100000) : lcAll fi fg ft fe own ρ = pure ((ds.filter t).map g) := by
  unfold lcAll
  rw [hi, pure_bb]
  show (M.guard true >>= fun _ => M.noexc (lcGo fg ft fe (wipeE ρ own) ds [])) = _
  rw [guard_t, pure_bb, lcGo_pure t g ds [] h (by simpa using hl), noexc_p]
  rfl
theorem lcAll_map {fi : Env → M (List D × Option Nat)} {fg : D → Env → M Env} {fe : Env → M D} {own : List Nat} {ρ : Env} {ds : List D} (g : D → D) (hi : fi ρ = pure (ds, none))
    (h : ∀ d, d ∈ ds → ∃ ρ', fg d (wipeE ρ own) = pure ρ' ∧ fe ρ' = pure (g d)) (hl : ds.length ≤ 100000) : lcAll fi fg tAll fe own ρ = pure (ds.map g) := by
  rw [lcAll_pure (fun _ => true) g hi (fun d hd => by
    obtain ⟨ρ', e1, e2⟩ := h d hd
    exact ⟨ρ', e1, rfl, fun _ => e2⟩) hl, List.filter_eq_self.mpr (fun _ _ => rfl)]
theorem iter_str (x : Str) : D.iter (.str x) = pure (signs x, none) := (rfl)
theorem iter_lst (x : List D) : D.iter (.lst x) = pure (x, none) := (rfl)
theorem iter_frz (x : List D) : D.iter (.frz x) = pure (x, none) := (rfl)
theorem iter_tup (x : List D) : D.iter (.tup x) = pure (x, none) := (rfl)
theorem range1_int (n : Int) (h : -(2 ^ 62) ≤ n ∧ n < 2 ^ 62) : D.range1 [.int n] = pure (rangeD 0 n.toNat, none) := by
  show (M.guard (decide _) >>= fun _ => (pure (rangeD 0 n.toNat, none) : M (List D × Option Nat))) = _
  rw [guard_of h]
  rfl
theorem mem_rangeD {lo : Int} {n : Nat} {d : D} (h : d ∈ rangeD lo n) : ∃ i : Nat, i < n ∧ d = .int (lo + i) := by
  unfold rangeD at h
  obtain ⟨i, hi, e⟩ := List.mem_map.mp h
  exact ⟨i, List.mem_range.mp hi, e.symm⟩
theorem len_rangeD (lo : Int) (n : Nat) : (rangeD lo n).length = n := by simp [rangeD]
theorem bls_map {A : Type} (p : A → Bool) : ∀ xs : List A, D.bls (xs.map fun x => .bl (p x)) = some (xs.map p)
  | [] => rfl
  | x :: xs => by
    show (D.bls (xs.map fun x => .bl (p x))).map (p x :: ·) = _
    rw [bls_map p xs]
    rfl
theorem all_map {A : Type} (p : A → Bool) (xs : List A) : D.all (.lst (xs.map fun x => .bl (p x))) = pure (.bl (xs.all p)) := by
  show M.opt ((D.bls (xs.map fun x => .bl (p x))).map fun bs => D.bl (bs.all id)) = _
  rw [bls_map]
  simp
theorem any_map {A : Type} (p : A → Bool) (xs : List A) : D.any (.lst (xs.map fun x => .bl (p x))) = pure (.bl (xs.any p)) := by
  show M.opt ((D.bls (xs.map fun x => .bl (p x))).map fun bs => D.bl (bs.any id)) = _
  rw [bls_map]
  simp
theorem texts_map {A : Type} (p : A → Str) : ∀ xs : List A, D.texts (xs.map fun x => .str (p x)) = some (xs.map p)
  | [] => rfl
  | x :: xs => by
    show (D.texts (xs.map fun x => .str (p x))).map (p x :: ·) = _
    rw [texts_map p xs]
    rfl
theorem strIn_one (c : Nat) (z : Str) : strIn ⟨#[c]⟩ z = decide (c ∈ z.cps.toList) := by
  have h := PySem.StrLaws.found_one z c
  unfold strIn
  first | exact h | exact h.symm | (rw [h])
theorem isIn_one (c : Nat) (z : Str) : D.isIn (.str ⟨#[c]⟩) (.str z) = pure (.bl (decide (c ∈ z.cps.toList))) := by
  rw [← strIn_one]
  rfl
theorem slice_str (x : Str) (lo hi : Option Int) (h : x.length ≤ sizeLine) : D.slice (.str x) lo hi = pure (.str (cutS x lo hi)) := by
  show (M.guard (decide _) >>= fun _ => (pure (D.str (cutS x lo hi)) : M D)) = _
  rw [guard_of h]
  rfl
theorem slice_tup (x : List D) (lo hi : Option Int) : D.slice (.tup x) lo hi = pure (.tup (cut x lo hi)) := (rfl)
theorem slice_lst (x : List D) (lo hi : Option Int) : D.slice (.lst x) lo hi = pure (.lst (cut x lo hi)) := (rfl)
theorem back_tup (x : List D) : D.back (.tup x) = pure (.tup x.reverse) := (rfl)
theorem back_lst (x : List D) : D.back (.lst x) = pure (.lst x.reverse) := (rfl)
theorem starts_str (a b : Str) : D.startswith a (.str b) = pure (.bl (Txt.startswith a b)) := (rfl)
theorem eq_str (a b : Str) : D.eq (.str a) (.str b) = pure (.bl (a == b)) := (rfl)
theorem ne_str (a b : Str) : D.ne (.str a) (.str b) = pure (.bl (!(a == b))) := (rfl)
theorem eq_int' (a b : Int) : D.eq (.int a) (.int b) = pure (.bl (a == b)) := (rfl)
theorem eq_bl (a b : Bool) : D.eq (.bl a) (.bl b) = pure (.bl (a == b)) := (rfl)
theorem ne_int' (a b : Int) : D.ne (.int a) (.int b) = pure (.bl (!(a == b))) := (rfl)
theorem str_length (x : Str) : x.length = x.cps.toList.length := by
  show x.cps.size = _
  simp
theorem str_mk_toList (l : List Nat) : (⟨l.toArray⟩ : Str).cps.toList = l := by simp
theorem fmt_str (y : Str) (h : y.length ≤ sizeLine) : D.fmt (.str y) = pure (.str y) := by
  show (M.guard (decide _) >>= fun _ => (pure (D.str y) : M D)) = _
  rw [guard_of h]; rfl
theorem fmt_int (i : Int) (h : i.natAbs.log2 < 1920) : D.fmt (.int i) = pure (.str (toString i)) := by
  show (M.guard (decide _) >>= fun _ => (pure (D.str (toString i)) : M D)) = _
  rw [guard_of h]; rfl
theorem strOf_int (i : Int) (h : i.natAbs.log2 < 1920) : D.strOf (.int i) = pure (.str (toString i)) := by
  show (M.guard (decide _) >>= fun _ => (pure (D.str (toString i)) : M D)) = _
  rw [guard_of h]; rfl
theorem onto_str (acc y : Str) (h : (acc ++ y).length ≤ sizeLine) : D.onto acc (.str y) = pure (acc ++ y) := by
  show (M.guard (decide _) >>= fun _ => (pure (acc ++ y) : M Str)) = _
  rw [guard_of h]; rfl
theorem isT_of (T : String) (d : D) (t : String) (b : Bool) (h0 : d.now = pure d) (h1 : d.kind = some t) (h2 : kitB t T = some b) : D.isT T d = pure (.bl b) := by
  unfold D.isT
  rw [h0, pure_bb, h1]
  show M.opt ((kitB t T).map D.bl) = _
  rw [h2]
  rfl
theorem gl0 : decide (([] : List D).length ≤ sizeLine) = true := decide_eq_true (by show 0 ≤ 16777216; decide)
theorem gl1 (a0 : D) : decide (([a0] : List D).length ≤ sizeLine) = true := decide_eq_true (by show 1 ≤ 16777216; decide)
theorem gl2 (a0 a1 : D) : decide (([a0, a1] : List D).length ≤ sizeLine) = true := decide_eq_true (by show 2 ≤ 16777216; decide)
theorem gl3 (a0 a1 a2 : D) : decide (([a0, a1, a2] : List D).length ≤ sizeLine) = true := decide_eq_true (by show 3 ≤ 16777216; decide)
theorem gl4 (a0 a1 a2 a3 : D) : decide (([a0, a1, a2, a3] : List D).length ≤ sizeLine) = true := decide_eq_true (by show 4 ≤ 16777216; decide)
theorem gl5 (a0 a1 a2 a3 a4 : D) : decide (([a0, a1, a2, a3, a4] : List D).length ≤ sizeLine) = true := decide_eq_true (by show 5 ≤ 16777216; decide)
theorem gl6 (a0 a1 a2 a3 a4 a5 : D) : decide (([a0, a1, a2, a3, a4, a5] : List D).length ≤ sizeLine) = true := decide_eq_true (by show 6 ≤ 16777216; decide)
theorem gl7 (a0 a1 a2 a3 a4 a5 a6 : D) : decide (([a0, a1, a2, a3, a4, a5, a6] : List D).length ≤ sizeLine) = true := decide_eq_true (by show 7 ≤ 16777216; decide)
theorem gl8 (a0 a1 a2 a3 a4 a5 a6 a7 : D) : decide (([a0, a1, a2, a3, a4, a5, a6, a7] : List D).length ≤ sizeLine) = true := decide_eq_true (by show 8 ≤ 16777216; decide)
theorem gl9 (a0 a1 a2 a3 a4 a5 a6 a7 a8 : D) : decide (([a0, a1, a2, a3, a4, a5, a6, a7, a8] : List D).length ≤ sizeLine) = true := decide_eq_true (by show 9 ≤ 16777216; decide)
theorem gl10 (a0 a1 a2 a3 a4 a5 a6 a7 a8 a9 : D) : decide (([a0, a1, a2, a3, a4, a5, a6, a7, a8, a9] : List D).length ≤ sizeLine) = true := decide_eq_true (by show 10 ≤ 16777216; decide)
theorem gl11 (a0 a1 a2 a3 a4 a5 a6 a7 a8 a9 a10 : D) : decide (([a0, a1, a2, a3, a4, a5, a6, a7, a8, a9, a10] : List D).length ≤ sizeLine) = true := decide_eq_true (by show 11 ≤ 16777216; decide)
theorem gl12 (a0 a1 a2 a3 a4 a5 a6 a7 a8 a9 a10 a11 : D) : decide (([a0, a1, a2, a3, a4, a5, a6, a7, a8, a9, a10, a11] : List D).length ≤ sizeLine) = true := decide_eq_true (by show 12 ≤ 16777216; decide)
theorem gl13 (a0 a1 a2 a3 a4 a5 a6 a7 a8 a9 a10 a11 a12 : D) : decide (([a0, a1, a2, a3, a4, a5, a6, a7, a8, a9, a10, a11, a12] : List D).length ≤ sizeLine) = true := decide_eq_true (by show 13 ≤ 16777216; decide)
theorem gl14 (a0 a1 a2 a3 a4 a5 a6 a7 a8 a9 a10 a11 a12 a13 : D) : decide (([a0, a1, a2, a3, a4, a5, a6, a7, a8, a9, a10, a11, a12, a13] : List D).length ≤ sizeLine) = true := decide_eq_true (by show 14 ≤ 16777216; decide)
theorem gl15 (a0 a1 a2 a3 a4 a5 a6 a7 a8 a9 a10 a11 a12 a13 a14 : D) : decide (([a0, a1, a2, a3, a4, a5, a6, a7, a8, a9, a10, a11, a12, a13, a14] : List D).length ≤ sizeLine) = true := decide_eq_true (by show 15 ≤ 16777216; decide)
theorem gl16 (a0 a1 a2 a3 a4 a5 a6 a7 a8 a9 a10 a11 a12 a13 a14 a15 : D) : decide (([a0, a1, a2, a3, a4, a5, a6, a7, a8, a9, a10, a11, a12, a13, a14, a15] : List D).length ≤ sizeLine) = true := decide_eq_true (by show 16 ≤ 16777216; decide)
theorem gc0 : decide (([] : List D).length = 0) = true := (rfl)
theorem gc1 (a0 : D) : decide (([a0] : List D).length = 1) = true := (rfl)
theorem gc2 (a0 a1 : D) : decide (([a0, a1] : List D).length = 2) = true := (rfl)
theorem gc3 (a0 a1 a2 : D) : decide (([a0, a1, a2] : List D).length = 3) = true := (rfl)
theorem gc4 (a0 a1 a2 a3 : D) : decide (([a0, a1, a2, a3] : List D).length = 4) = true := (rfl)
theorem gc5 (a0 a1 a2 a3 a4 : D) : decide (([a0, a1, a2, a3, a4] : List D).length = 5) = true := (rfl)
theorem gc6 (a0 a1 a2 a3 a4 a5 : D) : decide (([a0, a1, a2, a3, a4, a5] : List D).length = 6) = true := (rfl)
theorem gc7 (a0 a1 a2 a3 a4 a5 a6 : D) : decide (([a0, a1, a2, a3, a4, a5, a6] : List D).length = 7) = true := (rfl)
theorem gc8 (a0 a1 a2 a3 a4 a5 a6 a7 : D) : decide (([a0, a1, a2, a3, a4, a5, a6, a7] : List D).length = 8) = true := (rfl)
theorem guard_nn : M.guard ((none : Option Nat) == none) = pure () := (rfl)
theorem wipe_1 (ρ : Env) (i : Nat) : wipeE ρ [i] = ρ.set i none := (rfl)
end Mir
set_option maxRecDepth 100000
set_option maxHeartbeats 4000000
namespace LW
open PySem L2 Mir
def top (i : Nat) : Stmt := PySem.Challenge.pw_sentnames_k01_names_known.main.body.getD i (.Pass ⟨0, 0, 0, 0⟩)
abbrev s_are_signs : Stmt := top 6
abbrev s_are_letters : Stmt := top 7
abbrev s_is_number_text : Stmt := top 8
abbrev s_is_name : Stmt := top 9
abbrev s_first_not_in : Stmt := top 10
abbrev s_fresh_for : Stmt := top 11
abbrev s_l_bag : Stmt := top 13
abbrev s_l_take : Stmt := top 14
abbrev s_l_number : Stmt := top 15
abbrev s_l_word : Stmt := top 16
abbrev s_l_bent : Stmt := top 17
abbrev s_l_is_name : Stmt := top 18
abbrev s_l_right : Stmt := top 19
abbrev s_l_fresh_right : Stmt := top 20
abbrev s_law : Stmt := top 21
def b_are_signs : Mir.Env → M Fl :=
  (sRet (eB (d1 D.all) (aCons (eLc (iVal (eVar 0)) (gNam 2) tAll (eBin D.isIn (eVar 2) (eVar 1)) [2]) aNil)))
def m_are_signs : List D → M D := mirK 3 b_are_signs
abbrev n_are_signs : List Str := ["text", "signs", "sign"]
theorem sc_are_signs : FnScope n_are_signs ["text", "signs"] (defScope s_are_signs) := ⟨rfl, rfl, rfl, by decide +kernel, rfl, by decide +kernel, by decide +kernel⟩
def b_are_letters : Mir.Env → M Fl :=
  (sRet (eAnd (eChain D.le D.le (eC (.int 1)) (eB (d1 D.len) (aCons (eVar 0) aNil)) (eVar 1)) (eCall 2 m_are_signs (aCons (eVar 0) (aCons (eC (.str "abcdefghijklmnopqrstuvwxyz")) aNil)))))
def m_are_letters : List D → M D := mirK 2 b_are_letters
abbrev n_are_letters : List Str := ["text", "most"]
theorem sc_are_letters : FnScope n_are_letters ["text", "most"] (defScope s_are_letters) := ⟨rfl, rfl, rfl, by decide +kernel, rfl, by decide +kernel, by decide +kernel⟩
def b_is_number_text : Mir.Env → M Fl :=
  (sCons (sIf (tOrr (tNeg (tBool (eChain D.le D.le (eC (.int 1)) (eB (d1 D.len) (aCons (eVar 0) aNil)) (eC (.int 2))))) (tNeg (tTru (eCall 2 m_are_signs (aCons (eVar 0) (aCons (eC (.str "0123456789")) aNil)))))) (sRet (eC (.bl false))) sNil)
      (sRet (eOr (eBin D.eq (eVar 0) (eC (.str "0"))) (eBin D.ne (eBin D.ix (eVar 0) (eC (.int 0))) (eC (.str "0"))))))
def m_is_number_text : List D → M D := mirK 1 b_is_number_text
abbrev n_is_number_text : List Str := ["text"]
theorem sc_is_number_text : FnScope n_is_number_text ["text"] (defScope s_is_number_text) := ⟨rfl, rfl, rfl, by decide +kernel, rfl, by decide +kernel, by decide +kernel⟩
def b_is_name : Mir.Env → M Fl :=
  (sCons (sIf (tNeg (tTru (eUn (D.isT "str") (eVar 0)))) (sRet (eC (.bl false))) sNil)
      (sRet (eOr (eCallD 2 [.int 6] m_are_letters (aCons (eVar 0) aNil)) (eAnd (eM1 D.startswith (eVar 0) (eC (.str "f"))) (eCall 1 m_is_number_text (aCons (eSlice (eVar 0) (oSome (eC (.int 1))) oNone) aNil))))))
def m_is_name : List D → M D := mirK 1 b_is_name
abbrev n_is_name : List Str := ["thing"]
theorem sc_is_name : FnScope n_is_name ["thing"] (defScope s_is_name) := ⟨rfl, rfl, rfl, by decide +kernel, rfl, by decide +kernel, by decide +kernel⟩
def b_first_not_in : Mir.Env → M Fl :=
  (sCons (sSet 2 (eC (.int 0)))
      (sCons (sWhile 128 (tBool (eBin D.isIn (eJoined (jCons (eUn D.fmt (eVar 1)) (jCons (eUn D.fmt (eVar 2)) jNil))) (eVar 0))) (sAug 2 (eC (.int 1))))
      (sRet (eJoined (jCons (eUn D.fmt (eVar 1)) (jCons (eUn D.fmt (eVar 2)) jNil))))))
def m_first_not_in : List D → M D := mirK 3 b_first_not_in
abbrev n_first_not_in : List Str := ["names", "head", "number"]
theorem sc_first_not_in : FnScope n_first_not_in ["names", "head"] (defScope s_first_not_in) := ⟨rfl, rfl, rfl, by decide +kernel, rfl, by decide +kernel, by decide +kernel⟩
def b_fresh_for : Mir.Env → M Fl :=
  (sRet (eCall 2 m_first_not_in (aCons (eVar 0) (aCons (eC (.str "f")) aNil))))
def m_fresh_for : List D → M D := mirK 1 b_fresh_for
abbrev n_fresh_for : List Str := ["names"]
theorem sc_fresh_for : FnScope n_fresh_for ["names"] (defScope s_fresh_for) := ⟨rfl, rfl, rfl, by decide +kernel, rfl, by decide +kernel, by decide +kernel⟩
def b_l_bag : Mir.Env → M Fl :=
  (sCons (sSet 2 (eBin D.add (eBin D.mul (eC (.int 7013)) (eVar 1)) (eC (.int 11))))
      (sCons (sIf (tBool (eBin D.lt (eVar 1) (eB (d1 D.len) (aCons (eVar 0) aNil)))) (sSet 2 (eBin D.ix (eVar 0) (eVar 1))) sNil)
      (sCons (sSet 3 (eB (d1 D.abs) (aCons (eVar 2) aNil)))
      (sRet (eLstH (aCons (eBin D.mul (eVar 3) (eB (d1 D.toInt) (aCons (eBin D.ge (eVar 3) (eBin D.pow (eC (.int 10)) (eC (.int 18)))) aNil))) (aCons (eBin D.add (eBin D.mod (eVar 2) (eC (.int 2147483647))) (eBin D.mul (eC (.int 40009)) (eVar 1))) (aCons (eC (.int 0)) aNil))))))))
def m_l_bag : List D → M D := mirK 4 b_l_bag
abbrev n_l_bag : List Str := ["_law_script", "_law_at", "_law_cell", "_law_far"]
theorem sc_l_bag : FnScope n_l_bag ["_law_script", "_law_at"] (defScope s_l_bag) := ⟨rfl, rfl, rfl, by decide +kernel, rfl, by decide +kernel, by decide +kernel⟩
def b_l_take : Mir.Env → M Fl :=
  (sCons (sIf (tBool (eBin D.gt (eBin D.ix (eVar 0) (eC (.int 0))) (eC (.int 0)))) (sCons (sSet 2 (eBin D.mod (eBin D.ix (eVar 0) (eC (.int 0))) (eVar 1)))
      (sCons (sAsg (eBin D.fdiv (eBin D.ix (eVar 0) (eC (.int 0))) (eVar 1)) (gSb (eVar 0) (eC (.int 0))))
      (sRet (eVar 2)))) sNil)
      (sCons (sSet 3 (eTup (aCons (eC (.int 2147483647)) (aCons (eC (.int 2147483629)) (aCons (eC (.int 2147483587)) (aCons (eC (.int 2147483579)) (aCons (eC (.int 2147483563)) (aCons (eC (.int 2147483549)) (aCons (eC (.int 2147483543)) (aCons (eC (.int 2147483497)) aNil))))))))))
      (sCons (sAsg (eBin D.add (eBin D.ix (eVar 0) (eC (.int 2))) (eC (.int 1))) (gSb (eVar 0) (eC (.int 2))))
      (sCons (sSet 4 (eBin D.ix (eVar 0) (eC (.int 2))))
      (sCons (sSet 5 (eBin D.add (eBin D.add (eBin D.mul (eBin D.ix (eVar 0) (eC (.int 1))) (eBin D.add (eBin D.mul (eC (.int 2)) (eVar 4)) (eC (.int 1)))) (eBin D.mul (eBin D.mul (eC (.int 2311)) (eVar 4)) (eVar 4))) (eC (.int 71))))
      (sCons (sSet 6 (eBin D.mod (eBin D.pow (eVar 5) (eC (.int 3))) (eBin D.ix (eVar 3) (eBin D.mod (eVar 4) (eC (.int 8))))))
      (sRet (eBin D.mod (eBin D.fdiv (eBin D.mod (eBin D.mul (eVar 6) (eBin D.add (eBin D.fdiv (eVar 6) (eC (.int 4096))) (eVar 4))) (eBin D.ix (eVar 3) (eBin D.mod (eBin D.add (eVar 4) (eC (.int 5))) (eC (.int 8))))) (eC (.int 16))) (eVar 1)))))))))
def m_l_take : List D → M D := mirK 7 b_l_take
abbrev n_l_take : List Str := ["_law_bag_here", "_law_many", "_law_digit", "_law_primes", "_law_step", "_law_low", "_law_found"]
theorem sc_l_take : FnScope n_l_take ["_law_bag_here", "_law_many"] (defScope s_l_take) := ⟨rfl, rfl, rfl, by decide +kernel, rfl, by decide +kernel, by decide +kernel⟩
def b_l_number : Mir.Env → M Fl :=
  (sCons (sSet 1 (eB (d1 D.strOf) (aCons (eCall 2 m_l_take (aCons (eVar 0) (aCons (eBin D.ix (eLst (aCons (eC (.int 10)) (aCons (eC (.int 100)) (aCons (eC (.int 1000)) aNil)))) (eCall 2 m_l_take (aCons (eVar 0) (aCons (eC (.int 3)) aNil)))) aNil))) aNil)))
      (sRet (eBin D.add (eBin D.ix (eLst (aCons (eC (.str "0")) (aCons (eC (.str "")) aNil))) (eB (d1 D.toInt) (aCons (eBin D.gt (eCall 2 m_l_take (aCons (eVar 0) (aCons (eC (.int 4)) aNil))) (eC (.int 0))) aNil))) (eVar 1))))
def m_l_number : List D → M D := mirK 2 b_l_number
abbrev n_l_number : List Str := ["_law_bag_here", "_law_found"]
theorem sc_l_number : FnScope n_l_number ["_law_bag_here"] (defScope s_l_number) := ⟨rfl, rfl, rfl, by decide +kernel, rfl, by decide +kernel, by decide +kernel⟩
def b_l_word : Mir.Env → M Fl :=
  (sCons (sSet 1 (eCall 2 m_l_take (aCons (eVar 0) (aCons (eC (.int 6)) aNil))))
      (sCons (sIf (tBool (eBin D.lt (eVar 1) (eC (.int 2)))) (sRet (eM1 D.join (eC (.str "")) (eLc (iRange1 (eBin D.add (eC (.int 1)) (eCall 2 m_l_take (aCons (eVar 0) (aCons (eC (.int 8)) aNil))))) (gNam 2) tAll (eBin D.ix (eC (.str "abcdefghijklmnopqrstuvwxyz")) (eCall 2 m_l_take (aCons (eVar 0) (aCons (eC (.int 26)) aNil)))) [2]))) sNil)
      (sCons (sIf (tBool (eBin D.lt (eVar 1) (eC (.int 4)))) (sRet (eBin D.add (eC (.str "f")) (eCall 1 m_l_number (aCons (eVar 0) aNil)))) sNil)
      (sCons (sIf (tBool (eBin D.eq (eVar 1) (eC (.int 4)))) (sRet (eBin D.add (eBin D.ix (eC (.str "abfpxz")) (eCall 2 m_l_take (aCons (eVar 0) (aCons (eC (.int 6)) aNil)))) (eCall 1 m_l_number (aCons (eVar 0) aNil)))) sNil)
      (sRet (eM1 D.join (eC (.str "")) (eLc (iRange1 (eCall 2 m_l_take (aCons (eVar 0) (aCons (eC (.int 5)) aNil)))) (gNam 2) tAll (eBin D.ix (eC (.str "af0159xAZ _-@!")) (eCall 2 m_l_take (aCons (eVar 0) (aCons (eC (.int 14)) aNil)))) [2])))))))
def m_l_word : List D → M D := mirK 3 b_l_word
abbrev n_l_word : List Str := ["_law_bag_here", "_law_way", "_law_k"]
theorem sc_l_word : FnScope n_l_word ["_law_bag_here"] (defScope s_l_word) := ⟨rfl, rfl, rfl, by decide +kernel, rfl, by decide +kernel, by decide +kernel⟩
def b_l_bent : Mir.Env → M Fl :=
  (sCons (sSet 2 (eCall 2 m_l_take (aCons (eVar 0) (aCons (eBin D.add (eB (d1 D.len) (aCons (eVar 1) aNil)) (eC (.int 1))) aNil))))
      (sCons (sSet 3 (eBin D.ix (eC (.str "af09FZ -")) (eCall 2 m_l_take (aCons (eVar 0) (aCons (eC (.int 8)) aNil)))))
      (sCons (sSet 4 (eLst (aCons (eBin D.add (eBin D.add (eSlice (eVar 1) oNone (oSome (eVar 2))) (eVar 3)) (eSlice (eVar 1) (oSome (eVar 2)) oNone)) (aCons (eBin D.add (eSlice (eVar 1) oNone (oSome (eVar 2))) (eSlice (eVar 1) (oSome (eBin D.add (eVar 2) (eC (.int 1)))) oNone)) (aCons (eBin D.add (eBin D.add (eSlice (eVar 1) oNone (oSome (eVar 2))) (eVar 3)) (eSlice (eVar 1) (oSome (eBin D.add (eVar 2) (eC (.int 1)))) oNone)) aNil)))))
      (sRet (eBin D.ix (eVar 4) (eCall 2 m_l_take (aCons (eVar 0) (aCons (eC (.int 3)) aNil))))))))
def m_l_bent : List D → M D := mirK 5 b_l_bent
abbrev n_l_bent : List Str := ["_law_bag_here", "_law_word_here", "_law_at", "_law_sign", "_law_some"]
theorem sc_l_bent : FnScope n_l_bent ["_law_bag_here", "_law_word_here"] (defScope s_l_bent) := ⟨rfl, rfl, rfl, by decide +kernel, rfl, by decide +kernel, by decide +kernel⟩
def b_l_is_name : Mir.Env → M Fl :=
  (sCons (sIf (tOrr (tNeg (tTru (eUn (D.isT "str") (eVar 0)))) (tBool (eBin D.eq (eVar 0) (eC (.str ""))))) (sRet (eC (.bl false))) sNil)
      (sCons (sIf (tTru (eB (d1 D.all) (aCons (eLc (iVal (eVar 0)) (gNam 1) tAll (eBin D.isIn (eVar 1) (eC (.str "abcdefghijklmnopqrstuvwxyz"))) [1]) aNil))) (sRet (eBin D.lt (eB (d1 D.len) (aCons (eVar 0) aNil)) (eC (.int 7)))) sNil)
      (sRet (eAnd (eBin D.eq (eBin D.ix (eVar 0) (eC (.int 0))) (eC (.str "f"))) (eBin D.isIn (eSlice (eVar 0) (oSome (eC (.int 1))) oNone) (eLc (iRange1 (eC (.int 100))) (gNam 2) tAll (eB (d1 D.strOf) (aCons (eVar 2) aNil)) [2]))))))
def m_l_is_name : List D → M D := mirK 3 b_l_is_name
abbrev n_l_is_name : List Str := ["_law_thing", "_law_sign", "_law_k"]
theorem sc_l_is_name : FnScope n_l_is_name ["_law_thing"] (defScope s_l_is_name) := ⟨rfl, rfl, rfl, by decide +kernel, rfl, by decide +kernel, by decide +kernel⟩
def b_l_right : Mir.Env → M Fl :=
  (sCons (sSet 1 (eCall 1 m_is_name (aCons (eVar 0) aNil)))
      (sRet (eAnd (eUn (D.isT "bool") (eVar 1)) (eBin D.eq (eVar 1) (eCall 1 m_l_is_name (aCons (eVar 0) aNil))))))
def m_l_right : List D → M D := mirK 2 b_l_right
abbrev n_l_right : List Str := ["_law_thing", "_law_found"]
theorem sc_l_right : FnScope n_l_right ["_law_thing"] (defScope s_l_right) := ⟨rfl, rfl, rfl, by decide +kernel, rfl, by decide +kernel, by decide +kernel⟩
def b_l_fresh_right : Mir.Env → M Fl :=
  (sCons (sSet 1 (eLc (iRange1 (eCall 2 m_l_take (aCons (eVar 0) (aCons (eC (.int 12)) aNil)))) (gNam 2) tAll (eBin D.add (eC (.str "f")) (eB (d1 D.strOf) (aCons (eCall 2 m_l_take (aCons (eVar 0) (aCons (eC (.int 8)) aNil))) aNil))) [2]))
      (sCons (sSet 1 (eBin D.add (eBin D.add (eVar 1) (eLc (iRange1 (eBin D.ix (eLst (aCons (eC (.int 0)) (aCons (eC (.int 0)) (aCons (eC (.int 12)) aNil)))) (eCall 2 m_l_take (aCons (eVar 0) (aCons (eC (.int 3)) aNil))))) (gNam 2) tAll (eBin D.add (eC (.str "f")) (eB (d1 D.strOf) (aCons (eVar 2) aNil))) [2])) (eSlice (eLst (aCons (eC (.str "a")) (aCons (eC (.str "f")) (aCons (eC (.str "ff")) aNil)))) oNone (oSome (eCall 2 m_l_take (aCons (eVar 0) (aCons (eC (.int 4)) aNil)))))))
      (sCons (sSet 3 (eB (d1 D.tuple) (aCons (eSlice (eVar 1) oNone (oSome (eC (.int 11)))) aNil)))
      (sCons (sSet 4 (eBin D.ix (eLc (iVal (eLc (iRange1 (eC (.int 100))) (gNam 2) tAll (eBin D.add (eC (.str "f")) (eB (d1 D.strOf) (aCons (eVar 2) aNil))) [2])) (gNam 5) (tBool (eBin D.notIn (eVar 5) (eVar 3))) (eVar 5) [5]) (eC (.int 0))))
      (sRet (eAnd (eBin D.eq (eCall 1 m_fresh_for (aCons (eVar 3) aNil)) (eVar 4)) (eAnd (eBin D.eq (eCall 1 m_fresh_for (aCons (eUn D.back (eVar 3)) aNil)) (eVar 4)) (eBin D.ne (eCall 1 m_fresh_for (aCons (eBin D.add (eVar 3) (eTup (aCons (eVar 4) aNil))) aNil)) (eVar 4)))))))))
def m_l_fresh_right : List D → M D := mirK 6 b_l_fresh_right
abbrev n_l_fresh_right : List Str := ["_law_bag_here", "_law_some", "_law_k", "_law_names", "_law_due", "_law_one"]
theorem sc_l_fresh_right : FnScope n_l_fresh_right ["_law_bag_here"] (defScope s_l_fresh_right) := ⟨rfl, rfl, rfl, by decide +kernel, rfl, by decide +kernel, by decide +kernel⟩
def b_law : Mir.Env → M Fl :=
  (sCons (sFor (iRange1 (eB (d2 D.max2) (aCons (eC (.int 2)) (aCons (eB (d2 D.min2) (aCons (eC (.int 6)) (aCons (eB (d1 D.len) (aCons (eVar 0) aNil)) aNil))) aNil)))) (gNam 1) (sCons (sSet 2 (eCall 2 m_l_bag (aCons (eVar 0) (aCons (eVar 1) aNil))))
      (sCons (sFor (iRange1 (eC (.int 12))) (gNam 3) (sCons (sSet 4 (eCall 1 m_l_word (aCons (eVar 2) aNil)))
      (sCons (sSet 5 (eCall 2 m_l_bent (aCons (eVar 2) (aCons (eVar 4) aNil))))
      (sIf (tOrr (tNeg (tTru (eCall 1 m_l_right (aCons (eVar 4) aNil)))) (tOrr (tNeg (tTru (eCall 1 m_l_right (aCons (eVar 5) aNil)))) (tNeg (tTru (eCall 1 m_l_right (aCons (eCall 2 m_l_bent (aCons (eVar 2) (aCons (eVar 5) aNil))) aNil)))))) (sRet (eC (.bl false))) sNil))))
      (sCons (sSet 6 (eLst (aCons (eC .non) (aCons (eC (.bl true)) (aCons (eC (.int 0)) (aCons (eC (.int 7)) (aCons (eBin D.pow (eC (.int 10)) (eC (.int 39))) (aCons (eTup aNil) (aCons (eLst aNil) (aCons (eTup (aCons (eC (.str "a")) aNil)) (aCons (eLst (aCons (eC (.str "a")) aNil)) (aCons (eC (.str "")) (aCons (eC (.str "f00")) (aCons (eC (.str "f100")) (aCons (eC (.str "f")) (aCons (eC (.str "f0")) (aCons (eC (.str "f99")) aNil)))))))))))))))))
      (sIf (tOrr (tNeg (tTru (eB (d1 D.all) (aCons (eLc (iVal (eVar 6)) (gNam 7) tAll (eCall 1 m_l_right (aCons (eVar 7) aNil)) [7]) aNil)))) (tNeg (tTru (eCall 1 m_l_fresh_right (aCons (eVar 2) aNil))))) (sRet (eC (.bl false))) sNil)))))
      (sRet (eBin D.eq (eCall 1 m_fresh_for (aCons (eTup aNil) aNil)) (eC (.str "f0")))))
def m_law : List D → M D := mirK 8 b_law
abbrev n_law : List Str := ["_law_script", "_law_at", "_law_bag_here", "_law_turn", "_law_word_here", "_law_bent_here", "_law_odd", "_law_thing"]
theorem sc_law : FnScope n_law ["_law_script"] (defScope s_law) := ⟨rfl, rfl, rfl, by decide +kernel, rfl, by decide +kernel, by decide +kernel⟩
structure Tx (K : PySem.W.Frag) (F : Str → Option V) (mg : Str → Option Value) : Prop where
  b_abs : mg "abs" = none
  b_all : mg "all" = none
  b_bool : mg "bool" = none
  b_int : mg "int" = none
  b_isinstance : mg "isinstance" = none
  b_len : mg "len" = none
  b_max : mg "max" = none
  b_min : mg "min" = none
  b_range : mg "range" = none
  b_str : mg "str" = none
  b_tuple : mg "tuple" = none
  g_FIGURES : GlD K F mg "FIGURES" (.str "0123456789")
  g_FRESH : GlD K F mg "FRESH" (.str "f")
  g_LETTERS : GlD K F mg "LETTERS" (.str "abcdefghijklmnopqrstuvwxyz")
  g_MOST_FIGURES : GlD K F mg "MOST_FIGURES" (.int 2)
section
variable {P : Program} {w : World} {K : PySem.W.Frag} {mg : Str → Option Value} {base : Heap} {F : Str → Option V}
theorem ok_are_signs {f : Addr} {fd : FuncData} (FF : Fun K "are_signs" "are_signs" s_are_signs f fd) (T : Tx K F mg) (hm : mg "are_signs" = some (.ref f)) (bf : Binds K fd ["text", "signs"] [])  : Fn P w K mg base F 1 "are_signs" 2 [] m_are_signs :=
  ⟨f, fd, _, [], [], fn_ok FF sc_are_signs fun cdv A outer s H E hr => by
    exact (ss_one (s_ret (x_b b_all T.b_all (a_cons (x_lc [("sign", 2)] sc_are_signs.nd (i_val (x_var 0)) ⟨fun _ _ _ _ _ => (g_name (is := [2]) 2 sc_are_signs.nd), fun _ _ _ _ _ => ts_nil, fun _ _ _ _ _ => (x_cmp (c_in (hu65 hr)) (x_var 2) (x_var 1)), fun _ h => h⟩ (by show blkC n_are_signs (defScope s_are_signs) _ _ = true; decide +kernel)) a_nil)))), hm, FF.kp, bf, .nil, fun _ => .nil⟩
theorem ok_are_letters {f : Addr} {fd : FuncData} (FF : FunD K "are_letters" "are_letters" (defArgs s_are_letters) (defBody s_are_letters) (defScope s_are_letters) [] [("most", (.int 6))] f fd) (T : Tx K F mg) (hm : mg "are_letters" = some (.ref f)) {ds : List Value} (bd : Vals [(.int 6)] ds) (bf : Binds K fd ["text", "most"] ds) (c_are_signs : Fn P w K mg base F 1 "are_signs" 2 [] m_are_signs) : Fn P w K mg base F 2 "are_letters" 2 [.int 6] m_are_letters :=
  ⟨f, fd, _, _, ds, fn_okD FF sc_are_letters fun cdv A outer s H E hr => by
    exact (ss_one (s_ret (x_and (x_chain c_le c_le x_int (x_b b_len T.b_len (a_cons (x_var 0) a_nil)) (x_var 1)) (x_one (x_call c_are_signs hr (a_cons (x_var 0) (a_cons (x_glob T.g_LETTERS) a_nil))))))), hm, FF.kp, bf, bd, fun W => (.cons (.int _) .nil)⟩
theorem ok_is_number_text {f : Addr} {fd : FuncData} (FF : Fun K "is_number_text" "is_number_text" s_is_number_text f fd) (T : Tx K F mg) (hm : mg "is_number_text" = some (.ref f)) (bf : Binds K fd ["text"] []) (c_are_signs : Fn P w K mg base F 1 "are_signs" 2 [] m_are_signs) : Fn P w K mg base F 2 "is_number_text" 1 [] m_is_number_text :=
  ⟨f, fd, _, [], [], fn_ok FF sc_is_number_text fun cdv A outer s H E hr => by
    exact (ss_cons (s_if (t_w (w_o (t_not (t_chain c_le c_le x_int (x_b b_len T.b_len (a_cons (x_var 0) a_nil)) (x_glob T.g_MOST_FIGURES))) (w_o1 (t_not (t_val (x_call c_are_signs hr (a_cons (x_var 0) (a_cons (x_glob T.g_FIGURES) a_nil)))))))) (ss_one (s_ret x_bl)) ss_nil)
      (ss_one (s_ret (x_or (x_cmp (c_eq hr.units) (x_var 0) x_str) (x_one (x_cmp (c_ne hr.units) (x_ix (x_var 0) x_int) x_str)))))), hm, FF.kp, bf, .nil, fun _ => .nil⟩
theorem ok_is_name {f : Addr} {fd : FuncData} (FF : Fun K "is_name" "is_name" s_is_name f fd) (T : Tx K F mg) (hm : mg "is_name" = some (.ref f)) (bf : Binds K fd ["thing"] []) (c_is_number_text : Fn P w K mg base F 2 "is_number_text" 1 [] m_is_number_text) (c_are_letters : Fn P w K mg base F 2 "are_letters" 2 [.int 6] m_are_letters) : Fn P w K mg base F 3 "is_name" 1 [] m_is_name :=
  ⟨f, fd, _, [], [], fn_ok FF sc_is_name fun cdv A outer s H E hr => by
    exact (ss_cons (s_if (t_not (t_val (x_isi "str" T.b_isinstance T.b_str (x_var 0)))) (ss_one (s_ret x_bl)) ss_nil)
      (ss_one (s_ret (x_or (x_callD c_are_letters hr (a_cons (x_var 0) a_nil)) (x_one (x_and (x_startswith (x_var 0) (x_glob T.g_FRESH)) (x_one (x_call c_is_number_text hr (a_cons (x_slice (x_var 0) (o_some x_int) o_none) a_nil))))))))), hm, FF.kp, bf, .nil, fun _ => .nil⟩
theorem ok_first_not_in {f : Addr} {fd : FuncData} (FF : Fun K "first_not_in" "first_not_in" s_first_not_in f fd) (T : Tx K F mg) (hm : mg "first_not_in" = some (.ref f)) (bf : Binds K fd ["names", "head"] [])  : Fn P w K mg base F 1 "first_not_in" 2 [] m_first_not_in :=
  ⟨f, fd, _, [], [], fn_ok FF sc_first_not_in fun cdv A outer s H E hr => by
    exact (ss_cons (s_set 2 sc_first_not_in.nd x_int)
      (ss_cons (s_while 128 (t_cmp (c_in (hu65 hr)) (x_joined (j_cons (x_fmt (x_var 1)) (j_cons (x_fmt (x_var 2)) j_nil))) (x_var 0)) (ss_one (s_aug 2 sc_first_not_in.nd x_int)))
      (ss_one (s_ret (x_joined (j_cons (x_fmt (x_var 1)) (j_cons (x_fmt (x_var 2)) j_nil))))))), hm, FF.kp, bf, .nil, fun _ => .nil⟩
theorem ok_fresh_for {f : Addr} {fd : FuncData} (FF : Fun K "fresh_for" "fresh_for" s_fresh_for f fd) (T : Tx K F mg) (hm : mg "fresh_for" = some (.ref f)) (bf : Binds K fd ["names"] []) (c_first_not_in : Fn P w K mg base F 1 "first_not_in" 2 [] m_first_not_in) : Fn P w K mg base F 2 "fresh_for" 1 [] m_fresh_for :=
  ⟨f, fd, _, [], [], fn_ok FF sc_fresh_for fun cdv A outer s H E hr => by
    exact (ss_one (s_ret (x_call c_first_not_in hr (a_cons (x_var 0) (a_cons (x_glob T.g_FRESH) a_nil))))), hm, FF.kp, bf, .nil, fun _ => .nil⟩
theorem ok_l_bag {f : Addr} {fd : FuncData} (FF : Fun K "_law_bag" "_law_bag" s_l_bag f fd) (T : Tx K F mg) (hm : mg "_law_bag" = some (.ref f)) (bf : Binds K fd ["_law_script", "_law_at"] [])  : Fn P w K mg base F 1 "_law_bag" 2 [] m_l_bag :=
  ⟨f, fd, _, [], [], fn_ok FF sc_l_bag fun cdv A outer s H E hr => by
    exact (ss_cons (s_set 2 sc_l_bag.nd (x_add (x_mul x_int (x_var 1)) x_int))
      (ss_cons (s_if (t_cmp c_lt (x_var 1) (x_b b_len T.b_len (a_cons (x_var 0) a_nil))) (ss_one (s_set 2 sc_l_bag.nd (x_ix (x_var 0) (x_var 1)))) ss_nil)
      (ss_cons (s_set 3 sc_l_bag.nd (x_b b_abs T.b_abs (a_cons (x_var 2) a_nil)))
      (ss_one (s_ret (x_lstH (a_cons (x_mul (x_var 3) (x_b b_int T.b_int (a_cons (x_cmp c_ge (x_var 3) (x_pow x_int x_int)) a_nil))) (a_cons (x_add (x_mod (x_var 2) x_int) (x_mul x_int (x_var 1))) (a_cons x_int a_nil))))))))), hm, FF.kp, bf, .nil, fun _ => .nil⟩
theorem ok_l_take {f : Addr} {fd : FuncData} (FF : Fun K "_law_take" "_law_take" s_l_take f fd) (T : Tx K F mg) (hm : mg "_law_take" = some (.ref f)) (bf : Binds K fd ["_law_bag_here", "_law_many"] [])  : Fn P w K mg base F 1 "_law_take" 2 [] m_l_take :=
  ⟨f, fd, _, [], [], fn_ok FF sc_l_take fun cdv A outer s H E hr => by
    exact (ss_cons (s_if (t_cmp c_gt (x_ix (x_var 0) x_int) x_int) (ss_cons (s_set 2 sc_l_take.nd (x_mod (x_ix (x_var 0) x_int) (x_var 1)))
      (ss_cons (s_asg (x_fdiv (x_ix (x_var 0) x_int) (x_var 1)) (g_sub (is := []) (x_var 0) x_int))
      (ss_one (s_ret (x_var 2))))) ss_nil)
      (ss_cons (s_set 3 sc_l_take.nd (x_tup (a_cons x_int (a_cons x_int (a_cons x_int (a_cons x_int (a_cons x_int (a_cons x_int (a_cons x_int (a_cons x_int a_nil))))))))))
      (ss_cons (s_asg (x_add (x_ix (x_var 0) x_int) x_int) (g_sub (is := []) (x_var 0) x_int))
      (ss_cons (s_set 4 sc_l_take.nd (x_ix (x_var 0) x_int))
      (ss_cons (s_set 5 sc_l_take.nd (x_add (x_add (x_mul (x_ix (x_var 0) x_int) (x_add (x_mul x_int (x_var 4)) x_int)) (x_mul (x_mul x_int (x_var 4)) (x_var 4))) x_int))
      (ss_cons (s_set 6 sc_l_take.nd (x_mod (x_pow (x_var 5) x_int) (x_ix (x_var 3) (x_mod (x_var 4) x_int))))
      (ss_one (s_ret (x_mod (x_fdiv (x_mod (x_mul (x_var 6) (x_add (x_fdiv (x_var 6) x_int) (x_var 4))) (x_ix (x_var 3) (x_mod (x_add (x_var 4) x_int) x_int))) x_int) (x_var 1)))))))))), hm, FF.kp, bf, .nil, fun _ => .nil⟩
theorem ok_l_number {f : Addr} {fd : FuncData} (FF : Fun K "_law_number" "_law_number" s_l_number f fd) (T : Tx K F mg) (hm : mg "_law_number" = some (.ref f)) (bf : Binds K fd ["_law_bag_here"] []) (c_l_take : Fn P w K mg base F 1 "_law_take" 2 [] m_l_take) : Fn P w K mg base F 2 "_law_number" 1 [] m_l_number :=
  ⟨f, fd, _, [], [], fn_ok FF sc_l_number fun cdv A outer s H E hr => by
    exact (ss_cons (s_set 1 sc_l_number.nd (x_b b_str T.b_str (a_cons (x_call c_l_take hr (a_cons (x_var 0) (a_cons (x_ix (x_lst (a_cons x_int (a_cons x_int (a_cons x_int a_nil)))) (x_call c_l_take hr (a_cons (x_var 0) (a_cons x_int a_nil)))) a_nil))) a_nil)))
      (ss_one (s_ret (x_add (x_ix (x_lst (a_cons x_str (a_cons x_str a_nil))) (x_b b_int T.b_int (a_cons (x_cmp c_gt (x_call c_l_take hr (a_cons (x_var 0) (a_cons x_int a_nil))) x_int) a_nil))) (x_var 1))))), hm, FF.kp, bf, .nil, fun _ => .nil⟩
theorem ok_l_word {f : Addr} {fd : FuncData} (FF : Fun K "_law_word" "_law_word" s_l_word f fd) (T : Tx K F mg) (hm : mg "_law_word" = some (.ref f)) (bf : Binds K fd ["_law_bag_here"] []) (c_l_take : Fn P w K mg base F 1 "_law_take" 2 [] m_l_take) (c_l_number : Fn P w K mg base F 2 "_law_number" 1 [] m_l_number) : Fn P w K mg base F 3 "_law_word" 1 [] m_l_word :=
  ⟨f, fd, _, [], [], fn_ok FF sc_l_word fun cdv A outer s H E hr => by
    exact (ss_cons (s_set 1 sc_l_word.nd (x_call c_l_take hr (a_cons (x_var 0) (a_cons x_int a_nil))))
      (ss_cons (s_if (t_cmp c_lt (x_var 1) x_int) (ss_one (s_ret (x_join x_str (x_lc [("_law_k", 2)] sc_l_word.nd (i_range1 T.b_range (x_add x_int (x_call c_l_take hr (a_cons (x_var 0) (a_cons x_int a_nil))))) ⟨fun _ _ _ _ _ => (g_name (is := [2]) 2 sc_l_word.nd), fun _ _ _ _ _ => ts_nil, fun _ _ _ _ _ => (x_ix x_str (x_call c_l_take hr (a_cons (x_var 0) (a_cons x_int a_nil)))), fun _ h => h⟩ (by show blkC n_l_word (defScope s_l_word) _ _ = true; decide +kernel))))) ss_nil)
      (ss_cons (s_if (t_cmp c_lt (x_var 1) x_int) (ss_one (s_ret (x_add x_str (x_call c_l_number hr (a_cons (x_var 0) a_nil))))) ss_nil)
      (ss_cons (s_if (t_cmp (c_eq hr.units) (x_var 1) x_int) (ss_one (s_ret (x_add (x_ix x_str (x_call c_l_take hr (a_cons (x_var 0) (a_cons x_int a_nil)))) (x_call c_l_number hr (a_cons (x_var 0) a_nil))))) ss_nil)
      (ss_one (s_ret (x_join x_str (x_lc [("_law_k", 2)] sc_l_word.nd (i_range1 T.b_range (x_call c_l_take hr (a_cons (x_var 0) (a_cons x_int a_nil)))) ⟨fun _ _ _ _ _ => (g_name (is := [2]) 2 sc_l_word.nd), fun _ _ _ _ _ => ts_nil, fun _ _ _ _ _ => (x_ix x_str (x_call c_l_take hr (a_cons (x_var 0) (a_cons x_int a_nil)))), fun _ h => h⟩ (by show blkC n_l_word (defScope s_l_word) _ _ = true; decide +kernel))))))))), hm, FF.kp, bf, .nil, fun _ => .nil⟩
theorem ok_l_bent {f : Addr} {fd : FuncData} (FF : Fun K "_law_bent" "_law_bent" s_l_bent f fd) (T : Tx K F mg) (hm : mg "_law_bent" = some (.ref f)) (bf : Binds K fd ["_law_bag_here", "_law_word_here"] []) (c_l_take : Fn P w K mg base F 1 "_law_take" 2 [] m_l_take) : Fn P w K mg base F 2 "_law_bent" 2 [] m_l_bent :=
  ⟨f, fd, _, [], [], fn_ok FF sc_l_bent fun cdv A outer s H E hr => by
    exact (ss_cons (s_set 2 sc_l_bent.nd (x_call c_l_take hr (a_cons (x_var 0) (a_cons (x_add (x_b b_len T.b_len (a_cons (x_var 1) a_nil)) x_int) a_nil))))
      (ss_cons (s_set 3 sc_l_bent.nd (x_ix x_str (x_call c_l_take hr (a_cons (x_var 0) (a_cons x_int a_nil)))))
      (ss_cons (s_set 4 sc_l_bent.nd (x_lst (a_cons (x_add (x_add (x_slice (x_var 1) o_none (o_some (x_var 2))) (x_var 3)) (x_slice (x_var 1) (o_some (x_var 2)) o_none)) (a_cons (x_add (x_slice (x_var 1) o_none (o_some (x_var 2))) (x_slice (x_var 1) (o_some (x_add (x_var 2) x_int)) o_none)) (a_cons (x_add (x_add (x_slice (x_var 1) o_none (o_some (x_var 2))) (x_var 3)) (x_slice (x_var 1) (o_some (x_add (x_var 2) x_int)) o_none)) a_nil)))))
      (ss_one (s_ret (x_ix (x_var 4) (x_call c_l_take hr (a_cons (x_var 0) (a_cons x_int a_nil))))))))), hm, FF.kp, bf, .nil, fun _ => .nil⟩
theorem ok_l_is_name {f : Addr} {fd : FuncData} (FF : Fun K "_law_is_name" "_law_is_name" s_l_is_name f fd) (T : Tx K F mg) (hm : mg "_law_is_name" = some (.ref f)) (bf : Binds K fd ["_law_thing"] [])  : Fn P w K mg base F 1 "_law_is_name" 1 [] m_l_is_name :=
  ⟨f, fd, _, [], [], fn_ok FF sc_l_is_name fun cdv A outer s H E hr => by
    exact (ss_cons (s_if (t_w (w_o (t_not (t_val (x_isi "str" T.b_isinstance T.b_str (x_var 0)))) (w_o1 (t_cmp (c_eq hr.units) (x_var 0) x_str)))) (ss_one (s_ret x_bl)) ss_nil)
      (ss_cons (s_if (t_val (x_b b_all T.b_all (a_cons (x_lc [("_law_sign", 1)] sc_l_is_name.nd (i_val (x_var 0)) ⟨fun _ _ _ _ _ => (g_name (is := [1]) 1 sc_l_is_name.nd), fun _ _ _ _ _ => ts_nil, fun _ _ _ _ _ => (x_cmp (c_in (hu65 hr)) (x_var 1) x_str), fun _ h => h⟩ (by show blkC n_l_is_name (defScope s_l_is_name) _ _ = true; decide +kernel)) a_nil))) (ss_one (s_ret (x_cmp c_lt (x_b b_len T.b_len (a_cons (x_var 0) a_nil)) x_int))) ss_nil)
      (ss_one (s_ret (x_and (x_cmp (c_eq hr.units) (x_ix (x_var 0) x_int) x_str) (x_one (x_cmp (c_in (hu65 hr)) (x_slice (x_var 0) (o_some x_int) o_none) (x_lc [("_law_k", 2)] sc_l_is_name.nd (i_range1 T.b_range x_int) ⟨fun _ _ _ _ _ => (g_name (is := [2]) 2 sc_l_is_name.nd), fun _ _ _ _ _ => ts_nil, fun _ _ _ _ _ => (x_b b_str T.b_str (a_cons (x_var 2) a_nil)), fun _ h => h⟩ (by show blkC n_l_is_name (defScope s_l_is_name) _ _ = true; decide +kernel))))))))), hm, FF.kp, bf, .nil, fun _ => .nil⟩
theorem ok_l_right {f : Addr} {fd : FuncData} (FF : Fun K "_law_right" "_law_right" s_l_right f fd) (T : Tx K F mg) (hm : mg "_law_right" = some (.ref f)) (bf : Binds K fd ["_law_thing"] []) (c_l_is_name : Fn P w K mg base F 1 "_law_is_name" 1 [] m_l_is_name) (c_is_name : Fn P w K mg base F 3 "is_name" 1 [] m_is_name) : Fn P w K mg base F 4 "_law_right" 1 [] m_l_right :=
  ⟨f, fd, _, [], [], fn_ok FF sc_l_right fun cdv A outer s H E hr => by
    exact (ss_cons (s_set 1 sc_l_right.nd (x_call c_is_name hr (a_cons (x_var 0) a_nil)))
      (ss_one (s_ret (x_and (x_isi "bool" T.b_isinstance T.b_bool (x_var 1)) (x_one (x_cmp (c_eq hr.units) (x_var 1) (x_call c_l_is_name hr (a_cons (x_var 0) a_nil)))))))), hm, FF.kp, bf, .nil, fun _ => .nil⟩
theorem ok_l_fresh_right {f : Addr} {fd : FuncData} (FF : Fun K "_law_fresh_right" "_law_fresh_right" s_l_fresh_right f fd) (T : Tx K F mg) (hm : mg "_law_fresh_right" = some (.ref f)) (bf : Binds K fd ["_law_bag_here"] []) (c_fresh_for : Fn P w K mg base F 2 "fresh_for" 1 [] m_fresh_for) (c_l_take : Fn P w K mg base F 1 "_law_take" 2 [] m_l_take) : Fn P w K mg base F 3 "_law_fresh_right" 1 [] m_l_fresh_right :=
  ⟨f, fd, _, [], [], fn_ok FF sc_l_fresh_right fun cdv A outer s H E hr => by
    exact (ss_cons (s_lc (i := 1) [("_law_k", 2)] sc_l_fresh_right.nd (i_range1 T.b_range (x_call c_l_take hr (a_cons (x_var 0) (a_cons x_int a_nil)))) ⟨fun _ _ _ _ _ => (g_name (is := [2]) 2 sc_l_fresh_right.nd), fun _ _ _ _ _ => ts_nil, fun _ _ _ _ _ => (x_add x_str (x_b b_str T.b_str (a_cons (x_call c_l_take hr (a_cons (x_var 0) (a_cons x_int a_nil))) a_nil))), fun _ h => h⟩ (sw_true rfl rfl rfl (by decide +kernel)) (by show blkC n_l_fresh_right (defScope s_l_fresh_right) _ _ = true; decide +kernel))
      (ss_cons (s_set 1 sc_l_fresh_right.nd (x_add (x_add (x_var 1) (x_lc [("_law_k", 2)] sc_l_fresh_right.nd (i_range1 T.b_range (x_ix (x_lst (a_cons x_int (a_cons x_int (a_cons x_int a_nil)))) (x_call c_l_take hr (a_cons (x_var 0) (a_cons x_int a_nil))))) ⟨fun _ _ _ _ _ => (g_name (is := [2]) 2 sc_l_fresh_right.nd), fun _ _ _ _ _ => ts_nil, fun _ _ _ _ _ => (x_add x_str (x_b b_str T.b_str (a_cons (x_var 2) a_nil))), fun _ h => h⟩ (by show blkC n_l_fresh_right (defScope s_l_fresh_right) _ _ = true; decide +kernel))) (x_slice (x_lst (a_cons x_str (a_cons x_str (a_cons x_str a_nil)))) o_none (o_some (x_call c_l_take hr (a_cons (x_var 0) (a_cons x_int a_nil)))))))
      (ss_cons (s_set 3 sc_l_fresh_right.nd (x_b b_tuple T.b_tuple (a_cons (x_slice (x_var 1) o_none (o_some x_int)) a_nil)))
      (ss_cons (s_set 4 sc_l_fresh_right.nd (x_ix (x_lc [("_law_one", 5)] sc_l_fresh_right.nd (i_val (x_lc [("_law_k", 2)] sc_l_fresh_right.nd (i_range1 T.b_range x_int) ⟨fun _ _ _ _ _ => (g_name (is := [2]) 2 sc_l_fresh_right.nd), fun _ _ _ _ _ => ts_nil, fun _ _ _ _ _ => (x_add x_str (x_b b_str T.b_str (a_cons (x_var 2) a_nil))), fun _ h => h⟩ (by show blkC n_l_fresh_right (defScope s_l_fresh_right) _ _ = true; decide +kernel))) ⟨fun _ _ _ _ _ => (g_name (is := [5]) 5 sc_l_fresh_right.nd), fun _ _ _ _ _ => (ts_one (t_cmp (c_notIn (hu65 hr)) (x_var 5) (x_var 3))), fun _ _ _ _ _ => (x_var 5), fun _ h => h⟩ (by show blkC n_l_fresh_right (defScope s_l_fresh_right) _ _ = true; decide +kernel)) x_int))
      (ss_one (s_ret (x_and (x_cmp (c_eq hr.units) (x_call c_fresh_for hr (a_cons (x_var 3) a_nil)) (x_var 4)) (x_and (x_cmp (c_eq hr.units) (x_call c_fresh_for hr (a_cons (x_back (x_var 3)) a_nil)) (x_var 4)) (x_one (x_cmp (c_ne hr.units) (x_call c_fresh_for hr (a_cons (x_add (x_var 3) (x_tup (a_cons (x_var 4) a_nil))) a_nil)) (x_var 4))))))))))), hm, FF.kp, bf, .nil, fun _ => .nil⟩
theorem okL_law {f : Addr} {fd : FuncData} (FF : Fun K "law" "law" s_law f fd) (T : Tx K F mg) (c_fresh_for : Fn P w K mg base F 2 "fresh_for" 1 [] m_fresh_for) (c_l_fresh_right : Fn P w K mg base F 3 "_law_fresh_right" 1 [] m_l_fresh_right) (c_l_right : Fn P w K mg base F 4 "_law_right" 1 [] m_l_right) (c_l_bent : Fn P w K mg base F 2 "_law_bent" 2 [] m_l_bent) (c_l_word : Fn P w K mg base F 3 "_law_word" 1 [] m_l_word) (c_l_bag : Fn P w K mg base F 1 "_law_bag" 2 [] m_l_bag) : FnOk P w K mg base CX0 5 f fd ["_law_script"] (spM K F 1 m_law) :=
  fn_ok FF sc_law fun cdv A outer s H E hr => by
    exact (ss_cons (s_for (i_range1 T.b_range (x_b b_max2 T.b_max (a_cons x_int (a_cons (x_b b_min2 T.b_min (a_cons x_int (a_cons (x_b b_len T.b_len (a_cons (x_var 0) a_nil)) a_nil))) a_nil)))) (g_name (is := [1]) 1 sc_law.nd) (ss_cons (s_set 2 sc_law.nd (x_call c_l_bag hr (a_cons (x_var 0) (a_cons (x_var 1) a_nil))))
      (ss_cons (s_for (i_range1 T.b_range x_int) (g_name (is := [3]) 3 sc_law.nd) (ss_cons (s_set 4 sc_law.nd (x_call c_l_word hr (a_cons (x_var 2) a_nil)))
      (ss_cons (s_set 5 sc_law.nd (x_call c_l_bent hr (a_cons (x_var 2) (a_cons (x_var 4) a_nil))))
      (ss_one (s_if (t_w (w_o (t_not (t_val (x_call c_l_right hr (a_cons (x_var 4) a_nil)))) (w_o (t_not (t_val (x_call c_l_right hr (a_cons (x_var 5) a_nil)))) (w_o1 (t_not (t_val (x_call c_l_right hr (a_cons (x_call c_l_bent hr (a_cons (x_var 2) (a_cons (x_var 5) a_nil))) a_nil)))))))) (ss_one (s_ret x_bl)) ss_nil)))))
      (ss_cons (s_set 6 sc_law.nd (x_lst (a_cons x_non (a_cons x_bl (a_cons x_int (a_cons x_int (a_cons (x_pow x_int x_int) (a_cons (x_tup a_nil) (a_cons (x_lst a_nil) (a_cons (x_tup (a_cons x_str a_nil)) (a_cons (x_lst (a_cons x_str a_nil)) (a_cons x_str (a_cons x_str (a_cons x_str (a_cons x_str (a_cons x_str (a_cons x_str a_nil)))))))))))))))))
      (ss_one (s_if (t_w (w_o (t_not (t_val (x_b b_all T.b_all (a_cons (x_lc [("_law_thing", 7)] sc_law.nd (i_val (x_var 6)) ⟨fun _ _ _ _ _ => (g_name (is := [7]) 7 sc_law.nd), fun _ _ _ _ _ => ts_nil, fun _ _ _ _ _ => (x_call c_l_right hr (a_cons (x_var 7) a_nil)), fun _ h => h⟩ (by show blkC n_law (defScope s_law) _ _ = true; decide +kernel)) a_nil)))) (w_o1 (t_not (t_val (x_call c_l_fresh_right hr (a_cons (x_var 2) a_nil))))))) (ss_one (s_ret x_bl)) ss_nil))))))
      (ss_one (s_ret (x_cmp (c_eq hr.units) (x_call c_fresh_for hr (a_cons (x_tup a_nil) a_nil)) x_str))))
end
set_option maxHeartbeats 8000000 in
theorem all_mk {l : PySem.W.OpenLaw} {w : World} {K : PySem.W.Frag} {h : Heap} {mg : Str → Option Value} {F : Str → Option V} {fa f0 f1 f2 f3 f4 f5 f6 f7 f8 f9 f10 f11 f12 f13 f14 : Addr} (X : K.In h) (G : h.Ns mainGlobals mg) (hfa : mg "law" = some (.ref fa))
    {od0 an0 od1 an1 od2 an2 od3 an3 od4 an4 od5 an5 od6 an6 od7 an7 od8 an8 od9 an9 od10 an10 od11 an11 od12 an12 od13 an13 od14 an14 : Option Addr} {sl0 sl1 sl2 sl3 sl4 sl5 sl6 sl7 sl8 sl9 sl10 sl11 sl12 sl13 sl14 : Array (Option Value)} {oc0 dc0 pm0 cd0 ct0 oc1 dc1 pm1 cd1 ct1 oc2 dc2 pm2 cd2 ct2 oc3 dc3 pm3 cd3 ct3 oc4 dc4 pm4 cd4 ct4 oc5 dc5 pm5 cd5 ct5 oc6 dc6 pm6 cd6 ct6 oc7 dc7 pm7 cd7 ct7 oc8 dc8 pm8 cd8 ct8 oc9 dc9 pm9 cd9 ct9 oc10 dc10 pm10 cd10 ct10 oc11 dc11 pm11 cd11 ct11 oc12 dc12 pm12 cd12 ct12 oc13 dc13 pm13 cd13 ct13 oc14 dc14 pm14 cd14 ct14 : Value} {kV1 : Addr} {kV0 kV2 kV3 kV4 kV5 kV6 kV7 kV8 kV9 kV10 kV11 kV12 kV13 kV14 : Value}
    (a0 : PySem.W.nsIn K mainGlobals "are_signs" = some (some (.ref f0))) (l0 : K.lookup f0 = some ⟨oc0, od0, .func (PySem.W.fnOf "are_signs" "are_signs" (defArgs s_are_signs) (defBody s_are_signs) (defScope s_are_signs) .none kV0 dc0 pm0 an0 cd0 ct0), sl0⟩) (c0 : PySem.W.codeIn K cd0 "are_signs" = true) (k0 : PySem.W.keepIn K (.ref f0) = true)
    (a1 : PySem.W.nsIn K mainGlobals "are_letters" = some (some (.ref f1))) (l1 : K.lookup f1 = some ⟨oc1, od1, .func (PySem.W.fnOf "are_letters" "are_letters" (defArgs s_are_letters) (defBody s_are_letters) (defScope s_are_letters) .none (.ref kV1) dc1 pm1 an1 cd1 ct1), sl1⟩) (c1 : PySem.W.codeIn K cd1 "are_letters" = true) (k1 : PySem.W.keepIn K (.ref f1) = true)
    {u1_0 : Value} (w1_0 : PySem.W.nsIn K kV1 "most" = some (some u1_0)) (r1_0 : RelV (.int 6) u1_0)
    (a2 : PySem.W.nsIn K mainGlobals "is_number_text" = some (some (.ref f2))) (l2 : K.lookup f2 = some ⟨oc2, od2, .func (PySem.W.fnOf "is_number_text" "is_number_text" (defArgs s_is_number_text) (defBody s_is_number_text) (defScope s_is_number_text) .none kV2 dc2 pm2 an2 cd2 ct2), sl2⟩) (c2 : PySem.W.codeIn K cd2 "is_number_text" = true) (k2 : PySem.W.keepIn K (.ref f2) = true)
    (a3 : PySem.W.nsIn K mainGlobals "is_name" = some (some (.ref f3))) (l3 : K.lookup f3 = some ⟨oc3, od3, .func (PySem.W.fnOf "is_name" "is_name" (defArgs s_is_name) (defBody s_is_name) (defScope s_is_name) .none kV3 dc3 pm3 an3 cd3 ct3), sl3⟩) (c3 : PySem.W.codeIn K cd3 "is_name" = true) (k3 : PySem.W.keepIn K (.ref f3) = true)
    (a4 : PySem.W.nsIn K mainGlobals "first_not_in" = some (some (.ref f4))) (l4 : K.lookup f4 = some ⟨oc4, od4, .func (PySem.W.fnOf "first_not_in" "first_not_in" (defArgs s_first_not_in) (defBody s_first_not_in) (defScope s_first_not_in) .none kV4 dc4 pm4 an4 cd4 ct4), sl4⟩) (c4 : PySem.W.codeIn K cd4 "first_not_in" = true) (k4 : PySem.W.keepIn K (.ref f4) = true)
    (a5 : PySem.W.nsIn K mainGlobals "fresh_for" = some (some (.ref f5))) (l5 : K.lookup f5 = some ⟨oc5, od5, .func (PySem.W.fnOf "fresh_for" "fresh_for" (defArgs s_fresh_for) (defBody s_fresh_for) (defScope s_fresh_for) .none kV5 dc5 pm5 an5 cd5 ct5), sl5⟩) (c5 : PySem.W.codeIn K cd5 "fresh_for" = true) (k5 : PySem.W.keepIn K (.ref f5) = true)
    (a6 : PySem.W.nsIn K mainGlobals "_law_bag" = some (some (.ref f6))) (l6 : K.lookup f6 = some ⟨oc6, od6, .func (PySem.W.fnOf "_law_bag" "_law_bag" (defArgs s_l_bag) (defBody s_l_bag) (defScope s_l_bag) .none kV6 dc6 pm6 an6 cd6 ct6), sl6⟩) (c6 : PySem.W.codeIn K cd6 "_law_bag" = true) (k6 : PySem.W.keepIn K (.ref f6) = true)
    (a7 : PySem.W.nsIn K mainGlobals "_law_take" = some (some (.ref f7))) (l7 : K.lookup f7 = some ⟨oc7, od7, .func (PySem.W.fnOf "_law_take" "_law_take" (defArgs s_l_take) (defBody s_l_take) (defScope s_l_take) .none kV7 dc7 pm7 an7 cd7 ct7), sl7⟩) (c7 : PySem.W.codeIn K cd7 "_law_take" = true) (k7 : PySem.W.keepIn K (.ref f7) = true)
    (a8 : PySem.W.nsIn K mainGlobals "_law_number" = some (some (.ref f8))) (l8 : K.lookup f8 = some ⟨oc8, od8, .func (PySem.W.fnOf "_law_number" "_law_number" (defArgs s_l_number) (defBody s_l_number) (defScope s_l_number) .none kV8 dc8 pm8 an8 cd8 ct8), sl8⟩) (c8 : PySem.W.codeIn K cd8 "_law_number" = true) (k8 : PySem.W.keepIn K (.ref f8) = true)
    (a9 : PySem.W.nsIn K mainGlobals "_law_word" = some (some (.ref f9))) (l9 : K.lookup f9 = some ⟨oc9, od9, .func (PySem.W.fnOf "_law_word" "_law_word" (defArgs s_l_word) (defBody s_l_word) (defScope s_l_word) .none kV9 dc9 pm9 an9 cd9 ct9), sl9⟩) (c9 : PySem.W.codeIn K cd9 "_law_word" = true) (k9 : PySem.W.keepIn K (.ref f9) = true)
    (a10 : PySem.W.nsIn K mainGlobals "_law_bent" = some (some (.ref f10))) (l10 : K.lookup f10 = some ⟨oc10, od10, .func (PySem.W.fnOf "_law_bent" "_law_bent" (defArgs s_l_bent) (defBody s_l_bent) (defScope s_l_bent) .none kV10 dc10 pm10 an10 cd10 ct10), sl10⟩) (c10 : PySem.W.codeIn K cd10 "_law_bent" = true) (k10 : PySem.W.keepIn K (.ref f10) = true)
    (a11 : PySem.W.nsIn K mainGlobals "_law_is_name" = some (some (.ref f11))) (l11 : K.lookup f11 = some ⟨oc11, od11, .func (PySem.W.fnOf "_law_is_name" "_law_is_name" (defArgs s_l_is_name) (defBody s_l_is_name) (defScope s_l_is_name) .none kV11 dc11 pm11 an11 cd11 ct11), sl11⟩) (c11 : PySem.W.codeIn K cd11 "_law_is_name" = true) (k11 : PySem.W.keepIn K (.ref f11) = true)
    (a12 : PySem.W.nsIn K mainGlobals "_law_right" = some (some (.ref f12))) (l12 : K.lookup f12 = some ⟨oc12, od12, .func (PySem.W.fnOf "_law_right" "_law_right" (defArgs s_l_right) (defBody s_l_right) (defScope s_l_right) .none kV12 dc12 pm12 an12 cd12 ct12), sl12⟩) (c12 : PySem.W.codeIn K cd12 "_law_right" = true) (k12 : PySem.W.keepIn K (.ref f12) = true)
    (a13 : PySem.W.nsIn K mainGlobals "_law_fresh_right" = some (some (.ref f13))) (l13 : K.lookup f13 = some ⟨oc13, od13, .func (PySem.W.fnOf "_law_fresh_right" "_law_fresh_right" (defArgs s_l_fresh_right) (defBody s_l_fresh_right) (defScope s_l_fresh_right) .none kV13 dc13 pm13 an13 cd13 ct13), sl13⟩) (c13 : PySem.W.codeIn K cd13 "_law_fresh_right" = true) (k13 : PySem.W.keepIn K (.ref f13) = true)
    (a14 : PySem.W.nsIn K mainGlobals "law" = some (some (.ref f14))) (l14 : K.lookup f14 = some ⟨oc14, od14, .func (PySem.W.fnOf "law" "law" (defArgs s_law) (defBody s_law) (defScope s_law) .none kV14 dc14 pm14 an14 cd14 ct14), sl14⟩) (c14 : PySem.W.codeIn K cd14 "law" = true) (k14 : PySem.W.keepIn K (.ref f14) = true)
    {ug_FIGURES : Value} (g_FIGURES : PySem.W.nsIn K mainGlobals "FIGURES" = some (some ug_FIGURES)) (rg_FIGURES : RelV (.str "0123456789") ug_FIGURES)
    {ug_FRESH : Value} (g_FRESH : PySem.W.nsIn K mainGlobals "FRESH" = some (some ug_FRESH)) (rg_FRESH : RelV (.str "f") ug_FRESH)
    {ug_LETTERS : Value} (g_LETTERS : PySem.W.nsIn K mainGlobals "LETTERS" = some (some ug_LETTERS)) (rg_LETTERS : RelV (.str "abcdefghijklmnopqrstuvwxyz") ug_LETTERS)
    {ug_MOST_FIGURES : Value} (g_MOST_FIGURES : PySem.W.nsIn K mainGlobals "MOST_FIGURES" = some (some ug_MOST_FIGURES)) (rg_MOST_FIGURES : RelV (.int 2) ug_MOST_FIGURES)
    (z_abs : PySem.W.nsIn K mainGlobals "abs" = some none)
    (z_all : PySem.W.nsIn K mainGlobals "all" = some none)
    (z_bool : PySem.W.nsIn K mainGlobals "bool" = some none)
    (z_int : PySem.W.nsIn K mainGlobals "int" = some none)
    (z_isinstance : PySem.W.nsIn K mainGlobals "isinstance" = some none)
    (z_len : PySem.W.nsIn K mainGlobals "len" = some none)
    (z_max : PySem.W.nsIn K mainGlobals "max" = some none)
    (z_min : PySem.W.nsIn K mainGlobals "min" = some none)
    (z_range : PySem.W.nsIn K mainGlobals "range" = some none)
    (z_str : PySem.W.nsIn K mainGlobals "str" = some none)
    (z_tuple : PySem.W.nsIn K mainGlobals "tuple" = some none) :
    ∃ fd : FuncData, (∀ (s : Shared) (v : Value), BindsTo s fd ⟨[v], []⟩ [("_law_script", v)]) ∧ ∀ base : Heap, K.In base → base.Ns mainGlobals mg → FnOk l.prog w K mg base CX0 5 fa fd ["_law_script"] (spM K F 1 m_law) := by
  have e := hfa.symm.trans (PySem.W.mg_of X G a14)
  cases e
  have T : Tx K F mg := ⟨PySem.W.mg_none_of X G z_abs, PySem.W.mg_none_of X G z_all, PySem.W.mg_none_of X G z_bool, PySem.W.mg_none_of X G z_int, PySem.W.mg_none_of X G z_isinstance, PySem.W.mg_none_of X G z_len, PySem.W.mg_none_of X G z_max, PySem.W.mg_none_of X G z_min, PySem.W.mg_none_of X G z_range, PySem.W.mg_none_of X G z_str, PySem.W.mg_none_of X G z_tuple, ⟨_, _, PySem.W.mg_of X G g_FIGURES, rg_FIGURES, fun _ => (.str _)⟩, ⟨_, _, PySem.W.mg_of X G g_FRESH, rg_FRESH, fun _ => (.str _)⟩, ⟨_, _, PySem.W.mg_of X G g_LETTERS, rg_LETTERS, fun _ => (.str _)⟩, ⟨_, _, PySem.W.mg_of X G g_MOST_FIGURES, rg_MOST_FIGURES, fun _ => (.int _)⟩⟩
  have F0 := fun_mk (st := s_are_signs) l0 c0 k0
  have b0 := F0.binds (ps := ["text", "signs"]) fun _ _ _ _ _ _ us hl => match us, hl with | [_, _], _ => rfl
  have F1 : FunD K "are_letters" "are_letters" (defArgs s_are_letters) (defBody s_are_letters) (defScope s_are_letters) [] [("most", (.int 6))] f1 _ := ⟨⟨_, _, _, _, _, _, _, _, _, _, rfl, l1, c1, .inl ⟨rfl, rfl⟩, .inr ⟨kV1, rfl, fun q hq => by simp only [List.mem_cons, List.not_mem_nil, or_false] at hq; subst hq; exact ⟨_, w1_0, r1_0⟩⟩⟩, k1⟩
  obtain ⟨d1, v1, b1⟩ := FunD.binds0 (ps := ["text", "most"]) F1 1 (by simp) rfl fun D _ _ _ _ _ us ks hl hk => match us, ks, hl, hk with | [_], [_], _, _ => ⟨_, _, _, _, _, _, rfl, rfl, rfl⟩
  have F2 := fun_mk (st := s_is_number_text) l2 c2 k2
  have b2 := F2.binds (ps := ["text"]) fun _ _ _ _ _ _ us hl => match us, hl with | [_], _ => rfl
  have F3 := fun_mk (st := s_is_name) l3 c3 k3
  have b3 := F3.binds (ps := ["thing"]) fun _ _ _ _ _ _ us hl => match us, hl with | [_], _ => rfl
  have F4 := fun_mk (st := s_first_not_in) l4 c4 k4
  have b4 := F4.binds (ps := ["names", "head"]) fun _ _ _ _ _ _ us hl => match us, hl with | [_, _], _ => rfl
  have F5 := fun_mk (st := s_fresh_for) l5 c5 k5
  have b5 := F5.binds (ps := ["names"]) fun _ _ _ _ _ _ us hl => match us, hl with | [_], _ => rfl
  have F6 := fun_mk (st := s_l_bag) l6 c6 k6
  have b6 := F6.binds (ps := ["_law_script", "_law_at"]) fun _ _ _ _ _ _ us hl => match us, hl with | [_, _], _ => rfl
  have F7 := fun_mk (st := s_l_take) l7 c7 k7
  have b7 := F7.binds (ps := ["_law_bag_here", "_law_many"]) fun _ _ _ _ _ _ us hl => match us, hl with | [_, _], _ => rfl
  have F8 := fun_mk (st := s_l_number) l8 c8 k8
  have b8 := F8.binds (ps := ["_law_bag_here"]) fun _ _ _ _ _ _ us hl => match us, hl with | [_], _ => rfl
  have F9 := fun_mk (st := s_l_word) l9 c9 k9
  have b9 := F9.binds (ps := ["_law_bag_here"]) fun _ _ _ _ _ _ us hl => match us, hl with | [_], _ => rfl
  have F10 := fun_mk (st := s_l_bent) l10 c10 k10
  have b10 := F10.binds (ps := ["_law_bag_here", "_law_word_here"]) fun _ _ _ _ _ _ us hl => match us, hl with | [_, _], _ => rfl
  have F11 := fun_mk (st := s_l_is_name) l11 c11 k11
  have b11 := F11.binds (ps := ["_law_thing"]) fun _ _ _ _ _ _ us hl => match us, hl with | [_], _ => rfl
  have F12 := fun_mk (st := s_l_right) l12 c12 k12
  have b12 := F12.binds (ps := ["_law_thing"]) fun _ _ _ _ _ _ us hl => match us, hl with | [_], _ => rfl
  have F13 := fun_mk (st := s_l_fresh_right) l13 c13 k13
  have b13 := F13.binds (ps := ["_law_bag_here"]) fun _ _ _ _ _ _ us hl => match us, hl with | [_], _ => rfl
  have F14 := fun_mk (st := s_law) l14 c14 k14
  have b14 := F14.binds (ps := ["_law_script"]) fun _ _ _ _ _ _ us hl => match us, hl with | [_], _ => rfl
  refine ⟨PySem.W.fnOf "law" "law" (defArgs s_law) (defBody s_law) (defScope s_law) .none kV14 dc14 pm14 an14 cd14 ct14, fun s v => .of_eq rfl, fun base _ _ => ?_⟩
  have C_first_not_in := ok_first_not_in (P := l.prog) (w := w) (base := base) F4 T (PySem.W.mg_of X G a4) b4 
  have C_fresh_for := ok_fresh_for (P := l.prog) (w := w) (base := base) F5 T (PySem.W.mg_of X G a5) b5 C_first_not_in
  have C_l_take := ok_l_take (P := l.prog) (w := w) (base := base) F7 T (PySem.W.mg_of X G a7) b7 
  have C_l_fresh_right := ok_l_fresh_right (P := l.prog) (w := w) (base := base) F13 T (PySem.W.mg_of X G a13) b13 C_fresh_for C_l_take
  have C_l_is_name := ok_l_is_name (P := l.prog) (w := w) (base := base) F11 T (PySem.W.mg_of X G a11) b11 
  have C_are_signs := ok_are_signs (P := l.prog) (w := w) (base := base) F0 T (PySem.W.mg_of X G a0) b0 
  have C_is_number_text := ok_is_number_text (P := l.prog) (w := w) (base := base) F2 T (PySem.W.mg_of X G a2) b2 C_are_signs
  have C_are_letters := ok_are_letters (P := l.prog) (w := w) (base := base) F1 T (PySem.W.mg_of X G a1) v1 b1 C_are_signs
  have C_is_name := ok_is_name (P := l.prog) (w := w) (base := base) F3 T (PySem.W.mg_of X G a3) b3 C_is_number_text C_are_letters
  have C_l_right := ok_l_right (P := l.prog) (w := w) (base := base) F12 T (PySem.W.mg_of X G a12) b12 C_l_is_name C_is_name
  have C_l_bent := ok_l_bent (P := l.prog) (w := w) (base := base) F10 T (PySem.W.mg_of X G a10) b10 C_l_take
  have C_l_number := ok_l_number (P := l.prog) (w := w) (base := base) F8 T (PySem.W.mg_of X G a8) b8 C_l_take
  have C_l_word := ok_l_word (P := l.prog) (w := w) (base := base) F9 T (PySem.W.mg_of X G a9) b9 C_l_take C_l_number
  have C_l_bag := ok_l_bag (P := l.prog) (w := w) (base := base) F6 T (PySem.W.mg_of X G a6) b6 
  exact okL_law F14 T C_fresh_for C_l_fresh_right C_l_right C_l_bent C_l_word C_l_bag
theorem walk {l : PySem.W.OpenLaw} {q : Program} {loose : List Str} {XP : (Str → Option Value) → Heap → Prop} {YP : World → Heap → Prop} {d : DefRec} {K : Params → PySem.W.Frag} (hn : l.most = some 63) (hdf : d.params.defaults = [])
    (hY : ∀ (w : World) (h : Heap), YP w h → (K w.params).In h) (hm : ∀ ns : List Int, ns.length ≤ 63 → ∃ m, (m_law [.frz (ns.map .int)]).run [] = .ok (.bl true) m)
    (FF : ∀ (w : World) (mg : Str → Option Value) (fa : Addr) (h : Heap), (K w.params).In h → h.Ns mainGlobals mg → mg d.name = some (.ref fa) →
      ∃ fd : FuncData, (∀ (s : Shared) (u : Value), BindsTo s fd ⟨[u], []⟩ [("_law_script", u)]) ∧ ∀ base : Heap, (K w.params).In base → base.Ns mainGlobals mg → FnOk l.prog w (K w.params) mg base CX0 5 fa fd ["_law_script"] (spM (K w.params) (fun _ => none) 1 m_law)) :
    PySem.W.WalkO q loose XP YP l.row.toRowW d [] (fun f vs => PySem.call f vs) :=
  L2.walk_of (n := 63) (k := 5) (x := "_law_script") (CX := fun _ => CX0) (sp := fun w => spM (K w.params) (fun _ => none) 1 m_law) hn (by decide) hdf ⟨rfl, by decide, by decide⟩ hY FF (fun _ _ a ns hl _ hS => law_end hS (hm ns hl) fun _ => rfl) fun _ _ _ _ _ z => z
end LW
set_option maxRecDepth 100000
set_option maxHeartbeats 4000000
namespace LW
open PySem L2 Mir
theorem get3 (a b c : D) : atI [a, b, c] 0 = some a ∧ atI [a, b, c] 1 = some b ∧ atI [a, b, c] 2 = some c := ⟨rfl, rfl, rfl⟩
theorem put3 (a b c d : D) : ixN [a, b, c].length 0 = some 0 ∧ ixN [a, b, c].length 2 = some 2 := ⟨rfl, rfl⟩
theorem low_small {y z : Int} (h0 : 0 ≤ y) (h1 : y ≤ 2 ^ 32) (h2 : 0 ≤ z) (h3 : z ≤ 1000001) : (y * (2 * z + 1) + 2311 * z * z + 71).natAbs < 2 ^ 64 := by
  have a1 : y * (2 * z + 1) ≤ 2 ^ 32 * 2000003 := Int.le_trans (Int.mul_le_mul_of_nonneg_right h1 (by omega)) (Int.mul_le_mul_of_nonneg_left (by omega) (by decide))
  have a0 : 0 ≤ y * (2 * z + 1) := Int.mul_nonneg h0 (by omega)
  have b0 : 0 ≤ 2311 * z * z := Int.mul_nonneg (by omega) h2
  have b1 : 2311 * z * z ≤ 2311 * 1000001 * 1000001 := Int.le_trans (Int.mul_le_mul_of_nonneg_right (show 2311 * z ≤ 2311 * 1000001 by omega) h2) (Int.mul_le_mul_of_nonneg_left h3 (by decide))
  omega
def primes : List D := [.int 2147483647, .int 2147483629, .int 2147483587, .int 2147483579, .int 2147483563, .int 2147483549, .int 2147483543, .int 2147483497]
theorem prime_at (i : Int) : ∃ p : Int, atI primes (i % 8) = some (.int p) ∧ 0 < p ∧ p ≤ 2147483647 := by
  have h0 : 0 ≤ i % 8 := Int.emod_nonneg _ (by decide)
  have h1 : i % 8 < 8 := Int.emod_lt_of_pos _ (by decide)
  generalize i % 8 = r at h0 h1
  obtain ⟨n, rfl⟩ := Int.eq_ofNat_of_zero_le h0
  have hn : n < 8 := by omega
  match n, hn with
  | 0, _ => exact ⟨2147483647, rfl, by decide, by decide⟩
  | 1, _ => exact ⟨2147483629, rfl, by decide, by decide⟩
  | 2, _ => exact ⟨2147483587, rfl, by decide, by decide⟩
  | 3, _ => exact ⟨2147483579, rfl, by decide, by decide⟩
  | 4, _ => exact ⟨2147483563, rfl, by decide, by decide⟩
  | 5, _ => exact ⟨2147483549, rfl, by decide, by decide⟩
  | 6, _ => exact ⟨2147483543, rfl, by decide, by decide⟩
  | 7, _ => exact ⟨2147483497, rfl, by decide, by decide⟩
theorem take_ok {k : Nat} {n : Int} (hn : 0 < n ∧ n < 1073741824) : Draws k 1 (m_l_take [.hnd k, .int n]) (fun d => ∃ r : Int, d = .int r ∧ 0 ≤ r ∧ r < n) := by
  intro m z b hz
  obtain ⟨x, y, hm, hx, hy, hy2⟩ := b
  have hlen : k < m.length := (List.getElem?_eq_some_iff.mp hm).1
  show ∃ a m' z', ((b_l_take (startE 7 [.hnd k, .int n]) >>= endOf).run m).noexc = _ ∧ _
  have e0 : startE 7 [.hnd k, .int n] = [some (.hnd k), some (.int n), none, none, none, none, none] := rfl
  rw [e0]
  by_cases c : 0 < x
  · refine ⟨.int (x % n), m.set k (.lst [.int (x / n), .int y, .int z]), z, ?_, ?_, by omega, ⟨x % n, rfl, Int.emod_nonneg _ (by omega), Int.emod_lt_of_pos _ hn.1⟩, by rw [List.length_set], fun j hj => by rw [List.getElem?_set_ne (fun e => hj e.symm)]⟩
    · simp only [ap_var, ap_c, ap_bin, ap_chain, ap_bool, ap_tru, ap_neg, ap_an, ap_orr, ap_and, ap_or, ap_not, ap_if, ap_un, ap_nil, ap_cons, ap_tup, ap_lst, ap_lstH, ap_onone, ap_osome, ap_slice, ap_b, ap_jnil, ap_jcons, ap_joined, ap_m1, ap_ival, ap_range1, ap_range2, ap_gnam, ap_gsnil, ap_gscons, ap_gtp, ap_gsb, ap_lc, ap_lcH, ap_all, ap_app, ap_call, ap_callD, ap_snil, ap_scons, ap_ret, ap_retN, ap_expr, ap_sif, ap_asg, ap_set, ap_aug, ap_while, ap_for, ap_break, ap_cont, iadd_int, puto_some, slot_0, slot_s, pure_bb, bind_assoc', bad_bb, ite_bind', flow_nx, flow_rt, flow_bk, flow_ct, endOf_rt, endOf_nx, guard_t, guard_nn, wipe_1, bind_pure', opt_some, noexc_p, noexc_bind, noexc_ite, noexc_idem, noexc_guard, noexc_opt, noexc_bad, now_int, now_str, now_bl, now_non, now_tup, now_lst, now_frz, add_int, sub_int, lt_int', le_int', gt_int', ge_int', bool_bl, tru_bl, tru_int, toInt_int, toInt_bl, abs_int, max2_int, min2_int, len_lst, len_frz, len_tup, d1_one, d2_two, ref_hnd, part_int, text_str, gl0, gl1, gl2, gl3, gl4, gl5, gl6, gl7, gl8, gl9, gl10, gl11, gl12, gl13, gl14, gl15, gl16, gc0, gc1, gc2, gc3, gc4, gc5, gc6, gc7, gc8, List.cons_append, List.nil_append, Bool.not_true, Bool.not_false, List.set_cons_succ, List.set_cons_zero, if_true, if_false, Bool.false_eq_true, b_l_take]
      rw [ix_hnd hm (get3 _ _ _).1]
      simp only [ap_var, ap_c, ap_bin, ap_chain, ap_bool, ap_tru, ap_neg, ap_an, ap_orr, ap_and, ap_or, ap_not, ap_if, ap_un, ap_nil, ap_cons, ap_tup, ap_lst, ap_lstH, ap_onone, ap_osome, ap_slice, ap_b, ap_jnil, ap_jcons, ap_joined, ap_m1, ap_ival, ap_range1, ap_range2, ap_gnam, ap_gsnil, ap_gscons, ap_gtp, ap_gsb, ap_lc, ap_lcH, ap_all, ap_app, ap_call, ap_callD, ap_snil, ap_scons, ap_ret, ap_retN, ap_expr, ap_sif, ap_asg, ap_set, ap_aug, ap_while, ap_for, ap_break, ap_cont, iadd_int, puto_some, slot_0, slot_s, pure_bb, bind_assoc', bad_bb, ite_bind', flow_nx, flow_rt, flow_bk, flow_ct, endOf_rt, endOf_nx, guard_t, guard_nn, wipe_1, bind_pure', opt_some, noexc_p, noexc_bind, noexc_ite, noexc_idem, noexc_guard, noexc_opt, noexc_bad, now_int, now_str, now_bl, now_non, now_tup, now_lst, now_frz, add_int, sub_int, lt_int', le_int', gt_int', ge_int', bool_bl, tru_bl, tru_int, toInt_int, toInt_bl, abs_int, max2_int, min2_int, len_lst, len_frz, len_tup, d1_one, d2_two, ref_hnd, part_int, text_str, gl0, gl1, gl2, gl3, gl4, gl5, gl6, gl7, gl8, gl9, gl10, gl11, gl12, gl13, gl14, gl15, gl16, gc0, gc1, gc2, gc3, gc4, gc5, gc6, gc7, gc8, List.cons_append, List.nil_append, Bool.not_true, Bool.not_false, List.set_cons_succ, List.set_cons_zero, if_true, if_false, Bool.false_eq_true, decide_eq_true c]
      rw [ix_hnd hm (get3 _ _ _).1]
      simp only [ap_var, ap_c, ap_bin, ap_chain, ap_bool, ap_tru, ap_neg, ap_an, ap_orr, ap_and, ap_or, ap_not, ap_if, ap_un, ap_nil, ap_cons, ap_tup, ap_lst, ap_lstH, ap_onone, ap_osome, ap_slice, ap_b, ap_jnil, ap_jcons, ap_joined, ap_m1, ap_ival, ap_range1, ap_range2, ap_gnam, ap_gsnil, ap_gscons, ap_gtp, ap_gsb, ap_lc, ap_lcH, ap_all, ap_app, ap_call, ap_callD, ap_snil, ap_scons, ap_ret, ap_retN, ap_expr, ap_sif, ap_asg, ap_set, ap_aug, ap_while, ap_for, ap_break, ap_cont, iadd_int, puto_some, slot_0, slot_s, pure_bb, bind_assoc', bad_bb, ite_bind', flow_nx, flow_rt, flow_bk, flow_ct, endOf_rt, endOf_nx, guard_t, guard_nn, wipe_1, bind_pure', opt_some, noexc_p, noexc_bind, noexc_ite, noexc_idem, noexc_guard, noexc_opt, noexc_bad, now_int, now_str, now_bl, now_non, now_tup, now_lst, now_frz, add_int, sub_int, lt_int', le_int', gt_int', ge_int', bool_bl, tru_bl, tru_int, toInt_int, toInt_bl, abs_int, max2_int, min2_int, len_lst, len_frz, len_tup, d1_one, d2_two, ref_hnd, part_int, text_str, gl0, gl1, gl2, gl3, gl4, gl5, gl6, gl7, gl8, gl9, gl10, gl11, gl12, gl13, gl14, gl15, gl16, gc0, gc1, gc2, gc3, gc4, gc5, gc6, gc7, gc8, List.cons_append, List.nil_append, Bool.not_true, Bool.not_false, List.set_cons_succ, List.set_cons_zero, if_true, if_false, Bool.false_eq_true, mod_int' x n hn.1]
      rw [ix_hnd hm (get3 _ _ _).1]
      simp only [ap_var, ap_c, ap_bin, ap_chain, ap_bool, ap_tru, ap_neg, ap_an, ap_orr, ap_and, ap_or, ap_not, ap_if, ap_un, ap_nil, ap_cons, ap_tup, ap_lst, ap_lstH, ap_onone, ap_osome, ap_slice, ap_b, ap_jnil, ap_jcons, ap_joined, ap_m1, ap_ival, ap_range1, ap_range2, ap_gnam, ap_gsnil, ap_gscons, ap_gtp, ap_gsb, ap_lc, ap_lcH, ap_all, ap_app, ap_call, ap_callD, ap_snil, ap_scons, ap_ret, ap_retN, ap_expr, ap_sif, ap_asg, ap_set, ap_aug, ap_while, ap_for, ap_break, ap_cont, iadd_int, puto_some, slot_0, slot_s, pure_bb, bind_assoc', bad_bb, ite_bind', flow_nx, flow_rt, flow_bk, flow_ct, endOf_rt, endOf_nx, guard_t, guard_nn, wipe_1, bind_pure', opt_some, noexc_p, noexc_bind, noexc_ite, noexc_idem, noexc_guard, noexc_opt, noexc_bad, now_int, now_str, now_bl, now_non, now_tup, now_lst, now_frz, add_int, sub_int, lt_int', le_int', gt_int', ge_int', bool_bl, tru_bl, tru_int, toInt_int, toInt_bl, abs_int, max2_int, min2_int, len_lst, len_frz, len_tup, d1_one, d2_two, ref_hnd, part_int, text_str, gl0, gl1, gl2, gl3, gl4, gl5, gl6, gl7, gl8, gl9, gl10, gl11, gl12, gl13, gl14, gl15, gl16, gc0, gc1, gc2, gc3, gc4, gc5, gc6, gc7, gc8, List.cons_append, List.nil_append, Bool.not_true, Bool.not_false, List.set_cons_succ, List.set_cons_zero, if_true, if_false, Bool.false_eq_true, fdiv_int x n hn]
      rw [put_hnd hm (put3 _ _ _ .non).1]
      rfl
    · exact ⟨x / n, y, by rw [List.getElem?_set_self hlen], Int.ediv_nonneg hx (by omega), hy, hy2⟩
  · have c0 : decide (0 < x) = false := decide_eq_false c
    have hz1 : (0 : Int) ≤ (z : Int) + 1 := by omega
    have hm2 : (m.set k (.lst [.int x, .int y, .int ((z : Int) + 1)]))[k]? = some (.lst [.int x, .int y, .int ((z : Int) + 1)]) := List.getElem?_set_self hlen
    obtain ⟨p, hp, p0, p1⟩ := prime_at ((z : Int) + 1)
    obtain ⟨q, hq, q0, q1⟩ := prime_at ((z : Int) + 1 + 5)
    have hl := low_small hy hy2 hz1 (by omega)
    generalize hlow : y * (2 * ((z : Int) + 1) + 1) + 2311 * ((z : Int) + 1) * ((z : Int) + 1) + 71 = low at hl
    have f0 : 0 ≤ low ^ (3 : Int).toNat % p := Int.emod_nonneg _ (by omega)
    have f1 : low ^ (3 : Int).toNat % p < p := Int.emod_lt_of_pos _ p0
    generalize hfo : low ^ (3 : Int).toNat % p = fo at f0 f1
    refine ⟨.int (fo * (fo / 4096 + ((z : Int) + 1)) % q / 16 % n), m.set k (.lst [.int x, .int y, .int ((z : Int) + 1)]), z + 1, ?_, ?_, by omega, ⟨_, rfl, Int.emod_nonneg _ (by omega), Int.emod_lt_of_pos _ hn.1⟩, by rw [List.length_set], fun j hj => by rw [List.getElem?_set_ne (fun e => hj e.symm)]⟩
    · simp only [ap_var, ap_c, ap_bin, ap_chain, ap_bool, ap_tru, ap_neg, ap_an, ap_orr, ap_and, ap_or, ap_not, ap_if, ap_un, ap_nil, ap_cons, ap_tup, ap_lst, ap_lstH, ap_onone, ap_osome, ap_slice, ap_b, ap_jnil, ap_jcons, ap_joined, ap_m1, ap_ival, ap_range1, ap_range2, ap_gnam, ap_gsnil, ap_gscons, ap_gtp, ap_gsb, ap_lc, ap_lcH, ap_all, ap_app, ap_call, ap_callD, ap_snil, ap_scons, ap_ret, ap_retN, ap_expr, ap_sif, ap_asg, ap_set, ap_aug, ap_while, ap_for, ap_break, ap_cont, iadd_int, puto_some, slot_0, slot_s, pure_bb, bind_assoc', bad_bb, ite_bind', flow_nx, flow_rt, flow_bk, flow_ct, endOf_rt, endOf_nx, guard_t, guard_nn, wipe_1, bind_pure', opt_some, noexc_p, noexc_bind, noexc_ite, noexc_idem, noexc_guard, noexc_opt, noexc_bad, now_int, now_str, now_bl, now_non, now_tup, now_lst, now_frz, add_int, sub_int, lt_int', le_int', gt_int', ge_int', bool_bl, tru_bl, tru_int, toInt_int, toInt_bl, abs_int, max2_int, min2_int, len_lst, len_frz, len_tup, d1_one, d2_two, ref_hnd, part_int, text_str, gl0, gl1, gl2, gl3, gl4, gl5, gl6, gl7, gl8, gl9, gl10, gl11, gl12, gl13, gl14, gl15, gl16, gc0, gc1, gc2, gc3, gc4, gc5, gc6, gc7, gc8, List.cons_append, List.nil_append, Bool.not_true, Bool.not_false, List.set_cons_succ, List.set_cons_zero, if_true, if_false, Bool.false_eq_true, b_l_take]
      rw [ix_hnd hm (get3 _ _ _).1]
      simp only [ap_var, ap_c, ap_bin, ap_chain, ap_bool, ap_tru, ap_neg, ap_an, ap_orr, ap_and, ap_or, ap_not, ap_if, ap_un, ap_nil, ap_cons, ap_tup, ap_lst, ap_lstH, ap_onone, ap_osome, ap_slice, ap_b, ap_jnil, ap_jcons, ap_joined, ap_m1, ap_ival, ap_range1, ap_range2, ap_gnam, ap_gsnil, ap_gscons, ap_gtp, ap_gsb, ap_lc, ap_lcH, ap_all, ap_app, ap_call, ap_callD, ap_snil, ap_scons, ap_ret, ap_retN, ap_expr, ap_sif, ap_asg, ap_set, ap_aug, ap_while, ap_for, ap_break, ap_cont, iadd_int, puto_some, slot_0, slot_s, pure_bb, bind_assoc', bad_bb, ite_bind', flow_nx, flow_rt, flow_bk, flow_ct, endOf_rt, endOf_nx, guard_t, guard_nn, wipe_1, bind_pure', opt_some, noexc_p, noexc_bind, noexc_ite, noexc_idem, noexc_guard, noexc_opt, noexc_bad, now_int, now_str, now_bl, now_non, now_tup, now_lst, now_frz, add_int, sub_int, lt_int', le_int', gt_int', ge_int', bool_bl, tru_bl, tru_int, toInt_int, toInt_bl, abs_int, max2_int, min2_int, len_lst, len_frz, len_tup, d1_one, d2_two, ref_hnd, part_int, text_str, gl0, gl1, gl2, gl3, gl4, gl5, gl6, gl7, gl8, gl9, gl10, gl11, gl12, gl13, gl14, gl15, gl16, gc0, gc1, gc2, gc3, gc4, gc5, gc6, gc7, gc8, List.cons_append, List.nil_append, Bool.not_true, Bool.not_false, List.set_cons_succ, List.set_cons_zero, if_true, if_false, Bool.false_eq_true, c0]
      rw [ix_hnd hm (get3 _ _ _).2.2]
      simp only [ap_var, ap_c, ap_bin, ap_chain, ap_bool, ap_tru, ap_neg, ap_an, ap_orr, ap_and, ap_or, ap_not, ap_if, ap_un, ap_nil, ap_cons, ap_tup, ap_lst, ap_lstH, ap_onone, ap_osome, ap_slice, ap_b, ap_jnil, ap_jcons, ap_joined, ap_m1, ap_ival, ap_range1, ap_range2, ap_gnam, ap_gsnil, ap_gscons, ap_gtp, ap_gsb, ap_lc, ap_lcH, ap_all, ap_app, ap_call, ap_callD, ap_snil, ap_scons, ap_ret, ap_retN, ap_expr, ap_sif, ap_asg, ap_set, ap_aug, ap_while, ap_for, ap_break, ap_cont, iadd_int, puto_some, slot_0, slot_s, pure_bb, bind_assoc', bad_bb, ite_bind', flow_nx, flow_rt, flow_bk, flow_ct, endOf_rt, endOf_nx, guard_t, guard_nn, wipe_1, bind_pure', opt_some, noexc_p, noexc_bind, noexc_ite, noexc_idem, noexc_guard, noexc_opt, noexc_bad, now_int, now_str, now_bl, now_non, now_tup, now_lst, now_frz, add_int, sub_int, lt_int', le_int', gt_int', ge_int', bool_bl, tru_bl, tru_int, toInt_int, toInt_bl, abs_int, max2_int, min2_int, len_lst, len_frz, len_tup, d1_one, d2_two, ref_hnd, part_int, text_str, gl0, gl1, gl2, gl3, gl4, gl5, gl6, gl7, gl8, gl9, gl10, gl11, gl12, gl13, gl14, gl15, gl16, gc0, gc1, gc2, gc3, gc4, gc5, gc6, gc7, gc8, List.cons_append, List.nil_append, Bool.not_true, Bool.not_false, List.set_cons_succ, List.set_cons_zero, if_true, if_false, Bool.false_eq_true]
      rw [put_hnd hm (put3 _ _ _ .non).2]
      simp only [ap_var, ap_c, ap_bin, ap_chain, ap_bool, ap_tru, ap_neg, ap_an, ap_orr, ap_and, ap_or, ap_not, ap_if, ap_un, ap_nil, ap_cons, ap_tup, ap_lst, ap_lstH, ap_onone, ap_osome, ap_slice, ap_b, ap_jnil, ap_jcons, ap_joined, ap_m1, ap_ival, ap_range1, ap_range2, ap_gnam, ap_gsnil, ap_gscons, ap_gtp, ap_gsb, ap_lc, ap_lcH, ap_all, ap_app, ap_call, ap_callD, ap_snil, ap_scons, ap_ret, ap_retN, ap_expr, ap_sif, ap_asg, ap_set, ap_aug, ap_while, ap_for, ap_break, ap_cont, iadd_int, puto_some, slot_0, slot_s, pure_bb, bind_assoc', bad_bb, ite_bind', flow_nx, flow_rt, flow_bk, flow_ct, endOf_rt, endOf_nx, guard_t, guard_nn, wipe_1, bind_pure', opt_some, noexc_p, noexc_bind, noexc_ite, noexc_idem, noexc_guard, noexc_opt, noexc_bad, now_int, now_str, now_bl, now_non, now_tup, now_lst, now_frz, add_int, sub_int, lt_int', le_int', gt_int', ge_int', bool_bl, tru_bl, tru_int, toInt_int, toInt_bl, abs_int, max2_int, min2_int, len_lst, len_frz, len_tup, d1_one, d2_two, ref_hnd, part_int, text_str, gl0, gl1, gl2, gl3, gl4, gl5, gl6, gl7, gl8, gl9, gl10, gl11, gl12, gl13, gl14, gl15, gl16, gc0, gc1, gc2, gc3, gc4, gc5, gc6, gc7, gc8, List.cons_append, List.nil_append, Bool.not_true, Bool.not_false, List.set_cons_succ, List.set_cons_zero, if_true, if_false, Bool.false_eq_true]
      show Rs.noexc ((D.ix (.hnd k) (.int 2) >>= _).run (m.set k (.lst [.int x, .int y, .int ((z : Int) + 1)]))) = _
      rw [ix_hnd hm2 (get3 _ _ _).2.2]
      simp only [ap_var, ap_c, ap_bin, ap_chain, ap_bool, ap_tru, ap_neg, ap_an, ap_orr, ap_and, ap_or, ap_not, ap_if, ap_un, ap_nil, ap_cons, ap_tup, ap_lst, ap_lstH, ap_onone, ap_osome, ap_slice, ap_b, ap_jnil, ap_jcons, ap_joined, ap_m1, ap_ival, ap_range1, ap_range2, ap_gnam, ap_gsnil, ap_gscons, ap_gtp, ap_gsb, ap_lc, ap_lcH, ap_all, ap_app, ap_call, ap_callD, ap_snil, ap_scons, ap_ret, ap_retN, ap_expr, ap_sif, ap_asg, ap_set, ap_aug, ap_while, ap_for, ap_break, ap_cont, iadd_int, puto_some, slot_0, slot_s, pure_bb, bind_assoc', bad_bb, ite_bind', flow_nx, flow_rt, flow_bk, flow_ct, endOf_rt, endOf_nx, guard_t, guard_nn, wipe_1, bind_pure', opt_some, noexc_p, noexc_bind, noexc_ite, noexc_idem, noexc_guard, noexc_opt, noexc_bad, now_int, now_str, now_bl, now_non, now_tup, now_lst, now_frz, add_int, sub_int, lt_int', le_int', gt_int', ge_int', bool_bl, tru_bl, tru_int, toInt_int, toInt_bl, abs_int, max2_int, min2_int, len_lst, len_frz, len_tup, d1_one, d2_two, ref_hnd, part_int, text_str, gl0, gl1, gl2, gl3, gl4, gl5, gl6, gl7, gl8, gl9, gl10, gl11, gl12, gl13, gl14, gl15, gl16, gc0, gc1, gc2, gc3, gc4, gc5, gc6, gc7, gc8, List.cons_append, List.nil_append, Bool.not_true, Bool.not_false, List.set_cons_succ, List.set_cons_zero, if_true, if_false, Bool.false_eq_true]
      rw [ix_hnd hm2 (get3 _ _ _).2.1]
      simp only [ap_var, ap_c, ap_bin, ap_chain, ap_bool, ap_tru, ap_neg, ap_an, ap_orr, ap_and, ap_or, ap_not, ap_if, ap_un, ap_nil, ap_cons, ap_tup, ap_lst, ap_lstH, ap_onone, ap_osome, ap_slice, ap_b, ap_jnil, ap_jcons, ap_joined, ap_m1, ap_ival, ap_range1, ap_range2, ap_gnam, ap_gsnil, ap_gscons, ap_gtp, ap_gsb, ap_lc, ap_lcH, ap_all, ap_app, ap_call, ap_callD, ap_snil, ap_scons, ap_ret, ap_retN, ap_expr, ap_sif, ap_asg, ap_set, ap_aug, ap_while, ap_for, ap_break, ap_cont, iadd_int, puto_some, slot_0, slot_s, pure_bb, bind_assoc', bad_bb, ite_bind', flow_nx, flow_rt, flow_bk, flow_ct, endOf_rt, endOf_nx, guard_t, guard_nn, wipe_1, bind_pure', opt_some, noexc_p, noexc_bind, noexc_ite, noexc_idem, noexc_guard, noexc_opt, noexc_bad, now_int, now_str, now_bl, now_non, now_tup, now_lst, now_frz, add_int, sub_int, lt_int', le_int', gt_int', ge_int', bool_bl, tru_bl, tru_int, toInt_int, toInt_bl, abs_int, max2_int, min2_int, len_lst, len_frz, len_tup, d1_one, d2_two, ref_hnd, part_int, text_str, gl0, gl1, gl2, gl3, gl4, gl5, gl6, gl7, gl8, gl9, gl10, gl11, gl12, gl13, gl14, gl15, gl16, gc0, gc1, gc2, gc3, gc4, gc5, gc6, gc7, gc8, List.cons_append, List.nil_append, Bool.not_true, Bool.not_false, List.set_cons_succ, List.set_cons_zero, if_true, if_false, Bool.false_eq_true, mul_int' 2 ((z : Int) + 1) (.inl (by decide))]
      rw [mul_int' y (2 * ((z : Int) + 1) + 1) (.inl ⟨by omega, by omega⟩), pure_bb, mul_int' 2311 ((z : Int) + 1) (.inl (by decide)), pure_bb, mul_int' (2311 * ((z : Int) + 1)) ((z : Int) + 1) (.inl ⟨by omega, by omega⟩)]
      simp only [ap_var, ap_c, ap_bin, ap_chain, ap_bool, ap_tru, ap_neg, ap_an, ap_orr, ap_and, ap_or, ap_not, ap_if, ap_un, ap_nil, ap_cons, ap_tup, ap_lst, ap_lstH, ap_onone, ap_osome, ap_slice, ap_b, ap_jnil, ap_jcons, ap_joined, ap_m1, ap_ival, ap_range1, ap_range2, ap_gnam, ap_gsnil, ap_gscons, ap_gtp, ap_gsb, ap_lc, ap_lcH, ap_all, ap_app, ap_call, ap_callD, ap_snil, ap_scons, ap_ret, ap_retN, ap_expr, ap_sif, ap_asg, ap_set, ap_aug, ap_while, ap_for, ap_break, ap_cont, iadd_int, puto_some, slot_0, slot_s, pure_bb, bind_assoc', bad_bb, ite_bind', flow_nx, flow_rt, flow_bk, flow_ct, endOf_rt, endOf_nx, guard_t, guard_nn, wipe_1, bind_pure', opt_some, noexc_p, noexc_bind, noexc_ite, noexc_idem, noexc_guard, noexc_opt, noexc_bad, now_int, now_str, now_bl, now_non, now_tup, now_lst, now_frz, add_int, sub_int, lt_int', le_int', gt_int', ge_int', bool_bl, tru_bl, tru_int, toInt_int, toInt_bl, abs_int, max2_int, min2_int, len_lst, len_frz, len_tup, d1_one, d2_two, ref_hnd, part_int, text_str, gl0, gl1, gl2, gl3, gl4, gl5, gl6, gl7, gl8, gl9, gl10, gl11, gl12, gl13, gl14, gl15, gl16, gc0, gc1, gc2, gc3, gc4, gc5, gc6, gc7, gc8, List.cons_append, List.nil_append, Bool.not_true, Bool.not_false, List.set_cons_succ, List.set_cons_zero, if_true, if_false, Bool.false_eq_true, hlow]
      rw [pow_int' low 3 ⟨by decide, by decide, hl⟩, pure_bb, mod_int' ((z : Int) + 1) 8 (by decide), pure_bb, dx_tup, show [D.int 2147483647, .int 2147483629, .int 2147483587, .int 2147483579, .int 2147483563, .int 2147483549, .int 2147483543, .int 2147483497] = primes from rfl, hp]
      simp only [ap_var, ap_c, ap_bin, ap_chain, ap_bool, ap_tru, ap_neg, ap_an, ap_orr, ap_and, ap_or, ap_not, ap_if, ap_un, ap_nil, ap_cons, ap_tup, ap_lst, ap_lstH, ap_onone, ap_osome, ap_slice, ap_b, ap_jnil, ap_jcons, ap_joined, ap_m1, ap_ival, ap_range1, ap_range2, ap_gnam, ap_gsnil, ap_gscons, ap_gtp, ap_gsb, ap_lc, ap_lcH, ap_all, ap_app, ap_call, ap_callD, ap_snil, ap_scons, ap_ret, ap_retN, ap_expr, ap_sif, ap_asg, ap_set, ap_aug, ap_while, ap_for, ap_break, ap_cont, iadd_int, puto_some, slot_0, slot_s, pure_bb, bind_assoc', bad_bb, ite_bind', flow_nx, flow_rt, flow_bk, flow_ct, endOf_rt, endOf_nx, guard_t, guard_nn, wipe_1, bind_pure', opt_some, noexc_p, noexc_bind, noexc_ite, noexc_idem, noexc_guard, noexc_opt, noexc_bad, now_int, now_str, now_bl, now_non, now_tup, now_lst, now_frz, add_int, sub_int, lt_int', le_int', gt_int', ge_int', bool_bl, tru_bl, tru_int, toInt_int, toInt_bl, abs_int, max2_int, min2_int, len_lst, len_frz, len_tup, d1_one, d2_two, ref_hnd, part_int, text_str, gl0, gl1, gl2, gl3, gl4, gl5, gl6, gl7, gl8, gl9, gl10, gl11, gl12, gl13, gl14, gl15, gl16, gc0, gc1, gc2, gc3, gc4, gc5, gc6, gc7, gc8, List.cons_append, List.nil_append, Bool.not_true, Bool.not_false, List.set_cons_succ, List.set_cons_zero, if_true, if_false, Bool.false_eq_true]
      rw [mod_int' _ p p0]
      simp only [ap_var, ap_c, ap_bin, ap_chain, ap_bool, ap_tru, ap_neg, ap_an, ap_orr, ap_and, ap_or, ap_not, ap_if, ap_un, ap_nil, ap_cons, ap_tup, ap_lst, ap_lstH, ap_onone, ap_osome, ap_slice, ap_b, ap_jnil, ap_jcons, ap_joined, ap_m1, ap_ival, ap_range1, ap_range2, ap_gnam, ap_gsnil, ap_gscons, ap_gtp, ap_gsb, ap_lc, ap_lcH, ap_all, ap_app, ap_call, ap_callD, ap_snil, ap_scons, ap_ret, ap_retN, ap_expr, ap_sif, ap_asg, ap_set, ap_aug, ap_while, ap_for, ap_break, ap_cont, iadd_int, puto_some, slot_0, slot_s, pure_bb, bind_assoc', bad_bb, ite_bind', flow_nx, flow_rt, flow_bk, flow_ct, endOf_rt, endOf_nx, guard_t, guard_nn, wipe_1, bind_pure', opt_some, noexc_p, noexc_bind, noexc_ite, noexc_idem, noexc_guard, noexc_opt, noexc_bad, now_int, now_str, now_bl, now_non, now_tup, now_lst, now_frz, add_int, sub_int, lt_int', le_int', gt_int', ge_int', bool_bl, tru_bl, tru_int, toInt_int, toInt_bl, abs_int, max2_int, min2_int, len_lst, len_frz, len_tup, d1_one, d2_two, ref_hnd, part_int, text_str, gl0, gl1, gl2, gl3, gl4, gl5, gl6, gl7, gl8, gl9, gl10, gl11, gl12, gl13, gl14, gl15, gl16, gc0, gc1, gc2, gc3, gc4, gc5, gc6, gc7, gc8, List.cons_append, List.nil_append, Bool.not_true, Bool.not_false, List.set_cons_succ, List.set_cons_zero, if_true, if_false, Bool.false_eq_true, hfo]
      rw [fdiv_int fo 4096 ⟨by decide, by decide⟩]
      simp only [ap_var, ap_c, ap_bin, ap_chain, ap_bool, ap_tru, ap_neg, ap_an, ap_orr, ap_and, ap_or, ap_not, ap_if, ap_un, ap_nil, ap_cons, ap_tup, ap_lst, ap_lstH, ap_onone, ap_osome, ap_slice, ap_b, ap_jnil, ap_jcons, ap_joined, ap_m1, ap_ival, ap_range1, ap_range2, ap_gnam, ap_gsnil, ap_gscons, ap_gtp, ap_gsb, ap_lc, ap_lcH, ap_all, ap_app, ap_call, ap_callD, ap_snil, ap_scons, ap_ret, ap_retN, ap_expr, ap_sif, ap_asg, ap_set, ap_aug, ap_while, ap_for, ap_break, ap_cont, iadd_int, puto_some, slot_0, slot_s, pure_bb, bind_assoc', bad_bb, ite_bind', flow_nx, flow_rt, flow_bk, flow_ct, endOf_rt, endOf_nx, guard_t, guard_nn, wipe_1, bind_pure', opt_some, noexc_p, noexc_bind, noexc_ite, noexc_idem, noexc_guard, noexc_opt, noexc_bad, now_int, now_str, now_bl, now_non, now_tup, now_lst, now_frz, add_int, sub_int, lt_int', le_int', gt_int', ge_int', bool_bl, tru_bl, tru_int, toInt_int, toInt_bl, abs_int, max2_int, min2_int, len_lst, len_frz, len_tup, d1_one, d2_two, ref_hnd, part_int, text_str, gl0, gl1, gl2, gl3, gl4, gl5, gl6, gl7, gl8, gl9, gl10, gl11, gl12, gl13, gl14, gl15, gl16, gc0, gc1, gc2, gc3, gc4, gc5, gc6, gc7, gc8, List.cons_append, List.nil_append, Bool.not_true, Bool.not_false, List.set_cons_succ, List.set_cons_zero, if_true, if_false, Bool.false_eq_true]
      rw [mul_int' fo (fo / 4096 + ((z : Int) + 1)) (.inl ⟨by omega, by omega⟩), pure_bb, mod_int' ((z : Int) + 1 + 5) 8 (by decide), pure_bb, dx_tup, hq]
      simp only [ap_var, ap_c, ap_bin, ap_chain, ap_bool, ap_tru, ap_neg, ap_an, ap_orr, ap_and, ap_or, ap_not, ap_if, ap_un, ap_nil, ap_cons, ap_tup, ap_lst, ap_lstH, ap_onone, ap_osome, ap_slice, ap_b, ap_jnil, ap_jcons, ap_joined, ap_m1, ap_ival, ap_range1, ap_range2, ap_gnam, ap_gsnil, ap_gscons, ap_gtp, ap_gsb, ap_lc, ap_lcH, ap_all, ap_app, ap_call, ap_callD, ap_snil, ap_scons, ap_ret, ap_retN, ap_expr, ap_sif, ap_asg, ap_set, ap_aug, ap_while, ap_for, ap_break, ap_cont, iadd_int, puto_some, slot_0, slot_s, pure_bb, bind_assoc', bad_bb, ite_bind', flow_nx, flow_rt, flow_bk, flow_ct, endOf_rt, endOf_nx, guard_t, guard_nn, wipe_1, bind_pure', opt_some, noexc_p, noexc_bind, noexc_ite, noexc_idem, noexc_guard, noexc_opt, noexc_bad, now_int, now_str, now_bl, now_non, now_tup, now_lst, now_frz, add_int, sub_int, lt_int', le_int', gt_int', ge_int', bool_bl, tru_bl, tru_int, toInt_int, toInt_bl, abs_int, max2_int, min2_int, len_lst, len_frz, len_tup, d1_one, d2_two, ref_hnd, part_int, text_str, gl0, gl1, gl2, gl3, gl4, gl5, gl6, gl7, gl8, gl9, gl10, gl11, gl12, gl13, gl14, gl15, gl16, gc0, gc1, gc2, gc3, gc4, gc5, gc6, gc7, gc8, List.cons_append, List.nil_append, Bool.not_true, Bool.not_false, List.set_cons_succ, List.set_cons_zero, if_true, if_false, Bool.false_eq_true]
      rw [mod_int' _ q q0]
      simp only [ap_var, ap_c, ap_bin, ap_chain, ap_bool, ap_tru, ap_neg, ap_an, ap_orr, ap_and, ap_or, ap_not, ap_if, ap_un, ap_nil, ap_cons, ap_tup, ap_lst, ap_lstH, ap_onone, ap_osome, ap_slice, ap_b, ap_jnil, ap_jcons, ap_joined, ap_m1, ap_ival, ap_range1, ap_range2, ap_gnam, ap_gsnil, ap_gscons, ap_gtp, ap_gsb, ap_lc, ap_lcH, ap_all, ap_app, ap_call, ap_callD, ap_snil, ap_scons, ap_ret, ap_retN, ap_expr, ap_sif, ap_asg, ap_set, ap_aug, ap_while, ap_for, ap_break, ap_cont, iadd_int, puto_some, slot_0, slot_s, pure_bb, bind_assoc', bad_bb, ite_bind', flow_nx, flow_rt, flow_bk, flow_ct, endOf_rt, endOf_nx, guard_t, guard_nn, wipe_1, bind_pure', opt_some, noexc_p, noexc_bind, noexc_ite, noexc_idem, noexc_guard, noexc_opt, noexc_bad, now_int, now_str, now_bl, now_non, now_tup, now_lst, now_frz, add_int, sub_int, lt_int', le_int', gt_int', ge_int', bool_bl, tru_bl, tru_int, toInt_int, toInt_bl, abs_int, max2_int, min2_int, len_lst, len_frz, len_tup, d1_one, d2_two, ref_hnd, part_int, text_str, gl0, gl1, gl2, gl3, gl4, gl5, gl6, gl7, gl8, gl9, gl10, gl11, gl12, gl13, gl14, gl15, gl16, gc0, gc1, gc2, gc3, gc4, gc5, gc6, gc7, gc8, List.cons_append, List.nil_append, Bool.not_true, Bool.not_false, List.set_cons_succ, List.set_cons_zero, if_true, if_false, Bool.false_eq_true]
      rw [fdiv_int _ 16 ⟨by decide, by decide⟩]
      simp only [ap_var, ap_c, ap_bin, ap_chain, ap_bool, ap_tru, ap_neg, ap_an, ap_orr, ap_and, ap_or, ap_not, ap_if, ap_un, ap_nil, ap_cons, ap_tup, ap_lst, ap_lstH, ap_onone, ap_osome, ap_slice, ap_b, ap_jnil, ap_jcons, ap_joined, ap_m1, ap_ival, ap_range1, ap_range2, ap_gnam, ap_gsnil, ap_gscons, ap_gtp, ap_gsb, ap_lc, ap_lcH, ap_all, ap_app, ap_call, ap_callD, ap_snil, ap_scons, ap_ret, ap_retN, ap_expr, ap_sif, ap_asg, ap_set, ap_aug, ap_while, ap_for, ap_break, ap_cont, iadd_int, puto_some, slot_0, slot_s, pure_bb, bind_assoc', bad_bb, ite_bind', flow_nx, flow_rt, flow_bk, flow_ct, endOf_rt, endOf_nx, guard_t, guard_nn, wipe_1, bind_pure', opt_some, noexc_p, noexc_bind, noexc_ite, noexc_idem, noexc_guard, noexc_opt, noexc_bad, now_int, now_str, now_bl, now_non, now_tup, now_lst, now_frz, add_int, sub_int, lt_int', le_int', gt_int', ge_int', bool_bl, tru_bl, tru_int, toInt_int, toInt_bl, abs_int, max2_int, min2_int, len_lst, len_frz, len_tup, d1_one, d2_two, ref_hnd, part_int, text_str, gl0, gl1, gl2, gl3, gl4, gl5, gl6, gl7, gl8, gl9, gl10, gl11, gl12, gl13, gl14, gl15, gl16, gc0, gc1, gc2, gc3, gc4, gc5, gc6, gc7, gc8, List.cons_append, List.nil_append, Bool.not_true, Bool.not_false, List.set_cons_succ, List.set_cons_zero, if_true, if_false, Bool.false_eq_true]
      rw [mod_int' _ n hn.1]
      rfl
    · exact ⟨x, y, by rw [hm2]; rfl, hx, hy, hy2⟩
end LW
set_option maxRecDepth 100000
set_option maxHeartbeats 4000000
namespace LW
open PySem L2 Mir
theorem str_len {s : Str} (h : s.length ≤ 1000) : s.length ≤ sizeLine := Nat.le_trans h (by decide)
theorem str_inj {a b : Str} (h : a.cps.toList = b.cps.toList) : a = b := by
  obtain ⟨a⟩ := a
  obtain ⟨b⟩ := b
  exact congrArg Str.mk (Array.toList_inj.mp h)
theorem str_beq (a b : Str) : (a == b) = decide (a.cps.toList = b.cps.toList) := by
  rw [Bool.eq_iff_iff]
  simp only [beq_iff_eq, decide_eq_true_eq]
  exact ⟨fun h => by rw [h], str_inj⟩
def allIn (l : List Nat) (t : Str) : Bool := l.all fun c => decide (c ∈ t.cps.toList)
theorem signs_len (s : Str) : (signs s).length = s.length := by
  rw [str_length]
  simp [signs]
def codeOf : D → Nat
  | .str s => s.cps.toList.headD 0
  | _ => 0
theorem are_signs_ok (s t : Str) (h : s.length ≤ 1000) : m_are_signs [.str s, .str t] = pure (.bl (allIn s.cps.toList t)) := by
  show M.noexc (b_are_signs (startE 3 [.str s, .str t]) >>= endOf) = _
  have e0 : startE 3 [.str s, .str t] = [some (.str s), some (.str t), none] := rfl
  rw [e0]
  simp only [ap_var, ap_c, ap_bin, ap_chain, ap_bool, ap_tru, ap_neg, ap_an, ap_orr, ap_and, ap_or, ap_not, ap_if, ap_un, ap_nil, ap_cons, ap_tup, ap_lst, ap_lstH, ap_onone, ap_osome, ap_slice, ap_b, ap_jnil, ap_jcons, ap_joined, ap_m1, ap_ival, ap_range1, ap_range2, ap_gnam, ap_gsnil, ap_gscons, ap_gtp, ap_gsb, ap_lc, ap_lcH, ap_all, ap_app, ap_call, ap_callD, ap_snil, ap_scons, ap_ret, ap_retN, ap_expr, ap_sif, ap_asg, ap_set, ap_aug, ap_while, ap_for, ap_break, ap_cont, iadd_int, puto_some, slot_0, slot_s, pure_bb, bind_assoc', bad_bb, ite_bind', flow_nx, flow_rt, flow_bk, flow_ct, endOf_rt, endOf_nx, guard_t, guard_nn, wipe_1, bind_pure', opt_some, noexc_p, noexc_bind, noexc_ite, noexc_idem, noexc_guard, noexc_opt, noexc_bad, now_int, now_str, now_bl, now_non, now_tup, now_lst, now_frz, add_int, sub_int, lt_int', le_int', gt_int', ge_int', bool_bl, tru_bl, tru_int, toInt_int, toInt_bl, abs_int, max2_int, min2_int, len_lst, len_frz, len_tup, d1_one, d2_two, ref_hnd, part_int, text_str, gl0, gl1, gl2, gl3, gl4, gl5, gl6, gl7, gl8, gl9, gl10, gl11, gl12, gl13, gl14, gl15, gl16, gc0, gc1, gc2, gc3, gc4, gc5, gc6, gc7, gc8, List.cons_append, List.nil_append, Bool.not_true, Bool.not_false, List.set_cons_succ, List.set_cons_zero, if_true, if_false, Bool.false_eq_true, b_are_signs]
  rw [lcAll_map (ds := signs s) (fun d => .bl (decide (codeOf d ∈ t.cps.toList))) (by simp only [ap_var, ap_c, ap_bin, ap_chain, ap_bool, ap_tru, ap_neg, ap_an, ap_orr, ap_and, ap_or, ap_not, ap_if, ap_un, ap_nil, ap_cons, ap_tup, ap_lst, ap_lstH, ap_onone, ap_osome, ap_slice, ap_b, ap_jnil, ap_jcons, ap_joined, ap_m1, ap_ival, ap_range1, ap_range2, ap_gnam, ap_gsnil, ap_gscons, ap_gtp, ap_gsb, ap_lc, ap_lcH, ap_all, ap_app, ap_call, ap_callD, ap_snil, ap_scons, ap_ret, ap_retN, ap_expr, ap_sif, ap_asg, ap_set, ap_aug, ap_while, ap_for, ap_break, ap_cont, iadd_int, puto_some, slot_0, slot_s, pure_bb, bind_assoc', bad_bb, ite_bind', flow_nx, flow_rt, flow_bk, flow_ct, endOf_rt, endOf_nx, guard_t, guard_nn, wipe_1, bind_pure', opt_some, noexc_p, noexc_bind, noexc_ite, noexc_idem, noexc_guard, noexc_opt, noexc_bad, now_int, now_str, now_bl, now_non, now_tup, now_lst, now_frz, add_int, sub_int, lt_int', le_int', gt_int', ge_int', bool_bl, tru_bl, tru_int, toInt_int, toInt_bl, abs_int, max2_int, min2_int, len_lst, len_frz, len_tup, d1_one, d2_two, ref_hnd, part_int, text_str, gl0, gl1, gl2, gl3, gl4, gl5, gl6, gl7, gl8, gl9, gl10, gl11, gl12, gl13, gl14, gl15, gl16, gc0, gc1, gc2, gc3, gc4, gc5, gc6, gc7, gc8, List.cons_append, List.nil_append, Bool.not_true, Bool.not_false, List.set_cons_succ, List.set_cons_zero, if_true, if_false, Bool.false_eq_true]; exact iter_str s) (fun d hd => ?_) (by rw [signs_len]; omega)]
  · simp only [ap_var, ap_c, ap_bin, ap_chain, ap_bool, ap_tru, ap_neg, ap_an, ap_orr, ap_and, ap_or, ap_not, ap_if, ap_un, ap_nil, ap_cons, ap_tup, ap_lst, ap_lstH, ap_onone, ap_osome, ap_slice, ap_b, ap_jnil, ap_jcons, ap_joined, ap_m1, ap_ival, ap_range1, ap_range2, ap_gnam, ap_gsnil, ap_gscons, ap_gtp, ap_gsb, ap_lc, ap_lcH, ap_all, ap_app, ap_call, ap_callD, ap_snil, ap_scons, ap_ret, ap_retN, ap_expr, ap_sif, ap_asg, ap_set, ap_aug, ap_while, ap_for, ap_break, ap_cont, iadd_int, puto_some, slot_0, slot_s, pure_bb, bind_assoc', bad_bb, ite_bind', flow_nx, flow_rt, flow_bk, flow_ct, endOf_rt, endOf_nx, guard_t, guard_nn, wipe_1, bind_pure', opt_some, noexc_p, noexc_bind, noexc_ite, noexc_idem, noexc_guard, noexc_opt, noexc_bad, now_int, now_str, now_bl, now_non, now_tup, now_lst, now_frz, add_int, sub_int, lt_int', le_int', gt_int', ge_int', bool_bl, tru_bl, tru_int, toInt_int, toInt_bl, abs_int, max2_int, min2_int, len_lst, len_frz, len_tup, d1_one, d2_two, ref_hnd, part_int, text_str, gl0, gl1, gl2, gl3, gl4, gl5, gl6, gl7, gl8, gl9, gl10, gl11, gl12, gl13, gl14, gl15, gl16, gc0, gc1, gc2, gc3, gc4, gc5, gc6, gc7, gc8, List.cons_append, List.nil_append, Bool.not_true, Bool.not_false, List.set_cons_succ, List.set_cons_zero, if_true, if_false, Bool.false_eq_true]
    have e1 : (signs s).map (fun d => D.bl (decide (codeOf d ∈ t.cps.toList))) = s.cps.toList.map (fun c => D.bl (decide (c ∈ t.cps.toList))) := by
      unfold signs
      rw [List.map_map]
      rfl
    rw [e1, all_map]
    simp only [ap_var, ap_c, ap_bin, ap_chain, ap_bool, ap_tru, ap_neg, ap_an, ap_orr, ap_and, ap_or, ap_not, ap_if, ap_un, ap_nil, ap_cons, ap_tup, ap_lst, ap_lstH, ap_onone, ap_osome, ap_slice, ap_b, ap_jnil, ap_jcons, ap_joined, ap_m1, ap_ival, ap_range1, ap_range2, ap_gnam, ap_gsnil, ap_gscons, ap_gtp, ap_gsb, ap_lc, ap_lcH, ap_all, ap_app, ap_call, ap_callD, ap_snil, ap_scons, ap_ret, ap_retN, ap_expr, ap_sif, ap_asg, ap_set, ap_aug, ap_while, ap_for, ap_break, ap_cont, iadd_int, puto_some, slot_0, slot_s, pure_bb, bind_assoc', bad_bb, ite_bind', flow_nx, flow_rt, flow_bk, flow_ct, endOf_rt, endOf_nx, guard_t, guard_nn, wipe_1, bind_pure', opt_some, noexc_p, noexc_bind, noexc_ite, noexc_idem, noexc_guard, noexc_opt, noexc_bad, now_int, now_str, now_bl, now_non, now_tup, now_lst, now_frz, add_int, sub_int, lt_int', le_int', gt_int', ge_int', bool_bl, tru_bl, tru_int, toInt_int, toInt_bl, abs_int, max2_int, min2_int, len_lst, len_frz, len_tup, d1_one, d2_two, ref_hnd, part_int, text_str, gl0, gl1, gl2, gl3, gl4, gl5, gl6, gl7, gl8, gl9, gl10, gl11, gl12, gl13, gl14, gl15, gl16, gc0, gc1, gc2, gc3, gc4, gc5, gc6, gc7, gc8, List.cons_append, List.nil_append, Bool.not_true, Bool.not_false, List.set_cons_succ, List.set_cons_zero, if_true, if_false, Bool.false_eq_true]
    rfl
  · unfold signs at hd
    obtain ⟨c, hc, rfl⟩ := List.mem_map.mp hd
    refine ⟨[some (.str s), some (.str t), some (.str ⟨#[c]⟩)], rfl, ?_⟩
    simp only [ap_var, ap_c, ap_bin, ap_chain, ap_bool, ap_tru, ap_neg, ap_an, ap_orr, ap_and, ap_or, ap_not, ap_if, ap_un, ap_nil, ap_cons, ap_tup, ap_lst, ap_lstH, ap_onone, ap_osome, ap_slice, ap_b, ap_jnil, ap_jcons, ap_joined, ap_m1, ap_ival, ap_range1, ap_range2, ap_gnam, ap_gsnil, ap_gscons, ap_gtp, ap_gsb, ap_lc, ap_lcH, ap_all, ap_app, ap_call, ap_callD, ap_snil, ap_scons, ap_ret, ap_retN, ap_expr, ap_sif, ap_asg, ap_set, ap_aug, ap_while, ap_for, ap_break, ap_cont, iadd_int, puto_some, slot_0, slot_s, pure_bb, bind_assoc', bad_bb, ite_bind', flow_nx, flow_rt, flow_bk, flow_ct, endOf_rt, endOf_nx, guard_t, guard_nn, wipe_1, bind_pure', opt_some, noexc_p, noexc_bind, noexc_ite, noexc_idem, noexc_guard, noexc_opt, noexc_bad, now_int, now_str, now_bl, now_non, now_tup, now_lst, now_frz, add_int, sub_int, lt_int', le_int', gt_int', ge_int', bool_bl, tru_bl, tru_int, toInt_int, toInt_bl, abs_int, max2_int, min2_int, len_lst, len_frz, len_tup, d1_one, d2_two, ref_hnd, part_int, text_str, gl0, gl1, gl2, gl3, gl4, gl5, gl6, gl7, gl8, gl9, gl10, gl11, gl12, gl13, gl14, gl15, gl16, gc0, gc1, gc2, gc3, gc4, gc5, gc6, gc7, gc8, List.cons_append, List.nil_append, Bool.not_true, Bool.not_false, List.set_cons_succ, List.set_cons_zero, if_true, if_false, Bool.false_eq_true]
    exact isIn_one c t
theorem call2 {A : Type} (x y : A) : decide ([x, y].length = 2) = true := rfl
theorem call1 {A : Type} (x : A) : decide ([x].length = 1) = true := rfl
theorem are_letters_ok (s : Str) (h : s.length ≤ 1000) : m_are_letters [.str s, .int 6] = pure (.bl (decide (1 ≤ s.length ∧ s.length ≤ 6) && allIn s.cps.toList "abcdefghijklmnopqrstuvwxyz")) := by
  show M.noexc (b_are_letters (startE 2 [.str s, .int 6]) >>= endOf) = _
  have e0 : startE 2 [.str s, .int 6] = [some (.str s), some (.int 6)] := rfl
  rw [e0]
  simp only [ap_var, ap_c, ap_bin, ap_chain, ap_bool, ap_tru, ap_neg, ap_an, ap_orr, ap_and, ap_or, ap_not, ap_if, ap_un, ap_nil, ap_cons, ap_tup, ap_lst, ap_lstH, ap_onone, ap_osome, ap_slice, ap_b, ap_jnil, ap_jcons, ap_joined, ap_m1, ap_ival, ap_range1, ap_range2, ap_gnam, ap_gsnil, ap_gscons, ap_gtp, ap_gsb, ap_lc, ap_lcH, ap_all, ap_app, ap_call, ap_callD, ap_snil, ap_scons, ap_ret, ap_retN, ap_expr, ap_sif, ap_asg, ap_set, ap_aug, ap_while, ap_for, ap_break, ap_cont, iadd_int, puto_some, slot_0, slot_s, pure_bb, bind_assoc', bad_bb, ite_bind', flow_nx, flow_rt, flow_bk, flow_ct, endOf_rt, endOf_nx, guard_t, guard_nn, wipe_1, bind_pure', opt_some, noexc_p, noexc_bind, noexc_ite, noexc_idem, noexc_guard, noexc_opt, noexc_bad, now_int, now_str, now_bl, now_non, now_tup, now_lst, now_frz, add_int, sub_int, lt_int', le_int', gt_int', ge_int', bool_bl, tru_bl, tru_int, toInt_int, toInt_bl, abs_int, max2_int, min2_int, len_lst, len_frz, len_tup, d1_one, d2_two, ref_hnd, part_int, text_str, gl0, gl1, gl2, gl3, gl4, gl5, gl6, gl7, gl8, gl9, gl10, gl11, gl12, gl13, gl14, gl15, gl16, gc0, gc1, gc2, gc3, gc4, gc5, gc6, gc7, gc8, List.cons_append, List.nil_append, Bool.not_true, Bool.not_false, List.set_cons_succ, List.set_cons_zero, if_true, if_false, Bool.false_eq_true, b_are_letters, len_str s (str_len h)]
  by_cases c1 : (1 : Int) ≤ (s.length : Int)
  · by_cases c2 : (s.length : Int) ≤ 6
    · simp only [ap_var, ap_c, ap_bin, ap_chain, ap_bool, ap_tru, ap_neg, ap_an, ap_orr, ap_and, ap_or, ap_not, ap_if, ap_un, ap_nil, ap_cons, ap_tup, ap_lst, ap_lstH, ap_onone, ap_osome, ap_slice, ap_b, ap_jnil, ap_jcons, ap_joined, ap_m1, ap_ival, ap_range1, ap_range2, ap_gnam, ap_gsnil, ap_gscons, ap_gtp, ap_gsb, ap_lc, ap_lcH, ap_all, ap_app, ap_call, ap_callD, ap_snil, ap_scons, ap_ret, ap_retN, ap_expr, ap_sif, ap_asg, ap_set, ap_aug, ap_while, ap_for, ap_break, ap_cont, iadd_int, puto_some, slot_0, slot_s, pure_bb, bind_assoc', bad_bb, ite_bind', flow_nx, flow_rt, flow_bk, flow_ct, endOf_rt, endOf_nx, guard_t, guard_nn, wipe_1, bind_pure', opt_some, noexc_p, noexc_bind, noexc_ite, noexc_idem, noexc_guard, noexc_opt, noexc_bad, now_int, now_str, now_bl, now_non, now_tup, now_lst, now_frz, add_int, sub_int, lt_int', le_int', gt_int', ge_int', bool_bl, tru_bl, tru_int, toInt_int, toInt_bl, abs_int, max2_int, min2_int, len_lst, len_frz, len_tup, d1_one, d2_two, ref_hnd, part_int, text_str, gl0, gl1, gl2, gl3, gl4, gl5, gl6, gl7, gl8, gl9, gl10, gl11, gl12, gl13, gl14, gl15, gl16, gc0, gc1, gc2, gc3, gc4, gc5, gc6, gc7, gc8, List.cons_append, List.nil_append, Bool.not_true, Bool.not_false, List.set_cons_succ, List.set_cons_zero, if_true, if_false, Bool.false_eq_true, decide_eq_true c1, decide_eq_true c2, call2, are_signs_ok s _ h]
      rw [decide_eq_true (show 1 ≤ s.length ∧ s.length ≤ 6 by omega)]
      rfl
    · simp only [ap_var, ap_c, ap_bin, ap_chain, ap_bool, ap_tru, ap_neg, ap_an, ap_orr, ap_and, ap_or, ap_not, ap_if, ap_un, ap_nil, ap_cons, ap_tup, ap_lst, ap_lstH, ap_onone, ap_osome, ap_slice, ap_b, ap_jnil, ap_jcons, ap_joined, ap_m1, ap_ival, ap_range1, ap_range2, ap_gnam, ap_gsnil, ap_gscons, ap_gtp, ap_gsb, ap_lc, ap_lcH, ap_all, ap_app, ap_call, ap_callD, ap_snil, ap_scons, ap_ret, ap_retN, ap_expr, ap_sif, ap_asg, ap_set, ap_aug, ap_while, ap_for, ap_break, ap_cont, iadd_int, puto_some, slot_0, slot_s, pure_bb, bind_assoc', bad_bb, ite_bind', flow_nx, flow_rt, flow_bk, flow_ct, endOf_rt, endOf_nx, guard_t, guard_nn, wipe_1, bind_pure', opt_some, noexc_p, noexc_bind, noexc_ite, noexc_idem, noexc_guard, noexc_opt, noexc_bad, now_int, now_str, now_bl, now_non, now_tup, now_lst, now_frz, add_int, sub_int, lt_int', le_int', gt_int', ge_int', bool_bl, tru_bl, tru_int, toInt_int, toInt_bl, abs_int, max2_int, min2_int, len_lst, len_frz, len_tup, d1_one, d2_two, ref_hnd, part_int, text_str, gl0, gl1, gl2, gl3, gl4, gl5, gl6, gl7, gl8, gl9, gl10, gl11, gl12, gl13, gl14, gl15, gl16, gc0, gc1, gc2, gc3, gc4, gc5, gc6, gc7, gc8, List.cons_append, List.nil_append, Bool.not_true, Bool.not_false, List.set_cons_succ, List.set_cons_zero, if_true, if_false, Bool.false_eq_true, decide_eq_true c1, decide_eq_false c2]
      rw [decide_eq_false (show ¬ (1 ≤ s.length ∧ s.length ≤ 6) by omega)]
      rfl
  · simp only [ap_var, ap_c, ap_bin, ap_chain, ap_bool, ap_tru, ap_neg, ap_an, ap_orr, ap_and, ap_or, ap_not, ap_if, ap_un, ap_nil, ap_cons, ap_tup, ap_lst, ap_lstH, ap_onone, ap_osome, ap_slice, ap_b, ap_jnil, ap_jcons, ap_joined, ap_m1, ap_ival, ap_range1, ap_range2, ap_gnam, ap_gsnil, ap_gscons, ap_gtp, ap_gsb, ap_lc, ap_lcH, ap_all, ap_app, ap_call, ap_callD, ap_snil, ap_scons, ap_ret, ap_retN, ap_expr, ap_sif, ap_asg, ap_set, ap_aug, ap_while, ap_for, ap_break, ap_cont, iadd_int, puto_some, slot_0, slot_s, pure_bb, bind_assoc', bad_bb, ite_bind', flow_nx, flow_rt, flow_bk, flow_ct, endOf_rt, endOf_nx, guard_t, guard_nn, wipe_1, bind_pure', opt_some, noexc_p, noexc_bind, noexc_ite, noexc_idem, noexc_guard, noexc_opt, noexc_bad, now_int, now_str, now_bl, now_non, now_tup, now_lst, now_frz, add_int, sub_int, lt_int', le_int', gt_int', ge_int', bool_bl, tru_bl, tru_int, toInt_int, toInt_bl, abs_int, max2_int, min2_int, len_lst, len_frz, len_tup, d1_one, d2_two, ref_hnd, part_int, text_str, gl0, gl1, gl2, gl3, gl4, gl5, gl6, gl7, gl8, gl9, gl10, gl11, gl12, gl13, gl14, gl15, gl16, gc0, gc1, gc2, gc3, gc4, gc5, gc6, gc7, gc8, List.cons_append, List.nil_append, Bool.not_true, Bool.not_false, List.set_cons_succ, List.set_cons_zero, if_true, if_false, Bool.false_eq_true, decide_eq_false c1]
    rw [decide_eq_false (show ¬ (1 ≤ s.length ∧ s.length ≤ 6) by omega)]
    rfl
def isNum (l : List Nat) : Bool := decide (1 ≤ l.length ∧ l.length ≤ 2) && allIn l "0123456789" && (decide (l = [48]) || !decide (l.head? = some 48))
theorem is_number_text_ok (s : Str) (h : s.length ≤ 1000) : m_is_number_text [.str s] = pure (.bl (isNum s.cps.toList)) := by
  show M.noexc (b_is_number_text (startE 1 [.str s]) >>= endOf) = _
  have e0 : startE 1 [.str s] = [some (.str s)] := rfl
  rw [e0]
  have hl := str_length s
  unfold isNum
  simp only [ap_var, ap_c, ap_bin, ap_chain, ap_bool, ap_tru, ap_neg, ap_an, ap_orr, ap_and, ap_or, ap_not, ap_if, ap_un, ap_nil, ap_cons, ap_tup, ap_lst, ap_lstH, ap_onone, ap_osome, ap_slice, ap_b, ap_jnil, ap_jcons, ap_joined, ap_m1, ap_ival, ap_range1, ap_range2, ap_gnam, ap_gsnil, ap_gscons, ap_gtp, ap_gsb, ap_lc, ap_lcH, ap_all, ap_app, ap_call, ap_callD, ap_snil, ap_scons, ap_ret, ap_retN, ap_expr, ap_sif, ap_asg, ap_set, ap_aug, ap_while, ap_for, ap_break, ap_cont, iadd_int, puto_some, slot_0, slot_s, pure_bb, bind_assoc', bad_bb, ite_bind', flow_nx, flow_rt, flow_bk, flow_ct, endOf_rt, endOf_nx, guard_t, guard_nn, wipe_1, bind_pure', opt_some, noexc_p, noexc_bind, noexc_ite, noexc_idem, noexc_guard, noexc_opt, noexc_bad, now_int, now_str, now_bl, now_non, now_tup, now_lst, now_frz, add_int, sub_int, lt_int', le_int', gt_int', ge_int', bool_bl, tru_bl, tru_int, toInt_int, toInt_bl, abs_int, max2_int, min2_int, len_lst, len_frz, len_tup, d1_one, d2_two, ref_hnd, part_int, text_str, gl0, gl1, gl2, gl3, gl4, gl5, gl6, gl7, gl8, gl9, gl10, gl11, gl12, gl13, gl14, gl15, gl16, gc0, gc1, gc2, gc3, gc4, gc5, gc6, gc7, gc8, List.cons_append, List.nil_append, Bool.not_true, Bool.not_false, List.set_cons_succ, List.set_cons_zero, if_true, if_false, Bool.false_eq_true, b_is_number_text, len_str s (str_len h)]
  by_cases c1 : (1 : Int) ≤ (s.length : Int)
  · by_cases c2 : (s.length : Int) ≤ 2
    · simp only [ap_var, ap_c, ap_bin, ap_chain, ap_bool, ap_tru, ap_neg, ap_an, ap_orr, ap_and, ap_or, ap_not, ap_if, ap_un, ap_nil, ap_cons, ap_tup, ap_lst, ap_lstH, ap_onone, ap_osome, ap_slice, ap_b, ap_jnil, ap_jcons, ap_joined, ap_m1, ap_ival, ap_range1, ap_range2, ap_gnam, ap_gsnil, ap_gscons, ap_gtp, ap_gsb, ap_lc, ap_lcH, ap_all, ap_app, ap_call, ap_callD, ap_snil, ap_scons, ap_ret, ap_retN, ap_expr, ap_sif, ap_asg, ap_set, ap_aug, ap_while, ap_for, ap_break, ap_cont, iadd_int, puto_some, slot_0, slot_s, pure_bb, bind_assoc', bad_bb, ite_bind', flow_nx, flow_rt, flow_bk, flow_ct, endOf_rt, endOf_nx, guard_t, guard_nn, wipe_1, bind_pure', opt_some, noexc_p, noexc_bind, noexc_ite, noexc_idem, noexc_guard, noexc_opt, noexc_bad, now_int, now_str, now_bl, now_non, now_tup, now_lst, now_frz, add_int, sub_int, lt_int', le_int', gt_int', ge_int', bool_bl, tru_bl, tru_int, toInt_int, toInt_bl, abs_int, max2_int, min2_int, len_lst, len_frz, len_tup, d1_one, d2_two, ref_hnd, part_int, text_str, gl0, gl1, gl2, gl3, gl4, gl5, gl6, gl7, gl8, gl9, gl10, gl11, gl12, gl13, gl14, gl15, gl16, gc0, gc1, gc2, gc3, gc4, gc5, gc6, gc7, gc8, List.cons_append, List.nil_append, Bool.not_true, Bool.not_false, List.set_cons_succ, List.set_cons_zero, if_true, if_false, Bool.false_eq_true, decide_eq_true c1, decide_eq_true c2, call2, are_signs_ok s _ h, Bool.not_true]
      rw [decide_eq_true (show 1 ≤ s.cps.toList.length ∧ s.cps.toList.length ≤ 2 by omega)]
      cases c3 : allIn s.cps.toList "0123456789" with
      | false =>
        simp only [ap_var, ap_c, ap_bin, ap_chain, ap_bool, ap_tru, ap_neg, ap_an, ap_orr, ap_and, ap_or, ap_not, ap_if, ap_un, ap_nil, ap_cons, ap_tup, ap_lst, ap_lstH, ap_onone, ap_osome, ap_slice, ap_b, ap_jnil, ap_jcons, ap_joined, ap_m1, ap_ival, ap_range1, ap_range2, ap_gnam, ap_gsnil, ap_gscons, ap_gtp, ap_gsb, ap_lc, ap_lcH, ap_all, ap_app, ap_call, ap_callD, ap_snil, ap_scons, ap_ret, ap_retN, ap_expr, ap_sif, ap_asg, ap_set, ap_aug, ap_while, ap_for, ap_break, ap_cont, iadd_int, puto_some, slot_0, slot_s, pure_bb, bind_assoc', bad_bb, ite_bind', flow_nx, flow_rt, flow_bk, flow_ct, endOf_rt, endOf_nx, guard_t, guard_nn, wipe_1, bind_pure', opt_some, noexc_p, noexc_bind, noexc_ite, noexc_idem, noexc_guard, noexc_opt, noexc_bad, now_int, now_str, now_bl, now_non, now_tup, now_lst, now_frz, add_int, sub_int, lt_int', le_int', gt_int', ge_int', bool_bl, tru_bl, tru_int, toInt_int, toInt_bl, abs_int, max2_int, min2_int, len_lst, len_frz, len_tup, d1_one, d2_two, ref_hnd, part_int, text_str, gl0, gl1, gl2, gl3, gl4, gl5, gl6, gl7, gl8, gl9, gl10, gl11, gl12, gl13, gl14, gl15, gl16, gc0, gc1, gc2, gc3, gc4, gc5, gc6, gc7, gc8, List.cons_append, List.nil_append, Bool.not_true, Bool.not_false, List.set_cons_succ, List.set_cons_zero, if_true, if_false, Bool.false_eq_true, c3, Bool.not_false]
        rfl
      | true =>
        simp only [ap_var, ap_c, ap_bin, ap_chain, ap_bool, ap_tru, ap_neg, ap_an, ap_orr, ap_and, ap_or, ap_not, ap_if, ap_un, ap_nil, ap_cons, ap_tup, ap_lst, ap_lstH, ap_onone, ap_osome, ap_slice, ap_b, ap_jnil, ap_jcons, ap_joined, ap_m1, ap_ival, ap_range1, ap_range2, ap_gnam, ap_gsnil, ap_gscons, ap_gtp, ap_gsb, ap_lc, ap_lcH, ap_all, ap_app, ap_call, ap_callD, ap_snil, ap_scons, ap_ret, ap_retN, ap_expr, ap_sif, ap_asg, ap_set, ap_aug, ap_while, ap_for, ap_break, ap_cont, iadd_int, puto_some, slot_0, slot_s, pure_bb, bind_assoc', bad_bb, ite_bind', flow_nx, flow_rt, flow_bk, flow_ct, endOf_rt, endOf_nx, guard_t, guard_nn, wipe_1, bind_pure', opt_some, noexc_p, noexc_bind, noexc_ite, noexc_idem, noexc_guard, noexc_opt, noexc_bad, now_int, now_str, now_bl, now_non, now_tup, now_lst, now_frz, add_int, sub_int, lt_int', le_int', gt_int', ge_int', bool_bl, tru_bl, tru_int, toInt_int, toInt_bl, abs_int, max2_int, min2_int, len_lst, len_frz, len_tup, d1_one, d2_two, ref_hnd, part_int, text_str, gl0, gl1, gl2, gl3, gl4, gl5, gl6, gl7, gl8, gl9, gl10, gl11, gl12, gl13, gl14, gl15, gl16, gc0, gc1, gc2, gc3, gc4, gc5, gc6, gc7, gc8, List.cons_append, List.nil_append, Bool.not_true, Bool.not_false, List.set_cons_succ, List.set_cons_zero, if_true, if_false, Bool.false_eq_true, c3, Bool.not_true]
        rw [eq_str, str_beq]
        simp only [ap_var, ap_c, ap_bin, ap_chain, ap_bool, ap_tru, ap_neg, ap_an, ap_orr, ap_and, ap_or, ap_not, ap_if, ap_un, ap_nil, ap_cons, ap_tup, ap_lst, ap_lstH, ap_onone, ap_osome, ap_slice, ap_b, ap_jnil, ap_jcons, ap_joined, ap_m1, ap_ival, ap_range1, ap_range2, ap_gnam, ap_gsnil, ap_gscons, ap_gtp, ap_gsb, ap_lc, ap_lcH, ap_all, ap_app, ap_call, ap_callD, ap_snil, ap_scons, ap_ret, ap_retN, ap_expr, ap_sif, ap_asg, ap_set, ap_aug, ap_while, ap_for, ap_break, ap_cont, iadd_int, puto_some, slot_0, slot_s, pure_bb, bind_assoc', bad_bb, ite_bind', flow_nx, flow_rt, flow_bk, flow_ct, endOf_rt, endOf_nx, guard_t, guard_nn, wipe_1, bind_pure', opt_some, noexc_p, noexc_bind, noexc_ite, noexc_idem, noexc_guard, noexc_opt, noexc_bad, now_int, now_str, now_bl, now_non, now_tup, now_lst, now_frz, add_int, sub_int, lt_int', le_int', gt_int', ge_int', bool_bl, tru_bl, tru_int, toInt_int, toInt_bl, abs_int, max2_int, min2_int, len_lst, len_frz, len_tup, d1_one, d2_two, ref_hnd, part_int, text_str, gl0, gl1, gl2, gl3, gl4, gl5, gl6, gl7, gl8, gl9, gl10, gl11, gl12, gl13, gl14, gl15, gl16, gc0, gc1, gc2, gc3, gc4, gc5, gc6, gc7, gc8, List.cons_append, List.nil_append, Bool.not_true, Bool.not_false, List.set_cons_succ, List.set_cons_zero, if_true, if_false, Bool.false_eq_true]
        have e1 : (("0" : Str)).cps.toList = [48] := by decide +kernel
        rw [e1]
        by_cases c4 : s.cps.toList = [48]
        · simp only [ap_var, ap_c, ap_bin, ap_chain, ap_bool, ap_tru, ap_neg, ap_an, ap_orr, ap_and, ap_or, ap_not, ap_if, ap_un, ap_nil, ap_cons, ap_tup, ap_lst, ap_lstH, ap_onone, ap_osome, ap_slice, ap_b, ap_jnil, ap_jcons, ap_joined, ap_m1, ap_ival, ap_range1, ap_range2, ap_gnam, ap_gsnil, ap_gscons, ap_gtp, ap_gsb, ap_lc, ap_lcH, ap_all, ap_app, ap_call, ap_callD, ap_snil, ap_scons, ap_ret, ap_retN, ap_expr, ap_sif, ap_asg, ap_set, ap_aug, ap_while, ap_for, ap_break, ap_cont, iadd_int, puto_some, slot_0, slot_s, pure_bb, bind_assoc', bad_bb, ite_bind', flow_nx, flow_rt, flow_bk, flow_ct, endOf_rt, endOf_nx, guard_t, guard_nn, wipe_1, bind_pure', opt_some, noexc_p, noexc_bind, noexc_ite, noexc_idem, noexc_guard, noexc_opt, noexc_bad, now_int, now_str, now_bl, now_non, now_tup, now_lst, now_frz, add_int, sub_int, lt_int', le_int', gt_int', ge_int', bool_bl, tru_bl, tru_int, toInt_int, toInt_bl, abs_int, max2_int, min2_int, len_lst, len_frz, len_tup, d1_one, d2_two, ref_hnd, part_int, text_str, gl0, gl1, gl2, gl3, gl4, gl5, gl6, gl7, gl8, gl9, gl10, gl11, gl12, gl13, gl14, gl15, gl16, gc0, gc1, gc2, gc3, gc4, gc5, gc6, gc7, gc8, List.cons_append, List.nil_append, Bool.not_true, Bool.not_false, List.set_cons_succ, List.set_cons_zero, if_true, if_false, Bool.false_eq_true, decide_eq_true c4]
          rfl
        · simp only [ap_var, ap_c, ap_bin, ap_chain, ap_bool, ap_tru, ap_neg, ap_an, ap_orr, ap_and, ap_or, ap_not, ap_if, ap_un, ap_nil, ap_cons, ap_tup, ap_lst, ap_lstH, ap_onone, ap_osome, ap_slice, ap_b, ap_jnil, ap_jcons, ap_joined, ap_m1, ap_ival, ap_range1, ap_range2, ap_gnam, ap_gsnil, ap_gscons, ap_gtp, ap_gsb, ap_lc, ap_lcH, ap_all, ap_app, ap_call, ap_callD, ap_snil, ap_scons, ap_ret, ap_retN, ap_expr, ap_sif, ap_asg, ap_set, ap_aug, ap_while, ap_for, ap_break, ap_cont, iadd_int, puto_some, slot_0, slot_s, pure_bb, bind_assoc', bad_bb, ite_bind', flow_nx, flow_rt, flow_bk, flow_ct, endOf_rt, endOf_nx, guard_t, guard_nn, wipe_1, bind_pure', opt_some, noexc_p, noexc_bind, noexc_ite, noexc_idem, noexc_guard, noexc_opt, noexc_bad, now_int, now_str, now_bl, now_non, now_tup, now_lst, now_frz, add_int, sub_int, lt_int', le_int', gt_int', ge_int', bool_bl, tru_bl, tru_int, toInt_int, toInt_bl, abs_int, max2_int, min2_int, len_lst, len_frz, len_tup, d1_one, d2_two, ref_hnd, part_int, text_str, gl0, gl1, gl2, gl3, gl4, gl5, gl6, gl7, gl8, gl9, gl10, gl11, gl12, gl13, gl14, gl15, gl16, gc0, gc1, gc2, gc3, gc4, gc5, gc6, gc7, gc8, List.cons_append, List.nil_append, Bool.not_true, Bool.not_false, List.set_cons_succ, List.set_cons_zero, if_true, if_false, Bool.false_eq_true, decide_eq_false c4]
          cases e2 : s.cps.toList with
          | nil => rw [e2] at hl; simp at hl; omega
          | cons c r =>
            rw [dx_str s 0 (str_len h), e2]
            have e3 : atI (c :: r) 0 = some c := atI_nat' (n := 0) rfl rfl
            rw [e3]
            simp only [ap_var, ap_c, ap_bin, ap_chain, ap_bool, ap_tru, ap_neg, ap_an, ap_orr, ap_and, ap_or, ap_not, ap_if, ap_un, ap_nil, ap_cons, ap_tup, ap_lst, ap_lstH, ap_onone, ap_osome, ap_slice, ap_b, ap_jnil, ap_jcons, ap_joined, ap_m1, ap_ival, ap_range1, ap_range2, ap_gnam, ap_gsnil, ap_gscons, ap_gtp, ap_gsb, ap_lc, ap_lcH, ap_all, ap_app, ap_call, ap_callD, ap_snil, ap_scons, ap_ret, ap_retN, ap_expr, ap_sif, ap_asg, ap_set, ap_aug, ap_while, ap_for, ap_break, ap_cont, iadd_int, puto_some, slot_0, slot_s, pure_bb, bind_assoc', bad_bb, ite_bind', flow_nx, flow_rt, flow_bk, flow_ct, endOf_rt, endOf_nx, guard_t, guard_nn, wipe_1, bind_pure', opt_some, noexc_p, noexc_bind, noexc_ite, noexc_idem, noexc_guard, noexc_opt, noexc_bad, now_int, now_str, now_bl, now_non, now_tup, now_lst, now_frz, add_int, sub_int, lt_int', le_int', gt_int', ge_int', bool_bl, tru_bl, tru_int, toInt_int, toInt_bl, abs_int, max2_int, min2_int, len_lst, len_frz, len_tup, d1_one, d2_two, ref_hnd, part_int, text_str, gl0, gl1, gl2, gl3, gl4, gl5, gl6, gl7, gl8, gl9, gl10, gl11, gl12, gl13, gl14, gl15, gl16, gc0, gc1, gc2, gc3, gc4, gc5, gc6, gc7, gc8, List.cons_append, List.nil_append, Bool.not_true, Bool.not_false, List.set_cons_succ, List.set_cons_zero, if_true, if_false, Bool.false_eq_true, Option.map_some]
            rw [ne_str, str_beq, e1]
            simp only [ap_var, ap_c, ap_bin, ap_chain, ap_bool, ap_tru, ap_neg, ap_an, ap_orr, ap_and, ap_or, ap_not, ap_if, ap_un, ap_nil, ap_cons, ap_tup, ap_lst, ap_lstH, ap_onone, ap_osome, ap_slice, ap_b, ap_jnil, ap_jcons, ap_joined, ap_m1, ap_ival, ap_range1, ap_range2, ap_gnam, ap_gsnil, ap_gscons, ap_gtp, ap_gsb, ap_lc, ap_lcH, ap_all, ap_app, ap_call, ap_callD, ap_snil, ap_scons, ap_ret, ap_retN, ap_expr, ap_sif, ap_asg, ap_set, ap_aug, ap_while, ap_for, ap_break, ap_cont, iadd_int, puto_some, slot_0, slot_s, pure_bb, bind_assoc', bad_bb, ite_bind', flow_nx, flow_rt, flow_bk, flow_ct, endOf_rt, endOf_nx, guard_t, guard_nn, wipe_1, bind_pure', opt_some, noexc_p, noexc_bind, noexc_ite, noexc_idem, noexc_guard, noexc_opt, noexc_bad, now_int, now_str, now_bl, now_non, now_tup, now_lst, now_frz, add_int, sub_int, lt_int', le_int', gt_int', ge_int', bool_bl, tru_bl, tru_int, toInt_int, toInt_bl, abs_int, max2_int, min2_int, len_lst, len_frz, len_tup, d1_one, d2_two, ref_hnd, part_int, text_str, gl0, gl1, gl2, gl3, gl4, gl5, gl6, gl7, gl8, gl9, gl10, gl11, gl12, gl13, gl14, gl15, gl16, gc0, gc1, gc2, gc3, gc4, gc5, gc6, gc7, gc8, List.cons_append, List.nil_append, Bool.not_true, Bool.not_false, List.set_cons_succ, List.set_cons_zero, if_true, if_false, Bool.false_eq_true]
            have e4 : decide ((⟨#[c]⟩ : Str).cps.toList = [48]) = decide ((c :: r).head? = some 48) := by
              rw [Bool.eq_iff_iff]
              simp
            rw [e4]
            rfl
    · simp only [ap_var, ap_c, ap_bin, ap_chain, ap_bool, ap_tru, ap_neg, ap_an, ap_orr, ap_and, ap_or, ap_not, ap_if, ap_un, ap_nil, ap_cons, ap_tup, ap_lst, ap_lstH, ap_onone, ap_osome, ap_slice, ap_b, ap_jnil, ap_jcons, ap_joined, ap_m1, ap_ival, ap_range1, ap_range2, ap_gnam, ap_gsnil, ap_gscons, ap_gtp, ap_gsb, ap_lc, ap_lcH, ap_all, ap_app, ap_call, ap_callD, ap_snil, ap_scons, ap_ret, ap_retN, ap_expr, ap_sif, ap_asg, ap_set, ap_aug, ap_while, ap_for, ap_break, ap_cont, iadd_int, puto_some, slot_0, slot_s, pure_bb, bind_assoc', bad_bb, ite_bind', flow_nx, flow_rt, flow_bk, flow_ct, endOf_rt, endOf_nx, guard_t, guard_nn, wipe_1, bind_pure', opt_some, noexc_p, noexc_bind, noexc_ite, noexc_idem, noexc_guard, noexc_opt, noexc_bad, now_int, now_str, now_bl, now_non, now_tup, now_lst, now_frz, add_int, sub_int, lt_int', le_int', gt_int', ge_int', bool_bl, tru_bl, tru_int, toInt_int, toInt_bl, abs_int, max2_int, min2_int, len_lst, len_frz, len_tup, d1_one, d2_two, ref_hnd, part_int, text_str, gl0, gl1, gl2, gl3, gl4, gl5, gl6, gl7, gl8, gl9, gl10, gl11, gl12, gl13, gl14, gl15, gl16, gc0, gc1, gc2, gc3, gc4, gc5, gc6, gc7, gc8, List.cons_append, List.nil_append, Bool.not_true, Bool.not_false, List.set_cons_succ, List.set_cons_zero, if_true, if_false, Bool.false_eq_true, decide_eq_true c1, decide_eq_false c2, Bool.not_false]
      rw [decide_eq_false (show ¬ (1 ≤ s.cps.toList.length ∧ s.cps.toList.length ≤ 2) by omega)]
      rfl
  · simp only [ap_var, ap_c, ap_bin, ap_chain, ap_bool, ap_tru, ap_neg, ap_an, ap_orr, ap_and, ap_or, ap_not, ap_if, ap_un, ap_nil, ap_cons, ap_tup, ap_lst, ap_lstH, ap_onone, ap_osome, ap_slice, ap_b, ap_jnil, ap_jcons, ap_joined, ap_m1, ap_ival, ap_range1, ap_range2, ap_gnam, ap_gsnil, ap_gscons, ap_gtp, ap_gsb, ap_lc, ap_lcH, ap_all, ap_app, ap_call, ap_callD, ap_snil, ap_scons, ap_ret, ap_retN, ap_expr, ap_sif, ap_asg, ap_set, ap_aug, ap_while, ap_for, ap_break, ap_cont, iadd_int, puto_some, slot_0, slot_s, pure_bb, bind_assoc', bad_bb, ite_bind', flow_nx, flow_rt, flow_bk, flow_ct, endOf_rt, endOf_nx, guard_t, guard_nn, wipe_1, bind_pure', opt_some, noexc_p, noexc_bind, noexc_ite, noexc_idem, noexc_guard, noexc_opt, noexc_bad, now_int, now_str, now_bl, now_non, now_tup, now_lst, now_frz, add_int, sub_int, lt_int', le_int', gt_int', ge_int', bool_bl, tru_bl, tru_int, toInt_int, toInt_bl, abs_int, max2_int, min2_int, len_lst, len_frz, len_tup, d1_one, d2_two, ref_hnd, part_int, text_str, gl0, gl1, gl2, gl3, gl4, gl5, gl6, gl7, gl8, gl9, gl10, gl11, gl12, gl13, gl14, gl15, gl16, gc0, gc1, gc2, gc3, gc4, gc5, gc6, gc7, gc8, List.cons_append, List.nil_append, Bool.not_true, Bool.not_false, List.set_cons_succ, List.set_cons_zero, if_true, if_false, Bool.false_eq_true, decide_eq_false c1, Bool.not_false]
    rw [decide_eq_false (show ¬ (1 ≤ s.cps.toList.length ∧ s.cps.toList.length ≤ 2) by omega)]
    rfl
end LW
set_option maxRecDepth 100000
set_option maxHeartbeats 4000000
namespace LW
open PySem L2 Mir
theorem f_is : ("f" : Str) = ⟨#[102]⟩ := by decide +kernel
theorem starts_one (s : Str) (c : Nat) : Txt.startswith s ⟨#[c]⟩ = decide (s.cps.toList.head? = some c) := by
  obtain ⟨⟨l⟩⟩ := s
  cases l with
  | nil => rfl
  | cons d r =>
    unfold Txt.startswith Builtin.Str.subAt
    have e1 : (0 + (⟨#[c]⟩ : Str).length ≤ (⟨(d :: r).toArray⟩ : Str).length) := by
      show 0 + 1 ≤ (d :: r).toArray.size
      simp
    rw [decide_eq_true e1, Bool.true_and, Bool.eq_iff_iff]
    have e2 : ((⟨(d :: r).toArray⟩ : Str).cps.extract 0 (0 + (⟨#[c]⟩ : Str).length)) = #[d] := by
      show (d :: r).toArray.extract 0 1 = #[d]
      simp
    rw [e2]
    simp
theorem cut1 (s : Str) : (cutS s (some 1) none).cps.toList = s.cps.toList.drop 1 := by
  unfold cutS
  have hl := str_length s
  rw [str_mk_toList]
  show (s.cps.toList.drop (HT.sIx s.length 0 (some ((1 : Nat) : Int)))).take (HT.sIx s.length s.length none - _) = _
  rw [HT.sIx_nat, HT.sIx_none]
  cases e : s.cps.toList with
  | nil => simp
  | cons c r =>
    rw [e] at hl
    have : min 1 s.length = 1 := by simp at hl; omega
    rw [this, List.take_of_length_le]
    rw [List.length_drop, hl]
    exact Nat.le_refl _
theorem cut1_len (s : Str) : (cutS s (some 1) none).length ≤ s.length := by
  rw [str_length, cut1, List.length_drop, ← str_length]
  omega
abbrev LET : Str := "abcdefghijklmnopqrstuvwxyz"
def isNam (l : List Nat) : Bool := (decide (1 ≤ l.length ∧ l.length ≤ 6) && allIn l LET) || (decide (l.head? = some 102) && isNum (l.drop 1))
theorem is_name_ok (s : Str) (h : s.length ≤ 1000) : m_is_name [.str s] = pure (.bl (isNam s.cps.toList)) := by
  show M.noexc (b_is_name (startE 1 [.str s]) >>= endOf) = _
  have e0 : startE 1 [.str s] = [some (.str s)] := rfl
  rw [e0]
  have hl := str_length s
  unfold isNam
  simp only [ap_var, ap_c, ap_bin, ap_chain, ap_bool, ap_tru, ap_neg, ap_an, ap_orr, ap_and, ap_or, ap_not, ap_if, ap_un, ap_nil, ap_cons, ap_tup, ap_lst, ap_lstH, ap_onone, ap_osome, ap_slice, ap_b, ap_jnil, ap_jcons, ap_joined, ap_m1, ap_ival, ap_range1, ap_range2, ap_gnam, ap_gsnil, ap_gscons, ap_gtp, ap_gsb, ap_lc, ap_lcH, ap_all, ap_app, ap_call, ap_callD, ap_snil, ap_scons, ap_ret, ap_retN, ap_expr, ap_sif, ap_asg, ap_set, ap_aug, ap_while, ap_for, ap_break, ap_cont, iadd_int, puto_some, slot_0, slot_s, pure_bb, bind_assoc', bad_bb, ite_bind', flow_nx, flow_rt, flow_bk, flow_ct, endOf_rt, endOf_nx, guard_t, guard_nn, wipe_1, bind_pure', opt_some, noexc_p, noexc_bind, noexc_ite, noexc_idem, noexc_guard, noexc_opt, noexc_bad, now_int, now_str, now_bl, now_non, now_tup, now_lst, now_frz, add_int, sub_int, lt_int', le_int', gt_int', ge_int', bool_bl, tru_bl, tru_int, toInt_int, toInt_bl, abs_int, max2_int, min2_int, len_lst, len_frz, len_tup, d1_one, d2_two, ref_hnd, part_int, text_str, gl0, gl1, gl2, gl3, gl4, gl5, gl6, gl7, gl8, gl9, gl10, gl11, gl12, gl13, gl14, gl15, gl16, gc0, gc1, gc2, gc3, gc4, gc5, gc6, gc7, gc8, List.cons_append, List.nil_append, Bool.not_true, Bool.not_false, List.set_cons_succ, List.set_cons_zero, if_true, if_false, Bool.false_eq_true, b_is_name, isT_of "str" (.str s) "str" true rfl rfl (by decide +kernel), Bool.not_true, List.cons_append, List.nil_append, call2, are_letters_ok s h]
  rw [← hl]
  cases c1 : (decide (1 ≤ s.length ∧ s.length ≤ 6) && allIn s.cps.toList "abcdefghijklmnopqrstuvwxyz") with
  | true =>
    simp only [ap_var, ap_c, ap_bin, ap_chain, ap_bool, ap_tru, ap_neg, ap_an, ap_orr, ap_and, ap_or, ap_not, ap_if, ap_un, ap_nil, ap_cons, ap_tup, ap_lst, ap_lstH, ap_onone, ap_osome, ap_slice, ap_b, ap_jnil, ap_jcons, ap_joined, ap_m1, ap_ival, ap_range1, ap_range2, ap_gnam, ap_gsnil, ap_gscons, ap_gtp, ap_gsb, ap_lc, ap_lcH, ap_all, ap_app, ap_call, ap_callD, ap_snil, ap_scons, ap_ret, ap_retN, ap_expr, ap_sif, ap_asg, ap_set, ap_aug, ap_while, ap_for, ap_break, ap_cont, iadd_int, puto_some, slot_0, slot_s, pure_bb, bind_assoc', bad_bb, ite_bind', flow_nx, flow_rt, flow_bk, flow_ct, endOf_rt, endOf_nx, guard_t, guard_nn, wipe_1, bind_pure', opt_some, noexc_p, noexc_bind, noexc_ite, noexc_idem, noexc_guard, noexc_opt, noexc_bad, now_int, now_str, now_bl, now_non, now_tup, now_lst, now_frz, add_int, sub_int, lt_int', le_int', gt_int', ge_int', bool_bl, tru_bl, tru_int, toInt_int, toInt_bl, abs_int, max2_int, min2_int, len_lst, len_frz, len_tup, d1_one, d2_two, ref_hnd, part_int, text_str, gl0, gl1, gl2, gl3, gl4, gl5, gl6, gl7, gl8, gl9, gl10, gl11, gl12, gl13, gl14, gl15, gl16, gc0, gc1, gc2, gc3, gc4, gc5, gc6, gc7, gc8, List.cons_append, List.nil_append, Bool.not_true, Bool.not_false, List.set_cons_succ, List.set_cons_zero, if_true, if_false, Bool.false_eq_true, c1]
    rfl
  | false =>
    simp only [ap_var, ap_c, ap_bin, ap_chain, ap_bool, ap_tru, ap_neg, ap_an, ap_orr, ap_and, ap_or, ap_not, ap_if, ap_un, ap_nil, ap_cons, ap_tup, ap_lst, ap_lstH, ap_onone, ap_osome, ap_slice, ap_b, ap_jnil, ap_jcons, ap_joined, ap_m1, ap_ival, ap_range1, ap_range2, ap_gnam, ap_gsnil, ap_gscons, ap_gtp, ap_gsb, ap_lc, ap_lcH, ap_all, ap_app, ap_call, ap_callD, ap_snil, ap_scons, ap_ret, ap_retN, ap_expr, ap_sif, ap_asg, ap_set, ap_aug, ap_while, ap_for, ap_break, ap_cont, iadd_int, puto_some, slot_0, slot_s, pure_bb, bind_assoc', bad_bb, ite_bind', flow_nx, flow_rt, flow_bk, flow_ct, endOf_rt, endOf_nx, guard_t, guard_nn, wipe_1, bind_pure', opt_some, noexc_p, noexc_bind, noexc_ite, noexc_idem, noexc_guard, noexc_opt, noexc_bad, now_int, now_str, now_bl, now_non, now_tup, now_lst, now_frz, add_int, sub_int, lt_int', le_int', gt_int', ge_int', bool_bl, tru_bl, tru_int, toInt_int, toInt_bl, abs_int, max2_int, min2_int, len_lst, len_frz, len_tup, d1_one, d2_two, ref_hnd, part_int, text_str, gl0, gl1, gl2, gl3, gl4, gl5, gl6, gl7, gl8, gl9, gl10, gl11, gl12, gl13, gl14, gl15, gl16, gc0, gc1, gc2, gc3, gc4, gc5, gc6, gc7, gc8, List.cons_append, List.nil_append, Bool.not_true, Bool.not_false, List.set_cons_succ, List.set_cons_zero, if_true, if_false, Bool.false_eq_true, c1, starts_str, f_is, starts_one]
    cases c2 : decide (s.cps.toList.head? = some 102) with
    | false =>
      simp only [ap_var, ap_c, ap_bin, ap_chain, ap_bool, ap_tru, ap_neg, ap_an, ap_orr, ap_and, ap_or, ap_not, ap_if, ap_un, ap_nil, ap_cons, ap_tup, ap_lst, ap_lstH, ap_onone, ap_osome, ap_slice, ap_b, ap_jnil, ap_jcons, ap_joined, ap_m1, ap_ival, ap_range1, ap_range2, ap_gnam, ap_gsnil, ap_gscons, ap_gtp, ap_gsb, ap_lc, ap_lcH, ap_all, ap_app, ap_call, ap_callD, ap_snil, ap_scons, ap_ret, ap_retN, ap_expr, ap_sif, ap_asg, ap_set, ap_aug, ap_while, ap_for, ap_break, ap_cont, iadd_int, puto_some, slot_0, slot_s, pure_bb, bind_assoc', bad_bb, ite_bind', flow_nx, flow_rt, flow_bk, flow_ct, endOf_rt, endOf_nx, guard_t, guard_nn, wipe_1, bind_pure', opt_some, noexc_p, noexc_bind, noexc_ite, noexc_idem, noexc_guard, noexc_opt, noexc_bad, now_int, now_str, now_bl, now_non, now_tup, now_lst, now_frz, add_int, sub_int, lt_int', le_int', gt_int', ge_int', bool_bl, tru_bl, tru_int, toInt_int, toInt_bl, abs_int, max2_int, min2_int, len_lst, len_frz, len_tup, d1_one, d2_two, ref_hnd, part_int, text_str, gl0, gl1, gl2, gl3, gl4, gl5, gl6, gl7, gl8, gl9, gl10, gl11, gl12, gl13, gl14, gl15, gl16, gc0, gc1, gc2, gc3, gc4, gc5, gc6, gc7, gc8, List.cons_append, List.nil_append, Bool.not_true, Bool.not_false, List.set_cons_succ, List.set_cons_zero, if_true, if_false, Bool.false_eq_true, c2]
      rfl
    | true =>
      simp only [ap_var, ap_c, ap_bin, ap_chain, ap_bool, ap_tru, ap_neg, ap_an, ap_orr, ap_and, ap_or, ap_not, ap_if, ap_un, ap_nil, ap_cons, ap_tup, ap_lst, ap_lstH, ap_onone, ap_osome, ap_slice, ap_b, ap_jnil, ap_jcons, ap_joined, ap_m1, ap_ival, ap_range1, ap_range2, ap_gnam, ap_gsnil, ap_gscons, ap_gtp, ap_gsb, ap_lc, ap_lcH, ap_all, ap_app, ap_call, ap_callD, ap_snil, ap_scons, ap_ret, ap_retN, ap_expr, ap_sif, ap_asg, ap_set, ap_aug, ap_while, ap_for, ap_break, ap_cont, iadd_int, puto_some, slot_0, slot_s, pure_bb, bind_assoc', bad_bb, ite_bind', flow_nx, flow_rt, flow_bk, flow_ct, endOf_rt, endOf_nx, guard_t, guard_nn, wipe_1, bind_pure', opt_some, noexc_p, noexc_bind, noexc_ite, noexc_idem, noexc_guard, noexc_opt, noexc_bad, now_int, now_str, now_bl, now_non, now_tup, now_lst, now_frz, add_int, sub_int, lt_int', le_int', gt_int', ge_int', bool_bl, tru_bl, tru_int, toInt_int, toInt_bl, abs_int, max2_int, min2_int, len_lst, len_frz, len_tup, d1_one, d2_two, ref_hnd, part_int, text_str, gl0, gl1, gl2, gl3, gl4, gl5, gl6, gl7, gl8, gl9, gl10, gl11, gl12, gl13, gl14, gl15, gl16, gc0, gc1, gc2, gc3, gc4, gc5, gc6, gc7, gc8, List.cons_append, List.nil_append, Bool.not_true, Bool.not_false, List.set_cons_succ, List.set_cons_zero, if_true, if_false, Bool.false_eq_true, c2]
      rw [slice_str s _ _ (str_len h)]
      simp only [ap_var, ap_c, ap_bin, ap_chain, ap_bool, ap_tru, ap_neg, ap_an, ap_orr, ap_and, ap_or, ap_not, ap_if, ap_un, ap_nil, ap_cons, ap_tup, ap_lst, ap_lstH, ap_onone, ap_osome, ap_slice, ap_b, ap_jnil, ap_jcons, ap_joined, ap_m1, ap_ival, ap_range1, ap_range2, ap_gnam, ap_gsnil, ap_gscons, ap_gtp, ap_gsb, ap_lc, ap_lcH, ap_all, ap_app, ap_call, ap_callD, ap_snil, ap_scons, ap_ret, ap_retN, ap_expr, ap_sif, ap_asg, ap_set, ap_aug, ap_while, ap_for, ap_break, ap_cont, iadd_int, puto_some, slot_0, slot_s, pure_bb, bind_assoc', bad_bb, ite_bind', flow_nx, flow_rt, flow_bk, flow_ct, endOf_rt, endOf_nx, guard_t, guard_nn, wipe_1, bind_pure', opt_some, noexc_p, noexc_bind, noexc_ite, noexc_idem, noexc_guard, noexc_opt, noexc_bad, now_int, now_str, now_bl, now_non, now_tup, now_lst, now_frz, add_int, sub_int, lt_int', le_int', gt_int', ge_int', bool_bl, tru_bl, tru_int, toInt_int, toInt_bl, abs_int, max2_int, min2_int, len_lst, len_frz, len_tup, d1_one, d2_two, ref_hnd, part_int, text_str, gl0, gl1, gl2, gl3, gl4, gl5, gl6, gl7, gl8, gl9, gl10, gl11, gl12, gl13, gl14, gl15, gl16, gc0, gc1, gc2, gc3, gc4, gc5, gc6, gc7, gc8, List.cons_append, List.nil_append, Bool.not_true, Bool.not_false, List.set_cons_succ, List.set_cons_zero, if_true, if_false, Bool.false_eq_true, call1]
      rw [is_number_text_ok _ (Nat.le_trans (cut1_len s) h), cut1]
      simp only [ap_var, ap_c, ap_bin, ap_chain, ap_bool, ap_tru, ap_neg, ap_an, ap_orr, ap_and, ap_or, ap_not, ap_if, ap_un, ap_nil, ap_cons, ap_tup, ap_lst, ap_lstH, ap_onone, ap_osome, ap_slice, ap_b, ap_jnil, ap_jcons, ap_joined, ap_m1, ap_ival, ap_range1, ap_range2, ap_gnam, ap_gsnil, ap_gscons, ap_gtp, ap_gsb, ap_lc, ap_lcH, ap_all, ap_app, ap_call, ap_callD, ap_snil, ap_scons, ap_ret, ap_retN, ap_expr, ap_sif, ap_asg, ap_set, ap_aug, ap_while, ap_for, ap_break, ap_cont, iadd_int, puto_some, slot_0, slot_s, pure_bb, bind_assoc', bad_bb, ite_bind', flow_nx, flow_rt, flow_bk, flow_ct, endOf_rt, endOf_nx, guard_t, guard_nn, wipe_1, bind_pure', opt_some, noexc_p, noexc_bind, noexc_ite, noexc_idem, noexc_guard, noexc_opt, noexc_bad, now_int, now_str, now_bl, now_non, now_tup, now_lst, now_frz, add_int, sub_int, lt_int', le_int', gt_int', ge_int', bool_bl, tru_bl, tru_int, toInt_int, toInt_bl, abs_int, max2_int, min2_int, len_lst, len_frz, len_tup, d1_one, d2_two, ref_hnd, part_int, text_str, gl0, gl1, gl2, gl3, gl4, gl5, gl6, gl7, gl8, gl9, gl10, gl11, gl12, gl13, gl14, gl15, gl16, gc0, gc1, gc2, gc3, gc4, gc5, gc6, gc7, gc8, List.cons_append, List.nil_append, Bool.not_true, Bool.not_false, List.set_cons_succ, List.set_cons_zero, if_true, if_false, Bool.false_eq_true]
      rfl
theorem is_name_other (d : D) (t : String) (h0 : d.now = pure d) (h1 : d.kind = some t) (h2 : kitB t "str" = some false) : m_is_name [d] = pure (.bl false) := by
  show M.noexc (b_is_name (startE 1 [d]) >>= endOf) = _
  have e0 : startE 1 [d] = [some d] := rfl
  rw [e0]
  simp only [ap_var, ap_c, ap_bin, ap_chain, ap_bool, ap_tru, ap_neg, ap_an, ap_orr, ap_and, ap_or, ap_not, ap_if, ap_un, ap_nil, ap_cons, ap_tup, ap_lst, ap_lstH, ap_onone, ap_osome, ap_slice, ap_b, ap_jnil, ap_jcons, ap_joined, ap_m1, ap_ival, ap_range1, ap_range2, ap_gnam, ap_gsnil, ap_gscons, ap_gtp, ap_gsb, ap_lc, ap_lcH, ap_all, ap_app, ap_call, ap_callD, ap_snil, ap_scons, ap_ret, ap_retN, ap_expr, ap_sif, ap_asg, ap_set, ap_aug, ap_while, ap_for, ap_break, ap_cont, iadd_int, puto_some, slot_0, slot_s, pure_bb, bind_assoc', bad_bb, ite_bind', flow_nx, flow_rt, flow_bk, flow_ct, endOf_rt, endOf_nx, guard_t, guard_nn, wipe_1, bind_pure', opt_some, noexc_p, noexc_bind, noexc_ite, noexc_idem, noexc_guard, noexc_opt, noexc_bad, now_int, now_str, now_bl, now_non, now_tup, now_lst, now_frz, add_int, sub_int, lt_int', le_int', gt_int', ge_int', bool_bl, tru_bl, tru_int, toInt_int, toInt_bl, abs_int, max2_int, min2_int, len_lst, len_frz, len_tup, d1_one, d2_two, ref_hnd, part_int, text_str, gl0, gl1, gl2, gl3, gl4, gl5, gl6, gl7, gl8, gl9, gl10, gl11, gl12, gl13, gl14, gl15, gl16, gc0, gc1, gc2, gc3, gc4, gc5, gc6, gc7, gc8, List.cons_append, List.nil_append, Bool.not_true, Bool.not_false, List.set_cons_succ, List.set_cons_zero, if_true, if_false, Bool.false_eq_true, b_is_name, isT_of "str" d t false h0 h1 h2, Bool.not_false]
def numTexts : List Str := (List.range 100).map fun (i : Nat) => toString ((0 : Int) + (i : Int))
def isNam2 (l : List Nat) : Bool := if l = [] then false else if allIn l LET = true then decide (l.length < 7) else decide (l.head? = some 102) && (numTexts.any fun y => decide (y.cps.toList = l.drop 1))
theorem log_small {i : Int} (h : 0 ≤ i) (h2 : i < 2 ^ 200) : i.natAbs.log2 < 1920 := by
  by_cases c : i.natAbs = 0
  · rw [c]; decide
  · rw [Nat.log2_lt c]
    have : i.natAbs < 2 ^ 200 := by omega
    exact Nat.lt_of_lt_of_le this (Nat.pow_le_pow_right (by decide) (by decide))
theorem any_flat (x : Str) (ts : List Str) : D.isIn (.str x) (.lst (ts.map D.str)) = pure (.bl (ts.any fun y => y == x)) := by
  have hf : (ts.map D.str).all D.flat = true := by simp [D.flat]
  have e1 : ((D.str x).flat && (ts.map D.str).all D.flat) = true := by rw [hf]; rfl
  show (if ((D.str x).flat && (ts.map D.str).all D.flat) = true then D.inSeq false (.str x) (ts.map D.str) else D.inDeep false (.str x) (ts.map D.str)) = _
  rw [if_pos e1]
  unfold D.inSeq
  rw [e1, guard_t, pure_bb, if_neg (by decide), List.any_map]
  rfl
theorem l_is_name_ok (s : Str) (h : s.length ≤ 1000) : m_l_is_name [.str s] = pure (.bl (isNam2 s.cps.toList)) := by
  show M.noexc (b_l_is_name (startE 3 [.str s]) >>= endOf) = _
  have e0 : startE 3 [.str s] = [some (.str s), none, none] := rfl
  rw [e0]
  have hl := str_length s
  have em : (("" : Str)).cps.toList = [] := by decide +kernel
  unfold isNam2
  simp only [ap_var, ap_c, ap_bin, ap_chain, ap_bool, ap_tru, ap_neg, ap_an, ap_orr, ap_and, ap_or, ap_not, ap_if, ap_un, ap_nil, ap_cons, ap_tup, ap_lst, ap_lstH, ap_onone, ap_osome, ap_slice, ap_b, ap_jnil, ap_jcons, ap_joined, ap_m1, ap_ival, ap_range1, ap_range2, ap_gnam, ap_gsnil, ap_gscons, ap_gtp, ap_gsb, ap_lc, ap_lcH, ap_all, ap_app, ap_call, ap_callD, ap_snil, ap_scons, ap_ret, ap_retN, ap_expr, ap_sif, ap_asg, ap_set, ap_aug, ap_while, ap_for, ap_break, ap_cont, iadd_int, puto_some, slot_0, slot_s, pure_bb, bind_assoc', bad_bb, ite_bind', flow_nx, flow_rt, flow_bk, flow_ct, endOf_rt, endOf_nx, guard_t, guard_nn, wipe_1, bind_pure', opt_some, noexc_p, noexc_bind, noexc_ite, noexc_idem, noexc_guard, noexc_opt, noexc_bad, now_int, now_str, now_bl, now_non, now_tup, now_lst, now_frz, add_int, sub_int, lt_int', le_int', gt_int', ge_int', bool_bl, tru_bl, tru_int, toInt_int, toInt_bl, abs_int, max2_int, min2_int, len_lst, len_frz, len_tup, d1_one, d2_two, ref_hnd, part_int, text_str, gl0, gl1, gl2, gl3, gl4, gl5, gl6, gl7, gl8, gl9, gl10, gl11, gl12, gl13, gl14, gl15, gl16, gc0, gc1, gc2, gc3, gc4, gc5, gc6, gc7, gc8, List.cons_append, List.nil_append, Bool.not_true, Bool.not_false, List.set_cons_succ, List.set_cons_zero, if_true, if_false, Bool.false_eq_true, b_l_is_name, isT_of "str" (.str s) "str" true rfl rfl (by decide +kernel), Bool.not_true, eq_str, str_beq, em]
  by_cases c1 : s.cps.toList = []
  · simp only [ap_var, ap_c, ap_bin, ap_chain, ap_bool, ap_tru, ap_neg, ap_an, ap_orr, ap_and, ap_or, ap_not, ap_if, ap_un, ap_nil, ap_cons, ap_tup, ap_lst, ap_lstH, ap_onone, ap_osome, ap_slice, ap_b, ap_jnil, ap_jcons, ap_joined, ap_m1, ap_ival, ap_range1, ap_range2, ap_gnam, ap_gsnil, ap_gscons, ap_gtp, ap_gsb, ap_lc, ap_lcH, ap_all, ap_app, ap_call, ap_callD, ap_snil, ap_scons, ap_ret, ap_retN, ap_expr, ap_sif, ap_asg, ap_set, ap_aug, ap_while, ap_for, ap_break, ap_cont, iadd_int, puto_some, slot_0, slot_s, pure_bb, bind_assoc', bad_bb, ite_bind', flow_nx, flow_rt, flow_bk, flow_ct, endOf_rt, endOf_nx, guard_t, guard_nn, wipe_1, bind_pure', opt_some, noexc_p, noexc_bind, noexc_ite, noexc_idem, noexc_guard, noexc_opt, noexc_bad, now_int, now_str, now_bl, now_non, now_tup, now_lst, now_frz, add_int, sub_int, lt_int', le_int', gt_int', ge_int', bool_bl, tru_bl, tru_int, toInt_int, toInt_bl, abs_int, max2_int, min2_int, len_lst, len_frz, len_tup, d1_one, d2_two, ref_hnd, part_int, text_str, gl0, gl1, gl2, gl3, gl4, gl5, gl6, gl7, gl8, gl9, gl10, gl11, gl12, gl13, gl14, gl15, gl16, gc0, gc1, gc2, gc3, gc4, gc5, gc6, gc7, gc8, List.cons_append, List.nil_append, Bool.not_true, Bool.not_false, List.set_cons_succ, List.set_cons_zero, if_true, if_false, Bool.false_eq_true, decide_eq_true c1, if_pos c1]
  · simp only [ap_var, ap_c, ap_bin, ap_chain, ap_bool, ap_tru, ap_neg, ap_an, ap_orr, ap_and, ap_or, ap_not, ap_if, ap_un, ap_nil, ap_cons, ap_tup, ap_lst, ap_lstH, ap_onone, ap_osome, ap_slice, ap_b, ap_jnil, ap_jcons, ap_joined, ap_m1, ap_ival, ap_range1, ap_range2, ap_gnam, ap_gsnil, ap_gscons, ap_gtp, ap_gsb, ap_lc, ap_lcH, ap_all, ap_app, ap_call, ap_callD, ap_snil, ap_scons, ap_ret, ap_retN, ap_expr, ap_sif, ap_asg, ap_set, ap_aug, ap_while, ap_for, ap_break, ap_cont, iadd_int, puto_some, slot_0, slot_s, pure_bb, bind_assoc', bad_bb, ite_bind', flow_nx, flow_rt, flow_bk, flow_ct, endOf_rt, endOf_nx, guard_t, guard_nn, wipe_1, bind_pure', opt_some, noexc_p, noexc_bind, noexc_ite, noexc_idem, noexc_guard, noexc_opt, noexc_bad, now_int, now_str, now_bl, now_non, now_tup, now_lst, now_frz, add_int, sub_int, lt_int', le_int', gt_int', ge_int', bool_bl, tru_bl, tru_int, toInt_int, toInt_bl, abs_int, max2_int, min2_int, len_lst, len_frz, len_tup, d1_one, d2_two, ref_hnd, part_int, text_str, gl0, gl1, gl2, gl3, gl4, gl5, gl6, gl7, gl8, gl9, gl10, gl11, gl12, gl13, gl14, gl15, gl16, gc0, gc1, gc2, gc3, gc4, gc5, gc6, gc7, gc8, List.cons_append, List.nil_append, Bool.not_true, Bool.not_false, List.set_cons_succ, List.set_cons_zero, if_true, if_false, Bool.false_eq_true, decide_eq_false c1, if_neg c1]
    rw [lcAll_map (ds := signs s) (fun d => .bl (decide (codeOf d ∈ LET.cps.toList))) (by simp only [ap_var, ap_c, ap_bin, ap_chain, ap_bool, ap_tru, ap_neg, ap_an, ap_orr, ap_and, ap_or, ap_not, ap_if, ap_un, ap_nil, ap_cons, ap_tup, ap_lst, ap_lstH, ap_onone, ap_osome, ap_slice, ap_b, ap_jnil, ap_jcons, ap_joined, ap_m1, ap_ival, ap_range1, ap_range2, ap_gnam, ap_gsnil, ap_gscons, ap_gtp, ap_gsb, ap_lc, ap_lcH, ap_all, ap_app, ap_call, ap_callD, ap_snil, ap_scons, ap_ret, ap_retN, ap_expr, ap_sif, ap_asg, ap_set, ap_aug, ap_while, ap_for, ap_break, ap_cont, iadd_int, puto_some, slot_0, slot_s, pure_bb, bind_assoc', bad_bb, ite_bind', flow_nx, flow_rt, flow_bk, flow_ct, endOf_rt, endOf_nx, guard_t, guard_nn, wipe_1, bind_pure', opt_some, noexc_p, noexc_bind, noexc_ite, noexc_idem, noexc_guard, noexc_opt, noexc_bad, now_int, now_str, now_bl, now_non, now_tup, now_lst, now_frz, add_int, sub_int, lt_int', le_int', gt_int', ge_int', bool_bl, tru_bl, tru_int, toInt_int, toInt_bl, abs_int, max2_int, min2_int, len_lst, len_frz, len_tup, d1_one, d2_two, ref_hnd, part_int, text_str, gl0, gl1, gl2, gl3, gl4, gl5, gl6, gl7, gl8, gl9, gl10, gl11, gl12, gl13, gl14, gl15, gl16, gc0, gc1, gc2, gc3, gc4, gc5, gc6, gc7, gc8, List.cons_append, List.nil_append, Bool.not_true, Bool.not_false, List.set_cons_succ, List.set_cons_zero, if_true, if_false, Bool.false_eq_true]; exact iter_str s) (fun d hd => ?_) (by rw [signs_len]; omega)]
    · have e1 : (signs s).map (fun d => D.bl (decide (codeOf d ∈ LET.cps.toList))) = s.cps.toList.map (fun c => D.bl (decide (c ∈ LET.cps.toList))) := by
        unfold signs
        rw [List.map_map]
        rfl
      rw [e1]
      simp only [ap_var, ap_c, ap_bin, ap_chain, ap_bool, ap_tru, ap_neg, ap_an, ap_orr, ap_and, ap_or, ap_not, ap_if, ap_un, ap_nil, ap_cons, ap_tup, ap_lst, ap_lstH, ap_onone, ap_osome, ap_slice, ap_b, ap_jnil, ap_jcons, ap_joined, ap_m1, ap_ival, ap_range1, ap_range2, ap_gnam, ap_gsnil, ap_gscons, ap_gtp, ap_gsb, ap_lc, ap_lcH, ap_all, ap_app, ap_call, ap_callD, ap_snil, ap_scons, ap_ret, ap_retN, ap_expr, ap_sif, ap_asg, ap_set, ap_aug, ap_while, ap_for, ap_break, ap_cont, iadd_int, puto_some, slot_0, slot_s, pure_bb, bind_assoc', bad_bb, ite_bind', flow_nx, flow_rt, flow_bk, flow_ct, endOf_rt, endOf_nx, guard_t, guard_nn, wipe_1, bind_pure', opt_some, noexc_p, noexc_bind, noexc_ite, noexc_idem, noexc_guard, noexc_opt, noexc_bad, now_int, now_str, now_bl, now_non, now_tup, now_lst, now_frz, add_int, sub_int, lt_int', le_int', gt_int', ge_int', bool_bl, tru_bl, tru_int, toInt_int, toInt_bl, abs_int, max2_int, min2_int, len_lst, len_frz, len_tup, d1_one, d2_two, ref_hnd, part_int, text_str, gl0, gl1, gl2, gl3, gl4, gl5, gl6, gl7, gl8, gl9, gl10, gl11, gl12, gl13, gl14, gl15, gl16, gc0, gc1, gc2, gc3, gc4, gc5, gc6, gc7, gc8, List.cons_append, List.nil_append, Bool.not_true, Bool.not_false, List.set_cons_succ, List.set_cons_zero, if_true, if_false, Bool.false_eq_true]
      rw [all_map]
      simp only [ap_var, ap_c, ap_bin, ap_chain, ap_bool, ap_tru, ap_neg, ap_an, ap_orr, ap_and, ap_or, ap_not, ap_if, ap_un, ap_nil, ap_cons, ap_tup, ap_lst, ap_lstH, ap_onone, ap_osome, ap_slice, ap_b, ap_jnil, ap_jcons, ap_joined, ap_m1, ap_ival, ap_range1, ap_range2, ap_gnam, ap_gsnil, ap_gscons, ap_gtp, ap_gsb, ap_lc, ap_lcH, ap_all, ap_app, ap_call, ap_callD, ap_snil, ap_scons, ap_ret, ap_retN, ap_expr, ap_sif, ap_asg, ap_set, ap_aug, ap_while, ap_for, ap_break, ap_cont, iadd_int, puto_some, slot_0, slot_s, pure_bb, bind_assoc', bad_bb, ite_bind', flow_nx, flow_rt, flow_bk, flow_ct, endOf_rt, endOf_nx, guard_t, guard_nn, wipe_1, bind_pure', opt_some, noexc_p, noexc_bind, noexc_ite, noexc_idem, noexc_guard, noexc_opt, noexc_bad, now_int, now_str, now_bl, now_non, now_tup, now_lst, now_frz, add_int, sub_int, lt_int', le_int', gt_int', ge_int', bool_bl, tru_bl, tru_int, toInt_int, toInt_bl, abs_int, max2_int, min2_int, len_lst, len_frz, len_tup, d1_one, d2_two, ref_hnd, part_int, text_str, gl0, gl1, gl2, gl3, gl4, gl5, gl6, gl7, gl8, gl9, gl10, gl11, gl12, gl13, gl14, gl15, gl16, gc0, gc1, gc2, gc3, gc4, gc5, gc6, gc7, gc8, List.cons_append, List.nil_append, Bool.not_true, Bool.not_false, List.set_cons_succ, List.set_cons_zero, if_true, if_false, Bool.false_eq_true]
      have ea : (s.cps.toList.all fun c => decide (c ∈ LET.cps.toList)) = allIn s.cps.toList LET := rfl
      rw [ea]
      cases c2 : allIn s.cps.toList LET with
      | true =>
        simp only [ap_var, ap_c, ap_bin, ap_chain, ap_bool, ap_tru, ap_neg, ap_an, ap_orr, ap_and, ap_or, ap_not, ap_if, ap_un, ap_nil, ap_cons, ap_tup, ap_lst, ap_lstH, ap_onone, ap_osome, ap_slice, ap_b, ap_jnil, ap_jcons, ap_joined, ap_m1, ap_ival, ap_range1, ap_range2, ap_gnam, ap_gsnil, ap_gscons, ap_gtp, ap_gsb, ap_lc, ap_lcH, ap_all, ap_app, ap_call, ap_callD, ap_snil, ap_scons, ap_ret, ap_retN, ap_expr, ap_sif, ap_asg, ap_set, ap_aug, ap_while, ap_for, ap_break, ap_cont, iadd_int, puto_some, slot_0, slot_s, pure_bb, bind_assoc', bad_bb, ite_bind', flow_nx, flow_rt, flow_bk, flow_ct, endOf_rt, endOf_nx, guard_t, guard_nn, wipe_1, bind_pure', opt_some, noexc_p, noexc_bind, noexc_ite, noexc_idem, noexc_guard, noexc_opt, noexc_bad, now_int, now_str, now_bl, now_non, now_tup, now_lst, now_frz, add_int, sub_int, lt_int', le_int', gt_int', ge_int', bool_bl, tru_bl, tru_int, toInt_int, toInt_bl, abs_int, max2_int, min2_int, len_lst, len_frz, len_tup, d1_one, d2_two, ref_hnd, part_int, text_str, gl0, gl1, gl2, gl3, gl4, gl5, gl6, gl7, gl8, gl9, gl10, gl11, gl12, gl13, gl14, gl15, gl16, gc0, gc1, gc2, gc3, gc4, gc5, gc6, gc7, gc8, List.cons_append, List.nil_append, Bool.not_true, Bool.not_false, List.set_cons_succ, List.set_cons_zero, if_true, if_false, Bool.false_eq_true, len_str s (str_len h)]
        rw [hl]
        have : (decide (((s.cps.toList.length : Nat) : Int) < 7)) = decide (s.cps.toList.length < 7) := by
          rw [Bool.eq_iff_iff]
          simp
          omega
        rw [this]
      | false =>
        cases e2 : s.cps.toList with
        | nil => exact (c1 e2).elim
        | cons c r =>
          simp only [ap_var, ap_c, ap_bin, ap_chain, ap_bool, ap_tru, ap_neg, ap_an, ap_orr, ap_and, ap_or, ap_not, ap_if, ap_un, ap_nil, ap_cons, ap_tup, ap_lst, ap_lstH, ap_onone, ap_osome, ap_slice, ap_b, ap_jnil, ap_jcons, ap_joined, ap_m1, ap_ival, ap_range1, ap_range2, ap_gnam, ap_gsnil, ap_gscons, ap_gtp, ap_gsb, ap_lc, ap_lcH, ap_all, ap_app, ap_call, ap_callD, ap_snil, ap_scons, ap_ret, ap_retN, ap_expr, ap_sif, ap_asg, ap_set, ap_aug, ap_while, ap_for, ap_break, ap_cont, iadd_int, puto_some, slot_0, slot_s, pure_bb, bind_assoc', bad_bb, ite_bind', flow_nx, flow_rt, flow_bk, flow_ct, endOf_rt, endOf_nx, guard_t, guard_nn, wipe_1, bind_pure', opt_some, noexc_p, noexc_bind, noexc_ite, noexc_idem, noexc_guard, noexc_opt, noexc_bad, now_int, now_str, now_bl, now_non, now_tup, now_lst, now_frz, add_int, sub_int, lt_int', le_int', gt_int', ge_int', bool_bl, tru_bl, tru_int, toInt_int, toInt_bl, abs_int, max2_int, min2_int, len_lst, len_frz, len_tup, d1_one, d2_two, ref_hnd, part_int, text_str, gl0, gl1, gl2, gl3, gl4, gl5, gl6, gl7, gl8, gl9, gl10, gl11, gl12, gl13, gl14, gl15, gl16, gc0, gc1, gc2, gc3, gc4, gc5, gc6, gc7, gc8, List.cons_append, List.nil_append, Bool.not_true, Bool.not_false, List.set_cons_succ, List.set_cons_zero, if_true, if_false, Bool.false_eq_true]
          rw [dx_str s 0 (str_len h), e2]
          have e3 : atI (c :: r) 0 = some c := atI_nat' (n := 0) rfl rfl
          rw [e3]
          simp only [ap_var, ap_c, ap_bin, ap_chain, ap_bool, ap_tru, ap_neg, ap_an, ap_orr, ap_and, ap_or, ap_not, ap_if, ap_un, ap_nil, ap_cons, ap_tup, ap_lst, ap_lstH, ap_onone, ap_osome, ap_slice, ap_b, ap_jnil, ap_jcons, ap_joined, ap_m1, ap_ival, ap_range1, ap_range2, ap_gnam, ap_gsnil, ap_gscons, ap_gtp, ap_gsb, ap_lc, ap_lcH, ap_all, ap_app, ap_call, ap_callD, ap_snil, ap_scons, ap_ret, ap_retN, ap_expr, ap_sif, ap_asg, ap_set, ap_aug, ap_while, ap_for, ap_break, ap_cont, iadd_int, puto_some, slot_0, slot_s, pure_bb, bind_assoc', bad_bb, ite_bind', flow_nx, flow_rt, flow_bk, flow_ct, endOf_rt, endOf_nx, guard_t, guard_nn, wipe_1, bind_pure', opt_some, noexc_p, noexc_bind, noexc_ite, noexc_idem, noexc_guard, noexc_opt, noexc_bad, now_int, now_str, now_bl, now_non, now_tup, now_lst, now_frz, add_int, sub_int, lt_int', le_int', gt_int', ge_int', bool_bl, tru_bl, tru_int, toInt_int, toInt_bl, abs_int, max2_int, min2_int, len_lst, len_frz, len_tup, d1_one, d2_two, ref_hnd, part_int, text_str, gl0, gl1, gl2, gl3, gl4, gl5, gl6, gl7, gl8, gl9, gl10, gl11, gl12, gl13, gl14, gl15, gl16, gc0, gc1, gc2, gc3, gc4, gc5, gc6, gc7, gc8, List.cons_append, List.nil_append, Bool.not_true, Bool.not_false, List.set_cons_succ, List.set_cons_zero, if_true, if_false, Bool.false_eq_true, Option.map_some, eq_str, f_is, str_beq]
          have e4 : decide ((⟨#[c]⟩ : Str).cps.toList = (⟨#[102]⟩ : Str).cps.toList) = decide ((c :: r).head? = some 102) := by
            rw [Bool.eq_iff_iff]
            simp
          rw [e4]
          cases c3 : decide ((c :: r).head? = some 102) with
          | false =>
            simp only [ap_var, ap_c, ap_bin, ap_chain, ap_bool, ap_tru, ap_neg, ap_an, ap_orr, ap_and, ap_or, ap_not, ap_if, ap_un, ap_nil, ap_cons, ap_tup, ap_lst, ap_lstH, ap_onone, ap_osome, ap_slice, ap_b, ap_jnil, ap_jcons, ap_joined, ap_m1, ap_ival, ap_range1, ap_range2, ap_gnam, ap_gsnil, ap_gscons, ap_gtp, ap_gsb, ap_lc, ap_lcH, ap_all, ap_app, ap_call, ap_callD, ap_snil, ap_scons, ap_ret, ap_retN, ap_expr, ap_sif, ap_asg, ap_set, ap_aug, ap_while, ap_for, ap_break, ap_cont, iadd_int, puto_some, slot_0, slot_s, pure_bb, bind_assoc', bad_bb, ite_bind', flow_nx, flow_rt, flow_bk, flow_ct, endOf_rt, endOf_nx, guard_t, guard_nn, wipe_1, bind_pure', opt_some, noexc_p, noexc_bind, noexc_ite, noexc_idem, noexc_guard, noexc_opt, noexc_bad, now_int, now_str, now_bl, now_non, now_tup, now_lst, now_frz, add_int, sub_int, lt_int', le_int', gt_int', ge_int', bool_bl, tru_bl, tru_int, toInt_int, toInt_bl, abs_int, max2_int, min2_int, len_lst, len_frz, len_tup, d1_one, d2_two, ref_hnd, part_int, text_str, gl0, gl1, gl2, gl3, gl4, gl5, gl6, gl7, gl8, gl9, gl10, gl11, gl12, gl13, gl14, gl15, gl16, gc0, gc1, gc2, gc3, gc4, gc5, gc6, gc7, gc8, List.cons_append, List.nil_append, Bool.not_true, Bool.not_false, List.set_cons_succ, List.set_cons_zero, if_true, if_false, Bool.false_eq_true, c3]
            rfl
          | true =>
            simp only [ap_var, ap_c, ap_bin, ap_chain, ap_bool, ap_tru, ap_neg, ap_an, ap_orr, ap_and, ap_or, ap_not, ap_if, ap_un, ap_nil, ap_cons, ap_tup, ap_lst, ap_lstH, ap_onone, ap_osome, ap_slice, ap_b, ap_jnil, ap_jcons, ap_joined, ap_m1, ap_ival, ap_range1, ap_range2, ap_gnam, ap_gsnil, ap_gscons, ap_gtp, ap_gsb, ap_lc, ap_lcH, ap_all, ap_app, ap_call, ap_callD, ap_snil, ap_scons, ap_ret, ap_retN, ap_expr, ap_sif, ap_asg, ap_set, ap_aug, ap_while, ap_for, ap_break, ap_cont, iadd_int, puto_some, slot_0, slot_s, pure_bb, bind_assoc', bad_bb, ite_bind', flow_nx, flow_rt, flow_bk, flow_ct, endOf_rt, endOf_nx, guard_t, guard_nn, wipe_1, bind_pure', opt_some, noexc_p, noexc_bind, noexc_ite, noexc_idem, noexc_guard, noexc_opt, noexc_bad, now_int, now_str, now_bl, now_non, now_tup, now_lst, now_frz, add_int, sub_int, lt_int', le_int', gt_int', ge_int', bool_bl, tru_bl, tru_int, toInt_int, toInt_bl, abs_int, max2_int, min2_int, len_lst, len_frz, len_tup, d1_one, d2_two, ref_hnd, part_int, text_str, gl0, gl1, gl2, gl3, gl4, gl5, gl6, gl7, gl8, gl9, gl10, gl11, gl12, gl13, gl14, gl15, gl16, gc0, gc1, gc2, gc3, gc4, gc5, gc6, gc7, gc8, List.cons_append, List.nil_append, Bool.not_true, Bool.not_false, List.set_cons_succ, List.set_cons_zero, if_true, if_false, Bool.false_eq_true, c3]
            rw [slice_str s _ _ (str_len h)]
            simp only [ap_var, ap_c, ap_bin, ap_chain, ap_bool, ap_tru, ap_neg, ap_an, ap_orr, ap_and, ap_or, ap_not, ap_if, ap_un, ap_nil, ap_cons, ap_tup, ap_lst, ap_lstH, ap_onone, ap_osome, ap_slice, ap_b, ap_jnil, ap_jcons, ap_joined, ap_m1, ap_ival, ap_range1, ap_range2, ap_gnam, ap_gsnil, ap_gscons, ap_gtp, ap_gsb, ap_lc, ap_lcH, ap_all, ap_app, ap_call, ap_callD, ap_snil, ap_scons, ap_ret, ap_retN, ap_expr, ap_sif, ap_asg, ap_set, ap_aug, ap_while, ap_for, ap_break, ap_cont, iadd_int, puto_some, slot_0, slot_s, pure_bb, bind_assoc', bad_bb, ite_bind', flow_nx, flow_rt, flow_bk, flow_ct, endOf_rt, endOf_nx, guard_t, guard_nn, wipe_1, bind_pure', opt_some, noexc_p, noexc_bind, noexc_ite, noexc_idem, noexc_guard, noexc_opt, noexc_bad, now_int, now_str, now_bl, now_non, now_tup, now_lst, now_frz, add_int, sub_int, lt_int', le_int', gt_int', ge_int', bool_bl, tru_bl, tru_int, toInt_int, toInt_bl, abs_int, max2_int, min2_int, len_lst, len_frz, len_tup, d1_one, d2_two, ref_hnd, part_int, text_str, gl0, gl1, gl2, gl3, gl4, gl5, gl6, gl7, gl8, gl9, gl10, gl11, gl12, gl13, gl14, gl15, gl16, gc0, gc1, gc2, gc3, gc4, gc5, gc6, gc7, gc8, List.cons_append, List.nil_append, Bool.not_true, Bool.not_false, List.set_cons_succ, List.set_cons_zero, if_true, if_false, Bool.false_eq_true]
            rw [lcAll_map (ds := rangeD 0 100) (fun d => match d with
              | .int i => .str (toString i)
              | _ => .non) (by simp only [ap_var, ap_c, ap_bin, ap_chain, ap_bool, ap_tru, ap_neg, ap_an, ap_orr, ap_and, ap_or, ap_not, ap_if, ap_un, ap_nil, ap_cons, ap_tup, ap_lst, ap_lstH, ap_onone, ap_osome, ap_slice, ap_b, ap_jnil, ap_jcons, ap_joined, ap_m1, ap_ival, ap_range1, ap_range2, ap_gnam, ap_gsnil, ap_gscons, ap_gtp, ap_gsb, ap_lc, ap_lcH, ap_all, ap_app, ap_call, ap_callD, ap_snil, ap_scons, ap_ret, ap_retN, ap_expr, ap_sif, ap_asg, ap_set, ap_aug, ap_while, ap_for, ap_break, ap_cont, iadd_int, puto_some, slot_0, slot_s, pure_bb, bind_assoc', bad_bb, ite_bind', flow_nx, flow_rt, flow_bk, flow_ct, endOf_rt, endOf_nx, guard_t, guard_nn, wipe_1, bind_pure', opt_some, noexc_p, noexc_bind, noexc_ite, noexc_idem, noexc_guard, noexc_opt, noexc_bad, now_int, now_str, now_bl, now_non, now_tup, now_lst, now_frz, add_int, sub_int, lt_int', le_int', gt_int', ge_int', bool_bl, tru_bl, tru_int, toInt_int, toInt_bl, abs_int, max2_int, min2_int, len_lst, len_frz, len_tup, d1_one, d2_two, ref_hnd, part_int, text_str, gl0, gl1, gl2, gl3, gl4, gl5, gl6, gl7, gl8, gl9, gl10, gl11, gl12, gl13, gl14, gl15, gl16, gc0, gc1, gc2, gc3, gc4, gc5, gc6, gc7, gc8, List.cons_append, List.nil_append, Bool.not_true, Bool.not_false, List.set_cons_succ, List.set_cons_zero, if_true, if_false, Bool.false_eq_true]; exact range1_int 100 ⟨by decide, by decide⟩) (fun d hd => ?_) (by rw [len_rangeD]; decide)]
            · simp only [ap_var, ap_c, ap_bin, ap_chain, ap_bool, ap_tru, ap_neg, ap_an, ap_orr, ap_and, ap_or, ap_not, ap_if, ap_un, ap_nil, ap_cons, ap_tup, ap_lst, ap_lstH, ap_onone, ap_osome, ap_slice, ap_b, ap_jnil, ap_jcons, ap_joined, ap_m1, ap_ival, ap_range1, ap_range2, ap_gnam, ap_gsnil, ap_gscons, ap_gtp, ap_gsb, ap_lc, ap_lcH, ap_all, ap_app, ap_call, ap_callD, ap_snil, ap_scons, ap_ret, ap_retN, ap_expr, ap_sif, ap_asg, ap_set, ap_aug, ap_while, ap_for, ap_break, ap_cont, iadd_int, puto_some, slot_0, slot_s, pure_bb, bind_assoc', bad_bb, ite_bind', flow_nx, flow_rt, flow_bk, flow_ct, endOf_rt, endOf_nx, guard_t, guard_nn, wipe_1, bind_pure', opt_some, noexc_p, noexc_bind, noexc_ite, noexc_idem, noexc_guard, noexc_opt, noexc_bad, now_int, now_str, now_bl, now_non, now_tup, now_lst, now_frz, add_int, sub_int, lt_int', le_int', gt_int', ge_int', bool_bl, tru_bl, tru_int, toInt_int, toInt_bl, abs_int, max2_int, min2_int, len_lst, len_frz, len_tup, d1_one, d2_two, ref_hnd, part_int, text_str, gl0, gl1, gl2, gl3, gl4, gl5, gl6, gl7, gl8, gl9, gl10, gl11, gl12, gl13, gl14, gl15, gl16, gc0, gc1, gc2, gc3, gc4, gc5, gc6, gc7, gc8, List.cons_append, List.nil_append, Bool.not_true, Bool.not_false, List.set_cons_succ, List.set_cons_zero, if_true, if_false, Bool.false_eq_true]
              have e5 : (rangeD 0 100).map (fun d => match d with
                | .int i => D.str (toString i)
                | _ => .non) = numTexts.map D.str := by
                unfold rangeD numTexts
                rw [List.map_map, List.map_map]
                rfl
              rw [e5, any_flat]
              simp only [ap_var, ap_c, ap_bin, ap_chain, ap_bool, ap_tru, ap_neg, ap_an, ap_orr, ap_and, ap_or, ap_not, ap_if, ap_un, ap_nil, ap_cons, ap_tup, ap_lst, ap_lstH, ap_onone, ap_osome, ap_slice, ap_b, ap_jnil, ap_jcons, ap_joined, ap_m1, ap_ival, ap_range1, ap_range2, ap_gnam, ap_gsnil, ap_gscons, ap_gtp, ap_gsb, ap_lc, ap_lcH, ap_all, ap_app, ap_call, ap_callD, ap_snil, ap_scons, ap_ret, ap_retN, ap_expr, ap_sif, ap_asg, ap_set, ap_aug, ap_while, ap_for, ap_break, ap_cont, iadd_int, puto_some, slot_0, slot_s, pure_bb, bind_assoc', bad_bb, ite_bind', flow_nx, flow_rt, flow_bk, flow_ct, endOf_rt, endOf_nx, guard_t, guard_nn, wipe_1, bind_pure', opt_some, noexc_p, noexc_bind, noexc_ite, noexc_idem, noexc_guard, noexc_opt, noexc_bad, now_int, now_str, now_bl, now_non, now_tup, now_lst, now_frz, add_int, sub_int, lt_int', le_int', gt_int', ge_int', bool_bl, tru_bl, tru_int, toInt_int, toInt_bl, abs_int, max2_int, min2_int, len_lst, len_frz, len_tup, d1_one, d2_two, ref_hnd, part_int, text_str, gl0, gl1, gl2, gl3, gl4, gl5, gl6, gl7, gl8, gl9, gl10, gl11, gl12, gl13, gl14, gl15, gl16, gc0, gc1, gc2, gc3, gc4, gc5, gc6, gc7, gc8, List.cons_append, List.nil_append, Bool.not_true, Bool.not_false, List.set_cons_succ, List.set_cons_zero, if_true, if_false, Bool.false_eq_true]
              have e6 : (numTexts.any fun y => y == cutS s (some 1) none) = (numTexts.any fun y => decide (y.cps.toList = (c :: r).drop 1)) := by
                congr 1
                funext y
                rw [str_beq, cut1, e2]
              rw [e6]
              rfl
            · obtain ⟨i, hi, rfl⟩ := mem_rangeD hd
              refine ⟨[some (.str s), none, some (.int (0 + (i : Int)))], rfl, ?_⟩
              simp only [ap_var, ap_c, ap_bin, ap_chain, ap_bool, ap_tru, ap_neg, ap_an, ap_orr, ap_and, ap_or, ap_not, ap_if, ap_un, ap_nil, ap_cons, ap_tup, ap_lst, ap_lstH, ap_onone, ap_osome, ap_slice, ap_b, ap_jnil, ap_jcons, ap_joined, ap_m1, ap_ival, ap_range1, ap_range2, ap_gnam, ap_gsnil, ap_gscons, ap_gtp, ap_gsb, ap_lc, ap_lcH, ap_all, ap_app, ap_call, ap_callD, ap_snil, ap_scons, ap_ret, ap_retN, ap_expr, ap_sif, ap_asg, ap_set, ap_aug, ap_while, ap_for, ap_break, ap_cont, iadd_int, puto_some, slot_0, slot_s, pure_bb, bind_assoc', bad_bb, ite_bind', flow_nx, flow_rt, flow_bk, flow_ct, endOf_rt, endOf_nx, guard_t, guard_nn, wipe_1, bind_pure', opt_some, noexc_p, noexc_bind, noexc_ite, noexc_idem, noexc_guard, noexc_opt, noexc_bad, now_int, now_str, now_bl, now_non, now_tup, now_lst, now_frz, add_int, sub_int, lt_int', le_int', gt_int', ge_int', bool_bl, tru_bl, tru_int, toInt_int, toInt_bl, abs_int, max2_int, min2_int, len_lst, len_frz, len_tup, d1_one, d2_two, ref_hnd, part_int, text_str, gl0, gl1, gl2, gl3, gl4, gl5, gl6, gl7, gl8, gl9, gl10, gl11, gl12, gl13, gl14, gl15, gl16, gc0, gc1, gc2, gc3, gc4, gc5, gc6, gc7, gc8, List.cons_append, List.nil_append, Bool.not_true, Bool.not_false, List.set_cons_succ, List.set_cons_zero, if_true, if_false, Bool.false_eq_true]
              rw [strOf_int _ (log_small (by omega) (Int.lt_trans (show (0 : Int) + i < 100 by omega) (by decide)))]
    · unfold signs at hd
      obtain ⟨c, hc, rfl⟩ := List.mem_map.mp hd
      refine ⟨[some (.str s), some (.str ⟨#[c]⟩), none], rfl, ?_⟩
      simp only [ap_var, ap_c, ap_bin, ap_chain, ap_bool, ap_tru, ap_neg, ap_an, ap_orr, ap_and, ap_or, ap_not, ap_if, ap_un, ap_nil, ap_cons, ap_tup, ap_lst, ap_lstH, ap_onone, ap_osome, ap_slice, ap_b, ap_jnil, ap_jcons, ap_joined, ap_m1, ap_ival, ap_range1, ap_range2, ap_gnam, ap_gsnil, ap_gscons, ap_gtp, ap_gsb, ap_lc, ap_lcH, ap_all, ap_app, ap_call, ap_callD, ap_snil, ap_scons, ap_ret, ap_retN, ap_expr, ap_sif, ap_asg, ap_set, ap_aug, ap_while, ap_for, ap_break, ap_cont, iadd_int, puto_some, slot_0, slot_s, pure_bb, bind_assoc', bad_bb, ite_bind', flow_nx, flow_rt, flow_bk, flow_ct, endOf_rt, endOf_nx, guard_t, guard_nn, wipe_1, bind_pure', opt_some, noexc_p, noexc_bind, noexc_ite, noexc_idem, noexc_guard, noexc_opt, noexc_bad, now_int, now_str, now_bl, now_non, now_tup, now_lst, now_frz, add_int, sub_int, lt_int', le_int', gt_int', ge_int', bool_bl, tru_bl, tru_int, toInt_int, toInt_bl, abs_int, max2_int, min2_int, len_lst, len_frz, len_tup, d1_one, d2_two, ref_hnd, part_int, text_str, gl0, gl1, gl2, gl3, gl4, gl5, gl6, gl7, gl8, gl9, gl10, gl11, gl12, gl13, gl14, gl15, gl16, gc0, gc1, gc2, gc3, gc4, gc5, gc6, gc7, gc8, List.cons_append, List.nil_append, Bool.not_true, Bool.not_false, List.set_cons_succ, List.set_cons_zero, if_true, if_false, Bool.false_eq_true]
      exact isIn_one c LET
theorem l_is_name_other (d : D) (t : String) (h0 : d.now = pure d) (h1 : d.kind = some t) (h2 : kitB t "str" = some false) : m_l_is_name [d] = pure (.bl false) := by
  show M.noexc (b_l_is_name (startE 3 [d]) >>= endOf) = _
  have e0 : startE 3 [d] = [some d, none, none] := rfl
  rw [e0]
  simp only [ap_var, ap_c, ap_bin, ap_chain, ap_bool, ap_tru, ap_neg, ap_an, ap_orr, ap_and, ap_or, ap_not, ap_if, ap_un, ap_nil, ap_cons, ap_tup, ap_lst, ap_lstH, ap_onone, ap_osome, ap_slice, ap_b, ap_jnil, ap_jcons, ap_joined, ap_m1, ap_ival, ap_range1, ap_range2, ap_gnam, ap_gsnil, ap_gscons, ap_gtp, ap_gsb, ap_lc, ap_lcH, ap_all, ap_app, ap_call, ap_callD, ap_snil, ap_scons, ap_ret, ap_retN, ap_expr, ap_sif, ap_asg, ap_set, ap_aug, ap_while, ap_for, ap_break, ap_cont, iadd_int, puto_some, slot_0, slot_s, pure_bb, bind_assoc', bad_bb, ite_bind', flow_nx, flow_rt, flow_bk, flow_ct, endOf_rt, endOf_nx, guard_t, guard_nn, wipe_1, bind_pure', opt_some, noexc_p, noexc_bind, noexc_ite, noexc_idem, noexc_guard, noexc_opt, noexc_bad, now_int, now_str, now_bl, now_non, now_tup, now_lst, now_frz, add_int, sub_int, lt_int', le_int', gt_int', ge_int', bool_bl, tru_bl, tru_int, toInt_int, toInt_bl, abs_int, max2_int, min2_int, len_lst, len_frz, len_tup, d1_one, d2_two, ref_hnd, part_int, text_str, gl0, gl1, gl2, gl3, gl4, gl5, gl6, gl7, gl8, gl9, gl10, gl11, gl12, gl13, gl14, gl15, gl16, gc0, gc1, gc2, gc3, gc4, gc5, gc6, gc7, gc8, List.cons_append, List.nil_append, Bool.not_true, Bool.not_false, List.set_cons_succ, List.set_cons_zero, if_true, if_false, Bool.false_eq_true, b_l_is_name, isT_of "str" d t false h0 h1 h2, Bool.not_false]
end LW
set_option maxRecDepth 100000
set_option maxHeartbeats 4000000
namespace LW
open PySem L2 Mir
def figs : List Nat := [48, 49, 50, 51, 52, 53, 54, 55, 56, 57]
theorem figs_is : (("0123456789" : Str)).cps.toList = figs := by decide +kernel
theorem lets_is : (LET).cps.toList = [97, 98, 99, 100, 101, 102, 103, 104, 105, 106, 107, 108, 109, 110, 111, 112, 113, 114, 115, 116, 117, 118, 119, 120, 121, 122] := by decide +kernel
def numL : List (List Nat) := numTexts.map fun y => y.cps.toList
theorem num_yes : ∀ r, r ∈ numL → isNum r = true := by decide +kernel
theorem num_one : ∀ a, a ∈ figs → [a] ∈ numL := by decide +kernel
theorem num_two : ∀ a, a ∈ figs → ∀ b, b ∈ figs → a = 48 ∨ [a, b] ∈ numL := by decide +kernel
theorem num_iff (r : List Nat) : isNum r = decide (r ∈ numL) := by
  rw [Bool.eq_iff_iff, decide_eq_true_eq]
  refine ⟨fun h => ?_, num_yes r⟩
  unfold isNum at h
  simp only [Bool.and_eq_true, decide_eq_true_eq, Bool.or_eq_true, Bool.not_eq_true', decide_eq_false_iff_not] at h
  obtain ⟨⟨⟨h1, h2⟩, h3⟩, h4⟩ := h
  unfold allIn at h3
  rw [figs_is, List.all_eq_true] at h3
  match r, h1, h2, h3, h4 with
  | [a], _, _, h3, _ => exact num_one a (by simpa using h3 a List.mem_cons_self)
  | [a, b], _, _, h3, h4 =>
    rcases num_two a (by simpa using h3 a (by simp)) b (by simpa using h3 b (by simp)) with z | z
    · subst z
      rcases h4 with h4 | h4
      · cases h4
      · exact (h4 rfl).elim
    · exact z
theorem any_num (r : List Nat) : (numTexts.any fun y => decide (y.cps.toList = r)) = isNum r := by
  rw [num_iff, Bool.eq_iff_iff, decide_eq_true_eq, List.any_eq_true]
  unfold numL
  rw [List.mem_map]
  exact ⟨fun ⟨y, h1, h2⟩ => ⟨y, h1, of_decide_eq_true h2⟩, fun ⟨y, h1, h2⟩ => ⟨y, h1, decide_eq_true h2⟩⟩
theorem apart (a : Nat) (h1 : a ∈ figs) (h2 : a ∈ (LET).cps.toList) : False := by
  rw [lets_is] at h2
  revert h2
  revert a
  decide +kernel
theorem looks_same (l : List Nat) : isNam l = isNam2 l := by
  unfold isNam isNam2
  cases l with
  | nil => rfl
  | cons c r =>
    rw [if_neg (by simp)]
    cases h : allIn (c :: r) LET with
    | true =>
      rw [if_pos rfl]
      have e : isNum ((c :: r).drop 1) = false := by
        show isNum r = false
        cases hn : isNum r with
        | false => rfl
        | true =>
          exfalso
          unfold isNum at hn
          simp only [Bool.and_eq_true, decide_eq_true_eq] at hn
          obtain ⟨⟨⟨h1, _⟩, h3⟩, _⟩ := hn
          unfold allIn at h3 h
          rw [figs_is, List.all_eq_true] at h3
          rw [List.all_eq_true] at h
          cases r with
          | nil => simp at h1
          | cons a r => exact apart a (by simpa using h3 a List.mem_cons_self) (by simpa using h a (by simp))
      rw [e, Bool.and_false, Bool.or_false, Bool.and_true, Bool.eq_iff_iff, decide_eq_true_eq, decide_eq_true_eq, List.length_cons]
      omega
    | false =>
      rw [if_neg (by simp), any_num, Bool.and_false, Bool.false_or]
theorem l_right_of (d : D) (b : Bool) (h1 : m_is_name [d] = pure (.bl b)) (h2 : m_l_is_name [d] = pure (.bl b)) : m_l_right [d] = pure (.bl true) := by
  show M.noexc (b_l_right (startE 2 [d]) >>= endOf) = _
  have e0 : startE 2 [d] = [some d, none] := rfl
  rw [e0]
  simp only [ap_var, ap_c, ap_bin, ap_chain, ap_bool, ap_tru, ap_neg, ap_an, ap_orr, ap_and, ap_or, ap_not, ap_if, ap_un, ap_nil, ap_cons, ap_tup, ap_lst, ap_lstH, ap_onone, ap_osome, ap_slice, ap_b, ap_jnil, ap_jcons, ap_joined, ap_m1, ap_ival, ap_range1, ap_range2, ap_gnam, ap_gsnil, ap_gscons, ap_gtp, ap_gsb, ap_lc, ap_lcH, ap_all, ap_app, ap_call, ap_callD, ap_snil, ap_scons, ap_ret, ap_retN, ap_expr, ap_sif, ap_asg, ap_set, ap_aug, ap_while, ap_for, ap_break, ap_cont, iadd_int, puto_some, slot_0, slot_s, pure_bb, bind_assoc', bad_bb, ite_bind', flow_nx, flow_rt, flow_bk, flow_ct, endOf_rt, endOf_nx, guard_t, guard_nn, wipe_1, bind_pure', opt_some, noexc_p, noexc_bind, noexc_ite, noexc_idem, noexc_guard, noexc_opt, noexc_bad, now_int, now_str, now_bl, now_non, now_tup, now_lst, now_frz, add_int, sub_int, lt_int', le_int', gt_int', ge_int', bool_bl, tru_bl, tru_int, toInt_int, toInt_bl, abs_int, max2_int, min2_int, len_lst, len_frz, len_tup, d1_one, d2_two, ref_hnd, part_int, text_str, gl0, gl1, gl2, gl3, gl4, gl5, gl6, gl7, gl8, gl9, gl10, gl11, gl12, gl13, gl14, gl15, gl16, gc0, gc1, gc2, gc3, gc4, gc5, gc6, gc7, gc8, List.cons_append, List.nil_append, Bool.not_true, Bool.not_false, List.set_cons_succ, List.set_cons_zero, if_true, if_false, Bool.false_eq_true, b_l_right, call1, h1, h2, isT_of "bool" (.bl b) "bool" true rfl rfl (by decide +kernel), eq_bl, beq_self_eq_true]
theorem l_right_str (s : Str) (h : s.length ≤ 1000) : m_l_right [.str s] = pure (.bl true) := l_right_of _ _ (is_name_ok s h) (by rw [l_is_name_ok s h, looks_same])
theorem l_right_other (d : D) (t : String) (h0 : d.now = pure d) (h1 : d.kind = some t) (h2 : kitB t "str" = some false) : m_l_right [d] = pure (.bl true) := l_right_of _ _ (is_name_other d t h0 h1 h2) (l_is_name_other d t h0 h1 h2)
end LW
set_option maxRecDepth 100000
set_option maxHeartbeats 4000000
namespace LW
open PySem L2 Mir
theorem take_dr {k c : Nat} {n : Int} {A : Type} {f : D → M A} {R : A → Prop} (hn : 0 < n ∧ n < 1073741824) (h : ∀ r : Int, 0 ≤ r → r < n → Draws k c (f (.int r)) R) : Draws k (1 + c) (m_l_take [.hnd k, .int n] >>= f) R :=
  dr_bind (take_ok hn) fun d hd => by
    obtain ⟨r, rfl, h0, h1⟩ := hd
    exact h r h0 h1
theorem pick_at {ds : List D} {r : Int} (h0 : 0 ≤ r) (h1 : r < (ds.length : Int)) : ∃ d, d ∈ ds ∧ atI ds r = some d := by
  obtain ⟨n, rfl⟩ := Int.eq_ofNat_of_zero_le h0
  have hn : n < ds.length := by omega
  exact ⟨ds[n], List.getElem_mem hn, atI_nat' rfl (List.getElem?_eq_getElem hn)⟩
theorem sign_at {x : Str} {r : Int} (h0 : 0 ≤ r) (h1 : r < (x.length : Int)) : ∃ c, atI x.cps.toList r = some c := by
  obtain ⟨n, rfl⟩ := Int.eq_ofNat_of_zero_le h0
  have hn : n < x.cps.toList.length := by rw [← str_length]; omega
  exact ⟨_, atI_nat' rfl (List.getElem?_eq_getElem hn)⟩
def IsText (n : Nat) (d : D) : Prop := ∃ s : Str, d = .str s ∧ s.length ≤ n
theorem str_small : ∀ n : Nat, n < 1000 → (toString (n : Int) : String).length ≤ 3 ∧ ((toString (n : Int) : String) : Str).length ≤ 3 := by decide +kernel
theorem app_len (a b : Str) : (a ++ b).length = a.length + b.length := by
  rw [str_length, str_length, str_length]
  show ((a.cps ++ b.cps).toList).length = _
  simp
theorem number_dr {k : Nat} : Draws k 3 (m_l_number [.hnd k]) (IsText 4) := by
  show Draws k 3 (M.noexc (b_l_number (startE 2 [.hnd k]) >>= endOf)) _
  have e0 : startE 2 [.hnd k] = [some (.hnd k), none] := rfl
  rw [e0]
  refine dr_noexc ?_
  simp only [ap_var, ap_c, ap_bin, ap_chain, ap_bool, ap_tru, ap_neg, ap_an, ap_orr, ap_and, ap_or, ap_not, ap_if, ap_un, ap_nil, ap_cons, ap_tup, ap_lst, ap_lstH, ap_onone, ap_osome, ap_slice, ap_b, ap_jnil, ap_jcons, ap_joined, ap_m1, ap_ival, ap_range1, ap_range2, ap_gnam, ap_gsnil, ap_gscons, ap_gtp, ap_gsb, ap_lc, ap_lcH, ap_all, ap_app, ap_call, ap_callD, ap_snil, ap_scons, ap_ret, ap_retN, ap_expr, ap_sif, ap_asg, ap_set, ap_aug, ap_while, ap_for, ap_break, ap_cont, iadd_int, puto_some, slot_0, slot_s, pure_bb, bind_assoc', bad_bb, ite_bind', flow_nx, flow_rt, flow_bk, flow_ct, endOf_rt, endOf_nx, guard_t, guard_nn, wipe_1, bind_pure', opt_some, noexc_p, noexc_bind, noexc_ite, noexc_idem, noexc_guard, noexc_opt, noexc_bad, now_int, now_str, now_bl, now_non, now_tup, now_lst, now_frz, add_int, sub_int, lt_int', le_int', gt_int', ge_int', bool_bl, tru_bl, tru_int, toInt_int, toInt_bl, abs_int, max2_int, min2_int, len_lst, len_frz, len_tup, d1_one, d2_two, ref_hnd, part_int, text_str, gl0, gl1, gl2, gl3, gl4, gl5, gl6, gl7, gl8, gl9, gl10, gl11, gl12, gl13, gl14, gl15, gl16, gc0, gc1, gc2, gc3, gc4, gc5, gc6, gc7, gc8, List.cons_append, List.nil_append, Bool.not_true, Bool.not_false, List.set_cons_succ, List.set_cons_zero, if_true, if_false, Bool.false_eq_true, b_l_number]
  refine take_dr (c := 2) ⟨by decide, by decide⟩ fun r h0 h1 => ?_
  obtain ⟨d, hd, e1⟩ := pick_at (ds := [.int 10, .int 100, .int 1000]) h0 h1
  rw [dx_lst, e1]
  simp only [ap_var, ap_c, ap_bin, ap_chain, ap_bool, ap_tru, ap_neg, ap_an, ap_orr, ap_and, ap_or, ap_not, ap_if, ap_un, ap_nil, ap_cons, ap_tup, ap_lst, ap_lstH, ap_onone, ap_osome, ap_slice, ap_b, ap_jnil, ap_jcons, ap_joined, ap_m1, ap_ival, ap_range1, ap_range2, ap_gnam, ap_gsnil, ap_gscons, ap_gtp, ap_gsb, ap_lc, ap_lcH, ap_all, ap_app, ap_call, ap_callD, ap_snil, ap_scons, ap_ret, ap_retN, ap_expr, ap_sif, ap_asg, ap_set, ap_aug, ap_while, ap_for, ap_break, ap_cont, iadd_int, puto_some, slot_0, slot_s, pure_bb, bind_assoc', bad_bb, ite_bind', flow_nx, flow_rt, flow_bk, flow_ct, endOf_rt, endOf_nx, guard_t, guard_nn, wipe_1, bind_pure', opt_some, noexc_p, noexc_bind, noexc_ite, noexc_idem, noexc_guard, noexc_opt, noexc_bad, now_int, now_str, now_bl, now_non, now_tup, now_lst, now_frz, add_int, sub_int, lt_int', le_int', gt_int', ge_int', bool_bl, tru_bl, tru_int, toInt_int, toInt_bl, abs_int, max2_int, min2_int, len_lst, len_frz, len_tup, d1_one, d2_two, ref_hnd, part_int, text_str, gl0, gl1, gl2, gl3, gl4, gl5, gl6, gl7, gl8, gl9, gl10, gl11, gl12, gl13, gl14, gl15, gl16, gc0, gc1, gc2, gc3, gc4, gc5, gc6, gc7, gc8, List.cons_append, List.nil_append, Bool.not_true, Bool.not_false, List.set_cons_succ, List.set_cons_zero, if_true, if_false, Bool.false_eq_true]
  have hd2 : ∃ n : Int, d = .int n ∧ 0 < n ∧ n ≤ 1000 := by
    simp only [List.mem_cons, List.not_mem_nil, or_false] at hd
    rcases hd with rfl | rfl | rfl
    · exact ⟨10, rfl, by decide, by decide⟩
    · exact ⟨100, rfl, by decide, by decide⟩
    · exact ⟨1000, rfl, by decide, by decide⟩
  obtain ⟨n, rfl, n0, n1⟩ := hd2
  refine take_dr (c := 1) ⟨n0, by omega⟩ fun q q0 q1 => ?_
  rw [strOf_int q (log_small q0 (Int.lt_trans (show q < 1000 by omega) (by decide)))]
  simp only [ap_var, ap_c, ap_bin, ap_chain, ap_bool, ap_tru, ap_neg, ap_an, ap_orr, ap_and, ap_or, ap_not, ap_if, ap_un, ap_nil, ap_cons, ap_tup, ap_lst, ap_lstH, ap_onone, ap_osome, ap_slice, ap_b, ap_jnil, ap_jcons, ap_joined, ap_m1, ap_ival, ap_range1, ap_range2, ap_gnam, ap_gsnil, ap_gscons, ap_gtp, ap_gsb, ap_lc, ap_lcH, ap_all, ap_app, ap_call, ap_callD, ap_snil, ap_scons, ap_ret, ap_retN, ap_expr, ap_sif, ap_asg, ap_set, ap_aug, ap_while, ap_for, ap_break, ap_cont, iadd_int, puto_some, slot_0, slot_s, pure_bb, bind_assoc', bad_bb, ite_bind', flow_nx, flow_rt, flow_bk, flow_ct, endOf_rt, endOf_nx, guard_t, guard_nn, wipe_1, bind_pure', opt_some, noexc_p, noexc_bind, noexc_ite, noexc_idem, noexc_guard, noexc_opt, noexc_bad, now_int, now_str, now_bl, now_non, now_tup, now_lst, now_frz, add_int, sub_int, lt_int', le_int', gt_int', ge_int', bool_bl, tru_bl, tru_int, toInt_int, toInt_bl, abs_int, max2_int, min2_int, len_lst, len_frz, len_tup, d1_one, d2_two, ref_hnd, part_int, text_str, gl0, gl1, gl2, gl3, gl4, gl5, gl6, gl7, gl8, gl9, gl10, gl11, gl12, gl13, gl14, gl15, gl16, gc0, gc1, gc2, gc3, gc4, gc5, gc6, gc7, gc8, List.cons_append, List.nil_append, Bool.not_true, Bool.not_false, List.set_cons_succ, List.set_cons_zero, if_true, if_false, Bool.false_eq_true]
  refine take_dr (c := 0) ⟨by decide, by decide⟩ fun u u0 u1 => ?_
  simp only [ap_var, ap_c, ap_bin, ap_chain, ap_bool, ap_tru, ap_neg, ap_an, ap_orr, ap_and, ap_or, ap_not, ap_if, ap_un, ap_nil, ap_cons, ap_tup, ap_lst, ap_lstH, ap_onone, ap_osome, ap_slice, ap_b, ap_jnil, ap_jcons, ap_joined, ap_m1, ap_ival, ap_range1, ap_range2, ap_gnam, ap_gsnil, ap_gscons, ap_gtp, ap_gsb, ap_lc, ap_lcH, ap_all, ap_app, ap_call, ap_callD, ap_snil, ap_scons, ap_ret, ap_retN, ap_expr, ap_sif, ap_asg, ap_set, ap_aug, ap_while, ap_for, ap_break, ap_cont, iadd_int, puto_some, slot_0, slot_s, pure_bb, bind_assoc', bad_bb, ite_bind', flow_nx, flow_rt, flow_bk, flow_ct, endOf_rt, endOf_nx, guard_t, guard_nn, wipe_1, bind_pure', opt_some, noexc_p, noexc_bind, noexc_ite, noexc_idem, noexc_guard, noexc_opt, noexc_bad, now_int, now_str, now_bl, now_non, now_tup, now_lst, now_frz, add_int, sub_int, lt_int', le_int', gt_int', ge_int', bool_bl, tru_bl, tru_int, toInt_int, toInt_bl, abs_int, max2_int, min2_int, len_lst, len_frz, len_tup, d1_one, d2_two, ref_hnd, part_int, text_str, gl0, gl1, gl2, gl3, gl4, gl5, gl6, gl7, gl8, gl9, gl10, gl11, gl12, gl13, gl14, gl15, gl16, gc0, gc1, gc2, gc3, gc4, gc5, gc6, gc7, gc8, List.cons_append, List.nil_append, Bool.not_true, Bool.not_false, List.set_cons_succ, List.set_cons_zero, if_true, if_false, Bool.false_eq_true]
  have hq : ((toString q : String) : Str).length ≤ 3 := by
    obtain ⟨m, rfl⟩ := Int.eq_ofNat_of_zero_le q0
    exact (str_small m (by omega)).2
  have fin : ∀ z : Str, z.length ≤ 1 → Draws k 0 (D.add (.str z) (.str ((toString q : String) : Str))) (IsText 4) := fun z hz => by
    rw [add_str _ _ (Nat.le_trans (show z.length + ((toString q : String) : Str).length ≤ 4 by omega) (by decide))]
    exact dr_pure ⟨_, rfl, by rw [app_len]; omega⟩
  cases c : decide (0 < u) with
  | true =>
    rw [if_pos rfl]
    show Draws k 0 (D.ix (.lst [.str "0", .str ""]) (.int 1) >>= fun a => D.add a _) _
    exact fin "" (by decide +kernel)
  | false =>
    rw [if_neg (by decide)]
    show Draws k 0 (D.ix (.lst [.str "0", .str ""]) (.int 0) >>= fun a => D.add a _) _
    exact fin "0" (by decide +kernel)
theorem signs_dr {k : Nat} {x : Str} {ρ : Mir.Env} {n : Int} {i : Nat} (hx : 0 < x.length ∧ x.length ≤ 1000) (hn : 0 ≤ n ∧ n ≤ 100) {fe : Mir.Env → M D}
    (hfe : ∀ d, fe (ρ.set i (some d)) = m_l_take [.hnd k, .int x.length] >>= fun r => D.ix (.str x) r) : Draws k n.toNat (M.noexc (lcGo (gNam i) tAll fe ρ (rangeD 0 n.toNat) [])) (fun ds => ds.length = n.toNat ∧ ∀ d, d ∈ ds → IsText 1 d) := by
  have h := dr_lc (k := k) (c := 1) (fg := gNam i) (fe := fe) (ρ := ρ) (R := IsText 1) (rangeD 0 n.toNat) [] (fun d _ => ⟨_, ap_gnam i, ?_⟩) (by rw [len_rangeD]; simp; omega) (fun d h => nomatch h)
  · rw [len_rangeD, Nat.mul_one] at h
    exact dr_imp (dr_noexc h) fun es hes => ⟨by simpa using hes.1, hes.2⟩
  · rw [hfe]
    refine dr_le (take_dr (c := 0) ⟨by omega, by omega⟩ fun r h0 h1 => ?_) (Nat.le_refl _)
    obtain ⟨c, hc⟩ := sign_at h0 h1
    rw [dx_str x r (str_len hx.2), hc]
    exact dr_pure ⟨⟨#[c]⟩, rfl, Nat.le_refl _⟩
theorem join_ok : ∀ (ds : List D), (∀ d, d ∈ ds → IsText 1 d) → ∃ ys : List Str, D.texts ds = some ys ∧ ys.length = ds.length ∧ ∀ y, y ∈ ys → y.length ≤ 1
  | [], _ => ⟨[], rfl, rfl, fun _ h => nomatch h⟩
  | d :: ds, h => by
    obtain ⟨ys, e, l, q⟩ := join_ok ds fun z hz => h z (List.mem_cons_of_mem _ hz)
    obtain ⟨s, rfl, hs⟩ := h d List.mem_cons_self
    refine ⟨s :: ys, by show (D.texts ds).map (s :: ·) = _; rw [e]; rfl, by rw [List.length_cons, List.length_cons, l], fun y hy => ?_⟩
    rcases List.mem_cons.mp hy with z | z
    · rw [z]; exact hs
    · exact q y z
theorem sum_le (ys : List Str) (h : ∀ y, y ∈ ys → y.length ≤ 1) : (ys.map (·.length)).sum ≤ ys.length := by
  induction ys with
  | nil => exact Nat.le_refl _
  | cons y ys ih =>
    rw [List.map_cons, List.sum_cons, List.length_cons]
    have h1 := h y List.mem_cons_self
    have h2 := ih fun z hz => h z (List.mem_cons_of_mem _ hz)
    omega
theorem join_len (sep : Str) (hs : sep.length = 0) : ∀ ys : List Str, (Str.join sep ys).length = (ys.map (·.length)).sum
  | [] => rfl
  | [y] => by show y.length = [y.length].sum; simp
  | x :: y :: ys => by
    show (x ++ sep ++ Str.join sep (y :: ys)).length = _
    rw [app_len, app_len, join_len sep hs (y :: ys), hs]
    simp only [List.map_cons, List.sum_cons]
    omega
theorem joined_dr (ds : List D) (n : Nat) (h : ds.length = n ∧ ∀ d, d ∈ ds → IsText 1 d) (hn : n ≤ 100) {k : Nat} : Draws k 0 (D.join "" (.lst ds)) (IsText n) := by
  obtain ⟨ys, e, l, q⟩ := join_ok ds h.2
  show Draws k 0 (M.opt (D.texts ds) >>= fun ys => M.guard (decide ((ys.map (·.length)).sum + ys.length * ("" : Str).length ≤ 16777216)) >>= fun _ => (pure (D.str (Txt.join "" ys)) : M D)) _
  rw [e, opt_some, pure_bb]
  have h0 : (("" : Str)).length = 0 := by decide +kernel
  have hs := sum_le ys q
  refine dr_guard (by rw [h0]; omega) (dr_pure ⟨_, rfl, ?_⟩)
  rw [TL.join_eq, join_len _ h0]
  omega
theorem word_dr {k : Nat} : Draws k 20 (m_l_word [.hnd k]) (IsText 10) := by
  show Draws k 20 (M.noexc (b_l_word (startE 3 [.hnd k]) >>= endOf)) _
  have e0 : startE 3 [.hnd k] = [some (.hnd k), none, none] := rfl
  rw [e0]
  refine dr_noexc ?_
  simp only [ap_var, ap_c, ap_bin, ap_chain, ap_bool, ap_tru, ap_neg, ap_an, ap_orr, ap_and, ap_or, ap_not, ap_if, ap_un, ap_nil, ap_cons, ap_tup, ap_lst, ap_lstH, ap_onone, ap_osome, ap_slice, ap_b, ap_jnil, ap_jcons, ap_joined, ap_m1, ap_ival, ap_range1, ap_range2, ap_gnam, ap_gsnil, ap_gscons, ap_gtp, ap_gsb, ap_lc, ap_lcH, ap_all, ap_app, ap_call, ap_callD, ap_snil, ap_scons, ap_ret, ap_retN, ap_expr, ap_sif, ap_asg, ap_set, ap_aug, ap_while, ap_for, ap_break, ap_cont, iadd_int, puto_some, slot_0, slot_s, pure_bb, bind_assoc', bad_bb, ite_bind', flow_nx, flow_rt, flow_bk, flow_ct, endOf_rt, endOf_nx, guard_t, guard_nn, wipe_1, bind_pure', opt_some, noexc_p, noexc_bind, noexc_ite, noexc_idem, noexc_guard, noexc_opt, noexc_bad, now_int, now_str, now_bl, now_non, now_tup, now_lst, now_frz, add_int, sub_int, lt_int', le_int', gt_int', ge_int', bool_bl, tru_bl, tru_int, toInt_int, toInt_bl, abs_int, max2_int, min2_int, len_lst, len_frz, len_tup, d1_one, d2_two, ref_hnd, part_int, text_str, gl0, gl1, gl2, gl3, gl4, gl5, gl6, gl7, gl8, gl9, gl10, gl11, gl12, gl13, gl14, gl15, gl16, gc0, gc1, gc2, gc3, gc4, gc5, gc6, gc7, gc8, List.cons_append, List.nil_append, Bool.not_true, Bool.not_false, List.set_cons_succ, List.set_cons_zero, if_true, if_false, Bool.false_eq_true, b_l_word]
  refine take_dr (c := 19) ⟨by decide, by decide⟩ fun r h0 h1 => ?_
  simp only [ap_var, ap_c, ap_bin, ap_chain, ap_bool, ap_tru, ap_neg, ap_an, ap_orr, ap_and, ap_or, ap_not, ap_if, ap_un, ap_nil, ap_cons, ap_tup, ap_lst, ap_lstH, ap_onone, ap_osome, ap_slice, ap_b, ap_jnil, ap_jcons, ap_joined, ap_m1, ap_ival, ap_range1, ap_range2, ap_gnam, ap_gsnil, ap_gscons, ap_gtp, ap_gsb, ap_lc, ap_lcH, ap_all, ap_app, ap_call, ap_callD, ap_snil, ap_scons, ap_ret, ap_retN, ap_expr, ap_sif, ap_asg, ap_set, ap_aug, ap_while, ap_for, ap_break, ap_cont, iadd_int, puto_some, slot_0, slot_s, pure_bb, bind_assoc', bad_bb, ite_bind', flow_nx, flow_rt, flow_bk, flow_ct, endOf_rt, endOf_nx, guard_t, guard_nn, wipe_1, bind_pure', opt_some, noexc_p, noexc_bind, noexc_ite, noexc_idem, noexc_guard, noexc_opt, noexc_bad, now_int, now_str, now_bl, now_non, now_tup, now_lst, now_frz, add_int, sub_int, lt_int', le_int', gt_int', ge_int', bool_bl, tru_bl, tru_int, toInt_int, toInt_bl, abs_int, max2_int, min2_int, len_lst, len_frz, len_tup, d1_one, d2_two, ref_hnd, part_int, text_str, gl0, gl1, gl2, gl3, gl4, gl5, gl6, gl7, gl8, gl9, gl10, gl11, gl12, gl13, gl14, gl15, gl16, gc0, gc1, gc2, gc3, gc4, gc5, gc6, gc7, gc8, List.cons_append, List.nil_append, Bool.not_true, Bool.not_false, List.set_cons_succ, List.set_cons_zero, if_true, if_false, Bool.false_eq_true]
  have hj : ∀ (x : Str) (n : Int) (fe : Mir.Env → M D), 0 < x.length ∧ x.length ≤ 1000 → 0 ≤ n ∧ n ≤ 8 → (∀ d, fe [some (.hnd k), some (.int r), some d] = m_l_take [.hnd k, .int x.length] >>= fun r => D.ix (.str x) r) →
      Draws k 9 (M.noexc (lcGo (gNam 2) tAll fe [some (.hnd k), some (.int r), none] (rangeD 0 n.toNat) []) >>= fun a => D.join "" (.lst a)) (IsText 10) := fun x n fe hx hn hfe => by
    refine dr_le (dr_bind (signs_dr (i := 2) hx ⟨hn.1, by omega⟩ hfe) fun ds hds => dr_imp (joined_dr ds n.toNat hds (by omega)) fun d hd => ?_) (show n.toNat + 0 ≤ 9 by omega)
    obtain ⟨s, e, l⟩ := hd
    exact ⟨s, e, by omega⟩
  refine dr_ite (fun _ => ?_) (fun _ => ?_)
  · unfold lcAll
    simp only [ap_var, ap_c, ap_bin, ap_chain, ap_bool, ap_tru, ap_neg, ap_an, ap_orr, ap_and, ap_or, ap_not, ap_if, ap_un, ap_nil, ap_cons, ap_tup, ap_lst, ap_lstH, ap_onone, ap_osome, ap_slice, ap_b, ap_jnil, ap_jcons, ap_joined, ap_m1, ap_ival, ap_range1, ap_range2, ap_gnam, ap_gsnil, ap_gscons, ap_gtp, ap_gsb, ap_lc, ap_lcH, ap_all, ap_app, ap_call, ap_callD, ap_snil, ap_scons, ap_ret, ap_retN, ap_expr, ap_sif, ap_asg, ap_set, ap_aug, ap_while, ap_for, ap_break, ap_cont, iadd_int, puto_some, slot_0, slot_s, pure_bb, bind_assoc', bad_bb, ite_bind', flow_nx, flow_rt, flow_bk, flow_ct, endOf_rt, endOf_nx, guard_t, guard_nn, wipe_1, bind_pure', opt_some, noexc_p, noexc_bind, noexc_ite, noexc_idem, noexc_guard, noexc_opt, noexc_bad, now_int, now_str, now_bl, now_non, now_tup, now_lst, now_frz, add_int, sub_int, lt_int', le_int', gt_int', ge_int', bool_bl, tru_bl, tru_int, toInt_int, toInt_bl, abs_int, max2_int, min2_int, len_lst, len_frz, len_tup, d1_one, d2_two, ref_hnd, part_int, text_str, gl0, gl1, gl2, gl3, gl4, gl5, gl6, gl7, gl8, gl9, gl10, gl11, gl12, gl13, gl14, gl15, gl16, gc0, gc1, gc2, gc3, gc4, gc5, gc6, gc7, gc8, List.cons_append, List.nil_append, Bool.not_true, Bool.not_false, List.set_cons_succ, List.set_cons_zero, if_true, if_false, Bool.false_eq_true]
    refine take_dr (c := 18) ⟨by decide, by decide⟩ fun q q0 q1 => ?_
    simp only [ap_var, ap_c, ap_bin, ap_chain, ap_bool, ap_tru, ap_neg, ap_an, ap_orr, ap_and, ap_or, ap_not, ap_if, ap_un, ap_nil, ap_cons, ap_tup, ap_lst, ap_lstH, ap_onone, ap_osome, ap_slice, ap_b, ap_jnil, ap_jcons, ap_joined, ap_m1, ap_ival, ap_range1, ap_range2, ap_gnam, ap_gsnil, ap_gscons, ap_gtp, ap_gsb, ap_lc, ap_lcH, ap_all, ap_app, ap_call, ap_callD, ap_snil, ap_scons, ap_ret, ap_retN, ap_expr, ap_sif, ap_asg, ap_set, ap_aug, ap_while, ap_for, ap_break, ap_cont, iadd_int, puto_some, slot_0, slot_s, pure_bb, bind_assoc', bad_bb, ite_bind', flow_nx, flow_rt, flow_bk, flow_ct, endOf_rt, endOf_nx, guard_t, guard_nn, wipe_1, bind_pure', opt_some, noexc_p, noexc_bind, noexc_ite, noexc_idem, noexc_guard, noexc_opt, noexc_bad, now_int, now_str, now_bl, now_non, now_tup, now_lst, now_frz, add_int, sub_int, lt_int', le_int', gt_int', ge_int', bool_bl, tru_bl, tru_int, toInt_int, toInt_bl, abs_int, max2_int, min2_int, len_lst, len_frz, len_tup, d1_one, d2_two, ref_hnd, part_int, text_str, gl0, gl1, gl2, gl3, gl4, gl5, gl6, gl7, gl8, gl9, gl10, gl11, gl12, gl13, gl14, gl15, gl16, gc0, gc1, gc2, gc3, gc4, gc5, gc6, gc7, gc8, List.cons_append, List.nil_append, Bool.not_true, Bool.not_false, List.set_cons_succ, List.set_cons_zero, if_true, if_false, Bool.false_eq_true]
    rw [range1_int _ ⟨by omega, by omega⟩]
    simp only [ap_var, ap_c, ap_bin, ap_chain, ap_bool, ap_tru, ap_neg, ap_an, ap_orr, ap_and, ap_or, ap_not, ap_if, ap_un, ap_nil, ap_cons, ap_tup, ap_lst, ap_lstH, ap_onone, ap_osome, ap_slice, ap_b, ap_jnil, ap_jcons, ap_joined, ap_m1, ap_ival, ap_range1, ap_range2, ap_gnam, ap_gsnil, ap_gscons, ap_gtp, ap_gsb, ap_lc, ap_lcH, ap_all, ap_app, ap_call, ap_callD, ap_snil, ap_scons, ap_ret, ap_retN, ap_expr, ap_sif, ap_asg, ap_set, ap_aug, ap_while, ap_for, ap_break, ap_cont, iadd_int, puto_some, slot_0, slot_s, pure_bb, bind_assoc', bad_bb, ite_bind', flow_nx, flow_rt, flow_bk, flow_ct, endOf_rt, endOf_nx, guard_t, guard_nn, wipe_1, bind_pure', opt_some, noexc_p, noexc_bind, noexc_ite, noexc_idem, noexc_guard, noexc_opt, noexc_bad, now_int, now_str, now_bl, now_non, now_tup, now_lst, now_frz, add_int, sub_int, lt_int', le_int', gt_int', ge_int', bool_bl, tru_bl, tru_int, toInt_int, toInt_bl, abs_int, max2_int, min2_int, len_lst, len_frz, len_tup, d1_one, d2_two, ref_hnd, part_int, text_str, gl0, gl1, gl2, gl3, gl4, gl5, gl6, gl7, gl8, gl9, gl10, gl11, gl12, gl13, gl14, gl15, gl16, gc0, gc1, gc2, gc3, gc4, gc5, gc6, gc7, gc8, List.cons_append, List.nil_append, Bool.not_true, Bool.not_false, List.set_cons_succ, List.set_cons_zero, if_true, if_false, Bool.false_eq_true]
    refine dr_le (hj "abcdefghijklmnopqrstuvwxyz" (1 + q) _ (by decide +kernel) ⟨by omega, by omega⟩ fun d => ?_) (by decide)
    simp only [ap_var, ap_c, ap_bin, ap_chain, ap_bool, ap_tru, ap_neg, ap_an, ap_orr, ap_and, ap_or, ap_not, ap_if, ap_un, ap_nil, ap_cons, ap_tup, ap_lst, ap_lstH, ap_onone, ap_osome, ap_slice, ap_b, ap_jnil, ap_jcons, ap_joined, ap_m1, ap_ival, ap_range1, ap_range2, ap_gnam, ap_gsnil, ap_gscons, ap_gtp, ap_gsb, ap_lc, ap_lcH, ap_all, ap_app, ap_call, ap_callD, ap_snil, ap_scons, ap_ret, ap_retN, ap_expr, ap_sif, ap_asg, ap_set, ap_aug, ap_while, ap_for, ap_break, ap_cont, iadd_int, puto_some, slot_0, slot_s, pure_bb, bind_assoc', bad_bb, ite_bind', flow_nx, flow_rt, flow_bk, flow_ct, endOf_rt, endOf_nx, guard_t, guard_nn, wipe_1, bind_pure', opt_some, noexc_p, noexc_bind, noexc_ite, noexc_idem, noexc_guard, noexc_opt, noexc_bad, now_int, now_str, now_bl, now_non, now_tup, now_lst, now_frz, add_int, sub_int, lt_int', le_int', gt_int', ge_int', bool_bl, tru_bl, tru_int, toInt_int, toInt_bl, abs_int, max2_int, min2_int, len_lst, len_frz, len_tup, d1_one, d2_two, ref_hnd, part_int, text_str, gl0, gl1, gl2, gl3, gl4, gl5, gl6, gl7, gl8, gl9, gl10, gl11, gl12, gl13, gl14, gl15, gl16, gc0, gc1, gc2, gc3, gc4, gc5, gc6, gc7, gc8, List.cons_append, List.nil_append, Bool.not_true, Bool.not_false, List.set_cons_succ, List.set_cons_zero, if_true, if_false, Bool.false_eq_true]
    rfl
  · refine dr_ite (fun _ => ?_) (fun _ => ?_)
    · refine dr_le (dr_bind number_dr (c' := 0) fun d hd => ?_) (show 3 + 0 ≤ 19 by decide)
      obtain ⟨s, rfl, hs⟩ := hd
      rw [add_str _ _ (Nat.le_trans (show ("f" : Str).length + s.length ≤ 5 by rw [f_is]; show 1 + s.length ≤ 5; omega) (by decide))]
      exact dr_pure ⟨_, rfl, by rw [app_len, f_is]; show 1 + s.length ≤ 10; omega⟩
    · rw [eq_int']
      simp only [ap_var, ap_c, ap_bin, ap_chain, ap_bool, ap_tru, ap_neg, ap_an, ap_orr, ap_and, ap_or, ap_not, ap_if, ap_un, ap_nil, ap_cons, ap_tup, ap_lst, ap_lstH, ap_onone, ap_osome, ap_slice, ap_b, ap_jnil, ap_jcons, ap_joined, ap_m1, ap_ival, ap_range1, ap_range2, ap_gnam, ap_gsnil, ap_gscons, ap_gtp, ap_gsb, ap_lc, ap_lcH, ap_all, ap_app, ap_call, ap_callD, ap_snil, ap_scons, ap_ret, ap_retN, ap_expr, ap_sif, ap_asg, ap_set, ap_aug, ap_while, ap_for, ap_break, ap_cont, iadd_int, puto_some, slot_0, slot_s, pure_bb, bind_assoc', bad_bb, ite_bind', flow_nx, flow_rt, flow_bk, flow_ct, endOf_rt, endOf_nx, guard_t, guard_nn, wipe_1, bind_pure', opt_some, noexc_p, noexc_bind, noexc_ite, noexc_idem, noexc_guard, noexc_opt, noexc_bad, now_int, now_str, now_bl, now_non, now_tup, now_lst, now_frz, add_int, sub_int, lt_int', le_int', gt_int', ge_int', bool_bl, tru_bl, tru_int, toInt_int, toInt_bl, abs_int, max2_int, min2_int, len_lst, len_frz, len_tup, d1_one, d2_two, ref_hnd, part_int, text_str, gl0, gl1, gl2, gl3, gl4, gl5, gl6, gl7, gl8, gl9, gl10, gl11, gl12, gl13, gl14, gl15, gl16, gc0, gc1, gc2, gc3, gc4, gc5, gc6, gc7, gc8, List.cons_append, List.nil_append, Bool.not_true, Bool.not_false, List.set_cons_succ, List.set_cons_zero, if_true, if_false, Bool.false_eq_true]
      refine dr_ite (fun _ => ?_) (fun _ => ?_)
      · refine dr_le (take_dr (c := 3) ⟨by decide, by decide⟩ fun q q0 q1 => ?_) (show 1 + 3 ≤ 19 by decide)
        obtain ⟨c, hc⟩ := sign_at (x := ("abfpxz" : Str)) q0 (by rw [show ("abfpxz" : Str).length = 6 by decide +kernel]; exact q1)
        rw [dx_str _ q (by decide +kernel), hc]
        simp only [ap_var, ap_c, ap_bin, ap_chain, ap_bool, ap_tru, ap_neg, ap_an, ap_orr, ap_and, ap_or, ap_not, ap_if, ap_un, ap_nil, ap_cons, ap_tup, ap_lst, ap_lstH, ap_onone, ap_osome, ap_slice, ap_b, ap_jnil, ap_jcons, ap_joined, ap_m1, ap_ival, ap_range1, ap_range2, ap_gnam, ap_gsnil, ap_gscons, ap_gtp, ap_gsb, ap_lc, ap_lcH, ap_all, ap_app, ap_call, ap_callD, ap_snil, ap_scons, ap_ret, ap_retN, ap_expr, ap_sif, ap_asg, ap_set, ap_aug, ap_while, ap_for, ap_break, ap_cont, iadd_int, puto_some, slot_0, slot_s, pure_bb, bind_assoc', bad_bb, ite_bind', flow_nx, flow_rt, flow_bk, flow_ct, endOf_rt, endOf_nx, guard_t, guard_nn, wipe_1, bind_pure', opt_some, noexc_p, noexc_bind, noexc_ite, noexc_idem, noexc_guard, noexc_opt, noexc_bad, now_int, now_str, now_bl, now_non, now_tup, now_lst, now_frz, add_int, sub_int, lt_int', le_int', gt_int', ge_int', bool_bl, tru_bl, tru_int, toInt_int, toInt_bl, abs_int, max2_int, min2_int, len_lst, len_frz, len_tup, d1_one, d2_two, ref_hnd, part_int, text_str, gl0, gl1, gl2, gl3, gl4, gl5, gl6, gl7, gl8, gl9, gl10, gl11, gl12, gl13, gl14, gl15, gl16, gc0, gc1, gc2, gc3, gc4, gc5, gc6, gc7, gc8, List.cons_append, List.nil_append, Bool.not_true, Bool.not_false, List.set_cons_succ, List.set_cons_zero, if_true, if_false, Bool.false_eq_true, Option.map_some]
        refine dr_bind number_dr (c' := 0) fun d hd => ?_
        obtain ⟨s, rfl, hs⟩ := hd
        rw [add_str _ _ (Nat.le_trans (show (⟨#[c]⟩ : Str).length + s.length ≤ 5 by show 1 + s.length ≤ 5; omega) (by decide))]
        exact dr_pure ⟨_, rfl, by rw [app_len]; show 1 + s.length ≤ 10; omega⟩
      · unfold lcAll
        simp only [ap_var, ap_c, ap_bin, ap_chain, ap_bool, ap_tru, ap_neg, ap_an, ap_orr, ap_and, ap_or, ap_not, ap_if, ap_un, ap_nil, ap_cons, ap_tup, ap_lst, ap_lstH, ap_onone, ap_osome, ap_slice, ap_b, ap_jnil, ap_jcons, ap_joined, ap_m1, ap_ival, ap_range1, ap_range2, ap_gnam, ap_gsnil, ap_gscons, ap_gtp, ap_gsb, ap_lc, ap_lcH, ap_all, ap_app, ap_call, ap_callD, ap_snil, ap_scons, ap_ret, ap_retN, ap_expr, ap_sif, ap_asg, ap_set, ap_aug, ap_while, ap_for, ap_break, ap_cont, iadd_int, puto_some, slot_0, slot_s, pure_bb, bind_assoc', bad_bb, ite_bind', flow_nx, flow_rt, flow_bk, flow_ct, endOf_rt, endOf_nx, guard_t, guard_nn, wipe_1, bind_pure', opt_some, noexc_p, noexc_bind, noexc_ite, noexc_idem, noexc_guard, noexc_opt, noexc_bad, now_int, now_str, now_bl, now_non, now_tup, now_lst, now_frz, add_int, sub_int, lt_int', le_int', gt_int', ge_int', bool_bl, tru_bl, tru_int, toInt_int, toInt_bl, abs_int, max2_int, min2_int, len_lst, len_frz, len_tup, d1_one, d2_two, ref_hnd, part_int, text_str, gl0, gl1, gl2, gl3, gl4, gl5, gl6, gl7, gl8, gl9, gl10, gl11, gl12, gl13, gl14, gl15, gl16, gc0, gc1, gc2, gc3, gc4, gc5, gc6, gc7, gc8, List.cons_append, List.nil_append, Bool.not_true, Bool.not_false, List.set_cons_succ, List.set_cons_zero, if_true, if_false, Bool.false_eq_true]
        refine take_dr (c := 18) ⟨by decide, by decide⟩ fun q q0 q1 => ?_
        rw [range1_int _ ⟨by omega, by omega⟩]
        simp only [ap_var, ap_c, ap_bin, ap_chain, ap_bool, ap_tru, ap_neg, ap_an, ap_orr, ap_and, ap_or, ap_not, ap_if, ap_un, ap_nil, ap_cons, ap_tup, ap_lst, ap_lstH, ap_onone, ap_osome, ap_slice, ap_b, ap_jnil, ap_jcons, ap_joined, ap_m1, ap_ival, ap_range1, ap_range2, ap_gnam, ap_gsnil, ap_gscons, ap_gtp, ap_gsb, ap_lc, ap_lcH, ap_all, ap_app, ap_call, ap_callD, ap_snil, ap_scons, ap_ret, ap_retN, ap_expr, ap_sif, ap_asg, ap_set, ap_aug, ap_while, ap_for, ap_break, ap_cont, iadd_int, puto_some, slot_0, slot_s, pure_bb, bind_assoc', bad_bb, ite_bind', flow_nx, flow_rt, flow_bk, flow_ct, endOf_rt, endOf_nx, guard_t, guard_nn, wipe_1, bind_pure', opt_some, noexc_p, noexc_bind, noexc_ite, noexc_idem, noexc_guard, noexc_opt, noexc_bad, now_int, now_str, now_bl, now_non, now_tup, now_lst, now_frz, add_int, sub_int, lt_int', le_int', gt_int', ge_int', bool_bl, tru_bl, tru_int, toInt_int, toInt_bl, abs_int, max2_int, min2_int, len_lst, len_frz, len_tup, d1_one, d2_two, ref_hnd, part_int, text_str, gl0, gl1, gl2, gl3, gl4, gl5, gl6, gl7, gl8, gl9, gl10, gl11, gl12, gl13, gl14, gl15, gl16, gc0, gc1, gc2, gc3, gc4, gc5, gc6, gc7, gc8, List.cons_append, List.nil_append, Bool.not_true, Bool.not_false, List.set_cons_succ, List.set_cons_zero, if_true, if_false, Bool.false_eq_true]
        refine dr_le (hj "af0159xAZ _-@!" q _ (by decide +kernel) ⟨by omega, by omega⟩ fun d => ?_) (by decide)
        simp only [ap_var, ap_c, ap_bin, ap_chain, ap_bool, ap_tru, ap_neg, ap_an, ap_orr, ap_and, ap_or, ap_not, ap_if, ap_un, ap_nil, ap_cons, ap_tup, ap_lst, ap_lstH, ap_onone, ap_osome, ap_slice, ap_b, ap_jnil, ap_jcons, ap_joined, ap_m1, ap_ival, ap_range1, ap_range2, ap_gnam, ap_gsnil, ap_gscons, ap_gtp, ap_gsb, ap_lc, ap_lcH, ap_all, ap_app, ap_call, ap_callD, ap_snil, ap_scons, ap_ret, ap_retN, ap_expr, ap_sif, ap_asg, ap_set, ap_aug, ap_while, ap_for, ap_break, ap_cont, iadd_int, puto_some, slot_0, slot_s, pure_bb, bind_assoc', bad_bb, ite_bind', flow_nx, flow_rt, flow_bk, flow_ct, endOf_rt, endOf_nx, guard_t, guard_nn, wipe_1, bind_pure', opt_some, noexc_p, noexc_bind, noexc_ite, noexc_idem, noexc_guard, noexc_opt, noexc_bad, now_int, now_str, now_bl, now_non, now_tup, now_lst, now_frz, add_int, sub_int, lt_int', le_int', gt_int', ge_int', bool_bl, tru_bl, tru_int, toInt_int, toInt_bl, abs_int, max2_int, min2_int, len_lst, len_frz, len_tup, d1_one, d2_two, ref_hnd, part_int, text_str, gl0, gl1, gl2, gl3, gl4, gl5, gl6, gl7, gl8, gl9, gl10, gl11, gl12, gl13, gl14, gl15, gl16, gc0, gc1, gc2, gc3, gc4, gc5, gc6, gc7, gc8, List.cons_append, List.nil_append, Bool.not_true, Bool.not_false, List.set_cons_succ, List.set_cons_zero, if_true, if_false, Bool.false_eq_true]
        rfl
theorem cut_pre (s : Str) {a : Int} (h : 0 ≤ a) : (cutS s none (some a)).length ≤ a.toNat ∧ (cutS s none (some a)).length ≤ s.length := by
  obtain ⟨n, rfl⟩ := Int.eq_ofNat_of_zero_le h
  have hl := str_length s
  rw [str_length]
  unfold cutS
  rw [str_mk_toList, HT.sIx_nat, HT.sIx_none, List.length_take, List.length_drop]
  show min (min n s.length - 0) (s.cps.toList.length - 0) ≤ (n : Int).toNat ∧ _
  omega
theorem cut_suf (s : Str) {a : Int} (h : 0 ≤ a) : (cutS s (some a) none).length ≤ s.length - a.toNat := by
  obtain ⟨n, rfl⟩ := Int.eq_ofNat_of_zero_le h
  have hl := str_length s
  rw [str_length]
  unfold cutS
  rw [str_mk_toList, HT.sIx_nat, HT.sIx_none, List.length_take, List.length_drop]
  show min (s.length - min n s.length) (s.cps.toList.length - min n s.length) ≤ s.length - (n : Int).toNat
  omega
theorem add_small (a b : Str) (h : a.length + b.length ≤ 1000) : D.add (.str a) (.str b) = pure (.str (a ++ b)) := add_str a b (Nat.le_trans h (by decide))
theorem bent_dr {k : Nat} {s : Str} {n : Nat} (hs : s.length ≤ n) (hn : n ≤ 500) : Draws k 3 (m_l_bent [.hnd k, .str s]) (IsText (n + 1)) := by
  show Draws k 3 (M.noexc (b_l_bent (startE 5 [.hnd k, .str s]) >>= endOf)) _
  have e0 : startE 5 [.hnd k, .str s] = [some (.hnd k), some (.str s), none, none, none] := rfl
  rw [e0]
  refine dr_noexc ?_
  simp only [ap_var, ap_c, ap_bin, ap_chain, ap_bool, ap_tru, ap_neg, ap_an, ap_orr, ap_and, ap_or, ap_not, ap_if, ap_un, ap_nil, ap_cons, ap_tup, ap_lst, ap_lstH, ap_onone, ap_osome, ap_slice, ap_b, ap_jnil, ap_jcons, ap_joined, ap_m1, ap_ival, ap_range1, ap_range2, ap_gnam, ap_gsnil, ap_gscons, ap_gtp, ap_gsb, ap_lc, ap_lcH, ap_all, ap_app, ap_call, ap_callD, ap_snil, ap_scons, ap_ret, ap_retN, ap_expr, ap_sif, ap_asg, ap_set, ap_aug, ap_while, ap_for, ap_break, ap_cont, iadd_int, puto_some, slot_0, slot_s, pure_bb, bind_assoc', bad_bb, ite_bind', flow_nx, flow_rt, flow_bk, flow_ct, endOf_rt, endOf_nx, guard_t, guard_nn, wipe_1, bind_pure', opt_some, noexc_p, noexc_bind, noexc_ite, noexc_idem, noexc_guard, noexc_opt, noexc_bad, now_int, now_str, now_bl, now_non, now_tup, now_lst, now_frz, add_int, sub_int, lt_int', le_int', gt_int', ge_int', bool_bl, tru_bl, tru_int, toInt_int, toInt_bl, abs_int, max2_int, min2_int, len_lst, len_frz, len_tup, d1_one, d2_two, ref_hnd, part_int, text_str, gl0, gl1, gl2, gl3, gl4, gl5, gl6, gl7, gl8, gl9, gl10, gl11, gl12, gl13, gl14, gl15, gl16, gc0, gc1, gc2, gc3, gc4, gc5, gc6, gc7, gc8, List.cons_append, List.nil_append, Bool.not_true, Bool.not_false, List.set_cons_succ, List.set_cons_zero, if_true, if_false, Bool.false_eq_true, b_l_bent, len_str s (str_len (show s.length ≤ 1000 by omega))]
  refine take_dr (c := 2) ⟨by omega, by omega⟩ fun a a0 a1 => ?_
  simp only [ap_var, ap_c, ap_bin, ap_chain, ap_bool, ap_tru, ap_neg, ap_an, ap_orr, ap_and, ap_or, ap_not, ap_if, ap_un, ap_nil, ap_cons, ap_tup, ap_lst, ap_lstH, ap_onone, ap_osome, ap_slice, ap_b, ap_jnil, ap_jcons, ap_joined, ap_m1, ap_ival, ap_range1, ap_range2, ap_gnam, ap_gsnil, ap_gscons, ap_gtp, ap_gsb, ap_lc, ap_lcH, ap_all, ap_app, ap_call, ap_callD, ap_snil, ap_scons, ap_ret, ap_retN, ap_expr, ap_sif, ap_asg, ap_set, ap_aug, ap_while, ap_for, ap_break, ap_cont, iadd_int, puto_some, slot_0, slot_s, pure_bb, bind_assoc', bad_bb, ite_bind', flow_nx, flow_rt, flow_bk, flow_ct, endOf_rt, endOf_nx, guard_t, guard_nn, wipe_1, bind_pure', opt_some, noexc_p, noexc_bind, noexc_ite, noexc_idem, noexc_guard, noexc_opt, noexc_bad, now_int, now_str, now_bl, now_non, now_tup, now_lst, now_frz, add_int, sub_int, lt_int', le_int', gt_int', ge_int', bool_bl, tru_bl, tru_int, toInt_int, toInt_bl, abs_int, max2_int, min2_int, len_lst, len_frz, len_tup, d1_one, d2_two, ref_hnd, part_int, text_str, gl0, gl1, gl2, gl3, gl4, gl5, gl6, gl7, gl8, gl9, gl10, gl11, gl12, gl13, gl14, gl15, gl16, gc0, gc1, gc2, gc3, gc4, gc5, gc6, gc7, gc8, List.cons_append, List.nil_append, Bool.not_true, Bool.not_false, List.set_cons_succ, List.set_cons_zero, if_true, if_false, Bool.false_eq_true]
  refine take_dr (c := 1) ⟨by decide, by decide⟩ fun g g0 g1 => ?_
  obtain ⟨c, hc⟩ := sign_at (x := ("af09FZ -" : Str)) g0 (by rw [show ("af09FZ -" : Str).length = 8 by decide +kernel]; exact g1)
  rw [dx_str _ g (by decide +kernel), hc]
  simp only [ap_var, ap_c, ap_bin, ap_chain, ap_bool, ap_tru, ap_neg, ap_an, ap_orr, ap_and, ap_or, ap_not, ap_if, ap_un, ap_nil, ap_cons, ap_tup, ap_lst, ap_lstH, ap_onone, ap_osome, ap_slice, ap_b, ap_jnil, ap_jcons, ap_joined, ap_m1, ap_ival, ap_range1, ap_range2, ap_gnam, ap_gsnil, ap_gscons, ap_gtp, ap_gsb, ap_lc, ap_lcH, ap_all, ap_app, ap_call, ap_callD, ap_snil, ap_scons, ap_ret, ap_retN, ap_expr, ap_sif, ap_asg, ap_set, ap_aug, ap_while, ap_for, ap_break, ap_cont, iadd_int, puto_some, slot_0, slot_s, pure_bb, bind_assoc', bad_bb, ite_bind', flow_nx, flow_rt, flow_bk, flow_ct, endOf_rt, endOf_nx, guard_t, guard_nn, wipe_1, bind_pure', opt_some, noexc_p, noexc_bind, noexc_ite, noexc_idem, noexc_guard, noexc_opt, noexc_bad, now_int, now_str, now_bl, now_non, now_tup, now_lst, now_frz, add_int, sub_int, lt_int', le_int', gt_int', ge_int', bool_bl, tru_bl, tru_int, toInt_int, toInt_bl, abs_int, max2_int, min2_int, len_lst, len_frz, len_tup, d1_one, d2_two, ref_hnd, part_int, text_str, gl0, gl1, gl2, gl3, gl4, gl5, gl6, gl7, gl8, gl9, gl10, gl11, gl12, gl13, gl14, gl15, gl16, gc0, gc1, gc2, gc3, gc4, gc5, gc6, gc7, gc8, List.cons_append, List.nil_append, Bool.not_true, Bool.not_false, List.set_cons_succ, List.set_cons_zero, if_true, if_false, Bool.false_eq_true, Option.map_some]
  have hs2 := str_len (show s.length ≤ 1000 by omega)
  have p1 := cut_pre s a0
  have p2 := cut_suf s a0
  have p3 := cut_suf s (a := a + 1) (by omega)
  have p4 : (⟨#[c]⟩ : Str).length = 1 := rfl
  have p5 := app_len (cutS s none (some a)) ⟨#[c]⟩
  have q1 := app_len (cutS s none (some a) ++ ⟨#[c]⟩) (cutS s (some a) none)
  have q2 := app_len (cutS s none (some a)) (cutS s (some (a + 1)) none)
  have q3 := app_len (cutS s none (some a) ++ ⟨#[c]⟩) (cutS s (some (a + 1)) none)
  simp only [ap_var, ap_c, ap_bin, ap_chain, ap_bool, ap_tru, ap_neg, ap_an, ap_orr, ap_and, ap_or, ap_not, ap_if, ap_un, ap_nil, ap_cons, ap_tup, ap_lst, ap_lstH, ap_onone, ap_osome, ap_slice, ap_b, ap_jnil, ap_jcons, ap_joined, ap_m1, ap_ival, ap_range1, ap_range2, ap_gnam, ap_gsnil, ap_gscons, ap_gtp, ap_gsb, ap_lc, ap_lcH, ap_all, ap_app, ap_call, ap_callD, ap_snil, ap_scons, ap_ret, ap_retN, ap_expr, ap_sif, ap_asg, ap_set, ap_aug, ap_while, ap_for, ap_break, ap_cont, iadd_int, puto_some, slot_0, slot_s, pure_bb, bind_assoc', bad_bb, ite_bind', flow_nx, flow_rt, flow_bk, flow_ct, endOf_rt, endOf_nx, guard_t, guard_nn, wipe_1, bind_pure', opt_some, noexc_p, noexc_bind, noexc_ite, noexc_idem, noexc_guard, noexc_opt, noexc_bad, now_int, now_str, now_bl, now_non, now_tup, now_lst, now_frz, add_int, sub_int, lt_int', le_int', gt_int', ge_int', bool_bl, tru_bl, tru_int, toInt_int, toInt_bl, abs_int, max2_int, min2_int, len_lst, len_frz, len_tup, d1_one, d2_two, ref_hnd, part_int, text_str, gl0, gl1, gl2, gl3, gl4, gl5, gl6, gl7, gl8, gl9, gl10, gl11, gl12, gl13, gl14, gl15, gl16, gc0, gc1, gc2, gc3, gc4, gc5, gc6, gc7, gc8, List.cons_append, List.nil_append, Bool.not_true, Bool.not_false, List.set_cons_succ, List.set_cons_zero, if_true, if_false, Bool.false_eq_true, slice_str s none (some a) hs2, slice_str s (some a) none hs2, slice_str s (some (a + 1)) none hs2]
  rw [add_small (cutS s none (some a)) ⟨#[c]⟩ (by omega)]
  simp only [ap_var, ap_c, ap_bin, ap_chain, ap_bool, ap_tru, ap_neg, ap_an, ap_orr, ap_and, ap_or, ap_not, ap_if, ap_un, ap_nil, ap_cons, ap_tup, ap_lst, ap_lstH, ap_onone, ap_osome, ap_slice, ap_b, ap_jnil, ap_jcons, ap_joined, ap_m1, ap_ival, ap_range1, ap_range2, ap_gnam, ap_gsnil, ap_gscons, ap_gtp, ap_gsb, ap_lc, ap_lcH, ap_all, ap_app, ap_call, ap_callD, ap_snil, ap_scons, ap_ret, ap_retN, ap_expr, ap_sif, ap_asg, ap_set, ap_aug, ap_while, ap_for, ap_break, ap_cont, iadd_int, puto_some, slot_0, slot_s, pure_bb, bind_assoc', bad_bb, ite_bind', flow_nx, flow_rt, flow_bk, flow_ct, endOf_rt, endOf_nx, guard_t, guard_nn, wipe_1, bind_pure', opt_some, noexc_p, noexc_bind, noexc_ite, noexc_idem, noexc_guard, noexc_opt, noexc_bad, now_int, now_str, now_bl, now_non, now_tup, now_lst, now_frz, add_int, sub_int, lt_int', le_int', gt_int', ge_int', bool_bl, tru_bl, tru_int, toInt_int, toInt_bl, abs_int, max2_int, min2_int, len_lst, len_frz, len_tup, d1_one, d2_two, ref_hnd, part_int, text_str, gl0, gl1, gl2, gl3, gl4, gl5, gl6, gl7, gl8, gl9, gl10, gl11, gl12, gl13, gl14, gl15, gl16, gc0, gc1, gc2, gc3, gc4, gc5, gc6, gc7, gc8, List.cons_append, List.nil_append, Bool.not_true, Bool.not_false, List.set_cons_succ, List.set_cons_zero, if_true, if_false, Bool.false_eq_true]
  rw [add_small (cutS s none (some a) ++ ⟨#[c]⟩) (cutS s (some a) none) (by omega)]
  simp only [ap_var, ap_c, ap_bin, ap_chain, ap_bool, ap_tru, ap_neg, ap_an, ap_orr, ap_and, ap_or, ap_not, ap_if, ap_un, ap_nil, ap_cons, ap_tup, ap_lst, ap_lstH, ap_onone, ap_osome, ap_slice, ap_b, ap_jnil, ap_jcons, ap_joined, ap_m1, ap_ival, ap_range1, ap_range2, ap_gnam, ap_gsnil, ap_gscons, ap_gtp, ap_gsb, ap_lc, ap_lcH, ap_all, ap_app, ap_call, ap_callD, ap_snil, ap_scons, ap_ret, ap_retN, ap_expr, ap_sif, ap_asg, ap_set, ap_aug, ap_while, ap_for, ap_break, ap_cont, iadd_int, puto_some, slot_0, slot_s, pure_bb, bind_assoc', bad_bb, ite_bind', flow_nx, flow_rt, flow_bk, flow_ct, endOf_rt, endOf_nx, guard_t, guard_nn, wipe_1, bind_pure', opt_some, noexc_p, noexc_bind, noexc_ite, noexc_idem, noexc_guard, noexc_opt, noexc_bad, now_int, now_str, now_bl, now_non, now_tup, now_lst, now_frz, add_int, sub_int, lt_int', le_int', gt_int', ge_int', bool_bl, tru_bl, tru_int, toInt_int, toInt_bl, abs_int, max2_int, min2_int, len_lst, len_frz, len_tup, d1_one, d2_two, ref_hnd, part_int, text_str, gl0, gl1, gl2, gl3, gl4, gl5, gl6, gl7, gl8, gl9, gl10, gl11, gl12, gl13, gl14, gl15, gl16, gc0, gc1, gc2, gc3, gc4, gc5, gc6, gc7, gc8, List.cons_append, List.nil_append, Bool.not_true, Bool.not_false, List.set_cons_succ, List.set_cons_zero, if_true, if_false, Bool.false_eq_true]
  rw [add_small (cutS s none (some a)) (cutS s (some (a + 1)) none) (by omega)]
  simp only [ap_var, ap_c, ap_bin, ap_chain, ap_bool, ap_tru, ap_neg, ap_an, ap_orr, ap_and, ap_or, ap_not, ap_if, ap_un, ap_nil, ap_cons, ap_tup, ap_lst, ap_lstH, ap_onone, ap_osome, ap_slice, ap_b, ap_jnil, ap_jcons, ap_joined, ap_m1, ap_ival, ap_range1, ap_range2, ap_gnam, ap_gsnil, ap_gscons, ap_gtp, ap_gsb, ap_lc, ap_lcH, ap_all, ap_app, ap_call, ap_callD, ap_snil, ap_scons, ap_ret, ap_retN, ap_expr, ap_sif, ap_asg, ap_set, ap_aug, ap_while, ap_for, ap_break, ap_cont, iadd_int, puto_some, slot_0, slot_s, pure_bb, bind_assoc', bad_bb, ite_bind', flow_nx, flow_rt, flow_bk, flow_ct, endOf_rt, endOf_nx, guard_t, guard_nn, wipe_1, bind_pure', opt_some, noexc_p, noexc_bind, noexc_ite, noexc_idem, noexc_guard, noexc_opt, noexc_bad, now_int, now_str, now_bl, now_non, now_tup, now_lst, now_frz, add_int, sub_int, lt_int', le_int', gt_int', ge_int', bool_bl, tru_bl, tru_int, toInt_int, toInt_bl, abs_int, max2_int, min2_int, len_lst, len_frz, len_tup, d1_one, d2_two, ref_hnd, part_int, text_str, gl0, gl1, gl2, gl3, gl4, gl5, gl6, gl7, gl8, gl9, gl10, gl11, gl12, gl13, gl14, gl15, gl16, gc0, gc1, gc2, gc3, gc4, gc5, gc6, gc7, gc8, List.cons_append, List.nil_append, Bool.not_true, Bool.not_false, List.set_cons_succ, List.set_cons_zero, if_true, if_false, Bool.false_eq_true]
  rw [add_small (cutS s none (some a) ++ ⟨#[c]⟩) (cutS s (some (a + 1)) none) (by omega)]
  simp only [ap_var, ap_c, ap_bin, ap_chain, ap_bool, ap_tru, ap_neg, ap_an, ap_orr, ap_and, ap_or, ap_not, ap_if, ap_un, ap_nil, ap_cons, ap_tup, ap_lst, ap_lstH, ap_onone, ap_osome, ap_slice, ap_b, ap_jnil, ap_jcons, ap_joined, ap_m1, ap_ival, ap_range1, ap_range2, ap_gnam, ap_gsnil, ap_gscons, ap_gtp, ap_gsb, ap_lc, ap_lcH, ap_all, ap_app, ap_call, ap_callD, ap_snil, ap_scons, ap_ret, ap_retN, ap_expr, ap_sif, ap_asg, ap_set, ap_aug, ap_while, ap_for, ap_break, ap_cont, iadd_int, puto_some, slot_0, slot_s, pure_bb, bind_assoc', bad_bb, ite_bind', flow_nx, flow_rt, flow_bk, flow_ct, endOf_rt, endOf_nx, guard_t, guard_nn, wipe_1, bind_pure', opt_some, noexc_p, noexc_bind, noexc_ite, noexc_idem, noexc_guard, noexc_opt, noexc_bad, now_int, now_str, now_bl, now_non, now_tup, now_lst, now_frz, add_int, sub_int, lt_int', le_int', gt_int', ge_int', bool_bl, tru_bl, tru_int, toInt_int, toInt_bl, abs_int, max2_int, min2_int, len_lst, len_frz, len_tup, d1_one, d2_two, ref_hnd, part_int, text_str, gl0, gl1, gl2, gl3, gl4, gl5, gl6, gl7, gl8, gl9, gl10, gl11, gl12, gl13, gl14, gl15, gl16, gc0, gc1, gc2, gc3, gc4, gc5, gc6, gc7, gc8, List.cons_append, List.nil_append, Bool.not_true, Bool.not_false, List.set_cons_succ, List.set_cons_zero, if_true, if_false, Bool.false_eq_true]
  refine take_dr (c := 0) ⟨by decide, by decide⟩ fun r r0 r1 => ?_
  rw [dx_lst]
  obtain ⟨d, hd, e1⟩ := pick_at (ds := [.str (cutS s none (some a) ++ ⟨#[c]⟩ ++ cutS s (some a) none), .str (cutS s none (some a) ++ cutS s (some (a + 1)) none), .str (cutS s none (some a) ++ ⟨#[c]⟩ ++ cutS s (some (a + 1)) none)]) r0 r1
  rw [e1]
  simp only [List.mem_cons, List.not_mem_nil, or_false] at hd
  rcases hd with rfl | rfl | rfl
  · exact dr_pure ⟨_, rfl, by omega⟩
  · exact dr_pure ⟨_, rfl, by omega⟩
  · exact dr_pure ⟨_, rfl, by omega⟩
end LW
set_option maxRecDepth 100000
set_option maxHeartbeats 4000000
namespace LW
open PySem L2 Mir
def fk (n : Nat) : Str := ("f" : Str) ++ ((toString ((n : Nat) : Int) : String) : Str)
theorem empty_app (x : Str) : Str.empty ++ x = x := str_inj (by
  show (#[] ++ x.cps).toList = _
  simp)
theorem fk_len {n : Nat} (h : n < 1000) : (fk n).length ≤ 4 := by
  unfold fk
  have := (str_small n h).2
  rw [app_len, f_is]
  show 1 + _ ≤ 4
  omega
theorem pigeon : ∀ (l names : List Str), l.Nodup → (∀ x, x ∈ l → x ∈ names) → l.length ≤ names.length
  | [], _, _, _ => Nat.zero_le _
  | x :: l, names, nd, h => by
    rw [List.nodup_cons] at nd
    have h1 := pigeon l (names.erase x) nd.2 fun y hy => (List.mem_erase_of_ne (fun e => nd.1 (by rw [← e]; exact hy))).mpr (h y (List.mem_cons_of_mem _ hy))
    have hx := h x List.mem_cons_self
    rw [List.length_erase_of_mem hx] at h1
    have : 0 < names.length := List.length_pos_of_mem hx
    rw [List.length_cons]
    omega
theorem fks_nodup : ((List.range 13).map fk).Nodup := by decide +kernel
theorem first_free (names : List Str) (h : names.length ≤ 12) : ∃ k, k < 13 ∧ fk k ∉ names ∧ ∀ j, j < k → fk j ∈ names := by
  have hex : ∃ k, k < 13 ∧ fk k ∉ names := by
    refine Classical.byContradiction fun hn => ?_
    have := pigeon ((List.range 13).map fk) names fks_nodup fun x hx => by
      obtain ⟨k, hk, rfl⟩ := List.mem_map.mp hx
      exact Classical.byContradiction fun q => hn ⟨k, List.mem_range.mp hk, q⟩
    rw [List.length_map, List.length_range] at this
    omega
  obtain ⟨k, hk, hf⟩ := hex
  induction k using Nat.strongRecOn with
  | ind k ih =>
    by_cases c : ∃ j, j < k ∧ fk j ∉ names
    · obtain ⟨j, hj, hq⟩ := c
      exact ih j hj (by omega) hq
    · exact ⟨k, hk, hf, fun j hj => Classical.byContradiction fun q => c ⟨j, hj, q⟩⟩
theorem any_mem (x : Str) (ts : List Str) : (ts.any fun y => y == x) = decide (x ∈ ts) := by
  rw [Bool.eq_iff_iff, decide_eq_true_eq, List.any_eq_true]
  exact ⟨fun ⟨y, h1, h2⟩ => by rw [← eq_of_beq h2]; exact h1, fun h => ⟨x, h, beq_self_eq_true x⟩⟩
theorem in_tup (x : Str) (ts : List Str) : D.isIn (.str x) (.tup (ts.map D.str)) = pure (.bl (decide (x ∈ ts))) := by
  have hf : (ts.map D.str).all D.flat = true := by simp [D.flat]
  have e1 : ((D.str x).flat && (ts.map D.str).all D.flat) = true := by rw [hf]; rfl
  show D.inSeq false (.str x) (ts.map D.str) = _
  unfold D.inSeq
  rw [e1, guard_t, pure_bb, if_neg (by decide), List.any_map, ← any_mem]
  rfl
theorem notIn_tup (x : Str) (ts : List Str) : D.notIn (.str x) (.tup (ts.map D.str)) = pure (.bl (!decide (x ∈ ts))) := by
  have hf : (ts.map D.str).all D.flat = true := by simp [D.flat]
  have e1 : ((D.str x).flat && (ts.map D.str).all D.flat) = true := by rw [hf]; rfl
  show D.inSeq true (.str x) (ts.map D.str) = _
  unfold D.inSeq
  rw [e1, guard_t, pure_bb, if_pos rfl, List.any_map, ← any_mem]
  rfl
theorem fjoined (n : Nat) (h : n < 1000) (t : D) : (eJoined (jCons (eUn D.fmt (eVar 1)) (jCons (eUn D.fmt (eVar 2)) jNil))) [some t, some (.str "f"), some (.int n)] = pure (.str (fk n)) := by
  have hl := (str_small n h).2
  simp only [ap_var, ap_c, ap_bin, ap_chain, ap_bool, ap_tru, ap_neg, ap_an, ap_orr, ap_and, ap_or, ap_not, ap_if, ap_un, ap_nil, ap_cons, ap_tup, ap_lst, ap_lstH, ap_onone, ap_osome, ap_slice, ap_b, ap_jnil, ap_jcons, ap_joined, ap_m1, ap_ival, ap_range1, ap_range2, ap_gnam, ap_gsnil, ap_gscons, ap_gtp, ap_gsb, ap_lc, ap_lcH, ap_all, ap_app, ap_call, ap_callD, ap_snil, ap_scons, ap_ret, ap_retN, ap_expr, ap_sif, ap_asg, ap_set, ap_aug, ap_while, ap_for, ap_break, ap_cont, iadd_int, puto_some, slot_0, slot_s, pure_bb, bind_assoc', bad_bb, ite_bind', flow_nx, flow_rt, flow_bk, flow_ct, endOf_rt, endOf_nx, guard_t, guard_nn, wipe_1, bind_pure', opt_some, noexc_p, noexc_bind, noexc_ite, noexc_idem, noexc_guard, noexc_opt, noexc_bad, now_int, now_str, now_bl, now_non, now_tup, now_lst, now_frz, add_int, sub_int, lt_int', le_int', gt_int', ge_int', bool_bl, tru_bl, tru_int, toInt_int, toInt_bl, abs_int, max2_int, min2_int, len_lst, len_frz, len_tup, d1_one, d2_two, ref_hnd, part_int, text_str, gl0, gl1, gl2, gl3, gl4, gl5, gl6, gl7, gl8, gl9, gl10, gl11, gl12, gl13, gl14, gl15, gl16, gc0, gc1, gc2, gc3, gc4, gc5, gc6, gc7, gc8, List.cons_append, List.nil_append, Bool.not_true, Bool.not_false, List.set_cons_succ, List.set_cons_zero, if_true, if_false, Bool.false_eq_true, fmt_str "f" (by decide +kernel), fmt_int (n : Int) (log_small (by omega) (Int.lt_trans (show (n : Int) < 1000 by omega) (by decide)))]
  rw [onto_str _ _ (by decide +kernel)]
  simp only [ap_var, ap_c, ap_bin, ap_chain, ap_bool, ap_tru, ap_neg, ap_an, ap_orr, ap_and, ap_or, ap_not, ap_if, ap_un, ap_nil, ap_cons, ap_tup, ap_lst, ap_lstH, ap_onone, ap_osome, ap_slice, ap_b, ap_jnil, ap_jcons, ap_joined, ap_m1, ap_ival, ap_range1, ap_range2, ap_gnam, ap_gsnil, ap_gscons, ap_gtp, ap_gsb, ap_lc, ap_lcH, ap_all, ap_app, ap_call, ap_callD, ap_snil, ap_scons, ap_ret, ap_retN, ap_expr, ap_sif, ap_asg, ap_set, ap_aug, ap_while, ap_for, ap_break, ap_cont, iadd_int, puto_some, slot_0, slot_s, pure_bb, bind_assoc', bad_bb, ite_bind', flow_nx, flow_rt, flow_bk, flow_ct, endOf_rt, endOf_nx, guard_t, guard_nn, wipe_1, bind_pure', opt_some, noexc_p, noexc_bind, noexc_ite, noexc_idem, noexc_guard, noexc_opt, noexc_bad, now_int, now_str, now_bl, now_non, now_tup, now_lst, now_frz, add_int, sub_int, lt_int', le_int', gt_int', ge_int', bool_bl, tru_bl, tru_int, toInt_int, toInt_bl, abs_int, max2_int, min2_int, len_lst, len_frz, len_tup, d1_one, d2_two, ref_hnd, part_int, text_str, gl0, gl1, gl2, gl3, gl4, gl5, gl6, gl7, gl8, gl9, gl10, gl11, gl12, gl13, gl14, gl15, gl16, gc0, gc1, gc2, gc3, gc4, gc5, gc6, gc7, gc8, List.cons_append, List.nil_append, Bool.not_true, Bool.not_false, List.set_cons_succ, List.set_cons_zero, if_true, if_false, Bool.false_eq_true]
  rw [empty_app, onto_str _ _ (Nat.le_trans (fk_len h) (by decide))]
  simp only [ap_var, ap_c, ap_bin, ap_chain, ap_bool, ap_tru, ap_neg, ap_an, ap_orr, ap_and, ap_or, ap_not, ap_if, ap_un, ap_nil, ap_cons, ap_tup, ap_lst, ap_lstH, ap_onone, ap_osome, ap_slice, ap_b, ap_jnil, ap_jcons, ap_joined, ap_m1, ap_ival, ap_range1, ap_range2, ap_gnam, ap_gsnil, ap_gscons, ap_gtp, ap_gsb, ap_lc, ap_lcH, ap_all, ap_app, ap_call, ap_callD, ap_snil, ap_scons, ap_ret, ap_retN, ap_expr, ap_sif, ap_asg, ap_set, ap_aug, ap_while, ap_for, ap_break, ap_cont, iadd_int, puto_some, slot_0, slot_s, pure_bb, bind_assoc', bad_bb, ite_bind', flow_nx, flow_rt, flow_bk, flow_ct, endOf_rt, endOf_nx, guard_t, guard_nn, wipe_1, bind_pure', opt_some, noexc_p, noexc_bind, noexc_ite, noexc_idem, noexc_guard, noexc_opt, noexc_bad, now_int, now_str, now_bl, now_non, now_tup, now_lst, now_frz, add_int, sub_int, lt_int', le_int', gt_int', ge_int', bool_bl, tru_bl, tru_int, toInt_int, toInt_bl, abs_int, max2_int, min2_int, len_lst, len_frz, len_tup, d1_one, d2_two, ref_hnd, part_int, text_str, gl0, gl1, gl2, gl3, gl4, gl5, gl6, gl7, gl8, gl9, gl10, gl11, gl12, gl13, gl14, gl15, gl16, gc0, gc1, gc2, gc3, gc4, gc5, gc6, gc7, gc8, List.cons_append, List.nil_append, Bool.not_true, Bool.not_false, List.set_cons_succ, List.set_cons_zero, if_true, if_false, Bool.false_eq_true]
  rfl
theorem while_free (names : List Str) (k : Nat) (hk : k < 1000) (h1 : fk k ∉ names) (h2 : ∀ j, j < k → fk j ∈ names) : ∀ (i n fuel : Nat), n + i = k → i < fuel →
    whileL (tBool (eBin D.isIn (eJoined (jCons (eUn D.fmt (eVar 1)) (jCons (eUn D.fmt (eVar 2)) jNil))) (eVar 0))) (sAug 2 (eC (.int 1))) fuel [some (.tup (names.map D.str)), some (.str "f"), some (.int n)] =
      pure (.nx [some (.tup (names.map D.str)), some (.str "f"), some (.int k)])
  | i, n, 0, _, h => absurd h (Nat.not_lt_zero _)
  | 0, n, fuel + 1, e, _ => by
    have : n = k := by omega
    subst this
    unfold whileL
    simp only [ap_bool, ap_bin]
    rw [fjoined n hk]
    simp only [ap_var, ap_c, ap_bin, ap_chain, ap_bool, ap_tru, ap_neg, ap_an, ap_orr, ap_and, ap_or, ap_not, ap_if, ap_un, ap_nil, ap_cons, ap_tup, ap_lst, ap_lstH, ap_onone, ap_osome, ap_slice, ap_b, ap_jnil, ap_jcons, ap_joined, ap_m1, ap_ival, ap_range1, ap_range2, ap_gnam, ap_gsnil, ap_gscons, ap_gtp, ap_gsb, ap_lc, ap_lcH, ap_all, ap_app, ap_call, ap_callD, ap_snil, ap_scons, ap_ret, ap_retN, ap_expr, ap_sif, ap_asg, ap_set, ap_aug, ap_while, ap_for, ap_break, ap_cont, iadd_int, puto_some, slot_0, slot_s, pure_bb, bind_assoc', bad_bb, ite_bind', flow_nx, flow_rt, flow_bk, flow_ct, endOf_rt, endOf_nx, guard_t, guard_nn, wipe_1, bind_pure', opt_some, noexc_p, noexc_bind, noexc_ite, noexc_idem, noexc_guard, noexc_opt, noexc_bad, now_int, now_str, now_bl, now_non, now_tup, now_lst, now_frz, add_int, sub_int, lt_int', le_int', gt_int', ge_int', bool_bl, tru_bl, tru_int, toInt_int, toInt_bl, abs_int, max2_int, min2_int, len_lst, len_frz, len_tup, d1_one, d2_two, ref_hnd, part_int, text_str, gl0, gl1, gl2, gl3, gl4, gl5, gl6, gl7, gl8, gl9, gl10, gl11, gl12, gl13, gl14, gl15, gl16, gc0, gc1, gc2, gc3, gc4, gc5, gc6, gc7, gc8, List.cons_append, List.nil_append, Bool.not_true, Bool.not_false, List.set_cons_succ, List.set_cons_zero, if_true, if_false, Bool.false_eq_true]
    rw [in_tup, decide_eq_false h1]
    simp only [ap_var, ap_c, ap_bin, ap_chain, ap_bool, ap_tru, ap_neg, ap_an, ap_orr, ap_and, ap_or, ap_not, ap_if, ap_un, ap_nil, ap_cons, ap_tup, ap_lst, ap_lstH, ap_onone, ap_osome, ap_slice, ap_b, ap_jnil, ap_jcons, ap_joined, ap_m1, ap_ival, ap_range1, ap_range2, ap_gnam, ap_gsnil, ap_gscons, ap_gtp, ap_gsb, ap_lc, ap_lcH, ap_all, ap_app, ap_call, ap_callD, ap_snil, ap_scons, ap_ret, ap_retN, ap_expr, ap_sif, ap_asg, ap_set, ap_aug, ap_while, ap_for, ap_break, ap_cont, iadd_int, puto_some, slot_0, slot_s, pure_bb, bind_assoc', bad_bb, ite_bind', flow_nx, flow_rt, flow_bk, flow_ct, endOf_rt, endOf_nx, guard_t, guard_nn, wipe_1, bind_pure', opt_some, noexc_p, noexc_bind, noexc_ite, noexc_idem, noexc_guard, noexc_opt, noexc_bad, now_int, now_str, now_bl, now_non, now_tup, now_lst, now_frz, add_int, sub_int, lt_int', le_int', gt_int', ge_int', bool_bl, tru_bl, tru_int, toInt_int, toInt_bl, abs_int, max2_int, min2_int, len_lst, len_frz, len_tup, d1_one, d2_two, ref_hnd, part_int, text_str, gl0, gl1, gl2, gl3, gl4, gl5, gl6, gl7, gl8, gl9, gl10, gl11, gl12, gl13, gl14, gl15, gl16, gc0, gc1, gc2, gc3, gc4, gc5, gc6, gc7, gc8, List.cons_append, List.nil_append, Bool.not_true, Bool.not_false, List.set_cons_succ, List.set_cons_zero, if_true, if_false, Bool.false_eq_true]
  | i + 1, n, fuel + 1, e, h => by
    unfold whileL
    simp only [ap_bool, ap_bin]
    rw [fjoined n (by omega)]
    simp only [ap_var, ap_c, ap_bin, ap_chain, ap_bool, ap_tru, ap_neg, ap_an, ap_orr, ap_and, ap_or, ap_not, ap_if, ap_un, ap_nil, ap_cons, ap_tup, ap_lst, ap_lstH, ap_onone, ap_osome, ap_slice, ap_b, ap_jnil, ap_jcons, ap_joined, ap_m1, ap_ival, ap_range1, ap_range2, ap_gnam, ap_gsnil, ap_gscons, ap_gtp, ap_gsb, ap_lc, ap_lcH, ap_all, ap_app, ap_call, ap_callD, ap_snil, ap_scons, ap_ret, ap_retN, ap_expr, ap_sif, ap_asg, ap_set, ap_aug, ap_while, ap_for, ap_break, ap_cont, iadd_int, puto_some, slot_0, slot_s, pure_bb, bind_assoc', bad_bb, ite_bind', flow_nx, flow_rt, flow_bk, flow_ct, endOf_rt, endOf_nx, guard_t, guard_nn, wipe_1, bind_pure', opt_some, noexc_p, noexc_bind, noexc_ite, noexc_idem, noexc_guard, noexc_opt, noexc_bad, now_int, now_str, now_bl, now_non, now_tup, now_lst, now_frz, add_int, sub_int, lt_int', le_int', gt_int', ge_int', bool_bl, tru_bl, tru_int, toInt_int, toInt_bl, abs_int, max2_int, min2_int, len_lst, len_frz, len_tup, d1_one, d2_two, ref_hnd, part_int, text_str, gl0, gl1, gl2, gl3, gl4, gl5, gl6, gl7, gl8, gl9, gl10, gl11, gl12, gl13, gl14, gl15, gl16, gc0, gc1, gc2, gc3, gc4, gc5, gc6, gc7, gc8, List.cons_append, List.nil_append, Bool.not_true, Bool.not_false, List.set_cons_succ, List.set_cons_zero, if_true, if_false, Bool.false_eq_true]
    rw [in_tup, decide_eq_true (h2 n (by omega))]
    simp only [ap_var, ap_c, ap_bin, ap_chain, ap_bool, ap_tru, ap_neg, ap_an, ap_orr, ap_and, ap_or, ap_not, ap_if, ap_un, ap_nil, ap_cons, ap_tup, ap_lst, ap_lstH, ap_onone, ap_osome, ap_slice, ap_b, ap_jnil, ap_jcons, ap_joined, ap_m1, ap_ival, ap_range1, ap_range2, ap_gnam, ap_gsnil, ap_gscons, ap_gtp, ap_gsb, ap_lc, ap_lcH, ap_all, ap_app, ap_call, ap_callD, ap_snil, ap_scons, ap_ret, ap_retN, ap_expr, ap_sif, ap_asg, ap_set, ap_aug, ap_while, ap_for, ap_break, ap_cont, iadd_int, puto_some, slot_0, slot_s, pure_bb, bind_assoc', bad_bb, ite_bind', flow_nx, flow_rt, flow_bk, flow_ct, endOf_rt, endOf_nx, guard_t, guard_nn, wipe_1, bind_pure', opt_some, noexc_p, noexc_bind, noexc_ite, noexc_idem, noexc_guard, noexc_opt, noexc_bad, now_int, now_str, now_bl, now_non, now_tup, now_lst, now_frz, add_int, sub_int, lt_int', le_int', gt_int', ge_int', bool_bl, tru_bl, tru_int, toInt_int, toInt_bl, abs_int, max2_int, min2_int, len_lst, len_frz, len_tup, d1_one, d2_two, ref_hnd, part_int, text_str, gl0, gl1, gl2, gl3, gl4, gl5, gl6, gl7, gl8, gl9, gl10, gl11, gl12, gl13, gl14, gl15, gl16, gc0, gc1, gc2, gc3, gc4, gc5, gc6, gc7, gc8, List.cons_append, List.nil_append, Bool.not_true, Bool.not_false, List.set_cons_succ, List.set_cons_zero, if_true, if_false, Bool.false_eq_true]
    exact while_free names k hk h1 h2 i (n + 1) fuel (by omega) (by omega)
theorem fresh_ok (names : List Str) (k : Nat) (hk : k < 100) (h1 : fk k ∉ names) (h2 : ∀ j, j < k → fk j ∈ names) : m_fresh_for [.tup (names.map D.str)] = pure (.str (fk k)) := by
  show M.noexc (b_fresh_for (startE 1 [.tup (names.map D.str)]) >>= endOf) = _
  have e0 : startE 1 [.tup (names.map D.str)] = [some (.tup (names.map D.str))] := rfl
  rw [e0]
  simp only [ap_var, ap_c, ap_bin, ap_chain, ap_bool, ap_tru, ap_neg, ap_an, ap_orr, ap_and, ap_or, ap_not, ap_if, ap_un, ap_nil, ap_cons, ap_tup, ap_lst, ap_lstH, ap_onone, ap_osome, ap_slice, ap_b, ap_jnil, ap_jcons, ap_joined, ap_m1, ap_ival, ap_range1, ap_range2, ap_gnam, ap_gsnil, ap_gscons, ap_gtp, ap_gsb, ap_lc, ap_lcH, ap_all, ap_app, ap_call, ap_callD, ap_snil, ap_scons, ap_ret, ap_retN, ap_expr, ap_sif, ap_asg, ap_set, ap_aug, ap_while, ap_for, ap_break, ap_cont, iadd_int, puto_some, slot_0, slot_s, pure_bb, bind_assoc', bad_bb, ite_bind', flow_nx, flow_rt, flow_bk, flow_ct, endOf_rt, endOf_nx, guard_t, guard_nn, wipe_1, bind_pure', opt_some, noexc_p, noexc_bind, noexc_ite, noexc_idem, noexc_guard, noexc_opt, noexc_bad, now_int, now_str, now_bl, now_non, now_tup, now_lst, now_frz, add_int, sub_int, lt_int', le_int', gt_int', ge_int', bool_bl, tru_bl, tru_int, toInt_int, toInt_bl, abs_int, max2_int, min2_int, len_lst, len_frz, len_tup, d1_one, d2_two, ref_hnd, part_int, text_str, gl0, gl1, gl2, gl3, gl4, gl5, gl6, gl7, gl8, gl9, gl10, gl11, gl12, gl13, gl14, gl15, gl16, gc0, gc1, gc2, gc3, gc4, gc5, gc6, gc7, gc8, List.cons_append, List.nil_append, Bool.not_true, Bool.not_false, List.set_cons_succ, List.set_cons_zero, if_true, if_false, Bool.false_eq_true, b_fresh_for]
  have e1 : m_first_not_in [.tup (names.map D.str), .str "f"] = pure (.str (fk k)) := by
    show M.noexc (b_first_not_in (startE 3 [.tup (names.map D.str), .str "f"]) >>= endOf) = _
    have e0 : startE 3 [.tup (names.map D.str), .str "f"] = [some (.tup (names.map D.str)), some (.str "f"), none] := rfl
    rw [e0]
    have w := while_free names k (by omega) h1 h2 k 0 128 (by omega) (by omega)
    have j := fjoined k (by omega) (.tup (names.map D.str))
    unfold b_first_not_in
    rw [ap_scons, ap_set, ap_c]
    simp only [pure_bb, flow_nx, List.set_cons_succ, List.set_cons_zero, ap_scons, ap_while]
    have w' : whileL (tBool (eBin D.isIn (eJoined (jCons (eUn D.fmt (eVar 1)) (jCons (eUn D.fmt (eVar 2)) jNil))) (eVar 0))) (sAug 2 (eC (.int 1))) 128 [some (.tup (names.map D.str)), some (.str "f"), some (.int 0)] =
      pure (.nx [some (.tup (names.map D.str)), some (.str "f"), some (.int k)]) := w
    rw [w']
    simp only [pure_bb, flow_nx, ap_ret]
    rw [j]
    simp only [pure_bb, endOf_rt, noexc_p]
  rw [e1]
  simp only [ap_var, ap_c, ap_bin, ap_chain, ap_bool, ap_tru, ap_neg, ap_an, ap_orr, ap_and, ap_or, ap_not, ap_if, ap_un, ap_nil, ap_cons, ap_tup, ap_lst, ap_lstH, ap_onone, ap_osome, ap_slice, ap_b, ap_jnil, ap_jcons, ap_joined, ap_m1, ap_ival, ap_range1, ap_range2, ap_gnam, ap_gsnil, ap_gscons, ap_gtp, ap_gsb, ap_lc, ap_lcH, ap_all, ap_app, ap_call, ap_callD, ap_snil, ap_scons, ap_ret, ap_retN, ap_expr, ap_sif, ap_asg, ap_set, ap_aug, ap_while, ap_for, ap_break, ap_cont, iadd_int, puto_some, slot_0, slot_s, pure_bb, bind_assoc', bad_bb, ite_bind', flow_nx, flow_rt, flow_bk, flow_ct, endOf_rt, endOf_nx, guard_t, guard_nn, wipe_1, bind_pure', opt_some, noexc_p, noexc_bind, noexc_ite, noexc_idem, noexc_guard, noexc_opt, noexc_bad, now_int, now_str, now_bl, now_non, now_tup, now_lst, now_frz, add_int, sub_int, lt_int', le_int', gt_int', ge_int', bool_bl, tru_bl, tru_int, toInt_int, toInt_bl, abs_int, max2_int, min2_int, len_lst, len_frz, len_tup, d1_one, d2_two, ref_hnd, part_int, text_str, gl0, gl1, gl2, gl3, gl4, gl5, gl6, gl7, gl8, gl9, gl10, gl11, gl12, gl13, gl14, gl15, gl16, gc0, gc1, gc2, gc3, gc4, gc5, gc6, gc7, gc8, List.cons_append, List.nil_append, Bool.not_true, Bool.not_false, List.set_cons_succ, List.set_cons_zero, if_true, if_false, Bool.false_eq_true]
end LW
set_option maxRecDepth 100000
set_option maxHeartbeats 4000000
namespace LW
open PySem L2 Mir
theorem texts_of : ∀ es : List D, (∀ e, e ∈ es → IsText 4 e) → ∃ xs : List Str, es = xs.map D.str
  | [], _ => ⟨[], rfl⟩
  | e :: es, h => by
    obtain ⟨xs, q⟩ := texts_of es fun z hz => h z (List.mem_cons_of_mem _ hz)
    obtain ⟨s, rfl, _⟩ := h e List.mem_cons_self
    exact ⟨s :: xs, by rw [q]; rfl⟩
theorem cut_map {A B : Type} (f : A → B) (l : List A) (lo hi : Option Int) : cut (l.map f) lo hi = (cut l lo hi).map f := by
  unfold cut
  rw [List.length_map, ← List.map_drop, ← List.map_take]
theorem cut_len {A : Type} (l : List A) (lo hi : Option Int) : (cut l lo hi).length ≤ l.length := by
  unfold cut
  rw [List.length_take, List.length_drop]
  omega
theorem cut_11 {A : Type} (l : List A) : (cut l none (some 11)).length ≤ 11 := by
  unfold cut
  show ((l.drop (HT.sIx l.length 0 none)).take (HT.sIx l.length l.length (some ((11 : Nat) : Int)) - HT.sIx l.length 0 none)).length ≤ 11
  rw [HT.sIx_nat, HT.sIx_none, List.length_take]
  omega
theorem first_filter {A : Type} (p : A → Bool) : ∀ (l : List A) (k : Nat) (a : A), l[k]? = some a → p a = true → (∀ j, j < k → ∀ b, l[j]? = some b → p b = false) → ∃ r, l.filter p = a :: r
  | [], _, _, h, _, _ => by simp at h
  | x :: l, 0, a, h, hp, _ => by
    simp at h
    subst h
    exact ⟨l.filter p, List.filter_cons_of_pos hp⟩
  | x :: l, k + 1, a, h, hp, hj => by
    have h0 := hj 0 (Nat.succ_pos k) x rfl
    rw [List.filter_cons_of_neg (by rw [h0]; decide)]
    exact first_filter p l k a (by simpa using h) hp fun j hjk b hb => hj (j + 1) (by omega) b (by simpa using hb)
theorem f_add (n : Nat) (h : n < 1000) : D.add (.str "f") (.str ((toString ((0 : Int) + (n : Int)) : String) : Str)) = pure (.str (fk n)) := by
  have hz : (0 : Int) + (n : Int) = (n : Int) := Int.zero_add _
  have hl := (str_small n h).2
  rw [hz, add_small _ _ (by rw [f_is]; show 1 + _ ≤ 1000; omega)]
  rfl
theorem toFk (n : Nat) (h : n < 1000) : D.strOf (.int ((0 : Int) + (n : Int))) = pure (.str ((toString ((0 : Int) + (n : Int)) : String) : Str)) := strOf_int _ (log_small (by omega) (Int.lt_trans (show (0 : Int) + n < 1000 by omega) (by decide)))
def toF : D → D
  | .int i => .str (("f" : Str) ++ ((toString i : String) : Str))
  | _ => .non
theorem toF_range (n : Nat) : (rangeD 0 n).map toF = ((List.range n).map fk).map D.str := by
  unfold rangeD
  rw [List.map_map, List.map_map]
  refine List.map_congr_left fun i _ => ?_
  show D.str (("f" : Str) ++ ((toString ((0 : Int) + (i : Int)) : String) : Str)) = .str (fk i)
  rw [Int.zero_add]
  rfl
theorem f_body (n : Nat) (h : n < 1000) (own : List Nat) (ρ : Mir.Env) (hw : slot (((wipeE ρ own)).set 2 (some (.int ((0 : Int) + (n : Int))))) 2 = pure (.int ((0 : Int) + (n : Int)))) :
    eBin D.add (eC (.str "f")) (eB (d1 D.strOf) (aCons (eVar 2) aNil)) ((wipeE ρ own).set 2 (some (.int ((0 : Int) + (n : Int))))) = pure (toF (.int ((0 : Int) + (n : Int)))) := by
  simp only [ap_bin, ap_c, ap_b, ap_cons, ap_var, ap_nil, pure_bb, bind_assoc', d1_one, hw]
  rw [toFk n h]
  simp only [pure_bb]
  rw [f_add n h]
  show _ = pure (D.str (("f" : Str) ++ ((toString ((0 : Int) + (n : Int)) : String) : Str)))
  rw [Int.zero_add]
  rfl
theorem fresh_end (names : List Str) (hn : names.length ≤ 11) (k : Nat) (hk : k < 13) (h1 : fk k ∉ names) (h2 : ∀ j, j < k → fk j ∈ names) {c : D} {ds : List D} :
    (sRet (eAnd (eBin D.eq (eCall 1 m_fresh_for (aCons (eVar 3) aNil)) (eVar 4)) (eAnd (eBin D.eq (eCall 1 m_fresh_for (aCons (eUn D.back (eVar 3)) aNil)) (eVar 4)) (eBin D.ne (eCall 1 m_fresh_for (aCons (eBin D.add (eVar 3) (eTup (aCons (eVar 4) aNil))) aNil)) (eVar 4)))))
      [some c, some (.lst ds), none, some (.tup (names.map D.str)), some (.str (fk k)), none] = pure (.rt (.bl true)) := by
  have e1 := fresh_ok names k (by omega) h1 h2
  have e2 := fresh_ok names.reverse k (by omega) (by rw [List.mem_reverse]; exact h1) (fun j hj => by rw [List.mem_reverse]; exact h2 j hj)
  obtain ⟨q, q0, q1, q2⟩ := first_free (names ++ [fk k]) (by rw [List.length_append, List.length_singleton]; omega)
  have e3 := fresh_ok (names ++ [fk k]) q (by omega) q1 q2
  have hne : fk q ≠ fk k := fun e => q1 (by rw [e]; simp)
  simp only [ap_var, ap_c, ap_bin, ap_chain, ap_bool, ap_tru, ap_neg, ap_an, ap_orr, ap_and, ap_or, ap_not, ap_if, ap_un, ap_nil, ap_cons, ap_tup, ap_lst, ap_lstH, ap_onone, ap_osome, ap_slice, ap_b, ap_jnil, ap_jcons, ap_joined, ap_m1, ap_ival, ap_range1, ap_range2, ap_gnam, ap_gsnil, ap_gscons, ap_gtp, ap_gsb, ap_lc, ap_lcH, ap_all, ap_app, ap_call, ap_callD, ap_snil, ap_scons, ap_ret, ap_retN, ap_expr, ap_sif, ap_asg, ap_set, ap_aug, ap_while, ap_for, ap_break, ap_cont, iadd_int, puto_some, slot_0, slot_s, pure_bb, bind_assoc', bad_bb, ite_bind', flow_nx, flow_rt, flow_bk, flow_ct, endOf_rt, endOf_nx, guard_t, guard_nn, wipe_1, bind_pure', opt_some, noexc_p, noexc_bind, noexc_ite, noexc_idem, noexc_guard, noexc_opt, noexc_bad, now_int, now_str, now_bl, now_non, now_tup, now_lst, now_frz, add_int, sub_int, lt_int', le_int', gt_int', ge_int', bool_bl, tru_bl, tru_int, toInt_int, toInt_bl, abs_int, max2_int, min2_int, len_lst, len_frz, len_tup, d1_one, d2_two, ref_hnd, part_int, text_str, gl0, gl1, gl2, gl3, gl4, gl5, gl6, gl7, gl8, gl9, gl10, gl11, gl12, gl13, gl14, gl15, gl16, gc0, gc1, gc2, gc3, gc4, gc5, gc6, gc7, gc8, List.cons_append, List.nil_append, Bool.not_true, Bool.not_false, List.set_cons_succ, List.set_cons_zero, if_true, if_false, Bool.false_eq_true]
  rw [e1]
  simp only [ap_var, ap_c, ap_bin, ap_chain, ap_bool, ap_tru, ap_neg, ap_an, ap_orr, ap_and, ap_or, ap_not, ap_if, ap_un, ap_nil, ap_cons, ap_tup, ap_lst, ap_lstH, ap_onone, ap_osome, ap_slice, ap_b, ap_jnil, ap_jcons, ap_joined, ap_m1, ap_ival, ap_range1, ap_range2, ap_gnam, ap_gsnil, ap_gscons, ap_gtp, ap_gsb, ap_lc, ap_lcH, ap_all, ap_app, ap_call, ap_callD, ap_snil, ap_scons, ap_ret, ap_retN, ap_expr, ap_sif, ap_asg, ap_set, ap_aug, ap_while, ap_for, ap_break, ap_cont, iadd_int, puto_some, slot_0, slot_s, pure_bb, bind_assoc', bad_bb, ite_bind', flow_nx, flow_rt, flow_bk, flow_ct, endOf_rt, endOf_nx, guard_t, guard_nn, wipe_1, bind_pure', opt_some, noexc_p, noexc_bind, noexc_ite, noexc_idem, noexc_guard, noexc_opt, noexc_bad, now_int, now_str, now_bl, now_non, now_tup, now_lst, now_frz, add_int, sub_int, lt_int', le_int', gt_int', ge_int', bool_bl, tru_bl, tru_int, toInt_int, toInt_bl, abs_int, max2_int, min2_int, len_lst, len_frz, len_tup, d1_one, d2_two, ref_hnd, part_int, text_str, gl0, gl1, gl2, gl3, gl4, gl5, gl6, gl7, gl8, gl9, gl10, gl11, gl12, gl13, gl14, gl15, gl16, gc0, gc1, gc2, gc3, gc4, gc5, gc6, gc7, gc8, List.cons_append, List.nil_append, Bool.not_true, Bool.not_false, List.set_cons_succ, List.set_cons_zero, if_true, if_false, Bool.false_eq_true]
  rw [eq_str, beq_self_eq_true]
  simp only [ap_var, ap_c, ap_bin, ap_chain, ap_bool, ap_tru, ap_neg, ap_an, ap_orr, ap_and, ap_or, ap_not, ap_if, ap_un, ap_nil, ap_cons, ap_tup, ap_lst, ap_lstH, ap_onone, ap_osome, ap_slice, ap_b, ap_jnil, ap_jcons, ap_joined, ap_m1, ap_ival, ap_range1, ap_range2, ap_gnam, ap_gsnil, ap_gscons, ap_gtp, ap_gsb, ap_lc, ap_lcH, ap_all, ap_app, ap_call, ap_callD, ap_snil, ap_scons, ap_ret, ap_retN, ap_expr, ap_sif, ap_asg, ap_set, ap_aug, ap_while, ap_for, ap_break, ap_cont, iadd_int, puto_some, slot_0, slot_s, pure_bb, bind_assoc', bad_bb, ite_bind', flow_nx, flow_rt, flow_bk, flow_ct, endOf_rt, endOf_nx, guard_t, guard_nn, wipe_1, bind_pure', opt_some, noexc_p, noexc_bind, noexc_ite, noexc_idem, noexc_guard, noexc_opt, noexc_bad, now_int, now_str, now_bl, now_non, now_tup, now_lst, now_frz, add_int, sub_int, lt_int', le_int', gt_int', ge_int', bool_bl, tru_bl, tru_int, toInt_int, toInt_bl, abs_int, max2_int, min2_int, len_lst, len_frz, len_tup, d1_one, d2_two, ref_hnd, part_int, text_str, gl0, gl1, gl2, gl3, gl4, gl5, gl6, gl7, gl8, gl9, gl10, gl11, gl12, gl13, gl14, gl15, gl16, gc0, gc1, gc2, gc3, gc4, gc5, gc6, gc7, gc8, List.cons_append, List.nil_append, Bool.not_true, Bool.not_false, List.set_cons_succ, List.set_cons_zero, if_true, if_false, Bool.false_eq_true]
  rw [back_tup, ← List.map_reverse]
  simp only [ap_var, ap_c, ap_bin, ap_chain, ap_bool, ap_tru, ap_neg, ap_an, ap_orr, ap_and, ap_or, ap_not, ap_if, ap_un, ap_nil, ap_cons, ap_tup, ap_lst, ap_lstH, ap_onone, ap_osome, ap_slice, ap_b, ap_jnil, ap_jcons, ap_joined, ap_m1, ap_ival, ap_range1, ap_range2, ap_gnam, ap_gsnil, ap_gscons, ap_gtp, ap_gsb, ap_lc, ap_lcH, ap_all, ap_app, ap_call, ap_callD, ap_snil, ap_scons, ap_ret, ap_retN, ap_expr, ap_sif, ap_asg, ap_set, ap_aug, ap_while, ap_for, ap_break, ap_cont, iadd_int, puto_some, slot_0, slot_s, pure_bb, bind_assoc', bad_bb, ite_bind', flow_nx, flow_rt, flow_bk, flow_ct, endOf_rt, endOf_nx, guard_t, guard_nn, wipe_1, bind_pure', opt_some, noexc_p, noexc_bind, noexc_ite, noexc_idem, noexc_guard, noexc_opt, noexc_bad, now_int, now_str, now_bl, now_non, now_tup, now_lst, now_frz, add_int, sub_int, lt_int', le_int', gt_int', ge_int', bool_bl, tru_bl, tru_int, toInt_int, toInt_bl, abs_int, max2_int, min2_int, len_lst, len_frz, len_tup, d1_one, d2_two, ref_hnd, part_int, text_str, gl0, gl1, gl2, gl3, gl4, gl5, gl6, gl7, gl8, gl9, gl10, gl11, gl12, gl13, gl14, gl15, gl16, gc0, gc1, gc2, gc3, gc4, gc5, gc6, gc7, gc8, List.cons_append, List.nil_append, Bool.not_true, Bool.not_false, List.set_cons_succ, List.set_cons_zero, if_true, if_false, Bool.false_eq_true]
  rw [e2]
  simp only [ap_var, ap_c, ap_bin, ap_chain, ap_bool, ap_tru, ap_neg, ap_an, ap_orr, ap_and, ap_or, ap_not, ap_if, ap_un, ap_nil, ap_cons, ap_tup, ap_lst, ap_lstH, ap_onone, ap_osome, ap_slice, ap_b, ap_jnil, ap_jcons, ap_joined, ap_m1, ap_ival, ap_range1, ap_range2, ap_gnam, ap_gsnil, ap_gscons, ap_gtp, ap_gsb, ap_lc, ap_lcH, ap_all, ap_app, ap_call, ap_callD, ap_snil, ap_scons, ap_ret, ap_retN, ap_expr, ap_sif, ap_asg, ap_set, ap_aug, ap_while, ap_for, ap_break, ap_cont, iadd_int, puto_some, slot_0, slot_s, pure_bb, bind_assoc', bad_bb, ite_bind', flow_nx, flow_rt, flow_bk, flow_ct, endOf_rt, endOf_nx, guard_t, guard_nn, wipe_1, bind_pure', opt_some, noexc_p, noexc_bind, noexc_ite, noexc_idem, noexc_guard, noexc_opt, noexc_bad, now_int, now_str, now_bl, now_non, now_tup, now_lst, now_frz, add_int, sub_int, lt_int', le_int', gt_int', ge_int', bool_bl, tru_bl, tru_int, toInt_int, toInt_bl, abs_int, max2_int, min2_int, len_lst, len_frz, len_tup, d1_one, d2_two, ref_hnd, part_int, text_str, gl0, gl1, gl2, gl3, gl4, gl5, gl6, gl7, gl8, gl9, gl10, gl11, gl12, gl13, gl14, gl15, gl16, gc0, gc1, gc2, gc3, gc4, gc5, gc6, gc7, gc8, List.cons_append, List.nil_append, Bool.not_true, Bool.not_false, List.set_cons_succ, List.set_cons_zero, if_true, if_false, Bool.false_eq_true]
  rw [eq_str, beq_self_eq_true]
  simp only [ap_var, ap_c, ap_bin, ap_chain, ap_bool, ap_tru, ap_neg, ap_an, ap_orr, ap_and, ap_or, ap_not, ap_if, ap_un, ap_nil, ap_cons, ap_tup, ap_lst, ap_lstH, ap_onone, ap_osome, ap_slice, ap_b, ap_jnil, ap_jcons, ap_joined, ap_m1, ap_ival, ap_range1, ap_range2, ap_gnam, ap_gsnil, ap_gscons, ap_gtp, ap_gsb, ap_lc, ap_lcH, ap_all, ap_app, ap_call, ap_callD, ap_snil, ap_scons, ap_ret, ap_retN, ap_expr, ap_sif, ap_asg, ap_set, ap_aug, ap_while, ap_for, ap_break, ap_cont, iadd_int, puto_some, slot_0, slot_s, pure_bb, bind_assoc', bad_bb, ite_bind', flow_nx, flow_rt, flow_bk, flow_ct, endOf_rt, endOf_nx, guard_t, guard_nn, wipe_1, bind_pure', opt_some, noexc_p, noexc_bind, noexc_ite, noexc_idem, noexc_guard, noexc_opt, noexc_bad, now_int, now_str, now_bl, now_non, now_tup, now_lst, now_frz, add_int, sub_int, lt_int', le_int', gt_int', ge_int', bool_bl, tru_bl, tru_int, toInt_int, toInt_bl, abs_int, max2_int, min2_int, len_lst, len_frz, len_tup, d1_one, d2_two, ref_hnd, part_int, text_str, gl0, gl1, gl2, gl3, gl4, gl5, gl6, gl7, gl8, gl9, gl10, gl11, gl12, gl13, gl14, gl15, gl16, gc0, gc1, gc2, gc3, gc4, gc5, gc6, gc7, gc8, List.cons_append, List.nil_append, Bool.not_true, Bool.not_false, List.set_cons_succ, List.set_cons_zero, if_true, if_false, Bool.false_eq_true]
  rw [show [D.str (fk k)] = [fk k].map D.str from rfl, add_tup _ _ (by rw [List.length_map, List.length_map, List.length_singleton]; exact Nat.le_trans (show names.length + 1 ≤ 12 by omega) (by decide)), ← List.map_append]
  simp only [ap_var, ap_c, ap_bin, ap_chain, ap_bool, ap_tru, ap_neg, ap_an, ap_orr, ap_and, ap_or, ap_not, ap_if, ap_un, ap_nil, ap_cons, ap_tup, ap_lst, ap_lstH, ap_onone, ap_osome, ap_slice, ap_b, ap_jnil, ap_jcons, ap_joined, ap_m1, ap_ival, ap_range1, ap_range2, ap_gnam, ap_gsnil, ap_gscons, ap_gtp, ap_gsb, ap_lc, ap_lcH, ap_all, ap_app, ap_call, ap_callD, ap_snil, ap_scons, ap_ret, ap_retN, ap_expr, ap_sif, ap_asg, ap_set, ap_aug, ap_while, ap_for, ap_break, ap_cont, iadd_int, puto_some, slot_0, slot_s, pure_bb, bind_assoc', bad_bb, ite_bind', flow_nx, flow_rt, flow_bk, flow_ct, endOf_rt, endOf_nx, guard_t, guard_nn, wipe_1, bind_pure', opt_some, noexc_p, noexc_bind, noexc_ite, noexc_idem, noexc_guard, noexc_opt, noexc_bad, now_int, now_str, now_bl, now_non, now_tup, now_lst, now_frz, add_int, sub_int, lt_int', le_int', gt_int', ge_int', bool_bl, tru_bl, tru_int, toInt_int, toInt_bl, abs_int, max2_int, min2_int, len_lst, len_frz, len_tup, d1_one, d2_two, ref_hnd, part_int, text_str, gl0, gl1, gl2, gl3, gl4, gl5, gl6, gl7, gl8, gl9, gl10, gl11, gl12, gl13, gl14, gl15, gl16, gc0, gc1, gc2, gc3, gc4, gc5, gc6, gc7, gc8, List.cons_append, List.nil_append, Bool.not_true, Bool.not_false, List.set_cons_succ, List.set_cons_zero, if_true, if_false, Bool.false_eq_true]
  rw [e3]
  simp only [ap_var, ap_c, ap_bin, ap_chain, ap_bool, ap_tru, ap_neg, ap_an, ap_orr, ap_and, ap_or, ap_not, ap_if, ap_un, ap_nil, ap_cons, ap_tup, ap_lst, ap_lstH, ap_onone, ap_osome, ap_slice, ap_b, ap_jnil, ap_jcons, ap_joined, ap_m1, ap_ival, ap_range1, ap_range2, ap_gnam, ap_gsnil, ap_gscons, ap_gtp, ap_gsb, ap_lc, ap_lcH, ap_all, ap_app, ap_call, ap_callD, ap_snil, ap_scons, ap_ret, ap_retN, ap_expr, ap_sif, ap_asg, ap_set, ap_aug, ap_while, ap_for, ap_break, ap_cont, iadd_int, puto_some, slot_0, slot_s, pure_bb, bind_assoc', bad_bb, ite_bind', flow_nx, flow_rt, flow_bk, flow_ct, endOf_rt, endOf_nx, guard_t, guard_nn, wipe_1, bind_pure', opt_some, noexc_p, noexc_bind, noexc_ite, noexc_idem, noexc_guard, noexc_opt, noexc_bad, now_int, now_str, now_bl, now_non, now_tup, now_lst, now_frz, add_int, sub_int, lt_int', le_int', gt_int', ge_int', bool_bl, tru_bl, tru_int, toInt_int, toInt_bl, abs_int, max2_int, min2_int, len_lst, len_frz, len_tup, d1_one, d2_two, ref_hnd, part_int, text_str, gl0, gl1, gl2, gl3, gl4, gl5, gl6, gl7, gl8, gl9, gl10, gl11, gl12, gl13, gl14, gl15, gl16, gc0, gc1, gc2, gc3, gc4, gc5, gc6, gc7, gc8, List.cons_append, List.nil_append, Bool.not_true, Bool.not_false, List.set_cons_succ, List.set_cons_zero, if_true, if_false, Bool.false_eq_true]
  rw [ne_str, beq_eq_false_iff_ne.mpr hne]
  simp only [ap_var, ap_c, ap_bin, ap_chain, ap_bool, ap_tru, ap_neg, ap_an, ap_orr, ap_and, ap_or, ap_not, ap_if, ap_un, ap_nil, ap_cons, ap_tup, ap_lst, ap_lstH, ap_onone, ap_osome, ap_slice, ap_b, ap_jnil, ap_jcons, ap_joined, ap_m1, ap_ival, ap_range1, ap_range2, ap_gnam, ap_gsnil, ap_gscons, ap_gtp, ap_gsb, ap_lc, ap_lcH, ap_all, ap_app, ap_call, ap_callD, ap_snil, ap_scons, ap_ret, ap_retN, ap_expr, ap_sif, ap_asg, ap_set, ap_aug, ap_while, ap_for, ap_break, ap_cont, iadd_int, puto_some, slot_0, slot_s, pure_bb, bind_assoc', bad_bb, ite_bind', flow_nx, flow_rt, flow_bk, flow_ct, endOf_rt, endOf_nx, guard_t, guard_nn, wipe_1, bind_pure', opt_some, noexc_p, noexc_bind, noexc_ite, noexc_idem, noexc_guard, noexc_opt, noexc_bad, now_int, now_str, now_bl, now_non, now_tup, now_lst, now_frz, add_int, sub_int, lt_int', le_int', gt_int', ge_int', bool_bl, tru_bl, tru_int, toInt_int, toInt_bl, abs_int, max2_int, min2_int, len_lst, len_frz, len_tup, d1_one, d2_two, ref_hnd, part_int, text_str, gl0, gl1, gl2, gl3, gl4, gl5, gl6, gl7, gl8, gl9, gl10, gl11, gl12, gl13, gl14, gl15, gl16, gc0, gc1, gc2, gc3, gc4, gc5, gc6, gc7, gc8, List.cons_append, List.nil_append, Bool.not_true, Bool.not_false, List.set_cons_succ, List.set_cons_zero, if_true, if_false, Bool.false_eq_true]
theorem atI_z {A : Type} (a : A) (r : List A) : atI (a :: r) 0 = some a := atI_nat' (n := 0) rfl rfl
theorem due_ok (names : List Str) (k : Nat) (hk : k < 13) (h1 : fk k ∉ names) (h2 : ∀ j, j < k → fk j ∈ names) {c : D} {ds : List D} :
    (eBin D.ix (eLc (iVal (eLc (iRange1 (eC (.int 100))) (gNam 2) tAll (eBin D.add (eC (.str "f")) (eB (d1 D.strOf) (aCons (eVar 2) aNil))) [2])) (gNam 5) (tBool (eBin D.notIn (eVar 5) (eVar 3))) (eVar 5) [5]) (eC (.int 0)))
      [some c, some (.lst ds), none, some (.tup (names.map D.str)), none, none] = pure (.str (fk k)) := by
  simp only [ap_bin, ap_lc, ap_c, pure_bb, bind_assoc']
  have hin : iVal (eLc (iRange1 (eC (.int 100))) (gNam 2) tAll (eBin D.add (eC (.str "f")) (eB (d1 D.strOf) (aCons (eVar 2) aNil))) [2]) [some c, some (.lst ds), none, some (.tup (names.map D.str)), none, none] = pure (((List.range 100).map fk).map D.str, none) := by
    simp only [ap_ival, ap_lc, bind_assoc', pure_bb]
    rw [lcAll_map (ds := rangeD 0 100) toF (by simp only [ap_var, ap_c, ap_bin, ap_chain, ap_bool, ap_tru, ap_neg, ap_an, ap_orr, ap_and, ap_or, ap_not, ap_if, ap_un, ap_nil, ap_cons, ap_tup, ap_lst, ap_lstH, ap_onone, ap_osome, ap_slice, ap_b, ap_jnil, ap_jcons, ap_joined, ap_m1, ap_ival, ap_range1, ap_range2, ap_gnam, ap_gsnil, ap_gscons, ap_gtp, ap_gsb, ap_lc, ap_lcH, ap_all, ap_app, ap_call, ap_callD, ap_snil, ap_scons, ap_ret, ap_retN, ap_expr, ap_sif, ap_asg, ap_set, ap_aug, ap_while, ap_for, ap_break, ap_cont, iadd_int, puto_some, slot_0, slot_s, pure_bb, bind_assoc', bad_bb, ite_bind', flow_nx, flow_rt, flow_bk, flow_ct, endOf_rt, endOf_nx, guard_t, guard_nn, wipe_1, bind_pure', opt_some, noexc_p, noexc_bind, noexc_ite, noexc_idem, noexc_guard, noexc_opt, noexc_bad, now_int, now_str, now_bl, now_non, now_tup, now_lst, now_frz, add_int, sub_int, lt_int', le_int', gt_int', ge_int', bool_bl, tru_bl, tru_int, toInt_int, toInt_bl, abs_int, max2_int, min2_int, len_lst, len_frz, len_tup, d1_one, d2_two, ref_hnd, part_int, text_str, gl0, gl1, gl2, gl3, gl4, gl5, gl6, gl7, gl8, gl9, gl10, gl11, gl12, gl13, gl14, gl15, gl16, gc0, gc1, gc2, gc3, gc4, gc5, gc6, gc7, gc8, List.cons_append, List.nil_append, Bool.not_true, Bool.not_false, List.set_cons_succ, List.set_cons_zero, if_true, if_false, Bool.false_eq_true]; exact range1_int 100 ⟨by decide, by decide⟩) (fun d hd => ?_) (by rw [len_rangeD]; decide)]
    · simp only [pure_bb]
      rw [toF_range, iter_lst]
    · obtain ⟨i, hi, rfl⟩ := mem_rangeD hd
      exact ⟨_, rfl, f_body i (by omega) [2] _ rfl⟩
  rw [lcAll_pure (ds := ((List.range 100).map fk).map D.str) (fun d => match d with
    | .str x => !decide (x ∈ names)
    | _ => false) id hin (fun d hd => ?_) (by simp)]
  · obtain ⟨r, hr⟩ := first_filter (fun d : D => match d with
      | .str x => !decide (x ∈ names)
      | _ => false) (((List.range 100).map fk).map D.str) k (.str (fk k)) (by
        rw [List.getElem?_map, List.getElem?_map, List.getElem?_range (by omega)]
        rfl) (by simp [h1]) (fun j hj b hb => by
        rw [List.getElem?_map, List.getElem?_map, List.getElem?_range (by omega)] at hb
        cases hb
        simp [h2 j hj])
    rw [hr]
    simp only [pure_bb, List.map_cons]
    rw [dx_lst, atI_z]
    rfl
  · obtain ⟨x, hx, rfl⟩ := List.mem_map.mp hd
    refine ⟨[some c, some (.lst ds), none, some (.tup (names.map D.str)), none, some (.str x)], rfl, ?_, fun _ => rfl⟩
    simp only [ap_var, ap_c, ap_bin, ap_chain, ap_bool, ap_tru, ap_neg, ap_an, ap_orr, ap_and, ap_or, ap_not, ap_if, ap_un, ap_nil, ap_cons, ap_tup, ap_lst, ap_lstH, ap_onone, ap_osome, ap_slice, ap_b, ap_jnil, ap_jcons, ap_joined, ap_m1, ap_ival, ap_range1, ap_range2, ap_gnam, ap_gsnil, ap_gscons, ap_gtp, ap_gsb, ap_lc, ap_lcH, ap_all, ap_app, ap_call, ap_callD, ap_snil, ap_scons, ap_ret, ap_retN, ap_expr, ap_sif, ap_asg, ap_set, ap_aug, ap_while, ap_for, ap_break, ap_cont, iadd_int, puto_some, slot_0, slot_s, pure_bb, bind_assoc', bad_bb, ite_bind', flow_nx, flow_rt, flow_bk, flow_ct, endOf_rt, endOf_nx, guard_t, guard_nn, wipe_1, bind_pure', opt_some, noexc_p, noexc_bind, noexc_ite, noexc_idem, noexc_guard, noexc_opt, noexc_bad, now_int, now_str, now_bl, now_non, now_tup, now_lst, now_frz, add_int, sub_int, lt_int', le_int', gt_int', ge_int', bool_bl, tru_bl, tru_int, toInt_int, toInt_bl, abs_int, max2_int, min2_int, len_lst, len_frz, len_tup, d1_one, d2_two, ref_hnd, part_int, text_str, gl0, gl1, gl2, gl3, gl4, gl5, gl6, gl7, gl8, gl9, gl10, gl11, gl12, gl13, gl14, gl15, gl16, gc0, gc1, gc2, gc3, gc4, gc5, gc6, gc7, gc8, List.cons_append, List.nil_append, Bool.not_true, Bool.not_false, List.set_cons_succ, List.set_cons_zero, if_true, if_false, Bool.false_eq_true]
    rw [notIn_tup]
    simp only [ap_var, ap_c, ap_bin, ap_chain, ap_bool, ap_tru, ap_neg, ap_an, ap_orr, ap_and, ap_or, ap_not, ap_if, ap_un, ap_nil, ap_cons, ap_tup, ap_lst, ap_lstH, ap_onone, ap_osome, ap_slice, ap_b, ap_jnil, ap_jcons, ap_joined, ap_m1, ap_ival, ap_range1, ap_range2, ap_gnam, ap_gsnil, ap_gscons, ap_gtp, ap_gsb, ap_lc, ap_lcH, ap_all, ap_app, ap_call, ap_callD, ap_snil, ap_scons, ap_ret, ap_retN, ap_expr, ap_sif, ap_asg, ap_set, ap_aug, ap_while, ap_for, ap_break, ap_cont, iadd_int, puto_some, slot_0, slot_s, pure_bb, bind_assoc', bad_bb, ite_bind', flow_nx, flow_rt, flow_bk, flow_ct, endOf_rt, endOf_nx, guard_t, guard_nn, wipe_1, bind_pure', opt_some, noexc_p, noexc_bind, noexc_ite, noexc_idem, noexc_guard, noexc_opt, noexc_bad, now_int, now_str, now_bl, now_non, now_tup, now_lst, now_frz, add_int, sub_int, lt_int', le_int', gt_int', ge_int', bool_bl, tru_bl, tru_int, toInt_int, toInt_bl, abs_int, max2_int, min2_int, len_lst, len_frz, len_tup, d1_one, d2_two, ref_hnd, part_int, text_str, gl0, gl1, gl2, gl3, gl4, gl5, gl6, gl7, gl8, gl9, gl10, gl11, gl12, gl13, gl14, gl15, gl16, gc0, gc1, gc2, gc3, gc4, gc5, gc6, gc7, gc8, List.cons_append, List.nil_append, Bool.not_true, Bool.not_false, List.set_cons_succ, List.set_cons_zero, if_true, if_false, Bool.false_eq_true]
end LW
set_option maxRecDepth 100000
set_option maxHeartbeats 4000000
namespace LW
open PySem L2 Mir
theorem some_one {k : Nat} : Draws k 12 ((eLc (iRange1 (eCall 2 m_l_take (aCons (eVar 0) (aCons (eC (.int 12)) aNil)))) (gNam 2) tAll (eBin D.add (eC (.str "f")) (eB (d1 D.strOf) (aCons (eCall 2 m_l_take (aCons (eVar 0) (aCons (eC (.int 8)) aNil))) aNil))) [2])
    [some (.hnd k), none, none, none, none, none]) (fun d => ∃ es, d = .lst es ∧ es.length ≤ 11 ∧ ∀ e, e ∈ es → IsText 4 e) := by
  rw [ap_lc]
  unfold lcAll
  simp only [ap_var, ap_c, ap_bin, ap_chain, ap_bool, ap_tru, ap_neg, ap_an, ap_orr, ap_and, ap_or, ap_not, ap_if, ap_un, ap_nil, ap_cons, ap_tup, ap_lst, ap_lstH, ap_onone, ap_osome, ap_slice, ap_b, ap_jnil, ap_jcons, ap_joined, ap_m1, ap_ival, ap_range1, ap_range2, ap_gnam, ap_gsnil, ap_gscons, ap_gtp, ap_gsb, ap_lc, ap_lcH, ap_all, ap_app, ap_call, ap_callD, ap_snil, ap_scons, ap_ret, ap_retN, ap_expr, ap_sif, ap_asg, ap_set, ap_aug, ap_while, ap_for, ap_break, ap_cont, iadd_int, puto_some, slot_0, slot_s, pure_bb, bind_assoc', bad_bb, ite_bind', flow_nx, flow_rt, flow_bk, flow_ct, endOf_rt, endOf_nx, guard_t, guard_nn, wipe_1, bind_pure', opt_some, noexc_p, noexc_bind, noexc_ite, noexc_idem, noexc_guard, noexc_opt, noexc_bad, now_int, now_str, now_bl, now_non, now_tup, now_lst, now_frz, add_int, sub_int, lt_int', le_int', gt_int', ge_int', bool_bl, tru_bl, tru_int, toInt_int, toInt_bl, abs_int, max2_int, min2_int, len_lst, len_frz, len_tup, d1_one, d2_two, ref_hnd, part_int, text_str, gl0, gl1, gl2, gl3, gl4, gl5, gl6, gl7, gl8, gl9, gl10, gl11, gl12, gl13, gl14, gl15, gl16, gc0, gc1, gc2, gc3, gc4, gc5, gc6, gc7, gc8, List.cons_append, List.nil_append, Bool.not_true, Bool.not_false, List.set_cons_succ, List.set_cons_zero, if_true, if_false, Bool.false_eq_true]
  refine take_dr (c := 11) ⟨by decide, by decide⟩ fun r h0 h1 => ?_
  rw [range1_int _ ⟨by omega, by omega⟩]
  simp only [ap_var, ap_c, ap_bin, ap_chain, ap_bool, ap_tru, ap_neg, ap_an, ap_orr, ap_and, ap_or, ap_not, ap_if, ap_un, ap_nil, ap_cons, ap_tup, ap_lst, ap_lstH, ap_onone, ap_osome, ap_slice, ap_b, ap_jnil, ap_jcons, ap_joined, ap_m1, ap_ival, ap_range1, ap_range2, ap_gnam, ap_gsnil, ap_gscons, ap_gtp, ap_gsb, ap_lc, ap_lcH, ap_all, ap_app, ap_call, ap_callD, ap_snil, ap_scons, ap_ret, ap_retN, ap_expr, ap_sif, ap_asg, ap_set, ap_aug, ap_while, ap_for, ap_break, ap_cont, iadd_int, puto_some, slot_0, slot_s, pure_bb, bind_assoc', bad_bb, ite_bind', flow_nx, flow_rt, flow_bk, flow_ct, endOf_rt, endOf_nx, guard_t, guard_nn, wipe_1, bind_pure', opt_some, noexc_p, noexc_bind, noexc_ite, noexc_idem, noexc_guard, noexc_opt, noexc_bad, now_int, now_str, now_bl, now_non, now_tup, now_lst, now_frz, add_int, sub_int, lt_int', le_int', gt_int', ge_int', bool_bl, tru_bl, tru_int, toInt_int, toInt_bl, abs_int, max2_int, min2_int, len_lst, len_frz, len_tup, d1_one, d2_two, ref_hnd, part_int, text_str, gl0, gl1, gl2, gl3, gl4, gl5, gl6, gl7, gl8, gl9, gl10, gl11, gl12, gl13, gl14, gl15, gl16, gc0, gc1, gc2, gc3, gc4, gc5, gc6, gc7, gc8, List.cons_append, List.nil_append, Bool.not_true, Bool.not_false, List.set_cons_succ, List.set_cons_zero, if_true, if_false, Bool.false_eq_true]
  have h := dr_lc (k := k) (c := 1) (fg := gNam 2) (fe := (eBin D.add (eC (.str "f")) (eB (d1 D.strOf) (aCons (eCall 2 m_l_take (aCons (eVar 0) (aCons (eC (.int 8)) aNil))) aNil)))) (ρ := [some (.hnd k), none, none, none, none, none]) (R := IsText 4) (rangeD 0 r.toNat) [] (fun d _ => ⟨_, ap_gnam 2, ?_⟩) (by rw [len_rangeD]; simp; omega) (fun d h => nomatch h)
  · rw [len_rangeD, Nat.mul_one] at h
    refine dr_le (dr_bind (dr_noexc h) (c' := 0) fun es hes => dr_pure ⟨es, rfl, ?_, hes.2⟩) (show r.toNat + 0 ≤ 11 by omega)
    have := hes.1
    rw [List.length_nil] at this
    omega
  · simp only [ap_var, ap_c, ap_bin, ap_chain, ap_bool, ap_tru, ap_neg, ap_an, ap_orr, ap_and, ap_or, ap_not, ap_if, ap_un, ap_nil, ap_cons, ap_tup, ap_lst, ap_lstH, ap_onone, ap_osome, ap_slice, ap_b, ap_jnil, ap_jcons, ap_joined, ap_m1, ap_ival, ap_range1, ap_range2, ap_gnam, ap_gsnil, ap_gscons, ap_gtp, ap_gsb, ap_lc, ap_lcH, ap_all, ap_app, ap_call, ap_callD, ap_snil, ap_scons, ap_ret, ap_retN, ap_expr, ap_sif, ap_asg, ap_set, ap_aug, ap_while, ap_for, ap_break, ap_cont, iadd_int, puto_some, slot_0, slot_s, pure_bb, bind_assoc', bad_bb, ite_bind', flow_nx, flow_rt, flow_bk, flow_ct, endOf_rt, endOf_nx, guard_t, guard_nn, wipe_1, bind_pure', opt_some, noexc_p, noexc_bind, noexc_ite, noexc_idem, noexc_guard, noexc_opt, noexc_bad, now_int, now_str, now_bl, now_non, now_tup, now_lst, now_frz, add_int, sub_int, lt_int', le_int', gt_int', ge_int', bool_bl, tru_bl, tru_int, toInt_int, toInt_bl, abs_int, max2_int, min2_int, len_lst, len_frz, len_tup, d1_one, d2_two, ref_hnd, part_int, text_str, gl0, gl1, gl2, gl3, gl4, gl5, gl6, gl7, gl8, gl9, gl10, gl11, gl12, gl13, gl14, gl15, gl16, gc0, gc1, gc2, gc3, gc4, gc5, gc6, gc7, gc8, List.cons_append, List.nil_append, Bool.not_true, Bool.not_false, List.set_cons_succ, List.set_cons_zero, if_true, if_false, Bool.false_eq_true]
    refine dr_le (take_dr (c := 0) ⟨by decide, by decide⟩ fun q q0 q1 => ?_) (Nat.le_refl _)
    obtain ⟨n, rfl⟩ := Int.eq_ofNat_of_zero_le q0
    have hl := (str_small n (by omega)).2
    rw [strOf_int _ (log_small q0 (Int.lt_trans q1 (by decide)))]
    simp only [ap_var, ap_c, ap_bin, ap_chain, ap_bool, ap_tru, ap_neg, ap_an, ap_orr, ap_and, ap_or, ap_not, ap_if, ap_un, ap_nil, ap_cons, ap_tup, ap_lst, ap_lstH, ap_onone, ap_osome, ap_slice, ap_b, ap_jnil, ap_jcons, ap_joined, ap_m1, ap_ival, ap_range1, ap_range2, ap_gnam, ap_gsnil, ap_gscons, ap_gtp, ap_gsb, ap_lc, ap_lcH, ap_all, ap_app, ap_call, ap_callD, ap_snil, ap_scons, ap_ret, ap_retN, ap_expr, ap_sif, ap_asg, ap_set, ap_aug, ap_while, ap_for, ap_break, ap_cont, iadd_int, puto_some, slot_0, slot_s, pure_bb, bind_assoc', bad_bb, ite_bind', flow_nx, flow_rt, flow_bk, flow_ct, endOf_rt, endOf_nx, guard_t, guard_nn, wipe_1, bind_pure', opt_some, noexc_p, noexc_bind, noexc_ite, noexc_idem, noexc_guard, noexc_opt, noexc_bad, now_int, now_str, now_bl, now_non, now_tup, now_lst, now_frz, add_int, sub_int, lt_int', le_int', gt_int', ge_int', bool_bl, tru_bl, tru_int, toInt_int, toInt_bl, abs_int, max2_int, min2_int, len_lst, len_frz, len_tup, d1_one, d2_two, ref_hnd, part_int, text_str, gl0, gl1, gl2, gl3, gl4, gl5, gl6, gl7, gl8, gl9, gl10, gl11, gl12, gl13, gl14, gl15, gl16, gc0, gc1, gc2, gc3, gc4, gc5, gc6, gc7, gc8, List.cons_append, List.nil_append, Bool.not_true, Bool.not_false, List.set_cons_succ, List.set_cons_zero, if_true, if_false, Bool.false_eq_true]
    rw [add_small _ _ (by rw [f_is]; show 1 + _ ≤ 1000; omega)]
    exact dr_pure ⟨_, rfl, by rw [app_len, f_is]; show 1 + _ ≤ 4; omega⟩
theorem mid_ok {k : Nat} {es : List D} (n : Int) (hn : 0 ≤ n ∧ n ≤ 12) : (lcAll (iRange1 (eC (.int n))) (gNam 2) tAll (eBin D.add (eC (.str "f")) (eB (d1 D.strOf) (aCons (eVar 2) aNil))) [2]) [some (.hnd k), some (.lst es), none, none, none, none] = pure (((List.range n.toNat).map fk).map D.str) := by
  rw [lcAll_map (ds := rangeD 0 n.toNat) toF (by simp only [ap_var, ap_c, ap_bin, ap_chain, ap_bool, ap_tru, ap_neg, ap_an, ap_orr, ap_and, ap_or, ap_not, ap_if, ap_un, ap_nil, ap_cons, ap_tup, ap_lst, ap_lstH, ap_onone, ap_osome, ap_slice, ap_b, ap_jnil, ap_jcons, ap_joined, ap_m1, ap_ival, ap_range1, ap_range2, ap_gnam, ap_gsnil, ap_gscons, ap_gtp, ap_gsb, ap_lc, ap_lcH, ap_all, ap_app, ap_call, ap_callD, ap_snil, ap_scons, ap_ret, ap_retN, ap_expr, ap_sif, ap_asg, ap_set, ap_aug, ap_while, ap_for, ap_break, ap_cont, iadd_int, puto_some, slot_0, slot_s, pure_bb, bind_assoc', bad_bb, ite_bind', flow_nx, flow_rt, flow_bk, flow_ct, endOf_rt, endOf_nx, guard_t, guard_nn, wipe_1, bind_pure', opt_some, noexc_p, noexc_bind, noexc_ite, noexc_idem, noexc_guard, noexc_opt, noexc_bad, now_int, now_str, now_bl, now_non, now_tup, now_lst, now_frz, add_int, sub_int, lt_int', le_int', gt_int', ge_int', bool_bl, tru_bl, tru_int, toInt_int, toInt_bl, abs_int, max2_int, min2_int, len_lst, len_frz, len_tup, d1_one, d2_two, ref_hnd, part_int, text_str, gl0, gl1, gl2, gl3, gl4, gl5, gl6, gl7, gl8, gl9, gl10, gl11, gl12, gl13, gl14, gl15, gl16, gc0, gc1, gc2, gc3, gc4, gc5, gc6, gc7, gc8, List.cons_append, List.nil_append, Bool.not_true, Bool.not_false, List.set_cons_succ, List.set_cons_zero, if_true, if_false, Bool.false_eq_true]; exact range1_int n ⟨by omega, by omega⟩) (fun d hd => ?_) (by rw [len_rangeD]; omega)]
  · rw [toF_range]
  · obtain ⟨i, hi, rfl⟩ := mem_rangeD hd
    exact ⟨_, rfl, f_body i (by omega) [2] _ rfl⟩
theorem lens (l : List D) {n : Nat} (h : l.length ≤ n) (hn : n ≤ 1000) : l.length ≤ sizeLine := Nat.le_trans (show l.length ≤ 1000 by omega) (by decide)
theorem cut_mem {A : Type} {l : List A} {lo hi : Option Int} {a : A} (h : a ∈ cut l lo hi) : a ∈ l := List.drop_subset _ _ (List.take_subset _ _ h)
theorem fk_text {n : Nat} (h : n < 1000) : IsText 4 (.str (fk n)) := ⟨_, rfl, fk_len h⟩
theorem some_two {k : Nat} {es : List D} (hl : es.length ≤ 11) (he : ∀ e, e ∈ es → IsText 4 e) : Draws k 2 ((eBin D.add (eBin D.add (eVar 1) (eLc (iRange1 (eBin D.ix (eLst (aCons (eC (.int 0)) (aCons (eC (.int 0)) (aCons (eC (.int 12)) aNil)))) (eCall 2 m_l_take (aCons (eVar 0) (aCons (eC (.int 3)) aNil))))) (gNam 2) tAll (eBin D.add (eC (.str "f")) (eB (d1 D.strOf) (aCons (eVar 2) aNil))) [2])) (eSlice (eLst (aCons (eC (.str "a")) (aCons (eC (.str "f")) (aCons (eC (.str "ff")) aNil)))) oNone (oSome (eCall 2 m_l_take (aCons (eVar 0) (aCons (eC (.int 4)) aNil))))))
    [some (.hnd k), some (.lst es), none, none, none, none]) (fun d => ∃ es, d = .lst es ∧ ∀ e, e ∈ es → IsText 4 e) := by
  simp only [ap_bin, ap_lc]
  unfold lcAll
  simp only [ap_var, ap_c, ap_bin, ap_chain, ap_bool, ap_tru, ap_neg, ap_an, ap_orr, ap_and, ap_or, ap_not, ap_if, ap_un, ap_nil, ap_cons, ap_tup, ap_lst, ap_lstH, ap_onone, ap_osome, ap_slice, ap_b, ap_jnil, ap_jcons, ap_joined, ap_m1, ap_ival, ap_range1, ap_range2, ap_gnam, ap_gsnil, ap_gscons, ap_gtp, ap_gsb, ap_lc, ap_lcH, ap_all, ap_app, ap_call, ap_callD, ap_snil, ap_scons, ap_ret, ap_retN, ap_expr, ap_sif, ap_asg, ap_set, ap_aug, ap_while, ap_for, ap_break, ap_cont, iadd_int, puto_some, slot_0, slot_s, pure_bb, bind_assoc', bad_bb, ite_bind', flow_nx, flow_rt, flow_bk, flow_ct, endOf_rt, endOf_nx, guard_t, guard_nn, wipe_1, bind_pure', opt_some, noexc_p, noexc_bind, noexc_ite, noexc_idem, noexc_guard, noexc_opt, noexc_bad, now_int, now_str, now_bl, now_non, now_tup, now_lst, now_frz, add_int, sub_int, lt_int', le_int', gt_int', ge_int', bool_bl, tru_bl, tru_int, toInt_int, toInt_bl, abs_int, max2_int, min2_int, len_lst, len_frz, len_tup, d1_one, d2_two, ref_hnd, part_int, text_str, gl0, gl1, gl2, gl3, gl4, gl5, gl6, gl7, gl8, gl9, gl10, gl11, gl12, gl13, gl14, gl15, gl16, gc0, gc1, gc2, gc3, gc4, gc5, gc6, gc7, gc8, List.cons_append, List.nil_append, Bool.not_true, Bool.not_false, List.set_cons_succ, List.set_cons_zero, if_true, if_false, Bool.false_eq_true]
  refine take_dr (c := 1) ⟨by decide, by decide⟩ fun r h0 h1 => ?_
  obtain ⟨d, hd, e1⟩ := pick_at (ds := [.int 0, .int 0, .int 12]) h0 h1
  rw [dx_lst, e1]
  have hd2 : ∃ n : Int, d = .int n ∧ 0 ≤ n ∧ n ≤ 12 := by
    simp only [List.mem_cons, List.not_mem_nil, or_false] at hd
    rcases hd with rfl | rfl | rfl
    · exact ⟨0, rfl, by decide, by decide⟩
    · exact ⟨0, rfl, by decide, by decide⟩
    · exact ⟨12, rfl, by decide, by decide⟩
  obtain ⟨n, rfl, n0, n1⟩ := hd2
  have hm := mid_ok (k := k) (es := es) n ⟨n0, n1⟩
  unfold lcAll at hm
  simp only [ap_var, ap_c, ap_bin, ap_chain, ap_bool, ap_tru, ap_neg, ap_an, ap_orr, ap_and, ap_or, ap_not, ap_if, ap_un, ap_nil, ap_cons, ap_tup, ap_lst, ap_lstH, ap_onone, ap_osome, ap_slice, ap_b, ap_jnil, ap_jcons, ap_joined, ap_m1, ap_ival, ap_range1, ap_range2, ap_gnam, ap_gsnil, ap_gscons, ap_gtp, ap_gsb, ap_lc, ap_lcH, ap_all, ap_app, ap_call, ap_callD, ap_snil, ap_scons, ap_ret, ap_retN, ap_expr, ap_sif, ap_asg, ap_set, ap_aug, ap_while, ap_for, ap_break, ap_cont, iadd_int, puto_some, slot_0, slot_s, pure_bb, bind_assoc', bad_bb, ite_bind', flow_nx, flow_rt, flow_bk, flow_ct, endOf_rt, endOf_nx, guard_t, guard_nn, wipe_1, bind_pure', opt_some, noexc_p, noexc_bind, noexc_ite, noexc_idem, noexc_guard, noexc_opt, noexc_bad, now_int, now_str, now_bl, now_non, now_tup, now_lst, now_frz, add_int, sub_int, lt_int', le_int', gt_int', ge_int', bool_bl, tru_bl, tru_int, toInt_int, toInt_bl, abs_int, max2_int, min2_int, len_lst, len_frz, len_tup, d1_one, d2_two, ref_hnd, part_int, text_str, gl0, gl1, gl2, gl3, gl4, gl5, gl6, gl7, gl8, gl9, gl10, gl11, gl12, gl13, gl14, gl15, gl16, gc0, gc1, gc2, gc3, gc4, gc5, gc6, gc7, gc8, List.cons_append, List.nil_append, Bool.not_true, Bool.not_false, List.set_cons_succ, List.set_cons_zero, if_true, if_false, Bool.false_eq_true] at hm
  rw [range1_int n ⟨by omega, by omega⟩] at hm
  simp only [ap_var, ap_c, ap_bin, ap_chain, ap_bool, ap_tru, ap_neg, ap_an, ap_orr, ap_and, ap_or, ap_not, ap_if, ap_un, ap_nil, ap_cons, ap_tup, ap_lst, ap_lstH, ap_onone, ap_osome, ap_slice, ap_b, ap_jnil, ap_jcons, ap_joined, ap_m1, ap_ival, ap_range1, ap_range2, ap_gnam, ap_gsnil, ap_gscons, ap_gtp, ap_gsb, ap_lc, ap_lcH, ap_all, ap_app, ap_call, ap_callD, ap_snil, ap_scons, ap_ret, ap_retN, ap_expr, ap_sif, ap_asg, ap_set, ap_aug, ap_while, ap_for, ap_break, ap_cont, iadd_int, puto_some, slot_0, slot_s, pure_bb, bind_assoc', bad_bb, ite_bind', flow_nx, flow_rt, flow_bk, flow_ct, endOf_rt, endOf_nx, guard_t, guard_nn, wipe_1, bind_pure', opt_some, noexc_p, noexc_bind, noexc_ite, noexc_idem, noexc_guard, noexc_opt, noexc_bad, now_int, now_str, now_bl, now_non, now_tup, now_lst, now_frz, add_int, sub_int, lt_int', le_int', gt_int', ge_int', bool_bl, tru_bl, tru_int, toInt_int, toInt_bl, abs_int, max2_int, min2_int, len_lst, len_frz, len_tup, d1_one, d2_two, ref_hnd, part_int, text_str, gl0, gl1, gl2, gl3, gl4, gl5, gl6, gl7, gl8, gl9, gl10, gl11, gl12, gl13, gl14, gl15, gl16, gc0, gc1, gc2, gc3, gc4, gc5, gc6, gc7, gc8, List.cons_append, List.nil_append, Bool.not_true, Bool.not_false, List.set_cons_succ, List.set_cons_zero, if_true, if_false, Bool.false_eq_true] at hm
  simp only [ap_var, ap_c, ap_bin, ap_chain, ap_bool, ap_tru, ap_neg, ap_an, ap_orr, ap_and, ap_or, ap_not, ap_if, ap_un, ap_nil, ap_cons, ap_tup, ap_lst, ap_lstH, ap_onone, ap_osome, ap_slice, ap_b, ap_jnil, ap_jcons, ap_joined, ap_m1, ap_ival, ap_range1, ap_range2, ap_gnam, ap_gsnil, ap_gscons, ap_gtp, ap_gsb, ap_lc, ap_lcH, ap_all, ap_app, ap_call, ap_callD, ap_snil, ap_scons, ap_ret, ap_retN, ap_expr, ap_sif, ap_asg, ap_set, ap_aug, ap_while, ap_for, ap_break, ap_cont, iadd_int, puto_some, slot_0, slot_s, pure_bb, bind_assoc', bad_bb, ite_bind', flow_nx, flow_rt, flow_bk, flow_ct, endOf_rt, endOf_nx, guard_t, guard_nn, wipe_1, bind_pure', opt_some, noexc_p, noexc_bind, noexc_ite, noexc_idem, noexc_guard, noexc_opt, noexc_bad, now_int, now_str, now_bl, now_non, now_tup, now_lst, now_frz, add_int, sub_int, lt_int', le_int', gt_int', ge_int', bool_bl, tru_bl, tru_int, toInt_int, toInt_bl, abs_int, max2_int, min2_int, len_lst, len_frz, len_tup, d1_one, d2_two, ref_hnd, part_int, text_str, gl0, gl1, gl2, gl3, gl4, gl5, gl6, gl7, gl8, gl9, gl10, gl11, gl12, gl13, gl14, gl15, gl16, gc0, gc1, gc2, gc3, gc4, gc5, gc6, gc7, gc8, List.cons_append, List.nil_append, Bool.not_true, Bool.not_false, List.set_cons_succ, List.set_cons_zero, if_true, if_false, Bool.false_eq_true]
  rw [range1_int n ⟨by omega, by omega⟩]
  simp only [ap_var, ap_c, ap_bin, ap_chain, ap_bool, ap_tru, ap_neg, ap_an, ap_orr, ap_and, ap_or, ap_not, ap_if, ap_un, ap_nil, ap_cons, ap_tup, ap_lst, ap_lstH, ap_onone, ap_osome, ap_slice, ap_b, ap_jnil, ap_jcons, ap_joined, ap_m1, ap_ival, ap_range1, ap_range2, ap_gnam, ap_gsnil, ap_gscons, ap_gtp, ap_gsb, ap_lc, ap_lcH, ap_all, ap_app, ap_call, ap_callD, ap_snil, ap_scons, ap_ret, ap_retN, ap_expr, ap_sif, ap_asg, ap_set, ap_aug, ap_while, ap_for, ap_break, ap_cont, iadd_int, puto_some, slot_0, slot_s, pure_bb, bind_assoc', bad_bb, ite_bind', flow_nx, flow_rt, flow_bk, flow_ct, endOf_rt, endOf_nx, guard_t, guard_nn, wipe_1, bind_pure', opt_some, noexc_p, noexc_bind, noexc_ite, noexc_idem, noexc_guard, noexc_opt, noexc_bad, now_int, now_str, now_bl, now_non, now_tup, now_lst, now_frz, add_int, sub_int, lt_int', le_int', gt_int', ge_int', bool_bl, tru_bl, tru_int, toInt_int, toInt_bl, abs_int, max2_int, min2_int, len_lst, len_frz, len_tup, d1_one, d2_two, ref_hnd, part_int, text_str, gl0, gl1, gl2, gl3, gl4, gl5, gl6, gl7, gl8, gl9, gl10, gl11, gl12, gl13, gl14, gl15, gl16, gc0, gc1, gc2, gc3, gc4, gc5, gc6, gc7, gc8, List.cons_append, List.nil_append, Bool.not_true, Bool.not_false, List.set_cons_succ, List.set_cons_zero, if_true, if_false, Bool.false_eq_true]
  rw [hm]
  simp only [ap_var, ap_c, ap_bin, ap_chain, ap_bool, ap_tru, ap_neg, ap_an, ap_orr, ap_and, ap_or, ap_not, ap_if, ap_un, ap_nil, ap_cons, ap_tup, ap_lst, ap_lstH, ap_onone, ap_osome, ap_slice, ap_b, ap_jnil, ap_jcons, ap_joined, ap_m1, ap_ival, ap_range1, ap_range2, ap_gnam, ap_gsnil, ap_gscons, ap_gtp, ap_gsb, ap_lc, ap_lcH, ap_all, ap_app, ap_call, ap_callD, ap_snil, ap_scons, ap_ret, ap_retN, ap_expr, ap_sif, ap_asg, ap_set, ap_aug, ap_while, ap_for, ap_break, ap_cont, iadd_int, puto_some, slot_0, slot_s, pure_bb, bind_assoc', bad_bb, ite_bind', flow_nx, flow_rt, flow_bk, flow_ct, endOf_rt, endOf_nx, guard_t, guard_nn, wipe_1, bind_pure', opt_some, noexc_p, noexc_bind, noexc_ite, noexc_idem, noexc_guard, noexc_opt, noexc_bad, now_int, now_str, now_bl, now_non, now_tup, now_lst, now_frz, add_int, sub_int, lt_int', le_int', gt_int', ge_int', bool_bl, tru_bl, tru_int, toInt_int, toInt_bl, abs_int, max2_int, min2_int, len_lst, len_frz, len_tup, d1_one, d2_two, ref_hnd, part_int, text_str, gl0, gl1, gl2, gl3, gl4, gl5, gl6, gl7, gl8, gl9, gl10, gl11, gl12, gl13, gl14, gl15, gl16, gc0, gc1, gc2, gc3, gc4, gc5, gc6, gc7, gc8, List.cons_append, List.nil_append, Bool.not_true, Bool.not_false, List.set_cons_succ, List.set_cons_zero, if_true, if_false, Bool.false_eq_true]
  have hml : (((List.range n.toNat).map fk).map D.str).length ≤ 12 := by
    rw [List.length_map, List.length_map, List.length_range]
    omega
  have hmt : ∀ e, e ∈ ((List.range n.toNat).map fk).map D.str → IsText 4 e := fun e he => by
    obtain ⟨x, hx, rfl⟩ := List.mem_map.mp he
    obtain ⟨i, hi, rfl⟩ := List.mem_map.mp hx
    rw [List.mem_range] at hi
    exact fk_text (by omega)
  generalize ((List.range n.toNat).map fk).map D.str = ms at hml hmt
  rw [add_lst _ _ (Nat.le_trans (show es.length + ms.length ≤ 1000 by omega) (by decide))]
  simp only [ap_var, ap_c, ap_bin, ap_chain, ap_bool, ap_tru, ap_neg, ap_an, ap_orr, ap_and, ap_or, ap_not, ap_if, ap_un, ap_nil, ap_cons, ap_tup, ap_lst, ap_lstH, ap_onone, ap_osome, ap_slice, ap_b, ap_jnil, ap_jcons, ap_joined, ap_m1, ap_ival, ap_range1, ap_range2, ap_gnam, ap_gsnil, ap_gscons, ap_gtp, ap_gsb, ap_lc, ap_lcH, ap_all, ap_app, ap_call, ap_callD, ap_snil, ap_scons, ap_ret, ap_retN, ap_expr, ap_sif, ap_asg, ap_set, ap_aug, ap_while, ap_for, ap_break, ap_cont, iadd_int, puto_some, slot_0, slot_s, pure_bb, bind_assoc', bad_bb, ite_bind', flow_nx, flow_rt, flow_bk, flow_ct, endOf_rt, endOf_nx, guard_t, guard_nn, wipe_1, bind_pure', opt_some, noexc_p, noexc_bind, noexc_ite, noexc_idem, noexc_guard, noexc_opt, noexc_bad, now_int, now_str, now_bl, now_non, now_tup, now_lst, now_frz, add_int, sub_int, lt_int', le_int', gt_int', ge_int', bool_bl, tru_bl, tru_int, toInt_int, toInt_bl, abs_int, max2_int, min2_int, len_lst, len_frz, len_tup, d1_one, d2_two, ref_hnd, part_int, text_str, gl0, gl1, gl2, gl3, gl4, gl5, gl6, gl7, gl8, gl9, gl10, gl11, gl12, gl13, gl14, gl15, gl16, gc0, gc1, gc2, gc3, gc4, gc5, gc6, gc7, gc8, List.cons_append, List.nil_append, Bool.not_true, Bool.not_false, List.set_cons_succ, List.set_cons_zero, if_true, if_false, Bool.false_eq_true]
  refine take_dr (c := 0) ⟨by decide, by decide⟩ fun q q0 q1 => ?_
  simp only [ap_var, ap_c, ap_bin, ap_chain, ap_bool, ap_tru, ap_neg, ap_an, ap_orr, ap_and, ap_or, ap_not, ap_if, ap_un, ap_nil, ap_cons, ap_tup, ap_lst, ap_lstH, ap_onone, ap_osome, ap_slice, ap_b, ap_jnil, ap_jcons, ap_joined, ap_m1, ap_ival, ap_range1, ap_range2, ap_gnam, ap_gsnil, ap_gscons, ap_gtp, ap_gsb, ap_lc, ap_lcH, ap_all, ap_app, ap_call, ap_callD, ap_snil, ap_scons, ap_ret, ap_retN, ap_expr, ap_sif, ap_asg, ap_set, ap_aug, ap_while, ap_for, ap_break, ap_cont, iadd_int, puto_some, slot_0, slot_s, pure_bb, bind_assoc', bad_bb, ite_bind', flow_nx, flow_rt, flow_bk, flow_ct, endOf_rt, endOf_nx, guard_t, guard_nn, wipe_1, bind_pure', opt_some, noexc_p, noexc_bind, noexc_ite, noexc_idem, noexc_guard, noexc_opt, noexc_bad, now_int, now_str, now_bl, now_non, now_tup, now_lst, now_frz, add_int, sub_int, lt_int', le_int', gt_int', ge_int', bool_bl, tru_bl, tru_int, toInt_int, toInt_bl, abs_int, max2_int, min2_int, len_lst, len_frz, len_tup, d1_one, d2_two, ref_hnd, part_int, text_str, gl0, gl1, gl2, gl3, gl4, gl5, gl6, gl7, gl8, gl9, gl10, gl11, gl12, gl13, gl14, gl15, gl16, gc0, gc1, gc2, gc3, gc4, gc5, gc6, gc7, gc8, List.cons_append, List.nil_append, Bool.not_true, Bool.not_false, List.set_cons_succ, List.set_cons_zero, if_true, if_false, Bool.false_eq_true]
  rw [slice_lst]
  simp only [ap_var, ap_c, ap_bin, ap_chain, ap_bool, ap_tru, ap_neg, ap_an, ap_orr, ap_and, ap_or, ap_not, ap_if, ap_un, ap_nil, ap_cons, ap_tup, ap_lst, ap_lstH, ap_onone, ap_osome, ap_slice, ap_b, ap_jnil, ap_jcons, ap_joined, ap_m1, ap_ival, ap_range1, ap_range2, ap_gnam, ap_gsnil, ap_gscons, ap_gtp, ap_gsb, ap_lc, ap_lcH, ap_all, ap_app, ap_call, ap_callD, ap_snil, ap_scons, ap_ret, ap_retN, ap_expr, ap_sif, ap_asg, ap_set, ap_aug, ap_while, ap_for, ap_break, ap_cont, iadd_int, puto_some, slot_0, slot_s, pure_bb, bind_assoc', bad_bb, ite_bind', flow_nx, flow_rt, flow_bk, flow_ct, endOf_rt, endOf_nx, guard_t, guard_nn, wipe_1, bind_pure', opt_some, noexc_p, noexc_bind, noexc_ite, noexc_idem, noexc_guard, noexc_opt, noexc_bad, now_int, now_str, now_bl, now_non, now_tup, now_lst, now_frz, add_int, sub_int, lt_int', le_int', gt_int', ge_int', bool_bl, tru_bl, tru_int, toInt_int, toInt_bl, abs_int, max2_int, min2_int, len_lst, len_frz, len_tup, d1_one, d2_two, ref_hnd, part_int, text_str, gl0, gl1, gl2, gl3, gl4, gl5, gl6, gl7, gl8, gl9, gl10, gl11, gl12, gl13, gl14, gl15, gl16, gc0, gc1, gc2, gc3, gc4, gc5, gc6, gc7, gc8, List.cons_append, List.nil_append, Bool.not_true, Bool.not_false, List.set_cons_succ, List.set_cons_zero, if_true, if_false, Bool.false_eq_true]
  have hcl := cut_len [D.str "a", .str "f", .str "ff"] none (some q)
  have hct : ∀ e, e ∈ cut [D.str "a", .str "f", .str "ff"] none (some q) → IsText 4 e := fun e he => by
    have := cut_mem he
    simp only [List.mem_cons, List.not_mem_nil, or_false] at this
    rcases this with rfl | rfl | rfl <;> exact ⟨_, rfl, by decide +kernel⟩
  generalize cut [D.str "a", .str "f", .str "ff"] none (some q) = ws at hcl hct
  have h3 : [D.str "a", .str "f", .str "ff"].length = 3 := rfl
  have h4 : (es ++ ms).length = es.length + ms.length := List.length_append
  rw [add_lst _ _ (Nat.le_trans (show (es ++ ms).length + ws.length ≤ 1000 by omega) (by decide))]
  refine dr_pure ⟨_, rfl, fun e hm => ?_⟩
  rcases List.mem_append.mp hm with h | h
  · rcases List.mem_append.mp h with h | h
    · exact he e h
    · exact hmt e h
  · exact hct e h
theorem fresh_right {k : Nat} : Draws k 20 (m_l_fresh_right [.hnd k]) (fun d => d = .bl true) := by
  show Draws k 20 (M.noexc (b_l_fresh_right (startE 6 [.hnd k]) >>= endOf)) _
  have e0 : startE 6 [.hnd k] = [some (.hnd k), none, none, none, none, none] := rfl
  rw [e0]
  refine dr_noexc ?_
  unfold b_l_fresh_right
  simp only [ap_scons, ap_set, bind_assoc']
  refine dr_le (dr_bind some_one (c' := 8) fun d hd => ?_) (Nat.le_refl _)
  obtain ⟨es, rfl, hl, he⟩ := hd
  simp only [pure_bb, flow_nx, List.set_cons_succ, List.set_cons_zero, ap_scons, ap_set, bind_assoc']
  refine dr_le (dr_bind (some_two hl he) (c' := 0) fun d hd => ?_) (show 2 + 0 ≤ 8 by decide)
  obtain ⟨es2, rfl, he2⟩ := hd
  obtain ⟨xs, rfl⟩ := texts_of es2 he2
  have hx : eB (d1 D.tuple) (aCons (eSlice (eVar 1) oNone (oSome (eC (.int 11)))) aNil) [some (D.hnd k), some (D.lst (List.map D.str xs)), none, none, none, none] = pure (.tup ((cut xs none (some 11)).map D.str)) := by
    simp only [ap_var, ap_c, ap_bin, ap_chain, ap_bool, ap_tru, ap_neg, ap_an, ap_orr, ap_and, ap_or, ap_not, ap_if, ap_un, ap_nil, ap_cons, ap_tup, ap_lst, ap_lstH, ap_onone, ap_osome, ap_slice, ap_b, ap_jnil, ap_jcons, ap_joined, ap_m1, ap_ival, ap_range1, ap_range2, ap_gnam, ap_gsnil, ap_gscons, ap_gtp, ap_gsb, ap_lc, ap_lcH, ap_all, ap_app, ap_call, ap_callD, ap_snil, ap_scons, ap_ret, ap_retN, ap_expr, ap_sif, ap_asg, ap_set, ap_aug, ap_while, ap_for, ap_break, ap_cont, iadd_int, puto_some, slot_0, slot_s, pure_bb, bind_assoc', bad_bb, ite_bind', flow_nx, flow_rt, flow_bk, flow_ct, endOf_rt, endOf_nx, guard_t, guard_nn, wipe_1, bind_pure', opt_some, noexc_p, noexc_bind, noexc_ite, noexc_idem, noexc_guard, noexc_opt, noexc_bad, now_int, now_str, now_bl, now_non, now_tup, now_lst, now_frz, add_int, sub_int, lt_int', le_int', gt_int', ge_int', bool_bl, tru_bl, tru_int, toInt_int, toInt_bl, abs_int, max2_int, min2_int, len_lst, len_frz, len_tup, d1_one, d2_two, ref_hnd, part_int, text_str, gl0, gl1, gl2, gl3, gl4, gl5, gl6, gl7, gl8, gl9, gl10, gl11, gl12, gl13, gl14, gl15, gl16, gc0, gc1, gc2, gc3, gc4, gc5, gc6, gc7, gc8, List.cons_append, List.nil_append, Bool.not_true, Bool.not_false, List.set_cons_succ, List.set_cons_zero, if_true, if_false, Bool.false_eq_true]
    rw [slice_lst, cut_map]
    simp only [ap_var, ap_c, ap_bin, ap_chain, ap_bool, ap_tru, ap_neg, ap_an, ap_orr, ap_and, ap_or, ap_not, ap_if, ap_un, ap_nil, ap_cons, ap_tup, ap_lst, ap_lstH, ap_onone, ap_osome, ap_slice, ap_b, ap_jnil, ap_jcons, ap_joined, ap_m1, ap_ival, ap_range1, ap_range2, ap_gnam, ap_gsnil, ap_gscons, ap_gtp, ap_gsb, ap_lc, ap_lcH, ap_all, ap_app, ap_call, ap_callD, ap_snil, ap_scons, ap_ret, ap_retN, ap_expr, ap_sif, ap_asg, ap_set, ap_aug, ap_while, ap_for, ap_break, ap_cont, iadd_int, puto_some, slot_0, slot_s, pure_bb, bind_assoc', bad_bb, ite_bind', flow_nx, flow_rt, flow_bk, flow_ct, endOf_rt, endOf_nx, guard_t, guard_nn, wipe_1, bind_pure', opt_some, noexc_p, noexc_bind, noexc_ite, noexc_idem, noexc_guard, noexc_opt, noexc_bad, now_int, now_str, now_bl, now_non, now_tup, now_lst, now_frz, add_int, sub_int, lt_int', le_int', gt_int', ge_int', bool_bl, tru_bl, tru_int, toInt_int, toInt_bl, abs_int, max2_int, min2_int, len_lst, len_frz, len_tup, d1_one, d2_two, ref_hnd, part_int, text_str, gl0, gl1, gl2, gl3, gl4, gl5, gl6, gl7, gl8, gl9, gl10, gl11, gl12, gl13, gl14, gl15, gl16, gc0, gc1, gc2, gc3, gc4, gc5, gc6, gc7, gc8, List.cons_append, List.nil_append, Bool.not_true, Bool.not_false, List.set_cons_succ, List.set_cons_zero, if_true, if_false, Bool.false_eq_true]
    rfl
  have hl2 := cut_11 xs
  generalize cut xs none (some 11) = names at hx hl2
  rw [hx]
  obtain ⟨q, q0, q1, q2⟩ := first_free names (by omega)
  simp only [pure_bb, flow_nx, List.set_cons_succ, List.set_cons_zero, ap_scons, ap_set, bind_assoc']
  rw [due_ok names q q0 q1 q2]
  simp only [pure_bb, flow_nx, List.set_cons_succ, List.set_cons_zero, ap_scons, ap_set, bind_assoc']
  rw [fresh_end names hl2 q q0 q1 q2]
  exact dr_pure rfl
end LW
set_option maxRecDepth 100000
set_option maxHeartbeats 4000000
namespace LW
open PySem L2 Mir
theorem b01 (b : Bool) : 0 ≤ (if b = true then (1 : Int) else 0) ∧ -(2 ^ 64) < (if b = true then (1 : Int) else 0) ∧ (if b = true then (1 : Int) else 0) < 2 ^ 64 := by cases b <;> decide
theorem bag_run (ns : List Int) (i : Nat) (hi : i ≤ 64) (m : Mu) : ∃ x y : Int, 0 ≤ x ∧ 0 ≤ y ∧ y ≤ 2 ^ 32 ∧ (m_l_bag [.frz (ns.map .int), .int i]).run m = .ok (.hnd m.length) (m ++ [.lst [.int x, .int y, .int 0]]) := by
  have fin : ∀ cell : Int, ∃ x y : Int, 0 ≤ x ∧ 0 ≤ y ∧ y ≤ 2 ^ 32 ∧ (D.mul (.int (if cell < 0 then -cell else cell)) (.int (if decide (10 ^ 18 ≤ (if cell < 0 then -cell else cell)) then 1 else 0)) = pure (.int x)) ∧ D.mod (.int cell) (.int 2147483647) = pure (.int (cell % 2147483647)) ∧ cell % 2147483647 + 40009 * (i : Int) = y := fun cell => by
    refine ⟨_, _, ?_, ?_, ?_, mul_int' _ _ (.inr ?_), mod_int' _ _ (by decide), rfl⟩
    · refine Int.mul_nonneg ?_ ?_
      · split <;> omega
      · exact (b01 _).1
    · omega
    · omega
    · exact (b01 _).2
  have end_ : ∀ cell : Int, ∃ x y : Int, 0 ≤ x ∧ 0 ≤ y ∧ y ≤ 2 ^ 32 ∧ (M.noexc ((sCons (sSet 3 (eB (d1 D.abs) (aCons (eVar 2) aNil)))
      (sRet (eLstH (aCons (eBin D.mul (eVar 3) (eB (d1 D.toInt) (aCons (eBin D.ge (eVar 3) (eBin D.pow (eC (.int 10)) (eC (.int 18)))) aNil))) (aCons (eBin D.add (eBin D.mod (eVar 2) (eC (.int 2147483647))) (eBin D.mul (eC (.int 40009)) (eVar 1))) (aCons (eC (.int 0)) aNil)))))) [some (.frz (ns.map .int)), some (.int i), some (.int cell), none] >>= endOf)).run m = .ok (.hnd m.length) (m ++ [.lst [.int x, .int y, .int 0]]) := fun cell => by
    obtain ⟨x, y, h0, h1, h2, e1, e2, e3⟩ := fin cell
    refine ⟨x, y, h0, h1, h2, ?_⟩
    simp only [ap_var, ap_c, ap_bin, ap_chain, ap_bool, ap_tru, ap_neg, ap_an, ap_orr, ap_and, ap_or, ap_not, ap_if, ap_un, ap_nil, ap_cons, ap_tup, ap_lst, ap_lstH, ap_onone, ap_osome, ap_slice, ap_b, ap_jnil, ap_jcons, ap_joined, ap_m1, ap_ival, ap_range1, ap_range2, ap_gnam, ap_gsnil, ap_gscons, ap_gtp, ap_gsb, ap_lc, ap_lcH, ap_all, ap_app, ap_call, ap_callD, ap_snil, ap_scons, ap_ret, ap_retN, ap_expr, ap_sif, ap_asg, ap_set, ap_aug, ap_while, ap_for, ap_break, ap_cont, iadd_int, puto_some, slot_0, slot_s, pure_bb, bind_assoc', bad_bb, ite_bind', flow_nx, flow_rt, flow_bk, flow_ct, endOf_rt, endOf_nx, guard_t, guard_nn, wipe_1, bind_pure', opt_some, noexc_p, noexc_bind, noexc_ite, noexc_idem, noexc_guard, noexc_opt, noexc_bad, now_int, now_str, now_bl, now_non, now_tup, now_lst, now_frz, add_int, sub_int, lt_int', le_int', gt_int', ge_int', bool_bl, tru_bl, tru_int, toInt_int, toInt_bl, abs_int, max2_int, min2_int, len_lst, len_frz, len_tup, d1_one, d2_two, ref_hnd, part_int, text_str, gl0, gl1, gl2, gl3, gl4, gl5, gl6, gl7, gl8, gl9, gl10, gl11, gl12, gl13, gl14, gl15, gl16, gc0, gc1, gc2, gc3, gc4, gc5, gc6, gc7, gc8, List.cons_append, List.nil_append, Bool.not_true, Bool.not_false, List.set_cons_succ, List.set_cons_zero, if_true, if_false, Bool.false_eq_true]
    rw [pow_int' 10 18 ⟨by decide, by decide, by decide⟩]
    simp only [ap_var, ap_c, ap_bin, ap_chain, ap_bool, ap_tru, ap_neg, ap_an, ap_orr, ap_and, ap_or, ap_not, ap_if, ap_un, ap_nil, ap_cons, ap_tup, ap_lst, ap_lstH, ap_onone, ap_osome, ap_slice, ap_b, ap_jnil, ap_jcons, ap_joined, ap_m1, ap_ival, ap_range1, ap_range2, ap_gnam, ap_gsnil, ap_gscons, ap_gtp, ap_gsb, ap_lc, ap_lcH, ap_all, ap_app, ap_call, ap_callD, ap_snil, ap_scons, ap_ret, ap_retN, ap_expr, ap_sif, ap_asg, ap_set, ap_aug, ap_while, ap_for, ap_break, ap_cont, iadd_int, puto_some, slot_0, slot_s, pure_bb, bind_assoc', bad_bb, ite_bind', flow_nx, flow_rt, flow_bk, flow_ct, endOf_rt, endOf_nx, guard_t, guard_nn, wipe_1, bind_pure', opt_some, noexc_p, noexc_bind, noexc_ite, noexc_idem, noexc_guard, noexc_opt, noexc_bad, now_int, now_str, now_bl, now_non, now_tup, now_lst, now_frz, add_int, sub_int, lt_int', le_int', gt_int', ge_int', bool_bl, tru_bl, tru_int, toInt_int, toInt_bl, abs_int, max2_int, min2_int, len_lst, len_frz, len_tup, d1_one, d2_two, ref_hnd, part_int, text_str, gl0, gl1, gl2, gl3, gl4, gl5, gl6, gl7, gl8, gl9, gl10, gl11, gl12, gl13, gl14, gl15, gl16, gc0, gc1, gc2, gc3, gc4, gc5, gc6, gc7, gc8, List.cons_append, List.nil_append, Bool.not_true, Bool.not_false, List.set_cons_succ, List.set_cons_zero, if_true, if_false, Bool.false_eq_true]
    rw [show ((18 : Int).toNat) = 18 from rfl, e1]
    simp only [ap_var, ap_c, ap_bin, ap_chain, ap_bool, ap_tru, ap_neg, ap_an, ap_orr, ap_and, ap_or, ap_not, ap_if, ap_un, ap_nil, ap_cons, ap_tup, ap_lst, ap_lstH, ap_onone, ap_osome, ap_slice, ap_b, ap_jnil, ap_jcons, ap_joined, ap_m1, ap_ival, ap_range1, ap_range2, ap_gnam, ap_gsnil, ap_gscons, ap_gtp, ap_gsb, ap_lc, ap_lcH, ap_all, ap_app, ap_call, ap_callD, ap_snil, ap_scons, ap_ret, ap_retN, ap_expr, ap_sif, ap_asg, ap_set, ap_aug, ap_while, ap_for, ap_break, ap_cont, iadd_int, puto_some, slot_0, slot_s, pure_bb, bind_assoc', bad_bb, ite_bind', flow_nx, flow_rt, flow_bk, flow_ct, endOf_rt, endOf_nx, guard_t, guard_nn, wipe_1, bind_pure', opt_some, noexc_p, noexc_bind, noexc_ite, noexc_idem, noexc_guard, noexc_opt, noexc_bad, now_int, now_str, now_bl, now_non, now_tup, now_lst, now_frz, add_int, sub_int, lt_int', le_int', gt_int', ge_int', bool_bl, tru_bl, tru_int, toInt_int, toInt_bl, abs_int, max2_int, min2_int, len_lst, len_frz, len_tup, d1_one, d2_two, ref_hnd, part_int, text_str, gl0, gl1, gl2, gl3, gl4, gl5, gl6, gl7, gl8, gl9, gl10, gl11, gl12, gl13, gl14, gl15, gl16, gc0, gc1, gc2, gc3, gc4, gc5, gc6, gc7, gc8, List.cons_append, List.nil_append, Bool.not_true, Bool.not_false, List.set_cons_succ, List.set_cons_zero, if_true, if_false, Bool.false_eq_true]
    rw [e2, mul_int' 40009 _ (.inl ⟨by decide, by decide⟩)]
    simp only [ap_var, ap_c, ap_bin, ap_chain, ap_bool, ap_tru, ap_neg, ap_an, ap_orr, ap_and, ap_or, ap_not, ap_if, ap_un, ap_nil, ap_cons, ap_tup, ap_lst, ap_lstH, ap_onone, ap_osome, ap_slice, ap_b, ap_jnil, ap_jcons, ap_joined, ap_m1, ap_ival, ap_range1, ap_range2, ap_gnam, ap_gsnil, ap_gscons, ap_gtp, ap_gsb, ap_lc, ap_lcH, ap_all, ap_app, ap_call, ap_callD, ap_snil, ap_scons, ap_ret, ap_retN, ap_expr, ap_sif, ap_asg, ap_set, ap_aug, ap_while, ap_for, ap_break, ap_cont, iadd_int, puto_some, slot_0, slot_s, pure_bb, bind_assoc', bad_bb, ite_bind', flow_nx, flow_rt, flow_bk, flow_ct, endOf_rt, endOf_nx, guard_t, guard_nn, wipe_1, bind_pure', opt_some, noexc_p, noexc_bind, noexc_ite, noexc_idem, noexc_guard, noexc_opt, noexc_bad, now_int, now_str, now_bl, now_non, now_tup, now_lst, now_frz, add_int, sub_int, lt_int', le_int', gt_int', ge_int', bool_bl, tru_bl, tru_int, toInt_int, toInt_bl, abs_int, max2_int, min2_int, len_lst, len_frz, len_tup, d1_one, d2_two, ref_hnd, part_int, text_str, gl0, gl1, gl2, gl3, gl4, gl5, gl6, gl7, gl8, gl9, gl10, gl11, gl12, gl13, gl14, gl15, gl16, gc0, gc1, gc2, gc3, gc4, gc5, gc6, gc7, gc8, List.cons_append, List.nil_append, Bool.not_true, Bool.not_false, List.set_cons_succ, List.set_cons_zero, if_true, if_false, Bool.false_eq_true]
    rw [e3]
    rfl
  show ∃ x y : Int, 0 ≤ x ∧ 0 ≤ y ∧ y ≤ 2 ^ 32 ∧ (M.noexc (b_l_bag (startE 4 [.frz (ns.map .int), .int i]) >>= endOf)).run m = _
  have e0 : startE 4 [.frz (ns.map D.int), .int i] = [some (.frz (ns.map .int)), some (.int i), none, none] := rfl
  rw [e0]
  unfold b_l_bag
  simp only [ap_scons, ap_set, ap_bin, ap_c, ap_var, slot_0, slot_s, pure_bb, bind_assoc', mul_int' 7013 (i : Int) (.inl ⟨by decide, by decide⟩), add_int, flow_nx, List.set_cons_succ, List.set_cons_zero]
  simp only [ap_sif, ap_bool, ap_bin, ap_b, ap_cons, ap_nil, ap_var, slot_0, slot_s, pure_bb, bind_assoc', d1_one, len_frz, lt_int', bool_bl, List.length_map]
  by_cases c : (i : Int) < (ns.length : Int)
  · have hk : (ns.map D.int)[i]? = some (.int (ns[i]'(by omega))) := by
      rw [List.getElem?_map, List.getElem?_eq_getElem (by omega)]
      rfl
    rw [decide_eq_true c, if_pos rfl]
    simp only [ap_set, ap_bin, ap_c, ap_var, slot_0, slot_s, pure_bb, bind_assoc']
    rw [dx_frz, atI_nat' rfl hk, opt_some]
    simp only [pure_bb, flow_nx, List.set_cons_succ, List.set_cons_zero]
    exact end_ _
  · rw [decide_eq_false c, if_neg (by decide)]
    simp only [ap_snil, pure_bb, flow_nx]
    exact end_ _
theorem forL_inv {fg : D → Mir.Env → M Mir.Env} {fb : Mir.Env → M Fl} {I : Mir.Env → Mu → Prop} : ∀ ds : List D, (∀ d, d ∈ ds → ∀ ρ m, I ρ m → ∃ ρ1 m1, (fg d ρ >>= fb).run m = .ok (.nx ρ1) m1 ∧ I ρ1 m1) → ∀ ρ m, I ρ m → ∃ ρ1 m1, (forL fg fb ds ρ).run m = .ok (.nx ρ1) m1 ∧ I ρ1 m1
  | [], _, ρ, m, h => ⟨ρ, m, rfl, h⟩
  | d :: ds, hs, ρ, m, h => by
    obtain ⟨ρ1, m1, e, h1⟩ := hs d List.mem_cons_self ρ m h
    obtain ⟨ρ2, m2, e2, h2⟩ := forL_inv ds (fun z hz => hs z (List.mem_cons_of_mem _ hz)) ρ1 m1 h1
    refine ⟨ρ2, m2, ?_, h2⟩
    show ((fg d ρ >>= fun ρ => fb ρ >>= fun fl => match fl with
      | .nx ρ => forL fg fb ds ρ
      | .ct ρ => forL fg fb ds ρ
      | .bk ρ => pure (.nx ρ)
      | .rt d => pure (.rt d))).run m = _
    rw [← bind_assoc', bind_run, e]
    exact e2
theorem dr_for {k c : Nat} {fg : D → Mir.Env → M Mir.Env} {fb : Mir.Env → M Fl} {I : Mir.Env → Prop} : ∀ ds : List D, (∀ d, d ∈ ds → ∀ ρ, I ρ → Draws k c (fg d ρ >>= fb) (fun fl => ∃ ρ', fl = .nx ρ' ∧ I ρ')) → ∀ ρ, I ρ → Draws k (ds.length * c) (forL fg fb ds ρ) (fun fl => ∃ ρ', fl = .nx ρ' ∧ I ρ')
  | [], _, ρ, h => by
    rw [List.length_nil, Nat.zero_mul]
    exact dr_pure ⟨ρ, rfl, h⟩
  | d :: ds, hs, ρ, h => by
    have e2 : (d :: ds).length * c = c + ds.length * c := by rw [List.length_cons, Nat.succ_mul]; omega
    rw [e2]
    show Draws k _ ((fg d ρ >>= fun ρ => fb ρ >>= fun fl => match fl with
      | .nx ρ => forL fg fb ds ρ
      | .ct ρ => forL fg fb ds ρ
      | .bk ρ => pure (.nx ρ)
      | .rt d => pure (.rt d))) _
    rw [← bind_assoc']
    refine dr_bind (hs d List.mem_cons_self ρ h) fun fl hf => ?_
    obtain ⟨ρ', rfl, h'⟩ := hf
    exact dr_for ds (fun z hz => hs z (List.mem_cons_of_mem _ hz)) ρ' h'
theorem bag_new (m : Mu) {x y : Int} (h0 : 0 ≤ x) (h1 : 0 ≤ y) (h2 : y ≤ 2 ^ 32) : Bag m.length (m ++ [.lst [.int x, .int y, .int 0]]) 0 := ⟨x, y, by simp, h0, h1, h2⟩
def St8 (k : Nat) (a b : D) (ρ : Mir.Env) : Prop := ∃ o3 o4 o5 o6 o7, ρ = [some a, some b, some (.hnd k), o3, o4, o5, o6, o7]
theorem turn_dr {k : Nat} {a b : D} (d : D) (ρ : Mir.Env) (h : St8 k a b ρ) : Draws k 26 (gNam 3 d ρ >>= (sCons (sSet 4 (eCall 1 m_l_word (aCons (eVar 2) aNil)))
      (sCons (sSet 5 (eCall 2 m_l_bent (aCons (eVar 2) (aCons (eVar 4) aNil))))
      (sIf (tOrr (tNeg (tTru (eCall 1 m_l_right (aCons (eVar 4) aNil)))) (tOrr (tNeg (tTru (eCall 1 m_l_right (aCons (eVar 5) aNil)))) (tNeg (tTru (eCall 1 m_l_right (aCons (eCall 2 m_l_bent (aCons (eVar 2) (aCons (eVar 5) aNil))) aNil)))))) (sRet (eC (.bl false))) sNil)))) (fun fl => ∃ ρ', fl = .nx ρ' ∧ St8 k a b ρ') := by
  obtain ⟨o3, o4, o5, o6, o7, rfl⟩ := h
  try simp only [ap_var, ap_c, ap_bin, ap_chain, ap_bool, ap_tru, ap_neg, ap_an, ap_orr, ap_and, ap_or, ap_not, ap_if, ap_un, ap_nil, ap_cons, ap_tup, ap_lst, ap_lstH, ap_onone, ap_osome, ap_slice, ap_b, ap_jnil, ap_jcons, ap_joined, ap_m1, ap_ival, ap_range1, ap_range2, ap_gnam, ap_gsnil, ap_gscons, ap_gtp, ap_gsb, ap_lc, ap_lcH, ap_all, ap_app, ap_call, ap_callD, ap_snil, ap_scons, ap_ret, ap_retN, ap_expr, ap_sif, ap_asg, ap_set, ap_aug, ap_while, ap_for, ap_break, ap_cont, iadd_int, puto_some, slot_0, slot_s, pure_bb, bind_assoc', bad_bb, ite_bind', flow_nx, flow_rt, flow_bk, flow_ct, endOf_rt, endOf_nx, guard_t, guard_nn, wipe_1, bind_pure', opt_some, noexc_p, noexc_bind, noexc_ite, noexc_idem, noexc_guard, noexc_opt, noexc_bad, now_int, now_str, now_bl, now_non, now_tup, now_lst, now_frz, add_int, sub_int, lt_int', le_int', gt_int', ge_int', bool_bl, tru_bl, tru_int, toInt_int, toInt_bl, abs_int, max2_int, min2_int, len_lst, len_frz, len_tup, d1_one, d2_two, ref_hnd, part_int, text_str, gl0, gl1, gl2, gl3, gl4, gl5, gl6, gl7, gl8, gl9, gl10, gl11, gl12, gl13, gl14, gl15, gl16, gc0, gc1, gc2, gc3, gc4, gc5, gc6, gc7, gc8, List.cons_append, List.nil_append, Bool.not_true, Bool.not_false, List.set_cons_succ, List.set_cons_zero, if_true, if_false, Bool.false_eq_true]
  refine dr_le (dr_bind word_dr (c' := 6) fun w hw => ?_) (by decide)
  obtain ⟨s, rfl, hs⟩ := hw
  try simp only [ap_var, ap_c, ap_bin, ap_chain, ap_bool, ap_tru, ap_neg, ap_an, ap_orr, ap_and, ap_or, ap_not, ap_if, ap_un, ap_nil, ap_cons, ap_tup, ap_lst, ap_lstH, ap_onone, ap_osome, ap_slice, ap_b, ap_jnil, ap_jcons, ap_joined, ap_m1, ap_ival, ap_range1, ap_range2, ap_gnam, ap_gsnil, ap_gscons, ap_gtp, ap_gsb, ap_lc, ap_lcH, ap_all, ap_app, ap_call, ap_callD, ap_snil, ap_scons, ap_ret, ap_retN, ap_expr, ap_sif, ap_asg, ap_set, ap_aug, ap_while, ap_for, ap_break, ap_cont, iadd_int, puto_some, slot_0, slot_s, pure_bb, bind_assoc', bad_bb, ite_bind', flow_nx, flow_rt, flow_bk, flow_ct, endOf_rt, endOf_nx, guard_t, guard_nn, wipe_1, bind_pure', opt_some, noexc_p, noexc_bind, noexc_ite, noexc_idem, noexc_guard, noexc_opt, noexc_bad, now_int, now_str, now_bl, now_non, now_tup, now_lst, now_frz, add_int, sub_int, lt_int', le_int', gt_int', ge_int', bool_bl, tru_bl, tru_int, toInt_int, toInt_bl, abs_int, max2_int, min2_int, len_lst, len_frz, len_tup, d1_one, d2_two, ref_hnd, part_int, text_str, gl0, gl1, gl2, gl3, gl4, gl5, gl6, gl7, gl8, gl9, gl10, gl11, gl12, gl13, gl14, gl15, gl16, gc0, gc1, gc2, gc3, gc4, gc5, gc6, gc7, gc8, List.cons_append, List.nil_append, Bool.not_true, Bool.not_false, List.set_cons_succ, List.set_cons_zero, if_true, if_false, Bool.false_eq_true]
  refine dr_le (dr_bind (bent_dr (n := 10) hs (by decide)) (c' := 3) fun w hw => ?_) (by decide)
  obtain ⟨t, rfl, ht⟩ := hw
  try simp only [ap_var, ap_c, ap_bin, ap_chain, ap_bool, ap_tru, ap_neg, ap_an, ap_orr, ap_and, ap_or, ap_not, ap_if, ap_un, ap_nil, ap_cons, ap_tup, ap_lst, ap_lstH, ap_onone, ap_osome, ap_slice, ap_b, ap_jnil, ap_jcons, ap_joined, ap_m1, ap_ival, ap_range1, ap_range2, ap_gnam, ap_gsnil, ap_gscons, ap_gtp, ap_gsb, ap_lc, ap_lcH, ap_all, ap_app, ap_call, ap_callD, ap_snil, ap_scons, ap_ret, ap_retN, ap_expr, ap_sif, ap_asg, ap_set, ap_aug, ap_while, ap_for, ap_break, ap_cont, iadd_int, puto_some, slot_0, slot_s, pure_bb, bind_assoc', bad_bb, ite_bind', flow_nx, flow_rt, flow_bk, flow_ct, endOf_rt, endOf_nx, guard_t, guard_nn, wipe_1, bind_pure', opt_some, noexc_p, noexc_bind, noexc_ite, noexc_idem, noexc_guard, noexc_opt, noexc_bad, now_int, now_str, now_bl, now_non, now_tup, now_lst, now_frz, add_int, sub_int, lt_int', le_int', gt_int', ge_int', bool_bl, tru_bl, tru_int, toInt_int, toInt_bl, abs_int, max2_int, min2_int, len_lst, len_frz, len_tup, d1_one, d2_two, ref_hnd, part_int, text_str, gl0, gl1, gl2, gl3, gl4, gl5, gl6, gl7, gl8, gl9, gl10, gl11, gl12, gl13, gl14, gl15, gl16, gc0, gc1, gc2, gc3, gc4, gc5, gc6, gc7, gc8, List.cons_append, List.nil_append, Bool.not_true, Bool.not_false, List.set_cons_succ, List.set_cons_zero, if_true, if_false, Bool.false_eq_true]
  rw [l_right_str s (by omega)]
  try simp only [ap_var, ap_c, ap_bin, ap_chain, ap_bool, ap_tru, ap_neg, ap_an, ap_orr, ap_and, ap_or, ap_not, ap_if, ap_un, ap_nil, ap_cons, ap_tup, ap_lst, ap_lstH, ap_onone, ap_osome, ap_slice, ap_b, ap_jnil, ap_jcons, ap_joined, ap_m1, ap_ival, ap_range1, ap_range2, ap_gnam, ap_gsnil, ap_gscons, ap_gtp, ap_gsb, ap_lc, ap_lcH, ap_all, ap_app, ap_call, ap_callD, ap_snil, ap_scons, ap_ret, ap_retN, ap_expr, ap_sif, ap_asg, ap_set, ap_aug, ap_while, ap_for, ap_break, ap_cont, iadd_int, puto_some, slot_0, slot_s, pure_bb, bind_assoc', bad_bb, ite_bind', flow_nx, flow_rt, flow_bk, flow_ct, endOf_rt, endOf_nx, guard_t, guard_nn, wipe_1, bind_pure', opt_some, noexc_p, noexc_bind, noexc_ite, noexc_idem, noexc_guard, noexc_opt, noexc_bad, now_int, now_str, now_bl, now_non, now_tup, now_lst, now_frz, add_int, sub_int, lt_int', le_int', gt_int', ge_int', bool_bl, tru_bl, tru_int, toInt_int, toInt_bl, abs_int, max2_int, min2_int, len_lst, len_frz, len_tup, d1_one, d2_two, ref_hnd, part_int, text_str, gl0, gl1, gl2, gl3, gl4, gl5, gl6, gl7, gl8, gl9, gl10, gl11, gl12, gl13, gl14, gl15, gl16, gc0, gc1, gc2, gc3, gc4, gc5, gc6, gc7, gc8, List.cons_append, List.nil_append, Bool.not_true, Bool.not_false, List.set_cons_succ, List.set_cons_zero, if_true, if_false, Bool.false_eq_true]
  rw [l_right_str t (by omega)]
  try simp only [ap_var, ap_c, ap_bin, ap_chain, ap_bool, ap_tru, ap_neg, ap_an, ap_orr, ap_and, ap_or, ap_not, ap_if, ap_un, ap_nil, ap_cons, ap_tup, ap_lst, ap_lstH, ap_onone, ap_osome, ap_slice, ap_b, ap_jnil, ap_jcons, ap_joined, ap_m1, ap_ival, ap_range1, ap_range2, ap_gnam, ap_gsnil, ap_gscons, ap_gtp, ap_gsb, ap_lc, ap_lcH, ap_all, ap_app, ap_call, ap_callD, ap_snil, ap_scons, ap_ret, ap_retN, ap_expr, ap_sif, ap_asg, ap_set, ap_aug, ap_while, ap_for, ap_break, ap_cont, iadd_int, puto_some, slot_0, slot_s, pure_bb, bind_assoc', bad_bb, ite_bind', flow_nx, flow_rt, flow_bk, flow_ct, endOf_rt, endOf_nx, guard_t, guard_nn, wipe_1, bind_pure', opt_some, noexc_p, noexc_bind, noexc_ite, noexc_idem, noexc_guard, noexc_opt, noexc_bad, now_int, now_str, now_bl, now_non, now_tup, now_lst, now_frz, add_int, sub_int, lt_int', le_int', gt_int', ge_int', bool_bl, tru_bl, tru_int, toInt_int, toInt_bl, abs_int, max2_int, min2_int, len_lst, len_frz, len_tup, d1_one, d2_two, ref_hnd, part_int, text_str, gl0, gl1, gl2, gl3, gl4, gl5, gl6, gl7, gl8, gl9, gl10, gl11, gl12, gl13, gl14, gl15, gl16, gc0, gc1, gc2, gc3, gc4, gc5, gc6, gc7, gc8, List.cons_append, List.nil_append, Bool.not_true, Bool.not_false, List.set_cons_succ, List.set_cons_zero, if_true, if_false, Bool.false_eq_true]
  refine dr_le (dr_bind (bent_dr (n := 11) ht (by decide)) (c' := 0) fun w hw => ?_) (by decide)
  obtain ⟨u, rfl, hu⟩ := hw
  rw [l_right_str u (by omega)]
  try simp only [ap_var, ap_c, ap_bin, ap_chain, ap_bool, ap_tru, ap_neg, ap_an, ap_orr, ap_and, ap_or, ap_not, ap_if, ap_un, ap_nil, ap_cons, ap_tup, ap_lst, ap_lstH, ap_onone, ap_osome, ap_slice, ap_b, ap_jnil, ap_jcons, ap_joined, ap_m1, ap_ival, ap_range1, ap_range2, ap_gnam, ap_gsnil, ap_gscons, ap_gtp, ap_gsb, ap_lc, ap_lcH, ap_all, ap_app, ap_call, ap_callD, ap_snil, ap_scons, ap_ret, ap_retN, ap_expr, ap_sif, ap_asg, ap_set, ap_aug, ap_while, ap_for, ap_break, ap_cont, iadd_int, puto_some, slot_0, slot_s, pure_bb, bind_assoc', bad_bb, ite_bind', flow_nx, flow_rt, flow_bk, flow_ct, endOf_rt, endOf_nx, guard_t, guard_nn, wipe_1, bind_pure', opt_some, noexc_p, noexc_bind, noexc_ite, noexc_idem, noexc_guard, noexc_opt, noexc_bad, now_int, now_str, now_bl, now_non, now_tup, now_lst, now_frz, add_int, sub_int, lt_int', le_int', gt_int', ge_int', bool_bl, tru_bl, tru_int, toInt_int, toInt_bl, abs_int, max2_int, min2_int, len_lst, len_frz, len_tup, d1_one, d2_two, ref_hnd, part_int, text_str, gl0, gl1, gl2, gl3, gl4, gl5, gl6, gl7, gl8, gl9, gl10, gl11, gl12, gl13, gl14, gl15, gl16, gc0, gc1, gc2, gc3, gc4, gc5, gc6, gc7, gc8, List.cons_append, List.nil_append, Bool.not_true, Bool.not_false, List.set_cons_succ, List.set_cons_zero, if_true, if_false, Bool.false_eq_true]
  exact dr_pure ⟨_, rfl, _, _, _, _, _, rfl⟩
end LW
set_option maxRecDepth 100000
set_option maxHeartbeats 4000000
namespace LW
open PySem L2 Mir
def ODD : List D := [.non, .bl true, .int 0, .int 7, .int (10 ^ 39), .tup [], .lst [], .tup [.str "a"], .lst [.str "a"], .str "", .str "f00", .str "f100", .str "f", .str "f0", .str "f99"]
theorem odd_right : ∀ d, d ∈ ODD → m_l_right [d] = pure (.bl true) := by
  intro d hd
  simp only [ODD, List.mem_cons, List.not_mem_nil, or_false] at hd
  rcases hd with rfl | rfl | rfl | rfl | rfl | rfl | rfl | rfl | rfl | rfl | rfl | rfl | rfl | rfl | rfl
  · exact l_right_other _ "NoneType" rfl rfl rfl
  · exact l_right_other _ "bool" rfl rfl rfl
  · exact l_right_other _ "int" rfl rfl rfl
  · exact l_right_other _ "int" rfl rfl rfl
  · exact l_right_other _ "int" rfl rfl rfl
  · exact l_right_other _ "tuple" rfl rfl rfl
  · exact l_right_other _ "list" rfl rfl rfl
  · exact l_right_other _ "tuple" rfl rfl rfl
  · exact l_right_other _ "list" rfl rfl rfl
  · exact l_right_str _ (by decide +kernel)
  · exact l_right_str _ (by decide +kernel)
  · exact l_right_str _ (by decide +kernel)
  · exact l_right_str _ (by decide +kernel)
  · exact l_right_str _ (by decide +kernel)
  · exact l_right_str _ (by decide +kernel)
theorem odd_is (ρ : Mir.Env) : (eLst (aCons (eC .non) (aCons (eC (.bl true)) (aCons (eC (.int 0)) (aCons (eC (.int 7)) (aCons (eBin D.pow (eC (.int 10)) (eC (.int 39))) (aCons (eTup aNil) (aCons (eLst aNil) (aCons (eTup (aCons (eC (.str "a")) aNil)) (aCons (eLst (aCons (eC (.str "a")) aNil)) (aCons (eC (.str "")) (aCons (eC (.str "f00")) (aCons (eC (.str "f100")) (aCons (eC (.str "f")) (aCons (eC (.str "f0")) (aCons (eC (.str "f99")) aNil)))))))))))))))) ρ = pure (.lst ODD) := by
  simp only [ap_var, ap_c, ap_bin, ap_chain, ap_bool, ap_tru, ap_neg, ap_an, ap_orr, ap_and, ap_or, ap_not, ap_if, ap_un, ap_nil, ap_cons, ap_tup, ap_lst, ap_lstH, ap_onone, ap_osome, ap_slice, ap_b, ap_jnil, ap_jcons, ap_joined, ap_m1, ap_ival, ap_range1, ap_range2, ap_gnam, ap_gsnil, ap_gscons, ap_gtp, ap_gsb, ap_lc, ap_lcH, ap_all, ap_app, ap_call, ap_callD, ap_snil, ap_scons, ap_ret, ap_retN, ap_expr, ap_sif, ap_asg, ap_set, ap_aug, ap_while, ap_for, ap_break, ap_cont, iadd_int, puto_some, slot_0, slot_s, pure_bb, bind_assoc', bad_bb, ite_bind', flow_nx, flow_rt, flow_bk, flow_ct, endOf_rt, endOf_nx, guard_t, guard_nn, wipe_1, bind_pure', opt_some, noexc_p, noexc_bind, noexc_ite, noexc_idem, noexc_guard, noexc_opt, noexc_bad, now_int, now_str, now_bl, now_non, now_tup, now_lst, now_frz, add_int, sub_int, lt_int', le_int', gt_int', ge_int', bool_bl, tru_bl, tru_int, toInt_int, toInt_bl, abs_int, max2_int, min2_int, len_lst, len_frz, len_tup, d1_one, d2_two, ref_hnd, part_int, text_str, gl0, gl1, gl2, gl3, gl4, gl5, gl6, gl7, gl8, gl9, gl10, gl11, gl12, gl13, gl14, gl15, gl16, gc0, gc1, gc2, gc3, gc4, gc5, gc6, gc7, gc8, List.cons_append, List.nil_append, Bool.not_true, Bool.not_false, List.set_cons_succ, List.set_cons_zero, if_true, if_false, Bool.false_eq_true]
  rw [pow_int' 10 39 ⟨by decide, by decide, by decide⟩]
  try simp only [ap_var, ap_c, ap_bin, ap_chain, ap_bool, ap_tru, ap_neg, ap_an, ap_orr, ap_and, ap_or, ap_not, ap_if, ap_un, ap_nil, ap_cons, ap_tup, ap_lst, ap_lstH, ap_onone, ap_osome, ap_slice, ap_b, ap_jnil, ap_jcons, ap_joined, ap_m1, ap_ival, ap_range1, ap_range2, ap_gnam, ap_gsnil, ap_gscons, ap_gtp, ap_gsb, ap_lc, ap_lcH, ap_all, ap_app, ap_call, ap_callD, ap_snil, ap_scons, ap_ret, ap_retN, ap_expr, ap_sif, ap_asg, ap_set, ap_aug, ap_while, ap_for, ap_break, ap_cont, iadd_int, puto_some, slot_0, slot_s, pure_bb, bind_assoc', bad_bb, ite_bind', flow_nx, flow_rt, flow_bk, flow_ct, endOf_rt, endOf_nx, guard_t, guard_nn, wipe_1, bind_pure', opt_some, noexc_p, noexc_bind, noexc_ite, noexc_idem, noexc_guard, noexc_opt, noexc_bad, now_int, now_str, now_bl, now_non, now_tup, now_lst, now_frz, add_int, sub_int, lt_int', le_int', gt_int', ge_int', bool_bl, tru_bl, tru_int, toInt_int, toInt_bl, abs_int, max2_int, min2_int, len_lst, len_frz, len_tup, d1_one, d2_two, ref_hnd, part_int, text_str, gl0, gl1, gl2, gl3, gl4, gl5, gl6, gl7, gl8, gl9, gl10, gl11, gl12, gl13, gl14, gl15, gl16, gc0, gc1, gc2, gc3, gc4, gc5, gc6, gc7, gc8, List.cons_append, List.nil_append, Bool.not_true, Bool.not_false, List.set_cons_succ, List.set_cons_zero, if_true, if_false, Bool.false_eq_true]
  rfl
theorem all_true (xs : List D) : D.all (.lst (xs.map fun _ => .bl true)) = pure (.bl true) := by
  rw [all_map (fun _ => true), List.all_eq_true.mpr fun _ _ => rfl]
def b_odd : Mir.Env → M Fl :=
  (sCons (sSet 6 (eLst (aCons (eC .non) (aCons (eC (.bl true)) (aCons (eC (.int 0)) (aCons (eC (.int 7)) (aCons (eBin D.pow (eC (.int 10)) (eC (.int 39))) (aCons (eTup aNil) (aCons (eLst aNil) (aCons (eTup (aCons (eC (.str "a")) aNil)) (aCons (eLst (aCons (eC (.str "a")) aNil)) (aCons (eC (.str "")) (aCons (eC (.str "f00")) (aCons (eC (.str "f100")) (aCons (eC (.str "f")) (aCons (eC (.str "f0")) (aCons (eC (.str "f99")) aNil)))))))))))))))))
      (sIf (tOrr (tNeg (tTru (eB (d1 D.all) (aCons (eLc (iVal (eVar 6)) (gNam 7) tAll (eCall 1 m_l_right (aCons (eVar 7) aNil)) [7]) aNil)))) (tNeg (tTru (eCall 1 m_l_fresh_right (aCons (eVar 2) aNil))))) (sRet (eC (.bl false))) sNil))
theorem odd_dr {k : Nat} {a b : D} (ρ : Mir.Env) (h : St8 k a b ρ) : Draws k 20 (b_odd ρ) (fun fl => ∃ ρ', fl = .nx ρ' ∧ St8 k a b ρ') := by
  obtain ⟨o3, o4, o5, o6, o7, rfl⟩ := h
  unfold b_odd
  simp only [ap_scons, ap_set, bind_assoc', pure_bb]
  rw [odd_is]
  simp only [flow_nx, pure_bb, List.set_cons_succ, List.set_cons_zero]
  have hl : (eLc (iVal (eVar 6)) (gNam 7) tAll (eCall 1 m_l_right (aCons (eVar 7) aNil)) [7]) [some a, some b, some (.hnd k), o3, o4, o5, some (.lst ODD), o7] = pure (.lst (ODD.map fun _ => .bl true)) := by
    rw [ap_lc, lcAll_map (ds := ODD) (fun _ => .bl true) (by simp only [ap_var, ap_c, ap_bin, ap_chain, ap_bool, ap_tru, ap_neg, ap_an, ap_orr, ap_and, ap_or, ap_not, ap_if, ap_un, ap_nil, ap_cons, ap_tup, ap_lst, ap_lstH, ap_onone, ap_osome, ap_slice, ap_b, ap_jnil, ap_jcons, ap_joined, ap_m1, ap_ival, ap_range1, ap_range2, ap_gnam, ap_gsnil, ap_gscons, ap_gtp, ap_gsb, ap_lc, ap_lcH, ap_all, ap_app, ap_call, ap_callD, ap_snil, ap_scons, ap_ret, ap_retN, ap_expr, ap_sif, ap_asg, ap_set, ap_aug, ap_while, ap_for, ap_break, ap_cont, iadd_int, puto_some, slot_0, slot_s, pure_bb, bind_assoc', bad_bb, ite_bind', flow_nx, flow_rt, flow_bk, flow_ct, endOf_rt, endOf_nx, guard_t, guard_nn, wipe_1, bind_pure', opt_some, noexc_p, noexc_bind, noexc_ite, noexc_idem, noexc_guard, noexc_opt, noexc_bad, now_int, now_str, now_bl, now_non, now_tup, now_lst, now_frz, add_int, sub_int, lt_int', le_int', gt_int', ge_int', bool_bl, tru_bl, tru_int, toInt_int, toInt_bl, abs_int, max2_int, min2_int, len_lst, len_frz, len_tup, d1_one, d2_two, ref_hnd, part_int, text_str, gl0, gl1, gl2, gl3, gl4, gl5, gl6, gl7, gl8, gl9, gl10, gl11, gl12, gl13, gl14, gl15, gl16, gc0, gc1, gc2, gc3, gc4, gc5, gc6, gc7, gc8, List.cons_append, List.nil_append, Bool.not_true, Bool.not_false, List.set_cons_succ, List.set_cons_zero, if_true, if_false, Bool.false_eq_true]; exact iter_lst _) (fun d hd => ⟨_, ap_gnam 7, ?_⟩) (by decide)]
    · rfl
    · simp only [ap_var, ap_c, ap_bin, ap_chain, ap_bool, ap_tru, ap_neg, ap_an, ap_orr, ap_and, ap_or, ap_not, ap_if, ap_un, ap_nil, ap_cons, ap_tup, ap_lst, ap_lstH, ap_onone, ap_osome, ap_slice, ap_b, ap_jnil, ap_jcons, ap_joined, ap_m1, ap_ival, ap_range1, ap_range2, ap_gnam, ap_gsnil, ap_gscons, ap_gtp, ap_gsb, ap_lc, ap_lcH, ap_all, ap_app, ap_call, ap_callD, ap_snil, ap_scons, ap_ret, ap_retN, ap_expr, ap_sif, ap_asg, ap_set, ap_aug, ap_while, ap_for, ap_break, ap_cont, iadd_int, puto_some, slot_0, slot_s, pure_bb, bind_assoc', bad_bb, ite_bind', flow_nx, flow_rt, flow_bk, flow_ct, endOf_rt, endOf_nx, guard_t, guard_nn, wipe_1, bind_pure', opt_some, noexc_p, noexc_bind, noexc_ite, noexc_idem, noexc_guard, noexc_opt, noexc_bad, now_int, now_str, now_bl, now_non, now_tup, now_lst, now_frz, add_int, sub_int, lt_int', le_int', gt_int', ge_int', bool_bl, tru_bl, tru_int, toInt_int, toInt_bl, abs_int, max2_int, min2_int, len_lst, len_frz, len_tup, d1_one, d2_two, ref_hnd, part_int, text_str, gl0, gl1, gl2, gl3, gl4, gl5, gl6, gl7, gl8, gl9, gl10, gl11, gl12, gl13, gl14, gl15, gl16, gc0, gc1, gc2, gc3, gc4, gc5, gc6, gc7, gc8, List.cons_append, List.nil_append, Bool.not_true, Bool.not_false, List.set_cons_succ, List.set_cons_zero, if_true, if_false, Bool.false_eq_true]
      exact odd_right d hd
  simp only [ap_sif, ap_orr, ap_neg, ap_tru, ap_b, ap_cons, ap_nil, hl, bind_assoc', pure_bb, d1_one, all_true, tru_bl, Bool.not_true, if_false, Bool.false_eq_true]
  simp only [ap_var, ap_c, ap_bin, ap_chain, ap_bool, ap_tru, ap_neg, ap_an, ap_orr, ap_and, ap_or, ap_not, ap_if, ap_un, ap_nil, ap_cons, ap_tup, ap_lst, ap_lstH, ap_onone, ap_osome, ap_slice, ap_b, ap_jnil, ap_jcons, ap_joined, ap_m1, ap_ival, ap_range1, ap_range2, ap_gnam, ap_gsnil, ap_gscons, ap_gtp, ap_gsb, ap_lc, ap_lcH, ap_all, ap_app, ap_call, ap_callD, ap_snil, ap_scons, ap_ret, ap_retN, ap_expr, ap_sif, ap_asg, ap_set, ap_aug, ap_while, ap_for, ap_break, ap_cont, iadd_int, puto_some, slot_0, slot_s, pure_bb, bind_assoc', bad_bb, ite_bind', flow_nx, flow_rt, flow_bk, flow_ct, endOf_rt, endOf_nx, guard_t, guard_nn, wipe_1, bind_pure', opt_some, noexc_p, noexc_bind, noexc_ite, noexc_idem, noexc_guard, noexc_opt, noexc_bad, now_int, now_str, now_bl, now_non, now_tup, now_lst, now_frz, add_int, sub_int, lt_int', le_int', gt_int', ge_int', bool_bl, tru_bl, tru_int, toInt_int, toInt_bl, abs_int, max2_int, min2_int, len_lst, len_frz, len_tup, d1_one, d2_two, ref_hnd, part_int, text_str, gl0, gl1, gl2, gl3, gl4, gl5, gl6, gl7, gl8, gl9, gl10, gl11, gl12, gl13, gl14, gl15, gl16, gc0, gc1, gc2, gc3, gc4, gc5, gc6, gc7, gc8, List.cons_append, List.nil_append, Bool.not_true, Bool.not_false, List.set_cons_succ, List.set_cons_zero, if_true, if_false, Bool.false_eq_true]
  refine dr_le (dr_bind fresh_right (c' := 0) fun w hw => ?_) (by decide)
  subst hw
  simp only [ap_var, ap_c, ap_bin, ap_chain, ap_bool, ap_tru, ap_neg, ap_an, ap_orr, ap_and, ap_or, ap_not, ap_if, ap_un, ap_nil, ap_cons, ap_tup, ap_lst, ap_lstH, ap_onone, ap_osome, ap_slice, ap_b, ap_jnil, ap_jcons, ap_joined, ap_m1, ap_ival, ap_range1, ap_range2, ap_gnam, ap_gsnil, ap_gscons, ap_gtp, ap_gsb, ap_lc, ap_lcH, ap_all, ap_app, ap_call, ap_callD, ap_snil, ap_scons, ap_ret, ap_retN, ap_expr, ap_sif, ap_asg, ap_set, ap_aug, ap_while, ap_for, ap_break, ap_cont, iadd_int, puto_some, slot_0, slot_s, pure_bb, bind_assoc', bad_bb, ite_bind', flow_nx, flow_rt, flow_bk, flow_ct, endOf_rt, endOf_nx, guard_t, guard_nn, wipe_1, bind_pure', opt_some, noexc_p, noexc_bind, noexc_ite, noexc_idem, noexc_guard, noexc_opt, noexc_bad, now_int, now_str, now_bl, now_non, now_tup, now_lst, now_frz, add_int, sub_int, lt_int', le_int', gt_int', ge_int', bool_bl, tru_bl, tru_int, toInt_int, toInt_bl, abs_int, max2_int, min2_int, len_lst, len_frz, len_tup, d1_one, d2_two, ref_hnd, part_int, text_str, gl0, gl1, gl2, gl3, gl4, gl5, gl6, gl7, gl8, gl9, gl10, gl11, gl12, gl13, gl14, gl15, gl16, gc0, gc1, gc2, gc3, gc4, gc5, gc6, gc7, gc8, List.cons_append, List.nil_append, Bool.not_true, Bool.not_false, List.set_cons_succ, List.set_cons_zero, if_true, if_false, Bool.false_eq_true]
  exact dr_pure ⟨_, rfl, _, _, _, _, _, rfl⟩
def b_turn : Mir.Env → M Fl := (sCons (sSet 4 (eCall 1 m_l_word (aCons (eVar 2) aNil)))
      (sCons (sSet 5 (eCall 2 m_l_bent (aCons (eVar 2) (aCons (eVar 4) aNil))))
      (sIf (tOrr (tNeg (tTru (eCall 1 m_l_right (aCons (eVar 4) aNil)))) (tOrr (tNeg (tTru (eCall 1 m_l_right (aCons (eVar 5) aNil)))) (tNeg (tTru (eCall 1 m_l_right (aCons (eCall 2 m_l_bent (aCons (eVar 2) (aCons (eVar 5) aNil))) aNil)))))) (sRet (eC (.bl false))) sNil)))
def b_outer : Mir.Env → M Fl := (sCons (sSet 2 (eCall 2 m_l_bag (aCons (eVar 0) (aCons (eVar 1) aNil)))) (sCons (sFor (iRange1 (eC (.int 12))) (gNam 3) b_turn) b_odd))
theorem outer_ok (ns : List Int) (i : Nat) (hi : i ≤ 64) (m : Mu) (ρ : Mir.Env) (h : ∃ o1 o2 o3 o4 o5 o6 o7, ρ = [some (.frz (ns.map .int)), o1, o2, o3, o4, o5, o6, o7]) :
    ∃ ρ1 m1, (gNam 1 (.int i) ρ >>= b_outer).run m = .ok (.nx ρ1) m1 ∧ ∃ o1 o2 o3 o4 o5 o6 o7, ρ1 = [some (.frz (ns.map .int)), o1, o2, o3, o4, o5, o6, o7] := by
  obtain ⟨o1, o2, o3, o4, o5, o6, o7, rfl⟩ := h
  obtain ⟨x, y, x0, y0, y1, eb⟩ := bag_run ns i hi m
  have hb := bag_new m x0 y0 y1
  have ht := dr_for (k := m.length) (I := St8 m.length (.frz (ns.map .int)) (.int i)) (fb := b_turn) (rangeD 0 12) (fun d _ ρ h => turn_dr d ρ h) [some (.frz (ns.map .int)), some (.int i), some (.hnd m.length), o3, o4, o5, o6, o7] ⟨_, _, _, _, _, rfl⟩
  have hd := dr_bind ht (c' := 20) (f := fun fl => flow fl b_odd) fun fl hf => by
    obtain ⟨ρ', rfl, h'⟩ := hf
    exact odd_dr ρ' h'
  obtain ⟨fl, m', z', e, b', l', ⟨ρ', rfl, o3', o4', o5', o6', o7', rfl⟩, _⟩ := hd _ 0 hb (by rw [len_rangeD]; decide)
  refine ⟨[some (.frz (ns.map .int)), some (.int i), some (.hnd m.length), o3', o4', o5', o6', o7'], m', ?_, _, _, _, _, _, _, _, rfl⟩
  unfold b_outer
  simp only [ap_var, ap_c, ap_bin, ap_chain, ap_bool, ap_tru, ap_neg, ap_an, ap_orr, ap_and, ap_or, ap_not, ap_if, ap_un, ap_nil, ap_cons, ap_tup, ap_lst, ap_lstH, ap_onone, ap_osome, ap_slice, ap_b, ap_jnil, ap_jcons, ap_joined, ap_m1, ap_ival, ap_range1, ap_range2, ap_gnam, ap_gsnil, ap_gscons, ap_gtp, ap_gsb, ap_lc, ap_lcH, ap_all, ap_app, ap_call, ap_callD, ap_snil, ap_scons, ap_ret, ap_retN, ap_expr, ap_sif, ap_asg, ap_set, ap_aug, ap_while, ap_for, ap_break, ap_cont, iadd_int, puto_some, slot_0, slot_s, pure_bb, bind_assoc', bad_bb, ite_bind', flow_nx, flow_rt, flow_bk, flow_ct, endOf_rt, endOf_nx, guard_t, guard_nn, wipe_1, bind_pure', opt_some, noexc_p, noexc_bind, noexc_ite, noexc_idem, noexc_guard, noexc_opt, noexc_bad, now_int, now_str, now_bl, now_non, now_tup, now_lst, now_frz, add_int, sub_int, lt_int', le_int', gt_int', ge_int', bool_bl, tru_bl, tru_int, toInt_int, toInt_bl, abs_int, max2_int, min2_int, len_lst, len_frz, len_tup, d1_one, d2_two, ref_hnd, part_int, text_str, gl0, gl1, gl2, gl3, gl4, gl5, gl6, gl7, gl8, gl9, gl10, gl11, gl12, gl13, gl14, gl15, gl16, gc0, gc1, gc2, gc3, gc4, gc5, gc6, gc7, gc8, List.cons_append, List.nil_append, Bool.not_true, Bool.not_false, List.set_cons_succ, List.set_cons_zero, if_true, if_false, Bool.false_eq_true]
  rw [bind_run, eb]
  show ((forAll (iRange1 (eC (.int 12))) (gNam 3) b_turn [some (.frz (ns.map .int)), some (.int i), some (.hnd m.length), o3, o4, o5, o6, o7]) >>= fun fl => flow fl b_odd).run _ = _
  unfold forAll
  simp only [ap_range1, ap_c, pure_bb, bind_assoc']
  rw [range1_int _ ⟨by decide, by decide⟩]
  simp only [pure_bb, guard_nn]
  exact e
theorem law_true (ns : List Int) (h : ns.length ≤ 63) : ∃ m, (m_law [.frz (ns.map .int)]).run [] = .ok (.bl true) m := by
  show ∃ m, (M.noexc ((sCons (sFor (iRange1 (eB (d2 D.max2) (aCons (eC (.int 2)) (aCons (eB (d2 D.min2) (aCons (eC (.int 6)) (aCons (eB (d1 D.len) (aCons (eVar 0) aNil)) aNil))) aNil)))) (gNam 1) b_outer)
      (sRet (eBin D.eq (eCall 1 m_fresh_for (aCons (eTup aNil) aNil)) (eC (.str "f0"))))) [some (.frz (ns.map D.int)), none, none, none, none, none, none, none] >>= endOf)).run [] = _
  simp only [ap_scons, ap_for]
  unfold forAll
  simp only [ap_range1, ap_b, ap_cons, ap_nil, ap_c, ap_var, slot_0, bind_assoc', pure_bb, d1_one, d2_two, len_frz, List.length_map, max2_int, min2_int]
  rw [range1_int _ ⟨by split <;> split <;> omega, by split <;> split <;> omega⟩]
  generalize hN : (if (if (ns.length : Int) < 6 then (ns.length : Int) else 6) > 2 then (if (ns.length : Int) < 6 then (ns.length : Int) else 6) else 2) = N
  have hN2 : N ≤ 6 := by rw [← hN]; split <;> split <;> omega
  simp only [pure_bb, guard_nn]
  obtain ⟨ρ1, m1, e1, o1, o2, o3, o4, o5, o6, o7, rfl⟩ := forL_inv (fg := gNam 1) (fb := b_outer) (I := fun ρ _ => ∃ o1 o2 o3 o4 o5 o6 o7, ρ = [some (.frz (ns.map .int)), o1, o2, o3, o4, o5, o6, o7]) (rangeD 0 N.toNat) (fun d hd ρ m hi => by
    obtain ⟨i, hi2, rfl⟩ := mem_rangeD hd
    rw [Int.zero_add]
    exact outer_ok ns i (by omega) m ρ hi) [some (.frz (ns.map .int)), none, none, none, none, none, none, none] [] ⟨_, _, _, _, _, _, _, rfl⟩
  refine ⟨m1, ?_⟩
  have hf := fresh_ok [] 0 (by decide) (by simp) (fun j h => absurd h (Nat.not_lt_zero _))
  have ht : (sRet (eBin D.eq (eCall 1 m_fresh_for (aCons (eTup aNil) aNil)) (eC (.str "f0")))) [some (.frz (ns.map .int)), o1, o2, o3, o4, o5, o6, o7] = pure (.rt (.bl true)) := by
    simp only [ap_var, ap_c, ap_bin, ap_chain, ap_bool, ap_tru, ap_neg, ap_an, ap_orr, ap_and, ap_or, ap_not, ap_if, ap_un, ap_nil, ap_cons, ap_tup, ap_lst, ap_lstH, ap_onone, ap_osome, ap_slice, ap_b, ap_jnil, ap_jcons, ap_joined, ap_m1, ap_ival, ap_range1, ap_range2, ap_gnam, ap_gsnil, ap_gscons, ap_gtp, ap_gsb, ap_lc, ap_lcH, ap_all, ap_app, ap_call, ap_callD, ap_snil, ap_scons, ap_ret, ap_retN, ap_expr, ap_sif, ap_asg, ap_set, ap_aug, ap_while, ap_for, ap_break, ap_cont, iadd_int, puto_some, slot_0, slot_s, pure_bb, bind_assoc', bad_bb, ite_bind', flow_nx, flow_rt, flow_bk, flow_ct, endOf_rt, endOf_nx, guard_t, guard_nn, wipe_1, bind_pure', opt_some, noexc_p, noexc_bind, noexc_ite, noexc_idem, noexc_guard, noexc_opt, noexc_bad, now_int, now_str, now_bl, now_non, now_tup, now_lst, now_frz, add_int, sub_int, lt_int', le_int', gt_int', ge_int', bool_bl, tru_bl, tru_int, toInt_int, toInt_bl, abs_int, max2_int, min2_int, len_lst, len_frz, len_tup, d1_one, d2_two, ref_hnd, part_int, text_str, gl0, gl1, gl2, gl3, gl4, gl5, gl6, gl7, gl8, gl9, gl10, gl11, gl12, gl13, gl14, gl15, gl16, gc0, gc1, gc2, gc3, gc4, gc5, gc6, gc7, gc8, List.cons_append, List.nil_append, Bool.not_true, Bool.not_false, List.set_cons_succ, List.set_cons_zero, if_true, if_false, Bool.false_eq_true]
    rw [show m_fresh_for [.tup []] = _ from hf]
    try simp only [ap_var, ap_c, ap_bin, ap_chain, ap_bool, ap_tru, ap_neg, ap_an, ap_orr, ap_and, ap_or, ap_not, ap_if, ap_un, ap_nil, ap_cons, ap_tup, ap_lst, ap_lstH, ap_onone, ap_osome, ap_slice, ap_b, ap_jnil, ap_jcons, ap_joined, ap_m1, ap_ival, ap_range1, ap_range2, ap_gnam, ap_gsnil, ap_gscons, ap_gtp, ap_gsb, ap_lc, ap_lcH, ap_all, ap_app, ap_call, ap_callD, ap_snil, ap_scons, ap_ret, ap_retN, ap_expr, ap_sif, ap_asg, ap_set, ap_aug, ap_while, ap_for, ap_break, ap_cont, iadd_int, puto_some, slot_0, slot_s, pure_bb, bind_assoc', bad_bb, ite_bind', flow_nx, flow_rt, flow_bk, flow_ct, endOf_rt, endOf_nx, guard_t, guard_nn, wipe_1, bind_pure', opt_some, noexc_p, noexc_bind, noexc_ite, noexc_idem, noexc_guard, noexc_opt, noexc_bad, now_int, now_str, now_bl, now_non, now_tup, now_lst, now_frz, add_int, sub_int, lt_int', le_int', gt_int', ge_int', bool_bl, tru_bl, tru_int, toInt_int, toInt_bl, abs_int, max2_int, min2_int, len_lst, len_frz, len_tup, d1_one, d2_two, ref_hnd, part_int, text_str, gl0, gl1, gl2, gl3, gl4, gl5, gl6, gl7, gl8, gl9, gl10, gl11, gl12, gl13, gl14, gl15, gl16, gc0, gc1, gc2, gc3, gc4, gc5, gc6, gc7, gc8, List.cons_append, List.nil_append, Bool.not_true, Bool.not_false, List.set_cons_succ, List.set_cons_zero, if_true, if_false, Bool.false_eq_true]
    rw [eq_str]
    try simp only [ap_var, ap_c, ap_bin, ap_chain, ap_bool, ap_tru, ap_neg, ap_an, ap_orr, ap_and, ap_or, ap_not, ap_if, ap_un, ap_nil, ap_cons, ap_tup, ap_lst, ap_lstH, ap_onone, ap_osome, ap_slice, ap_b, ap_jnil, ap_jcons, ap_joined, ap_m1, ap_ival, ap_range1, ap_range2, ap_gnam, ap_gsnil, ap_gscons, ap_gtp, ap_gsb, ap_lc, ap_lcH, ap_all, ap_app, ap_call, ap_callD, ap_snil, ap_scons, ap_ret, ap_retN, ap_expr, ap_sif, ap_asg, ap_set, ap_aug, ap_while, ap_for, ap_break, ap_cont, iadd_int, puto_some, slot_0, slot_s, pure_bb, bind_assoc', bad_bb, ite_bind', flow_nx, flow_rt, flow_bk, flow_ct, endOf_rt, endOf_nx, guard_t, guard_nn, wipe_1, bind_pure', opt_some, noexc_p, noexc_bind, noexc_ite, noexc_idem, noexc_guard, noexc_opt, noexc_bad, now_int, now_str, now_bl, now_non, now_tup, now_lst, now_frz, add_int, sub_int, lt_int', le_int', gt_int', ge_int', bool_bl, tru_bl, tru_int, toInt_int, toInt_bl, abs_int, max2_int, min2_int, len_lst, len_frz, len_tup, d1_one, d2_two, ref_hnd, part_int, text_str, gl0, gl1, gl2, gl3, gl4, gl5, gl6, gl7, gl8, gl9, gl10, gl11, gl12, gl13, gl14, gl15, gl16, gc0, gc1, gc2, gc3, gc4, gc5, gc6, gc7, gc8, List.cons_append, List.nil_append, Bool.not_true, Bool.not_false, List.set_cons_succ, List.set_cons_zero, if_true, if_false, Bool.false_eq_true]
    rw [show (fk 0 == ("f0" : Str)) = true by decide +kernel]
  unfold M.noexc
  show Rs.noexc ((_ >>= _ : M D).run []) = _
  rw [bind_run, e1]
  show Rs.noexc ((flow (.nx _) _ >>= endOf).run m1) = _
  rw [flow_nx, ht]
  rfl
end LW
open PySem PySem.W PyProof.Rows
set_option maxRecDepth 100000 in
set_option maxHeartbeats 0 in
theorem PySem.Challenge.cw_sentnames_k01_names_known_holds : PySem.Challenge.rw_sentnames_k01_names_known.Holds := by
  w_on; o_law; k_head; (case hw => w_witness2)
  k_fill
  refine LW.walk (l := PySem.Challenge.rw_sentnames_k01_names_known) rfl rfl (fun w h Y => PySem.W.kIn_of Y) LW.law_true ?F
  case F =>
    intro w mg fa h KX G hmg
    refine' LW.all_mk KX G hmg ?a0 ?l0 ?c0 ?k0 ?a1 ?l1 ?c1 ?k1 ?w1_0 ?r1_0 ?a2 ?l2 ?c2 ?k2 ?a3 ?l3 ?c3 ?k3 ?a4 ?l4 ?c4 ?k4 ?a5 ?l5 ?c5 ?k5 ?a6 ?l6 ?c6 ?k6 ?a7 ?l7 ?c7 ?k7 ?a8 ?l8 ?c8 ?k8 ?a9 ?l9 ?c9 ?k9 ?a10 ?l10 ?c10 ?k10 ?a11 ?l11 ?c11 ?k11 ?a12 ?l12 ?c12 ?k12 ?a13 ?l13 ?c13 ?k13 ?a14 ?l14 ?c14 ?k14 ?g_FIGURES ?rg_FIGURES ?g_FRESH ?rg_FRESH ?g_LETTERS ?rg_LETTERS ?g_MOST_FIGURES ?rg_MOST_FIGURES ?z_abs ?z_all ?z_bool ?z_int ?z_isinstance ?z_len ?z_max ?z_min ?z_range ?z_str ?z_tuple
    (case a0 => k_is)
    (case l0 => k_is)
    (case c0 => k_is)
    (case k0 => k_is)
    (case a1 => k_is)
    (case l1 => k_is)
    (case c1 => k_is)
    (case k1 => k_is)
    (case w1_0 => k_is)
    (case r1_0 => first | rfl | exact ⟨_, rfl⟩)
    (case a2 => k_is)
    (case l2 => k_is)
    (case c2 => k_is)
    (case k2 => k_is)
    (case a3 => k_is)
    (case l3 => k_is)
    (case c3 => k_is)
    (case k3 => k_is)
    (case a4 => k_is)
    (case l4 => k_is)
    (case c4 => k_is)
    (case k4 => k_is)
    (case a5 => k_is)
    (case l5 => k_is)
    (case c5 => k_is)
    (case k5 => k_is)
    (case a6 => k_is)
    (case l6 => k_is)
    (case c6 => k_is)
    (case k6 => k_is)
    (case a7 => k_is)
    (case l7 => k_is)
    (case c7 => k_is)
    (case k7 => k_is)
    (case a8 => k_is)
    (case l8 => k_is)
    (case c8 => k_is)
    (case k8 => k_is)
    (case a9 => k_is)
    (case l9 => k_is)
    (case c9 => k_is)
    (case k9 => k_is)
    (case a10 => k_is)
    (case l10 => k_is)
    (case c10 => k_is)
    (case k10 => k_is)
    (case a11 => k_is)
    (case l11 => k_is)
    (case c11 => k_is)
    (case k11 => k_is)
    (case a12 => k_is)
    (case l12 => k_is)
    (case c12 => k_is)
    (case k12 => k_is)
    (case a13 => k_is)
    (case l13 => k_is)
    (case c13 => k_is)
    (case k13 => k_is)
    (case a14 => k_is)
    (case l14 => k_is)
    (case c14 => k_is)
    (case k14 => k_is)
    (case g_FIGURES => k_is)
    (case rg_FIGURES => first | rfl | exact ⟨_, rfl⟩)
    (case g_FRESH => k_is)
    (case rg_FRESH => first | rfl | exact ⟨_, rfl⟩)
    (case g_LETTERS => k_is)
    (case rg_LETTERS => first | rfl | exact ⟨_, rfl⟩)
    (case g_MOST_FIGURES => k_is)
    (case rg_MOST_FIGURES => first | rfl | exact ⟨_, rfl⟩)
    (case z_abs => k_is)
    (case z_all => k_is)
    (case z_bool => k_is)
    (case z_int => k_is)
    (case z_isinstance => k_is)
    (case z_len => k_is)
    (case z_max => k_is)
    (case z_min => k_is)
    (case z_range => k_is)
    (case z_str => k_is)
    (case z_tuple => k_is)
