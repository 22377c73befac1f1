import PyProof.Rows.All
import Wide.All
import OpenK.AllK
import Wide.FinOn
import HandS.ForMost
import HandS.Wide
import HandS.IsInst
import HandS.TupAny
import HandS.TupMul
import HandS.Conv
import HandS.Deep
import KE.KDictCopyH
import HandS.Style
import HandS.Small
import KE.SortData
import OpenK.KOps
import HandS.DictComp
import KE.DatumOrd
import KE.RegKIsAll
import PySem.Challenge.RW_manyfold_k09_splits
set_option Elab.async false
set_option linter.all false
set_option maxRecDepth 100000
set_option maxHeartbeats 4000000
namespace MF
open PySem L2

/-! # data -/
inductive D where
  | non | bl (b : Bool) | int (i : Int) | str (x : Str)
  | tup (xs : List D) | ktup (xs : List D) | lst (xs : List D) | scr (xs : List Int)
  | dk (kvs : List (Key × D)) | dt (kvs : List (List Key × D))
  | obj (c : Str) (fs : List (Str × D))
  | ty (n : String) | kls (c : Str)

/-- the written part and the classes -/
structure Gb where
  K : PySem.W.Frag
  cls : Str → Option Addr

mutual
inductive RV (g : Gb) (H : Hp) : V → D → Prop where
  | non : RV g H .non .non
  | bl (b : Bool) : RV g H (.bl b) (.bl b)
  | int (i : Int) : RV g H (.int i) (.int i)
  | str (x : Str) : RV g H (.str x) (.str x)
  | tup {a : Addr} {vs : List V} {ds : List D} : H a = some (.tup vs) → RVs g H vs ds → RV g H (.ref a) (.tup ds)
  | ktup {a : Addr} {vs : List V} {ds : List D} : SqT g.K H a vs → RVs g H vs ds → RV g H (.ref a) (.ktup ds)
  | lst {a : Addr} {vs : List V} {ds : List D} : H a = some (.lst vs) → RVs g H vs ds → RV g H (.ref a) (.lst ds)
  | scr {a : Addr} {ns : List Int} : SqL g.K H a (ns.map V.int) → RV g H (.ref a) (.scr ns)
  | dk {a : Addr} {kvs : List (Key × V)} {ds : List (Key × D)} : Rd H a (.dK kvs) → kvs.map (·.1) = ds.map (·.1) → RVs g H (kvs.map (·.2)) (ds.map (·.2)) → RV g H (.ref a) (.dk ds)
  | dt {a : Addr} {kvs : List (List Key × V)} {ds : List (List Key × D)} : Rd H a (.dT kvs) → kvs.map (·.1) = ds.map (·.1) → RVs g H (kvs.map (·.2)) (ds.map (·.2)) → RV g H (.ref a) (.dt ds)
  | obj {a C dx : Addr} {c : Str} {fs : List (Str × V)} {ds : List (Str × D)} : H a = some (.ins C dx fs) → g.cls c = some C → fs.map (·.1) = ds.map (·.1) → RVs g H (fs.map (·.2)) (ds.map (·.2)) → RV g H (.ref a) (.obj c ds)
  | ty (n : String) : RV g H (.ty n) (.ty n)
  | kls {C : Addr} {c : Str} : g.cls c = some C → RV g H (.ref C) (.kls c)
inductive RVs (g : Gb) (H : Hp) : List V → List D → Prop where
  | nil : RVs g H [] []
  | cons {v : V} {vs : List V} {d : D} {ds : List D} : RV g H v d → RVs g H vs ds → RVs g H (v :: vs) (d :: ds)
end

/-- what a lock hides -/
def IsD : HO → Prop
  | .dK _ => True
  | .dT _ => True
  | _ => False
/-- F lies within H, dicts perhaps locked -/
def Sub (F H : Hp) : Prop := ∀ a o, F a = some o → H a = some o ∨ (IsD o ∧ ∃ od, H a = some (.frz od o))
theorem Sub.refl (H : Hp) : Sub H H := fun _ _ h => .inl h
def Gr (F F' : Hp) : Prop := ∀ a o, F a = some o → F' a = some o
theorem Gr.refl (F : Hp) : Gr F F := fun _ _ h => h
theorem Gr.trans {F F1 F2 : Hp} (a : Gr F F1) (b : Gr F1 F2) : Gr F F2 := fun x o h => b x o (a x o h)
theorem Gr.sub {F F' : Hp} (h : Gr F F') : Sub F F' := fun a o e => .inl (h a o e)
theorem Gr.new {F : Hp} {p : Addr} {o : HO} (h : F p = none) : Gr F (upd F p o) := fun a u e => by rw [upd_ne (ne_of_none e h)]; exact e
theorem frz_ne {od : Obj} : ∀ {o u : HO}, o = .frz od u → ¬ IsD o := by intro o u e; subst e; exact id

theorem Sub.rdT {F H : Hp} {a : Addr} {o : HO} (s : Sub F H) (h : Rd F a o) (hn : ¬ IsD o) : Rd H a o := by
  rcases h with h | ⟨od, h⟩
  · rcases s a o h with h | ⟨d, _⟩
    · exact .inl h
    · exact absurd d hn
  · rcases s a _ h with h | ⟨d, _⟩
    · exact .inr ⟨od, h⟩
    · exact absurd d (frz_ne rfl)
theorem Sub.rdD {F H : Hp} {a : Addr} {o : HO} (s : Sub F H) (h : Rd F a o) : Rd H a o := by
  rcases h with h | ⟨od, h⟩
  · rcases s a o h with h | ⟨_, od, h⟩
    · exact .inl h
    · exact .inr ⟨od, h⟩
  · rcases s a _ h with h | ⟨d, _⟩
    · exact .inr ⟨od, h⟩
    · exact absurd d (frz_ne rfl)
theorem Sub.sqT {K : PySem.W.Frag} {F H : Hp} {a : Addr} {vs : List V} (s : Sub F H) (h : SqT K F a vs) : SqT K H a vs := h.imp (fun h => s.rdD h) id
theorem Sub.sqL {K : PySem.W.Frag} {F H : Hp} {a : Addr} {vs : List V} (s : Sub F H) (h : SqL K F a vs) : SqL K H a vs := h.imp (fun h => s.rdD h) id
theorem Sub.at {F H : Hp} {a : Addr} {o : HO} (s : Sub F H) (h : F a = some o) (hn : ¬ IsD o) : H a = some o := by
  rcases s a o h with h | ⟨d, _⟩
  · exact h
  · exact absurd d hn

mutual
theorem RV.mono {g : Gb} {F H : Hp} (s : Sub F H) : ∀ {v : V} {d : D}, RV g F v d → RV g H v d
  | _, _, .non => .non
  | _, _, .bl b => .bl b
  | _, _, .int i => .int i
  | _, _, .str x => .str x
  | _, _, .tup h r => .tup (s.at h id) (RVs.mono s r)
  | _, _, .ktup h r => .ktup (s.sqT h) (RVs.mono s r)
  | _, _, .lst h r => .lst (s.at h id) (RVs.mono s r)
  | _, _, .scr h => .scr (s.sqL h)
  | _, _, .dk h k r => .dk (s.rdD h) k (RVs.mono s r)
  | _, _, .dt h k r => .dt (s.rdD h) k (RVs.mono s r)
  | _, _, .obj h c k r => .obj (s.at h id) c k (RVs.mono s r)
  | _, _, .ty n => .ty n
  | _, _, .kls h => .kls h
theorem RVs.mono {g : Gb} {F H : Hp} (s : Sub F H) : ∀ {vs : List V} {ds : List D}, RVs g F vs ds → RVs g H vs ds
  | _, _, .nil => .nil
  | _, _, .cons h r => .cons (RV.mono s h) (RVs.mono s r)
end
theorem RV.gr {g : Gb} {F H : Hp} (s : Gr F H) {v : V} {d : D} (h : RV g F v d) : RV g H v d := h.mono s.sub
theorem RVs.gr {g : Gb} {F H : Hp} (s : Gr F H) {v : List V} {d : List D} (h : RVs g F v d) : RVs g H v d := h.mono s.sub

theorem RVs.length {g : Gb} {H : Hp} : ∀ {vs : List V} {ds : List D}, RVs g H vs ds → vs.length = ds.length
  | _, _, .nil => rfl
  | _, _, .cons _ r => by rw [List.length_cons, List.length_cons, RVs.length r]
theorem RVs.get {g : Gb} {H : Hp} : ∀ {vs : List V} {ds : List D} {i : Nat} {d : D}, RVs g H vs ds → ds[i]? = some d → ∃ v, vs[i]? = some v ∧ RV g H v d
  | _, _, _, _, .nil, e => by simp at e
  | _, _, 0, _, .cons h _, e => by simp at e; subst e; exact ⟨_, rfl, h⟩
  | _, _, i + 1, d, .cons _ r, e => by
    obtain ⟨v, h1, h2⟩ := RVs.get (i := i) (d := d) r (by simpa using e)
    exact ⟨v, by simpa using h1, h2⟩
theorem RVs.get' {g : Gb} {H : Hp} : ∀ {vs : List V} {ds : List D} {i : Nat} {v : V}, RVs g H vs ds → vs[i]? = some v → ∃ d, ds[i]? = some d ∧ RV g H v d
  | _, _, _, _, .nil, e => by simp at e
  | _, _, 0, _, .cons h _, e => by simp at e; subst e; exact ⟨_, rfl, h⟩
  | _, _, i + 1, d, .cons _ r, e => by
    obtain ⟨v, h1, h2⟩ := RVs.get' (i := i) (v := d) r (by simpa using e)
    exact ⟨v, by simpa using h1, h2⟩
theorem RVs.append {g : Gb} {H : Hp} : ∀ {vs ws : List V} {ds es : List D}, RVs g H vs ds → RVs g H ws es → RVs g H (vs ++ ws) (ds ++ es)
  | _, _, _, _, .nil, h => h
  | _, _, _, _, .cons h r, q => .cons h (RVs.append r q)
theorem RVs.take {g : Gb} {H : Hp} : ∀ {vs : List V} {ds : List D} (n : Nat), RVs g H vs ds → RVs g H (vs.take n) (ds.take n)
  | _, _, 0, _ => .nil
  | _, _, _ + 1, .nil => .nil
  | _, _, n + 1, .cons h r => .cons h (RVs.take n r)
theorem RVs.drop {g : Gb} {H : Hp} : ∀ {vs : List V} {ds : List D} (n : Nat), RVs g H vs ds → RVs g H (vs.drop n) (ds.drop n)
  | _, _, 0, h => h
  | _, _, _ + 1, .nil => .nil
  | _, _, n + 1, .cons _ r => RVs.drop n r
theorem RVs.set {g : Gb} {H : Hp} {v : V} {d : D} (h : RV g H v d) : ∀ {vs : List V} {ds : List D} (n : Nat), RVs g H vs ds → RVs g H (vs.set n v) (ds.set n d)
  | _, _, _, .nil => .nil
  | _, _, 0, .cons _ r => .cons h r
  | _, _, n + 1, .cons q r => .cons q (RVs.set h n r)
theorem RVs.erase {g : Gb} {H : Hp} : ∀ {vs : List V} {ds : List D} (n : Nat), RVs g H vs ds → RVs g H (vs.eraseIdx n) (ds.eraseIdx n)
  | _, _, _, .nil => .nil
  | _, _, 0, .cons _ r => r
  | _, _, n + 1, .cons q r => .cons q (RVs.erase n r)
theorem RVs.rev {g : Gb} {H : Hp} : ∀ {vs : List V} {ds : List D}, RVs g H vs ds → RVs g H vs.reverse ds.reverse
  | _, _, .nil => .nil
  | _, _, .cons h r => by rw [List.reverse_cons, List.reverse_cons]; exact (RVs.rev r).append (.cons h .nil)

/-- the top object in H, what is within in F -/
inductive RT (g : Gb) (F H : Hp) : V → D → Prop where
  | non : RT g F H .non .non
  | bl (b : Bool) : RT g F H (.bl b) (.bl b)
  | int (i : Int) : RT g F H (.int i) (.int i)
  | str (x : Str) : RT g F H (.str x) (.str x)
  | tup {a : Addr} {vs : List V} {ds : List D} : F a = some (.tup vs) → H a = some (.tup vs) → RVs g F vs ds → RT g F H (.ref a) (.tup ds)
  | ktup {a : Addr} {vs : List V} {ds : List D} : SqT g.K H a vs → RVs g F vs ds → RT g F H (.ref a) (.ktup ds)
  | lst {a : Addr} {vs : List V} {ds : List D} : H a = some (.lst vs) → RVs g F vs ds → RT g F H (.ref a) (.lst ds)
  | scr {a : Addr} {ns : List Int} : SqL g.K H a (ns.map V.int) → RT g F H (.ref a) (.scr ns)
  | dk {a : Addr} {kvs : List (Key × V)} {ds : List (Key × D)} : Rd H a (.dK kvs) → kvs.map (·.1) = ds.map (·.1) → RVs g F (kvs.map (·.2)) (ds.map (·.2)) → RT g F H (.ref a) (.dk ds)
  | dt {a : Addr} {kvs : List (List Key × V)} {ds : List (List Key × D)} : Rd H a (.dT kvs) → kvs.map (·.1) = ds.map (·.1) → RVs g F (kvs.map (·.2)) (ds.map (·.2)) → RT g F H (.ref a) (.dt ds)
  | obj {a C dx : Addr} {c : Str} {fs : List (Str × V)} {ds : List (Str × D)} : H a = some (.ins C dx fs) → g.cls c = some C → fs.map (·.1) = ds.map (·.1) → RVs g F (fs.map (·.2)) (ds.map (·.2)) → RT g F H (.ref a) (.obj c ds)
  | ty (n : String) : RT g F H (.ty n) (.ty n)
  | kls {C : Addr} {c : Str} : g.cls c = some C → RT g F H (.ref C) (.kls c)
theorem RT.of {g : Gb} {F H : Hp} (s : Sub F H) {v : V} {d : D} (h : RV g F v d) : RT g F H v d := by
  cases h with
  | non => exact .non
  | bl b => exact .bl b
  | int i => exact .int i
  | str x => exact .str x
  | tup h r => exact .tup h (s.at h id) r
  | ktup h r => exact .ktup (s.sqT h) r
  | lst h r => exact .lst (s.at h id) r
  | scr h => exact .scr (s.sqL h)
  | dk h k r => exact .dk (s.rdD h) k r
  | dt h k r => exact .dt (s.rdD h) k r
  | obj h c k r => exact .obj (s.at h id) c k r
  | ty n => exact .ty n
  | kls h => exact .kls h
theorem RT.rv {g : Gb} {F H : Hp} (s : Sub F H) {v : V} {d : D} (h : RT g F H v d) : RV g H v d := by
  cases h with
  | non => exact .non
  | bl b => exact .bl b
  | int i => exact .int i
  | str x => exact .str x
  | tup k h r => exact .tup h (r.mono s)
  | ktup h r => exact .ktup h (r.mono s)
  | lst h r => exact .lst h (r.mono s)
  | scr h => exact .scr h
  | dk h k r => exact .dk h k (r.mono s)
  | dt h k r => exact .dt h k (r.mono s)
  | obj h c k r => exact .obj h c k (r.mono s)
  | ty n => exact .ty n
  | kls h => exact .kls h

/-- a mutable object at a: its content's top in H (it may be written), what is within in F -/
inductive RO (g : Gb) (F H : Hp) (a : Addr) : D → Prop where
  | lst {vs : List V} {ds : List D} : H a = some (.lst vs) → RVs g F vs ds → RO g F H a (.lst ds)
  | dk {kvs : List (Key × V)} {ds : List (Key × D)} : H a = some (.dK kvs) → kvs.map (·.1) = ds.map (·.1) → RVs g F (kvs.map (·.2)) (ds.map (·.2)) → RO g F H a (.dk ds)
  | dt {kvs : List (List Key × V)} {ds : List (List Key × D)} : H a = some (.dT kvs) → kvs.map (·.1) = ds.map (·.1) → RVs g F (kvs.map (·.2)) (ds.map (·.2)) → RO g F H a (.dt ds)
  | obj {C dx : Addr} {c : Str} {fs : List (Str × V)} {ds : List (Str × D)} : H a = some (.ins C dx fs) → g.cls c = some C → fs.map (·.1) = ds.map (·.1) → RVs g F (fs.map (·.2)) (ds.map (·.2)) → RO g F H a (.obj c ds)
theorem RO.rt {g : Gb} {F H : Hp} {a : Addr} {d : D} (h : RO g F H a d) : RT g F H (.ref a) d := by
  cases h with
  | lst h r => exact .lst h r
  | dk h k r => exact .dk (.inl h) k r
  | dt h k r => exact .dt (.inl h) k r
  | obj h c k r => exact .obj h c k r
theorem RO.keep {g : Gb} {F F' H H' : Hp} {a : Addr} {d : D} (h : RO g F H a d) (hF : Gr F F') (hH : ∀ o, H a = some o → H' a = some o) : RO g F' H' a d := by
  cases h with
  | lst h r => exact .lst (hH _ h) (r.gr hF)
  | dk h k r => exact .dk (hH _ h) k (r.gr hF)
  | dt h k r => exact .dt (hH _ h) k (r.gr hF)
  | obj h c k r => exact .obj (hH _ h) c k (r.gr hF)
theorem RO.here {g : Gb} {F H : Hp} {a : Addr} {d : D} (h : RO g F H a d) : ∃ o, H a = some o := by
  cases h with
  | lst h r => exact ⟨_, h⟩
  | dk h k r => exact ⟨_, h⟩
  | dt h k r => exact ⟨_, h⟩
  | obj h c k r => exact ⟨_, h⟩
/-- frozen: laid into F -/
theorem RO.freeze {g : Gb} {F H : Hp} {a : Addr} {d : D} (h : RO g F H a d) (hF : F a = none) : ∃ o, H a = some o ∧ RV g (upd F a o) (.ref a) d := by
  have gr : ∀ {o : HO}, Gr F (upd F a o) := fun {o} => Gr.new hF
  cases h with
  | lst h r => exact ⟨_, h, .lst upd_same (r.gr gr)⟩
  | dk h k r => exact ⟨_, h, .dk (.inl upd_same) k (r.gr gr)⟩
  | dt h k r => exact ⟨_, h, .dt (.inl upd_same) k (r.gr gr)⟩
  | obj h c k r => exact ⟨_, h, .obj upd_same c k (r.gr gr)⟩
end MF
set_option Elab.async false
set_option linter.all false
set_option maxRecDepth 100000
set_option maxHeartbeats 4000000
namespace MF
open PySem L2

/-! # the mirror machine -/
inductive Arg where
  | t (d : D) | s (n : Nat)
inductive Val where
  | t (d : D) | o (i : Nat) | s (n : Nat)
inductive Loc where
  | un | t (d : D) | s (n : Nat) | own (d : D)
structure M where
  ρ : List Loc
  S : List D
inductive R (α : Type) where
  | ok (a : α) (m : M)
  | no
abbrev E (α : Type) := M → R α
def E.ret {α : Type} (a : α) : E α := fun m => .ok a m
def E.bind {α β : Type} (f : E α) (k : α → E β) : E β := fun m => match f m with
  | .ok a m' => k a m'
  | .no => .no
def E.opt {α : Type} (o : Option α) : E α := fun m => match o with
  | some a => .ok a m
  | none => .no
theorem bind_ok {α β : Type} {f : E α} {k : α → E β} {m m2 : M} {b : β} (h : E.bind f k m = .ok b m2) : ∃ a m1, f m = .ok a m1 ∧ k a m1 = .ok b m2 := by
  unfold E.bind at h
  cases e : f m with
  | ok a m1 => rw [e] at h; exact ⟨a, m1, rfl, h⟩
  | no => rw [e] at h; cases h
theorem opt_ok {α : Type} {o : Option α} {m m' : M} {a : α} (h : E.opt o m = .ok a m') : o = some a ∧ m' = m := by
  unfold E.opt at h
  cases o with
  | some b => cases h; exact ⟨rfl, rfl⟩
  | none => cases h

def dat (x : Val) (m : M) : Option D := match x with
  | .t d => some d
  | .s n => m.S[n]?
  | .o i => match m.ρ[i]? with
    | some (.own d) => some d
    | some (.t d) => some d
    | some (.s n) => m.S[n]?
    | _ => none
/-- a value that goes elsewhere: an own object is frozen -/
def arg (x : Val) : E Arg := fun m => match x with
  | .t d => .ok (.t d) m
  | .s n => .ok (.s n) m
  | .o i => match m.ρ[i]? with
    | some (.own d) => .ok (.t d) ⟨m.ρ.set i (.t d), m.S⟩
    | some (.t d) => .ok (.t d) m
    | some (.s n) => .ok (.s n) m
    | _ => .no
def args : List Val → E (List Arg)
  | [] => .ret []
  | x :: xs => (arg x).bind fun a => (args xs).bind fun r => .ret (a :: r)
def toD : Arg → Option D
  | .t d => some d
  | .s _ => none
def asD (x : Val) : E D := (arg x).bind fun a => .opt (toD a)
def asDs : List Val → E (List D)
  | [] => .ret []
  | x :: xs => (asD x).bind fun a => (asDs xs).bind fun r => .ret (a :: r)

/-! # the relation -/
structure Bs where
  H : Hp
  F : Hp
  ι : List Addr
abbrev Lks := List (Addr × Obj × HO)
structure Lkd (Λ : Lks) (F U H : Hp) : Prop where
  out : ∀ a, (∀ p ∈ Λ, p.1 ≠ a) → H a = U a
  at_ : ∀ p ∈ Λ, F p.1 = some p.2.2 ∧ IsD p.2.2 ∧ H p.1 = some (.frz p.2.1 p.2.2)
/-- what slot i holds -/
def RLoc (g : Gb) (B : Bs) (F U : Hp) (ι : List Addr) (sv : Option (Option V)) : Loc → Prop
  | .un => True
  | .t d => ∃ v, sv = some (some v) ∧ RV g F v d
  | .s n => ∃ a, sv = some (some (.ref a)) ∧ ι[n]? = some a
  | .own d => ∃ a, sv = some (some (.ref a)) ∧ F a = none ∧ a ∉ ι ∧ B.H a = none ∧ RO g F U a d
/-- a tuple that stood there -/
def Tp (H : Hp) (a : Addr) (o : HO) : Prop := ∃ vs, o = .tup vs ∧ H a = some (.tup vs)
structure Rp (g : Gb) (B : Bs) (σ : L2.St) (U F : Hp) (ι : List Addr) (ρ : List Loc) (S : List D) : Prop where
  sub : Gr F U
  old : ∀ a o, B.H a = some o → a ∉ B.ι → U a = some o
  new : ∀ a o, F a = some o → B.F a = some o ∨ B.H a = none ∨ Tp B.H a o
  grF : Gr B.F F
  pre : B.ι <+: ι
  iF : ∀ a ∈ ι, F a = none ∧ (a ∈ B.ι ∨ B.H a = none)
  nd : ι.Nodup
  sl : S.length = ι.length
  st : ∀ (n : Nat) a d, ι[n]? = some a → S[n]? = some d → RO g F U a d
  ln : ρ.length = σ.length
  loc : ∀ (i : Nat) l, ρ[i]? = some l → RLoc g B F U ι σ[i]? l
  ap : ∀ (i j : Nat) d e, i ≠ j → ρ[i]? = some (.own d) → ρ[j]? = some (.own e) → σ[i]? ≠ σ[j]?
structure Rel (g : Gb) (B : Bs) (Λ : Lks) (σ : L2.St) (H F : Hp) (ι : List Addr) (m : M) : Prop where
  ex : ∃ U, Lkd Λ F U H ∧ Rp g B σ U F ι m.ρ m.S
def RVal (g : Gb) (F : Hp) (ι : List Addr) (σ : L2.St) (v : V) : Val → Prop
  | .t d => RV g F v d
  | .o i => σ[i]? = some (some v)
  | .s n => ∃ a, v = .ref a ∧ ι[n]? = some a
def RArg (g : Gb) (F : Hp) (ι : List Addr) (v : V) : Arg → Prop
  | .t d => RV g F v d
  | .s n => ∃ a, v = .ref a ∧ ι[n]? = some a
def Pre {α : Type} (a b : List α) : Prop := a <+: b
theorem get_pre {α : Type} {a b : List α} (h : a <+: b) {n : Nat} {x : α} (e : a[n]? = some x) : b[n]? = some x := by
  obtain ⟨c, rfl⟩ := h
  rw [List.getElem?_append_left (List.getElem?_eq_some_iff.mp e).1]
  exact e

section
variable {g : Gb} {B : Bs} {Λ : Lks} {σ : L2.St} {H F F' U : Hp} {ι ι' : List Addr} {m : M} {ρ : List Loc} {S : List D} {v : V} {x : Val} {d : D} {a : Addr} {o : HO}
theorem RVal.gr (h : RVal g F ι σ v x) (hF : Gr F F') (hi : ι <+: ι') : RVal g F' ι' σ v x := by
  cases x with
  | t d => exact RV.gr hF h
  | o i => exact h
  | s n => obtain ⟨a, e, q⟩ := h; exact ⟨a, e, get_pre hi q⟩
theorem RArg.gr {x : Arg} (h : RArg g F ι v x) (hF : Gr F F') (hi : ι <+: ι') : RArg g F' ι' v x := by
  cases x with
  | t d => exact RV.gr hF h
  | s n => obtain ⟨a, e, q⟩ := h; exact ⟨a, e, get_pre hi q⟩
theorem Lkd.sub (l : Lkd Λ F U H) (s : Gr F U) : Sub F H := fun a o e => by
  by_cases h : ∃ p ∈ Λ, p.1 = a
  · obtain ⟨p, hp, rfl⟩ := h
    obtain ⟨h1, h2, h3⟩ := l.at_ p hp
    rw [h1] at e
    cases e
    exact .inr ⟨h2, _, h3⟩
  · exact .inl (by rw [l.out a (fun p hp q => h ⟨p, hp, q⟩)]; exact s a o e)
theorem Lkd.un (l : Lkd Λ F U H) (h : F a = none) : H a = U a := l.out a fun p hp q => by
  have := (l.at_ p hp).1
  rw [q, h] at this
  cases this
theorem Lkd.free (l : Lkd Λ F U H) (h : H a = none) : U a = none := by
  by_cases q : ∃ p ∈ Λ, p.1 = a
  · obtain ⟨p, hp, rfl⟩ := q
    rw [(l.at_ p hp).2.2] at h
    cases h
  · rw [← l.out a (fun p hp e => q ⟨p, hp, e⟩)]
    exact h
theorem Lkd.ne (l : Lkd Λ F U H) (h : H a = none ∨ F a = none) : ∀ p ∈ Λ, p.1 ≠ a := fun p hp e => by
  obtain ⟨h1, _, h3⟩ := l.at_ p hp
  rcases h with h | h
  · rw [e, h] at h3; cases h3
  · rw [e, h] at h1; cases h1
theorem Lkd.upd (l : Lkd Λ F U H) (hF : Gr F F') (hn : ∀ p ∈ Λ, p.1 ≠ a) : Lkd Λ F' (upd U a o) (upd H a o) := ⟨fun b hb => by
    by_cases e : b = a
    · subst e; rw [upd_same, upd_same]
    · rw [upd_ne e, upd_ne e]; exact l.out b hb,
  fun p hp => by
    obtain ⟨h1, h2, h3⟩ := l.at_ p hp
    exact ⟨hF _ _ h1, h2, by rw [upd_ne (hn p hp)]; exact h3⟩⟩
theorem Rel.sub (r : Rel g B Λ σ H F ι m) : Sub F H := let ⟨_, l, r⟩ := r.ex; l.sub r.sub
theorem Rp.free (r : Rp g B σ U F ι ρ S) (h : U a = none) : F a = none ∧ a ∉ ι ∧ B.H a = none := by
  have h1 : a ∉ ι := fun hi => by
    obtain ⟨n, hn⟩ := List.mem_iff_getElem?.mp hi
    have hl : n < S.length := by rw [r.sl]; exact (List.getElem?_eq_some_iff.mp hn).1
    obtain ⟨o, q⟩ := (r.st n a _ hn (List.getElem?_eq_getElem hl)).here
    rw [h] at q; cases q
  refine ⟨?_, h1, ?_⟩
  · cases e : F a with
    | none => rfl
    | some o => rw [r.sub a o e] at h; cases h
  · cases e : B.H a with
    | none => rfl
    | some o =>
      rw [r.old a o e (fun q => h1 (r.pre.subset q))] at h
      cases h
theorem RLoc.keep {sv : Option (Option V)} {l : Loc} {U' : Hp} (h : RLoc g B F U ι sv l) (hF : Gr F F') (hi : ι <+: ι') (hn : ∀ a d, l = .own d → sv = some (some (.ref a)) → F a = none → a ∉ ι → (∀ o, U a = some o → U' a = some o) ∧ F' a = none ∧ a ∉ ι') : RLoc g B F' U' ι' sv l := by
  cases l with
  | un => exact True.intro
  | t d => obtain ⟨v, e, q⟩ := h; exact ⟨v, e, q.gr hF⟩
  | s n => obtain ⟨a, e, q⟩ := h; exact ⟨a, e, get_pre hi q⟩
  | own d =>
    obtain ⟨a, e, h1, h2, h3, h4⟩ := h
    obtain ⟨k1, k2, k3⟩ := hn a d rfl e h1 h2
    exact ⟨a, e, k2, k3, h3, h4.keep hF k1⟩
/-- a new object, frozen at once -/
theorem Rel.alloc (r : Rel g B Λ σ H F ι m) (h : H a = none) : Rel g B Λ σ (upd H a o) (upd F a o) ι m ∧ Gr F (upd F a o) := by
  obtain ⟨U, l, r⟩ := r.ex
  have hU := l.free h
  obtain ⟨hF, hi, hB⟩ := r.free hU
  have gr : Gr F (upd F a o) := Gr.new hF
  have keepU : ∀ b u, U b = some u → upd U a o b = some u := fun b u e => by rw [upd_ne (ne_of_none e hU)]; exact e
  refine ⟨⟨upd U a o, l.upd gr (l.ne (.inl h)), ⟨fun b u e => ?_, fun b u e q => keepU b u (r.old b u e q), fun b u e => ?_, r.grF.trans gr, r.pre, fun b hb => ?_, r.nd, r.sl, fun n b d h1 h2 => (r.st n b d h1 h2).keep gr (keepU b), r.ln, fun i l hl => ?_, r.ap⟩⟩, gr⟩
  · by_cases q : b = a
    · subst q; rw [upd_same] at e ⊢; exact e
    · rw [upd_ne q] at e ⊢; exact r.sub b u e
  · by_cases q : b = a
    · subst q; exact .inr (.inl hB)
    · rw [upd_ne q] at e; exact r.new b u e
  · have nb : b ≠ a := fun q => hi (q ▸ hb)
    rw [upd_ne nb]; exact r.iF b hb
  · refine (r.loc i l hl).keep gr (List.prefix_refl _) fun b d _ _ h1 h2 => ⟨keepU b, ?_, h2⟩
    rename_i el e2
    subst el
    have nb : b ≠ a := fun q => by
      obtain ⟨b', e, k1, k2, k3, k4⟩ := r.loc i _ hl
      rw [e2] at e; cases e
      obtain ⟨z, hz⟩ := k4.here
      rw [q, hU] at hz; cases hz
    rw [upd_ne nb]; exact h1
theorem Rel.dat (r : Rel g B Λ σ H F ι m) (h : RVal g F ι σ v x) (e : dat x m = some d) : RT g F H v d := by
  have sb := r.sub
  obtain ⟨U, l, r⟩ := r.ex
  have store : ∀ {n : Nat} {a : Addr}, ι[n]? = some a → m.S[n]? = some d → RT g F H (.ref a) d := fun {n a} h1 h2 => by
    have q := r.st n a d h1 h2
    have hF := (r.iF a (List.mem_of_getElem? h1)).1
    exact (q.keep (Gr.refl F) (fun o z => by rw [l.un hF]; exact z)).rt
  cases x with
  | t d' => cases e; exact RT.of sb h
  | s n => obtain ⟨a, rfl, q⟩ := h; exact store q e
  | o i =>
    have h : σ[i]? = some (some v) := h
    unfold MF.dat at e
    simp only at e
    split at e
    · rename_i d' q
      cases e
      obtain ⟨a, e, h1, h2, h3, h4⟩ := r.loc i _ q
      rw [h] at e; cases e
      exact (h4.keep (Gr.refl F) (fun o z => by rw [l.un h1]; exact z)).rt
    · rename_i d' q
      cases e
      obtain ⟨v', e, h1⟩ := r.loc i _ q
      rw [h] at e; cases e
      exact RT.of sb h1
    · rename_i n q
      obtain ⟨a, e', h1⟩ := r.loc i _ q
      rw [h] at e'; cases e'
      exact store h1 e
    · cases e
/-- freezing slot i -/
theorem Rel.freeze (r : Rel g B Λ σ H F ι m) {i : Nat} (hi : m.ρ[i]? = some (.own d)) (h : σ[i]? = some (some v)) : ∃ F', Gr F F' ∧ Rel g B Λ σ H F' ι ⟨m.ρ.set i (.t d), m.S⟩ ∧ RV g F' v d := by
  obtain ⟨U, l, r⟩ := r.ex
  obtain ⟨a, e, h1, h2, h3, h4⟩ := r.loc i _ hi
  rw [h] at e; cases e
  obtain ⟨o, ho, hv⟩ := h4.freeze h1
  have gr : Gr F (upd F a o) := Gr.new h1
  refine ⟨upd F a o, gr, ⟨U, ⟨l.out, fun p hp => ?_⟩, ⟨fun b u e => ?_, r.old, fun b u e => ?_, r.grF.trans gr, r.pre, fun b hb => ?_, r.nd, r.sl, fun n b d h1 h2 => (r.st n b d h1 h2).keep gr (fun _ z => z), by rw [List.length_set]; exact r.ln, fun j l hl => ?_, fun j k dj dk hjk hj hk => ?_⟩⟩, hv⟩
  · obtain ⟨k1, k2, k3⟩ := l.at_ p hp; exact ⟨gr _ _ k1, k2, k3⟩
  · by_cases q : b = a
    · subst q; rw [upd_same] at e; cases e; exact ho
    · rw [upd_ne q] at e; exact r.sub b u e
  · by_cases q : b = a
    · subst q; exact .inr (.inl h3)
    · rw [upd_ne q] at e; exact r.new b u e
  · have nb : b ≠ a := fun q => h2 (q ▸ hb)
    rw [upd_ne nb]; exact r.iF b hb
  · by_cases q : i = j
    · subst q
      have := List.getElem?_eq_some_iff.mp hi
      rw [List.getElem?_set_self this.1] at hl
      cases hl
      exact ⟨_, h, hv⟩
    · rw [List.getElem?_set_ne q] at hl
      refine (r.loc j l hl).keep gr (List.prefix_refl _) fun b d' e1 e2 k1 k2 => ⟨fun _ z => z, ?_, k2⟩
      subst e1
      have nb : b ≠ a := fun z => r.ap i j d d' q hi hl (by rw [h, e2, z])
      rw [upd_ne nb]; exact k1
  · by_cases q : i = j
    · subst q
      rw [List.getElem?_set_self (List.getElem?_eq_some_iff.mp hi).1] at hj
      cases hj
    · by_cases q2 : i = k
      · subst q2
        rw [List.getElem?_set_self (List.getElem?_eq_some_iff.mp hi).1] at hk
        cases hk
      · rw [List.getElem?_set_ne q] at hj
        rw [List.getElem?_set_ne q2] at hk
        exact r.ap j k dj dk hjk hj hk
theorem Rel.arg (r : Rel g B Λ σ H F ι m) (h : RVal g F ι σ v x) {b : Arg} {m' : M} (e : arg x m = .ok b m') : ∃ F', Gr F F' ∧ Rel g B Λ σ H F' ι m' ∧ RArg g F' ι v b := by
  cases x with
  | t d => cases e; exact ⟨F, Gr.refl F, r, h⟩
  | s n => cases e; exact ⟨F, Gr.refl F, r, h⟩
  | o i =>
    have h : σ[i]? = some (some v) := h
    unfold MF.arg at e
    simp only at e
    split at e
    · rename_i d q
      cases e
      exact r.freeze q h
    · rename_i d q
      cases e
      obtain ⟨U, l, r'⟩ := r.ex
      obtain ⟨v', e, h1⟩ := r'.loc i _ q
      rw [h] at e; cases e
      exact ⟨F, Gr.refl F, r, h1⟩
    · rename_i n q
      cases e
      obtain ⟨U, l, r'⟩ := r.ex
      obtain ⟨a, e, h1⟩ := r'.loc i _ q
      rw [h] at e; cases e
      exact ⟨F, Gr.refl F, r, a, rfl, h1⟩
    · cases e
end
/-- a key as data -/
def kD : Key → D
  | .inl i => .int i
  | .inr x => .str x
theorem kD_v (g : Gb) (F : Hp) : ∀ ks : List Key, RVs g F (ks.map kV) (ks.map kD)
  | [] => .nil
  | .inl i :: ks => .cons (.int i) (kD_v g F ks)
  | .inr x :: ks => .cons (.str x) (kD_v g F ks)
/-- a tuple of ints and texts that stands in the heap is learnt -/
theorem Rel.learn {g : Gb} {B : Bs} {Λ : Lks} {σ : L2.St} {H F : Hp} {ι : List Addr} {m : M} {a : Addr} {ks : List Key} (r : Rel g B Λ σ H F ι m) (h : H a = some (.tup (ks.map kV))) : ∃ F', Gr F F' ∧ Rel g B Λ σ H F' ι m ∧ RV g F' (.ref a) (.tup (ks.map kD)) := by
  have sb := r.sub
  obtain ⟨U, l, r⟩ := r.ex
  cases hF : F a with
  | some u =>
    rcases sb a u hF with e | ⟨_, od, e⟩
    · rw [h] at e; cases e
      exact ⟨F, Gr.refl F, ⟨U, l, r⟩, .tup hF (kD_v g F ks)⟩
    · rw [h] at e; cases e
  | none =>
    have gr : Gr F (upd F a (.tup (ks.map kV))) := Gr.new hF
    have hU : U a = some (.tup (ks.map kV)) := by rw [← l.un hF]; exact h
    have mutb : ∀ b d, RO g F U b d → b ≠ a := fun b d k z => by
      subst z
      cases k with
      | lst h r => rw [h] at hU; cases hU
      | dk h k r => rw [h] at hU; cases hU
      | dt h k r => rw [h] at hU; cases hU
      | obj h c k r => rw [h] at hU; cases hU
    have nsh : ∀ b ∈ ι, b ≠ a := fun b hb => by
      obtain ⟨n, hn⟩ := List.mem_iff_getElem?.mp hb
      have hl := (List.getElem?_eq_some_iff.mp hn).1
      exact mutb b _ (r.st n b _ hn (List.getElem?_eq_getElem (by rw [r.sl]; exact hl)))
    refine ⟨_, gr, ⟨U, ⟨l.out, fun p hp => ?_⟩, fun b u e => ?_, r.old, fun b u e => ?_, r.grF.trans gr, r.pre, fun b hb => ?_, r.nd, r.sl, fun n b d h1 h2 => (r.st n b d h1 h2).keep gr (fun _ z => z), r.ln, fun j l hl => ?_, r.ap⟩, .tup upd_same (kD_v g _ ks)⟩
    · obtain ⟨k1, k2, k3⟩ := l.at_ p hp; exact ⟨gr _ _ k1, k2, k3⟩
    · by_cases q : b = a
      · subst q; rw [upd_same] at e; cases e; exact hU
      · rw [upd_ne q] at e; exact r.sub b u e
    · by_cases q : b = a
      · subst q
        rw [upd_same] at e; cases e
        cases hB : B.H b with
        | none => exact .inr (.inl rfl)
        | some u2 =>
          refine .inr (.inr ⟨_, rfl, ?_⟩)
          by_cases hb : b ∈ B.ι
          · exact absurd rfl (nsh b (r.pre.subset hb))
          · have := r.old b u2 hB hb
            rw [hU] at this; cases this; exact hB
      · rw [upd_ne q] at e; exact r.new b u e
    · rw [upd_ne (nsh b hb)]; exact r.iF b hb
    · refine (r.loc j l hl).keep gr (List.prefix_refl _) fun b d' e1 e2 k1 k2 => ⟨fun _ z => z, ?_, k2⟩
      subst e1
      have nb : b ≠ a := by
        obtain ⟨b', e, q1, q2, q3, q4⟩ := r.loc j _ hl
        rw [e2] at e; cases e
        exact mutb b d' q4
      rw [upd_ne nb]; exact k1
/-- lists of values -/
inductive All2 {α β : Type} (P : α → β → Prop) : List α → List β → Prop where
  | nil : All2 P [] []
  | cons {a : α} {b : β} {as : List α} {bs : List β} : P a b → All2 P as bs → All2 P (a :: as) (b :: bs)
theorem All2.imp {α β : Type} {P Q : α → β → Prop} (h : ∀ a b, P a b → Q a b) : ∀ {as : List α} {bs : List β}, All2 P as bs → All2 Q as bs
  | _, _, .nil => .nil
  | _, _, .cons p r => .cons (h _ _ p) (All2.imp h r)
theorem All2.length {α β : Type} {P : α → β → Prop} : ∀ {as : List α} {bs : List β}, All2 P as bs → as.length = bs.length
  | _, _, .nil => rfl
  | _, _, .cons _ r => by rw [List.length_cons, List.length_cons, All2.length r]
section
variable {g : Gb} {B : Bs} {Λ : Lks} {σ : L2.St} {H : Hp}
theorem Rel.args : ∀ {xs : List Val} {vs : List V} {F : Hp} {ι : List Addr} {m : M} {bs : List Arg} {m' : M}, Rel g B Λ σ H F ι m → All2 (RVal g F ι σ) vs xs → args xs m = .ok bs m' → ∃ F', Gr F F' ∧ Rel g B Λ σ H F' ι m' ∧ All2 (RArg g F' ι) vs bs
  | [], _, F, ι, m, bs, m', r, .nil, e => by cases e; exact ⟨F, Gr.refl F, r, .nil⟩
  | x :: xs, _, F, ι, m, bs, m', r, .cons h t, e => by
    obtain ⟨b, m1, e1, e2⟩ := bind_ok e
    obtain ⟨c, m2, e3, e4⟩ := bind_ok e2
    cases e4
    obtain ⟨F1, g1, r1, a1⟩ := r.arg h e1
    obtain ⟨F2, g2, r2, a2⟩ := Rel.args r1 (t.imp fun _ _ q => q.gr g1 (List.prefix_refl _)) e3
    exact ⟨F2, g1.trans g2, r2, .cons (a1.gr g2 (List.prefix_refl _)) a2⟩
theorem Rel.asD {x : Val} {v : V} {F : Hp} {ι : List Addr} {m : M} {d : D} {m' : M} (r : Rel g B Λ σ H F ι m) (h : RVal g F ι σ v x) (e : asD x m = .ok d m') : ∃ F', Gr F F' ∧ Rel g B Λ σ H F' ι m' ∧ RV g F' v d := by
  obtain ⟨b, m1, e1, e2⟩ := bind_ok e
  obtain ⟨e3, rfl⟩ := opt_ok e2
  obtain ⟨F1, g1, r1, a1⟩ := r.arg h e1
  cases b with
  | t d' => cases e3; exact ⟨F1, g1, r1, a1⟩
  | s n => cases e3
theorem Rel.asDs : ∀ {xs : List Val} {vs : List V} {F : Hp} {ι : List Addr} {m : M} {ds : List D} {m' : M}, Rel g B Λ σ H F ι m → All2 (RVal g F ι σ) vs xs → asDs xs m = .ok ds m' → ∃ F', Gr F F' ∧ Rel g B Λ σ H F' ι m' ∧ RVs g F' vs ds
  | [], _, F, ι, m, bs, m', r, .nil, e => by cases e; exact ⟨F, Gr.refl F, r, .nil⟩
  | x :: xs, _, F, ι, m, bs, m', r, .cons h t, e => by
    obtain ⟨b, m1, e1, e2⟩ := bind_ok e
    obtain ⟨c, m2, e3, e4⟩ := bind_ok e2
    cases e4
    obtain ⟨F1, g1, r1, a1⟩ := r.asD h e1
    obtain ⟨F2, g2, r2, a2⟩ := Rel.asDs r1 (t.imp fun _ _ q => q.gr g1 (List.prefix_refl _)) e3
    exact ⟨F2, g1.trans g2, r2, .cons (a1.gr g2) a2⟩
end

/-! # a new object that is still in the making: it lies in the base -/
def Bs.pin (B : Bs) (p : Addr) (o : HO) : Bs := ⟨upd B.H p o, B.F, B.ι⟩
structure Pin (g : Gb) (B : Bs) (Λ : Lks) (σ : L2.St) (H F : Hp) (ι : List Addr) (m : M) (p : Addr) (o : HO) : Prop where
  rel : Rel g (B.pin p o) Λ σ H F ι m
  bH : B.H p = none
  bF : B.F p = none
  bi : p ∉ B.ι
  nt : ∀ vs, o ≠ .tup vs
section
variable {g : Gb} {B : Bs} {Λ : Lks} {σ : L2.St} {H F F' U : Hp} {ι ι' : List Addr} {m : M} {ρ : List Loc} {S : List D} {v : V} {x : Val} {d : D} {a p : Addr} {o o' : HO}
theorem Pin.facts (r : Pin g B Λ σ H F ι m p o) : F p = none ∧ p ∉ ι ∧ H p = some o := by
  obtain ⟨⟨U, l, q⟩, h1, h2, h3, h4⟩ := r
  have hp : (B.pin p o).H p = some o := upd_same
  have hF : F p = none := by
    cases e : F p with
    | none => rfl
    | some u =>
      rcases q.new p u e with z | z | ⟨vs, _, z⟩
      · rw [show B.F p = some u from z] at h2; cases h2
      · rw [hp] at z; cases z
      · rw [hp] at z; cases z; exact absurd rfl (h4 vs)
  refine ⟨hF, fun hi => ?_, ?_⟩
  · rcases (q.iF p hi).2 with z | z
    · exact h3 z
    · rw [hp] at z; cases z
  · rw [l.un hF]; exact q.old p o hp h3
theorem Rp.pinned (q : Rp g B σ U F ι ρ S) (h : U p = none) : Rp g (B.pin p o) σ (upd U p o) F ι ρ S := by
  obtain ⟨hF, hi, hB⟩ := q.free h
  have keepU : ∀ b u, U b = some u → upd U p o b = some u := fun b u e => by rw [upd_ne (ne_of_none e h)]; exact e
  have bn : ∀ b, b ≠ p → (B.pin p o).H b = B.H b := fun b hb => upd_ne hb
  refine ⟨fun b u e => keepU b u (q.sub b u e), fun b u e hb => ?_, fun b u e => ?_, q.grF, q.pre, fun b hb => ?_, q.nd, q.sl, fun n b d h1 h2 => (q.st n b d h1 h2).keep (Gr.refl F) (keepU b), q.ln, fun i l hl => ?_, q.ap⟩
  · by_cases z : b = p
    · subst z; rw [upd_same]; exact (show (B.pin b o).H b = some u from e) ▸ (upd_same).symm ▸ rfl
    · rw [bn b z] at e; exact keepU b u (q.old b u e hb)
  · rcases q.new b u e with z | z | ⟨vs, e1, z⟩
    · exact .inl z
    · refine .inr (.inl ?_)
      rw [bn b (ne_of_none e hF)]; exact z
    · refine .inr (.inr ⟨vs, e1, ?_⟩)
      rw [bn b (ne_of_none e hF)]; exact z
  · have nb : b ≠ p := fun z => hi (z ▸ hb)
    rw [bn b nb]; exact q.iF b hb
  · cases l with
    | un => exact True.intro
    | t d => exact q.loc i _ hl
    | s n => exact q.loc i _ hl
    | own d =>
      obtain ⟨b, e, k1, k2, k3, k4⟩ := q.loc i _ hl
      obtain ⟨z, hz⟩ := k4.here
      have nb : b ≠ p := ne_of_none hz h
      exact ⟨b, e, k1, k2, by rw [bn b nb]; exact k3, k4.keep (Gr.refl F) (keepU b)⟩
theorem Rel.lay (r : Rel g B Λ σ H F ι m) (h : H p = none) (nt : ∀ vs, o ≠ .tup vs := by intro _ z; cases z) : Pin g B Λ σ (upd H p o) F ι m p o := by
  obtain ⟨U, l, q⟩ := r.ex
  have hU := l.free h
  obtain ⟨hF, hi, hB⟩ := q.free hU
  have bF : B.F p = none := by
    cases e : B.F p with
    | none => rfl
    | some u =>
      rw [q.grF p u e] at hF
      cases hF
  exact ⟨⟨upd U p o, l.upd (Gr.refl F) (l.ne (.inl h)), q.pinned hU⟩, hB, bF, fun z => hi (q.pre.subset z), nt⟩
/-- an object that nothing knows -/
theorem Rel.junk (r : Rel g B Λ σ H F ι m) (h : H p = none) : Rel g B Λ σ (upd H p o) F ι m := by
  obtain ⟨U, l, q⟩ := r.ex
  have hU := l.free h
  obtain ⟨hF, hi, hB⟩ := q.free hU
  have keepU : ∀ b u, U b = some u → upd U p o b = some u := fun b u e => by rw [upd_ne (ne_of_none e hU)]; exact e
  exact ⟨upd U p o, l.upd (Gr.refl F) (l.ne (.inl h)), fun b u e => keepU b u (q.sub b u e), fun b u e hb => keepU b u (q.old b u e hb), q.new, q.grF, q.pre, q.iF, q.nd, q.sl, fun n b d h1 h2 => (q.st n b d h1 h2).keep (Gr.refl F) (keepU b), q.ln, fun i l hl => (q.loc i l hl).keep (Gr.refl F) (List.prefix_refl _) fun b d _ _ h1 h2 => ⟨keepU b, h1, h2⟩, q.ap⟩
/-- it is forgotten -/
theorem Pin.drop (r : Pin g B Λ σ H F ι m p o) : Rel g B Λ σ H F ι m := by
  obtain ⟨hF, hi, hH⟩ := r.facts
  obtain ⟨⟨U, l, q⟩, h1, h2, h3, h4⟩ := r
  have bn : ∀ b, b ≠ p → (B.pin p o).H b = B.H b := fun b hb => upd_ne hb
  have sub : ∀ b, (B.pin p o).H b = none → B.H b = none := fun b e => by
    by_cases z : b = p
    · subst z; exact h1
    · rw [← bn b z]; exact e
  refine ⟨U, l, q.sub, fun b u e hb => q.old b u (by rw [bn b (ne_of_none e h1)]; exact e) hb, fun b u e => (q.new b u e).imp id (Or.imp (sub b) fun ⟨vs, e1, z⟩ => ⟨vs, e1, by rw [← bn b (ne_of_none e hF)]; exact z⟩), q.grF, q.pre, fun b hb => ⟨(q.iF b hb).1, (q.iF b hb).2.imp id (sub b)⟩, q.nd, q.sl, q.st, q.ln, fun i l hl => ?_, q.ap⟩
  cases l with
  | un => exact True.intro
  | t d => exact q.loc i _ hl
  | s n => exact q.loc i _ hl
  | own d =>
    obtain ⟨b, e, k1, k2, k3, k4⟩ := q.loc i _ hl
    exact ⟨b, e, k1, k2, sub b k3, k4⟩
/-- it is changed -/
theorem Pin.put (r : Pin g B Λ σ H F ι m p o) (nt : ∀ vs, o' ≠ .tup vs := by intro _ z; cases z) : Pin g B Λ σ (upd H p o') F ι m p o' := by
  obtain ⟨hF, hi, hH⟩ := r.facts
  obtain ⟨⟨U, l, q⟩, h1, h2, h3, h4⟩ := r
  have bn : ∀ b u w, b ≠ p → (B.pin p u).H b = (B.pin p w).H b := fun b u w hb => by
    show upd B.H p u b = upd B.H p w b
    rw [upd_ne hb, upd_ne hb]
  have hU : U p = some o := by rw [← l.un hF]; exact hH
  have hp : ∀ u, (B.pin p u).H p = some u := fun u => upd_same
  have nn : ∀ b, (B.pin p o).H b = none → (B.pin p o').H b = none := fun b e => by
    have : b ≠ p := fun z => by subst z; rw [hp] at e; cases e
    rw [bn b o' o this]; exact e
  refine ⟨⟨upd U p o', l.upd (Gr.refl F) (l.ne (.inr hF)), fun b u e => ?_, fun b u e hb => ?_, fun b u e => (q.new b u e).imp id (Or.imp (nn b) fun ⟨vs, e1, z⟩ => ⟨vs, e1, by rw [bn b o' o (ne_of_none e hF)]; exact z⟩), q.grF, q.pre, fun b hb => ⟨(q.iF b hb).1, (q.iF b hb).2.imp id (nn b)⟩, q.nd, q.sl, fun n b d e1 e2 => (q.st n b d e1 e2).keep (Gr.refl F) fun u e => ?_, q.ln, fun i l hl => ?_, q.ap⟩, h1, h2, h3, nt⟩
  · rw [upd_ne (ne_of_none e hF)]; exact q.sub b u e
  · by_cases z : b = p
    · subst z
      rw [hp] at e
      rw [upd_same]; exact e
    · rw [bn b o' o z] at e
      rw [upd_ne z]; exact q.old b u e hb
  · have nb : b ≠ p := fun z => hi (z ▸ List.mem_of_getElem? e1)
    rw [upd_ne nb]; exact e
  · cases l with
    | un => exact True.intro
    | t d => exact q.loc i _ hl
    | s n => exact q.loc i _ hl
    | own d =>
      obtain ⟨b, e, k1, k2, k3, k4⟩ := q.loc i _ hl
      have nb : b ≠ p := fun z => by subst z; rw [hp] at k3; cases k3
      exact ⟨b, e, k1, k2, nn b k3, k4.keep (Gr.refl F) fun u e => by rw [upd_ne nb]; exact e⟩
/-- frozen -/
theorem Pin.freeze (r : Pin g B Λ σ H F ι m p o) (h : RO g F H p d) : Rel g B Λ σ H (upd F p o) ι m ∧ Gr F (upd F p o) ∧ RV g (upd F p o) (.ref p) d := by
  obtain ⟨hF, hi, hH⟩ := r.facts
  have gr : Gr F (upd F p o) := Gr.new hF
  have nown : ∀ (i : Nat) d b, m.ρ[i]? = some (.own d) → σ[i]? = some (some (V.ref b)) → b ≠ p := fun i d b e1 e2 z => by
    obtain ⟨U, l, q⟩ := r.rel.ex
    obtain ⟨b', e, k1, k2, k3, k4⟩ := q.loc i _ e1
    rw [e2] at e; cases e
    subst z
    rw [show (B.pin b o).H b = some o from upd_same] at k3; cases k3
  have hB := r.bH
  obtain ⟨U, l, q⟩ := r.drop.ex
  obtain ⟨o2, ho, hv⟩ := h.freeze hF
  rw [hH] at ho; cases ho
  have hU : U p = some o := by rw [← l.un hF]; exact hH
  refine ⟨⟨U, ⟨l.out, fun x hx => ?_⟩, fun b u e => ?_, q.old, fun b u e => ?_, q.grF.trans gr, q.pre, fun b hb => ?_, q.nd, q.sl, fun n b d h1 h2 => (q.st n b d h1 h2).keep gr (fun _ z => z), q.ln, fun i l hl => ?_, q.ap⟩, gr, hv⟩
  · obtain ⟨k1, k2, k3⟩ := l.at_ x hx; exact ⟨gr _ _ k1, k2, k3⟩
  · by_cases z : b = p
    · subst z; rw [upd_same] at e; cases e; exact hU
    · rw [upd_ne z] at e; exact q.sub b u e
  · by_cases z : b = p
    · subst z; exact .inr (.inl hB)
    · rw [upd_ne z] at e; exact q.new b u e
  · have nb : b ≠ p := fun z => hi (z ▸ hb)
    rw [upd_ne nb]; exact q.iF b hb
  · refine (q.loc i l hl).keep gr (List.prefix_refl _) fun b d' e1 e2 k1 k2 => ⟨fun _ z => z, ?_, k2⟩
    subst e1
    rw [upd_ne (nown i d' b hl e2)]; exact k1
end
end MF
set_option Elab.async false
set_option linter.all false
set_option maxRecDepth 100000
set_option maxHeartbeats 4000000
namespace MF
open PySem L2

/-! # what implements what -/
section
variable (g : Gb)
def sE (f : E Val) : TE := fun σ H Q => ∃ B Λ F ι m x m', Rel g B Λ σ H F ι m ∧ f m = .ok x m' ∧ ∀ v H' F' ι', Rel g B Λ σ H' F' ι' m' → Gr F F' → ι <+: ι' → RVal g F' ι' σ v x → Q v H'
def sA (f : E (List Val)) : TA := fun σ H Q => ∃ B Λ F ι m xs m', Rel g B Λ σ H F ι m ∧ f m = .ok xs m' ∧ ∀ vs H' F' ι', Rel g B Λ σ H' F' ι' m' → Gr F F' → ι <+: ι' → All2 (RVal g F' ι' σ) vs xs → Q vs H'
def sT (f : E Bool) : TT := fun σ H Q => ∃ B Λ F ι m b m', Rel g B Λ σ H F ι m ∧ f m = .ok b m' ∧ ∀ H' F' ι', Rel g B Λ σ H' F' ι' m' → Gr F F' → ι <+: ι' → Q b H'
/-- a new object that is not frozen -/
def sN (f : E D) : TE := fun σ H Q => ∃ B Λ F ι m d m', Rel g B Λ σ H F ι m ∧ f m = .ok d m' ∧ ∀ p H1 F' ι' o, Pin g B Λ σ H1 F' ι' m' p o → Gr F F' → ι <+: ι' → RO g F' H1 p d → Q (.ref p) H1
inductive Ctl where
  | nx | rt (a : Arg) | bk | ct
def After (D : Ends) (B : Bs) (Λ : Lks) (F : Hp) (ι : List Addr) (c : Ctl) (m' : M) : Prop := ∀ σ' H' F' ι', Rel g B Λ σ' H' F' ι' m' → Gr F F' → ι <+: ι' → match c with
  | .nx => D.nx σ' H'
  | .bk => D.bk σ' H'
  | .ct => D.ct σ' H'
  | .rt a => ∀ v, RArg g F' ι' v a → D.rt v H'
def sS (f : E Ctl) : TS := fun D σ H => ∃ B Λ F ι m c m', Rel g B Λ σ H F ι m ∧ f m = .ok c m' ∧ After g D B Λ F ι c m'
def Agree (ws : List Nat) (σ σ' : L2.St) : Prop := σ'.length = σ.length ∧ ∀ j, j ∉ ws → σ'[j]? = σ[j]?
def sG (ws : List Nat) (f : Arg → E Unit) : TG := fun v σ H Q => ∃ B Λ F ι m a m', Rel g B Λ σ H F ι m ∧ RArg g F ι v a ∧ f a m = .ok () m' ∧ ∀ σ' H' F' ι', Rel g B Λ σ' H' F' ι' m' → Gr F F' → ι <+: ι' → Agree ws σ σ' → Q σ' H'
end
section
variable {X : Cx} {g : Gb}
theorem _root_.L2.PE.via {e : Expr} {t t' : TE} (h : PE X e t) (w : ∀ σ H Q, t' σ H Q → t σ H Q) : PE X e t' := ⟨fun pins s σ H Q I q => h.run pins s σ H Q I (w _ _ _ q)⟩
theorem _root_.L2.PE.orSome {e : Expr} {t' : TE} (w : ∀ σ H Q, t' σ H Q → ∃ t, PE X e t ∧ t σ H Q) : PE X e t' := ⟨fun pins s σ H Q I q => let ⟨_, h, r⟩ := w _ _ _ q; h.run pins s σ H Q I r⟩
theorem _root_.L2.PT.via {e : Expr} {t t' : TT} (h : PT X e t) (w : ∀ σ H Q, t' σ H Q → t σ H Q) : PT X e t' := ⟨fun pins s σ H Q I q => h.run pins s σ H Q I (w _ _ _ q)⟩
theorem _root_.L2.PW.via {e : Expr} {t t' : TT} (h : PW X e t) (w : ∀ σ H Q, t' σ H Q → t σ H Q) : PW X e t' := ⟨fun wh pins s σ H Q I q => h.run wh pins s σ H Q I (w _ _ _ q)⟩
theorem _root_.L2.PA.via {e : List Expr} {t t' : TA} (h : PA X e t) (w : ∀ σ H Q, t' σ H Q → t σ H Q) : PA X e t' := ⟨fun pos pins s σ H Q I q => h.run pos pins s σ H Q I (w _ _ _ q)⟩
theorem _root_.L2.PS.via {e : Stmt} {t t' : TS} (h : PS X e t) (w : ∀ D σ H, t' D σ H → t D σ H) : PS X e t' := ⟨fun pins s σ H D I q => h.run pins s σ H D I (w _ _ _ q)⟩
theorem _root_.L2.PS.orSome {e : Stmt} {t' : TS} (w : ∀ D σ H, t' D σ H → ∃ t, PS X e t ∧ t D σ H) : PS X e t' := ⟨fun pins s σ H D I q => let ⟨_, h, r⟩ := w _ _ _ q; h.run pins s σ H D I r⟩
theorem _root_.L2.PSs.via {e : List Stmt} {t t' : TS} (h : PSs X e t) (w : ∀ D σ H, t' D σ H → t D σ H) : PSs X e t' := ⟨fun pins s σ H D I q => h.run pins s σ H D I (w _ _ _ q)⟩
theorem _root_.L2.PG.via {e : Expr} {t t' : TG} (h : PG X e t) (w : ∀ v σ H Q, t' v σ H Q → t v σ H Q) : PG X e t' := ⟨fun pins s σ H v u Q I r q => h.run pins s σ H v u Q I r (w _ _ _ _ q)⟩
theorem _root_.L2.PI.via {tg e : Expr} {t t' : TI} (h : PI X tg e t) (w : ∀ σ H Q, t' σ H Q → t σ H Q) : PI X tg e t' := ⟨fun pins s σ H Q I q => h.run pins s σ H Q I (w _ _ _ q)⟩
theorem _root_.L2.PI.orSome {tg e : Expr} {t' : TI} (w : ∀ σ H Q, t' σ H Q → ∃ t, PI X tg e t ∧ t σ H Q) : PI X tg e t' := ⟨fun pins s σ H Q I q => let ⟨_, h, r⟩ := w _ _ _ q; h.run pins s σ H Q I r⟩
end

/-! # expressions -/
def eN (i : Nat) : E Val := fun m => match m.ρ[i]? with
  | some (.t d) => .ok (.t d) m
  | some (.s n) => .ok (.s n) m
  | some (.own _) => .ok (.o i) m
  | _ => .no
def eC (d : D) : E Val := .ret (.t d)
def rd (x : Val) : E D := fun m => E.opt (dat x m) m
def rds : List Val → E (List D)
  | [] => .ret []
  | x :: xs => (rd x).bind fun d => (rds xs).bind fun r => .ret (d :: r)
def eOp (f : D → D → Option D) (a b : E Val) : E Val := a.bind fun x => b.bind fun y => (rd x).bind fun d => (rd y).bind fun e => (E.opt (f d e)).bind fun r => .ret (.t r)
def eUn (f : D → Option D) (a : E Val) : E Val := a.bind fun x => (rd x).bind fun d => (E.opt (f d)).bind fun r => .ret (.t r)
def eArgs : List (E Val) → E (List Val)
  | [] => .ret []
  | a :: as => a.bind fun x => (eArgs as).bind fun r => .ret (x :: r)
def eCall (f : List D → Option D) (as : E (List Val)) : E Val := as.bind fun xs => (rds xs).bind fun ds => (E.opt (f ds)).bind fun r => .ret (.t r)
def sizeOk (n : Nat) : Bool := decide (n ≤ 16000000)
theorem sizeOk_line {n : Nat} (h : sizeOk n = true) : n ≤ sizeLine := Nat.le_trans (of_decide_eq_true h) (by decide)
theorem sizeOk_lt {n : Nat} (h : sizeOk n = true) : n < sizeLine := Nat.lt_of_le_of_lt (of_decide_eq_true h) (by decide)
def eTup (as : E (List Val)) : E Val := as.bind fun xs => (asDs xs).bind fun ds => if sizeOk ds.length then .ret (.t (.tup ds)) else fun _ => .no
def nLst (as : E (List Val)) : E D := as.bind fun xs => (asDs xs).bind fun ds => if sizeOk ds.length then .ret (.lst ds) else fun _ => .no
/-- frozen at once -/
def fz (f : E D) : E Val := f.bind fun d => .ret (.t d)
def getFld (f : Str) : D → Option D
  | .obj _ fs => fs.lookup f
  | _ => none
def boolOf : D → Option Bool
  | .bl b => some b
  | _ => none
theorem boolOf_ok {d : D} {b : Bool} (h : boolOf d = some b) : d = .bl b := by
  cases d <;> first | (cases h; done) | (cases h; rfl)
def tV (a : E Val) : E Bool := a.bind fun x => (rd x).bind fun d => .opt (boolOf d)
def tAnd' (a b : E Bool) : E Bool := a.bind fun c => if c then b else .ret false
def tOr' (a b : E Bool) : E Bool := a.bind fun c => if c then .ret true else b
def tNot' (a : E Bool) : E Bool := a.bind fun c => .ret (!c)
def eAnd (a b : E Val) : E Val := (tV a).bind fun c => if c then b else .ret (.t (.bl false))
def eOr (a b : E Val) : E Val := (tV a).bind fun c => if c then .ret (.t (.bl true)) else b
def eNot (a : E Val) : E Val := (tV a).bind fun c => .ret (.t (.bl (!c)))
def eIf (c : E Bool) (a b : E Val) : E Val := c.bind fun c => if c then a else b
/-- what an operation by values may end with -/
def Want (g : Gb) (F H : Hp) (z : D) (Q : VK) : Prop := (∀ y, RV g F y z → Q y H) ∧ ∀ p o, H p = none → RV g (upd F p o) (.ref p) z → Q (.ref p) (upd H p o)
def OpS (g : Gb) (r : L2.R2) (f : D → D → Option D) : Prop := ∀ F H v w d e z Q, Sub F H → RT g F H v d → RT g F H w e → f d e = some z → Want g F H z Q → r v w H Q
def UnS (g : Gb) (r : V → Hp → VK → Prop) (f : D → Option D) : Prop := ∀ F H v d z Q, Sub F H → RT g F H v d → f d = some z → Want g F H z Q → r v H Q
def CallS (g : Gb) (r : List V → Hp → VK → Prop) (f : List D → Option D) : Prop := ∀ F H vs ds z Q, Sub F H → All2 (RT g F H) vs ds → f ds = some z → Want g F H z Q → r vs H Q

section
variable {X : Cx} {g : Gb} {B : Bs} {Λ : Lks} {σ : L2.St} {H F : Hp} {ι : List Addr} {m : M}
/-- reading the data of values -/
theorem rd_ok {x : Val} {m m' : M} {d : D} (h : rd x m = .ok d m') : dat x m = some d ∧ m' = m := opt_ok h
theorem rds_ok : ∀ {xs : List Val} {vs : List V} {ds : List D} {m m' : M}, Rel g B Λ σ H F ι m → All2 (RVal g F ι σ) vs xs → rds xs m = .ok ds m' → All2 (RT g F H) vs ds ∧ m' = m
  | [], _, _, _, _, _, .nil, e => by cases e; exact ⟨.nil, rfl⟩
  | x :: xs, _, _, _, _, r, .cons h t, e => by
    obtain ⟨d, m1, e1, e2⟩ := bind_ok e
    obtain ⟨w3, rfl⟩ := rd_ok e1
    obtain ⟨c, m2, e4, e5⟩ := bind_ok e2
    obtain ⟨q, rfl⟩ := rds_ok r t e4
    cases e5
    exact ⟨.cons (r.dat h w3) q, rfl⟩
theorem want_of (r : Rel g B Λ σ H F ι m) {z : D} {Q : VK} (q : ∀ v H' F' ι', Rel g B Λ σ H' F' ι' m → Gr F F' → ι <+: ι' → RVal g F' ι' σ v (.t z) → Q v H') : Want g F H z Q :=
  ⟨fun y h => q y H F ι r (Gr.refl F) (List.prefix_refl _) h, fun p o hp h => by
    obtain ⟨r', gr⟩ := r.alloc (o := o) hp
    exact q _ _ _ ι r' gr (List.prefix_refl _) h⟩

theorem iN (i : Nat) {x : Str} {pos : Pos} (hN : X.N[i]? = some x := by rfl) (hv : Vis X.env.scope x := by first | exact Or.inl rfl | exact Or.inr (Or.inl rfl) | exact Or.inr (Or.inr rfl)) (hd : (x == ("__debug__" : Str)) = false := by decide)
    (hcd : (x == ("__classdict__" : Str)) = false := by decide) : PE X (.Name x pos) (sE g (eN i)) := (pe_var hN hv hd hcd).via fun σ H Q ⟨B, Λ, F, ι, m, x, m', r, e, q⟩ => by
  obtain ⟨U, l, r0⟩ := r.ex
  unfold eN at e
  split at e
  · rename_i d h
    cases e
    obtain ⟨v, e1, h1⟩ := r0.loc i _ h
    exact ⟨v, e1, q v H F ι r (Gr.refl F) (List.prefix_refl _) h1⟩
  · rename_i n h
    cases e
    obtain ⟨a, e1, h1⟩ := r0.loc i _ h
    exact ⟨.ref a, e1, q _ H F ι r (Gr.refl F) (List.prefix_refl _) ⟨a, rfl, h1⟩⟩
  · rename_i d h
    cases e
    obtain ⟨a, e1, h1⟩ := r0.loc i _ h
    exact ⟨.ref a, e1, q _ H F ι r (Gr.refl F) (List.prefix_refl _) e1⟩
  · cases e
theorem sE_c {v : V} {d : D} (h : ∀ H, RV g H v d) : ∀ σ H Q, sE g (eC d) σ H Q → tC v σ H Q := fun σ H Q ⟨B, Λ, F, ι, m, x, m', r, e, q⟩ => by
  cases e
  exact q v H F ι r (Gr.refl F) (List.prefix_refl _) (h F)
theorem iInt {i j pos} : PE X (.Constant (.int i) j pos) (sE g (eC (.int i))) := pe_int.via (sE_c fun _ => .int i)
theorem iBl {b j pos} : PE X (.Constant (.bool b) j pos) (sE g (eC (.bl b))) := pe_bl.via (sE_c fun _ => .bl b)
theorem iNon {j pos} : PE X (.Constant .none j pos) (sE g (eC .non)) := pe_non.via (sE_c fun _ => .non)
theorem iStr {x j pos} : PE X (.Constant (.str x) j pos) (sE g (eC (.str x))) := pe_str.via (sE_c fun _ => .str x)
/-- a module's constant -/
structure GConst (g : Gb) (mg : Str → Option Value) (x : Str) (d : D) : Prop where
  ex : ∃ u v, mg x = some u ∧ RelV v u ∧ ∀ H, RV g H v d
theorem iGlob {x : Str} {d : D} {pos : Pos} (hg : Gl X x) (h : GConst g X.mg x d) (hd : (x == ("__debug__" : Str)) = false := by decide) : PE X (.Name x pos) (sE g (eC d)) := by
  obtain ⟨u, v, h1, h2, h3⟩ := h.ex
  exact (pe_glob hg h1 h2 hd).via (sE_c h3)

theorem sE_op {r : L2.R2} {f : D → D → Option D} {a b : E Val} (hs : OpS g r f) : ∀ σ H Q, sE g (eOp f a b) σ H Q → tOp r (sE g a) (sE g b) σ H Q := fun σ H Q ⟨B, Λ, F, ι, m, x, m', rl, e, q⟩ => by
  obtain ⟨x1, m1, e1, y1⟩ := bind_ok e
  obtain ⟨x2, m2, e2, y2⟩ := bind_ok y1
  obtain ⟨d, m3, e3, y3⟩ := bind_ok y2
  obtain ⟨w3, rfl⟩ := rd_ok e3
  obtain ⟨d2, m4, e4, y4⟩ := bind_ok y3
  obtain ⟨w4, rfl⟩ := rd_ok e4
  obtain ⟨z, m5, e5, y5⟩ := bind_ok y4
  obtain ⟨w5, rfl⟩ := opt_ok e5
  cases y5
  refine ⟨B, Λ, F, ι, m, x1, m1, rl, e1, fun v H1 F1 ι1 r1 g1 p1 h1 => ?_⟩
  refine ⟨B, Λ, F1, ι1, m1, x2, _, r1, e2, fun w H2 F2 ι2 r2 g2 p2 h2 => ?_⟩
  refine hs F2 H2 v w d d2 z Q r2.sub (r2.dat (h1.gr g2 p2) w3) (r2.dat h2 w4) w5 (want_of r2 fun v' H' F' ι' r3 g3 p3 h3 => ?_)
  exact q v' H' F' ι' r3 ((g1.trans g2).trans g3) ((p1.trans p2).trans p3) h3
theorem iOp {a b : Expr} {op : Operator} {pos : Pos} {r : L2.R2} {f : D → D → Option D} {fa fb : E Val} (ho : OpR X (binaryOp op) r) (hs : OpS g r f) (ha : PE X a (sE g fa)) (hb : PE X b (sE g fb)) : PE X (.BinOp a op b pos) (sE g (eOp f fa fb)) := (pe_op ho ha hb).via (sE_op hs)
theorem iCmp {a b : Expr} {op : CmpOp} {pos : Pos} {r : L2.R2} {f : D → D → Option D} {fa fb : E Val} (ho : OpR X (compareOp op) r) (hs : OpS g r f) (ha : PE X a (sE g fa)) (hb : PE X b (sE g fb)) (hm : behindInMarks op b = false := by rfl) : PE X (.Compare a [op] [b] pos) (sE g (eOp f fa fb)) := (pe_cmpR ho ha hb hm).via (sE_op hs)
theorem sE_un {r : V → Hp → VK → Prop} {f : D → Option D} {a : E Val} (hs : UnS g r f) : ∀ σ H Q, sE g (eUn f a) σ H Q → tUn r (sE g a) σ H Q := fun σ H Q ⟨B, Λ, F, ι, m, x, m', rl, e, q⟩ => by
  obtain ⟨x1, m1, e1, y1⟩ := bind_ok e
  obtain ⟨d, m3, e3, y2⟩ := bind_ok y1
  obtain ⟨w3, rfl⟩ := rd_ok e3
  obtain ⟨z, m5, e5, y3⟩ := bind_ok y2
  obtain ⟨w5, rfl⟩ := opt_ok e5
  cases y3
  refine ⟨B, Λ, F, ι, m, x1, _, rl, e1, fun v H1 F1 ι1 r1 g1 p1 h1 => ?_⟩
  refine hs F1 H1 v d z Q r1.sub (r1.dat h1 w3) w5 (want_of r1 fun v' H' F' ι' r3 g3 p3 h3 => ?_)
  exact q v' H' F' ι' r3 (g1.trans g3) (p1.trans p3) h3
theorem iUn {a : Expr} {op : UnaryOp} {pos : Pos} {r : V → Hp → VK → Prop} {f : D → Option D} {fa : E Val} (ho : UnR X (unaryOp op) r) (hs : UnS g r f) (ha : PE X a (sE g fa)) : PE X (.UnaryOp op a pos) (sE g (eUn f fa)) := (pe_un ho ha).via (sE_un hs)

theorem iaNil : PA X [] (sA g (eArgs [])) := pa_nil.via fun σ H Q ⟨B, Λ, F, ι, m, x, m', r, e, q⟩ => by
  cases e
  exact q [] H F ι r (Gr.refl F) (List.prefix_refl _) .nil
theorem iaCons {e : Expr} {es : List Expr} {f : E Val} {fs : List (E Val)} (h : PE X e (sE g f)) (t : PA X es (sA g (eArgs fs))) (hs : starEach (e :: es) X.env = (false, eval e X.env) :: starEach es X.env := by rfl) : PA X (e :: es) (sA g (eArgs (f :: fs))) :=
  (pa_cons h t hs).via fun σ H Q ⟨B, Λ, F, ι, m, x, m', r, e, q⟩ => by
  obtain ⟨x1, m1, e1, y1⟩ := bind_ok e
  obtain ⟨x2, m2, e2, y2⟩ := bind_ok y1
  cases y2
  refine ⟨B, Λ, F, ι, m, x1, m1, r, e1, fun v H1 F1 ι1 r1 g1 p1 h1 => ?_⟩
  refine ⟨B, Λ, F1, ι1, m1, x2, _, r1, e2, fun w H2 F2 ι2 r2 g2 p2 h2 => ?_⟩
  exact q _ H2 F2 ι2 r2 (g1.trans g2) (p1.trans p2) (.cons (h1.gr g2 p2) h2)
theorem sE_call {r : List V → Hp → VK → Prop} {f : List D → Option D} {as : E (List Val)} (hs : CallS g r f) : ∀ σ H Q, sE g (eCall f as) σ H Q → tCB r (sA g as) σ H Q := fun σ H Q ⟨B, Λ, F, ι, m, x, m', rl, e, q⟩ => by
  obtain ⟨x1, m1, e1, y1⟩ := bind_ok e
  obtain ⟨d, m3, e3, y2⟩ := bind_ok y1
  obtain ⟨z, m5, e5, y3⟩ := bind_ok y2
  obtain ⟨w5, rfl⟩ := opt_ok e5
  cases y3
  refine ⟨B, Λ, F, ι, m, x1, m1, rl, e1, fun v H1 F1 ι1 r1 g1 p1 h1 => ?_⟩
  obtain ⟨h2, rfl⟩ := rds_ok r1 h1 e3
  refine hs F1 H1 v d z Q r1.sub h2 w5 (want_of r1 fun v' H' F' ι' r3 g3 p3 h3 => ?_)
  exact q v' H' F' ι' r3 (g1.trans g3) (p1.trans p3) h3
/-- a built-in function, a built-in class, called -/
theorem iCallB {x : Str} {id : String} {e : Expr} {es : List Expr} {p pos : Pos} {r : List V → Hp → VK → Prop} {f : List D → Option D} {as : E (List Val)} (hc : CallR X (.builtin id) r) (hs : CallS g r f) (hm : X.mg x = none) (hv : bootBuiltins x = some (.builtin id)) (ha : PA X (e :: es) (sA g as)) (hg : Gl X x := by rfl) (hn : x ≠ "__name__" := by decide) (hdb : (x == ("__debug__" : Str)) = false := by decide)
    (he : starEach (e :: es) X.env = (false, eval e X.env) :: starEach es X.env := by rfl) (hpl : (backTo pos (starEach es X.env)).any (·.1) = false := by rfl) : PE X (.Call (.Name x p) (e :: es) [] pos) (sE g (eCall f as)) := (pe_callB hc hg hm hv ha hn hdb he hpl).via (sE_call hs)
theorem iCallT {x : Str} {T : String} {e : Expr} {es : List Expr} {p pos : Pos} {r : List V → Hp → VK → Prop} {f : List D → Option D} {as : E (List Val)} (hc : CallR X (.type T) r) (hs : CallS g r f) (hm : X.mg x = none) (hv : bootBuiltins x = some (.type T)) (ha : PA X (e :: es) (sA g as)) (hg : Gl X x := by rfl) (hn : x ≠ "__name__" := by decide) (hdb : (x == ("__debug__" : Str)) = false := by decide)
    (he : starEach (e :: es) X.env = (false, eval e X.env) :: starEach es X.env := by rfl) (hpl : (backTo pos (starEach es X.env)).any (·.1) = false := by rfl) : PE X (.Call (.Name x p) (e :: es) [] pos) (sE g (eCall f as)) := (pe_callTy hc hg hm hv ha hn hdb he hpl).via (sE_call hs)
theorem iTup {es : List Expr} {k : Nat} {pos : Pos} {as : E (List Val)} (ha : PA X es (sA g as)) : PE X (.Tuple es k pos) (sE g (eTup as)) := (pe_tup ha).via fun σ H Q ⟨B, Λ, F, ι, m, x, m', rl, e, q⟩ => by
  obtain ⟨x1, m1, e1, y1⟩ := bind_ok e
  obtain ⟨ds, m2, e2, y2⟩ := bind_ok y1
  refine ⟨B, Λ, F, ι, m, x1, m1, rl, e1, fun v H1 F1 ι1 r1 g1 p1 h1 => ?_⟩
  obtain ⟨F2, g2, r2, h2⟩ := r1.asDs h1 e2
  split at y2
  · rename_i hz
    cases y2
    refine ⟨by rw [h2.length]; exact sizeOk_line hz, fun p hp => ?_⟩
    obtain ⟨r3, g3⟩ := r2.alloc (o := .tup v) hp
    exact q _ _ _ ι1 r3 ((g1.trans g2).trans g3) p1 (.tup upd_same (h2.gr g3))
  · cases y2
theorem nList {es : List Expr} {pos : Pos} {as : E (List Val)} (ha : PA X es (sA g as)) : PE X (.List es pos) (sN g (nLst as)) := (pe_lst ha).via fun σ H Q ⟨B, Λ, F, ι, m, x, m', rl, e, q⟩ => by
  obtain ⟨x1, m1, e1, y1⟩ := bind_ok e
  obtain ⟨ds, m2, e2, y2⟩ := bind_ok y1
  refine ⟨B, Λ, F, ι, m, x1, m1, rl, e1, fun v H1 F1 ι1 r1 g1 p1 h1 => ?_⟩
  obtain ⟨F2, g2, r2, h2⟩ := r1.asDs h1 e2
  split at y2
  · rename_i hz
    cases y2
    refine ⟨by rw [h2.length]; exact sizeOk_line hz, fun p hp => ?_⟩
    exact q _ _ F2 ι1 _ (r2.lay hp) (g1.trans g2) p1 (.lst upd_same h2)
  · cases y2
/-- a new object, frozen -/
theorem iFz {e : Expr} {f : E D} (h : PE X e (sN g f)) : PE X e (sE g (fz f)) := h.via fun σ H Q ⟨B, Λ, F, ι, m, x, m', rl, e, q⟩ => by
  obtain ⟨d, m1, e1, y1⟩ := bind_ok e
  cases y1
  refine ⟨B, Λ, F, ι, m, d, _, rl, e1, fun p H1 F' ι' o r1 g1 p1 hr => ?_⟩
  obtain ⟨r3, g3, hv⟩ := r1.freeze hr
  exact q _ _ _ ι' r3 (g1.trans g3) p1 hv
theorem iTV {e : Expr} {a : E Val} (h : PE X e (sE g a)) (he : ∀ whole, isTrue e X.env whole = (do let v ← whole; standAt e.pos; holding [v] (truthy v)) := by intro _; rfl) : PT X e (sT g (tV a)) := (pt_val h he).via fun σ H Q ⟨B, Λ, F, ι, m, b, m', rl, e, q⟩ => by
  obtain ⟨x1, m1, e1, y1⟩ := bind_ok e
  obtain ⟨d, m2, e2, y2⟩ := bind_ok y1
  obtain ⟨w2, rfl⟩ := rd_ok e2
  obtain ⟨w3, rfl⟩ := opt_ok y2
  cases boolOf_ok w3
  refine ⟨B, Λ, F, ι, m, x1, _, rl, e1, fun v H1 F1 ι1 r1 g1 p1 h1 => ?_⟩
  cases r1.dat h1 w2
  exact ⟨_, rfl, q H1 F1 ι1 r1 g1 p1⟩
theorem sT_tB {a : E Val} : ∀ σ H Q, sT g (tV a) σ H Q → tB (sE g a) σ H Q := fun σ H Q ⟨B, Λ, F, ι, m, b, m', rl, e, q⟩ => by
  obtain ⟨x1, m1, e1, y1⟩ := bind_ok e
  obtain ⟨d, m2, e2, y2⟩ := bind_ok y1
  obtain ⟨w2, rfl⟩ := rd_ok e2
  obtain ⟨w3, rfl⟩ := opt_ok y2
  cases boolOf_ok w3
  refine ⟨B, Λ, F, ι, m, x1, _, rl, e1, fun v H1 F1 ι1 r1 g1 p1 h1 => ?_⟩
  cases r1.dat h1 w2
  exact ⟨_, rfl, q H1 F1 ι1 r1 g1 p1⟩
theorem iTCmp {a b : Expr} {op : CmpOp} {pos : Pos} {r : L2.R2} {f : D → D → Option D} {fa fb : E Val} (ho : OpR X (compareOp op) r) (hs : OpS g r f) (ha : PE X a (sE g fa)) (hb : PE X b (sE g fb)) (hm : behindInMarks op b = false := by rfl) : PT X (.Compare a [op] [b] pos) (sT g (tV (eOp f fa fb))) :=
  (pt_cmpR ho ha hb hm).via fun σ H Q ⟨B, Λ, F, ι, m, b, m', rl, e, q⟩ => by
  obtain ⟨x1, m1, e1, y1⟩ := bind_ok e
  obtain ⟨d, m2, e2, y2⟩ := bind_ok y1
  obtain ⟨w2, rfl⟩ := rd_ok e2
  obtain ⟨w3, rfl⟩ := opt_ok y2
  cases boolOf_ok w3
  refine sE_op hs σ H _ ⟨B, Λ, F, ι, m, x1, _, rl, e1, fun v H1 F1 ι1 r1 g1 p1 h1 => ?_⟩
  cases r1.dat h1 w2
  exact ⟨_, rfl, q H1 F1 ι1 r1 g1 p1⟩
theorem iTAnd {a b : Expr} {rest : List Expr} {pos : Pos} {fa fb : E Bool} (ha : PT X a (sT g fa)) (hb : PW X (.BoolOp .And (b :: rest) pos) (sT g fb)) : PW X (.BoolOp .And (a :: b :: rest) pos) (sT g (tAnd' fa fb)) := (pw_and ha hb).via fun σ H Q ⟨B, Λ, F, ι, m, b, m', rl, e, q⟩ => by
  obtain ⟨c, m1, e1, y1⟩ := bind_ok e
  refine ⟨B, Λ, F, ι, m, c, m1, rl, e1, fun H1 F1 ι1 r1 g1 p1 => ?_⟩
  cases c with
  | true => exact ⟨B, Λ, F1, ι1, m1, b, m', r1, y1, fun H2 F2 ι2 r2 g2 p2 => q H2 F2 ι2 r2 (g1.trans g2) (p1.trans p2)⟩
  | false => cases y1; exact q H1 F1 ι1 r1 g1 p1
theorem iTOr {a b : Expr} {rest : List Expr} {pos : Pos} {fa fb : E Bool} (ha : PT X a (sT g fa)) (hb : PW X (.BoolOp .Or (b :: rest) pos) (sT g fb)) : PW X (.BoolOp .Or (a :: b :: rest) pos) (sT g (tOr' fa fb)) := (pw_or ha hb).via fun σ H Q ⟨B, Λ, F, ι, m, b, m', rl, e, q⟩ => by
  obtain ⟨c, m1, e1, y1⟩ := bind_ok e
  refine ⟨B, Λ, F, ι, m, c, m1, rl, e1, fun H1 F1 ι1 r1 g1 p1 => ?_⟩
  cases c with
  | false => exact ⟨B, Λ, F1, ι1, m1, b, m', r1, y1, fun H2 F2 ι2 r2 g2 p2 => q H2 F2 ι2 r2 (g1.trans g2) (p1.trans p2)⟩
  | true => cases y1; exact q H1 F1 ι1 r1 g1 p1
theorem iTNot {a : Expr} {pos : Pos} {fa : E Bool} (ha : PT X a (sT g fa)) : PT X (.UnaryOp .Not a pos) (sT g (tNot' fa)) := (pt_not ha).via fun σ H Q ⟨B, Λ, F, ι, m, b, m', rl, e, q⟩ => by
  obtain ⟨c, m1, e1, y1⟩ := bind_ok e
  cases y1
  exact ⟨B, Λ, F, ι, m, c, _, rl, e1, fun H1 F1 ι1 r1 g1 p1 => q H1 F1 ι1 r1 g1 p1⟩
theorem iAnd {a b : Expr} {rest : List Expr} {pos : Pos} {fa fb : E Val} (ha : PE X a (sE g fa)) (hb : PE X (.BoolOp .And (b :: rest) pos) (sE g fb)) : PE X (.BoolOp .And (a :: b :: rest) pos) (sE g (eAnd fa fb)) := (pe_and ha hb).via fun σ H Q ⟨B, Λ, F, ι, m, b, m', rl, e, q⟩ => by
  obtain ⟨c, m1, e1, y1⟩ := bind_ok e
  refine sT_tB σ H _ ⟨B, Λ, F, ι, m, c, m1, rl, e1, fun H1 F1 ι1 r1 g1 p1 => ?_⟩
  cases c with
  | true => exact ⟨B, Λ, F1, ι1, m1, b, m', r1, y1, fun v H2 F2 ι2 r2 g2 p2 h => q v H2 F2 ι2 r2 (g1.trans g2) (p1.trans p2) h⟩
  | false => cases y1; exact q _ H1 F1 ι1 r1 g1 p1 (.bl false)
theorem iOr {a b : Expr} {rest : List Expr} {pos : Pos} {fa fb : E Val} (ha : PE X a (sE g fa)) (hb : PE X (.BoolOp .Or (b :: rest) pos) (sE g fb)) : PE X (.BoolOp .Or (a :: b :: rest) pos) (sE g (eOr fa fb)) := (pe_or ha hb).via fun σ H Q ⟨B, Λ, F, ι, m, b, m', rl, e, q⟩ => by
  obtain ⟨c, m1, e1, y1⟩ := bind_ok e
  refine sT_tB σ H _ ⟨B, Λ, F, ι, m, c, m1, rl, e1, fun H1 F1 ι1 r1 g1 p1 => ?_⟩
  cases c with
  | false => exact ⟨B, Λ, F1, ι1, m1, b, m', r1, y1, fun v H2 F2 ι2 r2 g2 p2 h => q v H2 F2 ι2 r2 (g1.trans g2) (p1.trans p2) h⟩
  | true => cases y1; exact q _ H1 F1 ι1 r1 g1 p1 (.bl true)
theorem iNot {a : Expr} {pos : Pos} {fa : E Val} (ha : PE X a (sE g fa)) : PE X (.UnaryOp .Not a pos) (sE g (eNot fa)) := (pe_not ha).via fun σ H Q ⟨B, Λ, F, ι, m, b, m', rl, e, q⟩ => by
  obtain ⟨c, m1, e1, y1⟩ := bind_ok e
  cases y1
  exact sT_tB σ H _ ⟨B, Λ, F, ι, m, c, _, rl, e1, fun H1 F1 ι1 r1 g1 p1 => q _ H1 F1 ι1 r1 g1 p1 (.bl _)⟩
theorem iIfE {c a b : Expr} {pos : Pos} {fc : E Bool} {fa fb : E Val} (hc : PT X c (sT g fc)) (ha : PE X a (sE g fa)) (hb : PE X b (sE g fb)) : PE X (.IfExp c a b pos) (sE g (eIf fc fa fb)) := (pe_ifExp hc ha hb).via fun σ H Q ⟨B, Λ, F, ι, m, b, m', rl, e, q⟩ => by
  obtain ⟨c, m1, e1, y1⟩ := bind_ok e
  refine ⟨B, Λ, F, ι, m, c, m1, rl, e1, fun H1 F1 ι1 r1 g1 p1 => ?_⟩
  cases c with
  | true => exact ⟨B, Λ, F1, ι1, m1, b, m', r1, y1, fun v H2 F2 ι2 r2 g2 p2 h => q v H2 F2 ι2 r2 (g1.trans g2) (p1.trans p2) h⟩
  | false => exact ⟨B, Λ, F1, ι1, m1, b, m', r1, y1, fun v H2 F2 ι2 r2 g2 p2 h => q v H2 F2 ι2 r2 (g1.trans g2) (p1.trans p2) h⟩
end
end MF
set_option Elab.async false
set_option linter.all false
set_option maxRecDepth 100000
set_option maxHeartbeats 4000000
namespace MF
open PySem L2

/-! # stores -/
def Arg.loc : Arg → Loc
  | .t d => .t d
  | .s n => .s n
def putS (n : Nat) (d : D) : E Unit := fun m => if n < m.S.length then .ok () ⟨m.ρ, m.S.set n d⟩ else .no
def putD (x : Val) (d : D) : E Unit := fun m => match x with
  | .s n => putS n d m
  | .o i => match m.ρ[i]? with
    | some (.own _) => .ok () ⟨m.ρ.set i (.own d), m.S⟩
    | some (.s n) => putS n d m
    | _ => .no
  | .t _ => .no
section
variable {g : Gb} {B : Bs} {Λ : Lks} {σ : L2.St} {H F F' U : Hp} {ι ι' : List Addr} {m m' : M} {ρ : List Loc} {S : List D} {v : V} {x : Val} {d d' : D} {a p : Addr} {o o' : HO}
theorem get_set {α : Type} {l : List α} {i j : Nat} {x y : α} (h : (l.set i x)[j]? = some y) : (i = j ∧ y = x) ∨ (i ≠ j ∧ l[j]? = some y) := by
  by_cases q : i = j
  · subst q
    by_cases hl : i < l.length
    · rw [List.getElem?_set_self hl] at h; cases h; exact .inl ⟨rfl, rfl⟩
    · rw [List.getElem?_eq_none (by rw [List.length_set]; omega)] at h; cases h
  · rw [List.getElem?_set_ne q] at h; exact .inr ⟨q, h⟩
/-- a slot is stored -/
theorem Rp.slot (q : Rp g B σ U F ι ρ S) {i : Nat} {l : Loc} (hi : i < ρ.length) (hl : RLoc g B F U ι (some (some v)) l) (ha : ∀ d (j : Nat) e, l = .own d → i ≠ j → ρ[j]? = some (.own e) → σ[j]? ≠ some (some v)) : Rp g B (σ.set i (some v)) U F ι (ρ.set i l) S := by
  have hs : i < σ.length := by rw [← q.ln]; exact hi
  refine ⟨q.sub, q.old, q.new, q.grF, q.pre, q.iF, q.nd, q.sl, q.st, by rw [List.length_set, List.length_set]; exact q.ln, fun j l2 h => ?_, fun j k d e hjk h1 h2 => ?_⟩
  · rcases get_set h with ⟨rfl, rfl⟩ | ⟨z, h⟩
    · rw [List.getElem?_set_self hs]; exact hl
    · rw [List.getElem?_set_ne z]; exact q.loc j l2 h
  · rcases get_set h1 with ⟨rfl, e1⟩ | ⟨z, h1⟩
    · rcases get_set h2 with ⟨rfl, e2⟩ | ⟨z2, h2⟩
      · exact absurd rfl hjk
      · rw [List.getElem?_set_self hs, List.getElem?_set_ne z2]
        exact fun w => ha d k e e1.symm hjk h2 w.symm
    · rcases get_set h2 with ⟨rfl, e2⟩ | ⟨z2, h2⟩
      · rw [List.getElem?_set_self hs, List.getElem?_set_ne z]
        exact fun w => ha e j d e2.symm (Ne.symm hjk) h1 w
      · rw [List.getElem?_set_ne z, List.getElem?_set_ne z2]
        exact q.ap j k d e hjk h1 h2
theorem Rel.setA (r : Rel g B Λ σ H F ι m) {i : Nat} {b : Arg} (hi : i < m.ρ.length) (h : RArg g F ι v b) : Rel g B Λ (σ.set i (some v)) H F ι ⟨m.ρ.set i b.loc, m.S⟩ := by
  obtain ⟨U, l, q⟩ := r.ex
  refine ⟨U, l, q.slot hi ?_ ?_⟩
  · cases b with
    | t d => exact ⟨v, rfl, h⟩
    | s n => obtain ⟨a, rfl, e⟩ := h; exact ⟨a, rfl, e⟩
  · intro d j e z
    cases b <;> cases z
theorem Pin.setOwn (r : Pin g B Λ σ H F ι m p o) (h : RO g F H p d) {i : Nat} (hi : i < m.ρ.length) : Rel g B Λ (σ.set i (some (.ref p))) H F ι ⟨m.ρ.set i (.own d), m.S⟩ := by
  obtain ⟨hF, hn, hH⟩ := r.facts
  have hB := r.bH
  have nown : ∀ (i : Nat) d b, m.ρ[i]? = some (.own d) → σ[i]? = some (some (V.ref b)) → b ≠ p := fun i d b e1 e2 z => by
    obtain ⟨U, l, q⟩ := r.rel.ex
    obtain ⟨b', e, k1, k2, k3, k4⟩ := q.loc i _ e1
    rw [e2] at e; cases e
    subst z
    rw [show (B.pin b o).H b = some o from upd_same] at k3; cases k3
  obtain ⟨U, l, q⟩ := r.drop.ex
  exact ⟨U, l, q.slot hi ⟨p, rfl, hF, hn, hB, h.keep (Gr.refl F) fun u e => by rw [← l.un hF]; exact e⟩ fun d j e _ _ h1 h2 => nown j e p h1 h2 rfl⟩
/-- the object becomes an entry of the store -/
theorem Pin.share (r : Pin g B Λ σ H F ι m p o) (h : RO g F H p d) : Rel g B Λ σ H F (ι ++ [p]) ⟨m.ρ, m.S ++ [d]⟩ := by
  obtain ⟨hF, hn, hH⟩ := r.facts
  have hB := r.bH
  have nown : ∀ (i : Nat) d b, m.ρ[i]? = some (.own d) → σ[i]? = some (some (V.ref b)) → b ≠ p := fun i d b e1 e2 z => by
    obtain ⟨U, l, q⟩ := r.rel.ex
    obtain ⟨b', e, k1, k2, k3, k4⟩ := q.loc i _ e1
    rw [e2] at e; cases e
    subst z
    rw [show (B.pin b o).H b = some o from upd_same] at k3; cases k3
  obtain ⟨U, l, q⟩ := r.drop.ex
  have hro := h.keep (Gr.refl F) (H' := U) fun u e => by rw [← l.un hF]; exact e
  refine ⟨U, l, q.sub, q.old, q.new, q.grF, q.pre.trans (List.prefix_append _ _), fun b hb => ?_, ?_, by rw [List.length_append, List.length_append, q.sl]; rfl, fun n b e h1 h2 => ?_, q.ln, fun i l hl => ?_, q.ap⟩
  · rcases List.mem_append.mp hb with z | z
    · exact q.iF b z
    · rw [List.mem_singleton] at z; subst z; exact ⟨hF, .inr hB⟩
  · rw [List.nodup_append]
    refine ⟨q.nd, by simp, fun b hb c hc => ?_⟩
    rw [List.mem_singleton] at hc; subst hc
    exact fun z => hn (z ▸ hb)
  · by_cases hl : n < ι.length
    · rw [List.getElem?_append_left hl] at h1
      rw [List.getElem?_append_left (by rw [q.sl]; exact hl)] at h2
      exact q.st n b e h1 h2
    · rw [List.getElem?_append_right (by omega)] at h1
      rw [List.getElem?_append_right (by rw [q.sl]; omega), q.sl] at h2
      cases k : n - ι.length with
      | zero => rw [k] at h1 h2; cases h1; cases h2; exact hro
      | succ k' => rw [k] at h1; simp at h1
  · cases l with
    | un => exact True.intro
    | t d => exact q.loc i _ hl
    | s n => obtain ⟨a, e, k⟩ := q.loc i _ hl; exact ⟨a, e, get_pre (List.prefix_append _ _) k⟩
    | own d =>
      obtain ⟨b, e, k1, k2, k3, k4⟩ := q.loc i _ hl
      refine ⟨b, e, k1, fun z => ?_, k3, k4⟩
      rcases List.mem_append.mp z with z | z
      · exact k2 z
      · rw [List.mem_singleton] at z; exact nown i d b hl e z
theorem nd_get {l : List Addr} (h : l.Nodup) {i j : Nat} {x : Addr} (h1 : l[i]? = some x) (h2 : l[j]? = some x) : i = j := by
  obtain ⟨a1, e1⟩ := List.getElem?_eq_some_iff.mp h1
  obtain ⟨a2, e2⟩ := List.getElem?_eq_some_iff.mp h2
  have hp := List.pairwise_iff_getElem.mp h
  rcases Nat.lt_trichotomy i j with z | z | z
  · exact absurd (e1.trans e2.symm) (hp i j a1 a2 z)
  · exact z
  · exact absurd (e2.trans e1.symm) (hp j i a2 a1 z)
theorem mutS (r : Rel g B Λ σ H F ι m) {n : Nat} (hn : ι[n]? = some a) (e : m.S[n]? = some d) (hp : putS n d' m = .ok () m') : RO g F H a d ∧ ∀ o', RO g F (upd H a o') a d' → Rel g B Λ σ (upd H a o') F ι m' := by
  obtain ⟨U, l, q⟩ := r.ex
  have ro := q.st n a d hn e
  have hm := List.mem_of_getElem? hn
  have hF := (q.iF a hm).1
  refine ⟨ro.keep (Gr.refl F) fun u z => by rw [l.un hF]; exact z, fun o' h' => ?_⟩
  unfold putS at hp
  split at hp
  · rename_i hl
    cases hp
    have ro' : RO g F (upd U a o') a d' := h'.keep (Gr.refl F) fun u z => by rw [upd_same] at z ⊢; exact z
    refine ⟨upd U a o', l.upd (Gr.refl F) (l.ne (.inr hF)), fun b u z => ?_, fun b u z hb => ?_, q.new, q.grF, q.pre, q.iF, q.nd, by rw [List.length_set]; exact q.sl, fun k b e' h1 h2 => ?_, q.ln, fun i l' hl' => ?_, q.ap⟩
    · rw [upd_ne (ne_of_none z hF)]; exact q.sub b u z
    · have nb : b ≠ a := fun w => by
        subst w
        rcases (q.iF b hm).2 with w | w
        · exact hb w
        · rw [w] at z; cases z
      rw [upd_ne nb]; exact q.old b u z hb
    · rcases get_set h2 with ⟨rfl, rfl⟩ | ⟨z, h2⟩
      · rw [hn] at h1; cases h1; exact ro'
      · have nb : b ≠ a := fun w => z (nd_get q.nd hn (w ▸ h1))
        exact (q.st k b e' h1 h2).keep (Gr.refl F) fun u w => by rw [upd_ne nb]; exact w
    · refine (q.loc i l' hl').keep (Gr.refl F) (List.prefix_refl _) fun b d2 _ _ k1 k2 => ⟨fun u w => ?_, k1, k2⟩
      have nb : b ≠ a := fun w => k2 (w ▸ hm)
      rw [upd_ne nb]; exact w
  · cases hp
theorem mutO (r : Rel g B Λ σ H F ι m) {i : Nat} {e : D} (hi : m.ρ[i]? = some (.own e)) (hs : σ[i]? = some (some v)) : ∃ a, v = .ref a ∧ RO g F H a e ∧ ∀ d' o', RO g F (upd H a o') a d' → Rel g B Λ σ (upd H a o') F ι ⟨m.ρ.set i (.own d'), m.S⟩ := by
  obtain ⟨U, l, q⟩ := r.ex
  obtain ⟨a, e1, k1, k2, k3, k4⟩ := q.loc i _ hi
  rw [hs] at e1; cases e1
  refine ⟨a, rfl, k4.keep (Gr.refl F) fun u z => by rw [l.un k1]; exact z, fun d' o' h' => ?_⟩
  have ro' : RO g F (upd U a o') a d' := h'.keep (Gr.refl F) fun u z => by rw [upd_same] at z ⊢; exact z
  have hlen : i < m.ρ.length := (List.getElem?_eq_some_iff.mp hi).1
  refine ⟨upd U a o', l.upd (Gr.refl F) (l.ne (.inr k1)), fun b u z => ?_, fun b u z hb => ?_, q.new, q.grF, q.pre, q.iF, q.nd, q.sl, fun k b e' h1 h2 => ?_, by rw [List.length_set]; exact q.ln, fun j l' hl' => ?_, fun j k d1 d2 hjk h1 h2 => ?_⟩
  · rw [upd_ne (ne_of_none z k1)]; exact q.sub b u z
  · have nb : b ≠ a := fun w => by subst w; rw [k3] at z; cases z
    rw [upd_ne nb]; exact q.old b u z hb
  · have nb : b ≠ a := fun w => k2 (w ▸ List.mem_of_getElem? h1)
    exact (q.st k b e' h1 h2).keep (Gr.refl F) fun u w => by rw [upd_ne nb]; exact w
  · rcases get_set hl' with ⟨rfl, rfl⟩ | ⟨z, hl'⟩
    · exact ⟨a, hs, k1, k2, k3, ro'⟩
    · refine (q.loc j l' hl').keep (Gr.refl F) (List.prefix_refl _) fun b d2 e2 e3 w1 w2 => ⟨fun u w => ?_, w1, w2⟩
      subst e2
      have nb : b ≠ a := fun w => q.ap i j e d2 z hi hl' (by rw [hs, e3, w])
      rw [upd_ne nb]; exact w
  · have own : ∀ {j : Nat} {d}, (m.ρ.set i (.own d'))[j]? = some (.own d) → ∃ e, m.ρ[j]? = some (.own e) := fun {j d} h => by
      rcases get_set h with ⟨rfl, _⟩ | ⟨_, h⟩
      · exact ⟨e, hi⟩
      · exact ⟨_, h⟩
    obtain ⟨x1, y1⟩ := own h1
    obtain ⟨x2, y2⟩ := own h2
    exact q.ap j k x1 x2 hjk y1 y2
theorem Rel.mut (r : Rel g B Λ σ H F ι m) (h : RVal g F ι σ v x) (e : MF.dat x m = some d) (hp : putD x d' m = .ok () m') : ∃ a, v = .ref a ∧ RO g F H a d ∧ ∀ o', RO g F (upd H a o') a d' → Rel g B Λ σ (upd H a o') F ι m' := by
  cases x with
  | t d => cases hp
  | s n =>
    obtain ⟨a, rfl, hn⟩ := h
    exact ⟨a, rfl, mutS r hn e hp⟩
  | o i =>
    have h : σ[i]? = some (some v) := h
    unfold putD at hp
    unfold MF.dat at e
    simp only at hp e
    cases q : m.ρ[i]? with
    | none => rw [q] at hp; cases hp
    | some l =>
      rw [q] at hp e
      cases l with
      | un => cases hp
      | t d => cases hp
      | s n =>
        obtain ⟨U, l, q'⟩ := r.ex
        obtain ⟨a, e1, k⟩ := q'.loc i _ q
        rw [h] at e1; cases e1
        exact ⟨a, rfl, mutS r k e hp⟩
      | own d2 =>
        cases e
        cases hp
        obtain ⟨a, e1, k1, k2⟩ := mutO r q h
        exact ⟨a, e1, k1, k2 d'⟩
end

/-! # statements -/
def sSkip : E Ctl := .ret .nx
def sSeq (a b : E Ctl) : E Ctl := a.bind fun c => match c with
  | .nx => b
  | c => .ret c
def sIf (c : E Bool) (a b : E Ctl) : E Ctl := c.bind fun b' => if b' then a else b
def sRet (e : E Val) : E Ctl := e.bind fun x => (arg x).bind fun a => .ret (.rt a)
def sRetN : E Ctl := .ret (.rt (.t .non))
def sExpr (e : E Val) : E Ctl := e.bind fun _ => .ret .nx
def sAsg (e : E Val) (t : Arg → E Unit) : E Ctl := e.bind fun x => (arg x).bind fun a => (t a).bind fun _ => .ret .nx
def tgN (i : Nat) : Arg → E Unit := fun a m => if i < m.ρ.length then .ok () ⟨m.ρ.set i a.loc, m.S⟩ else .no
def setOwn (i : Nat) (f : E D) : E Ctl := f.bind fun d m => if i < m.ρ.length then .ok .nx ⟨m.ρ.set i (.own d), m.S⟩ else .no
def setSh (i : Nat) (f : E D) : E Ctl := f.bind fun d m => if i < m.ρ.length then .ok .nx ⟨m.ρ.set i (.s m.S.length), m.S ++ [d]⟩ else .no
section
variable {X : Cx} {g : Gb} {B : Bs} {Λ : Lks} {σ : L2.St} {H F : Hp} {ι : List Addr} {m : M}
theorem after_mono {D : Ends} {F F1 : Hp} {ι ι1 : List Addr} {c : Ctl} {m' : M} (h : After g D B Λ F ι c m') (g1 : Gr F F1) (p1 : ι <+: ι1) : After g D B Λ F1 ι1 c m' := fun σ' H' F' ι' r g2 p2 => h σ' H' F' ι' r (g1.trans g2) (p1.trans p2)
theorem isNil : PSs X [] (sS g sSkip) := pss_nil.via fun D σ H ⟨B, Λ, F, ι, m, c, m', r, e, q⟩ => by
  cases e
  exact q σ H F ι r (Gr.refl F) (List.prefix_refl _)
theorem isCons {st : Stmt} {rest : List Stmt} {a b : E Ctl} (h1 : PS X st (sS g a)) (h2 : PSs X rest (sS g b)) : PSs X (st :: rest) (sS g (sSeq a b)) := (pss_cons h1 h2).via fun D σ H ⟨B, Λ, F, ι, m, c, m', r, e, q⟩ => by
  obtain ⟨c1, m1, e1, y1⟩ := bind_ok e
  refine ⟨B, Λ, F, ι, m, c1, m1, r, e1, fun σ1 H1 F1 ι1 r1 g1 p1 => ?_⟩
  cases c1 with
  | nx => exact ⟨B, Λ, F1, ι1, m1, c, m', r1, y1, after_mono q g1 p1⟩
  | bk => cases y1; exact q σ1 H1 F1 ι1 r1 g1 p1
  | ct => cases y1; exact q σ1 H1 F1 ι1 r1 g1 p1
  | rt a => cases y1; exact q σ1 H1 F1 ι1 r1 g1 p1
theorem isOne {st : Stmt} {a : E Ctl} (h1 : PS X st (sS g a)) : PSs X [st] (sS g a) := pss_one h1
theorem iPass {pos : Pos} : PS X (.Pass pos) (sS g sSkip) := ps_pass.via fun D σ H ⟨B, Λ, F, ι, m, c, m', r, e, q⟩ => by
  cases e
  exact q σ H F ι r (Gr.refl F) (List.prefix_refl _)
theorem iBreak {pos : Pos} : PS X (.Break pos) (sS g (.ret .bk)) := ps_break.via fun D σ H ⟨B, Λ, F, ι, m, c, m', r, e, q⟩ => by
  cases e
  exact q σ H F ι r (Gr.refl F) (List.prefix_refl _)
theorem iCont {pos : Pos} : PS X (.Continue pos) (sS g (.ret .ct)) := ps_continue.via fun D σ H ⟨B, Λ, F, ι, m, c, m', r, e, q⟩ => by
  cases e
  exact q σ H F ι r (Gr.refl F) (List.prefix_refl _)
theorem iIf {c : Expr} {a b : List Stmt} {pos : Pos} {fc : E Bool} {fa fb : E Ctl} (hc : PT X c (sT g fc)) (ha : PSs X a (sS g fa)) (hb : PSs X b (sS g fb)) : PS X (.If c a b pos) (sS g (sIf fc fa fb)) := (ps_if hc ha hb).via fun D σ H ⟨B, Λ, F, ι, m, c, m', r, e, q⟩ => by
  obtain ⟨c1, m1, e1, y1⟩ := bind_ok e
  refine ⟨B, Λ, F, ι, m, c1, m1, r, e1, fun H1 F1 ι1 r1 g1 p1 => ?_⟩
  cases c1 with
  | true => exact ⟨B, Λ, F1, ι1, m1, c, m', r1, y1, after_mono q g1 p1⟩
  | false => exact ⟨B, Λ, F1, ι1, m1, c, m', r1, y1, after_mono q g1 p1⟩
theorem iRet {e : Expr} {pos : Pos} {f : E Val} (h : PE X e (sE g f)) : PS X (.Return (some e) pos) (sS g (sRet f)) := (ps_ret h).via fun D σ H ⟨B, Λ, F, ι, m, c, m', r, e, q⟩ => by
  obtain ⟨x1, m1, e1, y1⟩ := bind_ok e
  obtain ⟨a, m2, e2, y2⟩ := bind_ok y1
  cases y2
  refine ⟨B, Λ, F, ι, m, x1, m1, r, e1, fun v H1 F1 ι1 r1 g1 p1 h1 => ?_⟩
  obtain ⟨F2, g2, r2, h2⟩ := r1.arg h1 e2
  exact q σ H1 F2 ι1 r2 (g1.trans g2) p1 v h2
theorem iRetN {pos : Pos} : PS X (.Return none pos) (sS g sRetN) := ps_retN.via fun D σ H ⟨B, Λ, F, ι, m, c, m', r, e, q⟩ => by
  cases e
  exact q σ H F ι r (Gr.refl F) (List.prefix_refl _) _ .non
theorem iExpr {e : Expr} {pos : Pos} {f : E Val} (h : PE X e (sE g f)) (hs : swapsWith e none pos.line X.env = pure false := by rfl) : PS X (.Expr e pos) (sS g (sExpr f)) := (ps_expr h hs).via fun D σ H ⟨B, Λ, F, ι, m, c, m', r, e, q⟩ => by
  obtain ⟨x1, m1, e1, y1⟩ := bind_ok e
  cases y1
  exact ⟨B, Λ, F, ι, m, x1, _, r, e1, fun v H1 F1 ι1 r1 g1 p1 h1 => q σ H1 F1 ι1 r1 g1 p1⟩
theorem iDoc {x : Str} {j : Nat} {p pos : Pos} : PS X (.Expr (.Constant (.str x) j p) pos) (sS g sSkip) := ps_doc.via fun D σ H ⟨B, Λ, F, ι, m, c, m', r, e, q⟩ => by
  cases e
  exact q σ H F ι r (Gr.refl F) (List.prefix_refl _)
theorem sS_asg {f : E Val} {ws : List Nat} {t : Arg → E Unit} : ∀ D σ H, sS g (sAsg f t) D σ H → tAsg (sE g f) (sG g ws t) D σ H := fun D σ H ⟨B, Λ, F, ι, m, c, m', r, e, q⟩ => by
  obtain ⟨x1, m1, e1, y1⟩ := bind_ok e
  obtain ⟨a, m2, e2, y2⟩ := bind_ok y1
  obtain ⟨u, m3, e3, y3⟩ := bind_ok y2
  cases y3
  refine ⟨B, Λ, F, ι, m, x1, m1, r, e1, fun v H1 F1 ι1 r1 g1 p1 h1 => ?_⟩
  obtain ⟨F2, g2, r2, h2⟩ := r1.arg h1 e2
  exact ⟨B, Λ, F2, ι1, m2, a, _, r2, h2, e3, fun σ' H' F' ι' r3 g3 p3 _ => q σ' H' F' ι' r3 ((g1.trans g2).trans g3) (p1.trans p3)⟩
theorem iAsg {tg e : Expr} {pos : Pos} {f : E Val} {ws : List Nat} {t : Arg → E Unit} (h : PE X e (sE g f)) (ht : PG X tg (sG g ws t)) (hs : swapsWithSole [tg] e pos.line X.env = pure false := by rfl) (hw : swappedStores [tg] e X.env = pure none := by rfl)
    (h1 : (assignEach [tg] X.env).map (·.2) = [assign tg X.env] := by rfl) : PS X (.Assign [tg] e pos) (sS g (sAsg f t)) := (ps_asg h ht hs hw h1).via sS_asg
theorem sG_name {i : Nat} : ∀ v σ H Q, sG g [i] (tgN i) v σ H Q → gName i v σ H Q := fun v σ H Q ⟨B, Λ, F, ι, m, a, m', r, h, e, q⟩ => by
  unfold tgN at e
  split at e
  · rename_i hi
    cases e
    exact q _ H F ι (r.setA hi h) (Gr.refl F) (List.prefix_refl _) ⟨List.length_set .., fun j hj => List.getElem?_set_ne (fun z => hj (by rw [z]; exact List.mem_singleton.mpr rfl))⟩
  · cases e
theorem igName {x : Str} {pos : Pos} (i : Nat) (hN : X.N.Nodup) (hi : X.N[i]? = some x := by rfl) (hx : L2.Loc X.env.scope x := by first | exact .inl rfl | exact .inr rfl) (hf : X.fn x = true ∨ X.env.scope.names.lookup x = some .local := by first | exact .inl rfl | exact .inr rfl) : PG X (.Name x pos) (sG g [i] (tgN i)) :=
  (pg_name hN hi hx hf).via sG_name
theorem iSet {x : Str} {e : Expr} {pos' pos : Pos} {f : E Val} (i : Nat) (h : PE X e (sE g f)) (hN : X.N.Nodup) (hi : X.N[i]? = some x := by rfl) (hx : L2.Loc X.env.scope x := by first | exact .inl rfl | exact .inr rfl) (hs : swapsWith e (some (.Name x pos')) pos.line X.env = pure false := by rfl)
    (hf : X.fn x = true ∨ X.env.scope.names.lookup x = some .local := by first | exact .inl rfl | exact .inr rfl) : PS X (.Assign [.Name x pos'] e pos) (sS g (sAsg f (tgN i))) :=
  (ps_set hN hi hx h hs hf).via fun D σ H k => by
    obtain ⟨B, Λ, F, ι, m, x1, m1, r, e1, k1⟩ := sS_asg (ws := [i]) D σ H k
    exact ⟨B, Λ, F, ι, m, x1, m1, r, e1, fun v H1 F1 ι1 r1 g1 p1 h1 => sG_name v σ H1 _ (k1 v H1 F1 ι1 r1 g1 p1 h1)⟩
theorem sS_own {i : Nat} {f : E D} : ∀ D σ H, sS g (setOwn i f) D σ H → tAsg (sN g f) (gName i) D σ H := fun D σ H ⟨B, Λ, F, ι, m, c, m', r, e, q⟩ => by
  obtain ⟨d, m1, e1, y1⟩ := bind_ok e
  refine ⟨B, Λ, F, ι, m, d, m1, r, e1, fun p H1 F1 ι1 o r1 g1 p1 h1 => ?_⟩
  split at y1
  · rename_i hi
    cases y1
    exact q _ H1 F1 ι1 (r1.setOwn h1 hi) g1 p1
  · cases y1
theorem sS_sh {i : Nat} {f : E D} : ∀ D σ H, sS g (setSh i f) D σ H → tAsg (sN g f) (gName i) D σ H := fun D σ H ⟨B, Λ, F, ι, m, c, m', r, e, q⟩ => by
  obtain ⟨d, m1, e1, y1⟩ := bind_ok e
  refine ⟨B, Λ, F, ι, m, d, m1, r, e1, fun p H1 F1 ι1 o r1 g1 p1 h1 => ?_⟩
  split at y1
  · rename_i hi
    cases y1
    have r2 := r1.share h1
    have hl : m1.S.length = ι1.length := by obtain ⟨U, l, k⟩ := r1.drop.ex; exact k.sl
    have hn : (ι1 ++ [p])[m1.S.length]? = some p := by rw [hl, List.getElem?_append_right (Nat.le_refl _), Nat.sub_self]; rfl
    exact q _ H1 F1 _ (r2.setA (b := .s m1.S.length) hi ⟨p, rfl, hn⟩) g1 (p1.trans (List.prefix_append _ _))
  · cases y1
/-- name = a new object, which stays the def's own | an entry of the store -/
theorem iOwn {x : Str} {e : Expr} {pos' pos : Pos} {f : E D} (i : Nat) (h : PE X e (sN g f)) (hN : X.N.Nodup) (hi : X.N[i]? = some x := by rfl) (hx : L2.Loc X.env.scope x := by first | exact .inl rfl | exact .inr rfl) (hs : swapsWith e (some (.Name x pos')) pos.line X.env = pure false := by rfl)
    (hf : X.fn x = true ∨ X.env.scope.names.lookup x = some .local := by first | exact .inl rfl | exact .inr rfl) : PS X (.Assign [.Name x pos'] e pos) (sS g (setOwn i f)) := (ps_set hN hi hx h hs hf).via sS_own
theorem iSh {x : Str} {e : Expr} {pos' pos : Pos} {f : E D} (i : Nat) (h : PE X e (sN g f)) (hN : X.N.Nodup) (hi : X.N[i]? = some x := by rfl) (hx : L2.Loc X.env.scope x := by first | exact .inl rfl | exact .inr rfl) (hs : swapsWith e (some (.Name x pos')) pos.line X.env = pure false := by rfl)
    (hf : X.fn x = true ∨ X.env.scope.names.lookup x = some .local := by first | exact .inl rfl | exact .inr rfl) : PS X (.Assign [.Name x pos'] e pos) (sS g (setSh i f)) := (ps_set hN hi hx h hs hf).via sS_sh
end
end MF
set_option Elab.async false
set_option linter.all false
set_option maxRecDepth 100000
set_option maxHeartbeats 4000000
namespace MF
open PySem L2

/-! # what is walked -/
def Gives (g : Gb) (F : Hp) (Λ : Lks) (J : It) (items : List D) : Prop := ∀ (i : Nat) H F', Gr F F' → Sub F' H → (∀ p ∈ Λ, H p.1 = some (.frz p.2.1 p.2.2)) →
  (items.length ≤ i → J.stop i H) ∧ ∀ d, items[i]? = some d → J.go i H ∧ ∀ x H', J.yld i H x H' → (H' = H ∧ RV g F' x d) ∨ (∃ p o, H p = none ∧ H' = upd H p o ∧ x = .ref p ∧ RV g (upd F' p o) x d) ∨ H' = H ∧ ∃ a, ∃ ks : List Key, x = .ref a ∧ H a = some (.tup (ks.map kV)) ∧ d = .tup (ks.map kD)
def sI (g : Gb) (f : E (List D)) : TI := fun σ H R => ∃ B Λ F ι m items m', Rel g B Λ σ H F ι m ∧ f m = .ok items m' ∧ ∀ J H' F' ι', Rel g B Λ σ H' F' ι' m' → Gr F F' → ι <+: ι' → Gives g F' Λ J items → R J H'
theorem Rel.locks {g : Gb} {B : Bs} {Λ : Lks} {σ : L2.St} {H F : Hp} {ι : List Addr} {m : M} (r : Rel g B Λ σ H F ι m) : ∀ p ∈ Λ, H p.1 = some (.frz p.2.1 p.2.2) := fun p hp => let ⟨_, l, _⟩ := r.ex; (l.at_ p hp).2.2
def chars (x : Str) : List D := x.cps.toList.map fun c => .str ⟨#[c]⟩
def itemsOf : D → Option (List D)
  | .lst ds => some ds
  | .tup ds => some ds
  | .ktup ds => some ds
  | .scr ns => some (ns.map .int)
  | .str x => some (chars x)
  | _ => none
def iSeq (f : E Val) : E (List D) := f.bind fun x => (asD x).bind fun d => .opt (itemsOf d)
def intD : D → Option Int
  | .int i => some i
  | _ => none
def rngOk (i : Int) : Bool := decide (-(2 ^ 62) ≤ i ∧ i < 2 ^ 62)
def rangeD (lo : Int) (n : Nat) : List D := (List.range n).map fun (i : Nat) => D.int (lo + (i : Int))
def rangeOf1 : List D → Option (List D)
  | [.int n] => if rngOk n then some (rangeD 0 n.toNat) else none
  | _ => none
def rangeOf2 : List D → Option (List D)
  | [.int lo, .int hi] => if rngOk lo && rngOk hi then some (rangeD lo (hi - lo).toNat) else none
  | _ => none
def iRange1 (as : E (List Val)) : E (List D) := as.bind fun xs => (rds xs).bind fun ds => .opt (rangeOf1 ds)
def iRange2 (as : E (List Val)) : E (List D) := as.bind fun xs => (rds xs).bind fun ds => .opt (rangeOf2 ds)
theorem intD_ok {d : D} {i : Int} (h : intD d = some i) : d = .int i := by
  cases d <;> first | (cases h; done) | (cases h; rfl)
section
variable {X : Cx} {g : Gb} {B : Bs} {Λ : Lks} {σ : L2.St} {H F : Hp} {ι : List Addr} {m : M}
theorem gives_list {a : Addr} {ds : List D} {vs : List V} (hl : F a = some (.lst vs)) (hr : RVs g F vs ds) : Gives g F Λ (Itl g.K a) ds := fun i H F' gr sb _ => by
  have hH : H a = some (.lst vs) := sb.at (gr a _ hl) id
  have sq : SqL g.K H a vs := .inl (.inl hH)
  refine ⟨fun h => ⟨vs, sq, by rw [hr.length]; exact h⟩, fun d hd => ?_⟩
  obtain ⟨v, hv, hd'⟩ := hr.get hd
  exact ⟨⟨vs, v, sq, hv⟩, fun x H' ⟨e, y⟩ => .inl ⟨e, by
    have := y vs sq
    rw [hv] at this
    cases this
    exact hd'.gr gr⟩⟩
theorem gives_scr {a : Addr} {ns : List Int} (hl : SqL g.K F a (ns.map V.int)) : Gives g F Λ (Itl g.K a) (ns.map .int) := fun i H F' gr sb _ => by
  have sq : SqL g.K H a (ns.map V.int) := sb.sqL (gr.sub.sqL hl)
  refine ⟨fun h => ⟨_, sq, by rw [List.length_map] at h ⊢; exact h⟩, fun d hd => ?_⟩
  rw [List.getElem?_map] at hd
  cases e : ns[i]? with
  | none => rw [e] at hd; cases hd
  | some n =>
    rw [e] at hd; cases hd
    have hv : (ns.map V.int)[i]? = some (.int n) := by rw [List.getElem?_map, e]; rfl
    exact ⟨⟨_, _, sq, hv⟩, fun x H' ⟨e, y⟩ => .inl ⟨e, by
      have := y _ sq
      rw [hv] at this
      cases this
      exact .int n⟩⟩
theorem gives_tup {a : Addr} {ds : List D} {vs : List V} (hl : SqT g.K F a vs) (hr : RVs g F vs ds) : Gives g F Λ (Itt g.K a) ds := fun i H F' gr sb _ => by
  have sq : SqT g.K H a vs := sb.sqT (gr.sub.sqT hl)
  refine ⟨fun h => ⟨vs, sq, by rw [hr.length]; exact h⟩, fun d hd => ?_⟩
  obtain ⟨v, hv, hd'⟩ := hr.get hd
  exact ⟨⟨vs, v, sq, hv⟩, fun x H' ⟨e, y⟩ => .inl ⟨e, by
    have := y vs sq
    rw [hv] at this
    cases this
    exact hd'.gr gr⟩⟩
theorem gives_str {x : Str} : Gives g F Λ (Its x) (chars x) := fun i H F' gr sb _ => by
  have hl : (chars x).length = x.cps.size := by unfold chars; rw [List.length_map, Array.length_toList]
  refine ⟨fun h => by rw [hl] at h; exact h, fun d hd => ?_⟩
  unfold chars at hd
  rw [List.getElem?_map, Array.getElem?_toList] at hd
  cases e : x.cps[i]? with
  | none => rw [e] at hd; cases hd
  | some c =>
    rw [e] at hd; cases hd
    refine ⟨?_, fun y H' ⟨e', c', h1, h2⟩ => .inl ⟨e', ?_⟩⟩
    · by_cases q : i < x.cps.size
      · exact q
      · rw [Array.getElem?_eq_none (by omega)] at e; cases e
    · rw [e] at h1; cases h1; subst h2; exact .str _
theorem gives_range {lo : Int} {n : Nat} : Gives g F Λ (Itr lo n) (rangeD lo n) := fun i H F' gr sb _ => by
  have hl : (rangeD lo n).length = n := by unfold rangeD; rw [List.length_map, List.length_range]
  refine ⟨fun h => by rw [hl] at h; exact h, fun d hd => ?_⟩
  have hi : i < n := by rw [← hl]; exact (List.getElem?_eq_some_iff.mp hd).1
  unfold rangeD at hd
  rw [List.getElem?_map, List.getElem?_range hi] at hd
  cases hd
  exact ⟨hi, fun x H' ⟨e, y⟩ => .inl ⟨e, by subst y; exact .int _⟩⟩
theorem iiSeq {tg e : Expr} {f : E Val} (h : PE X e (sE g f)) (hK : X.K = g.K) : PI X tg e (sI g (iSeq f)) := PI.orSome fun σ H R ⟨B, Λ, F, ι, m, items, m', r, e, q⟩ => by
  obtain ⟨x1, m1, e1, y1⟩ := bind_ok e
  obtain ⟨d, m2, e2, y2⟩ := bind_ok y1
  obtain ⟨w, rfl⟩ := opt_ok y2
  have go : ∀ (P : V → Hp → Prop), (∀ v H1 F1 ι1, Rel g B Λ σ H1 F1 ι1 m' → Gr F F1 → ι <+: ι1 → RV g F1 v d → P v H1) → sE g f σ H P := fun P k => ⟨B, Λ, F, ι, m, x1, m1, r, e1, fun v H1 F1 ι1 r1 g1 p1 h1 => by
    obtain ⟨F2, g2, r2, h2⟩ := r1.asD h1 e2
    exact k v H1 F2 ι1 r2 (g1.trans g2) p1 h2⟩
  cases d with
  | lst ds =>
    cases w
    refine ⟨_, pi_list h, go _ fun v H1 F1 ι1 r1 g1 p1 h1 => ?_⟩
    cases h1 with
    | @lst a vs _ hl hr =>
      rw [hK]
      exact ⟨a, rfl, ⟨vs, .inl (.inl (r1.sub.at hl id))⟩, q _ H1 F1 ι1 r1 g1 p1 (gives_list hl hr)⟩
  | tup ds =>
    cases w
    refine ⟨_, pi_tup h, go _ fun v H1 F1 ι1 r1 g1 p1 h1 => ?_⟩
    cases h1 with
    | @tup a vs _ hl hr =>
      rw [hK]
      exact ⟨a, rfl, ⟨vs, .inl (.inl (r1.sub.at hl id))⟩, q _ H1 F1 ι1 r1 g1 p1 (gives_tup (.inl (.inl hl)) hr)⟩
  | ktup ds =>
    cases w
    refine ⟨_, pi_tup h, go _ fun v H1 F1 ι1 r1 g1 p1 h1 => ?_⟩
    cases h1 with
    | @ktup a vs _ hl hr =>
      rw [hK]
      exact ⟨a, rfl, ⟨vs, r1.sub.sqT hl⟩, q _ H1 F1 ι1 r1 g1 p1 (gives_tup hl hr)⟩
  | scr ns =>
    cases w
    refine ⟨_, pi_list h, go _ fun v H1 F1 ι1 r1 g1 p1 h1 => ?_⟩
    cases h1 with
    | @scr a _ hl =>
      rw [hK]
      exact ⟨a, rfl, ⟨_, r1.sub.sqL hl⟩, q _ H1 F1 ι1 r1 g1 p1 (gives_scr hl)⟩
  | str x =>
    cases w
    refine ⟨_, pi_str h, go _ fun v H1 F1 ι1 r1 g1 p1 h1 => ?_⟩
    cases h1
    exact ⟨x, rfl, q _ H1 F1 ι1 r1 g1 p1 gives_str⟩
  | _ => cases w
theorem all2_1 {α β : Type} {P : α → β → Prop} {vs : List α} {y : β} (h : All2 P vs [y]) : ∃ x, vs = [x] ∧ P x y := by
  cases h with
  | cons a t => cases t; exact ⟨_, rfl, a⟩
theorem all2_2 {α β : Type} {P : α → β → Prop} {vs : List α} {y z : β} (h : All2 P vs [y, z]) : ∃ x w, vs = [x, w] ∧ P x y ∧ P w z := by
  cases h with
  | cons a t =>
    obtain ⟨w, rfl, b⟩ := all2_1 t
    exact ⟨_, w, rfl, a, b⟩
theorem iiRange1 {tg a : Expr} {p pos : Pos} {as : E (List Val)} (h : PA X [a] (sA g as)) (hm : X.mg "range" = none) (hg : Gl X "range" := by rfl) (hs : starEach [a] X.env = [(false, eval a X.env)] := by rfl) : PI X tg (.Call (.Name "range" p) [a] [] pos) (sI g (iRange1 as)) :=
  (pi_range1 hg hm h hs).via fun σ H R ⟨B, Λ, F, ι, m, items, m', r, e, q⟩ => by
  obtain ⟨xs, m1, e1, y1⟩ := bind_ok e
  obtain ⟨ds, m2, e2, y2⟩ := bind_ok y1
  obtain ⟨w, rfl⟩ := opt_ok y2
  refine ⟨B, Λ, F, ι, m, xs, m1, r, e1, fun vs H1 F1 ι1 r1 g1 p1 h1 => ?_⟩
  obtain ⟨h2, rfl⟩ := rds_ok r1 h1 e2
  unfold rangeOf1 at w
  split at w
  · rename_i n
    obtain ⟨v, rfl, hv⟩ := all2_1 h2
    cases hv
    split at w
    · rename_i hr
      cases w
      have hr' := of_decide_eq_true hr
      exact ⟨n, rfl, hr'.1, hr'.2, q _ H1 F1 ι1 r1 g1 p1 gives_range⟩
    · cases w
  · cases w
theorem iiRange2 {tg a b : Expr} {p pos : Pos} {as : E (List Val)} (h : PA X [a, b] (sA g as)) (hm : X.mg "range" = none) (hg : Gl X "range" := by rfl) (hs : starEach [a, b] X.env = [(false, eval a X.env), (false, eval b X.env)] := by rfl) (hs2 : starEach [b] X.env = [(false, eval b X.env)] := by rfl) : PI X tg (.Call (.Name "range" p) [a, b] [] pos) (sI g (iRange2 as)) :=
  (pi_range2 hg hm h hs hs2).via fun σ H R ⟨B, Λ, F, ι, m, items, m', r, e, q⟩ => by
  obtain ⟨xs, m1, e1, y1⟩ := bind_ok e
  obtain ⟨ds, m2, e2, y2⟩ := bind_ok y1
  obtain ⟨w, rfl⟩ := opt_ok y2
  refine ⟨B, Λ, F, ι, m, xs, m1, r, e1, fun vs H1 F1 ι1 r1 g1 p1 h1 => ?_⟩
  obtain ⟨h2, rfl⟩ := rds_ok r1 h1 e2
  unfold rangeOf2 at w
  split at w
  · rename_i lo hi
    obtain ⟨v, v2, rfl, hv, hv2⟩ := all2_2 h2
    cases hv
    cases hv2
    split at w
    · rename_i hr
      cases w
      rw [Bool.and_eq_true] at hr
      have hr1 := of_decide_eq_true hr.1
      have hr2 := of_decide_eq_true hr.2
      exact ⟨lo, hi, rfl, ⟨hr1.1, hr1.2, hr2.1, hr2.2⟩, q _ H1 F1 ι1 r1 g1 p1 gives_range⟩
    · cases w
  · cases w
end

/-! # loops -/
def forLoop (tg : Arg → E Unit) (body : E Ctl) : List D → E Ctl
  | [] => .ret .nx
  | d :: ds => (tg (.t d)).bind fun _ => body.bind fun c => match c with
    | .nx => forLoop tg body ds
    | .ct => forLoop tg body ds
    | .bk => .ret .nx
    | .rt a => .ret (.rt a)
def sFor (src : E (List D)) (tg : Arg → E Unit) (body : E Ctl) : E Ctl := src.bind fun items => forLoop tg body items
def whileLoop (c : E Bool) (body : E Ctl) : Nat → E Ctl
  | 0 => fun _ => .no
  | n + 1 => c.bind fun b => if b then body.bind fun c' => match c' with
    | .nx => whileLoop c body n
    | .ct => whileLoop c body n
    | .bk => .ret .nx
    | .rt a => .ret (.rt a)
    else .ret .nx
section
variable {X : Cx} {g : Gb} {B : Bs} {Λ : Lks} {σ : L2.St} {H F : Hp} {ι : List Addr} {m : M}
theorem for_run {ws : List Nat} {tg : Arg → E Unit} {body : E Ctl} {D : Ends} {J : It} {items : List MF.D} {c : Ctl} {m1 m' : M} {H1 F1 : Hp} {ι1 : List Addr} (r1 : Rel g B Λ σ H1 F1 ι1 m1) (gv : Gives g F1 Λ J items) (y1 : forLoop tg body items m1 = .ok c m') (q : After g D B Λ F1 ι1 c m') :
    ∃ W : Nat → Nat → L2.St → Hp → Prop, (∃ m, W 0 m σ H1) ∧ ∀ i m σ H, W i m σ H →
      (J.stop i H ∧ D.nx σ H) ∨ (J.go i H ∧ ∃ N : L2.St → Hp → Prop, (∀ σ' H', N σ' H' → ∃ m', m' < m ∧ W (i + 1) m' σ' H') ∧ ∀ x H', J.yld i H x H' → sG g ws tg x σ H' fun σ2 H2 => sS g body { D with nx := N, ct := N, bk := D.nx } σ2 H2) := by
  refine ⟨fun i k σ' H' => ∃ F' ι' m2, k = items.length - i ∧ Rel g B Λ σ' H' F' ι' m2 ∧ Gr F1 F' ∧ ι1 <+: ι' ∧ forLoop tg body (items.drop i) m2 = .ok c m', ⟨items.length, F1, ι1, m1, rfl, r1, Gr.refl F1, List.prefix_refl _, y1⟩, ?_⟩
  rintro i k σ' H' ⟨F', ι', m2, rfl, r2, g2, p2, y2⟩
  obtain ⟨gs, gi⟩ := gv i H' F' g2 r2.sub r2.locks
  cases hd : items[i]? with
  | none =>
    have hl := List.getElem?_eq_none_iff.mp hd
    rw [List.drop_eq_nil_of_le hl] at y2
    cases y2
    exact .inl ⟨gs hl, q σ' H' F' ι' r2 g2 p2⟩
  | some d =>
    obtain ⟨hi, hg⟩ := List.getElem?_eq_some_iff.mp hd
    obtain ⟨go, yl⟩ := gi d hd
    rw [List.drop_eq_getElem_cons hi, hg] at y2
    obtain ⟨u, m3, e3, y3⟩ := bind_ok y2
    obtain ⟨c1, m4, e4, y4⟩ := bind_ok y3
    refine .inr ⟨go, fun σ' H' => ∃ k', k' < items.length - i ∧ ∃ F' ι' m2, k' = items.length - (i + 1) ∧ Rel g B Λ σ' H' F' ι' m2 ∧ Gr F1 F' ∧ ι1 <+: ι' ∧ forLoop tg body (items.drop (i + 1)) m2 = .ok c m', fun σ' H' z => z, fun x H2 hy => ?_⟩
    have fin : ∀ {F2 : Hp}, Rel g B Λ σ' H2 F2 ι' m2 → Gr F1 F2 → RV g F2 x d → sG g ws tg x σ' H2 fun σ2 H3 => sS g body { D with nx := fun σ' H' => ∃ k', k' < items.length - i ∧ ∃ F' ι' m2, k' = items.length - (i + 1) ∧ Rel g B Λ σ' H' F' ι' m2 ∧ Gr F1 F' ∧ ι1 <+: ι' ∧ forLoop tg body (items.drop (i + 1)) m2 = .ok c m', ct := fun σ' H' => ∃ k', k' < items.length - i ∧ ∃ F' ι' m2, k' = items.length - (i + 1) ∧ Rel g B Λ σ' H' F' ι' m2 ∧ Gr F1 F' ∧ ι1 <+: ι' ∧ forLoop tg body (items.drop (i + 1)) m2 = .ok c m', bk := D.nx } σ2 H3 := fun {F2} r3 g3 h3 => by
      refine ⟨B, Λ, F2, ι', m2, .t d, m3, r3, h3, e3, fun σ4 H4 F4 ι4 r4 g4 p4 _ => ?_⟩
      refine ⟨B, Λ, F4, ι4, m3, c1, m4, r4, e4, fun σ5 H5 F5 ι5 r5 g5 p5 => ?_⟩
      have gg := (g3.trans g4).trans g5
      have pp := (p2.trans p4).trans p5
      cases c1 with
      | nx => exact ⟨_, by omega, F5, ι5, m4, rfl, r5, gg, pp, y4⟩
      | ct => exact ⟨_, by omega, F5, ι5, m4, rfl, r5, gg, pp, y4⟩
      | bk => cases y4; exact q σ5 H5 F5 ι5 r5 gg pp
      | rt a => cases y4; exact q σ5 H5 F5 ι5 r5 gg pp
    rcases yl x H2 hy with ⟨rfl, hx⟩ | ⟨p, o, hp, rfl, rfl, hx⟩ | ⟨rfl, a, ks, rfl, ha, rfl⟩
    · exact fin r2 g2 hx
    · obtain ⟨r3, g3⟩ := r2.alloc (o := o) hp
      exact fin r3 (g2.trans g3) hx
    · obtain ⟨F3, g3, r3, hx⟩ := r2.learn ha
      exact fin r3 (g2.trans g3) hx
theorem sS_for {src : E (List D)} {ws : List Nat} {tg : Arg → E Unit} {body : E Ctl} : ∀ D σ H, sS g (sFor src tg body) D σ H → tFor (sI g src) (sG g ws tg) (sS g body) D σ H := fun D σ H ⟨B, Λ, F, ι, m, c, m', r, e, q⟩ => by
  obtain ⟨items, m1, e1, y1⟩ := bind_ok e
  exact ⟨B, Λ, F, ι, m, items, m1, r, e1, fun J H1 F1 ι1 r1 g1 p1 gv => for_run r1 gv y1 fun σ' H' F' ι' r2 g2 p2 => q σ' H' F' ι' r2 (g1.trans g2) (p1.trans p2)⟩
theorem iFor {tg iter : Expr} {body : List Stmt} {pos : Pos} {src : E (List D)} {ws : List Nat} {t : Arg → E Unit} {b : E Ctl} (hc : X.calm = true) (hp : PassesOwn (model X.prog X.w) X.A X.env X.xe) (hi : PI X tg iter (sI g src)) (hg : PG X tg (sG g ws t)) (hb : PSs X body (sS g b))
    (hs : ∀ x, foldedSetIterable iter X.env x = pure x := by intro _; rfl) : PS X (.For tg iter body [] pos) (sS g (sFor src t b)) := (ps_for hp hc hi hg hb hs).via sS_for
theorem iWhile {c : Expr} {body : List Stmt} {pos : Pos} {fc : E Bool} {b : E Ctl} (n : Nat) (hp : PassesOwn (model X.prog X.w) X.A X.env X.xe) (hc : PT X c (sT g fc)) (hb : PSs X body (sS g b)) : PS X (.While c body [] pos) (sS g (whileLoop fc b n)) := (ps_while hp hc hb).via fun D σ H ⟨B, Λ, F, ι, m, c, m', r, e, q⟩ => by
  refine ⟨fun k σ' H' => ∃ F' ι' m2, Rel g B Λ σ' H' F' ι' m2 ∧ Gr F F' ∧ ι <+: ι' ∧ whileLoop fc b k m2 = .ok c m', ⟨n, F, ι, m, r, Gr.refl F, List.prefix_refl _, e⟩, ?_⟩
  rintro k σ1 H1 ⟨F1, ι1, m1, r1, g1, p1, y1⟩
  cases k with
  | zero => cases y1
  | succ k =>
    obtain ⟨b1, m2, e2, y2⟩ := bind_ok y1
    refine ⟨B, Λ, F1, ι1, m1, b1, m2, r1, e2, fun H2 F2 ι2 r2 g2 p2 => ?_⟩
    cases b1 with
    | false => cases y2; exact q σ1 H2 F2 ι2 r2 (g1.trans g2) (p1.trans p2)
    | true =>
      obtain ⟨c1, m3, e3, y3⟩ := bind_ok y2
      refine ⟨fun σ' H' => ∃ k', k' < k + 1 ∧ ∃ F' ι' m2, Rel g B Λ σ' H' F' ι' m2 ∧ Gr F F' ∧ ι <+: ι' ∧ whileLoop fc b k' m2 = .ok c m', fun _ _ z => z, B, Λ, F2, ι2, m2, c1, m3, r2, e3, fun σ3 H3 F3 ι3 r3 g3 p3 => ?_⟩
      have gg := (g1.trans g2).trans g3
      have pp := (p1.trans p2).trans p3
      cases c1 with
      | nx => exact ⟨k, Nat.lt_succ_self _, F3, ι3, m3, r3, gg, pp, y3⟩
      | ct => exact ⟨k, Nat.lt_succ_self _, F3, ι3, m3, r3, gg, pp, y3⟩
      | bk => cases y3; exact q σ3 H3 F3 ι3 r3 gg pp
      | rt a => cases y3; exact q σ3 H3 F3 ι3 r3 gg pp
end

/-! # targets of several names -/
def tgTs : List (Arg → E Unit) → List D → E Unit
  | [], [] => .ret ()
  | t :: ts, d :: ds => (t (.t d)).bind fun _ => tgTs ts ds
  | _, _ => fun _ => .no
def tgTup (ts : List (Arg → E Unit)) : Arg → E Unit := fun a m => match a with
  | .t (.tup ds) => if ds.length = ts.length then tgTs ts ds m else .no
  | _ => .no
section
variable {X : Cx} {g : Gb}
def sGs (g : Gb) (ws : List Nat) (f : List D → E Unit) : TGs := fun vs σ H Q => ∃ B Λ F ι m ds m', Rel g B Λ σ H F ι m ∧ RVs g F vs ds ∧ f ds m = .ok () m' ∧ ∀ σ' H' F' ι', Rel g B Λ σ' H' F' ι' m' → Gr F F' → ι <+: ι' → Agree ws σ σ' → Q σ' H'
theorem igNil : PGs X [] (sGs g [] (tgTs [])) := ⟨fun pins s σ H vs us Q I r ⟨B, Λ, F, ι, m, ds, m', rl, h, e, q⟩ => by
  cases h with
  | nil =>
    cases e
    exact pgs_nil.run pins s σ H [] us Q I r ⟨rfl, q σ H F ι rl (Gr.refl F) (List.prefix_refl _) ⟨rfl, fun _ _ => rfl⟩⟩
  | cons h t => cases e⟩
theorem igCons {e : Expr} {es : List Expr} {ws ws' : List Nat} {t : Arg → E Unit} {ts : List (Arg → E Unit)} (h1 : PG X e (sG g ws t)) (h2 : PGs X es (sGs g ws' (tgTs ts))) (hs : (assignEach (e :: es) X.env).map (·.2) = assign e X.env :: (assignEach es X.env).map (·.2) := by rfl) : PGs X (e :: es) (sGs g (ws ++ ws') (tgTs (t :: ts))) :=
  ⟨fun pins s σ H vs us Q I r ⟨B, Λ, F, ι, m, ds, m', rl, h, e, q⟩ => by
  cases h with
  | nil => cases e
  | @cons v vs d ds hv hr =>
    obtain ⟨u, m1, e1, y1⟩ := bind_ok e
    refine (pgs_cons h1 h2 hs).run pins s σ H _ us Q I r ⟨v, vs, rfl, B, Λ, F, ι, m, .t d, m1, rl, hv, e1, fun σ1 H1 F1 ι1 r1 g1 p1 a1 => ?_⟩
    exact ⟨B, Λ, F1, ι1, m1, ds, m', r1, hr.gr g1, y1, fun σ2 H2 F2 ι2 r2 g2 p2 a2 => q σ2 H2 F2 ι2 r2 (g1.trans g2) (p1.trans p2) ⟨a2.1.trans a1.1, fun j hj => (a2.2 j fun z => hj (List.mem_append_right _ z)).trans (a1.2 j fun z => hj (List.mem_append_left _ z))⟩⟩⟩
theorem igTup {es : List Expr} {k : Nat} {pos : Pos} {ws : List Nat} {ts : List (Arg → E Unit)} (hc : X.calm = true) (hK : X.K = g.K) (h : PGs X es (sGs g ws (tgTs ts))) (hn : (assignEach es X.env).length = ts.length := by rfl) (hst : (assignEach es X.env).findIdx? (·.1) = none := by rfl) : PG X (.Tuple es k pos) (sG g ws (tgTup ts)) :=
  (pg_tup hc h hn hst).via fun v σ H Q ⟨B, Λ, F, ι, m, a, m', r, ha, e, q⟩ => by
  unfold tgTup at e
  split at e
  · rename_i ds
    split at e
    · rename_i hl
      cases ha with
      | @tup b vs _ ht hr =>
        exact ⟨b, vs, rfl, by rw [hK]; exact .inl (.inl (r.sub.at ht id)), by rw [hr.length]; exact hl, B, Λ, F, ι, m, ds, m', r, hr, e, q⟩
    · cases e
  · cases e
end

/-! # list comprehensions -/
def wipeL : List Nat → List Loc → List Loc
  | [], ρ => ρ
  | v :: vs, ρ => (wipeL vs ρ).set v .un
def keepL : Option Loc → Loc
  | some (.t d) => .t d
  | some (.s n) => .s n
  | _ => .un
def restL (ρ0 : List Loc) : List Nat → List Loc → List Loc
  | [], ρ => ρ
  | v :: vs, ρ => (restL ρ0 vs ρ).set v (keepL ρ0[v]?)
def lcTurn (tg : Arg → E Unit) (ifs : E Bool) (elt : E Val) (d : D) : E (Option D) := (tg (.t d)).bind fun _ => ifs.bind fun b => if b then elt.bind fun x => (asD x).bind fun y => .ret (some y) else .ret none
def lcLoop (own : List Nat) (tg : Arg → E Unit) (ifs : E Bool) (elt : E Val) : List D → E (List D)
  | [] => .ret []
  | d :: ds => fun m => (lcTurn tg ifs elt d).bind (fun o => (lcLoop own tg ifs elt ds).bind fun r => .ret (o.toList ++ r)) ⟨wipeL own m.ρ, m.S⟩
def nLc (own : List Nat) (src : E (List D)) (tg : Arg → E Unit) (ifs : E Bool) (elt : E Val) : E D := src.bind fun items m => match lcLoop own tg ifs elt items m with
  | .ok r m' => if sizeOk items.length then .ok (.lst r) ⟨restL m.ρ own m'.ρ, m'.S⟩ else .no
  | .no => .no
def ifsYes : E Bool := .ret true
section
variable {X : Cx} {g : Gb} {B : Bs} {Λ : Lks} {σ : L2.St} {H F F' : Hp} {ι ι' : List Addr} {m : M}
theorem wipe_in {σ : L2.St} {i : Nat} : ∀ {vs : List Nat}, i ∈ vs → (wipe σ vs)[i]? = if i < σ.length then some none else none
  | v :: vs, h => by
    unfold wipe
    by_cases e : v = i
    · subst e
      by_cases hl : v < σ.length
      · rw [List.getElem?_set_self (by rw [wipe_length]; exact hl), if_pos hl]
      · rw [List.getElem?_eq_none (by rw [List.length_set, wipe_length]; omega), if_neg hl]
    · rw [List.getElem?_set_ne e]
      exact wipe_in ((List.mem_cons.mp h).resolve_left fun z => e z.symm)
theorem wipe_agree {σ σ' : L2.St} {ws vs : List Nat} (h : Agree ws (wipe σ vs) σ') (hs : ∀ i ∈ ws, i ∈ vs) : wipe σ' vs = wipe σ vs := by
  have hl : σ'.length = σ.length := h.1.trans (wipe_length σ vs)
  refine List.ext_getElem? fun i => ?_
  by_cases hi : i ∈ vs
  · rw [wipe_in hi, wipe_in hi, hl]
  · rw [wipe_out hi, h.2 i (fun z => hi (hs i z)), wipe_out hi]
theorem wipeL_length {ρ : List Loc} : ∀ {vs : List Nat}, (wipeL vs ρ).length = ρ.length
  | [] => rfl
  | v :: vs => by unfold wipeL; rw [List.length_set, wipeL_length]
theorem wipeL_out {ρ : List Loc} {i : Nat} : ∀ {vs : List Nat}, i ∉ vs → (wipeL vs ρ)[i]? = ρ[i]?
  | [], _ => rfl
  | v :: vs, h => by
    unfold wipeL
    rw [List.getElem?_set_ne (fun z => h (by rw [z]; exact List.mem_cons_self)), wipeL_out (fun z => h (List.mem_cons_of_mem _ z))]
theorem wipeL_in {ρ : List Loc} {i : Nat} {l : Loc} : ∀ {vs : List Nat}, i ∈ vs → (wipeL vs ρ)[i]? = some l → l = .un
  | v :: vs, h, e => by
    unfold wipeL at e
    rcases get_set e with ⟨_, e⟩ | ⟨ne, e⟩
    · exact e
    · exact wipeL_in ((List.mem_cons.mp h).resolve_left fun z => ne z.symm) e
theorem restL_length {ρ0 ρ : List Loc} : ∀ {vs : List Nat}, (restL ρ0 vs ρ).length = ρ.length
  | [] => rfl
  | v :: vs => by unfold restL; rw [List.length_set, restL_length]
theorem restL_out {ρ0 ρ : List Loc} {i : Nat} : ∀ {vs : List Nat}, i ∉ vs → (restL ρ0 vs ρ)[i]? = ρ[i]?
  | [], _ => rfl
  | v :: vs, h => by
    unfold restL
    rw [List.getElem?_set_ne (fun z => h (by rw [z]; exact List.mem_cons_self)), restL_out (fun z => h (List.mem_cons_of_mem _ z))]
theorem restL_in {ρ0 ρ : List Loc} {i : Nat} {l : Loc} : ∀ {vs : List Nat}, i ∈ vs → (restL ρ0 vs ρ)[i]? = some l → l = keepL ρ0[i]?
  | v :: vs, h, e => by
    unfold restL at e
    rcases get_set e with ⟨q, e⟩ | ⟨ne, e⟩
    · rw [e, q]
    · exact restL_in ((List.mem_cons.mp h).resolve_left fun z => ne z.symm) e
theorem restL_wipeL {ρ0 ρ : List Loc} {vs : List Nat} : restL ρ0 vs (wipeL vs ρ) = restL ρ0 vs ρ := by
  refine List.ext_getElem? fun i => ?_
  by_cases hi : i ∈ vs
  · cases h1 : (restL ρ0 vs (wipeL vs ρ))[i]? with
    | none =>
      have := List.getElem?_eq_none_iff.mp h1
      rw [restL_length, wipeL_length] at this
      exact (List.getElem?_eq_none (by rw [restL_length]; exact this)).symm
    | some l =>
      have hl := (List.getElem?_eq_some_iff.mp h1).1
      rw [restL_length, wipeL_length] at hl
      have h2 : (restL ρ0 vs ρ)[i]? = some ((restL ρ0 vs ρ)[i]'(by rw [restL_length]; exact hl)) := List.getElem?_eq_getElem (by rw [restL_length]; exact hl)
      rw [h2, restL_in hi h1, restL_in hi h2]
  · rw [restL_out hi, restL_out hi, wipeL_out hi]
theorem Rel.wipe (r : Rel g B Λ σ H F ι m) (vs : List Nat) : Rel g B Λ (L2.wipe σ vs) H F ι ⟨wipeL vs m.ρ, m.S⟩ := by
  obtain ⟨U, l, q⟩ := r.ex
  have own : ∀ {i : Nat} {d}, (wipeL vs m.ρ)[i]? = some (.own d) → i ∉ vs ∧ m.ρ[i]? = some (.own d) := fun {i d} h => by
    by_cases hi : i ∈ vs
    · cases wipeL_in hi h
    · rw [wipeL_out hi] at h; exact ⟨hi, h⟩
  refine ⟨U, l, q.sub, q.old, q.new, q.grF, q.pre, q.iF, q.nd, q.sl, q.st, by rw [wipeL_length, wipe_length]; exact q.ln, fun i l h => ?_, fun i j d e hij h1 h2 => ?_⟩
  · by_cases hi : i ∈ vs
    · rw [wipeL_in hi h]; exact True.intro
    · rw [wipeL_out hi] at h; rw [wipe_out hi]; exact q.loc i l h
  · obtain ⟨a1, b1⟩ := own h1
    obtain ⟨a2, b2⟩ := own h2
    rw [wipe_out a1, wipe_out a2]; exact q.ap i j d e hij b1 b2
theorem Rel.unwipe {vs : List Nat} {m' : M} {B0 : Bs} {Λ0 : Lks} (r0 : Rel g B0 Λ0 σ H F ι m) {H' : Hp} (r : Rel g B Λ (L2.wipe σ vs) H' F' ι' m') (gr : Gr F F') (hp : ι <+: ι') : Rel g B Λ σ H' F' ι' ⟨restL m.ρ vs m'.ρ, m'.S⟩ := by
  obtain ⟨U0, l0, q0⟩ := r0.ex
  obtain ⟨U, l, q⟩ := r.ex
  have own : ∀ {i : Nat} {d}, (restL m.ρ vs m'.ρ)[i]? = some (.own d) → i ∉ vs ∧ m'.ρ[i]? = some (.own d) := fun {i d} h => by
    by_cases hi : i ∈ vs
    · have := restL_in hi h
      unfold keepL at this
      split at this <;> cases this
    · rw [restL_out hi] at h; exact ⟨hi, h⟩
  refine ⟨U, l, q.sub, q.old, q.new, q.grF, q.pre, q.iF, q.nd, q.sl, q.st, by rw [restL_length, q.ln, wipe_length], fun i l h => ?_, fun i j d e hij h1 h2 => ?_⟩
  · by_cases hi : i ∈ vs
    · have := restL_in hi h
      unfold keepL at this
      split at this
      · rename_i d k
        subst this
        obtain ⟨v, e, h⟩ := q0.loc i _ k
        exact ⟨v, e, h.gr gr⟩
      · rename_i n k
        subst this
        obtain ⟨a, e, h⟩ := q0.loc i _ k
        exact ⟨a, e, get_pre hp h⟩
      · subst this; exact True.intro
    · rw [restL_out hi] at h; rw [← wipe_out (σ := σ) hi]; exact q.loc i l h
  · obtain ⟨a1, b1⟩ := own h1
    obtain ⟨a2, b2⟩ := own h2
    rw [← wipe_out (σ := σ) a1, ← wipe_out (σ := σ) a2]; exact q.ap i j d e hij b1 b2
theorem lc_run {own : List Nat} {ws : List Nat} {tg : Arg → E Unit} {ifs : E Bool} {elt : E Val} {J : It} {items res : List MF.D} {m1 m2 : M} {H1 F1 : Hp} {ι1 : List Addr} {Q : VK} (hw : ∀ i ∈ ws, i ∈ own) (r1 : Rel g B Λ σ H1 F1 ι1 m1) (gv : Gives g F1 Λ J items) (e2 : lcLoop own tg ifs elt items m1 = .ok res m2) (hz : sizeOk items.length = true)
    (q : ∀ p H2 F' ι' o, Pin g B Λ σ H2 F' ι' ⟨restL m1.ρ own m2.ρ, m2.S⟩ p o → Gr F1 F' → ι1 <+: ι' → RO g F' H2 p (.lst res) → Q (.ref p) H2) (Dl : Addr) (hD : H1 Dl = none) : ∃ W : Nat → Nat → Hp → Prop, (∃ m, W 0 m (upd H1 Dl (.lst []))) ∧ ∀ i m H, W i m H →
      (J.stop i H ∧ Q (.ref Dl) H) ∨ (J.go i H ∧ ∃ Nx : Hp → Prop, (∀ H', Nx H' → ∃ m', m' < m ∧ W (i + 1) m' H') ∧ ∀ x H', J.yld i H x H' → sG g ws tg x (L2.wipe σ own) H' fun σ2 H2 => L2.wipe σ2 own = L2.wipe σ own ∧ sT g ifs σ2 H2 fun b H3 =>
        if b = true then sE g elt σ2 H3 fun y H4 => ∃ acc, H4 Dl = some (.lst acc) ∧ acc.length < sizeLine ∧ Nx (upd H4 Dl (.lst (acc ++ [y]))) else Nx H3) := by
  refine ⟨fun i k H' => ∃ F' ι' m3 accV accD rest, k = items.length - i ∧ Pin g B Λ (wipe σ own) H' F' ι' ⟨wipeL own m3.ρ, m3.S⟩ Dl (.lst accV) ∧ Gr F1 F' ∧ ι1 <+: ι' ∧ RVs g F' accV accD ∧ accV.length ≤ i ∧ lcLoop own tg ifs elt (items.drop i) m3 = .ok rest m2 ∧ res = accD ++ rest,
    ⟨items.length, F1, ι1, m1, [], [], res, rfl, (r1.wipe own).lay hD, Gr.refl F1, List.prefix_refl _, .nil, Nat.le_refl _, e2, rfl⟩, ?_⟩
  rintro i k H' ⟨F', ι', m3, accV, accD, rest, rfl, r3, g3, p3, ha, hl, y3, hres⟩
  obtain ⟨gs, gi⟩ := gv i H' F' g3 r3.rel.sub r3.rel.locks
  cases hd : items[i]? with
  | none =>
    have hle := List.getElem?_eq_none_iff.mp hd
    rw [List.drop_eq_nil_of_le hle] at y3
    cases y3
    refine .inl ⟨gs hle, ?_⟩
    have r4 := Rel.unwipe (r1.lay (o := .lst accV) hD).rel r3.rel g3 p3
    rw [restL_wipeL] at r4
    obtain ⟨_, _, hH⟩ := r3.facts
    rw [hres, List.append_nil] at q
    exact q Dl H' F' ι' _ ⟨r4, r3.bH, r3.bF, r3.bi, by intro _ z; cases z⟩ g3 p3 (.lst hH ha)
  | some d =>
    obtain ⟨hi, hg⟩ := List.getElem?_eq_some_iff.mp hd
    obtain ⟨go, yl⟩ := gi d hd
    rw [List.drop_eq_getElem_cons hi, hg] at y3
    obtain ⟨o1, m4, e4, y4⟩ := bind_ok y3
    obtain ⟨rest', m5, e5, y5⟩ := bind_ok y4
    cases y5
    refine .inr ⟨go, fun H' => ∃ k', k' < items.length - i ∧ ∃ F' ι' m3 accV accD rest, k' = items.length - (i + 1) ∧ Pin g B Λ (wipe σ own) H' F' ι' ⟨wipeL own m3.ρ, m3.S⟩ Dl (.lst accV) ∧ Gr F1 F' ∧ ι1 <+: ι' ∧ RVs g F' accV accD ∧ accV.length ≤ i + 1 ∧ lcLoop own tg ifs elt (items.drop (i + 1)) m3 = .ok rest m2 ∧ res = accD ++ rest, fun H' z => z, fun x H2 hy => ?_⟩
    generalize hNx : (fun H' => ∃ k', k' < items.length - i ∧ ∃ F' ι' m3 accV accD rest, k' = items.length - (i + 1) ∧ Pin g B Λ (wipe σ own) H' F' ι' ⟨wipeL own m3.ρ, m3.S⟩ Dl (.lst accV) ∧ Gr F1 F' ∧ ι1 <+: ι' ∧ RVs g F' accV accD ∧ accV.length ≤ i + 1 ∧ lcLoop own tg ifs elt (items.drop (i + 1)) m3 = .ok rest m2 ∧ res = accD ++ rest) = Nx
    have hlen : accV.length < sizeLine := Nat.lt_of_le_of_lt (Nat.le_trans hl (Nat.le_of_lt hi)) (sizeOk_lt hz)
    obtain ⟨u, m6, e6, y6⟩ := bind_ok e4
    obtain ⟨b, m7, e7, y7⟩ := bind_ok y6
    -- a turn, from whatever the target's value lies in
    have fin : ∀ {H2 F2 : Hp}, Pin g B Λ (wipe σ own) H2 F2 ι' ⟨wipeL own m3.ρ, m3.S⟩ Dl (.lst accV) → Gr F1 F2 → RVs g F2 accV accD → RV g F2 x d → sG g ws tg x (wipe σ own) H2 fun σ2 H3 => wipe σ2 own = wipe σ own ∧ sT g ifs σ2 H3 fun b H4 =>
        if b = true then sE g elt σ2 H4 fun y H5 => ∃ acc, H5 Dl = some (.lst acc) ∧ acc.length < sizeLine ∧ Nx (upd H5 Dl (.lst (acc ++ [y]))) else Nx H4 := fun {H2 F2} r4 g4 ha4 hx => by
      refine ⟨_, Λ, F2, ι', _, .t d, m6, r4.rel, hx, e6, fun σ5 H5 F5 ι5 r5 g5 p5 a5 => ⟨wipe_agree a5 hw, ?_⟩⟩
      have hwe := wipe_agree a5 hw
      refine ⟨_, Λ, F5, ι5, m6, b, m7, r5, e7, fun H6 F6 ι6 r6 g6 p6 => ?_⟩
      cases b with
      | false =>
        cases y7
        have r7 := r6.wipe own
        rw [hwe] at r7
        show Nx H6
        rw [← hNx]
        exact ⟨_, by omega, F6, ι6, m4, accV, accD, rest', rfl, ⟨r7, r4.bH, r4.bF, r4.bi, by intro _ z; cases z⟩, (g4.trans g5).trans g6, (p3.trans p5).trans p6, (ha4.gr g5).gr g6, by omega, e5, hres⟩
      | true =>
        obtain ⟨y, m8, e8, y8⟩ := bind_ok y7
        obtain ⟨yd, m9, e9, y9⟩ := bind_ok y8
        cases y9
        show sE g elt σ5 H6 _
        refine ⟨_, Λ, F6, ι6, m7, y, m8, r6, e8, fun yv H7 F7 ι7 r7 g7 p7 h7 => ?_⟩
        obtain ⟨F8, g8, r8, h8⟩ := r7.asD h7 e9
        have pin8 : Pin g B Λ σ5 H7 F8 ι7 m4 Dl (.lst accV) := ⟨r8, r4.bH, r4.bF, r4.bi, by intro _ z; cases z⟩
        obtain ⟨_, _, hH⟩ := pin8.facts
        refine ⟨accV, hH, hlen, ?_⟩
        have r9 := (pin8.put (o' := .lst (accV ++ [yv]))).rel.wipe own
        rw [hwe] at r9
        rw [← hNx]
        refine ⟨_, by omega, F8, ι7, m4, accV ++ [yv], accD ++ [yd], rest', rfl, ⟨r9, r4.bH, r4.bF, r4.bi, by intro _ z; cases z⟩, (((g4.trans g5).trans g6).trans g7).trans g8, ((p3.trans p5).trans p6).trans p7, ((((ha4.gr g5).gr g6).gr g7).gr g8).append (.cons h8 .nil), by rw [List.length_append]; show accV.length + 1 ≤ i + 1; omega, e5, ?_⟩
        rw [hres]
        show accD ++ ([yd] ++ rest') = accD ++ [yd] ++ rest'
        rw [List.append_assoc]
    rcases yl x H2 hy with ⟨rfl, hx⟩ | ⟨p, o, hp, rfl, rfl, hx⟩ | ⟨rfl, a, ks, rfl, hk, rfl⟩
    · exact fin r3 g3 ha hx
    · obtain ⟨r4, g4⟩ := r3.rel.alloc (o := o) hp
      exact fin ⟨r4, r3.bH, r3.bF, r3.bi, by intro _ z; cases z⟩ (g3.trans g4) (ha.gr g4) hx
    · obtain ⟨F4, g4, r4, hx⟩ := r3.rel.learn hk
      exact fin ⟨r4, r3.bH, r3.bF, r3.bi, by intro _ z; cases z⟩ (g3.trans g4) (ha.gr g4) hx
theorem sN_lc {own : List Nat} {src : E (List D)} {ws : List Nat} {tg : Arg → E Unit} {ifs : E Bool} {elt : E Val} (hw : ∀ i ∈ ws, i ∈ own) : ∀ σ H Q, sN g (nLc own src tg ifs elt) σ H Q → tLc (sI g src) (sG g ws tg) (sT g ifs) (sE g elt) own σ H Q := fun σ H Q ⟨B, Λ, F, ι, m, d, m', r, e, q⟩ => by
  obtain ⟨items, m1, e1, y1⟩ := bind_ok e
  refine ⟨B, Λ, F, ι, m, items, m1, r, e1, fun J H1 F1 ι1 r1 g1 p1 gv => ?_⟩
  intro Dl hD
  split at y1
  · rename_i res m2 e2
    split at y1
    · rename_i hz
      cases y1
      exact lc_run hw r1 gv e2 hz (fun p H2 F' ι' o k g2 p2 h => q p H2 F' ι' o k (g1.trans g2) (p1.trans p2) h) Dl hD
    · cases y1
  · cases y1
end
end MF
set_option Elab.async false
set_option linter.all false
set_option maxRecDepth 100000
set_option maxHeartbeats 4000000
namespace MF
open PySem L2

/-! # defs -/
abbrev Fn := List Arg → List D → Option (Arg × List D)
structure CR (g : Gb) (Λ : Lks) (H F : Hp) (ι : List Addr) (S : List D) : Prop where
  ex : ∃ U, Lkd Λ F U H ∧ Gr F U ∧ (∀ a ∈ ι, F a = none) ∧ ι.Nodup ∧ S.length = ι.length ∧ ∀ (n : Nat) a d, ι[n]? = some a → S[n]? = some d → RO g F U a d
/-- what a call keeps -/
structure Kept (ι ι' : List Addr) (H H' F F' : Hp) : Prop where
  old : ∀ b o, H b = some o → b ∉ ι → H' b = some o
  new : ∀ b o, F' b = some o → F b = some o ∨ H b = none ∨ Tp H b o
  gr : Gr F F'
  pre : ι <+: ι'
  iN : ∀ b ∈ ι', b ∈ ι ∨ H b = none
def spF (g : Gb) (fn : Fn) : Sp := fun vs H Q _ => ∃ Λ F ι S as a S', CR g Λ H F ι S ∧ All2 (RArg g F ι) vs as ∧ fn as S = some (a, S') ∧ ∀ v H' F' ι', CR g Λ H' F' ι' S' → Kept ι ι' H H' F F' → RArg g F' ι' v a → Q v H'
/-- a def's end: what it made for itself is dropped -/
def fin (k : Nat) (a : Arg) (S : List D) : Option (Arg × List D) := match a with
  | .t d => some (.t d, S.take k)
  | .s n => if n < k then some (.s n, S.take k) else match S[n]? with
    | some d => some (.s k, S.take k ++ [d])
    | none => none
def mkFn (np nl : Nat) (body : E Ctl) : Fn := fun as S => if as.length = np then match body ⟨as.map Arg.loc ++ List.replicate nl .un, S⟩ with
  | .ok c m' => match c with
    | .nx => fin S.length (.t .non) m'.S
    | .rt a => fin S.length a m'.S
    | _ => none
  | .no => none
  else none
def eFn (fn : Fn) (as : E (List Val)) : E Val := as.bind fun xs => (args xs).bind fun bs m => match fn bs m.S with
  | some (.t d, S') => .ok (.t d) ⟨m.ρ, S'⟩
  | some (.s n, S') => .ok (.s n) ⟨m.ρ, S'⟩
  | none => .no
theorem RO.nt {g : Gb} {F H : Hp} {a : Addr} {d : D} (h : RO g F H a d) (vs : List V) : H a ≠ some (.tup vs) := fun z => by
  cases h with
  | lst h r => rw [h] at z; cases z
  | dk h k r => rw [h] at z; cases z
  | dt h k r => rw [h] at z; cases z
  | obj h c k r => rw [h] at z; cases z
theorem Lkd.tup {Λ : Lks} {F U H : Hp} {b : Addr} {vs : List V} (l : Lkd Λ F U H) (z : H b = some (.tup vs)) : H b = U b := by
  refine l.out b fun p hp w => ?_
  subst w
  rw [(l.at_ p hp).2.2] at z; cases z
theorem Lkd.tup' {Λ : Lks} {F U H : Hp} {b : Addr} {vs : List V} (l : Lkd Λ F U H) (z : U b = some (.tup vs)) (c : Gr F U) : H b = U b := by
  refine l.out b fun p hp w => ?_
  subst w
  obtain ⟨h1, h2, _⟩ := l.at_ p hp
  have e := (c _ _ h1).symm.trans z
  have e2 : p.2.2 = .tup vs := Option.some.inj e
  rw [e2] at h2
  exact h2
section
variable {X : Cx} {g : Gb} {B : Bs} {Λ : Lks} {σ : L2.St} {H H' F F' : Hp} {ι ι' : List Addr} {m : M} {S S' : List D}
theorem Rel.cr (r : Rel g B Λ σ H F ι m) : CR g Λ H F ι m.S := let ⟨U, l, q⟩ := r.ex; ⟨U, l, q.sub, fun a ha => (q.iF a ha).1, q.nd, q.sl, q.st⟩
/-- back from a call -/
theorem Rel.back (r : Rel g B Λ σ H F ι m) (c : CR g Λ H' F' ι' S') (k : Kept ι ι' H H' F F') : Rel g B Λ σ H' F' ι' ⟨m.ρ, S'⟩ := by
  obtain ⟨U, l, q⟩ := r.ex
  obtain ⟨U', l', h1, h2, h3, h4, h5⟩ := c.ex
  have up : ∀ b o, U b = some o → b ∉ ι → U' b = some o := fun b o e hb => by
    by_cases z : ∃ p ∈ Λ, p.1 = b
    · obtain ⟨p, hp, rfl⟩ := z
      have a1 := (l.at_ p hp).1
      rw [q.sub _ _ a1] at e
      cases e
      exact h1 _ _ (k.gr _ _ a1)
    · have z' : ∀ p ∈ Λ, p.1 ≠ b := fun p hp w => z ⟨p, hp, w⟩
      rw [← l.out b z'] at e
      rw [← l'.out b z']
      exact k.old b o e hb
  have dn : ∀ b, H b = none → B.H b = none := fun b e => (q.free (l.free e)).2.2
  refine ⟨U', l', h1, fun b o e hb => ?_, fun b o e => ?_, q.grF.trans k.gr, q.pre.trans k.pre, fun b hb => ⟨h2 b hb, ?_⟩, h3, h4, h5, q.ln, fun i lc hl => ?_, q.ap⟩
  · refine up b o (q.old b o e hb) fun hi => ?_
    rcases (q.iF b hi).2 with z | z
    · exact hb z
    · rw [z] at e; cases e
  · rcases k.new b o e with z | z | ⟨vs, e1, z⟩
    · exact q.new b o z
    · exact .inr (.inl (dn b z))
    · cases hB : B.H b with
      | none => exact .inr (.inl rfl)
      | some u =>
        refine .inr (.inr ⟨vs, e1, ?_⟩)
        have hU : U b = some (.tup vs) := by rw [← l.tup z]; exact z
        by_cases hb : b ∈ B.ι
        · obtain ⟨n, hn⟩ := List.mem_iff_getElem?.mp (q.pre.subset hb)
          have hl := (List.getElem?_eq_some_iff.mp hn).1
          have ro := q.st n b _ hn (List.getElem?_eq_getElem (by rw [q.sl]; exact hl))
          exact absurd hU (ro.nt vs)
        · rw [q.old b u hB hb] at hU; exact hU ▸ hB
  · rcases k.iN b hb with z | z
    · exact (q.iF b z).2
    · exact .inr (dn b z)
  · refine (q.loc i lc hl).keep k.gr k.pre fun b d e1 e2 w1 w2 => ?_
    subst e1
    obtain ⟨b', e, k1, k2, k3, k4⟩ := q.loc i _ hl
    rw [e2] at e; cases e
    obtain ⟨o, ho⟩ := k4.here
    have hHb : H b = some o := by rw [l.un w1]; exact ho
    refine ⟨fun u e => up b u e w2, ?_, fun hi => ?_⟩
    · cases e : F' b with
      | none => rfl
      | some u =>
        rcases k.new b u e with z | z | ⟨vs, _, z⟩
        · rw [w1] at z; cases z
        · rw [hHb] at z; cases z
        · rw [l.un w1] at z; exact absurd z (k4.nt vs)
    · rcases k.iN b hi with z | z
      · exact w2 z
      · rw [hHb] at z; cases z
theorem sE_fn {fn : Fn} {as : E (List Val)} {E : XK} : ∀ σ H Q, sE g (eFn fn as) σ H Q → tCall (spF g fn) [] E (sA g as) σ H Q := fun σ H Q ⟨B, Λ, F, ι, m, x, m', r, e, q⟩ => by
  obtain ⟨xs, m1, e1, y1⟩ := bind_ok e
  obtain ⟨bs, m2, e2, y2⟩ := bind_ok y1
  refine ⟨B, Λ, F, ι, m, xs, m1, r, e1, fun vs H1 F1 ι1 r1 g1 p1 h1 => ?_⟩
  obtain ⟨F2, g2, r2, h2⟩ := r1.args h1 e2
  rw [List.append_nil]
  cases hf : fn bs m2.S with
  | none => simp only [hf] at y2; cases y2
  | some z =>
    obtain ⟨a, S'⟩ := z
    refine ⟨Λ, F2, ι1, m2.S, bs, a, S', r2.cr, h2, hf, fun v H' F' ι' c k hv => ?_⟩
    have rb := r2.back c k
    have gg := (g1.trans g2).trans k.gr
    simp only [hf] at y2
    cases a with
    | t d => cases y2; exact q v H' F' ι' rb gg (p1.trans k.pre) hv
    | s n => cases y2; exact q v H' F' ι' rb gg (p1.trans k.pre) hv
/-- f(..) -/
theorem iCall {CX : CXT} {k : Nat} {f : Addr} {fd : FuncData} {ps : List Str} {x : Str} {e : Expr} {es : List Expr} {p pos : Pos} {fn : Fn} {as : E (List Val)} {E : XK} (F : FnOk X.prog X.w X.K X.mg X.base CX k f fd ps (spF g fn)) (hr : Room k X.A) (hm : X.mg x = some (.ref f)) (hk : PySem.W.keepIn X.K (.ref f) = true) (hb : Binds X.K fd ps []) (hx : Passes CX X E)
    (ha : PA X (e :: es) (sA g as)) (hg : Gl X x := by rfl) (hdb : (x == ("__debug__" : Str)) = false := by decide) (he : starEach (e :: es) X.env = (false, eval e X.env) :: starEach es X.env := by rfl) (hpl : (backTo pos (starEach es X.env)).any (·.1) = false := by rfl) :
    PE X (.Call (.Name x p) (e :: es) [] pos) (sE g (eFn fn as)) := (pe_call F hr hg hm hk hb .nil hx ha hdb he hpl).via sE_fn

/-- from a def's body to its promise -/
theorem fnOk {P : Program} {w : World} {K : PySem.W.Frag} {mg : Str → Option Value} {base : Heap} {x qual : Str} {st : Stmt} {f : Addr} {fd : FuncData} {N ps : List Str} {k : Nat} {fb : E Ctl} (F : Fun K x qual st f fd) (S : FnScope N ps (defScope st))
    (hb : ∀ (cdv : Value) (A : Around) (outer : List Env) (s : Shared) (H : Hp) (E : XK), Room k (A.deeper (PyProof.Rows.envOfC qual (defScope st) s.heap.objs.size f cdv)) → PSs (cxOf CX0 P w K mg base N qual (defScope st) f cdv A outer s H E).nox (defBody st) (sS g fb)) :
    FnOk P w K mg base CX0 (k + 1) f fd ps (spF g (mkFn ps.length (N.length - ps.length) fb)) := by
  have len : ∀ vs H Q E, spF g (mkFn ps.length (N.length - ps.length) fb) vs H Q E → vs.length = ps.length := fun vs H Q E ⟨Λ, F, ι, S, as, a, S', c, ha, hf, q⟩ => by
    unfold mkFn at hf
    split at hf
    · rename_i hn; rw [ha.length]; exact hn
    · cases hf
  refine F.ok S len fun cdv A outer s H vs Q E hr h => ⟨_, hb cdv A outer s H E hr, ?_⟩
  have hl := len _ _ _ _ h
  obtain ⟨Λ, F0, ι0, S0, as, a, S', c, ha, hf, q⟩ := h
  obtain ⟨U0, l0, c1, c2, c3, c4, c5⟩ := c.ex
  unfold mkFn at hf
  split at hf
  · rename_i hn
    split at hf
    · rename_i c m' e
      have hst : L2.start N vs = vs.map some ++ List.replicate (N.length - ps.length) none := by unfold L2.start; rw [hl]
      have rel : Rel g ⟨U0, F0, ι0⟩ Λ (L2.start N vs) H F0 ι0 ⟨as.map Arg.loc ++ List.replicate (N.length - ps.length) .un, S0⟩ := by
        refine ⟨U0, l0, c1, fun b o e _ => e, fun b o e => .inl e, Gr.refl _, List.prefix_refl _, fun b hb => ⟨c2 b hb, .inl hb⟩, c3, c4, c5, ?_, fun i l hl' => ?_, fun i j d e hij h1 _ => ?_⟩
        · rw [hst, List.length_append, List.length_append, List.length_map, List.length_map, List.length_replicate, List.length_replicate, ha.length]
        · by_cases hi : i < as.length
          · rw [List.getElem?_append_left (by rw [List.length_map]; exact hi), List.getElem?_map] at hl'
            cases e1 : as[i]? with
            | none => rw [e1] at hl'; cases hl'
            | some b =>
              rw [e1] at hl'; cases hl'
              obtain ⟨v, hv, hr⟩ : ∃ v, vs[i]? = some v ∧ RArg g F0 ι0 v b := by
                have : ∀ {vs : List V} {as : List Arg} {i : Nat} {b : Arg}, All2 (RArg g F0 ι0) vs as → as[i]? = some b → ∃ v, vs[i]? = some v ∧ RArg g F0 ι0 v b := by
                  intro vs as
                  induction as generalizing vs with
                  | nil => intro i b _ e; simp at e
                  | cons y ys ih =>
                    intro i b h e
                    cases h with
                    | cons h t =>
                      cases i with
                      | zero => simp at e; subst e; exact ⟨_, rfl, h⟩
                      | succ i =>
                        obtain ⟨v, h1, h2⟩ := ih t (by simpa using e)
                        exact ⟨v, by simpa using h1, h2⟩
                exact this ha e1
              have hs : (L2.start N vs)[i]? = some (some v) := by
                rw [hst, List.getElem?_append_left (by rw [List.length_map]; exact (List.getElem?_eq_some_iff.mp hv).1), List.getElem?_map, hv]; rfl
              cases b with
              | t d => exact ⟨v, hs, hr⟩
              | s n => obtain ⟨b, rfl, q⟩ := hr; exact ⟨b, hs, q⟩
          · rw [List.getElem?_append_right (by rw [List.length_map]; omega), List.getElem?_replicate] at hl'
            split at hl'
            · cases hl'; exact True.intro
            · cases hl'
        · by_cases hi : i < as.length
          · rw [List.getElem?_append_left (by rw [List.length_map]; exact hi), List.getElem?_map] at h1
            cases e1 : as[i]? with
            | none => rw [e1] at h1; cases h1
            | some b => rw [e1] at h1; cases b <;> cases h1
          · rw [List.getElem?_append_right (by rw [List.length_map]; omega), List.getElem?_replicate] at h1
            split at h1 <;> cases h1
      have dn : ∀ b, U0 b = none → H b = none := fun b e => by
        by_cases z : ∃ p ∈ Λ, p.1 = b
        · obtain ⟨p, hp, rfl⟩ := z
          rw [c1 _ _ (l0.at_ p hp).1] at e; cases e
        · rw [l0.out b (fun p hp w => z ⟨p, hp, w⟩)]; exact e
      -- the end
      have done : ∀ (b : Arg) v σ' H' F' ι', Rel g ⟨U0, F0, ι0⟩ Λ σ' H' F' ι' m' → Gr F0 F' → ι0 <+: ι' → fin S0.length b m'.S = some (a, S') → RArg g F' ι' v b → Q v H' := fun b v σ' H' F' ι' r gr pr hfin hv => by
        obtain ⟨U, l, z⟩ := r.ex
        have kept : ∀ ι2 : List Addr, ι0 <+: ι2 → (∀ b ∈ ι2, b ∈ ι') → Kept ι0 ι2 H H' F0 F' := fun ι2 p2 hs => ⟨fun b o e hb => by
            by_cases w : ∃ p ∈ Λ, p.1 = b
            · obtain ⟨p, hp, rfl⟩ := w
              rw [(l0.at_ p hp).2.2] at e
              cases e
              exact (l.at_ p hp).2.2
            · have w' : ∀ p ∈ Λ, p.1 ≠ b := fun p hp k => w ⟨p, hp, k⟩
              rw [l0.out b w'] at e
              rw [l.out b w']
              exact z.old b o e hb,
          fun b o e => (z.new b o e).imp id (Or.imp (dn b) fun ⟨vs, e1, w⟩ => ⟨vs, e1, (l0.tup' w c1).symm ▸ w⟩), gr, p2, fun b hb => by
            rcases (z.iF b (hs b hb)).2 with k | k
            · exact .inl k
            · exact .inr (dn b k)⟩
        obtain ⟨t, rfl⟩ := pr
        have cut : CR g Λ H' F' ι0 (m'.S.take S0.length) := ⟨U, l, z.sub, fun b hb => (z.iF b (List.mem_append_left _ hb)).1, c3, by rw [List.length_take, z.sl, List.length_append, c4]; omega, fun n b d h1 h2 => z.st n b d (get_pre (List.prefix_append _ _) h1) (by rw [List.getElem?_take] at h2; split at h2; exact h2; cases h2)⟩
        unfold fin at hfin
        split at hfin
        · cases hfin
          exact q v H' F' ι0 cut (kept ι0 (List.prefix_refl _) fun b hb => List.mem_append_left _ hb) hv
        · rename_i n
          obtain ⟨b, rfl, hn'⟩ := hv
          split at hfin
          · rename_i hk
            cases hfin
            rw [List.getElem?_append_left (by rw [← c4]; exact hk)] at hn'
            exact q _ H' F' ι0 cut (kept ι0 (List.prefix_refl _) fun b hb => List.mem_append_left _ hb) ⟨b, rfl, hn'⟩
          · rename_i hk
            split at hfin
            · rename_i d hd
              cases hfin
              have hb := List.mem_of_getElem? hn'
              have hb0 : b ∉ ι0 := fun w => by
                obtain ⟨j, hj⟩ := List.mem_iff_getElem?.mp w
                have := nd_get z.nd hn' (get_pre (List.prefix_append _ _) hj)
                have hjl := (List.getElem?_eq_some_iff.mp hj).1
                rw [c4] at hk
                omega
              refine q _ H' F' (ι0 ++ [b]) ⟨U, l, z.sub, fun y hy => ?_, ?_, ?_, fun j y e h1 h2 => ?_⟩ (kept _ (List.prefix_append _ _) fun y hy => ?_) ⟨b, rfl, ?_⟩
              · rcases List.mem_append.mp hy with w | w
                · exact (z.iF y (List.mem_append_left _ w)).1
                · rw [List.mem_singleton] at w; subst w; exact (z.iF y hb).1
              · rw [List.nodup_append]
                refine ⟨c3, by simp, fun y hy c hc => ?_⟩
                rw [List.mem_singleton] at hc; subst hc
                exact fun w => hb0 (w ▸ hy)
              · rw [List.length_append, List.length_append, List.length_take, z.sl, List.length_append, c4]; simp
              · by_cases hl2 : j < ι0.length
                · rw [List.getElem?_append_left hl2] at h1
                  rw [List.getElem?_append_left (by rw [List.length_take, z.sl, List.length_append, c4]; omega), List.getElem?_take] at h2
                  split at h2
                  · exact z.st j y e (get_pre (List.prefix_append _ _) h1) h2
                  · cases h2
                · have hl3 : (m'.S.take S0.length).length = ι0.length := by rw [List.length_take, z.sl, List.length_append, c4]; omega
                  rw [List.getElem?_append_right (by omega)] at h1
                  rw [List.getElem?_append_right (by omega), hl3] at h2
                  cases hz : j - ι0.length with
                  | zero => rw [hz] at h1 h2; cases h1; cases h2; exact z.st n b d hn' hd
                  | succ j' => rw [hz] at h1; simp at h1
              · rcases List.mem_append.mp hy with w | w
                · exact List.mem_append_left _ w
                · rw [List.mem_singleton] at w; subst w; exact hb
              · rw [c4, List.getElem?_append_right (Nat.le_refl _), Nat.sub_self]; rfl
            · cases hfin
      refine ⟨⟨U0, F0, ι0⟩, Λ, F0, ι0, _, c, m', rel, e, fun σ' H' F' ι' r gr pr => ?_⟩
      cases c with
      | nx => exact done _ .non σ' H' F' ι' r gr pr hf .non
      | rt b => exact fun v hv => done b v σ' H' F' ι' r gr pr hf hv
      | bk => cases hf
      | ct => cases hf
    · cases hf
  · cases hf
end
end MF
set_option Elab.async false
set_option linter.all false
set_option maxRecDepth 100000
set_option maxHeartbeats 4000000
namespace MF
open PySem L2

/-! # data as the library's data -/
mutual
def toPy : D → PyData
  | .non => .none
  | .bl b => .bool b
  | .int i => .int i
  | .str x => .str x
  | .tup xs => .tuple (toPys xs)
  | .ktup xs => .tuple (toPys xs)
  | .lst xs => .list (toPys xs)
  | .scr ns => .list (ns.map .int)
  | .dk _ => .dict []
  | .dt _ => .dict []
  | .obj _ _ => .dict []
  | .ty _ => .dict []
  | .kls _ => .dict []
def toPys : List D → List PyData
  | [] => []
  | d :: ds => toPy d :: toPys ds
end
theorem toPys_map (ds : List D) : toPys ds = ds.map toPy := by
  induction ds with
  | nil => rfl
  | cons d ds ih => unfold toPys; rw [ih]; rfl
def plain (d : D) : Bool := SeqAt.shaped (toPy d)
def deq (d e : D) : Bool := PyData.eqv (toPy d) (toPy e)
mutual
theorem RV.dp {g : Gb} {H : Hp} : ∀ {v : V} {d : D}, RV g H v d → (toPy d).canLay0 = true → Dp g.K H v (toPy d)
  | _, _, .non, _ => .non
  | _, _, .bl b, _ => .bl b
  | _, _, .int i, _ => .int i
  | _, _, .str x, _ => .str x
  | _, .tup ds, .tup h r, c => .tup (.inl (.inl h)) (RVs.dp r (by unfold toPy PyData.canLay0 at c; exact c))
  | _, .ktup ds, .ktup h r, c => .tup h (RVs.dp r (by unfold toPy PyData.canLay0 at c; exact c))
  | _, .lst ds, .lst h r, c => .lst (.inl (.inl h)) (RVs.dp r (by unfold toPy PyData.canLay0 at c; exact c))
  | _, .scr ns, .scr h, _ => .lst h (by
      have : ∀ l : List Int, DpAll g.K H (l.map V.int) (l.map PyData.int) := fun l => by
        induction l with
        | nil => exact .nil
        | cons x l ih => exact .cons (.int x) ih
      exact this ns)
  | _, _, .dk _ _ _, c => by unfold toPy PyData.canLay0 at c; cases c
  | _, _, .dt _ _ _, c => by unfold toPy PyData.canLay0 at c; cases c
  | _, _, .obj _ _ _ _, c => by unfold toPy PyData.canLay0 at c; cases c
  | _, _, .ty _, c => by unfold toPy PyData.canLay0 at c; cases c
  | _, _, .kls _, c => by unfold toPy PyData.canLay0 at c; cases c
theorem RVs.dp {g : Gb} {H : Hp} : ∀ {vs : List V} {ds : List D}, RVs g H vs ds → PyData.canLayAll0 (toPys ds) = true → DpAll g.K H vs (toPys ds)
  | _, _, .nil, _ => .nil
  | _, _, .cons h r, c => by
      unfold toPys PyData.canLayAll0 at c
      rw [Bool.and_eq_true] at c
      exact .cons (RV.dp h c.1) (RVs.dp r c.2)
end
theorem plain_lay {d : D} (h : plain d = true) : (toPy d).canLay0 = true := SeqAt.canLay_of_shaped h

/-! # operators -/
section
variable {X : Cx} {g : Gb}
theorem opr_or {f : Value → Value → Sem Value} {r r' : L2.R2} (h : OpR X f r) (h' : OpR X f r') : OpR X f (fun x y H Q => r x y H Q ∨ r' x y H Q) := fun pins s σ H x y v u Q I rx ry z => z.elim (h pins s σ H x y v u Q I rx ry) (h' pins s σ H x y v u Q I rx ry)
end
def dAdd : D → D → Option D
  | .int i, .int j => some (.int (i + j))
  | .str a, .str b => if sizeOk (a.length + b.length) then some (.str (a ++ b)) else none
  | .tup xs, .tup ys => if sizeOk (xs.length + ys.length) then some (.tup (xs ++ ys)) else none
  | .lst xs, .lst ys => if sizeOk (xs.length + ys.length) then some (.lst (xs ++ ys)) else none
  | _, _ => none
def rAddA (K : PySem.W.Frag) : L2.R2 := fun x y H Q => ((rI0 fun i j => .int (i + j)) x y H Q ∨ (∃ i j, x = .str i ∧ y = .str j ∧ i.length + j.length ≤ sizeLine ∧ Q (.str (i ++ j)) H)) ∨ (rCatA K x y H Q ∨ rCat x y H Q)
theorem op_addA {X : Cx} : OpR X (binaryOp .Add) (rAddA X.K) := opr_or (opr_or op_add op_add_str) (opr_or op_catA op_cat)
theorem freeF {F H : Hp} {p : Addr} (sb : Sub F H) (hp : H p = none) : F p = none := by
  cases q : F p with
  | none => rfl
  | some u => rcases sb p u q with k | ⟨_, _, k⟩ <;> (rw [hp] at k; cases k)
theorem addS (g : Gb) : OpS g (rAddA g.K) dAdd := fun F H v w d e z Q sb hv hw hf hq => by
  unfold dAdd at hf
  split at hf
  · cases hf; cases hv; cases hw
    exact .inl (.inl ⟨_, _, rfl, rfl, hq.1 _ (.int _)⟩)
  · split at hf
    · rename_i hz
      cases hf; cases hv; cases hw
      exact .inl (.inr ⟨_, _, rfl, rfl, sizeOk_line hz, hq.1 _ (.str _)⟩)
    · cases hf
  · split at hf
    · rename_i xs ys hz
      cases hf
      cases hv with
      | @tup a vs _ k1 h1 r1 =>
        cases hw with
        | @tup b ws _ k2 h2 r2 =>
          have hz' : vs.length + ws.length ≤ sizeLine := by rw [r1.length, r2.length]; exact sizeOk_line hz
          refine .inr (.inl ⟨a, b, vs, ws, rfl, rfl, .inl (.inl h1), .inl (.inl h2), hz', fun e => ?_, fun e1 e2 => ?_, fun _ _ p hp => ?_⟩)
          · subst e
            cases r1
            exact hq.1 _ (.tup k2 r2)
          · subst e2
            cases r2
            rw [List.append_nil] at hq
            exact hq.1 _ (.tup k1 r1)
          · exact hq.2 p _ hp (.tup upd_same ((r1.append r2).gr (Gr.new (freeF sb hp))))
    · cases hf
  · split at hf
    · rename_i xs ys hz
      cases hf
      cases hv with
      | @lst a vs _ h1 r1 =>
        cases hw with
        | @lst b ws _ h2 r2 =>
          have hz' : vs.length + ws.length ≤ sizeLine := by rw [r1.length, r2.length]; exact sizeOk_line hz
          refine .inr (.inr ⟨a, b, vs, ws, rfl, rfl, h1, h2, hz', fun p hp => ?_⟩)
          exact hq.2 p _ hp (.lst upd_same ((r1.append r2).gr (Gr.new (freeF sb hp))))
    · cases hf
  · cases hf
/-! ints -/
def dInt2 (c : Int → Int → Bool) (f : Int → Int → D) : D → D → Option D
  | .int i, .int j => if c i j then some (f i j) else none
  | _, _ => none
def dSub := dInt2 (fun _ _ => true) fun i j => .int (i - j)
def mulOk (i j : Int) : Bool := decide (i.natAbs.log2 + j.natAbs.log2 < 1000000)
def divOk (_ j : Int) : Bool := decide (0 < j ∧ j.natAbs.log2 < 9000)
def modOk (_ j : Int) : Bool := decide (0 < j)
def powOk (i j : Int) : Bool := decide (0 ≤ j ∧ j ≤ 1000000 ∧ i.natAbs < 2 ^ 64)
def dFdiv := dInt2 divOk fun i j => .int (i / j)
def dMod := dInt2 modOk fun i j => .int (i % j)
def dPow := dInt2 powOk fun i j => .int (i ^ j.toNat)
def dLt := dInt2 (fun _ _ => true) fun i j => .bl (decide (i < j))
def dLe := dInt2 (fun _ _ => true) fun i j => .bl (decide (i ≤ j))
def dGt := dInt2 (fun _ _ => true) fun i j => .bl (decide (j < i))
def dGe := dInt2 (fun _ _ => true) fun i j => .bl (decide (j ≤ i))
theorem int2S (g : Gb) {c : Int → Int → Bool} {f : Int → Int → D} {C : Int → Int → Prop} {fv : Int → Int → V} (hc : ∀ i j, c i j = true → C i j) (hf : ∀ i j H, RV g H (fv i j) (f i j)) : OpS g (rI C fv) (dInt2 c f) := fun F H v w d e z Q sb hv hw h hq => by
  unfold dInt2 at h
  split at h
  · split at h
    · rename_i i j hz
      cases h; cases hv; cases hw
      exact ⟨i, j, rfl, rfl, hc i j hz, hq.1 _ (hf i j F)⟩
    · cases h
  · cases h
theorem int2S0 (g : Gb) {f : Int → Int → D} {fv : Int → Int → V} (hf : ∀ i j H, RV g H (fv i j) (f i j)) : OpS g (rI0 fv) (dInt2 (fun _ _ => true) f) := fun F H v w d e z Q sb hv hw h hq => by
  unfold dInt2 at h
  split at h
  · rename_i i j
    rw [if_pos rfl] at h
    cases h; cases hv; cases hw
    exact ⟨i, j, rfl, rfl, hq.1 _ (hf i j F)⟩
  · cases h
theorem subS (g : Gb) : OpS g (rI0 fun i j => .int (i - j)) dSub := int2S0 g fun _ _ _ => .int _
theorem fdivS (g : Gb) : OpS g (rI CDivW fun i j => .int (i / j)) dFdiv := int2S g (fun i j h => (of_decide_eq_true h : 0 < j ∧ j.natAbs.log2 < 9000)) fun _ _ _ => .int _
theorem modS (g : Gb) : OpS g (rI (fun _ j => 0 < j) fun i j => .int (i % j)) dMod := int2S g (fun i j h => of_decide_eq_true h) fun _ _ _ => .int _
theorem powS (g : Gb) : OpS g (rI CPow fun i j => .int (i ^ j.toNat)) dPow := int2S g (fun i j h => (of_decide_eq_true h : 0 ≤ j ∧ j ≤ 1000000 ∧ i.natAbs < 2 ^ 64)) fun _ _ _ => .int _
theorem ltS (g : Gb) : OpS g (rI0 fun i j => .bl (decide (i < j))) dLt := int2S0 g fun _ _ _ => .bl _
theorem leS (g : Gb) : OpS g (rI0 fun i j => .bl (decide (i ≤ j))) dLe := int2S0 g fun _ _ _ => .bl _
theorem gtS (g : Gb) : OpS g (rI0 fun i j => .bl (decide (j < i))) dGt := int2S0 g fun _ _ _ => .bl _
theorem geS (g : Gb) : OpS g (rI0 fun i j => .bl (decide (j ≤ i))) dGe := int2S0 g fun _ _ _ => .bl _
/-! times -/
def repD (n : Nat) (xs : List D) : List D := (List.replicate n xs).flatten
def dMul : D → D → Option D
  | .int i, .int j => if mulOk i j then some (.int (i * j)) else none
  | .lst xs, .int k => if decide (-(2 ^ 63) ≤ k ∧ k < 2 ^ 63) && sizeOk (xs.length * k.toNat) then some (.lst (repD k.toNat xs)) else none
  | .tup xs, .int k => if !xs.isEmpty && decide (2 ≤ k ∧ k ≤ 1000 ∧ xs.length ≤ 1000) then some (.tup (repD k.toNat xs)) else none
  | _, _ => none
def rMulA (K : PySem.W.Frag) : L2.R2 := fun x y H Q => (rI CMulW fun i j => .int (i * j)) x y H Q ∨ (rRep x y H Q ∨ rRepT K x y H Q)
theorem op_mulA {X : Cx} : OpR X (binaryOp .Mult) (rMulA X.K) := opr_or op_mulW (opr_or op_rep op_repT)
theorem RVs.rep {g : Gb} {H : Hp} {vs : List V} {ds : List D} (h : RVs g H vs ds) : ∀ n : Nat, RVs g H (List.replicate n vs).flatten (repD n ds)
  | 0 => .nil
  | n + 1 => by
    unfold repD
    rw [List.replicate_succ, List.replicate_succ, List.flatten_cons, List.flatten_cons]
    exact h.append (RVs.rep h n)
theorem mulS (g : Gb) : OpS g (rMulA g.K) dMul := fun F H v w d e z Q sb hv hw h hq => by
  unfold dMul at h
  split at h
  · split at h
    · rename_i hz
      cases h; cases hv; cases hw
      exact .inl ⟨_, _, rfl, rfl, (of_decide_eq_true hz : _ < 1000000), hq.1 _ (.int _)⟩
    · cases h
  · split at h
    · rename_i xs k hz
      rw [Bool.and_eq_true] at hz
      have h1 := of_decide_eq_true hz.1
      cases h; cases hw
      cases hv with
      | @lst a vs _ h2 r =>
        exact .inr (.inl ⟨a, k, vs, rfl, rfl, h2, h1.1, h1.2, by rw [r.length]; exact sizeOk_line hz.2, fun p hp => hq.2 p _ hp (.lst upd_same ((r.rep _).gr (Gr.new (freeF sb hp))))⟩)
    · cases h
  · split at h
    · rename_i xs k hz
      rw [Bool.and_eq_true] at hz
      have h1 := of_decide_eq_true hz.2
      cases h; cases hw
      cases hv with
      | @tup a vs _ k2 h2 r =>
        refine .inr (.inr ⟨a, k, vs, rfl, rfl, .inl (.inl h2), ?_, h1.1, h1.2.1, by rw [r.length]; exact h1.2.2, fun p hp => hq.2 p _ hp (.tup upd_same ((r.rep _).gr (Gr.new (freeF sb hp))))⟩)
        intro z
        subst z
        cases r
        cases hz.1
    · cases h
  · cases h
/-! == -/
def dEqB (d e : D) : Option Bool := match d, e with
  | .str x, .str y => some (decide (x = y))
  | d, e => if plain d && plain e then some (deq d e) else none
def dEq (d e : D) : Option D := (dEqB d e).map .bl
def dNe (d e : D) : Option D := (dEqB d e).map fun b => .bl (!b)
def rEqA (K : PySem.W.Frag) : L2.R2 := fun x y H Q => rEq x y H Q ∨ rEqD K x y H Q
def rNeA (K : PySem.W.Frag) : L2.R2 := fun x y H Q => rNe x y H Q ∨ rNeD K x y H Q
theorem op_eqA {X : Cx} (hu : X.A.units + 64 < cLine) : OpR X (compareOp .Eq) (rEqA X.K) := opr_or op_eq (op_eqD hu)
theorem op_neA {X : Cx} (hu : X.A.units + 64 < cLine) : OpR X (compareOp .NotEq) (rNeA X.K) := opr_or op_ne (op_neD hu)
theorem eqB_cases {g : Gb} {F H : Hp} {v w : V} {d e : D} {b : Bool} (sb : Sub F H) (hv : RT g F H v d) (hw : RT g F H w e) (h : dEqB d e = some b) : (scal v w = true ∧ b = decide (v = w)) ∨ (Dp g.K H v (toPy d) ∧ Dp g.K H w (toPy e) ∧ plain d = true ∧ plain e = true ∧ b = deq d e) := by
  unfold dEqB at h
  split at h
  · cases h; cases hv; cases hw
    refine .inl ⟨rfl, ?_⟩
    rename_i x y
    by_cases z : x = y
    · subst z; simp
    · have : ¬ V.str x = V.str y := fun q => z (V.str.inj q)
      simp [z]
  · split at h
    · rename_i hz
      cases h
      rw [Bool.and_eq_true] at hz
      exact .inr ⟨(hv.rv sb).dp (plain_lay hz.1), (hw.rv sb).dp (plain_lay hz.2), hz.1, hz.2, rfl⟩
    · cases h
theorem eqS (g : Gb) : OpS g (rEqA g.K) dEq := fun F H v w d e z Q sb hv hw h hq => by
  unfold dEq at h
  obtain ⟨b, hb, rfl⟩ := Option.map_eq_some_iff.mp h
  rcases eqB_cases sb hv hw hb with ⟨h1, rfl⟩ | ⟨h1, h2, h3, h4, rfl⟩
  · exact .inl ⟨h1, hq.1 _ (.bl _)⟩
  · exact .inr ⟨_, _, h1, h2, h3, h4, hq.1 _ (.bl _)⟩
theorem neS (g : Gb) : OpS g (rNeA g.K) dNe := fun F H v w d e z Q sb hv hw h hq => by
  unfold dNe at h
  obtain ⟨b, hb, rfl⟩ := Option.map_eq_some_iff.mp h
  rcases eqB_cases sb hv hw hb with ⟨h1, rfl⟩ | ⟨h1, h2, h3, h4, rfl⟩
  · exact .inl ⟨h1, hq.1 _ (.bl _)⟩
  · exact .inr ⟨_, _, h1, h2, h3, h4, hq.1 _ (.bl _)⟩
/-! is None -/
def isNonD : D → Bool
  | .non => true
  | _ => false
def dIs (d e : D) : Option D := if isNonD e then some (.bl (isNonD d)) else none
def dIsNot (d e : D) : Option D := if isNonD e then some (.bl (!isNonD d)) else none
theorem isNon_v {g : Gb} {F H : Hp} {v : V} {d : D} (h : RT g F H v d) : decide (v = .non) = isNonD d := by
  cases h <;> simp [isNonD]
theorem isNon_y {g : Gb} {F H : Hp} {v : V} {d : D} (h : RT g F H v d) (e : isNonD d = true) : v = .non := by
  cases h <;> first | rfl | cases e
def rIsNA : L2.R2 := fun x y H Q => y = .non ∧ Q (.bl (decide (x = .non))) H
def rNotNA : L2.R2 := fun x y H Q => y = .non ∧ Q (.bl (!decide (x = .non))) H
theorem op_isNA {X : Cx} : OpR X (compareOp .Is) rIsNA := op_isN
theorem op_notNA {X : Cx} : OpR X (compareOp .IsNot) rNotNA := op_notN
theorem isS (g : Gb) : OpS g rIsNA dIs := fun F H v w d e z Q sb hv hw h hq => by
  unfold dIs at h
  split at h
  · rename_i k
    cases h
    exact ⟨isNon_y hw k, by rw [isNon_v hv]; exact hq.1 _ (.bl _)⟩
  · cases h
theorem isNotS (g : Gb) : OpS g rNotNA dIsNot := fun F H v w d e z Q sb hv hw h hq => by
  unfold dIsNot at h
  split at h
  · rename_i k
    cases h
    exact ⟨isNon_y hw k, by rw [isNon_v hv]; exact hq.1 _ (.bl _)⟩
  · cases h
/-! in -/
def flatD : D → Bool
  | .non => true
  | .bl _ => true
  | .int _ => true
  | .str _ => true
  | _ => false
def seqD : D → Option (List D)
  | .lst xs => some xs
  | .tup xs => some xs
  | .ktup xs => some xs
  | .scr ns => some (ns.map .int)
  | _ => none
def signOf (x : Str) : Option Nat := match x.cps.toList with
  | [c] => some c
  | _ => none
def keyD : D → Option Key
  | .int i => some (.inl i)
  | .str x => some (.inr x)
  | _ => none
def keysD : List D → Option (List Key)
  | [] => some []
  | d :: ds => match keyD d, keysD ds with
    | some k, some ks => some (k :: ks)
    | _, _ => none
def dLook {κ : Type} [DecidableEq κ] (kvs : List (κ × D)) (k : κ) : Option D := (kvs.find? fun kv => decide (kv.1 = k)).map (·.2)
def dInB : D → D → Option Bool
  | .str a, .str z => (signOf a).map fun c => decide (c ∈ z.cps.toList)
  | x, .dk kvs => (keyD x).map fun k => (dLook kvs k).isSome
  | .tup ks, .dt kvs => (keysD ks).map fun k => (dLook kvs k).isSome
  | x, .lst xs => if flatD x && xs.all flatD then some (xs.any fun y => deq y x) else if plain x && plain (.lst xs) then some (xs.any fun y => deq y x) else none
  | x, .tup xs => if flatD x && xs.all flatD then some (xs.any fun y => deq y x) else none
  | x, .ktup xs => if flatD x && xs.all flatD then some (xs.any fun y => deq y x) else none
  | _, _ => none
def dIn (d e : D) : Option D := (dInB d e).map .bl
def dNotIn (d e : D) : Option D := (dInB d e).map fun b => .bl (!b)
theorem flat_v {g : Gb} {F : Hp} {v : V} {d : D} (h : RV g F v d) (k : flatD d = true) : flatV v = true := by
  cases h <;> first | rfl | cases k
theorem flat_eq {g : Gb} {F : Hp} {v w : V} {d e : D} (h : RV g F v d) (h' : RV g F w e) (k : flatD d = true) (k' : flatD e = true) : eqV v w = deq d e := by
  cases h <;> first | (cases k; done) | (cases h' <;> first | (cases k'; done) | (simp [eqV, deq, toPy, PyData.eqv]))
theorem flats_v {g : Gb} {F : Hp} : ∀ {vs : List V} {ds : List D}, RVs g F vs ds → ds.all flatD = true → vs.all flatV = true
  | _, _, .nil, _ => rfl
  | _, _, .cons h r, k => by
    rw [List.all_cons, Bool.and_eq_true] at k ⊢
    exact ⟨flat_v h k.1, flats_v r k.2⟩
theorem flats_in {g : Gb} {F : Hp} {w : V} {e : D} (h' : RV g F w e) (k' : flatD e = true) : ∀ {vs : List V} {ds : List D}, RVs g F vs ds → ds.all flatD = true → inV w vs = ds.any fun y => deq y e
  | _, _, .nil, _ => rfl
  | _, _, .cons h r, k => by
    rw [List.all_cons, Bool.and_eq_true] at k
    have ih := flats_in h' k' r k.2
    unfold inV at ih ⊢
    rw [List.any_cons, List.any_cons, ih, flat_eq h h' k.1 k']
theorem any_py (xs : List D) (x : D) : ((toPys xs).any fun z => PyData.eqv z (toPy x)) = xs.any fun y => deq y x := by
  rw [toPys_map, List.any_map]; rfl
theorem key_v {g : Gb} {F H : Hp} {v : V} {d : D} {k : Key} (h : RT g F H v d) (e : keyD d = some k) : v = kV k := by
  cases h <;> first | (cases e; done) | (cases e; rfl)
theorem keys_v {g : Gb} {F : Hp} : ∀ {vs : List V} {ds : List D} {ks : List Key}, RVs g F vs ds → keysD ds = some ks → vs = ks.map kV
  | _, _, _, .nil, e => by cases e; rfl
  | _, d :: ds, _, .cons h r, e => by
    unfold keysD at e
    cases e1 : keyD d with
    | none => rw [e1] at e; cases e
    | some k =>
      cases e2 : keysD ds with
      | none => rw [e1, e2] at e; cases e
      | some ks =>
        rw [e1, e2] at e
        cases e
        rw [List.map_cons, ← keys_v r e2, ← key_v (RT.of (Sub.refl F) h) e1]
theorem look_v {κ : Type} [DecidableEq κ] {g : Gb} {F : Hp} (k : κ) : ∀ {kvs : List (κ × V)} {ds : List (κ × D)}, kvs.map (·.1) = ds.map (·.1) → RVs g F (kvs.map (·.2)) (ds.map (·.2)) → (valV kvs k = none ∧ dLook ds k = none) ∨ ∃ v d, valV kvs k = some v ∧ dLook ds k = some d ∧ RV g F v d
  | [], [], _, _ => .inl ⟨rfl, rfl⟩
  | [], _ :: _, h, _ => by simp at h
  | _ :: _, [], h, _ => by simp at h
  | (a, v) :: kvs, (b, d) :: ds, h, r => by
    simp only [List.map_cons, List.cons.injEq] at h
    obtain ⟨rfl, h⟩ := h
    cases r with
    | cons hv hr =>
      by_cases e : a = k
      · refine .inr ⟨v, d, ?_, ?_, hv⟩
        · unfold valV; rw [List.find?_cons_of_pos (by simpa using e)]; rfl
        · unfold dLook; rw [List.find?_cons_of_pos (by simpa using e)]; rfl
      · have e1 : valV ((a, v) :: kvs) k = valV kvs k := by unfold valV; rw [List.find?_cons_of_neg (by simpa using e)]
        have e2 : dLook ((a, d) :: ds) k = dLook ds k := by unfold dLook; rw [List.find?_cons_of_neg (by simpa using e)]
        rw [e1, e2]
        exact look_v k h hr
theorem look_some {κ : Type} [DecidableEq κ] {g : Gb} {F : Hp} {k : κ} {kvs : List (κ × V)} {ds : List (κ × D)} (h : kvs.map (·.1) = ds.map (·.1)) (r : RVs g F (kvs.map (·.2)) (ds.map (·.2))) : (valV kvs k).isSome = (dLook ds k).isSome := by
  rcases look_v k h r with ⟨a, b⟩ | ⟨v, d, a, b, _⟩ <;> rw [a, b] <;> rfl
theorem sign_v {a : Str} {c : Nat} (h : signOf a = some c) : a = ⟨#[c]⟩ := by
  unfold signOf at h
  obtain ⟨⟨l⟩⟩ := a
  split at h
  · rename_i c' e
    cases h
    simp only at e
    subst e
    rfl
  · cases h
/-- x in c, x not in c -/
def rInA (K : PySem.W.Frag) (neg : Bool) : L2.R2 := fun x y H Q => (∃ (c : Nat) (z : Str), x = .str ⟨#[c]⟩ ∧ y = .str z ∧ Q (.bl (if neg then !decide (c ∈ z.cps.toList) else decide (c ∈ z.cps.toList))) H) ∨ (rIn K neg x y H Q ∨ ∃ d ds, Dp K H x d ∧ Dp K H y (.list ds) ∧ SeqAt.shaped d = true ∧ SeqAt.shaped (.list ds) = true ∧ Q (.bl (if neg then !ds.any fun z => PyData.eqv z d else ds.any fun z => PyData.eqv z d)) H)
theorem op_inA {X : Cx} (hu : X.A.units + 65 < cLine) : OpR X (compareOp .In) (rInA X.K false) := opr_or op_in_sign (opr_or op_in_seq (op_inD hu))
theorem op_notInA {X : Cx} (hu : X.A.units + 65 < cLine) : OpR X (compareOp .NotIn) (rInA X.K true) := opr_or op_notIn_sign (opr_or op_notIn_seq (op_notInD hu))
def dInSeq (d e : D) : Option Bool := match e with
  | .dk _ => none
  | .dt _ => none
  | _ => dInB d e
theorem inSeq {g : Gb} {F H : Hp} {v w : V} {d e : D} {b neg : Bool} {Q : VK} (sb : Sub F H) (hv : RT g F H v d) (hw : RT g F H w e) (h : dInSeq d e = some b) (q : Q (.bl (if neg then !b else b)) H) : rInA g.K neg v w H Q := by
  unfold dInSeq at h
  split at h
  · cases h
  · cases h
  · rename_i n1 n2
    unfold dInB at h
    split at h
    · obtain ⟨c, hc, rfl⟩ := Option.map_eq_some_iff.mp h
      cases hw
      have := sign_v hc
      subst this
      cases hv
      exact .inl ⟨c, _, rfl, rfl, q⟩
    · exact absurd rfl (n1 _)
    · exact absurd rfl (n2 _)
    · split at h
      · rename_i xs _ hz
        rw [Bool.and_eq_true] at hz
        cases h
        cases hw with
        | @lst a vs _ h1 r =>
          have hx := flat_v (hv.rv sb) hz.1
          refine .inr (.inl ⟨a, vs, rfl, .inl (.inl (.inl h1)), hx, flats_v r hz.2, ?_⟩)
          rw [flats_in (hv.rv sb) hz.1 (r.mono sb) hz.2]
          exact q
      · split at h
        · rename_i _ _ xs _ hz
          rw [Bool.and_eq_true] at hz
          cases h
          refine .inr (.inr ⟨toPy d, toPys xs, (hv.rv sb).dp (plain_lay hz.1), ?_, hz.1, ?_, ?_⟩)
          · have := (hw.rv sb).dp (plain_lay hz.2)
            unfold toPy at this
            exact this
          · have := hz.2
            unfold plain toPy at this
            exact this
          · rw [any_py]; exact q
        · cases h
    · split at h
      · rename_i xs _ _ hz
        rw [Bool.and_eq_true] at hz
        cases h
        cases hw with
        | @tup a vs _ k1 h1 r =>
          have hx := flat_v (hv.rv sb) hz.1
          refine .inr (.inl ⟨a, vs, rfl, .inr (.inl (.inl h1)), hx, flats_v r hz.2, ?_⟩)
          rw [flats_in (hv.rv sb) hz.1 (r.mono sb) hz.2]
          exact q
      · cases h
    · split at h
      · rename_i xs _ hz
        rw [Bool.and_eq_true] at hz
        cases h
        cases hw with
        | @ktup a vs _ h1 r =>
          have hx := flat_v (hv.rv sb) hz.1
          refine .inr (.inl ⟨a, vs, rfl, .inr h1, hx, flats_v r hz.2, ?_⟩)
          rw [flats_in (hv.rv sb) hz.1 (r.mono sb) hz.2]
          exact q
      · cases h
    · cases h
theorem inDict {g : Gb} {F H : Hp} {v w : V} {d e : D} {b : Bool} (hv : RT g F H v d) (hw : RT g F H w e) (hn : dInSeq d e = none) (h : dInB d e = some b) : ∃ a o, w = .ref a ∧ DGet H a v o ∧ b = o.isSome := by
  cases e with
  | dk kvs =>
    have h : (keyD d).map (fun k => (dLook kvs k).isSome) = some b := by
      unfold dInB at h
      cases d <;> exact h
    obtain ⟨k, hk, rfl⟩ := Option.map_eq_some_iff.mp h
    cases hw with
    | @dk a kv _ h1 h2 h3 => exact ⟨a, _, rfl, .inl ⟨kv, k, h1, key_v hv hk, rfl⟩, (look_some h2 h3).symm⟩
  | dt kvs =>
    cases d with
    | tup ks =>
      have h : (keysD ks).map (fun k => (dLook kvs k).isSome) = some b := h
      obtain ⟨k, hk, rfl⟩ := Option.map_eq_some_iff.mp h
      cases hv with
      | @tup b' vs _ k1 h0 r0 =>
        cases hw with
        | @dt a kv _ h1 h2 h3 => exact ⟨a, _, rfl, .inr ⟨kv, k, b', h1, rfl, by rw [← keys_v r0 hk]; exact h0, rfl⟩, (look_some h2 h3).symm⟩
    | _ => unfold dInB at h; cases h
  | _ => unfold dInSeq at hn; rw [h] at hn; cases hn
section
variable {X : Cx} {g : Gb}
theorem in_run {neg : Bool} {op : CmpOp} {a b : Expr} {pos : Pos} {fa fb : E Val} {f : D → D → Option D} (hf : ∀ d e, f d e = (dInB d e).map fun c => .bl (if neg then !c else c)) (hK : X.K = g.K) (t' : TE) (hp : PE X (.Compare a [op] [b] pos) t')
    (hs : ∀ σ H Q, (tOp (rInA g.K neg) (sE g fa) (sE g fb)) σ H Q → ∃ t, PE X (.Compare a [op] [b] pos) t ∧ t σ H Q)
    (hd : ∀ σ H Q, (sE g fa σ H fun y H1 => sE g fb σ H1 fun x H2 => ∃ a o, x = .ref a ∧ DGet H2 a y o ∧ Q (.bl (if neg then !o.isSome else o.isSome)) H2) → ∃ t, PE X (.Compare a [op] [b] pos) t ∧ t σ H Q) : PE X (.Compare a [op] [b] pos) (sE g (eOp f fa fb)) := PE.orSome fun σ H Q ⟨B, Λ, F, ι, m, x, m', rl, e, q⟩ => by
  obtain ⟨x1, m1, e1, y1⟩ := bind_ok e
  obtain ⟨x2, m2, e2, y2⟩ := bind_ok y1
  obtain ⟨d, m3, e3, y3⟩ := bind_ok y2
  obtain ⟨w3, rfl⟩ := rd_ok e3
  obtain ⟨d2, m4, e4, y4⟩ := bind_ok y3
  obtain ⟨w4, rfl⟩ := rd_ok e4
  obtain ⟨z, m5, e5, y5⟩ := bind_ok y4
  obtain ⟨w5, rfl⟩ := opt_ok e5
  cases y5
  rw [hf] at w5
  obtain ⟨c, hc, rfl⟩ := Option.map_eq_some_iff.mp w5
  have go : ∀ (P : V → V → Hp → Prop), (∀ v w H2 F2 ι2, Rel g B Λ σ H2 F2 ι2 m' → Gr F F2 → ι <+: ι2 → RT g F2 H2 v d → RT g F2 H2 w d2 → P v w H2) → sE g fa σ H fun v H1 => sE g fb σ H1 fun w H2 => P v w H2 := fun P k =>
    ⟨B, Λ, F, ι, m, x1, m1, rl, e1, fun v H1 F1 ι1 r1 g1 p1 h1 => ⟨B, Λ, F1, ι1, m1, x2, _, r1, e2, fun w H2 F2 ι2 r2 g2 p2 h2 => k v w H2 F2 ι2 r2 (g1.trans g2) (p1.trans p2) (r2.dat (h1.gr g2 p2) w3) (r2.dat h2 w4)⟩⟩
  cases hseq : dInSeq d d2 with
  | some c' =>
    have : c' = c := by
      unfold dInSeq at hseq
      split at hseq
      · cases hseq
      · cases hseq
      · rw [hc] at hseq; exact (Option.some.inj hseq).symm
    subst this
    exact hs σ H Q (go _ fun v w H2 F2 ι2 r2 gg pp hv hw => inSeq r2.sub hv hw hseq (q _ H2 F2 ι2 r2 gg pp (.bl _)))
  | none =>
    exact hd σ H Q (go _ fun v w H2 F2 ι2 r2 gg pp hv hw => by
      obtain ⟨a, o, ea, hg, rfl⟩ := inDict hv hw hseq hc
      exact ⟨a, o, ea, hg, q _ H2 F2 ι2 r2 gg pp (.bl _)⟩)
theorem iIn {a b : Expr} {pos : Pos} {fa fb : E Val} (hu : X.A.units + 65 < cLine) (hK : X.K = g.K) (ha : PE X a (sE g fa)) (hb : PE X b (sE g fb)) (hm : behindInMarks .In b = false := by rfl) : PE X (.Compare a [.In] [b] pos) (sE g (eOp dIn fa fb)) :=
  in_run (neg := false) (fun d e => rfl) hK _ (pe_cmpR (op_inA hu) ha hb hm) (fun σ H Q h => ⟨_, pe_cmpR (op_inA hu) ha hb hm, by rw [hK]; exact h⟩) fun σ H Q h => ⟨_, pe_cmp (pc_din (by omega) ha hb) hm, h⟩
theorem iNotIn {a b : Expr} {pos : Pos} {fa fb : E Val} (hu : X.A.units + 65 < cLine) (hK : X.K = g.K) (ha : PE X a (sE g fa)) (hb : PE X b (sE g fb)) (hm : behindInMarks .NotIn b = false := by rfl) : PE X (.Compare a [.NotIn] [b] pos) (sE g (eOp dNotIn fa fb)) :=
  in_run (neg := true) (fun d e => rfl) hK _ (pe_cmpR (op_notInA hu) ha hb hm) (fun σ H Q h => ⟨_, pe_cmpR (op_notInA hu) ha hb hm, by rw [hK]; exact h⟩) fun σ H Q h => ⟨_, pe_cmp (pc_dnotin (by omega) ha hb) hm, h⟩
end
end MF
set_option Elab.async false
set_option linter.all false
set_option maxRecDepth 100000
set_option maxHeartbeats 4000000
namespace MF
open PySem L2

/-! # subscripts -/
def dIdx : D → D → Option D
  | .lst xs, .int i => atI xs i
  | .tup xs, .int i => atI xs i
  | .ktup xs, .int i => atI xs i
  | .scr ns, .int i => (atI ns i).map .int
  | .str z, .int i => if sizeOk z.length then (atI z.cps.toList i).map fun c => .str ⟨#[c]⟩ else none
  | .dk kvs, k => (keyD k).bind (dLook kvs)
  | .dt kvs, .tup ks => (keysD ks).bind (dLook kvs)
  | _, _ => none
theorem atI_get {α : Type} {xs : List α} {i : Int} {x : α} (h : atI xs i = some x) : ∃ j, ixN xs.length i = some j ∧ xs[j]? = some x := by
  unfold atI at h
  cases e : ixN xs.length i with
  | none => rw [e] at h; cases h
  | some j => rw [e] at h; exact ⟨j, rfl, h⟩
theorem atI_v {g : Gb} {F : Hp} {vs : List V} {ds : List D} {i : Int} {d : D} (r : RVs g F vs ds) (h : atI ds i = some d) : ∃ v, atI vs i = some v ∧ RV g F v d := by
  obtain ⟨j, h1, h2⟩ := atI_get h
  obtain ⟨v, h3, h4⟩ := r.get h2
  exact ⟨v, by unfold atI; rw [r.length, h1]; exact h3, h4⟩
def isDictD : D → Bool
  | .dk _ => true
  | .dt _ => true
  | _ => false
theorem idxSeq {g : Gb} {F H : Hp} {v w : V} {d e z : D} {Q : VK} (sb : Sub F H) (hv : RT g F H v d) (hw : RT g F H w e) (hn : isDictD d = false) (h : dIdx d e = some z) (q : ∀ y, RV g F y z → Q y H) : rIx g.K v w H Q := by
  unfold dIdx at h
  split at h
  · cases hw
    cases hv with
    | lst h1 r =>
      obtain ⟨x, h2, h3⟩ := atI_v r h
      exact .inl ⟨_, _, _, x, rfl, rfl, .inl (.inl h1), h2, q x h3⟩
  · cases hw
    cases hv with
    | tup _ h1 r =>
      obtain ⟨x, h2, h3⟩ := atI_v r h
      exact .inr (.inl ⟨_, _, _, x, rfl, rfl, .inl (.inl h1), h2, q x h3⟩)
  · cases hw
    cases hv with
    | ktup h1 r =>
      obtain ⟨x, h2, h3⟩ := atI_v r h
      exact .inr (.inl ⟨_, _, _, x, rfl, rfl, h1, h2, q x h3⟩)
  · cases hw
    cases hv with
    | scr h1 =>
      obtain ⟨n, h2, rfl⟩ := Option.map_eq_some_iff.mp h
      obtain ⟨j, h3, h4⟩ := atI_get h2
      refine .inl ⟨_, _, _, .int n, rfl, rfl, h1, ?_, q _ (.int n)⟩
      unfold atI
      rw [List.length_map, h3]
      show (List.map V.int _)[j]? = _
      rw [List.getElem?_map, h4]; rfl
  · cases hw
    cases hv
    split at h
    · rename_i hz
      obtain ⟨c, h2, rfl⟩ := Option.map_eq_some_iff.mp h
      exact .inr (.inr ⟨_, _, c, rfl, rfl, sizeOk_line hz, h2, q _ (.str _)⟩)
    · cases h
  · cases hn
  · cases hn
  · cases h
theorem idxDict {g : Gb} {F H : Hp} {v w : V} {d e z : D} (sb : Sub F H) (hv : RT g F H v d) (hw : RT g F H w e) (hn : isDictD d = true) (h : dIdx d e = some z) : ∃ a x, v = .ref a ∧ DGet H a w (some x) ∧ RV g F x z := by
  cases d with
  | dk kvs =>
    have h : (keyD e).bind (dLook kvs) = some z := by cases e <;> exact h
    obtain ⟨k, hk, h2⟩ := Option.bind_eq_some_iff.mp h
    cases hv with
    | @dk a kv _ h1 h3 h4 =>
      rcases look_v k h3 h4 with ⟨_, b⟩ | ⟨x, d', a1, a2, a3⟩
      · rw [b] at h2; cases h2
      · rw [a2] at h2; cases h2
        exact ⟨a, x, rfl, .inl ⟨kv, k, h1, key_v hw hk, a1.symm⟩, a3⟩
  | dt kvs =>
    cases e with
    | tup ks =>
      have h : (keysD ks).bind (dLook kvs) = some z := h
      obtain ⟨k, hk, h2⟩ := Option.bind_eq_some_iff.mp h
      cases hw with
      | @tup b vs _ k1 h0 r0 =>
        cases hv with
        | @dt a kv _ h1 h3 h4 =>
          rcases look_v k h3 h4 with ⟨_, b'⟩ | ⟨x, d', a1, a2, a3⟩
          · rw [b'] at h2; cases h2
          · rw [a2] at h2; cases h2
            exact ⟨a, x, rfl, .inr ⟨kv, k, b, h1, rfl, by rw [← keys_v r0 hk]; exact h0, a1.symm⟩, a3⟩
    | _ => cases h
  | _ => cases hn
theorem iIdx {X : Cx} {g : Gb} {a b : Expr} {pos : Pos} {fa fb : E Val} (hu : X.A.units + 65 < cLine) (hK : X.K = g.K) (ha : PE X a (sE g fa)) (hb : PE X b (sE g fb)) (hs : PlainIx b := by intro _ _; rfl) : PE X (.Subscript a b pos) (sE g (eOp dIdx fa fb)) := PE.orSome fun σ H Q ⟨B, Λ, F, ι, m, x, m', rl, e, q⟩ => by
  obtain ⟨x1, m1, e1, y1⟩ := bind_ok e
  obtain ⟨x2, m2, e2, y2⟩ := bind_ok y1
  obtain ⟨d, m3, e3, y3⟩ := bind_ok y2
  obtain ⟨w3, rfl⟩ := rd_ok e3
  obtain ⟨d2, m4, e4, y4⟩ := bind_ok y3
  obtain ⟨w4, rfl⟩ := rd_ok e4
  obtain ⟨z, m5, e5, y5⟩ := bind_ok y4
  obtain ⟨w5, rfl⟩ := opt_ok e5
  cases y5
  have go : ∀ (P : V → V → Hp → Prop), (∀ v w H2 F2 ι2, Rel g B Λ σ H2 F2 ι2 m' → Gr F F2 → ι <+: ι2 → RT g F2 H2 v d → RT g F2 H2 w d2 → P v w H2) → sE g fa σ H fun v H1 => sE g fb σ H1 fun w H2 => P v w H2 := fun P k =>
    ⟨B, Λ, F, ι, m, x1, m1, rl, e1, fun v H1 F1 ι1 r1 g1 p1 h1 => ⟨B, Λ, F1, ι1, m1, x2, _, r1, e2, fun w H2 F2 ι2 r2 g2 p2 h2 => k v w H2 F2 ι2 r2 (g1.trans g2) (p1.trans p2) (r2.dat (h1.gr g2 p2) w3) (r2.dat h2 w4)⟩⟩
  cases hn : isDictD d with
  | false => exact ⟨_, pe_ix ix_seq ha hb hs, go _ fun v w H2 F2 ι2 r2 gg pp hv hw => by
      have := idxSeq (Q := Q) r2.sub hv hw hn w5 fun y hy => q y H2 F2 ι2 r2 gg pp hy
      rw [hK]; exact this⟩
  | true => exact ⟨_, pe_dget (by omega) ha hb hs, go _ fun v w H2 F2 ι2 r2 gg pp hv hw => by
      obtain ⟨a, x, ea, h1, h2⟩ := idxDict r2.sub hv hw hn w5
      exact ⟨a, x, ea, h1, q x H2 F2 ι2 r2 gg pp h2⟩⟩
/-! # slices -/
def ePart : Option (E Val) → E (Option Int)
  | none => .ret none
  | some f => f.bind fun x => (rd x).bind fun d => (E.opt (intD d)).bind fun i => .ret (some i)
def cutD {α : Type} (xs : List α) (lo hi : Option Int) : List α := (xs.drop (HT.sIx xs.length 0 lo)).take (HT.sIx xs.length xs.length hi - HT.sIx xs.length 0 lo)
def dCut (d : D) (lo hi : Option Int) : Option D := match d with
  | .lst xs => if sizeOk xs.length then some (.lst (cutD xs lo hi)) else none
  | .tup xs => some (.tup (cutD xs lo hi))
  | .str z => if sizeOk z.length then some (.str (cutS z lo hi)) else none
  | _ => none
def eCut (f : E Val) (lo hi : Option (E Val)) : E Val := f.bind fun x => (ePart lo).bind fun l => (ePart hi).bind fun h => (rd x).bind fun d => (E.opt (dCut d l h)).bind fun z => .ret (.t z)
theorem RVs.cut {g : Gb} {F : Hp} {vs : List V} {ds : List D} (r : RVs g F vs ds) (lo hi : Option Int) : RVs g F (cutV vs lo hi) (cutD ds lo hi) := by
  unfold cutV cutD
  rw [r.length]
  exact (r.drop _).take _
section
variable {X : Cx} {g : Gb}
def sO (g : Gb) (f : E (Option Int)) : TO := fun σ H Q => ∃ B Λ F ι m o m', Rel g B Λ σ H F ι m ∧ f m = .ok o m' ∧ ∀ H' F' ι', Rel g B Λ σ H' F' ι' m' → Gr F F' → ι <+: ι' → Q o H'
theorem PO.via {o : Option Expr} {t t' : TO} (h : PO X o t) (w : ∀ σ H Q, t' σ H Q → t σ H Q) : PO X o t' := ⟨fun pins s σ H Q I q => h.run pins s σ H Q I (w _ _ _ q)⟩
theorem ioNone : PO X none (sO g (ePart none)) := PO.via po_none fun σ H Q ⟨B, Λ, F, ι, m, x, m', rl, e, q⟩ => by
  cases e
  exact q H F ι rl (Gr.refl F) (List.prefix_refl _)
theorem ioSome {e : Expr} {f : E Val} (h : PE X e (sE g f)) : PO X (some e) (sO g (ePart (some f))) := PO.via (po_some h) fun σ H Q ⟨B, Λ, F, ι, m, x, m', rl, e, q⟩ => by
  obtain ⟨x1, m1, e1, y1⟩ := bind_ok e
  obtain ⟨d, m3, e3, y3⟩ := bind_ok y1
  obtain ⟨w3, rfl⟩ := rd_ok e3
  obtain ⟨z, m5, e5, y5⟩ := bind_ok y3
  obtain ⟨w5, rfl⟩ := opt_ok e5
  cases y5
  cases intD_ok w5
  refine ⟨B, Λ, F, ι, m, x1, _, rl, e1, fun v H1 F1 ι1 r1 g1 p1 h1 => ?_⟩
  cases r1.dat h1 w3
  exact ⟨z, rfl, q H1 F1 ι1 r1 g1 p1⟩
theorem iCut {a : Expr} {lo hi : Option Expr} {p2 pos : Pos} {fa : E Val} {fl fh : Option (E Val)} (hK : X.K = g.K) (ha : PE X a (sE g fa)) (hl : PO X lo (sO g (ePart fl))) (hh : PO X hi (sO g (ePart fh))) : PE X (.Subscript a (.Slice lo hi none p2) pos) (sE g (eCut fa fl fh)) := PE.orSome fun σ H Q ⟨B, Λ, F, ι, m, x, m', rl, e, q⟩ => by
  obtain ⟨x1, m1, e1, y1⟩ := bind_ok e
  obtain ⟨l, m2, e2, y2⟩ := bind_ok y1
  obtain ⟨h, m3, e3, y3⟩ := bind_ok y2
  obtain ⟨d, m4, e4, y4⟩ := bind_ok y3
  obtain ⟨w4, rfl⟩ := rd_ok e4
  obtain ⟨z, m5, e5, y5⟩ := bind_ok y4
  obtain ⟨w5, rfl⟩ := opt_ok e5
  cases y5
  have go : ∀ (P : V → Option Int → Option Int → Hp → Prop), (∀ v H2 F2 ι2, Rel g B Λ σ H2 F2 ι2 m' → Gr F F2 → ι <+: ι2 → RT g F2 H2 v d → P v l h H2) → sE g fa σ H fun v H1 => sO g (ePart fl) σ H1 fun l H2 => sO g (ePart fh) σ H2 fun h H3 => P v l h H3 := fun P k =>
    ⟨B, Λ, F, ι, m, x1, m1, rl, e1, fun v H1 F1 ι1 r1 g1 p1 h1 => ⟨B, Λ, F1, ι1, m1, l, m2, r1, e2, fun H2 F2 ι2 r2 g2 p2 => ⟨B, Λ, F2, ι2, m2, h, _, r2, e3, fun H3 F3 ι3 r3 g3 p3 => k v H3 F3 ι3 r3 ((g1.trans g2).trans g3) ((p1.trans p2).trans p3) (r3.dat ((h1.gr g2 p2).gr g3 p3) w4)⟩⟩⟩
  unfold dCut at w5
  split at w5
  · split at w5
    · cases w5
      refine ⟨_, pe_slice sl_list ha hl hh, go _ fun v H2 F2 ι2 r2 gg pp hv => ?_⟩
      cases hv with
      | @lst a vs _ h1 r =>
        refine ⟨a, vs, rfl, .inl (.inl h1), fun p hp => ?_⟩
        obtain ⟨r3, g3⟩ := r2.alloc (o := .lst (cutV vs l h)) hp
        exact q _ _ _ ι2 r3 (gg.trans g3) pp (.lst upd_same ((r.cut l h).gr g3))
    · cases w5
  · rename_i xs
    cases w5
    refine ⟨_, pe_slice sl_tupA ha hl hh, go _ fun v H2 F2 ι2 r2 gg pp hv => ?_⟩
    cases hv with
    | @tup a vs _ k1 h1 r =>
      refine ⟨a, vs, rfl, .inl (.inl h1), fun ⟨e1, e2⟩ => ?_, fun _ p hp => ?_⟩
      · have hcut : cutD xs l h = xs := by
          unfold cutD
          rw [← r.length, e1, e2]
          show (List.drop 0 xs).take (vs.length - 0) = xs
          rw [r.length, List.drop_zero, Nat.sub_zero, List.take_length]
        rw [hcut] at q
        exact q _ H2 F2 ι2 r2 gg pp (.tup k1 r)
      · obtain ⟨r3, g3⟩ := r2.alloc (o := .tup (cutV vs l h)) hp
        exact q _ _ _ ι2 r3 (gg.trans g3) pp (.tup upd_same ((r.cut l h).gr g3))
  · split at w5
    · rename_i hz
      cases w5
      refine ⟨_, pe_slice sl_str ha hl hh, go _ fun v H2 F2 ι2 r2 gg pp hv => ?_⟩
      cases hv
      exact ⟨_, rfl, sizeOk_line hz, q _ H2 F2 ι2 r2 gg pp (.str _)⟩
    · cases w5
  · cases w5
end
/-! # fields -/
/-- what is known of the classes -/
structure FldOk (g : Gb) (f : Str) : Prop where
  ex : ∀ c C, g.cls c = some C → Cls g.K C ∧ NoAttr g.K C f
theorem lookup_v {g : Gb} {F : Hp} {f : Str} {d : D} : ∀ {fs : List (Str × V)} {ds : List (Str × D)}, fs.map (·.1) = ds.map (·.1) → RVs g F (fs.map (·.2)) (ds.map (·.2)) → ds.lookup f = some d → ∃ v, fs.lookup f = some v ∧ RV g F v d
  | [], [], _, _, e => by cases e
  | [], _ :: _, h, _, _ => by simp at h
  | _ :: _, [], h, _, _ => by simp at h
  | (a, v) :: fs, (b, d') :: ds, h, r, e => by
    simp only [List.map_cons, List.cons.injEq] at h
    obtain ⟨rfl, h⟩ := h
    cases r with
    | cons hv hr =>
      rw [List.lookup_cons] at e ⊢
      split at e
      · cases e; exact ⟨v, rfl, hv⟩
      · exact lookup_v h hr e
theorem iFld {X : Cx} {g : Gb} {e : Expr} {f : Str} {pos : Pos} {fe : E Val} (hK : X.K = g.K) (hf : FldOk g f) (h : PE X e (sE g fe)) (hb : attributeBase e f X.env (eval e X.env) = eval e X.env := by rfl) : PE X (.Attribute e f pos) (sE g (eUn (getFld f) fe)) := (pe_fld h hb).via fun σ H Q ⟨B, Λ, F, ι, m, x, m', rl, e, q⟩ => by
  obtain ⟨x1, m1, e1, y1⟩ := bind_ok e
  obtain ⟨d, m3, e3, y3⟩ := bind_ok y1
  obtain ⟨w3, rfl⟩ := rd_ok e3
  obtain ⟨z, m5, e5, y5⟩ := bind_ok y3
  obtain ⟨w5, rfl⟩ := opt_ok e5
  cases y5
  refine ⟨B, Λ, F, ι, m, x1, _, rl, e1, fun v H1 F1 ι1 r1 g1 p1 h1 => ?_⟩
  have h2 := r1.dat h1 w3
  unfold getFld at w5
  split at w5
  · cases h2 with
    | @obj a C dx c fs ds k1 k2 k3 k4 =>
      obtain ⟨v, k5, k6⟩ := lookup_v k3 k4 w5
      obtain ⟨k7, k8⟩ := hf.ex _ _ k2
      rw [hK]
      exact ⟨a, C, dx, fs, v, rfl, k1, k7, k8, k5, q v H1 F1 ι1 r1 g1 p1 k6⟩
  · cases w5

/-! # built-ins -/
def one (f : D → Option D) : List D → Option D
  | [d] => f d
  | _ => none
theorem oneS {g : Gb} {r : List V → Hp → VK → Prop} {f : D → Option D} (h : ∀ F H v d z Q, Sub F H → RT g F H v d → f d = some z → Want g F H z Q → r [v] H Q) : CallS g r (one f) := fun F H vs ds z Q sb ha hf hq => by
  unfold one at hf
  split at hf
  · obtain ⟨v, rfl, hv⟩ := all2_1 ha
    exact h F H v _ z Q sb hv hf hq
  · cases hf
def two (f : D → D → Option D) : List D → Option D
  | [d, e] => f d e
  | _ => none
theorem twoS {g : Gb} {r : List V → Hp → VK → Prop} {f : D → D → Option D} (h : ∀ F H v w d e z Q, Sub F H → RT g F H v d → RT g F H w e → f d e = some z → Want g F H z Q → r [v, w] H Q) : CallS g r (two f) := fun F H vs ds z Q sb ha hf hq => by
  unfold two at hf
  split at hf
  · obtain ⟨v, w, rfl, hv, hw⟩ := all2_2 ha
    exact h F H v w _ _ z Q sb hv hw hf hq
  · cases hf
/-! len -/
def dLen : D → Option D
  | .lst xs => some (.int xs.length)
  | .tup xs => some (.int xs.length)
  | .ktup xs => some (.int xs.length)
  | .scr xs => some (.int xs.length)
  | .str z => if sizeOk z.length then some (.int z.length) else none
  | .dk kvs => if sizeOk kvs.length then some (.int kvs.length) else none
  | .dt kvs => if sizeOk kvs.length then some (.int kvs.length) else none
  | _ => none
/-- a dict of n entries stands at a -/
def DictN (H : Hp) (a : Addr) (n : Nat) : Prop := (∃ kvs, Rd H a (.dK kvs) ∧ n = kvs.length) ∨ ∃ kvs, Rd H a (.dT kvs) ∧ n = kvs.length
theorem dict_raw {X : Cx} {pins : List (Addr × Obj)} {σ : L2.St} {H : Hp} {s : Shared} {a : Addr} {n : Nat} (I : L2.Inv X pins σ H s) (h : DictN H a n) : (a == sysModules) = false ∧ ∃ es ep, PySem.Heap.DictRaw s.heap a es ep ∧ es.size = n := by
  rcases h with ⟨kvs, e, rfl⟩ | ⟨kvs, e, rfl⟩
  · obtain ⟨_, z2, vs, rl, o, es, ep, ho, hc, hd, hk, hp, hn⟩ := dk_rd I.hok e
    refine ⟨z2, es, ep, ⟨o, ho, hc, hd⟩, ?_⟩
    rw [rl.length, ← hp.length, Array.length_toList]
  · obtain ⟨_, z2, vs, rl, o, es, ep, ho, hc, hd, hk, hp, hn⟩ := dt_rd I.hok e
    refine ⟨z2, es, ep, ⟨o, ho, hc, hd⟩, ?_⟩
    have := congrArg List.length hk
    rw [List.length_map, Array.length_toList] at this
    rw [this, Paired.length rl]
theorem len_dict {X : Cx} {pins : List (Addr × Obj)} {σ : L2.St} {H : Hp} {s : Shared} {a : Addr} {n : Nat} {A : Around} {E : Value → Shared → Prop} {Q : Value → Shared → Prop} (I : L2.Inv X pins σ H s) (h : DictN H a n) (hz : n < 2 ^ 62) (q : ∀ t s', L2.Inv X pins σ H s' → Q (.int n t) s') : wpAny (model X.prog X.w) A (call (.builtin "len") [.ref a]) Q E s := by
  obtain ⟨z2, es, ep, raw, rfl⟩ := dict_raw I h
  have ty : s.TypeIs (.ref a) "dict" := by obtain ⟨o, ho, hc, _⟩ := raw; exact ⟨o, ho, hc.1⟩
  refine Calls.call_function_entry PySem.kind_len PySem.plain_len PySem.entry_len (PySem.args_len1 _) ?_
  unfold Builtin.«len»
  refine wpAny_bind (m := oneArg "len" _) (wpAny_pure (wpAny_bind (m := callSpecial? (.ref a) (Str.ofString "__len__")) (wpAny_callSpecial?_slot (name := Str.ofString "__len__") ty PySem.F.slot_dict_len (PySem.call_len_raw z2 raw ?_))))
  refine wpAny_bind (wpAny_holding (wpAny_pure (wpAny_bind (wpAny_letGo ?_))))
  show wpAny _ _ (if ((es.size : Nat) : Int) < 0 then _ else _) _ _ _
  rw [if_neg (by omega)]
  show wpAny _ _ (if ((es.size : Nat) : Int) ≥ 2 ^ 63 then _ else _) _ _ _
  rw [if_neg (by omega)]
  exact wpAny_bind (wpAny_mkInt (wpAny_pure ⟨_, rfl, q _ _ ((I.tok _).tok _)⟩))
def rLenA (K : PySem.W.Frag) : List V → Hp → VK → Prop := fun xs H Q => (∃ x n, xs = [x] ∧ LenV K x H n ∧ Q (.int n) H) ∨ ∃ a n, xs = [.ref a] ∧ DictN H a n ∧ n < 2 ^ 62 ∧ Q (.int n) H
theorem call_lenA {X : Cx} : CallR X (.builtin "len") (rLenA X.K) := fun pins s σ H xs us Q I r h => by
  rcases h with h | ⟨a, n, rfl, h1, h2, q⟩
  · exact call_len pins s σ H xs us Q I r h
  · rw [Vals.ref1 r]
    exact len_dict I h1 h2 fun t s' I' => ⟨.int n, H, I', ⟨_, rfl⟩, q⟩
theorem lenS (g : Gb) : CallS g (rLenA g.K) (one dLen) := oneS fun F H v d z Q sb hv hf hq => by
  unfold dLen at hf
  split at hf
  · cases hf
    cases hv with
    | lst h r => exact .inl ⟨_, _, rfl, .inl ⟨_, .inl (.inl h), r.length.symm⟩, hq.1 _ (.int _)⟩
  · cases hf
    cases hv with
    | tup _ h r => exact .inl ⟨_, _, rfl, .inr ⟨_, .inl (.inl h), r.length.symm⟩, hq.1 _ (.int _)⟩
  · cases hf
    cases hv with
    | ktup h r => exact .inl ⟨_, _, rfl, .inr ⟨_, h, r.length.symm⟩, hq.1 _ (.int _)⟩
  · cases hf
    cases hv with
    | scr h => exact .inl ⟨_, _, rfl, .inl ⟨_, h, (List.length_map ..).symm⟩, hq.1 _ (.int _)⟩
  · split at hf
    · rename_i hz
      cases hf
      cases hv
      exact .inl ⟨_, _, rfl, ⟨sizeOk_line hz, rfl⟩, hq.1 _ (.int _)⟩
    · cases hf
  · split at hf
    · rename_i hz
      cases hf
      cases hv with
      | dk h k r => exact .inr ⟨_, _, rfl, .inl ⟨_, h, by have := congrArg List.length k; rw [List.length_map, List.length_map] at this; exact this.symm⟩, Nat.lt_of_le_of_lt (of_decide_eq_true hz) (by decide), hq.1 _ (.int _)⟩
    · cases hf
  · split at hf
    · rename_i hz
      cases hf
      cases hv with
      | dt h k r => exact .inr ⟨_, _, rfl, .inr ⟨_, h, by have := congrArg List.length k; rw [List.length_map, List.length_map] at this; exact this.symm⟩, Nat.lt_of_le_of_lt (of_decide_eq_true hz) (by decide), hq.1 _ (.int _)⟩
    · cases hf
  · cases hf
/-! int, tuple, list, str, abs -/
def dInt : D → Option D
  | .int i => some (.int i)
  | .bl k => some (.int (if k then 1 else 0))
  | _ => none
def rIntA : List V → Hp → VK → Prop := fun xs H Q => (∃ i, xs = [.int i] ∧ Q (.int i) H) ∨ ∃ k, xs = [.bl k] ∧ Q (.int (if k then 1 else 0)) H
theorem call_intA {X : Cx} : CallR X (.type "int") rIntA := call_int1
theorem intS (g : Gb) : CallS g rIntA (one dInt) := oneS fun F H v d z Q sb hv hf hq => by
  unfold dInt at hf
  split at hf
  · cases hf; cases hv; exact .inl ⟨_, rfl, hq.1 _ (.int _)⟩
  · cases hf; cases hv; exact .inr ⟨_, rfl, hq.1 _ (.int _)⟩
  · cases hf
def dTuple : D → Option D
  | .lst xs => some (.tup xs)
  | .tup xs => some (.tup xs)
  | _ => none
def rTupleA (K : PySem.W.Frag) : List V → Hp → VK → Prop := fun xs H Q => ∃ p ys, xs = [.ref p] ∧ ((SqL K H p ys ∧ ∀ l, H l = none → Q (.ref l) (upd H l (.tup ys))) ∨ (SqT K H p ys ∧ Q (.ref p) H))
theorem call_tupleA {X : Cx} : CallR X (.type "tuple") (rTupleA X.K) := call_tuple_of
theorem tupleS (g : Gb) : CallS g (rTupleA g.K) (one dTuple) := oneS fun F H v d z Q sb hv hf hq => by
  unfold dTuple at hf
  split at hf
  · cases hf
    cases hv with
    | lst h r => exact ⟨_, _, rfl, .inl ⟨.inl (.inl h), fun p hp => hq.2 p _ hp (.tup upd_same (r.gr (Gr.new (freeF sb hp))))⟩⟩
  · cases hf
    cases hv with
    | tup k h r => exact ⟨_, _, rfl, .inr ⟨.inl (.inl h), hq.1 _ (.tup k r)⟩⟩
  · cases hf
def dList : D → Option D
  | .lst xs => some (.lst xs)
  | .tup xs => some (.lst xs)
  | .ktup xs => some (.lst xs)
  | .scr ns => some (.lst (ns.map .int))
  | _ => none
def rListA (K : PySem.W.Frag) : List V → Hp → VK → Prop := fun xs H Q => ∃ p ys, xs = [.ref p] ∧ (SqL K H p ys ∨ SqT K H p ys) ∧ ∀ l, H l = none → Q (.ref l) (upd H l (.lst ys))
theorem call_listA {X : Cx} : CallR X (.type "list") (rListA X.K) := call_list_of
theorem ints_v (g : Gb) (F : Hp) : ∀ ns : List Int, RVs g F (ns.map V.int) (ns.map D.int)
  | [] => .nil
  | n :: ns => .cons (.int n) (ints_v g F ns)
theorem listS (g : Gb) : CallS g (rListA g.K) (one dList) := oneS fun F H v d z Q sb hv hf hq => by
  unfold dList at hf
  split at hf
  · cases hf
    cases hv with
    | lst h r => exact ⟨_, _, rfl, .inl (.inl (.inl h)), fun p hp => hq.2 p _ hp (.lst upd_same (r.gr (Gr.new (freeF sb hp))))⟩
  · cases hf
    cases hv with
    | tup k h r => exact ⟨_, _, rfl, .inr (.inl (.inl h)), fun p hp => hq.2 p _ hp (.lst upd_same (r.gr (Gr.new (freeF sb hp))))⟩
  · cases hf
    cases hv with
    | ktup h r => exact ⟨_, _, rfl, .inr h, fun p hp => hq.2 p _ hp (.lst upd_same (r.gr (Gr.new (freeF sb hp))))⟩
  · cases hf
    cases hv with
    | scr h => exact ⟨_, _, rfl, .inl h, fun p hp => hq.2 p _ hp (.lst upd_same (ints_v g _ _))⟩
  · cases hf
/-- list(..) as a new object of its own -/
def nCall (f : List D → Option D) (as : E (List Val)) : E D := as.bind fun xs => (rds xs).bind fun ds => .opt (f ds)
theorem nListOf {X : Cx} {g : Gb} {e : Expr} {es : List Expr} {p pos : Pos} {as : E (List Val)} (hK : X.K = g.K) (hm : X.mg "list" = none) (ha : PA X (e :: es) (sA g as)) (hg : Gl X "list" := by rfl) (he : starEach (e :: es) X.env = (false, eval e X.env) :: starEach es X.env := by rfl) (hpl : (backTo pos (starEach es X.env)).any (·.1) = false := by rfl) :
    PE X (.Call (.Name "list" p) (e :: es) [] pos) (sN g (nCall (one dList) as)) := (pe_callTy call_listA hg hm (by decide +kernel) ha (by decide) (by decide) he hpl).via fun σ H Q ⟨B, Λ, F, ι, m, z, m', rl, e, q⟩ => by
  obtain ⟨x1, m1, e1, y1⟩ := bind_ok e
  obtain ⟨ds, m3, e3, y3⟩ := bind_ok y1
  obtain ⟨w5, rfl⟩ := opt_ok y3
  refine ⟨B, Λ, F, ι, m, x1, m1, rl, e1, fun v H1 F1 ι1 r1 g1 p1 h1 => ?_⟩
  obtain ⟨h2, rfl⟩ := rds_ok r1 h1 e3
  unfold one at w5
  split at w5
  · obtain ⟨v, rfl, hv⟩ := all2_1 h2
    unfold dList at w5
    have fin : ∀ (ys : List V) (ds : List D), RVs g F1 ys ds → z = .lst ds → ∀ l, H1 l = none → Q (.ref l) (upd H1 l (.lst ys)) := fun ys ds r ez l hl => by
      subst ez
      exact q l _ F1 ι1 _ (r1.lay hl) g1 p1 (.lst upd_same r)
    rw [hK]
    split at w5
    · cases w5
      cases hv with
      | lst h r => exact ⟨_, _, rfl, .inl (.inl (.inl h)), fin _ _ r rfl⟩
    · cases w5
      cases hv with
      | tup k h r => exact ⟨_, _, rfl, .inr (.inl (.inl h)), fin _ _ r rfl⟩
    · cases w5
      cases hv with
      | ktup h r => exact ⟨_, _, rfl, .inr h, fin _ _ r rfl⟩
    · cases w5
      cases hv with
      | scr h => exact ⟨_, _, rfl, .inl h, fin _ _ (ints_v g _ _) rfl⟩
    · cases w5
  · cases w5
def dStr : D → Option D
  | .int i => if decide (i.natAbs.log2 < 1920) then some (.str (toString i)) else none
  | _ => none
def rStrA : List V → Hp → VK → Prop := fun xs H Q => ∃ i : Int, xs = [.int i] ∧ i.natAbs.log2 < 1920 ∧ Q (.str (toString i)) H
theorem call_strA {X : Cx} : CallR X (.type "str") rStrA := call_str_int
theorem strS (g : Gb) : CallS g rStrA (one dStr) := oneS fun F H v d z Q sb hv hf hq => by
  unfold dStr at hf
  split at hf
  · split at hf
    · rename_i hz
      cases hf; cases hv; exact ⟨_, rfl, of_decide_eq_true hz, hq.1 _ (.str _)⟩
    · cases hf
  · cases hf
/-! sum, all, any, max, min -/
def intsD : List D → Option (List Int)
  | [] => some []
  | d :: ds => match intD d, intsD ds with
    | some k, some ks => some (k :: ks)
    | _, _ => none
def boolsD : List D → Option (List Bool)
  | [] => some []
  | d :: ds => match boolOf d, boolsD ds with
    | some k, some ks => some (k :: ks)
    | _, _ => none
theorem intsD_v {g : Gb} {F : Hp} : ∀ {vs : List V} {ds : List D} {ns : List Int}, RVs g F vs ds → intsD ds = some ns → vs = ns.map V.int
  | _, _, _, .nil, e => by cases e; rfl
  | _, d :: ds, _, .cons h r, e => by
    unfold intsD at e
    cases e1 : intD d with
    | none => rw [e1] at e; cases e
    | some k =>
      cases e2 : intsD ds with
      | none => rw [e1, e2] at e; cases e
      | some ks =>
        rw [e1, e2] at e
        cases e
        cases intD_ok e1
        cases h
        rw [List.map_cons, ← intsD_v r e2]
theorem boolsD_v {g : Gb} {F : Hp} : ∀ {vs : List V} {ds : List D} {ns : List Bool}, RVs g F vs ds → boolsD ds = some ns → vs = ns.map V.bl
  | _, _, _, .nil, e => by cases e; rfl
  | _, d :: ds, _, .cons h r, e => by
    unfold boolsD at e
    cases e1 : boolOf d with
    | none => rw [e1] at e; cases e
    | some k =>
      cases e2 : boolsD ds with
      | none => rw [e1, e2] at e; cases e
      | some ks =>
        rw [e1, e2] at e
        cases e
        cases boolOf_ok e1
        cases h
        rw [List.map_cons, ← boolsD_v r e2]
def lstD : D → Option (List D)
  | .lst xs => some xs
  | .scr ns => some (ns.map .int)
  | _ => none
theorem lstD_v {g : Gb} {F H : Hp} {v : V} {d : D} {ds : List D} (hv : RT g F H v d) (h : lstD d = some ds) : ∃ a vs, v = .ref a ∧ SqL g.K H a vs ∧ RVs g F vs ds := by
  unfold lstD at h
  split at h
  · cases h
    cases hv with
    | lst h r => exact ⟨_, _, rfl, .inl (.inl h), r⟩
  · cases h
    cases hv with
    | scr h => exact ⟨_, _, rfl, h, ints_v g F _⟩
  · cases h
def dSum (d : D) : Option D := ((lstD d).bind intsD).map fun ns => .int ns.sum
theorem sumS (g : Gb) : CallS g (rSum g.K) (one dSum) := oneS fun F H v d z Q sb hv hf hq => by
  obtain ⟨ns, h1, rfl⟩ := Option.map_eq_some_iff.mp hf
  obtain ⟨ds, h2, h3⟩ := Option.bind_eq_some_iff.mp h1
  obtain ⟨a, vs, rfl, h4, h5⟩ := lstD_v hv h2
  cases intsD_v h5 h3
  exact ⟨a, ns, rfl, h4, hq.1 _ (.int _)⟩
def dAll (d : D) : Option D := ((lstD d).bind boolsD).map fun bs => .bl (bs.all id)
def dAny (d : D) : Option D := ((lstD d).bind boolsD).map fun bs => .bl (bs.any id)
theorem allS (g : Gb) : CallS g (rAll g.K) (one dAll) := oneS fun F H v d z Q sb hv hf hq => by
  obtain ⟨ns, h1, rfl⟩ := Option.map_eq_some_iff.mp hf
  obtain ⟨ds, h2, h3⟩ := Option.bind_eq_some_iff.mp h1
  obtain ⟨a, vs, rfl, h4, h5⟩ := lstD_v hv h2
  cases boolsD_v h5 h3
  exact ⟨a, ns, rfl, h4, hq.1 _ (.bl _)⟩
theorem anyS (g : Gb) : CallS g (rAny g.K) (one dAny) := oneS fun F H v d z Q sb hv hf hq => by
  obtain ⟨ns, h1, rfl⟩ := Option.map_eq_some_iff.mp hf
  obtain ⟨ds, h2, h3⟩ := Option.bind_eq_some_iff.mp h1
  obtain ⟨a, vs, rfl, h4, h5⟩ := lstD_v hv h2
  cases boolsD_v h5 h3
  exact ⟨a, ns, rfl, h4, hq.1 _ (.bl _)⟩
def maxI : Int → List Int → Int
  | a, [] => a
  | a, b :: r => maxI (if b > a then b else a) r
def minI : Int → List Int → Int
  | a, [] => a
  | a, b :: r => minI (if b < a then b else a) r
theorem maxI_spec : ∀ (r : List Int) (a : Int), maxI a r ∈ a :: r ∧ ∀ y ∈ a :: r, y ≤ maxI a r
  | [], a => ⟨by simp [maxI], by simp [maxI]⟩
  | b :: r, a => by
    obtain ⟨h1, h2⟩ := maxI_spec r (if b > a then b else a)
    have h3 := h2 _ (List.mem_cons_self)
    unfold maxI
    generalize hm : maxI (if b > a then b else a) r = m at *
    constructor
    · rcases List.mem_cons.mp h1 with e | e
      · rw [e]; split <;> simp
      · exact List.mem_cons_of_mem _ (List.mem_cons_of_mem _ e)
    · intro y hy
      rcases List.mem_cons.mp hy with rfl | hy
      · split at h3 <;> omega
      · rcases List.mem_cons.mp hy with rfl | hy
        · split at h3 <;> omega
        · exact h2 y (List.mem_cons_of_mem _ hy)
theorem minI_spec : ∀ (r : List Int) (a : Int), minI a r ∈ a :: r ∧ ∀ y ∈ a :: r, minI a r ≤ y
  | [], a => ⟨by simp [minI], by simp [minI]⟩
  | b :: r, a => by
    obtain ⟨h1, h2⟩ := minI_spec r (if b < a then b else a)
    have h3 := h2 _ (List.mem_cons_self)
    unfold minI
    generalize hm : minI (if b < a then b else a) r = m at *
    constructor
    · rcases List.mem_cons.mp h1 with e | e
      · rw [e]; split <;> simp
      · exact List.mem_cons_of_mem _ (List.mem_cons_of_mem _ e)
    · intro y hy
      rcases List.mem_cons.mp hy with rfl | hy
      · split at h3 <;> omega
      · rcases List.mem_cons.mp hy with rfl | hy
        · split at h3 <;> omega
        · exact h2 y (List.mem_cons_of_mem _ hy)
def dMax1 (d : D) : Option D := ((lstD d).bind intsD).bind fun ns => match ns with
  | [] => none
  | a :: r => some (.int (maxI a r))
def dMin1 (d : D) : Option D := ((lstD d).bind intsD).bind fun ns => match ns with
  | [] => none
  | a :: r => some (.int (minI a r))
theorem max1S (g : Gb) : CallS g (rMax g.K) (one dMax1) := oneS fun F H v d z Q sb hv hf hq => by
  obtain ⟨ns, h1, h0⟩ := Option.bind_eq_some_iff.mp hf
  obtain ⟨ds, h2, h3⟩ := Option.bind_eq_some_iff.mp h1
  obtain ⟨a, vs, rfl, h4, h5⟩ := lstD_v hv h2
  cases intsD_v h5 h3
  cases ns with
  | nil => cases h0
  | cons b r =>
    cases h0
    refine ⟨a, b :: r, rfl, h4, by simp, fun m hm hl => ?_⟩
    obtain ⟨k1, k2⟩ := maxI_spec r b
    have : m = maxI b r := Int.le_antisymm (k2 m hm) (hl _ k1)
    rw [this]
    exact hq.1 _ (.int _)
theorem min1S (g : Gb) : CallS g (rMin g.K) (one dMin1) := oneS fun F H v d z Q sb hv hf hq => by
  obtain ⟨ns, h1, h0⟩ := Option.bind_eq_some_iff.mp hf
  obtain ⟨ds, h2, h3⟩ := Option.bind_eq_some_iff.mp h1
  obtain ⟨a, vs, rfl, h4, h5⟩ := lstD_v hv h2
  cases intsD_v h5 h3
  cases ns with
  | nil => cases h0
  | cons b r =>
    cases h0
    refine ⟨a, b :: r, rfl, h4, by simp, fun m hm hl => ?_⟩
    obtain ⟨k1, k2⟩ := minI_spec r b
    have : m = minI b r := Int.le_antisymm (hl _ k1) (k2 m hm)
    rw [this]
    exact hq.1 _ (.int _)
def dMax2 : D → D → Option D
  | .int i, .int j => some (.int (if j > i then j else i))
  | _, _ => none
def dMin2 : D → D → Option D
  | .int i, .int j => some (.int (if j < i then j else i))
  | _, _ => none
def rMax2A : List V → Hp → VK → Prop := fun xs H Q => ∃ i j, xs = [.int i, .int j] ∧ Q (.int (if j > i then j else i)) H
def rMin2A : List V → Hp → VK → Prop := fun xs H Q => ∃ i j, xs = [.int i, .int j] ∧ Q (.int (if j < i then j else i)) H
theorem call_max2A {X : Cx} (hc : X.calm = true) : CallR X (.builtin "max") rMax2A := call_max2 hc
theorem call_min2A {X : Cx} (hc : X.calm = true) : CallR X (.builtin "min") rMin2A := call_min2 hc
theorem max2S (g : Gb) : CallS g rMax2A (two dMax2) := twoS fun F H v w d e z Q sb hv hw hf hq => by
  unfold dMax2 at hf
  split at hf
  · cases hf; cases hv; cases hw; exact ⟨_, _, rfl, hq.1 _ (.int _)⟩
  · cases hf
theorem min2S (g : Gb) : CallS g rMin2A (two dMin2) := twoS fun F H v w d e z Q sb hv hw hf hq => by
  unfold dMin2 at hf
  split at hf
  · cases hf; cases hv; cases hw; exact ⟨_, _, rfl, hq.1 _ (.int _)⟩
  · cases hf
def dAbs : D → Option D
  | .int i => some (.int (if i < 0 then -i else i))
  | _ => none
def rAbsA : List V → Hp → VK → Prop := fun xs H Q => ∃ i, xs = [.int i] ∧ Q (.int (if i < 0 then -i else i)) H
theorem call_absA {X : Cx} : CallR X (.builtin "abs") rAbsA := call_abs
theorem absS (g : Gb) : CallS g rAbsA (one dAbs) := oneS fun F H v d z Q sb hv hf hq => by
  unfold dAbs at hf
  split at hf
  · cases hf; cases hv; exact ⟨_, rfl, hq.1 _ (.int _)⟩
  · cases hf
def dNeg : D → Option D
  | .int i => some (.int (-i))
  | _ => none
theorem negS (g : Gb) : UnS g (rU fun i => .int (-i)) dNeg := fun F H v d z Q sb hv hf hq => by
  unfold dNeg at hf
  split at hf
  · cases hf; cases hv; exact ⟨_, rfl, hq.1 _ (.int _)⟩
  · cases hf

/-! # isinstance -/
inductive TyN where
  | b (n : String) | c (c : Str)
  deriving DecidableEq
def tyNm : D → Option TyN
  | .non => some (.b "NoneType")
  | .bl _ => some (.b "bool")
  | .int _ => some (.b "int")
  | .str _ => some (.b "str")
  | .tup _ => some (.b "tuple")
  | .ktup _ => some (.b "tuple")
  | .lst _ => some (.b "list")
  | .scr _ => some (.b "list")
  | .dk _ => some (.b "dict")
  | .obj c _ => some (.c c)
  | _ => none
def clNm : D → Option TyN
  | .ty n => some (.b n)
  | .kls c => some (.c c)
  | _ => none
def tys : List String := ["int", "bool", "str", "tuple", "list", "dict"]
def isSub : TyN → TyN → Option Bool
  | .b a, .b n => if tys.contains n then some (a == n || (a == "bool" && n == "int")) else none
  | .c _, .b n => if tys.contains n then some false else none
  | .b _, .c _ => some false
  | .c c, .c e => some (decide (c = e))
def isSubs (t : TyN) : List TyN → Option Bool
  | [] => some false
  | c :: r => match isSub t c, isSubs t r with
    | some b, some b' => some (b || b')
    | _, _ => none
def clNms : List D → Option (List TyN)
  | [] => some []
  | d :: ds => match clNm d, clNms ds with
    | some k, some ks => some (k :: ks)
    | _, _ => none
def dIsi : D → D → Option D
  | d, .tup cs => match tyNm d, clNms cs with
    | some t, some ts => (isSubs t ts).map .bl
    | _, _ => none
  | d, c => match tyNm d, clNm c with
    | some t, some u => (isSub t u).map .bl
    | _, _ => none
/-- what is known of the classes -/
structure ClsOk (g : Gb) : Prop where
  cl : ∀ c C, g.cls c = some C → Cls g.K C
  ha : ∀ c C, g.cls c = some C → PySem.W.findIn g.K (.ref C) "__class__" = some (some (.builtin "object.__class__"))
  hn : PySem.W.specialIn g.K (.builtin "object.__class__") "__get__" = some (some (.builtin "getset_descriptor.__get__"))
  ht : PySem.W.takesIn g.K (.builtin "object.__class__") = some true
  hm : ∀ c C, g.cls c = some C → PySem.W.mroIn g.K C (.type "object") = some true
  ct : ∀ c C, g.cls c = some C → ∀ n, tys.contains n = true → PySem.W.kitOne g.K (.ref C) (.type n) = some false
  tc : ∀ c C, g.cls c = some C → ∀ n ∈ ["NoneType", "int", "bool", "str", "tuple", "list", "dict"], PySem.W.kitOne g.K (.type n) (.ref C) = some false
  cc : ∀ c C e C', g.cls c = some C → g.cls e = some C' → PySem.W.kitOne g.K (.ref C) (.ref C') = some (decide (c = e))
def tyVal (g : Gb) : TyN → Option Value
  | .b n => some (.type n)
  | .c c => (g.cls c).map .ref
theorem kitB_all : ∀ a ∈ ["NoneType", "int", "bool", "str", "tuple", "list", "dict"], ∀ n ∈ tys, kitB a n = some (a == n || (a == "bool" && n == "int")) := by decide +kernel
theorem ty_v {g : Gb} {F H : Hp} {v : V} {d : D} {t : TyN} (ok : ClsOk g) (hv : RT g F H v d) (h : tyNm d = some t) : ∃ u, tyVal g t = some u ∧ TyX g.K H v u ∧ (∀ n, t = .b n → n ∈ ["NoneType", "int", "bool", "str", "tuple", "list", "dict"]) := by
  have sqL : ∀ {a vs}, SqL g.K H a vs → TyX g.K H (.ref a) (.type "list") := fun {a vs} h => by
    rcases h with (h | ⟨o, h⟩) | ⟨o, its, n, h1, h2, _⟩
    · exact .base (.lst h)
    · exact .base (.frz h)
    · exact .kList h1 h2
  have sqT : ∀ {a vs}, SqT g.K H a vs → TyX g.K H (.ref a) (.type "tuple") := fun {a vs} h => by
    rcases h with (h | ⟨o, h⟩) | ⟨o, its, n, h1, h2, _⟩
    · exact .base (.tup h)
    · exact .fTuple h
    · exact .kTuple h1 h2
  cases hv with
  | non => cases h; exact ⟨_, rfl, .base .non, fun n e => by cases e; decide⟩
  | bl b => cases h; exact ⟨_, rfl, .base (.bl b), fun n e => by cases e; decide⟩
  | int i => cases h; exact ⟨_, rfl, .base (.int i), fun n e => by cases e; decide⟩
  | str x => cases h; exact ⟨_, rfl, .base (.str x), fun n e => by cases e; decide⟩
  | tup k h0 r => cases h; exact ⟨_, rfl, .base (.tup h0), fun n e => by cases e; decide⟩
  | ktup h0 r => cases h; exact ⟨_, rfl, sqT h0, fun n e => by cases e; decide⟩
  | lst h0 r => cases h; exact ⟨_, rfl, .base (.lst h0), fun n e => by cases e; decide⟩
  | scr h0 => cases h; exact ⟨_, rfl, sqL h0, fun n e => by cases e; decide⟩
  | dk h0 k r =>
    cases h
    refine ⟨_, rfl, ?_, fun n e => by cases e; decide⟩
    rcases h0 with h0 | ⟨o, h0⟩
    · exact .base (.dK h0)
    · exact .fDict h0
  | dt h0 k r => cases h
  | obj h0 hc k r =>
    cases h
    exact ⟨_, by show (g.cls _).map Value.ref = _; rw [hc]; rfl, .base (.ins h0 (ok.cl _ _ hc) (ok.ha _ _ hc) ok.hn ok.ht (ok.hm _ _ hc)), fun n e => by cases e⟩
  | ty n => cases h
  | kls hc => cases h
theorem cl_v {g : Gb} {F H : Hp} {v : V} {d : D} {t : TyN} (hv : RV g F v d) (h : clNm d = some t) : ∃ u, tyVal g t = some u ∧ ClsV v u := by
  cases hv <;> first
    | (cases h; done)
    | (cases h; exact ⟨_, rfl, .ty _⟩)
    | (rename_i hc; cases h; exact ⟨_, by show (g.cls _).map Value.ref = _; rw [hc]; rfl, .own _⟩)
theorem sub_v {g : Gb} {t u : TyN} {a c : Value} {b : Bool} (ok : ClsOk g) (ha : tyVal g t = some a) (hc : tyVal g u = some c) (hb : ∀ n, t = .b n → n ∈ ["NoneType", "int", "bool", "str", "tuple", "list", "dict"]) (h : isSub t u = some b) : PySem.W.kitOne g.K a c = some b := by
  cases t with
  | b n =>
    cases ha
    cases u with
    | b k =>
      cases hc
      have h : (if tys.contains k = true then some (n == k || (n == "bool" && k == "int")) else none) = some b := h
      split at h
      · rename_i hk
        rw [← h]
        exact kit_ty (kitB_all n (hb n rfl) k (by simpa using hk))
      · cases h
    | c k =>
      cases h
      obtain ⟨C, hC, rfl⟩ := Option.map_eq_some_iff.mp hc
      exact ok.tc k C hC n (hb n rfl)
  | c n =>
    obtain ⟨C, hC, rfl⟩ := Option.map_eq_some_iff.mp ha
    cases u with
    | b k =>
      cases hc
      have h : (if tys.contains k = true then some false else none) = some b := h
      split at h
      · rename_i hk
        rw [← h]
        exact ok.ct n C hC k hk
      · cases h
    | c k =>
      cases h
      obtain ⟨C', hC', rfl⟩ := Option.map_eq_some_iff.mp hc
      exact ok.cc n C k C' hC hC'
theorem subs_v {g : Gb} {F : Hp} {t : TyN} {a : Value} (ok : ClsOk g) (ha : tyVal g t = some a) (hb : ∀ n, t = .b n → n ∈ ["NoneType", "int", "bool", "str", "tuple", "list", "dict"]) : ∀ {vs : List V} {ds : List D} {ts : List TyN} {b : Bool}, RVs g F vs ds → clNms ds = some ts → isSubs t ts = some b → ∃ us, Paired ClsV vs us ∧ PySem.W.kitAny g.K a us = some b
  | _, _, _, _, .nil, e, h => by cases e; cases h; exact ⟨[], .nil, rfl⟩
  | _, d :: ds, _, b, .cons hv r, e, h => by
    unfold clNms at e
    cases e1 : clNm d with
    | none => rw [e1] at e; cases e
    | some k =>
      cases e2 : clNms ds with
      | none => rw [e1, e2] at e; cases e
      | some ks =>
        rw [e1, e2] at e
        cases e
        unfold isSubs at h
        cases e3 : isSub t k with
        | none => rw [e3] at h; cases h
        | some b1 =>
          cases e4 : isSubs t ks with
          | none => rw [e3, e4] at h; cases h
          | some b2 =>
            rw [e3, e4] at h
            cases h
            obtain ⟨us, h1, h2⟩ := subs_v ok ha hb r e2 e4
            obtain ⟨u, h3, h4⟩ := cl_v (H := F) hv e1
            refine ⟨u :: us, .cons h4 h1, ?_⟩
            refine kitAny_cons (sub_v ok ha h3 hb e3) (fun z => ?_) (fun z => ?_)
            · subst z; simpa using h2
            · subst z; rfl
def rIsiA (K : PySem.W.Frag) : List V → Hp → VK → Prop := fun xs H Q => rIsi K xs H Q ∨ rIsiT K xs H Q
theorem call_isiA {X : Cx} : CallR X (.builtin "isinstance") (rIsiA X.K) := fun pins s σ H xs us Q I r h => h.elim (call_isi pins s σ H xs us Q I r) (call_isiT pins s σ H xs us Q I r)
theorem isiS (g : Gb) (ok : ClsOk g) : CallS g (rIsiA g.K) (two dIsi) := twoS fun F H v w d e z Q sb hv hw hf hq => by
  unfold dIsi at hf
  split at hf
  · rename_i cs
    split at hf
    · rename_i t ts e1 e2
      obtain ⟨b, h1, rfl⟩ := Option.map_eq_some_iff.mp hf
      obtain ⟨u, k1, k2, k3⟩ := ty_v ok hv e1
      cases hw with
      | @tup a vs _ q1 q2 r =>
        obtain ⟨us, k4, k5⟩ := subs_v ok k1 k3 r e2 h1
        exact .inr ⟨v, a, vs, u, us, b, rfl, q2, k4, k2, k5, hq.1 _ (.bl b)⟩
    · cases hf
  · split at hf
    · rename_i t u e1 e2
      obtain ⟨b, h1, rfl⟩ := Option.map_eq_some_iff.mp hf
      obtain ⟨a, k1, k2, k3⟩ := ty_v ok hv e1
      obtain ⟨c, k4, k5⟩ := cl_v (H := F) (hw.rv sb) e2
      exact .inl ⟨v, w, a, c, b, rfl, k5, k2, sub_v ok k1 k4 k3 h1, hq.1 _ (.bl b)⟩
    · cases hf
theorem iTy {X : Cx} {g : Gb} {x : Str} {n : String} {pos : Pos} (hm : X.mg x = none) (hv : bootBuiltins x = some (.type n)) (hg : Gl X x := by rfl) (hn : x ≠ "__name__" := by decide) (hd : (x == ("__debug__" : Str)) = false := by decide) : PE X (.Name x pos) (sE g (eC (.ty n))) := (pe_bltn (v := .ty n) hg hm hv rfl hn hd).via (sE_c fun _ => .ty n)
theorem iKls {X : Cx} {g : Gb} {x c : Str} {C : Addr} {pos : Pos} (hm : X.mg x = some (.ref C)) (hc : g.cls c = some C) (hg : Gl X x := by rfl) (hd : (x == ("__debug__" : Str)) = false := by decide) : PE X (.Name x pos) (sE g (eC (.kls c))) := (pe_glob (v := .ref C) hg hm rfl hd).via (sE_c fun _ => .kls hc)
end MF
set_option Elab.async false
set_option linter.all false
set_option maxRecDepth 100000
set_option maxHeartbeats 4000000
namespace MF
open PySem L2

/-! # objects that change -/
def putKD {κ : Type} [DecidableEq κ] (kvs : List (κ × D)) (k : κ) (v : D) : List (κ × D) :=
  if (kvs.any fun kv => decide (kv.1 = k)) = true then kvs.map (fun kv => if kv.1 = k then (kv.1, v) else kv) else kvs ++ [(k, v)]
theorem any_keys {κ α β : Type} [DecidableEq κ] (k : κ) : ∀ {kvs : List (κ × α)} {ds : List (κ × β)}, kvs.map (·.1) = ds.map (·.1) → (kvs.any fun kv => decide (kv.1 = k)) = ds.any fun kv => decide (kv.1 = k)
  | [], [], _ => rfl
  | [], _ :: _, h => by simp at h
  | _ :: _, [], h => by simp at h
  | a :: kvs, b :: ds, h => by
    simp only [List.map_cons, List.cons.injEq] at h
    rw [List.any_cons, List.any_cons, h.1, any_keys k h.2]
theorem repl_keys {κ : Type} [DecidableEq κ] {g : Gb} {F : Hp} {v : V} {d : D} (k : κ) (hv : RV g F v d) : ∀ {kvs : List (κ × V)} {ds : List (κ × D)}, kvs.map (·.1) = ds.map (·.1) → RVs g F (kvs.map (·.2)) (ds.map (·.2)) →
    (kvs.map fun kv => if kv.1 = k then (kv.1, v) else kv).map (·.1) = (ds.map fun kv => if kv.1 = k then (kv.1, d) else kv).map (·.1) ∧ RVs g F ((kvs.map fun kv => if kv.1 = k then (kv.1, v) else kv).map (·.2)) ((ds.map fun kv => if kv.1 = k then (kv.1, d) else kv).map (·.2))
  | [], [], _, _ => ⟨rfl, .nil⟩
  | [], _ :: _, h, _ => by simp at h
  | _ :: _, [], h, _ => by simp at h
  | a :: kvs, b :: ds, h, r => by
    simp only [List.map_cons, List.cons.injEq] at h
    cases r with
    | cons hr rr =>
      obtain ⟨h1, h2⟩ := repl_keys k hv h.2 rr
      simp only [List.map_cons]
      rw [h.1]
      by_cases e : b.1 = k
      · rw [if_pos e, if_pos e]
        refine ⟨?_, .cons hv h2⟩
        rw [h1]
      · rw [if_neg e, if_neg e]
        refine ⟨?_, .cons hr h2⟩
        rw [h1, h.1]
theorem put_keys {κ : Type} [DecidableEq κ] {g : Gb} {F : Hp} {kvs : List (κ × V)} {ds : List (κ × D)} {v : V} {d : D} (k : κ) (h : kvs.map (·.1) = ds.map (·.1)) (r : RVs g F (kvs.map (·.2)) (ds.map (·.2))) (hv : RV g F v d) :
    (putK kvs k v).map (·.1) = (putKD ds k d).map (·.1) ∧ RVs g F ((putK kvs k v).map (·.2)) ((putKD ds k d).map (·.2)) := by
  unfold putK putKD
  rw [any_keys k h]
  split
  · exact repl_keys k hv h r
  · rw [List.map_append, List.map_append, List.map_append, List.map_append, h]
    exact ⟨rfl, r.append (.cons hv .nil)⟩
/-- c[k] = v -/
def dPut (c k v : D) : Option D := match c with
  | .lst xs => (intD k).bind fun i => (ixN xs.length i).map fun j => .lst (xs.set j v)
  | .dk kvs => if sizeOk kvs.length then (keyD k).map fun k => .dk (putKD kvs k v) else none
  | .dt kvs => match k with
    | .tup ks => if sizeOk kvs.length then (keysD ks).map fun k => .dt (putKD kvs k v) else none
    | _ => none
  | _ => none
def tgSub (o i : E Val) : Arg → E Unit := fun a => o.bind fun x => i.bind fun y => (E.opt (toD a)).bind fun v => (rd x).bind fun c => (rd y).bind fun k => (E.opt (dPut c k v)).bind fun c' => putD x c'
def rSetA : TSet := fun o i v H Q => rSetL o i v H Q ∨ rSetD o i v H Q
theorem set_A {X : Cx} (hu : X.A.units + 1 < cLine) : PSet X rSetA := fun pins s σ H o i v ov iv u Q I ro ri rv h => h.elim (set_list pins s σ H o i v ov iv u Q I ro ri rv) (set_dict hu pins s σ H o i v ov iv u Q I ro ri rv)
theorem putS_run {g : Gb} {F H : Hp} {a : Addr} {c k d z : D} {w v : V} {Q : Hp → Prop} (ro : RO g F H a c) (hk : RT g F H w k) (hv : RV g F v d) (h : dPut c k d = some z) (q : ∀ o, RO g F (upd H a o) a z → Q (upd H a o)) : rSetA (.ref a) w v H Q := by
  unfold dPut at h
  split at h
  · obtain ⟨i, h1, h2⟩ := Option.bind_eq_some_iff.mp h
    obtain ⟨j, h3, rfl⟩ := Option.map_eq_some_iff.mp h2
    cases intD_ok h1
    cases hk
    cases ro with
    | @lst vs _ e r => exact .inl ⟨a, vs, i, j, rfl, rfl, e, by rw [r.length]; exact h3, q _ (.lst upd_same (r.set hv j))⟩
  · split at h
    · rename_i hz
      obtain ⟨k', h3, rfl⟩ := Option.map_eq_some_iff.mp h
      cases ro with
      | @dk kv _ e h1 r =>
        obtain ⟨p1, p2⟩ := put_keys k' h1 r hv
        exact .inr ⟨a, _, rfl, .inl ⟨kv, k', e, key_v hk h3, by have := congrArg List.length h1; rw [List.length_map, List.length_map] at this; rw [this]; exact sizeOk_lt hz, rfl⟩, q _ (.dk upd_same p1 p2)⟩
    · cases h
  · split at h
    · split at h
      · rename_i hz
        obtain ⟨k', h3, rfl⟩ := Option.map_eq_some_iff.mp h
        cases hk with
        | @tup b vs _ e1 e2 rk =>
          cases ro with
          | @dt kv _ e h1 r =>
            obtain ⟨p1, p2⟩ := put_keys k' h1 r hv
            exact .inr ⟨a, _, rfl, .inr ⟨kv, k', b, e, rfl, by rw [← keys_v rk h3]; exact e2, by have := congrArg List.length h1; rw [List.length_map, List.length_map] at this; rw [this]; exact sizeOk_lt hz, rfl⟩, q _ (.dt upd_same p1 p2)⟩
      · cases h
    · cases h
  · cases h
section
variable {X : Cx} {g : Gb}
theorem igSub {o i : Expr} {pos : Pos} {fo fi : E Val} (hu : X.A.units + 65 < cLine) (ho : PE X o (sE g fo)) (hi : PE X i (sE g fi)) (ha : ∀ v, assign (.Subscript o i pos) X.env v = (do
      let ov ← holding [v] (eval o X.env)
      let iv ← holding [v, ov] (eval i X.env)
      standAt pos
      holding [v, ov, iv] (setItem ov iv v)
      release [v, ov, iv] []) := by intro _; rfl) : PG X (.Subscript o i pos) (sG g [] (tgSub fo fi)) := (pg_sub ho hi (set_A (by omega)) ha).via fun v σ H Q ⟨B, Λ, F, ι, m, a, m', r, hv, e, q⟩ => by
  obtain ⟨x, m1, e1, y1⟩ := bind_ok e
  obtain ⟨y, m2, e2, y2⟩ := bind_ok y1
  obtain ⟨d, m3, e3, y3⟩ := bind_ok y2
  obtain ⟨w3, rfl⟩ := opt_ok e3
  obtain ⟨c, m4, e4, y4⟩ := bind_ok y3
  obtain ⟨w4, rfl⟩ := rd_ok e4
  obtain ⟨k, m5, e5, y5⟩ := bind_ok y4
  obtain ⟨w5, rfl⟩ := rd_ok e5
  obtain ⟨c', m6, e6, y6⟩ := bind_ok y5
  obtain ⟨w6, rfl⟩ := opt_ok e6
  refine ⟨B, Λ, F, ι, m, x, m1, r, e1, fun xv H1 F1 ι1 r1 g1 p1 h1 => ⟨B, Λ, F1, ι1, m1, y, _, r1, e2, fun yv H2 F2 ι2 r2 g2 p2 h2 => ?_⟩⟩
  have h1' := h1.gr g2 p2
  obtain ⟨b, rfl, ro, k1⟩ := r2.mut h1' w4 y6
  have hv' : RV g F2 v d := by
    cases a with
    | t d' => cases w3; exact (RV.gr g1 hv).gr g2
    | s n => cases w3
  exact putS_run ro (r2.dat h2 w5) hv' w6 fun o' ro' => q σ _ F2 ι2 (k1 o' ro') (g1.trans g2) (p1.trans p2) ⟨rfl, fun _ _ => rfl⟩
/-! methods of lists that change them -/
def isLstD : D → Bool
  | .lst _ => true
  | _ => false
def eMut (f : D → List D → Option (D × D)) (o : E Val) (as : E (List Val)) : E Val := o.bind fun x => (rd x).bind fun c0 => if isLstD c0 then as.bind fun xs => (asDs xs).bind fun ds => (rd x).bind fun c => (E.opt (f c ds)).bind fun z => (putD x z.1).bind fun _ => .ret (.t z.2) else fun _ => .no
def mAppend : D → List D → Option (D × D)
  | .lst xs, [d] => if sizeOk xs.length then some (.lst (xs ++ [d]), .non) else none
  | _, _ => none
def mPop : D → List D → Option (D × D)
  | .lst xs, [] => xs[xs.length - 1]?.map fun y => (.lst xs.dropLast, y)
  | _, _ => none
def mPopAt : D → List D → Option (D × D)
  | .lst xs, [.int i] => (ixN xs.length i).bind fun j => if rngOk i then xs[j]?.map fun y => (.lst (xs.eraseIdx j), y) else none
  | _, _ => none
def mExtend : D → List D → Option (D × D)
  | .lst xs, [.lst ys] => if sizeOk (xs.length + ys.length) then some (.lst (xs ++ ys), .non) else none
  | _, _ => none
/-- what the change of a list asks -/
def MutS (g : Gb) (r : V → List V → Hp → VK → Prop) (f : D → List D → Option (D × D)) : Prop := ∀ F H a c vs ds z Q, Sub F H → RO g F H a c → RVs g F vs ds → f c ds = some z → (∀ y o, RV g F y z.2 → RO g F (upd H a o) a z.1 → Q y (upd H a o)) → r (.ref a) vs H Q
theorem appendS (g : Gb) : MutS g rAppend mAppend := fun F H a c vs ds z Q sb ro hr h q => by
  unfold mAppend at h
  split at h
  · split at h
    · rename_i hz
      cases h
      cases ro with
      | @lst ws _ e r =>
        cases hr with
        | cons h1 t =>
          cases t
          exact ⟨a, ws, _, rfl, rfl, e, by rw [r.length]; exact sizeOk_lt hz, q _ _ .non (.lst upd_same (r.append (.cons h1 .nil)))⟩
    · cases h
  · cases h
theorem RVs.dropLast {F : Hp} : ∀ {vs : List V} {ds : List D}, RVs g F vs ds → RVs g F vs.dropLast ds.dropLast
  | _, _, .nil => .nil
  | _, _, .cons h .nil => .nil
  | _, _, .cons h (.cons h2 r) => .cons h (RVs.dropLast (.cons h2 r))
theorem popS (g : Gb) : MutS g rPop mPop := fun F H a c vs ds z Q sb ro hr h q => by
  unfold mPop at h
  split at h
  · obtain ⟨y, h1, rfl⟩ := Option.map_eq_some_iff.mp h
    cases hr
    cases ro with
    | @lst ws _ e r =>
      obtain ⟨v, h2, h3⟩ := r.get h1
      exact ⟨a, ws, v, rfl, rfl, e, by rw [r.length]; exact h2, q v _ h3 (.lst upd_same r.dropLast)⟩
  · cases h
theorem popAtS (g : Gb) : MutS g rPopAt mPopAt := fun F H a c vs ds z Q sb ro hr h q => by
  unfold mPopAt at h
  split at h
  · rename_i xs i
    obtain ⟨j, h0, h1⟩ := Option.bind_eq_some_iff.mp h
    split at h1
    · rename_i hz
      obtain ⟨y, h2, rfl⟩ := Option.map_eq_some_iff.mp h1
      have hz' := of_decide_eq_true hz
      cases hr with
      | cons h3 t =>
        cases t
        cases h3
        cases ro with
        | @lst ws _ e r =>
          obtain ⟨v, h4, h5⟩ := r.get h2
          exact ⟨a, ws, i, j, v, rfl, rfl, e, by omega, by omega, by rw [r.length]; exact (ixN_seq h0).1, h4, q v _ h5 (.lst upd_same (r.erase j))⟩
    · cases h1
  · cases h
theorem extendS (g : Gb) : MutS g rExtend mExtend := fun F H a c vs ds z Q sb ro hr h q => by
  unfold mExtend at h
  split at h
  · split at h
    · rename_i hz
      cases h
      cases ro with
      | @lst ws _ e r =>
        cases hr with
        | cons h1 t =>
          cases t
          cases h1 with
          | @lst b us _ e2 r2 =>
            exact ⟨a, b, ws, us, rfl, rfl, e, sb.at e2 id, by rw [r.length, r2.length]; exact sizeOk_line hz, q _ _ .non (.lst upd_same (r.append r2))⟩
    · cases h
  · cases h
theorem sE_mut {r : V → List V → Hp → VK → Prop} {f : D → List D → Option (D × D)} {o : E Val} {as : E (List Val)} (hs : MutS g r f) : ∀ σ H Q, sE g (eMut f o as) σ H Q → tBM g.K "list" r (sE g o) (sA g as) σ H Q := fun σ H Q ⟨B, Λ, F, ι, m, x, m', rl, e, q⟩ => by
  obtain ⟨x1, m1, e1, y1⟩ := bind_ok e
  obtain ⟨c0, m2, e2, y2⟩ := bind_ok y1
  obtain ⟨w2, rfl⟩ := rd_ok e2
  split at y2
  · rename_i hl
    obtain ⟨xs, m3, e3, y3⟩ := bind_ok y2
    obtain ⟨ds, m4, e4, y4⟩ := bind_ok y3
    obtain ⟨c, m5, e5, y5⟩ := bind_ok y4
    obtain ⟨w5, rfl⟩ := rd_ok e5
    obtain ⟨z, m6, e6, y6⟩ := bind_ok y5
    obtain ⟨w6, rfl⟩ := opt_ok e6
    obtain ⟨u, m7, e7, y7⟩ := bind_ok y6
    cases y7
    refine ⟨B, Λ, F, ι, m, x1, _, rl, e1, fun v H1 F1 ι1 r1 g1 p1 h1 => ?_⟩
    have h0 := r1.dat h1 w2
    refine ⟨?_, B, Λ, F1, ι1, _, xs, m3, r1, e3, fun vs H2 F2 ι2 r2 g2 p2 h2 => ?_⟩
    · unfold isLstD at hl
      split at hl
      · cases h0 with
        | lst h r => exact .inl ⟨rfl, _, .inl (.inl h)⟩
      · cases hl
    · obtain ⟨F3, g3, r3, h3⟩ := r2.asDs h2 e4
      obtain ⟨a, rfl, ro, k1⟩ := r3.mut ((h1.gr g2 p2).gr g3 (List.prefix_refl _)) w5 e7
      refine hs F3 H2 a c vs ds z Q r3.sub ro h3 w6 fun y o' hy ro' => ?_
      exact q y _ F3 ι2 (k1 o' ro') ((g1.trans g2).trans g3) (p1.trans p2) hy
  · cases y2
theorem iMut {id : String} {name : Str} {r : V → List V → Hp → VK → Prop} {f : D → List D → Option (D × D)} {o e : Expr} {es : List Expr} {apos cpos : Pos} {fo : E Val} {as : E (List Val)} (hK : X.K = g.K) (slot : Slot "list" name id) (hty : typeOf (.builtin id) = pure (.type "method_descriptor")) (hm : MtR X id r) (hs : MutS g r f) (ho : PE X o (sE g fo)) (ha : PA X (e :: es) (sA g as))
    (hbase : attributeBase o name X.env (eval o X.env) = eval o X.env := by rfl)
    (hfew : ((backTo cpos (starEach (e :: es) X.env)).all (fun x => !x.1) && (backToKw cpos (keywordEach [] X.env)).all (fun x => x.1.isSome)
      && decide ((e :: es).length + ([] : List Keyword).length + (if ([] : List Keyword).isEmpty then 0 else 1) < 30)) = true := by rfl)
    (hline : (apos.endLine == cpos.line) = true := by rfl) (hst : starEach (e :: es) X.env = (false, eval e X.env) :: starEach es X.env := by rfl) (hplain : (backTo cpos (starEach es X.env)).any (·.1) = false := by rfl) :
    PE X (.Call (.Attribute o name apos) (e :: es) [] cpos) (sE g (eMut f fo as)) := (pe_bm PySem.F.plainAttrs_list slot hty hm ho ha hbase hfew hline hst hplain).via fun σ H Q h => by rw [hK]; exact sE_mut hs σ H Q h
theorem iMut0 {id : String} {name : Str} {r : V → List V → Hp → VK → Prop} {f : D → List D → Option (D × D)} {o : Expr} {apos cpos : Pos} {fo : E Val} (hK : X.K = g.K) (slot : Slot "list" name id) (hty : typeOf (.builtin id) = pure (.type "method_descriptor")) (hm : MtR X id r) (hs : MutS g r f) (ho : PE X o (sE g fo))
    (hbase : attributeBase o name X.env (eval o X.env) = eval o X.env := by rfl) (hline : (apos.endLine == cpos.line) = true := by rfl) :
    PE X (.Call (.Attribute o name apos) [] [] cpos) (sE g (eMut f fo (eArgs []))) := (pe_bm0 PySem.F.plainAttrs_list slot hty hm ho hbase hline).via fun σ H Q h => by
  obtain ⟨B, Λ, F, ι, m, x, m', rl, e, k⟩ := sE_mut hs σ H Q h
  refine ⟨B, Λ, F, ι, m, x, m', rl, e, fun v H1 F1 ι1 r1 g1 p1 h1 => ?_⟩
  obtain ⟨k1, B', Λ', F', ι', m2, xs, m3, r', e', k2⟩ := k v H1 F1 ι1 r1 g1 p1 h1
  cases e'
  rw [hK]
  exact ⟨k1, k2 [] H1 F' ι' r' (Gr.refl _) (List.prefix_refl _) .nil⟩
theorem iAppend {o e : Expr} {apos cpos : Pos} {fo : E Val} {as : E (List Val)} (hK : X.K = g.K) (ho : PE X o (sE g fo)) (ha : PA X [e] (sA g as)) (hbase : attributeBase o "append" X.env (eval o X.env) = eval o X.env := by rfl)
    (hfew : ((backTo cpos (starEach [e] X.env)).all (fun x => !x.1) && (backToKw cpos (keywordEach [] X.env)).all (fun x => x.1.isSome) && decide ([e].length + ([] : List Keyword).length + (if ([] : List Keyword).isEmpty then 0 else 1) < 30)) = true := by rfl)
    (hline : (apos.endLine == cpos.line) = true := by rfl) (hst : starEach [e] X.env = (false, eval e X.env) :: starEach [] X.env := by rfl) (hplain : (backTo cpos (starEach [] X.env)).any (·.1) = false := by rfl) :
    PE X (.Call (.Attribute o "append" apos) [e] [] cpos) (sE g (eMut mAppend fo as)) := iMut hK PySem.F.slot_list_append PySem.F.type_list_append mt_append (appendS g) ho ha hbase hfew hline hst hplain
theorem iPopAt {o e : Expr} {apos cpos : Pos} {fo : E Val} {as : E (List Val)} (hK : X.K = g.K) (ho : PE X o (sE g fo)) (ha : PA X [e] (sA g as)) (hbase : attributeBase o "pop" X.env (eval o X.env) = eval o X.env := by rfl)
    (hfew : ((backTo cpos (starEach [e] X.env)).all (fun x => !x.1) && (backToKw cpos (keywordEach [] X.env)).all (fun x => x.1.isSome) && decide ([e].length + ([] : List Keyword).length + (if ([] : List Keyword).isEmpty then 0 else 1) < 30)) = true := by rfl)
    (hline : (apos.endLine == cpos.line) = true := by rfl) (hst : starEach [e] X.env = (false, eval e X.env) :: starEach [] X.env := by rfl) (hplain : (backTo cpos (starEach [] X.env)).any (·.1) = false := by rfl) :
    PE X (.Call (.Attribute o "pop" apos) [e] [] cpos) (sE g (eMut mPopAt fo as)) := iMut hK PySem.F.slot_list_pop PySem.F.type_list_pop mt_popAt (popAtS g) ho ha hbase hfew hline hst hplain
theorem iPop {o : Expr} {apos cpos : Pos} {fo : E Val} (hK : X.K = g.K) (ho : PE X o (sE g fo)) (hbase : attributeBase o "pop" X.env (eval o X.env) = eval o X.env := by rfl) (hline : (apos.endLine == cpos.line) = true := by rfl) :
    PE X (.Call (.Attribute o "pop" apos) [] [] cpos) (sE g (eMut mPop fo (eArgs []))) := iMut0 hK PySem.F.slot_list_pop PySem.F.type_list_pop mt_pop (popS g) ho hbase hline
theorem iExtend {o e : Expr} {apos cpos : Pos} {fo : E Val} {as : E (List Val)} (hK : X.K = g.K) (ho : PE X o (sE g fo)) (ha : PA X [e] (sA g as)) (hbase : attributeBase o "extend" X.env (eval o X.env) = eval o X.env := by rfl)
    (hfew : ((backTo cpos (starEach [e] X.env)).all (fun x => !x.1) && (backToKw cpos (keywordEach [] X.env)).all (fun x => x.1.isSome) && decide ([e].length + ([] : List Keyword).length + (if ([] : List Keyword).isEmpty then 0 else 1) < 30)) = true := by rfl)
    (hline : (apos.endLine == cpos.line) = true := by rfl) (hst : starEach [e] X.env = (false, eval e X.env) :: starEach [] X.env := by rfl) (hplain : (backTo cpos (starEach [] X.env)).any (·.1) = false := by rfl) :
    PE X (.Call (.Attribute o "extend" apos) [e] [] cpos) (sE g (eMut mExtend fo as)) := iMut hK PySem.F.slot_list_extend PySem.F.type_list_extend mt_extend (extendS g) ho ha hbase hfew hline hst hplain
/-! d.get(k) -/
def dGet1 : D → D → Option D
  | .dk kvs, k => (keyD k).map fun k => (dLook kvs k).getD .non
  | .dt kvs, .tup ks => (keysD ks).map fun k => (dLook kvs k).getD .non
  | _, _ => none
def eGet (o e : E Val) : E Val := o.bind fun x => (rd x).bind fun d0 => if isDictD d0 then e.bind fun y => (rd x).bind fun d => (rd y).bind fun k => (E.opt (dGet1 d k)).bind fun z => .ret (.t z) else fun _ => .no
theorem getDict {g : Gb} {F H : Hp} {v w : V} {d e z : D} (hv : RT g F H v d) (hw : RT g F H w e) (h : dGet1 d e = some z) : ∃ a o, v = .ref a ∧ DGet H a w o ∧ RV g F (o.getD .non) z := by
  have fin : ∀ {κ : Type} [DecidableEq κ] {kv : List (κ × V)} {ds : List (κ × D)} (k : κ), kv.map (·.1) = ds.map (·.1) → RVs g F (kv.map (·.2)) (ds.map (·.2)) → RV g F ((valV kv k).getD .non) ((dLook ds k).getD .non) := fun k h r => by
    rcases look_v k h r with ⟨a, b⟩ | ⟨v, d, a, b, c⟩
    · rw [a, b]; exact .non
    · rw [a, b]; exact c
  cases d with
  | dk kvs =>
    have h : (keyD e).map (fun k => (dLook kvs k).getD .non) = some z := by cases e <;> exact h
    obtain ⟨k, hk, rfl⟩ := Option.map_eq_some_iff.mp h
    cases hv with
    | @dk a kv _ h1 h3 h4 => exact ⟨a, _, rfl, .inl ⟨kv, k, h1, key_v hw hk, rfl⟩, fin k h3 h4⟩
  | dt kvs =>
    cases e with
    | tup ks =>
      have h : (keysD ks).map (fun k => (dLook kvs k).getD .non) = some z := h
      obtain ⟨k, hk, rfl⟩ := Option.map_eq_some_iff.mp h
      cases hw with
      | @tup b vs _ k1 h0 r0 =>
        cases hv with
        | @dt a kv _ h1 h3 h4 => exact ⟨a, _, rfl, .inr ⟨kv, k, b, h1, rfl, by rw [← keys_v r0 hk]; exact h0, rfl⟩, fin k h3 h4⟩
    | _ => cases h
  | _ => cases h
theorem iGet {o e : Expr} {apos cpos : Pos} {fo fe : E Val} (hu : X.A.units + 65 < cLine) (ho : PE X o (sE g fo)) (he : PE X e (sE g fe)) (m : M1 X o "get" apos e cpos := by exact ⟨rfl, rfl, rfl, rfl⟩) : PE X (.Call (.Attribute o "get" apos) [e] [] cpos) (sE g (eGet fo fe)) := (pe_dget1 (by omega) ho he m).via fun σ H Q ⟨B, Λ, F, ι, m, x, m', rl, e, q⟩ => by
  obtain ⟨x1, m1, e1, y1⟩ := bind_ok e
  obtain ⟨d0, m2, e2, y2⟩ := bind_ok y1
  obtain ⟨w2, rfl⟩ := rd_ok e2
  split at y2
  · rename_i hd
    obtain ⟨x2, m3, e3, y3⟩ := bind_ok y2
    obtain ⟨d, m4, e4, y4⟩ := bind_ok y3
    obtain ⟨w4, rfl⟩ := rd_ok e4
    obtain ⟨k, m5, e5, y5⟩ := bind_ok y4
    obtain ⟨w5, rfl⟩ := rd_ok e5
    obtain ⟨z, m6, e6, y6⟩ := bind_ok y5
    obtain ⟨w6, rfl⟩ := opt_ok e6
    cases y6
    refine ⟨B, Λ, F, ι, m, x1, _, rl, e1, fun v H1 F1 ι1 r1 g1 p1 h1 => ?_⟩
    have h0 := r1.dat h1 w2
    have go : ∀ a, v = .ref a → L2.IsD H1 a → ∃ a, v = .ref a ∧ L2.IsD H1 a ∧ sE g fe σ H1 fun y H2 => ∃ o, DGet H2 a y o ∧ Q (o.getD .non) H2 := fun a ea hi => by
      subst ea
      refine ⟨a, rfl, hi, B, Λ, F1, ι1, _, x2, _, r1, e3, fun w H2 F2 ι2 r2 g2 p2 h2 => ?_⟩
      obtain ⟨a', o, ea, hg, hz⟩ := getDict (r2.dat (h1.gr g2 p2) w4) (r2.dat h2 w5) w6
      cases ea
      exact ⟨o, hg, q _ H2 F2 ι2 r2 (g1.trans g2) (p1.trans p2) hz⟩
    unfold isDictD at hd
    split at hd
    · cases h0 with
      | dk h k r => exact go _ rfl (.inl ⟨_, h⟩)
    · cases h0 with
      | dt h k r => exact go _ rfl (.inr ⟨_, h⟩)
    · cases hd
  · cases y2
end
/-! # stores of several names at once -/
inductive Itm where
  | a (b : Arg) | own (d : D) | sh (d : D)
def kV' (f : E Val) : E Itm := f.bind fun x => (arg x).bind fun b => .ret (.a b)
def kOwn (f : E D) : E Itm := f.bind fun d => .ret (.own d)
def kSh (f : E D) : E Itm := f.bind fun d => .ret (.sh d)
def setI (i : Nat) (it : Itm) : E Unit := fun m => if i < m.ρ.length then match it with
  | .a b => .ok () ⟨m.ρ.set i b.loc, m.S⟩
  | .own d => .ok () ⟨m.ρ.set i (.own d), m.S⟩
  | .sh d => .ok () ⟨m.ρ.set i (.s m.S.length), m.S ++ [d]⟩
  else .no
def parE : List (Nat × E Itm) → E Unit
  | [] => .ret ()
  | (i, f) :: r => f.bind fun it => (parE r).bind fun _ => setI i it
def sPar (l : List (Nat × E Itm)) : E Ctl := (parE l).bind fun _ => .ret .nx
section
variable {X : Cx} {g : Gb}
def sK (g : Gb) (f : E Itm) : TE := fun σ H Q => ∃ B Λ F ι m it m', Rel g B Λ σ H F ι m ∧ f m = .ok it m' ∧ match it with
  | .a b => ∀ v H' F' ι', Rel g B Λ σ H' F' ι' m' → Gr F F' → ι <+: ι' → RArg g F' ι' v b → Q v H'
  | .own d => ∀ p H1 F' ι' o, Pin g B Λ σ H1 F' ι' m' p o → Gr F F' → ι <+: ι' → RO g F' H1 p d → Q (.ref p) H1
  | .sh d => ∀ p H1 F' ι' o, Pin g B Λ σ H1 F' ι' m' p o → Gr F F' → ι <+: ι' → RO g F' H1 p d → Q (.ref p) H1
theorem ikV {e : Expr} {f : E Val} (h : PE X e (sE g f)) : PE X e (sK g (kV' f)) := h.via fun σ H Q ⟨B, Λ, F, ι, m, it, m', r, e, q⟩ => by
  obtain ⟨x1, m1, e1, y1⟩ := bind_ok e
  obtain ⟨b, m2, e2, y2⟩ := bind_ok y1
  cases y2
  refine ⟨B, Λ, F, ι, m, x1, m1, r, e1, fun v H1 F1 ι1 r1 g1 p1 h1 => ?_⟩
  obtain ⟨F2, g2, r2, h2⟩ := r1.arg h1 e2
  exact q v H1 F2 ι1 r2 (g1.trans g2) p1 h2
theorem ikOwn {e : Expr} {f : E D} (h : PE X e (sN g f)) : PE X e (sK g (kOwn f)) := h.via fun σ H Q ⟨B, Λ, F, ι, m, it, m', r, e, q⟩ => by
  obtain ⟨x1, m1, e1, y1⟩ := bind_ok e
  cases y1
  exact ⟨B, Λ, F, ι, m, x1, _, r, e1, q⟩
theorem ikSh {e : Expr} {f : E D} (h : PE X e (sN g f)) : PE X e (sK g (kSh f)) := h.via fun σ H Q ⟨B, Λ, F, ι, m, it, m', r, e, q⟩ => by
  obtain ⟨x1, m1, e1, y1⟩ := bind_ok e
  cases y1
  exact ⟨B, Λ, F, ι, m, x1, _, r, e1, q⟩
def taOf (g : Gb) : List (Nat × E Itm) → TA
  | [] => tNil
  | (_, f) :: r => tCons (sK g f) (taOf g r)
def sets : List (Nat × E Itm) → List V → L2.St → L2.St
  | (i, _) :: r, v :: vs, σ => (sets r vs σ).set i (some v)
  | _, _, σ => σ
theorem par_run {Λ : Lks} {σ : L2.St} : ∀ {l : List (Nat × E Itm)} {B : Bs} {H F : Hp} {ι : List Addr} {m m' : M}, Rel g B Λ σ H F ι m → parE l m = .ok () m' → ∀ Q : List V → Hp → Prop, (∀ vs H' F' ι', Rel g B Λ (sets l vs σ) H' F' ι' m' → Gr F F' → ι <+: ι' → vs.length = l.length → Q vs H') → taOf g l σ H Q
  | [], B, H, F, ι, m, m', r, e, Q, q => by
    cases e
    exact q [] H F ι r (Gr.refl F) (List.prefix_refl _) rfl
  | (i, f) :: l, B, H, F, ι, m, m', r, e, Q, q => by
    obtain ⟨it, m1, e1, y1⟩ := bind_ok e
    obtain ⟨u, m2, e2, y2⟩ := bind_ok y1
    unfold setI at y2
    split at y2
    · rename_i hi
      refine ⟨B, Λ, F, ι, m, it, m1, r, e1, ?_⟩
      cases it with
      | a b =>
        cases y2
        refine fun v H1 F1 ι1 r1 g1 p1 h1 => par_run r1 e2 _ fun vs H2 F2 ι2 r2 g2 p2 hl => ?_
        exact q (v :: vs) H2 F2 ι2 (r2.setA hi (h1.gr g2 p2)) (g1.trans g2) (p1.trans p2) (by rw [List.length_cons, List.length_cons, hl])
      | own d =>
        cases y2
        refine fun p H1 F1 ι1 o r1 g1 p1 h1 => par_run r1.rel e2 _ fun vs H2 F2 ι2 r2 g2 p2 hl => ?_
        have pin2 : Pin g B Λ (sets l vs σ) H2 F2 ι2 m2 p o := ⟨r2, r1.bH, r1.bF, r1.bi, r1.nt⟩
        have ro2 : RO g F2 H2 p d := h1.keep g2 fun u hu => by rw [r1.facts.2.2] at hu; rw [pin2.facts.2.2]; exact hu
        exact q (.ref p :: vs) H2 F2 ι2 (pin2.setOwn ro2 hi) (g1.trans g2) (p1.trans p2) (by rw [List.length_cons, List.length_cons, hl])
      | sh d =>
        cases y2
        refine fun p H1 F1 ι1 o r1 g1 p1 h1 => par_run r1.rel e2 _ fun vs H2 F2 ι2 r2 g2 p2 hl => ?_
        have pin2 : Pin g B Λ (sets l vs σ) H2 F2 ι2 m2 p o := ⟨r2, r1.bH, r1.bF, r1.bi, r1.nt⟩
        have ro2 : RO g F2 H2 p d := h1.keep g2 fun u hu => by rw [r1.facts.2.2] at hu; rw [pin2.facts.2.2]; exact hu
        have hl2 : m2.S.length = ι2.length := by obtain ⟨U, l, k⟩ := pin2.drop.ex; exact k.sl
        have hn : (ι2 ++ [p])[m2.S.length]? = some p := by rw [hl2, List.getElem?_append_right (Nat.le_refl _), Nat.sub_self]; rfl
        exact q (.ref p :: vs) H2 F2 _ ((pin2.share ro2).setA (b := .s m2.S.length) hi ⟨p, rfl, hn⟩) (g1.trans g2) ((p1.trans p2).trans (List.prefix_append _ _)) (by rw [List.length_cons, List.length_cons, hl])
    · cases y2
theorem iPar2 {x y : Str} {a b : Expr} {px py pt pos : Pos} {kt k2 : Nat} {pt2 : Pos} {fa fb : E Itm} (i j : Nat) (hc : X.calm = true) (hN : X.N.Nodup) (ha : PE X a (sK g fa)) (hb : PE X b (sK g fb)) (hi : X.N[i]? = some x := by rfl) (hj : X.N[j]? = some y := by rfl) (hij : i ≠ j := by decide)
    (hx : X.env.scope.names.lookup x = some .local := by rfl) (hy : X.env.scope.names.lookup y = some .local := by rfl)
    (hw : swappedStores [.Tuple [.Name x px, .Name y py] kt pt] (.Tuple [a, b] k2 pt2) X.env = pure (some [x, y]) := by rfl)
    (hs : swapsWithSole [.Tuple [.Name x px, .Name y py] kt pt] (.Tuple [a, b] k2 pt2) pos.line X.env = pure false := by rfl)
    (hst : starEach [a, b] X.env = (false, eval a X.env) :: starEach [b] X.env := by rfl) (hst2 : starEach [b] X.env = (false, eval b X.env) :: starEach [] X.env := by rfl) :
    PS X (.Assign [.Tuple [.Name x px, .Name y py] kt pt] (.Tuple [a, b] k2 pt2) pos) (sS g (sPar [(i, fa), (j, fb)])) :=
  (ps_par hc hN hi hj hij hx hy (pa_cons ha (pa_cons hb pa_nil hst2) hst) hw hs).via fun D σ H ⟨B, Λ, F, ι, m, c, m', r, e, q⟩ => by
  obtain ⟨u, m1, e1, y1⟩ := bind_ok e
  cases y1
  refine par_run (l := [(i, fa), (j, fb)]) r e1 _ fun vs H2 F2 ι2 r2 g2 p2 hl => ?_
  match vs, hl with
  | [v, w], _ =>
    refine ⟨v, w, rfl, ?_⟩
    have : ((σ.set i (some v)).set j (some w)) = sets [(i, fa), (j, fb)] [v, w] σ := List.set_comm _ _ hij
    rw [this]
    exact q _ H2 F2 ι2 r2 g2 p2
theorem iPar3 {x y z : Str} {a b c : Expr} {px py pz pt pos : Pos} {kt k2 : Nat} {pt2 : Pos} {fa fb fc : E Itm} (i j l : Nat) (hc : X.calm = true) (hN : X.N.Nodup) (ha : PE X a (sK g fa)) (hb : PE X b (sK g fb)) (hcc : PE X c (sK g fc)) (hi : X.N[i]? = some x := by rfl) (hj : X.N[j]? = some y := by rfl) (hl : X.N[l]? = some z := by rfl) (hij : i ≠ j := by decide) (hil : i ≠ l := by decide) (hjl : j ≠ l := by decide)
    (hx : X.env.scope.names.lookup x = some .local := by rfl) (hy : X.env.scope.names.lookup y = some .local := by rfl) (hz : X.env.scope.names.lookup z = some .local := by rfl)
    (hw : swappedStores [.Tuple [.Name x px, .Name y py, .Name z pz] kt pt] (.Tuple [a, b, c] k2 pt2) X.env = pure (some [x, y, z]) := by rfl)
    (hs : swapsWithSole [.Tuple [.Name x px, .Name y py, .Name z pz] kt pt] (.Tuple [a, b, c] k2 pt2) pos.line X.env = pure false := by rfl)
    (hst : starEach [a, b, c] X.env = (false, eval a X.env) :: starEach [b, c] X.env := by rfl) (hst2 : starEach [b, c] X.env = (false, eval b X.env) :: starEach [c] X.env := by rfl) (hst3 : starEach [c] X.env = (false, eval c X.env) :: starEach [] X.env := by rfl) :
    PS X (.Assign [.Tuple [.Name x px, .Name y py, .Name z pz] kt pt] (.Tuple [a, b, c] k2 pt2) pos) (sS g (sPar [(i, fa), (j, fb), (l, fc)])) :=
  (ps_par3 hc hN hi hj hl hij hil hjl hx hy hz (pa_cons ha (pa_cons hb (pa_cons hcc pa_nil hst3) hst2) hst) hw hs).via fun D σ H ⟨B, Λ, F, ι, m, c, m', r, e, q⟩ => by
  obtain ⟨u, m1, e1, y1⟩ := bind_ok e
  cases y1
  refine par_run (l := [(i, fa), (j, fb), (l, fc)]) r e1 _ fun vs H2 F2 ι2 r2 g2 p2 hlen => ?_
  match vs, hlen with
  | [v, w, w3], _ =>
    refine ⟨v, w, w3, rfl, ?_⟩
    have : (((σ.set i (some v)).set j (some w)).set l (some w3)) = sets [(i, fa), (j, fb), (l, fc)] [v, w, w3] σ := by
      show _ = ((σ.set l (some w3)).set j (some w)).set i (some v)
      rw [List.set_comm (some w3) (some w) (Ne.symm hjl), List.set_comm (some w3) (some v) (Ne.symm hil), List.set_comm (some w) (some v) (Ne.symm hij)]
    rw [this]
    exact q _ H2 F2 ι2 r2 g2 p2
end
end MF
set_option Elab.async false
set_option linter.all false
set_option maxRecDepth 100000
set_option maxHeartbeats 4000000
namespace MF
open PySem L2

/-! # what is not reached -/
def no' {α : Type} : E α := fun _ => .no
section
variable {X : Cx} {g : Gb}
theorem iNoE {e : Expr} : PE X e (sE g no') := ⟨fun _ _ _ _ _ _ ⟨_, _, _, _, _, _, _, _, h, _⟩ => nomatch h⟩
theorem iNoN {e : Expr} : PE X e (sN g no') := ⟨fun _ _ _ _ _ _ ⟨_, _, _, _, _, _, _, _, h, _⟩ => nomatch h⟩
theorem iNoT {e : Expr} : PT X e (sT g no') := ⟨fun _ _ _ _ _ _ ⟨_, _, _, _, _, _, _, _, h, _⟩ => nomatch h⟩
theorem iNoS {e : Stmt} : PS X e (sS g no') := ⟨fun _ _ _ _ _ _ ⟨_, _, _, _, _, _, _, _, h, _⟩ => nomatch h⟩
theorem iNoSs {e : List Stmt} : PSs X e (sS g no') := ⟨fun _ _ _ _ _ _ ⟨_, _, _, _, _, _, _, _, h, _⟩ => nomatch h⟩
end

/-! # list comprehensions -/
section
variable {X : Cx} {g : Gb}
theorem itsNil : PTs X [] (sT g ifsYes) := ⟨fun pins s σ H Q I ⟨B, Λ, F, ι, m, b, m', r, e, q⟩ => by
  cases e
  exact pts_nil.run pins s σ H Q I (q H F ι r (Gr.refl F) (List.prefix_refl _))⟩
theorem iLc {elt tg iter : Expr} {ifs : List Expr} {scope : Scope} {pos : Pos} {src : E (List D)} {ws : List Nat} {t : Arg → E Unit} {ft : E Bool} {fe : E Val} (own : List (Str × Nat)) (hc : X.calm = true) (hN : X.N.Nodup) (hi : PI X tg iter (sI g src)) (ok : BlkOk X.N X.env.scope scope own)
    (hg : ∀ (s : Shared) (H : Hp) (C : Addr) (cl : List (Str × Addr)) (fp : List Addr), PG (X.blk s H scope (compEnvC scope cl C X.env) fp) tg (sG g ws t)) (ht : ∀ (s : Shared) (H : Hp) (C : Addr) (cl : List (Str × Addr)) (fp : List Addr), PTs (X.blk s H scope (compEnvC scope cl C X.env) fp) ifs (sT g ft))
    (he : ∀ (s : Shared) (H : Hp) (C : Addr) (cl : List (Str × Addr)) (fp : List Addr), PE (X.blk s H scope (compEnvC scope cl C X.env) fp) elt (sE g fe)) (hw : ∀ i ∈ ws, i ∈ own.map (·.2) := by decide) (hs : ∀ x, foldedSetIterable iter X.env x = pure x := by intro _; rfl) :
    PE X (.ListComp elt [⟨tg, iter, ifs, 0⟩] scope pos) (sN g (nLc (own.map (·.2)) src t ft fe)) := (pe_lc hc hN hi ok hg ht he hs).via (sN_lc hw)
/-- y = [..] on one line -/
theorem sS_lcOwn {te : TE} {f : E D} {i : Nat} (h : ∀ σ H Q, sN g f σ H Q → te σ H Q) : ∀ D σ H, sS g (setOwn i f) D σ H → tAsg te (gName i) D σ H := fun D σ H k => h _ _ _ (sS_own D σ H k)
theorem sS_lcSh {te : TE} {f : E D} {i : Nat} (h : ∀ σ H Q, sN g f σ H Q → te σ H Q) : ∀ D σ H, sS g (setSh i f) D σ H → tAsg te (gName i) D σ H := fun D σ H k => h _ _ _ (sS_sh D σ H k)
theorem iSetLc {y : Str} {py : Pos} {elt tg iter : Expr} {ifs : List Expr} {scope : Scope} {pos spos : Pos} {src : E (List D)} {ws : List Nat} {t : Arg → E Unit} {ft : E Bool} {fe : E Val} (i : Nat) (own : List (Str × Nat)) (hc : X.calm = true) (hN : X.N.Nodup)
    (hi : PI X tg iter (sI g src)) (ok : BlkOk X.N X.env.scope scope own)
    (hg : ∀ (s : Shared) (H : Hp) (C : Addr) (cl : List (Str × Addr)) (fp : List Addr), PG (X.blk s H scope (compEnvC scope cl C X.env) fp) tg (sG g ws t)) (ht : ∀ (s : Shared) (H : Hp) (C : Addr) (cl : List (Str × Addr)) (fp : List Addr), PTs (X.blk s H scope (compEnvC scope cl C X.env) fp) ifs (sT g ft))
    (he : ∀ (s : Shared) (H : Hp) (C : Addr) (cl : List (Str × Addr)) (fp : List Addr), PE (X.blk s H scope (compEnvC scope cl C X.env) fp) elt (sE g fe)) (hw : ∀ i ∈ ws, i ∈ own.map (·.2) := by decide)
    (hy : X.N[i]? = some y := by rfl) (hyl : X.env.scope.names.lookup y = some .local := by rfl) (hsw : swapsWith (.ListComp elt [⟨tg, iter, ifs, 0⟩] scope pos) (some (.Name y py)) spos.line X.env = pure true := by rfl) (hs : ∀ x, foldedSetIterable iter X.env x = pure x := by intro _; rfl) :
    PS X (.Assign [.Name y py] (.ListComp elt [⟨tg, iter, ifs, 0⟩] scope pos) spos) (sS g (setOwn i (nLc (own.map (·.2)) src t ft fe))) := (ps_setLc hc hN hy hyl hsw hi ok hg ht he hs).via (sS_lcOwn (sN_lc hw))
end

/-! # chains of two comparisons -/
def eChain (f f' : D → D → Option D) (a b c : E Val) : E Val := a.bind fun x => b.bind fun y => (rd x).bind fun d => (rd y).bind fun e => (E.opt (f d e)).bind fun z => (E.opt (boolOf z)).bind fun k =>
  if k then c.bind fun w => (rd y).bind fun e => (rd w).bind fun h => (E.opt (f' e h)).bind fun r => .ret (.t r) else .ret (.t (.bl false))
section
variable {X : Cx} {g : Gb}
theorem sE_chain {r r' : L2.R2} {f f' : D → D → Option D} {a b c : E Val} (hs : OpS g r f) (hs' : OpS g r' f') : ∀ σ H Q, sE g (eChain f f' a b c) σ H Q → tChain r r' (sE g a) (sE g b) (sE g c) σ H Q := fun σ H Q ⟨B, Λ, F, ι, m, x, m', rl, e, q⟩ => by
  obtain ⟨x1, m1, e1, y1⟩ := bind_ok e
  obtain ⟨x2, m2, e2, y2⟩ := bind_ok y1
  obtain ⟨d, m3, e3, y3⟩ := bind_ok y2
  obtain ⟨w3, rfl⟩ := rd_ok e3
  obtain ⟨d2, m4, e4, y4⟩ := bind_ok y3
  obtain ⟨w4, rfl⟩ := rd_ok e4
  obtain ⟨z, m5, e5, y5⟩ := bind_ok y4
  obtain ⟨w5, rfl⟩ := opt_ok e5
  obtain ⟨k, m6, e6, y6⟩ := bind_ok y5
  obtain ⟨w6, rfl⟩ := opt_ok e6
  cases boolOf_ok w6
  refine ⟨B, Λ, F, ι, m, x1, m1, rl, e1, fun v H1 F1 ι1 r1 g1 p1 h1 => ?_⟩
  refine ⟨B, Λ, F1, ι1, m1, x2, _, r1, e2, fun w H2 F2 ι2 r2 g2 p2 h2 => ?_⟩
  refine hs F2 H2 v w d d2 _ _ r2.sub (r2.dat (h1.gr g2 p2) w3) (r2.dat h2 w4) w5 (want_of r2 fun v' H' F' ι' r3 g3 p3 h3 => ?_)
  cases h3
  refine ⟨k, rfl, ?_⟩
  cases k with
  | false =>
    cases y6
    exact q _ H' F' ι' r3 ((g1.trans g2).trans g3) ((p1.trans p2).trans p3) (.bl false)
  | true =>
    obtain ⟨x7, m7, e7, y7⟩ := bind_ok y6
    obtain ⟨d8, m8, e8, y8⟩ := bind_ok y7
    obtain ⟨w8, rfl⟩ := rd_ok e8
    obtain ⟨d9, m9, e9, y9⟩ := bind_ok y8
    obtain ⟨w9, rfl⟩ := rd_ok e9
    obtain ⟨z10, m10, e10, y10⟩ := bind_ok y9
    obtain ⟨w10, rfl⟩ := opt_ok e10
    cases y10
    refine ⟨B, Λ, F', ι', _, x7, _, r3, e7, fun w7 H7 F7 ι7 r7 g7 p7 h7 => ?_⟩
    refine hs' F7 H7 w w7 d8 d9 z10 Q r7.sub (r7.dat (h2.gr (g3.trans g7) (p3.trans p7)) w8) (r7.dat h7 w9) w10 (want_of r7 fun v' H8 F8 ι8 r8 g8 p8 h8 => ?_)
    exact q v' H8 F8 ι8 r8 ((((g1.trans g2).trans g3).trans g7).trans g8) ((((p1.trans p2).trans p3).trans p7).trans p8) h8
theorem iChain {a b c : Expr} {op op' : CmpOp} {pos : Pos} {r r' : L2.R2} {f f' : D → D → Option D} {fa fb fc : E Val} (ho : OpR X (compareOp op) r) (hs : OpS g r f) (ho' : OpR X (compareOp op') r') (hs' : OpS g r' f') (ha : PE X a (sE g fa)) (hb : PE X b (sE g fb)) (hc : PE X c (sE g fc))
    (hm : lastMarks [op, op'] [b, c] = false := by with_unfolding_all rfl) : PE X (.Compare a [op, op'] [b, c] pos) (sE g (eChain f f' fa fb fc)) := (pe_chain ho ho' ha hb hc hm).via (sE_chain hs hs')
theorem iTChain {a b c : Expr} {op op' : CmpOp} {pos : Pos} {r r' : L2.R2} {f f' : D → D → Option D} {fa fb fc : E Val} (ho : OpR X (compareOp op) r) (hs : OpS g r f) (ho' : OpR X (compareOp op') r') (hs' : OpS g r' f') (ha : PE X a (sE g fa)) (hb : PE X b (sE g fb)) (hc : PE X c (sE g fc))
    (hm : lastMarks [op, op'] [b, c] = false := by with_unfolding_all rfl) : PT X (.Compare a [op, op'] [b, c] pos) (sT g (tV (eChain f f' fa fb fc))) := (pt_chain ho ho' ha hb hc hm).via fun σ H Q ⟨B, Λ, F, ι, m, k, m', rl, e, q⟩ => by
  obtain ⟨x1, m1, e1, y1⟩ := bind_ok e
  obtain ⟨d, m3, e3, y3⟩ := bind_ok y1
  obtain ⟨w3, rfl⟩ := rd_ok e3
  obtain ⟨w5, rfl⟩ := opt_ok y3
  cases boolOf_ok w5
  refine sE_chain hs hs' σ H _ ⟨B, Λ, F, ι, m, x1, _, rl, e1, fun v H1 F1 ι1 r1 g1 p1 h1 => ?_⟩
  have h2 := r1.dat h1 w3
  cases h2
  exact ⟨_, rfl, q H1 F1 ι1 r1 g1 p1⟩
end

/-! # list(range(..)) -/
def nRange1 (as : E Val) : E D := as.bind fun x => (rd x).bind fun d => (E.opt (intD d)).bind fun n => if rngOk n && sizeOk n.toNat then .ret (.lst (rangeD 0 n.toNat)) else fun _ => .no
def nRange2 (a b : E Val) : E D := a.bind fun x => b.bind fun y => (rd x).bind fun d => (rd y).bind fun d2 => (E.opt (intD d)).bind fun lo => (E.opt (intD d2)).bind fun hi => if rngOk lo && rngOk hi && sizeOk (hi - lo).toNat then .ret (.lst (rangeD lo (hi - lo).toNat)) else fun _ => .no
section
variable {X : Cx} {g : Gb}
theorem rg_v (F : Hp) (lo : Int) : ∀ n : Nat, RVs g F ((List.range n).map fun (i : Nat) => V.int (lo + (i : Int))) (rangeD lo n) := fun n => by
  unfold rangeD
  induction List.range n with
  | nil => exact .nil
  | cons i l ih => exact .cons (.int _) ih
theorem sizeOk_24 {n : Nat} (h : sizeOk n = true) : n ≤ 2 ^ 24 := Nat.le_trans (of_decide_eq_true h) (by decide)
theorem nListRg1 {a : Expr} {p1 p2 p pos : Pos} {fa : E Val} (hc : X.calm = true) (hm : X.mg "list" = none) (hm2 : X.mg "range" = none) (h : PE X a (sE g fa)) (hg : Gl X "list" := by rfl) (hg2 : Gl X "range" := by rfl)
    (na2 : starEach [a] X.env = (false, eval a X.env) :: starEach [] X.env := by rfl) (na : starEach [.Call (.Name "range" p1) [a] [] p2] X.env = (false, eval (.Call (.Name "range" p1) [a] [] p2) X.env) :: starEach [] X.env := by rfl) :
    PE X (.Call (.Name "list" p) [.Call (.Name "range" p1) [a] [] p2] [] pos) (sN g (nRange1 fa)) := (pe_listRg hc hg hm (prg_1 hg2 hm2 h na2) na).via fun σ H Q ⟨B, Λ, F, ι, m, d, m', rl, e, q⟩ => by
  obtain ⟨x1, m1, e1, y1⟩ := bind_ok e
  obtain ⟨d, m3, e3, y3⟩ := bind_ok y1
  obtain ⟨w3, rfl⟩ := rd_ok e3
  obtain ⟨n, m4, e4, y4⟩ := bind_ok y3
  obtain ⟨w4, rfl⟩ := opt_ok e4
  cases intD_ok w4
  split at y4
  · rename_i hr
    cases y4
    rw [Bool.and_eq_true] at hr
    have hr1 := of_decide_eq_true hr.1
    refine ⟨B, Λ, F, ι, m, x1, _, rl, e1, fun v H1 F1 ι1 r1 g1 p1 h1 => ?_⟩
    have h2 := r1.dat h1 w3
    cases h2
    refine ⟨n, rfl, ⟨by decide, by decide, hr1.1, hr1.2, by rw [Int.sub_zero]; exact sizeOk_24 hr.2⟩, fun p hp => ?_⟩
    have pin := r1.lay (o := .lst (rgV 0 n)) hp
    refine q p _ F1 ι1 _ pin g1 p1 (.lst upd_same ?_)
    unfold rgV
    rw [Int.sub_zero]
    exact rg_v F1 0 n.toNat
  · cases y4
end
/-! # sorted -/
def alikeB (ds : List D) : Bool := ds.all fun d => ds.all fun e => PySem.W.alike (toPy d) (toPy e)
def tupB : PyData → Bool
  | .tuple (_ :: _) => true
  | _ => false
def othB : PyData → Bool
  | .none => false
  | .tuple _ => false
  | _ => true
def sortOk (ds : List D) : Bool := alikeB ds && (ds.all plain && (((ds.all fun d => tupB (toPy d)) || ds.all fun d => othB (toPy d))))
def leD (d e : D) : Bool := !PySem.W.dataLt (toPy e) (toPy d)
def sortD (ds : List D) : List D := ds.mergeSort leD
def dSorted (d : D) : Option D := (lstD d).bind fun ds => if sortOk ds then some (.lst (sortD ds)) else none
end MF
namespace L2
open PySem PySem.Spec PyProof.Rows
def rSortD (K : PySem.W.Frag) : List V → Hp → VK → Prop := fun vs H Q => ∃ (a : Addr) (xs : List V) (ds : List PyData), vs = [V.ref a] ∧ SqL K H a xs ∧ xs.length = ds.length ∧ (∀ p ∈ xs.zip ds, Dp K H p.1 p.2) ∧
  PySem.W.AllAlike ds ∧ PySem.W.Sortable ds ∧ (∀ d ∈ ds, d.depth ≤ 64) ∧ ∀ p, H p = none → Q (.ref p) (upd H p (.lst (((xs.zip ds).mergeSort fun x y => !PySem.W.dataLt y.2 x.2).map (·.1))))
theorem each_zip {us : List Value} {xs : List V} {ds : List PyData} (r : Vals xs us) : ∀ {ds : List PyData}, xs.length = ds.length → PySem.W.EachIs (fun (u : Value) (p : V × PyData) => RelV p.1 u) us (xs.zip ds) := by
  induction r with
  | nil => intro ds h; cases ds with
    | nil => exact .nil
    | cons _ _ => simp at h
  | cons h t ih => intro ds hl; cases ds with
    | nil => simp at hl
    | cons d ds => exact .cons h (ih (by simpa using hl))
theorem vals_each {us : List Value} : ∀ {ps : List (V × PyData)}, PySem.W.EachIs (fun (u : Value) (p : V × PyData) => RelV p.1 u) us ps → Vals (ps.map (·.1)) us
  | _, .nil => .nil
  | _, .cons h t => .cons h (vals_each t)
theorem each_and {α β : Type} {R : α → β → Prop} {P : β → Prop} : ∀ {us : List α} {ps : List β}, PySem.W.EachIs R us ps → (∀ p ∈ ps, P p) → PySem.W.EachIs (fun u p => R u p ∧ P p) us ps
  | _, _, .nil, _ => .nil
  | _, _, .cons h t, k => .cons ⟨h, k _ List.mem_cons_self⟩ (each_and t fun p hp => k p (List.mem_cons_of_mem _ hp))
theorem zip_snd {xs : List V} : ∀ {ds : List PyData}, xs.length = ds.length → (xs.zip ds).map (·.2) = ds := by
  induction xs with
  | nil => intro ds h; cases ds with
    | nil => rfl
    | cons _ _ => simp at h
  | cons x xs ih => intro ds h; cases ds with
    | nil => simp at h
    | cons d ds => rw [List.zip_cons_cons, List.map_cons, ih (by simpa using h)]
theorem cr_sortD {X : Cx} (hu : X.A.units + 67 < cLine) : CallR X (.builtin "sorted") (rSortD X.K) := by
  intro pins s σ H vs us Q I r h
  obtain ⟨a, xs, ds, rfl, hs, hl, hd, hal, hk, hdp, q⟩ := h
  obtain ⟨its, rv, hli, hz⟩ := I.list hs
  rw [Vals.ref1 r]
  have e0 := each_zip (us := its) rv (ds := ds) hl
  have em : (xs.zip ds).map (·.2) = ds := zip_snd hl
  have er : PySem.W.EachIs (fun v (b : V × PyData) => ∃ as, Reads s.heap v b.2 as) its (xs.zip ds) := (each_and e0 hd).mono fun u p ⟨h1, h2⟩ => Dp.reads I p.2 p.1 u h2 h1
  have hzl : (xs.zip ds).length = its.length := by rw [List.length_zip, ← hl, Nat.min_self, rv.length]
  refine PySem.W.sorted_data (enc := fun b : V × PyData => b.2) hli.isList e0 er (by rw [em]; exact hal) (by rw [em]; exact hk) (by rw [hzl, ← rv.length]; exact hz) (fun b hb => ?_) fun out h1 h2 => ?_
  · have : b.2 ∈ ds := by rw [← em]; exact List.mem_map.mpr ⟨b, hb, rfl⟩
    have := hdp _ this
    omega
  · obtain ⟨ep, he'⟩ := PyProof.Rows.sortedAll_at s.heap its out.toArray
    have hm : (((xs.zip ds).mergeSort fun x y => !PySem.W.dataLt y.2 x.2).map (·.1)).length ≤ sizeLine := by
      rw [List.length_map, List.length_mergeSort, hzl, ← rv.length]; exact hz
    exact ⟨.ref _, upd H (s.heap.objs.size + 1) (.lst (((xs.zip ds).mergeSort fun x y => !PySem.W.dataLt y.2 x.2).map (·.1))), I.laid (t' := s.toks) (fun _ _ => PyProof.Rows.sortedAll_old) (Nat.le_succ _) ⟨hm, out, ep, vals_each h2, he'⟩, rfl, q _ (I.hok.fresh (Nat.le_succ _))⟩
end L2
namespace MF
open PySem L2
section
variable {g : Gb}
theorem RVs.zip {F : Hp} : ∀ {vs : List V} {ds : List D}, RVs g F vs ds → ∀ p ∈ vs.zip ds, RV g F p.1 p.2
  | _, _, .nil, p, hp => by cases hp
  | _, _, .cons h r, p, hp => by
    rw [List.zip_cons_cons] at hp
    rcases List.mem_cons.mp hp with rfl | hp
    · exact h
    · exact RVs.zip r p hp
theorem RVs.of_zip {F : Hp} : ∀ {ps : List (V × D)}, (∀ p ∈ ps, RV g F p.1 p.2) → RVs g F (ps.map (·.1)) (ps.map (·.2))
  | [], _ => .nil
  | p :: ps, h => .cons (h p List.mem_cons_self) (RVs.of_zip fun q hq => h q (List.mem_cons_of_mem _ hq))
theorem sortedS (g : Gb) : CallS g (L2.rSortD g.K) (one dSorted) := oneS fun F H v d z Q sb hv hf hq => by
  unfold dSorted at hf
  cases e : lstD d with
  | none => rw [e] at hf; cases hf
  | some ds =>
    rw [e] at hf
    obtain ⟨a, vs, rfl, hs, hr⟩ := lstD_v hv e
    simp only [Option.bind_some] at hf
    split at hf
    · rename_i ok
      cases hf
      unfold sortOk at ok
      rw [Bool.and_eq_true, Bool.and_eq_true] at ok
      obtain ⟨ok1, ok2, ok3⟩ := ok
      have hal : PySem.W.AllAlike (ds.map toPy) := fun x hx y hy => by
        obtain ⟨d, hd, rfl⟩ := List.mem_map.mp hx
        obtain ⟨d', hd', rfl⟩ := List.mem_map.mp hy
        exact List.all_eq_true.mp (List.all_eq_true.mp ok1 d hd) d' hd'
      have hso : PySem.W.Sortable (ds.map toPy) := by
        rw [Bool.or_eq_true] at ok3
        rcases ok3 with k | k
        · refine .inl fun x hx => ?_
          obtain ⟨d, hd, rfl⟩ := List.mem_map.mp hx
          have := List.all_eq_true.mp k d hd
          unfold tupB at this
          split at this
          · rename_i x r e; exact ⟨x, r, e⟩
          · cases this
        · refine .inr fun x hx => ?_
          obtain ⟨d, hd, rfl⟩ := List.mem_map.mp hx
          have := List.all_eq_true.mp k d hd
          unfold othB at this
          split at this
          · cases this
          · cases this
          · rename_i h1 h2; exact ⟨h1, h2⟩
      have hpl : ∀ d ∈ ds, plain d = true := List.all_eq_true.mp ok2
      have rm := hr.mono sb
      refine ⟨a, vs, ds.map toPy, rfl, hs, by rw [List.length_map]; exact hr.length, fun p hp => ?_, hal, hso, fun x hx => ?_, fun p hp => hq.2 p _ hp (.lst upd_same ?_)⟩
      · rw [List.zip_map_right] at hp
        obtain ⟨q, hq', rfl⟩ := List.mem_map.mp hp
        have h1 := rm.zip q hq'
        have h2 : q.2 ∈ ds := (List.of_mem_zip hq').2
        exact h1.dp (plain_lay (hpl _ h2))
      · obtain ⟨d, hd, rfl⟩ := List.mem_map.mp hx
        exact SeqAt.depth_of_shaped (hpl d hd)
      · have e1 : ((vs.zip (ds.map toPy)).mergeSort fun x y => !PySem.W.dataLt y.2 x.2) = ((vs.zip ds).mergeSort fun x y => leD x.2 y.2).map (Prod.map id toPy) := by
          rw [List.zip_map_right]
          exact (List.map_mergeSort (f := Prod.map id toPy) (r := fun x y => leD x.2 y.2) (s := fun x y => !PySem.W.dataLt y.2 x.2) (l := vs.zip ds) fun _ _ _ _ => rfl).symm
        have e2 : sortD ds = ((vs.zip ds).mergeSort fun x y => leD x.2 y.2).map (·.2) := by
          have ez : (vs.zip ds).map (·.2) = ds := by
            have : ∀ {vs : List V} {ds : List D}, vs.length = ds.length → (vs.zip ds).map (·.2) = ds := by
              intro vs
              induction vs with
              | nil => intro ds h; cases ds with
                | nil => rfl
                | cons _ _ => simp at h
              | cons x xs ih => intro ds h; cases ds with
                | nil => simp at h
                | cons d ds => rw [List.zip_cons_cons, List.map_cons, ih (by simpa using h)]
            exact this hr.length
          unfold sortD
          conv => lhs; rw [← ez]
          exact (List.map_mergeSort (f := fun x : V × D => x.2) (r := fun x y => leD x.2 y.2) (s := leD) (l := vs.zip ds) fun _ _ _ _ => rfl).symm
        rw [e1, e2, List.map_map]
        refine (RVs.of_zip fun q hq' => ?_).gr (Gr.new (freeF sb hp))
        exact hr.zip q ((List.mergeSort_perm _ _).mem_iff.mp hq')
    · cases hf
end
end MF
set_option Elab.async false
set_option linter.all false
set_option maxRecDepth 100000
set_option maxHeartbeats 4000000
namespace MF
open PySem L2

/-! # fields are stored -/
def putFD (f : Str) (v : D) : List (Str × D) → List (Str × D)
  | [] => [(f, v)]
  | (g, x) :: r => if g = f then (g, v) :: r else (g, x) :: putFD f v r
def dPutF (f : Str) (c v : D) : Option D := match c with
  | .obj k fs => if fs.length < 1000 then some (.obj k (putFD f v fs)) else none
  | _ => none
def sFldSet (f : Str) (o v : E Val) : E Ctl := v.bind fun y => (asD y).bind fun d => o.bind fun x => (rd x).bind fun c => (E.opt (dPutF f c d)).bind fun c' => (putD x c').bind fun _ => .ret .nx
theorem putF_v {g : Gb} {F : Hp} {v : V} {d : D} (f : Str) (hv : RV g F v d) : ∀ {fs : List (Str × V)} {ds : List (Str × D)}, fs.map (·.1) = ds.map (·.1) → RVs g F (fs.map (·.2)) (ds.map (·.2)) →
    (L2.putF f v fs).map (·.1) = (putFD f d ds).map (·.1) ∧ RVs g F ((L2.putF f v fs).map (·.2)) ((putFD f d ds).map (·.2))
  | [], [], _, _ => ⟨rfl, .cons hv .nil⟩
  | [], _ :: _, h, _ => by simp at h
  | _ :: _, [], h, _ => by simp at h
  | (a, x) :: fs, (b, y) :: ds, h, r => by
    simp only [List.map_cons, List.cons.injEq] at h
    obtain ⟨rfl, h⟩ := h
    cases r with
    | cons hr rr =>
      unfold L2.putF putFD
      by_cases e : a = f
      · rw [if_pos e, if_pos e]
        simp only [List.map_cons]
        exact ⟨by rw [h], .cons hv rr⟩
      · rw [if_neg e, if_neg e]
        obtain ⟨h1, h2⟩ := putF_v f hv h rr
        simp only [List.map_cons]
        exact ⟨by rw [h1], .cons hr h2⟩
section
variable {X : Cx} {g : Gb}
theorem iFldSet {o value : Expr} {f : Str} {pos' pos : Pos} {fo fv : E Val} (hK : X.K = g.K) (hf : FldOk g f) (ho : PE X o (sE g fo)) (hv : PE X value (sE g fv)) (hs : swapsWith value (some (.Attribute o f pos')) pos.line X.env = pure false := by rfl) :
    PS X (.Assign [.Attribute o f pos'] value pos) (sS g (sFldSet f fo fv)) := (ps_fld ho hv hs).via fun D σ H ⟨B, Λ, F, ι, m, c, m', r, e, q⟩ => by
  obtain ⟨y1, m1, e1, z1⟩ := bind_ok e
  obtain ⟨d, m2, e2, z2⟩ := bind_ok z1
  obtain ⟨x, m3, e3, z3⟩ := bind_ok z2
  obtain ⟨c0, m4, e4, z4⟩ := bind_ok z3
  obtain ⟨w4, rfl⟩ := rd_ok e4
  obtain ⟨c1, m5, e5, z5⟩ := bind_ok z4
  obtain ⟨w5, rfl⟩ := opt_ok e5
  obtain ⟨u, m6, e6, z6⟩ := bind_ok z5
  cases z6
  refine ⟨B, Λ, F, ι, m, y1, m1, r, e1, fun v H1 F1 ι1 r1 g1 p1 h1 => ?_⟩
  obtain ⟨F2, g2, r2, h2⟩ := r1.asD h1 e2
  refine ⟨B, Λ, F2, ι1, m2, x, _, r2, e3, fun w H3 F3 ι3 r3 g3 p3 h3 => ?_⟩
  obtain ⟨a, rfl, ro, k⟩ := r3.mut h3 w4 e6
  unfold dPutF at w5
  split at w5
  · split at w5
    · rename_i kc fs hl
      cases w5
      cases ro with
      | @obj C dx _ vs _ k1 k2 k3 k4 =>
        obtain ⟨k5, k6⟩ := hf.ex _ _ k2
        obtain ⟨k7, k8⟩ := putF_v f (h2.gr g3) k3 k4
        have hl2 : vs.length = fs.length := by have := congrArg List.length k3; rwa [List.length_map, List.length_map] at this
        rw [hK]
        exact ⟨a, C, dx, vs, rfl, k1, k5, k6, by rw [hl2]; exact hl, q σ _ F3 ι3 (k _ (.obj upd_same k2 k7 k8)) ((g1.trans g2).trans g3) (p1.trans p3)⟩
    · cases w5
  · cases w5
end

/-! # making -/
def eMake (c : Str) (fn : Fn) (as : E (List Val)) : E Val := as.bind fun xs => (args xs).bind fun bs m => match fn (.s m.S.length :: bs) (m.S ++ [.obj c []]) with
  | some (.t .non, S') => match S'[m.S.length]? with
    | some d => if S'.length = m.S.length + 1 then .ok (.t d) ⟨m.ρ, S'.take m.S.length⟩ else .no
    | none => .no
  | _ => .no
section
variable {X : Cx} {g : Gb} {B : Bs} {Λ : Lks} {σ : L2.St} {H H' F F' : Hp} {ι ι' : List Addr} {m : M} {S S' : List D} {a : Addr} {d : D}
theorem CR.unshare (c : CR g Λ H' F' (ι ++ [a]) S') (hl : S'[ι.length]? = some d) : ∃ o, Gr F' (upd F' a o) ∧ CR g Λ H' (upd F' a o) ι (S'.take ι.length) ∧ RV g (upd F' a o) (.ref a) d := by
  obtain ⟨U, l, c1, c2, c3, c4, c5⟩ := c.ex
  have ha : (ι ++ [a])[ι.length]? = some a := by rw [List.getElem?_append_right (Nat.le_refl _), Nat.sub_self]; rfl
  have ro := c5 _ _ _ ha hl
  have hF := c2 a (List.mem_append_right _ List.mem_cons_self)
  obtain ⟨o, ho, hv⟩ := ro.freeze hF
  have gr : Gr F' (upd F' a o) := Gr.new hF
  have nd := List.nodup_append.mp c3
  have na : ∀ b ∈ ι, b ≠ a := fun b hb => nd.2.2 b hb a List.mem_cons_self
  refine ⟨o, gr, ⟨U, ⟨l.out, fun p hp => ?_⟩, fun b u e => ?_, fun b hb => ?_, nd.1, ?_, fun n b e h1 h2 => ?_⟩, hv⟩
  · obtain ⟨k1, k2, k3⟩ := l.at_ p hp; exact ⟨gr _ _ k1, k2, k3⟩
  · by_cases z : b = a
    · subst z; rw [upd_same] at e; cases e; exact ho
    · rw [upd_ne z] at e; exact c1 b u e
  · rw [upd_ne (na b hb)]; exact c2 b (List.mem_append_left _ hb)
  · rw [List.length_take, c4, List.length_append]; simp
  · rw [List.getElem?_take] at h2
    split at h2
    · exact (c5 n b e (get_pre (List.prefix_append _ _) h1) h2).keep gr fun _ z => z
    · cases h2
theorem iMake {CX : CXT} {k : Nat} {f C : Addr} {fd : FuncData} {ps : List Str} {x c : Str} {e : Expr} {es : List Expr} {p pos : Pos} {fn : Fn} {as : E (List Val)} {E : XK} (M : Mk X.K C f) (hC : g.cls c = some C) (F : FnOk X.prog X.w X.K X.mg X.base CX k f fd ps (spF g fn)) (hr : Room (k + 1) X.A) (hm : X.mg x = some (.ref C)) (hb : Binds X.K fd ps []) (hx : Passes CX X E)
    (ha : PA X (e :: es) (sA g as)) (hg : Gl X x := by rfl) (hdb : (x == ("__debug__" : Str)) = false := by decide) (he : starEach (e :: es) X.env = (false, eval e X.env) :: starEach es X.env := by rfl) (hpl : (backTo pos (starEach es X.env)).any (·.1) = false := by rfl) :
    PE X (.Call (.Name x p) (e :: es) [] pos) (sE g (eMake c fn as)) := (pe_make M F hr hg hm hb .nil hx ha hdb he hpl).via fun σ H Q ⟨B, Λ, F, ι, m, z, m', r, e, q⟩ => by
  obtain ⟨xs, m1, e1, y1⟩ := bind_ok e
  obtain ⟨bs, m2, e2, y2⟩ := bind_ok y1
  refine ⟨B, Λ, F, ι, m, xs, m1, r, e1, fun vs H1 F1 ι1 r1 g1 p1 h1 => fun a dx h2 h3 h4 => ?_⟩
  obtain ⟨F2, g2, r2, h5⟩ := r1.args h1 e2
  rw [List.append_nil]
  have hl : m2.S.length = ι1.length := by obtain ⟨U, l, k⟩ := r2.ex; exact k.sl
  have rj := r2.junk (o := .own a) h3
  have hn : (upd H1 dx (.own a)) a = none := by rw [upd_ne (Ne.symm h4)]; exact h2
  have rp := rj.lay (o := .ins C dx []) hn
  have rs := rp.share (d := .obj c []) (.obj upd_same hC rfl .nil)
  split at y2
  · rename_i S' hf
    split at y2
    · rename_i d hd
      split at y2
      · rename_i hln
        cases y2
        have hna : (ι1 ++ [a])[m2.S.length]? = some a := by rw [hl, List.getElem?_append_right (Nat.le_refl _), Nat.sub_self]; rfl
        refine ⟨Λ, F2, ι1 ++ [a], m2.S ++ [.obj c []], .s m2.S.length :: bs, .t .non, S', rs.cr, .cons ⟨a, rfl, hna⟩ (h5.imp fun v b hv => hv.gr (Gr.refl _) (List.prefix_append _ _)), hf, fun v H' F' ι' cr kp hv => ?_⟩
        cases hv
        refine ⟨rfl, ?_⟩
        obtain ⟨t, ht⟩ := kp.pre
        have ht0 : t = [] := by
          obtain ⟨U, _, _, _, _, c4, _⟩ := cr.ex
          have := congrArg List.length ht
          rw [List.length_append, List.length_append, ← c4, hln, ← hl] at this
          simp at this
          exact this
        subst ht0
        rw [List.append_nil] at ht
        subst ht
        obtain ⟨o, g6, c6, h6⟩ := cr.unshare (by rw [← hl]; exact hd)
        have old : ∀ b u, H1 b = some u → upd (upd H1 dx (.own a)) a (.ins C dx []) b = some u := fun b u e => by rw [upd_ne (ne_of_none e h2), upd_ne (ne_of_none e h3)]; exact e
        have kk : Kept ι1 ι1 H1 H' F2 (upd F' a o) := by
          refine ⟨fun b u e hb => kp.old b u (old b u e) fun z => ?_, fun b u e => ?_, kp.gr.trans g6, List.prefix_refl _, fun b hb => .inl hb⟩
          · rcases List.mem_append.mp z with z | z
            · exact hb z
            · rw [List.mem_singleton] at z; subst z; rw [h2] at e; cases e
          · by_cases z : b = a
            · subst z; exact .inr (.inl h2)
            · rw [upd_ne z] at e
              rcases kp.new b u e with w | w | ⟨vs, e1, w⟩
              · exact .inl w
              · refine .inr (.inl ?_)
                cases hb : H1 b with
                | none => rfl
                | some u2 => rw [old b u2 hb] at w; cases w
              · refine .inr (.inr ⟨vs, e1, ?_⟩)
                rw [upd_ne z] at w
                by_cases y : b = dx
                · subst y; rw [upd_same] at w; cases w
                · rw [upd_ne y] at w; exact w
        have rb := r2.back c6 kk
        rw [← hl] at rb
        exact q _ H' _ ι1 rb ((g1.trans g2).trans kk.gr) p1 h6
      · cases y2
    · cases y2
  · cases y2
end

/-! # len(x) where x's class has a def for it -/
end MF
namespace L2
open PySem PySem.Spec PyProof.Rows
def rLenO (C : Addr) (sp : Sp) (E : XK) : List V → Hp → VK → Prop := fun xs H Q => ∃ a dx fs, xs = [V.ref a] ∧ H a = some (.ins C dx fs) ∧ sp [.ref a] H (fun z H' => ∃ i : Int, z = .int i ∧ (0 ≤ i ∧ i < 2 ^ 63) ∧ Q z H') E
theorem call_lenO {X : Cx} {CX : CXT} {n : Nat} {C f : Addr} {fd : FuncData} {ps : List Str} {sp : Sp} {E : XK} (hs : PySem.W.findIn X.K (.ref C) "__len__" = some (some (.ref f))) (hf : PySem.W.isFn X.K (.ref f) = true) (F : FnOk X.prog X.w X.K X.mg X.base CX n f fd ps sp) (hb : Binds X.K fd ps []) (hr : Room (n + 1) X.A) (hx : Passes CX X E) :
    CallR X (.builtin "len") (rLenO C sp E) := by
  intro pins s σ H xs us Q I r h
  obtain ⟨a, dx, fs, rfl, ha, q⟩ := h
  obtain ⟨u, rfl, ru⟩ := r.one
  cases (show u = Value.ref a from ru)
  obtain ⟨mA, O, _, _, _, _⟩ := ins_get I.hok ha
  obtain ⟨od, J, _⟩ := O.look
  obtain ⟨m0, hF⟩ := I.fr
  have hl : ([Value.ref a] ++ []).length = ps.length := F.len _ _ _ _ q
  refine PySem.W.len_K hF I.ok.mod.kin J hs hf ?_
  have hh : wpAny (model X.prog X.w) X.A.in1 (call (.ref f) [.ref a]) (EP X pins σ (fun z H' => ∃ i : Int, z = .int i ∧ (0 ≤ i ∧ i < 2 ^ 63) ∧ Q z H')) X.xe s := by
    refine wpAny_call (codeAny_mono (F.run X.A.in1 X.stack s H ⟨[.ref a], []⟩ [.ref a] [.ref a] _ E hr.in1 I.env0.in1 (hb s [.ref a] I.kIn hl) (.cons rfl .nil) q) fun r s' hq => ?_)
    cases r with
    | error e => exact hx pins σ H s e s' I hq
    | ok fl =>
      cases fl with
      | ret u => exact I.after hq
      | next => exact False.elim hq
      | brk => exact False.elim hq
      | cont => exact False.elim hq
  refine wpAny_mono hh (fun w s' z => ?_) fun _ _ x => x
  · obtain ⟨z', H', I', rz, i, ei, hi, qz⟩ := z
    subst ei
    obtain ⟨t, e⟩ := (show ∃ t, w = Value.int i t from rz)
    cases e
    exact ⟨hi, .int i, H', I'.tok _, ⟨_, rfl⟩, qz⟩
end L2
namespace MF
open PySem L2
def lenOk (i : Int) : Bool := decide (0 ≤ i ∧ i < 2 ^ 62)
def eLenO (c : Str) (fn : Fn) (as : E (List Val)) : E Val := as.bind fun xs => match xs with
  | [x] => (rd x).bind fun d => match d with
    | .obj c' _ => if c' = c then (arg x).bind fun b m => match fn [b] m.S with
        | some (.t (.int n), S') => if lenOk n then .ok (.t (.int n)) ⟨m.ρ, S'⟩ else .no
        | _ => .no
      else no'
    | _ => no'
  | _ => no'
section
variable {X : Cx} {g : Gb}
theorem iLenO {CX : CXT} {k : Nat} {f C : Addr} {fd : FuncData} {ps : List Str} {c : Str} {e : Expr} {p pos : Pos} {fn : Fn} {as : E (List Val)} {E : XK} (hs : PySem.W.findIn X.K (.ref C) "__len__" = some (some (.ref f))) (hf : PySem.W.isFn X.K (.ref f) = true) (hC : g.cls c = some C)
    (F : FnOk X.prog X.w X.K X.mg X.base CX k f fd ps (spF g fn)) (hb : Binds X.K fd ps []) (hr : Room (k + 1) X.A) (hx : Passes CX X E) (hm : X.mg "len" = none) (ha : PA X [e] (sA g as)) (hg : Gl X "len" := by rfl)
    (he : starEach [e] X.env = (false, eval e X.env) :: starEach [] X.env := by rfl) (hpl : (backTo pos (starEach [] X.env)).any (·.1) = false := by rfl) : PE X (.Call (.Name "len" p) [e] [] pos) (sE g (eLenO c fn as)) := (pe_callB (call_lenO hs hf F hb hr hx) hg hm (by decide +kernel) ha (by decide) (by decide) he hpl).via fun σ H Q ⟨B, Λ, F, ι, m, z, m', r, e, q⟩ => by
  obtain ⟨xs, m1, e1, y1⟩ := bind_ok e
  refine ⟨B, Λ, F, ι, m, xs, m1, r, e1, fun vs H1 F1 ι1 r1 g1 p1 h1 => ?_⟩
  split at y1
  · rename_i x
    obtain ⟨v, rfl, hv⟩ := all2_1 h1
    obtain ⟨d, m2, e2, y2⟩ := bind_ok y1
    obtain ⟨w2, rfl⟩ := rd_ok e2
    split at y2
    · rename_i c' fs
      split at y2
      · rename_i hc
        subst hc
        obtain ⟨b, m3, e3, y3⟩ := bind_ok y2
        have h2 := r1.dat hv w2
        cases h2 with
        | @obj a C' dx _ vs _ k1 k2 k3 k4 =>
          rw [hC] at k2; cases k2
          obtain ⟨F2, g2, r2, h3⟩ := r1.arg hv e3
          refine ⟨a, dx, vs, rfl, k1, Λ, F2, ι1, m3.S, [b], ?_⟩
          split at y3
          · rename_i n S' hf2
            split at y3
            · rename_i hn
              cases y3
              refine ⟨_, S', r2.cr, .cons h3 .nil, hf2, fun w H' F' ι' cr kp hw => ?_⟩
              cases hw
              have hn' := of_decide_eq_true hn
              exact ⟨n, rfl, ⟨hn'.1, by have := hn'.2; omega⟩, q _ H' F' ι' (r2.back cr kp) ((g1.trans g2).trans kp.gr) (p1.trans kp.pre) (.int n)⟩
            · cases y3
          · cases y3
      · cases y2
    · cases y2
  · cases y1
end

/-! # displays of dicts -/
def pairsE : List (E Val × E Val) → E (List (Key × D))
  | [] => .ret []
  | (a, b) :: r => a.bind fun x => (rd x).bind fun kd => (E.opt (keyD kd)).bind fun k => b.bind fun y => (asD y).bind fun d => (pairsE r).bind fun t => .ret ((k, d) :: t)
def mergeD (kvs more : List (Key × D)) : List (Key × D) := more.foldl (fun acc kv => putKD acc kv.1 kv.2) kvs
def nDisp (l : List (E Val × E Val)) : E D := (pairsE l).bind fun kvs => if kvs.length ≤ 15 then .ret (.dk (mergeD [] kvs)) else no'
def nDk : E D := .ret (.dk [])
def nDt : E D := .ret (.dt [])
section
variable {X : Cx} {g : Gb}
theorem pairs_run {Λ : Lks} {σ : L2.St} {B : Bs} : ∀ {l : List (E Val × E Val)} {H F : Hp} {ι : List Addr} {m m' : M} {kvs : List (Key × D)}, Rel g B Λ σ H F ι m → pairsE l m = .ok kvs m' → ∀ Q : List (V × V) → Hp → Prop,
    (∀ ps H' F' ι', Rel g B Λ σ H' F' ι' m' → Gr F F' → ι <+: ι' → (∃ kv : List (Key × V), ps = kv.map (fun p => (kV p.1, p.2)) ∧ kv.map (·.1) = kvs.map (·.1) ∧ RVs g F' (kv.map (·.2)) (kvs.map (·.2))) → Q ps H') → tPairs (l.map fun p => (sE g p.1, sE g p.2)) σ H Q
  | [], H, F, ι, m, m', kvs, r, e, Q, q => by
    cases e
    exact q [] H F ι r (Gr.refl F) (List.prefix_refl _) ⟨[], rfl, rfl, .nil⟩
  | (a, b) :: l, H, F, ι, m, m', kvs, r, e, Q, q => by
    obtain ⟨x, m1, e1, y1⟩ := bind_ok e
    obtain ⟨kd, m2, e2, y2⟩ := bind_ok y1
    obtain ⟨w2, rfl⟩ := rd_ok e2
    obtain ⟨k, m3, e3, y3⟩ := bind_ok y2
    obtain ⟨w3, rfl⟩ := opt_ok e3
    obtain ⟨y, m4, e4, y4⟩ := bind_ok y3
    obtain ⟨d, m5, e5, y5⟩ := bind_ok y4
    obtain ⟨t, m6, e6, y6⟩ := bind_ok y5
    cases y6
    refine ⟨B, Λ, F, ι, m, x, _, r, e1, fun v H1 F1 ι1 r1 g1 p1 h1 => ?_⟩
    have hk := key_v (r1.dat h1 w2) w3
    refine ⟨B, Λ, F1, ι1, _, y, _, r1, e4, fun w H2 F2 ι2 r2 g2 p2 h2 => ?_⟩
    obtain ⟨F3, g3, r3, h3⟩ := r2.asD h2 e5
    refine pairs_run r3 e6 _ fun ps H4 F4 ι4 r4 g4 p4 h4 => ?_
    obtain ⟨kv, rfl, k1, k2⟩ := h4
    refine q _ H4 F4 ι4 r4 (((g1.trans g2).trans g3).trans g4) ((p1.trans p2).trans p4) ⟨(k, w) :: kv, by rw [hk]; rfl, by rw [List.map_cons, List.map_cons, k1], .cons (h3.gr g4) k2⟩
theorem merge_v {F : Hp} : ∀ {more : List (Key × V)} {ms : List (Key × D)} {kvs : List (Key × V)} {ds : List (Key × D)}, more.map (·.1) = ms.map (·.1) → RVs g F (more.map (·.2)) (ms.map (·.2)) → kvs.map (·.1) = ds.map (·.1) → RVs g F (kvs.map (·.2)) (ds.map (·.2)) →
    (mergeK kvs more).map (·.1) = (mergeD ds ms).map (·.1) ∧ RVs g F ((mergeK kvs more).map (·.2)) ((mergeD ds ms).map (·.2))
  | [], [], kvs, ds, _, _, h1, h2 => ⟨h1, h2⟩
  | [], _ :: _, _, _, h, _, _, _ => by simp at h
  | _ :: _, [], _, _, h, _, _, _ => by simp at h
  | (a, x) :: more, (b, y) :: ms, kvs, ds, h, r, h1, h2 => by
    simp only [List.map_cons, List.cons.injEq] at h
    obtain ⟨rfl, h⟩ := h
    cases r with
    | cons hr rr =>
      obtain ⟨k1, k2⟩ := put_keys a h1 h2 hr
      have z := merge_v h rr k1 k2
      exact z
theorem ippsNil {pos : Pos} : PPs X pos [] [] (([] : List (E Val × E Val)).map fun p => (sE g p.1, sE g p.2)) := pps_nil
theorem ippsCons {pos : Pos} {k v : Expr} {ks : List (Option Expr)} {vs : List Expr} {a b : E Val} {l : List (E Val × E Val)} (hk : PE X k (sE g a)) (hv : PE X v (sE g b)) (hr : PPs X pos ks vs (l.map fun p => (sE g p.1, sE g p.2))) :
    PPs X pos (some k :: ks) (v :: vs) (((a, b) :: l).map fun p => (sE g p.1, sE g p.2)) := pps_cons hk hv hr
theorem inDisp {pos : Pos} {keys : List (Option Expr)} {values : List Expr} {l : List (E Val × E Val)} (h : PPs X pos keys values (l.map fun p => (sE g p.1, sE g p.2))) (hall : keys.all (·.isSome) = true := by rfl) (hl : keys.length = values.length := by rfl) (h0 : keys ≠ [] := by exact fun z => by cases z) (h15 : keys.length ≤ 15 := by decide) :
    PE X (.Dict keys values pos) (sN g (nDisp l)) := (pe_disp h hall hl h0 h15).via fun σ H Q ⟨B, Λ, F, ι, m, d, m', r, e, q⟩ => by
  obtain ⟨kvs, m1, e1, y1⟩ := bind_ok e
  split at y1
  · rename_i hn
    cases y1
    intro p hp
    have pin := r.lay (o := .dK []) hp
    refine pairs_run pin.rel e1 _ fun ps H2 F2 ι2 r2 g2 p2 h2 => ?_
    have pin2 : Pin g B Λ σ H2 F2 ι2 _ p (.dK []) := ⟨r2, pin.bH, pin.bF, pin.bi, by intro _ z; cases z⟩
    obtain ⟨_, _, hH⟩ := pin2.facts
    obtain ⟨kv, rfl, k1, k2⟩ := h2
    obtain ⟨k3, k4⟩ := merge_v (kvs := []) (ds := []) k1 k2 rfl .nil
    have hlen : kv.length = kvs.length := by have := congrArg List.length k1; rwa [List.length_map, List.length_map] at this
    exact ⟨hH, kv, rfl, by rw [hlen]; exact hn, q p _ F2 ι2 _ pin2.put g2 p2 (.dk upd_same k3 k4)⟩
  · cases y1
theorem inDk {pos : Pos} : PE X (.Dict [] [] pos) (sN g nDk) := pe_dnewK.via fun σ H Q ⟨B, Λ, F, ι, m, d, m', r, e, q⟩ => by
  cases e
  exact fun p hp => q p _ F ι _ (r.lay hp) (Gr.refl F) (List.prefix_refl _) (.dk upd_same rfl .nil)
theorem inDt {pos : Pos} : PE X (.Dict [] [] pos) (sN g nDt) := pe_dnewT.via fun σ H Q ⟨B, Λ, F, ι, m, d, m', r, e, q⟩ => by
  cases e
  exact fun p hp => q p _ F ι _ (r.lay hp) (Gr.refl F) (List.prefix_refl _) (.dt upd_same rfl .nil)
end
end MF
set_option Elab.async false
set_option linter.all false
set_option maxRecDepth 100000
set_option maxHeartbeats 4000000

/-! # dict comprehensions with keys of any kind -/
namespace MFDc
open PySem PySem.Spec PyProof.Rows L2
theorem setAny {Y : Cx} {pins : List (Addr × Obj)} {τ : L2.St} {G G' : Hp} {z : Shared} {E : Value → Shared → Prop} {a : Addr} {y v : V} {u r : Value} {Q : Unit → Shared → Prop} (J : Inv Y pins τ G z) (hu : Y.A.units < cLine) (g : DPut G a y v G') (ry : RelV y u) (rv : RelV v r)
    (fin : ∀ z', Inv Y pins τ G' z' → Q () z') : wpAny (model Y.prog Y.w) Y.A (dictSet a u r) Q E z := by
  rcases g with ⟨kvs, k, e, ey, l, eG⟩ | ⟨kvs, k, b, e, ey, eb, l, eG⟩
  · subst ey eG; exact d_dictSet J e l ry rv fin
  · subst ey eG
    obtain rfl : u = Value.ref b := ry
    obtain ⟨z1, z2, es, rl, dd⟩ := dt_of J.hok e
    have n1 : es.length ≤ sizeLine := by rw [← Paired.length rl]; exact z1
    have n2 : (putK kvs k v).length ≤ sizeLine := by have := length_putK kvs k v; omega
    refine wpAny_dictSet_heap (hsz := n1) hu (key_of J.hok eb) dd fun h2 dd2 same => fin _ ?_
    obtain ⟨q0, q1, q2, q3, q4, q5, q6, _, q7⟩ := dd2
    refine d_write J (by rw [e]; exact True.intro) same ⟨q0, q3⟩ ⟨n2, z2, _, (rl.put k eb rv).keeps fun c ys ec => ?_, q0, q1, q2, q3, q4, q5, q6, q7⟩
    rw [upd_ne (ne_of ec e (fun w => nomatch w))]; exact ec
def Empty (o0 : HO) : Prop := o0 = .dK [] ∨ o0 = .dT []
theorem laidD {Y : Cx} {pins : List (Addr × Obj)} {τ : L2.St} {G : Hp} {z : Shared} {o0 : HO} (J : Inv Y pins τ G z) (h : Empty o0) : Inv Y pins τ (upd G z.heap.objs.size o0) { z with heap := z.heap.push { cls := .type "dict", data := .dict #[] } } := by
  refine J.laid (t' := z.toks) (fun b o e => Heap.get?_push_of_some _ e) (Nat.le_refl _) ?_
  rcases h with rfl | rfl
  · exact dk_empty z.heap J.big
  · exact dt_empty z.heap J.big
/-- the reading -/
def rdDc (o0 : HO) (wi : TI) (g : TG) (tt : TT) (tk tv : TE) (own : List Nat) : TE := fun τ G Q => wi τ G fun J G1 => ∀ D, G1 D = none → ∃ W : Nat → Nat → Hp → Prop, (∃ m, W 0 m (upd G1 D o0)) ∧ ∀ i m G, W i m G →
  (J.stop i G ∧ Q (.ref D) G) ∨ (J.go i G ∧ ∃ Nx : Hp → Prop, (∀ G', Nx G' → ∃ m', m' < m ∧ W (i + 1) m' G') ∧ ∀ x G', J.yld i G x G' → g x (wipe τ own) G' fun τ2 G2 => wipe τ2 own = wipe τ own ∧ tt τ2 G2 fun b G3 =>
    if b = true then tk τ2 G3 fun y G4 => tv τ2 G4 fun v G5 => ∃ G6, DPut G5 D y v G6 ∧ Nx G6 else Nx G3)
section
variable {Y : Cx}
/-- the block's context -/
abbrev Blk (Y : Cx) (scope : Scope) (z : Shared) (G : Hp) (C : Addr) (cl : List (Str × Addr)) (fp : List Addr) : Cx := Y.blk z G scope (compEnvC scope cl C Y.env) fp
theorem run {kx vx tg it0 : Expr} {ifs : List Expr} {scope : Scope} {own : List (Str × Nat)} {pos : Pos} {o0 : HO} {wi : TI} {g : TG} {tt : TT} {tk tv : TE} (hc : Y.calm = true) (hN : Y.N.Nodup) (hu : Y.A.units < cLine) (h0 : Empty o0) (hi : PI Y tg it0 wi) (ok : BlkOk Y.N Y.env.scope scope own)
    (hg : ∀ z G C cl fp, PG (Blk Y scope z G C cl fp) tg g) (ht : ∀ z G C cl fp, PTs (Blk Y scope z G C cl fp) ifs tt) (hk : ∀ z G C cl fp, PE (Blk Y scope z G C cl fp) kx tk) (hv : ∀ z G C cl fp, PE (Blk Y scope z G C cl fp) vx tv)
    (hs : ∀ x, foldedSetIterable it0 Y.env x = pure x := by intro _; rfl) : PE Y (.DictComp kx vx [⟨tg, it0, ifs, 0⟩] scope pos) (rdDc o0 wi g tt tk tv (own.map (·.2))) := by
  refine ⟨fun pins z0 τ G0 Q J0 h => ?_⟩
  rw [arm_eval_DictComp]
  have frees : ∀ y ∈ scope.names, y.2 = .free → ∃ c, Y.env.cells.lookup y.1 = some c := fun y my e => (ok.free y my e).elim (fun k => J0.ok.has _ (.inl k)) fun k => J0.ok.has _ (.inr k)
  refine wpAny_comprehension_free (use := none) rfl hs (closure_ok frees) ok.kind (fun y my e => by rw [ok.uniq y my, e]) (thn (hi.run pins z0 τ G0 _ J0 h) fun xv z1 hx => thn hx fun itv z2 found => ?_)
  obtain ⟨ia, fp, tn, J, G2, rfl, J2, T, stn, freeFp, q⟩ := found
  refine wpAny_newObj_type (newEnv_comp ?_)
  have noD : G2 z2.heap.objs.size = none := J2.hok.fresh (Nat.le_refl _)
  obtain ⟨W, ⟨m0, w0⟩, turn⟩ := q _ noD
  have J3 := laidD J2 h0
  generalize hD : z2.heap.objs.size = D at J3 w0 turn noD ⊢
  generalize hz3 : ({ z2 with heap := z2.heap.push { cls := .type "dict", data := .dict #[] } } : Shared) = z3 at J3 ⊢
  have hh3 : z3.heap = z2.heap.push { cls := .type "dict", data := .dict #[] } := by rw [← hz3]
  have fp3 : ∀ b ∈ fp, FpOk Y pins (upd G2 D o0) b ∧ b < z3.heap.objs.size := fun b mb => by
    obtain ⟨o, e, _⟩ := T.obj _ _ stn b mb
    have lt := Heap.lt_size e
    have nb : b ≠ D := by rw [← hD]; exact Nat.ne_of_lt lt
    exact ⟨⟨by rw [upd_ne nb]; exact (freeFp b mb).1, (freeFp b mb).2⟩, by rw [hh3, Heap.size_push]; exact Nat.lt_succ_of_lt lt⟩
  have st3 : tn 0 z3.heap := T.keep _ _ _ stn fun b _ o e => by rw [hh3]; exact Heap.get?_push_of_some _ e
  have J4 := block_start J3 ok hN fp3
  have hh4 : ∀ b o, z3.heap.get? b = some o → (pushCells (z3.heap.push { cls := .type "dict", data := .dict #[] }) scope.names).get? b = some o := fun b o e => pushCells_keeps _ _ _ _ (Heap.get?_push_of_some _ e)
  have none3 : ∀ b ∈ fp, (upd G2 D o0) b = none := fun b mb => (fp3 b mb).1.1
  have pg := hg z3 (upd G2 D o0) z3.heap.objs.size (cellsFrom (z3.heap.objs.size + 1) scope.names (cloFrom Y.env.cells scope.names [])) fp
  have pt := ht z3 (upd G2 D o0) z3.heap.objs.size (cellsFrom (z3.heap.objs.size + 1) scope.names (cloFrom Y.env.cells scope.names [])) fp
  have pk := hk z3 (upd G2 D o0) z3.heap.objs.size (cellsFrom (z3.heap.objs.size + 1) scope.names (cloFrom Y.env.cells scope.names [])) fp
  have pv := hv z3 (upd G2 D o0) z3.heap.objs.size (cellsFrom (z3.heap.objs.size + 1) scope.names (cloFrom Y.env.cells scope.names [])) fp
  show codeAny _ _ (.compStart (.DictComp kx vx [⟨tg, it0, ifs, 0⟩] scope pos) 0 (.ref ia) (.ref D) (compEnvC scope (cellsFrom (z3.heap.objs.size + 1) scope.names (cloFrom Y.env.cells scope.names [])) z3.heap.objs.size Y.env)) (compPost (model Y.prog Y.w) Y.A Y.xe none (EP Y pins τ Q) (.ref D) z3.heap.objs.size)
    { z3 with heap := pushCells (z3.heap.push { cls := .type "dict", data := .dict #[] }) scope.names }
  unfold Blk at pg pt pk pv
  generalize eqE : compEnvC scope (cellsFrom (z3.heap.objs.size + 1) scope.names (cloFrom Y.env.cells scope.names [])) z3.heap.objs.size Y.env = ce at J4 pg pt pk pv ⊢
  have atC : ce.locals = z3.heap.objs.size := by rw [← eqE]; rfl
  generalize hG3 : upd G2 D o0 = G3 at J3 J4 pg pt pk pv w0 none3 fp3
  generalize eqZ : ({ z3 with heap := pushCells (z3.heap.push { cls := .type "dict", data := .dict #[] }) scope.names } : Shared) = z4 at J4 ⊢
  have st4 : tn 0 z4.heap := T.keep _ _ _ st3 fun b _ o e => by rw [← eqZ]; exact hh4 b o e
  have frame : ∀ {τ' : L2.St} {G' : Hp} {z' : Shared}, Inv (Y.blk z3 G3 scope ce fp) [] τ' G' z' → (∀ b ∈ fp, G' b = none) → ∀ b ∈ fp, FpOk (Y.blk z3 G3 scope ce fp) [] G' b := fun K n b mb =>
    ⟨n b mb, (K.ok.exf b mb).1, K.ok.exfs b mb, .inl mb, fun x c e => (K.ok.exf b mb).2 x c e, fun p mp => by simp at mp⟩
  let Loop : Nat → Shared → Prop := fun n z' => ∃ i G', Inv (Y.blk z3 G3 scope ce fp) [] (wipe τ (own.map (·.2))) G' z' ∧ tn i z'.heap ∧ (∀ b ∈ fp, G' b = none) ∧ W i n G'
  have goes : codeAny (model Y.prog Y.w) Y.A (.compLoop (.DictComp kx vx [⟨tg, it0, ifs, 0⟩] scope pos) 0 (.ref ia) (.ref D) ce) (compPost (model Y.prog Y.w) Y.A Y.xe none (EP Y pins τ Q) (.ref D) z3.heap.objs.size) z4 := by
    refine compLoop_anyD Loop ?_ m0 ⟨0, G3, J4, st4, none3, w0⟩
    rintro n z5 ⟨i, G5, J5, st5, n5, w5⟩
    rcases turn i n G5 w5 with ⟨stop, last⟩ | ⟨go, Nx, less, step⟩
    · refine thnF (T.done (Y.blk z3 G3 scope ce fp) rfl rfl rfl hc i [] z5 _ G5 (fun _ _ => False) J5 (frame J5 n5) st5 stop) fun r z6 ⟨hr, J6⟩ => ?_
      subst hr
      have back : Inv Y pins τ G5 z6 := J3.call' (ch := fp) J6.os J6.base J6.hok J6.bare fun b mb => let w := (fp3 b mb).1; ⟨w.2.2.2.1, w.2.1, w.2.2.2.2.1, w.2.2.2.2.2⟩
      have freeC : G5 z3.heap.objs.size = none := by have w : G5 ce.locals = none := J6.free; rwa [atC] at w
      obtain ⟨mm, nsC, _⟩ := J6.loc
      have nsC : z6.heap.Ns ce.locals mm := nsC
      rw [atC] at nsC
      obtain ⟨f0, f1, f2, f3, f4, f5⟩ := J3.fpOk (Nat.le_refl _) freeC
      exact ⟨mm, nsC, fun h2 sb => ⟨.ref D, G5, back.turned (t' := z6.toks) (fun b o nb e => (sb.2 b nb).trans e) f0 f1 f3 f4 f5, rfl, last⟩⟩
    · refine thnF (T.item (Y.blk z3 G3 scope ce fp) rfl rfl rfl hc i [] z5 _ G5 (fun _ _ => False) J5 (frame J5 n5) st5 go) fun r z6 ⟨u, hr, after⟩ => ?_
      subst hr
      refine thnF after fun _ z7 ⟨x, G7, J7, r7, y7, st7, n7⟩ => ?_
      have held := J7.pinned (frame J7 n7) (T.obj _ _ st7)
      refine thnF (pg.run _ z7 _ G7 x u _ held r7 (step x G7 y7)) fun _ z8 ⟨τ8, G8, J8, same8, q8⟩ => thnF (pt.run _ z8 τ8 G8 _ J8 q8) fun b z9 ⟨G9, J9, q9⟩ => ?_
      have again : ∀ {z' : Shared} {G' : Hp}, Inv (Y.blk z3 G3 scope ce fp) ([] ++ pinsAt fp z7.heap) τ8 G' z' → Nx G' → ∃ m, m < n ∧ Loop m z' := fun {z' G'} K nx => by
        obtain ⟨m', lt, w'⟩ := less G' nx
        have keptAt : ∀ b ∈ fp, ∀ o, z7.heap.get? b = some o → z'.heap.get? b = some o ∧ G' b = none := fun b mb o e => by
          have w := K.pin (b, o) (List.mem_append_right _ (List.mem_append_right _ (mem_pinsAt mb e)))
          exact ⟨w.1, w.2.1⟩
        refine ⟨m', lt, i + 1, G', (K.unpinned (pins := [])).weak (by rw [← same8, wipe_length]) (fun j v e => by rw [← same8] at e; exact (wipe_some e).1), T.keep _ _ _ st7 fun b mb o e => (keptAt b mb o e).1, fun b mb => ?_, w'⟩
        obtain ⟨o, e, _⟩ := T.obj _ _ st7 b mb
        exact (keptAt b mb o e).2
      by_cases hb : b = true
      · subst hb
        rw [if_pos rfl] at q9 ⊢
        refine thnF (pk.run _ z9 τ8 G9 _ J9 q9) fun kv z10 ⟨yk, G10, J10, r10, q10⟩ => thnF (pv.run _ z10 τ8 G10 _ J10 q10) fun vv z11 ⟨yv, G11, J11, r11, G12, put, nx⟩ => ?_
        exact setAny (Y := Y.blk z3 G3 scope ce fp) J11 hu put r10 r11 fun z12 J12 => again J12 nx
      · have nx : Nx G9 := by
          have k := q9
          dsimp only at k
          rw [if_neg hb] at k
          exact k
        rw [if_neg hb]
        exact again J9 nx
  exact codeAny_compStart_dict goes (T.self Y.A 0 _ _ _ st4 goes)
end
end MFDc
namespace MF
open PySem L2
/-! # locks -/
section
variable {g : Gb} {B : Bs} {Λ : Lks} {σ : L2.St} {H F F' U : Hp} {ι : List Addr} {m : M} {a p : Addr} {u o : HO} {od : Obj} {d : D}
theorem isD_nfrz (h : IsD u) (o' : Obj) (u' : HO) : u ≠ .frz o' u' := fun z => by subst z; exact h
theorem Rel.lockOn (r : Rel g B Λ σ H F ι m) (hF : F a = some u) (hd : IsD u) (hH : H a = some u) (od : Obj) : Rel g B ((a, od, u) :: Λ) σ (upd H a (.frz od u)) F ι m := by
  obtain ⟨U, l, q⟩ := r.ex
  refine ⟨U, ⟨fun b hb => ?_, fun p hp => ?_⟩, q⟩
  · rw [upd_ne (fun z => hb _ List.mem_cons_self z.symm)]
    exact l.out b fun p hp => hb p (List.mem_cons_of_mem _ hp)
  · rcases List.mem_cons.mp hp with rfl | hp
    · exact ⟨hF, hd, upd_same⟩
    · obtain ⟨k1, k2, k3⟩ := l.at_ p hp
      refine ⟨k1, k2, ?_⟩
      rw [upd_ne (fun z => by rw [z, hH] at k3; cases k3; exact hd)]; exact k3
theorem Rel.lockOff (r : Rel g B ((a, od, u) :: Λ) σ H F ι m) (hn : ∀ p ∈ Λ, p.1 ≠ a) : Rel g B Λ σ (upd H a u) F ι m := by
  obtain ⟨U, l, q⟩ := r.ex
  obtain ⟨k1, k2, k3⟩ := l.at_ _ List.mem_cons_self
  refine ⟨U, ⟨fun b hb => ?_, fun p hp => ?_⟩, q⟩
  · by_cases z : b = a
    · subst z; rw [upd_same]; exact (q.sub _ _ k1).symm
    · rw [upd_ne z]
      refine l.out b fun p hp => ?_
      rcases List.mem_cons.mp hp with rfl | hp
      · exact fun w => z w.symm
      · exact hb p hp
  · obtain ⟨j1, j2, j3⟩ := l.at_ p (List.mem_cons_of_mem _ hp)
    exact ⟨j1, j2, by rw [upd_ne (hn p hp)]; exact j3⟩
theorem Rel.unlocked (r : Rel g B Λ σ H F ι m) (hd : IsD u) (hH : H a = some u) : ∀ p ∈ Λ, p.1 ≠ a := fun p hp z => by
  obtain ⟨U, l, q⟩ := r.ex
  have k3 := (l.at_ p hp).2.2
  rw [z, hH] at k3; cases k3; exact hd
theorem Pin.lockOff (r : Pin g B ((a, od, u) :: Λ) σ H F ι m p o) (hn : ∀ q ∈ Λ, q.1 ≠ a) (h : RO g F H p d) : Pin g B Λ σ (upd H a u) F ι m p o ∧ RO g F (upd H a u) p d := by
  obtain ⟨hF, hi, hH⟩ := r.facts
  have hpa : p ≠ a := fun z => by
    obtain ⟨U, l, q⟩ := r.rel.ex
    have k1 := (l.at_ _ List.mem_cons_self).1
    rw [← z, hF] at k1; cases k1
  exact ⟨⟨r.rel.lockOff hn, r.bH, r.bF, r.bi, r.nt⟩, h.keep (Gr.refl F) fun w hw => by rw [upd_ne hpa]; exact hw⟩
end
/-! # the keys of a dict -/
def keysOf : D → Option (List D)
  | .dk kvs => some (kvs.map fun p => kD p.1)
  | .dt kvs => some (kvs.map fun p => .tup (p.1.map kD))
  | _ => none
def iKeysN (i : Nat) : E (List D) := fun m => match m.ρ[i]? with
  | some (.t d) => E.opt (keysOf d) m
  | some (.own d) => E.opt (keysOf d) ⟨m.ρ.set i (.t d), m.S⟩
  | _ => .no
def KeyIt (u : HO) (items : List D) : Prop := (∃ kvs : List (Key × V), u = .dK kvs ∧ items = kvs.map fun p => kD p.1) ∨ ∃ kvs : List (List Key × V), u = .dT kvs ∧ items = kvs.map fun p => D.tup (p.1.map kD)
theorem kD_one (g : Gb) (F : Hp) : ∀ k : Key, RV g F (kV k) (kD k)
  | .inl i => .int i
  | .inr x => .str x
section
variable {X : Cx} {g : Gb} {B : Bs} {Λ : Lks} {σ : L2.St} {H F : Hp} {ι : List Addr} {m m1 : M}
theorem gives_keysK {a : Addr} {od : Obj} {kvs : List (Key × V)} (h : ∀ H' F', Gr F F' → Sub F' H' → (∀ p ∈ Λ, H' p.1 = some (.frz p.2.1 p.2.2)) → H' a = some (.frz od (.dK kvs))) : Gives g F Λ (Itk a od kvs) (kvs.map fun p => kD p.1) := fun i H' F' gr sb lk => by
  have hl := h H' F' gr sb lk
  refine ⟨fun k => ⟨hl, by rw [List.length_map] at k; exact k⟩, fun d hd => ?_⟩
  rw [List.getElem?_map] at hd
  cases e : kvs[i]? with
  | none => rw [e] at hd; cases hd
  | some p =>
    rw [e] at hd; cases hd
    refine ⟨⟨hl, (List.getElem?_eq_some_iff.mp e).1⟩, fun x H2 ⟨e1, k, v, e2, e3⟩ => .inl ⟨e1, ?_⟩⟩
    rw [e] at e2; cases e2; subst e3
    exact kD_one g F' k
theorem gives_keysT {a : Addr} {od : Obj} {kvs : List (List Key × V)} (h : ∀ H' F', Gr F F' → Sub F' H' → (∀ p ∈ Λ, H' p.1 = some (.frz p.2.1 p.2.2)) → H' a = some (.frz od (.dT kvs))) : Gives g F Λ (Itkt a od kvs) (kvs.map fun p => D.tup (p.1.map kD)) := fun i H' F' gr sb lk => by
  have hl := h H' F' gr sb lk
  refine ⟨fun k => ⟨hl, by rw [List.length_map] at k; exact k⟩, fun d hd => ?_⟩
  rw [List.getElem?_map] at hd
  cases e : kvs[i]? with
  | none => rw [e] at hd; cases hd
  | some p =>
    rw [e] at hd; cases hd
    refine ⟨⟨hl, (List.getElem?_eq_some_iff.mp e).1⟩, fun x H2 ⟨e1, k, v, q, e2, e3, e4⟩ => .inr (.inr ⟨e1, q, k, e3, ?_, ?_⟩)⟩
    · exact e4
    · rw [e] at e2; cases e2; rfl
theorem keys_eq {κ α β : Type} {f : κ → D} {kvs : List (κ × α)} {ds : List (κ × β)} (h : kvs.map (·.1) = ds.map (·.1)) : (ds.map fun p => f p.1) = kvs.map fun p => f p.1 := by
  have e1 : (ds.map fun p => f p.1) = (ds.map (·.1)).map f := by rw [List.map_map]; rfl
  have e2 : (kvs.map fun p => f p.1) = (kvs.map (·.1)).map f := by rw [List.map_map]; rfl
  rw [e1, e2, h]
theorem keyIt_of {a : Addr} {d : D} {items : List D} (h : RV g F (.ref a) d) (e : keysOf d = some items) : ∃ u, Rd F a u ∧ IsD u ∧ KeyIt u items := by
  unfold keysOf at e
  split at e
  · cases e
    cases h with
    | dk h k r => exact ⟨_, h, True.intro, .inl ⟨_, rfl, keys_eq k⟩⟩
  · cases e
    cases h with
    | dt h k r => exact ⟨_, h, True.intro, .inr ⟨_, rfl, keys_eq (f := fun k => D.tup (k.map kD)) k⟩⟩
  · cases e
theorem key_case {i : Nat} {items : List D} (r : Rel g B Λ σ H F ι m) (e : iKeysN i m = .ok items m1) : ∃ a F1 u, σ[i]? = some (some (.ref a)) ∧ Gr F F1 ∧ Rel g B Λ σ H F1 ι m1 ∧ IsD u ∧ KeyIt u items ∧
    ((F1 a = some u ∧ H a = some u) ∨ ∃ od, ∀ H' F', Gr F1 F' → Sub F' H' → (∀ p ∈ Λ, H' p.1 = some (.frz p.2.1 p.2.2)) → H' a = some (.frz od u)) := by
  have main : ∀ {d v F1}, Gr F F1 → Rel g B Λ σ H F1 ι m1 → σ[i]? = some (some v) → RV g F1 v d → keysOf d = some items → ∃ a F1 u, σ[i]? = some (some (.ref a)) ∧ Gr F F1 ∧ Rel g B Λ σ H F1 ι m1 ∧ IsD u ∧ KeyIt u items ∧
    ((F1 a = some u ∧ H a = some u) ∨ ∃ od, ∀ H' F', Gr F1 F' → Sub F' H' → (∀ p ∈ Λ, H' p.1 = some (.frz p.2.1 p.2.2)) → H' a = some (.frz od u)) := fun {d v F1} gr r1 hs hv hk => by
    have hr : ∃ a, v = .ref a := by
      unfold keysOf at hk
      split at hk
      · cases hv; exact ⟨_, rfl⟩
      · cases hv; exact ⟨_, rfl⟩
      · cases hk
    obtain ⟨a, rfl⟩ := hr
    obtain ⟨u, h1, h2, h3⟩ := keyIt_of hv hk
    refine ⟨a, F1, u, hs, gr, r1, h2, h3, ?_⟩
    rcases h1 with h1 | ⟨od, h1⟩
    · rcases r1.sub a u h1 with h4 | ⟨_, od, h4⟩
      · exact .inl ⟨h1, h4⟩
      · refine .inr ⟨od, fun H' F' _ _ lk => ?_⟩
        obtain ⟨U, l, q⟩ := r1.ex
        have : ∃ p ∈ Λ, p.1 = a := by
          refine Classical.byContradiction fun z => ?_
          have hu := l.out a fun p hp w => z ⟨p, hp, w⟩
          rw [q.sub _ _ h1, h4] at hu
          cases hu
        obtain ⟨p, hp, rfl⟩ := this
        obtain ⟨j1, j2, j3⟩ := l.at_ p hp
        rw [h1] at j1; cases j1
        rw [h4] at j3; cases j3
        exact lk p hp
    · refine .inr ⟨od, fun H' F' g1 sb _ => sb.at (g1 _ _ h1) id⟩
  unfold iKeysN at e
  split at e
  · rename_i d hd
    obtain ⟨e1, rfl⟩ := opt_ok e
    obtain ⟨U, l, q⟩ := r.ex
    obtain ⟨v, h1, h2⟩ := q.loc i _ hd
    exact main (Gr.refl F) r h1 h2 e1
  · rename_i d hd
    obtain ⟨e1, rfl⟩ := opt_ok e
    obtain ⟨U, l, q⟩ := r.ex
    obtain ⟨a, h1, _⟩ := q.loc i _ hd
    obtain ⟨F1, g1, r1, h2⟩ := r.freeze hd h1
    exact main g1 r1 h1 h2 e1
  · cases e
/-- the walk over a locked dict -/
theorem keys_run {i : Nat} {a : Addr} {u : HO} {od : Obj} {items : List D} {R : It → Hp → Prop} (hs : σ[i]? = some (some (.ref a))) (hk : KeyIt u items) (hl : ∀ H' F', Gr F F' → Sub F' H' → (∀ p ∈ Λ, H' p.1 = some (.frz p.2.1 p.2.2)) → H' a = some (.frz od u)) (r : Rel g B Λ σ H F ι m)
    (k : ∀ J, Gives g F Λ J items → R J H) : iKeys (tVar i) σ H R := by
  have hH := hl H F (Gr.refl F) r.sub r.locks
  rcases hk with ⟨kvs, rfl, rfl⟩ | ⟨kvs, rfl, rfl⟩
  · exact ⟨_, hs, a, od, rfl, .inl ⟨kvs, hH, k _ (gives_keysK hl)⟩⟩
  · exact ⟨_, hs, a, od, rfl, .inr ⟨kvs, hH, k _ (gives_keysT hl)⟩⟩
theorem mut_of {u : HO} (h : IsD u) : Mut (some u) := by
  cases u <;> first | exact True.intro | exact absurd h id
/-- for k in d -/
theorem iForK {x : Str} {p : Pos} {tg : Expr} {body : List Stmt} {pos : Pos} {ws : List Nat} {t : Arg → E Unit} {b : E Ctl} (i : Nat) (hc : X.calm = true) (hp : PassesOwn (model X.prog X.w) X.A X.env X.xe) (hg : PG X tg (sG g ws t)) (hb : PSs X body (sS g b)) (hN : X.N[i]? = some x := by rfl)
    (hv : Vis X.env.scope x := by first | exact Or.inl rfl | exact Or.inr (Or.inl rfl) | exact Or.inr (Or.inr rfl)) (hd : (x == ("__debug__" : Str)) = false := by decide) (hcd : (x == ("__classdict__" : Str)) = false := by decide)
    (hs : ∀ y, foldedSetIterable (.Name x p) X.env y = pure y := by intro _; rfl) : PS X (.For tg (.Name x p) body [] pos) (sS g (sFor (iKeysN i) t b)) := PS.orSome fun D σ H ⟨B, Λ, F, ι, m, c, m', r, e, q⟩ => by
  obtain ⟨items, m1, e1, y1⟩ := bind_ok e
  obtain ⟨a, F1, u, k1, g1, r1, k2, k3, k4⟩ := key_case r e1
  have hps := ps_for hp hc (pi_keys (pe_var hN hv hd hcd)) hg hb hs (pos := pos)
  rcases k4 with ⟨k4, k5⟩ | ⟨od, k4⟩
  · refine ⟨_, ps_lock hps, a, u, k5, mut_of k2, fun od => ?_⟩
    have r2 := r1.lockOn k4 k2 k5 od
    refine keys_run k1 k3 (fun H' F' _ _ lk => lk _ List.mem_cons_self) r2 fun J gv => for_run r2 gv y1 fun σ' H' F' ι' r3 g3 p3 => ?_
    have hl := r3.locks _ List.mem_cons_self
    have r4 := r3.lockOff (r1.unlocked k2 k5)
    have z := q σ' _ F' ι' r4 (g1.trans g3) p3
    cases c with
    | nx => exact ⟨hl, z⟩
    | bk => exact ⟨hl, z⟩
    | ct => exact ⟨hl, z⟩
    | rt b => exact fun v hv => ⟨hl, z v hv⟩
  · exact ⟨_, hps, keys_run k1 k3 k4 r1 fun J gv => for_run r1 gv y1 fun σ' H' F' ι' r3 g3 p3 => q σ' H' F' ι' r3 (g1.trans g3) p3⟩
/-- [.. for k in d] -/
theorem iLcK {x : Str} {p : Pos} {elt tg : Expr} {ifs : List Expr} {scope : Scope} {pos : Pos} {ws : List Nat} {t : Arg → E Unit} {ft : E Bool} {fe : E Val} (i : Nat) (own : List (Str × Nat)) (hc : X.calm = true) (hNd : X.N.Nodup) (ok : BlkOk X.N X.env.scope scope own)
    (hg : ∀ (s : Shared) (H : Hp) (C : Addr) (cl : List (Str × Addr)) (fp : List Addr), PG (X.blk s H scope (compEnvC scope cl C X.env) fp) tg (sG g ws t)) (ht : ∀ (s : Shared) (H : Hp) (C : Addr) (cl : List (Str × Addr)) (fp : List Addr), PTs (X.blk s H scope (compEnvC scope cl C X.env) fp) ifs (sT g ft))
    (he : ∀ (s : Shared) (H : Hp) (C : Addr) (cl : List (Str × Addr)) (fp : List Addr), PE (X.blk s H scope (compEnvC scope cl C X.env) fp) elt (sE g fe)) (hw : ∀ i ∈ ws, i ∈ own.map (·.2) := by decide) (hN : X.N[i]? = some x := by rfl)
    (hv : Vis X.env.scope x := by first | exact Or.inl rfl | exact Or.inr (Or.inl rfl) | exact Or.inr (Or.inr rfl)) (hd : (x == ("__debug__" : Str)) = false := by decide) (hcd : (x == ("__classdict__" : Str)) = false := by decide)
    (hs : ∀ y, foldedSetIterable (.Name x p) X.env y = pure y := by intro _; rfl) :
    PE X (.ListComp elt [⟨tg, .Name x p, ifs, 0⟩] scope pos) (sN g (nLc (own.map (·.2)) (iKeysN i) t ft fe)) := PE.orSome fun σ H Q ⟨B, Λ, F, ι, m, d, m', r, e, q⟩ => by
  obtain ⟨items, m1, e1, y1⟩ := bind_ok e
  obtain ⟨a, F1, u, k1, g1, r1, k2, k3, k4⟩ := key_case r e1
  have hpe := pe_lc hc hNd (pi_keys (pe_var hN hv hd hcd)) ok hg ht he hs (pos := pos)
  split at y1
  · rename_i res m2 e2
    split at y1
    · rename_i hz
      cases y1
      rcases k4 with ⟨k4, k5⟩ | ⟨od, k4⟩
      · refine ⟨_, pe_lock hpe, a, u, k5, mut_of k2, fun od => ?_⟩
        have r2 := r1.lockOn k4 k2 k5 od
        refine keys_run k1 k3 (fun H' F' _ _ lk => lk _ List.mem_cons_self) r2 fun J gv => lc_run (Q := fun v H' => H' a = some (.frz od u) ∧ Q v (upd H' a u)) hw r2 gv e2 hz fun b H' F' ι' o k g2 p2 h => ?_
        obtain ⟨z1, z2⟩ := k.lockOff (r1.unlocked k2 k5) h
        exact ⟨k.rel.locks _ List.mem_cons_self, q b _ F' ι' o z1 (g1.trans g2) p2 z2⟩
      · exact ⟨_, hpe, keys_run k1 k3 k4 r1 fun J gv => lc_run hw r1 gv e2 hz fun b H' F' ι' o k g2 p2 h => q b H' F' ι' o k (g1.trans g2) p2 h⟩
    · cases y1
  · cases y1
end

/-! # dict comprehensions -/
def dcTurn (tg : Arg → E Unit) (ifs : E Bool) (ek ev : E Val) (d : D) : E (Option (D × D)) := (tg (.t d)).bind fun _ => ifs.bind fun b => if b then ek.bind fun x => (asD x).bind fun kd => ev.bind fun y => (asD y).bind fun vd => .ret (some (kd, vd)) else .ret none
def dcLoop (own : List Nat) (tg : Arg → E Unit) (ifs : E Bool) (ek ev : E Val) : D → List D → E D
  | acc, [] => .ret acc
  | acc, d :: ds => fun m => (dcTurn tg ifs ek ev d).bind (fun o => match o with
    | some kv => (E.opt (dPut acc kv.1 kv.2)).bind fun acc' => dcLoop own tg ifs ek ev acc' ds
    | none => dcLoop own tg ifs ek ev acc ds) ⟨wipeL own m.ρ, m.S⟩
def emptyD (tup : Bool) : D := if tup then .dt [] else .dk []
def nDc (tup : Bool) (own : List Nat) (src : E (List D)) (tg : Arg → E Unit) (ifs : E Bool) (ek ev : E Val) : E D := src.bind fun items m => match dcLoop own tg ifs ek ev (emptyD tup) items m with
  | .ok r m' => .ok r ⟨restL m.ρ own m'.ρ, m'.S⟩
  | .no => .no
theorem isDict_put {acc k v z : D} (h : dPut acc k v = some z) (hd : isDictD acc = true) : isDictD z = true := by
  unfold isDictD at hd
  split at hd
  · unfold dPut at h
    simp only at h
    split at h
    · obtain ⟨w, _, rfl⟩ := Option.map_eq_some_iff.mp h; rfl
    · cases h
  · unfold dPut at h
    simp only at h
    split at h
    · split at h
      · obtain ⟨w, _, rfl⟩ := Option.map_eq_some_iff.mp h; rfl
      · cases h
    · cases h
  · cases hd
section
variable {X : Cx} {g : Gb} {B : Bs} {Λ : Lks} {σ : L2.St} {H F : Hp} {ι : List Addr} {m m1 : M}
theorem put_d {a : Addr} {acc k d z : D} {w v : V} (ro : RO g F H a acc) (hk : RT g F H w k) (hv : RV g F v d) (hd : isDictD acc = true) (h : dPut acc k d = some z) : ∃ o, DPut H a w v (upd H a o) ∧ RO g F (upd H a o) a z ∧ ∀ vs, o ≠ .tup vs := by
  unfold isDictD at hd
  split at hd
  · unfold dPut at h
    simp only at h
    split at h
    · rename_i hz
      obtain ⟨k', e, rfl⟩ := Option.map_eq_some_iff.mp h
      cases ro with
      | @dk kvs _ h0 h1 h2 =>
        have hl : kvs.length < sizeLine := by
          have := congrArg List.length h1
          rw [List.length_map, List.length_map] at this
          rw [this]; exact sizeOk_lt hz
        obtain ⟨z1, z2⟩ := put_keys k' h1 h2 hv
        rw [key_v hk e]
        exact ⟨_, DPut.k h0 hl, .dk upd_same z1 z2, by intro _ z; cases z⟩
    · cases h
  · unfold dPut at h
    simp only at h
    split at h
    · split at h
      · rename_i ks hz
        obtain ⟨k', e, rfl⟩ := Option.map_eq_some_iff.mp h
        cases ro with
        | @dt kvs _ h0 h1 h2 =>
          cases hk with
          | @tup b vs _ j1 j2 j3 =>
            have hl : kvs.length < sizeLine := by
              have := congrArg List.length h1
              rw [List.length_map, List.length_map] at this
              rw [this]; exact sizeOk_lt hz
            obtain ⟨z1, z2⟩ := put_keys k' h1 h2 hv
            exact ⟨_, DPut.t h0 (by rw [← keys_v j3 e]; exact j2) hl, .dt upd_same z1 z2, by intro _ z; cases z⟩
      · cases h
    · cases h
  · cases hd
theorem dc_run {own : List Nat} {ws : List Nat} {tg : Arg → E Unit} {ifs : E Bool} {ek ev : E Val} {tup : Bool} {o0 : HO} {J : It} {items : List D} {res : D} {m1 m2 : M} {H1 F1 : Hp} {ι1 : List Addr} {Q : VK} (hw : ∀ i ∈ ws, i ∈ own) (ho : o0 = if tup then .dT [] else .dK []) (r1 : Rel g B Λ σ H1 F1 ι1 m1) (gv : Gives g F1 Λ J items) (e2 : dcLoop own tg ifs ek ev (emptyD tup) items m1 = .ok res m2)
    (q : ∀ p H2 F' ι' o, Pin g B Λ σ H2 F' ι' ⟨restL m1.ρ own m2.ρ, m2.S⟩ p o → Gr F1 F' → ι1 <+: ι' → RO g F' H2 p res → Q (.ref p) H2) (Dl : Addr) (hD : H1 Dl = none) : ∃ W : Nat → Nat → Hp → Prop, (∃ m, W 0 m (upd H1 Dl o0)) ∧ ∀ i m H, W i m H →
      (J.stop i H ∧ Q (.ref Dl) H) ∨ (J.go i H ∧ ∃ Nx : Hp → Prop, (∀ H', Nx H' → ∃ m', m' < m ∧ W (i + 1) m' H') ∧ ∀ x H', J.yld i H x H' → sG g ws tg x (L2.wipe σ own) H' fun σ2 H2 => L2.wipe σ2 own = L2.wipe σ own ∧ sT g ifs σ2 H2 fun b H3 =>
        if b = true then sE g ek σ2 H3 fun y H4 => sE g ev σ2 H4 fun v H5 => ∃ H6, DPut H5 Dl y v H6 ∧ Nx H6 else Nx H3) := by
  have nt0 : ∀ vs, o0 ≠ .tup vs := by intro vs z; rw [ho] at z; split at z <;> cases z
  have ro0 : RO g F1 (upd H1 Dl o0) Dl (emptyD tup) := by
    rw [ho]
    unfold emptyD
    split
    · exact .dt upd_same rfl .nil
    · exact .dk upd_same rfl .nil
  have d0 : isDictD (emptyD tup) = true := by unfold emptyD; split <;> rfl
  let St : Nat → Nat → Hp → Prop := fun i k H' => ∃ F' ι' m3 o acc, k = items.length - i ∧ Pin g B Λ (wipe σ own) H' F' ι' ⟨wipeL own m3.ρ, m3.S⟩ Dl o ∧ Gr F1 F' ∧ ι1 <+: ι' ∧ RO g F' H' Dl acc ∧ isDictD acc = true ∧ dcLoop own tg ifs ek ev acc (items.drop i) m3 = .ok res m2
  refine ⟨St, ⟨items.length, F1, ι1, m1, o0, _, rfl, (r1.wipe own).lay hD nt0, Gr.refl F1, List.prefix_refl _, ro0, d0, e2⟩, ?_⟩
  rintro i k H' ⟨F', ι', m3, o, acc, rfl, r3, g3, p3, ha, hda, y3⟩
  obtain ⟨gs, gi⟩ := gv i H' F' g3 r3.rel.sub r3.rel.locks
  cases hd : items[i]? with
  | none =>
    have hle := List.getElem?_eq_none_iff.mp hd
    rw [List.drop_eq_nil_of_le hle] at y3
    cases y3
    refine .inl ⟨gs hle, ?_⟩
    have r4 := Rel.unwipe (r1.lay (o := o) hD r3.nt).rel r3.rel g3 p3
    rw [restL_wipeL] at r4
    exact q Dl H' F' ι' _ ⟨r4, r3.bH, r3.bF, r3.bi, r3.nt⟩ g3 p3 ha
  | some d =>
    obtain ⟨hi, hg⟩ := List.getElem?_eq_some_iff.mp hd
    obtain ⟨go, yl⟩ := gi d hd
    rw [List.drop_eq_getElem_cons hi, hg] at y3
    obtain ⟨o1, m4, e4, y4⟩ := bind_ok y3
    refine .inr ⟨go, fun H' => ∃ k', k' < items.length - i ∧ St (i + 1) k' H', fun H' z => z, fun x H2 hy => ?_⟩
    obtain ⟨u, m6, e6, y6⟩ := bind_ok e4
    obtain ⟨b, m7, e7, y7⟩ := bind_ok y6
    have fin : ∀ {H2 F2 : Hp}, Pin g B Λ (wipe σ own) H2 F2 ι' ⟨wipeL own m3.ρ, m3.S⟩ Dl o → Gr F1 F2 → RO g F2 H2 Dl acc → RV g F2 x d → sG g ws tg x (wipe σ own) H2 fun σ2 H3 => wipe σ2 own = wipe σ own ∧ sT g ifs σ2 H3 fun b H4 =>
        if b = true then sE g ek σ2 H4 fun y H5 => sE g ev σ2 H5 fun v H6 => ∃ H7, DPut H6 Dl y v H7 ∧ (fun H' => ∃ k', k' < items.length - i ∧ St (i + 1) k' H') H7 else (fun H' => ∃ k', k' < items.length - i ∧ St (i + 1) k' H') H4 := fun {H2 F2} r4 g4 ha4 hx => by
      refine ⟨_, Λ, F2, ι', _, .t d, m6, r4.rel, hx, e6, fun σ5 H5 F5 ι5 r5 g5 p5 a5 => ⟨wipe_agree a5 hw, ?_⟩⟩
      have hwe := wipe_agree a5 hw
      refine ⟨_, Λ, F5, ι5, m6, b, m7, r5, e7, fun H6 F6 ι6 r6 g6 p6 => ?_⟩
      have hko : ∀ {σ' : L2.St} {Hx Fx : Hp} {ιx : List Addr} {mx : M}, Rel g (B.pin Dl o) Λ σ' Hx Fx ιx mx → Gr F2 Fx → RO g Fx Hx Dl acc := fun {σ' Hx Fx ιx mx} rx gx => by
        have px : Pin g B Λ σ' Hx Fx ιx mx Dl o := ⟨rx, r4.bH, r4.bF, r4.bi, r4.nt⟩
        obtain ⟨_, _, h1⟩ := px.facts
        obtain ⟨_, _, h2⟩ := r4.facts
        exact ha4.keep gx fun w hw => by rw [h2] at hw; cases hw; exact h1
      cases b with
      | false =>
        cases y7
        have r7 := r6.wipe own
        rw [hwe] at r7
        exact ⟨_, by omega, F6, ι6, m4, o, acc, rfl, ⟨r7, r4.bH, r4.bF, r4.bi, r4.nt⟩, (g4.trans g5).trans g6, (p3.trans p5).trans p6, hko r6 (g5.trans g6), hda, y4⟩
      | true =>
        obtain ⟨y, m8, e8, y8⟩ := bind_ok y7
        obtain ⟨kd, m9, e9, y9⟩ := bind_ok y8
        obtain ⟨z, m10, e10, y10⟩ := bind_ok y9
        obtain ⟨vd, m11, e11, y11⟩ := bind_ok y10
        cases y11
        obtain ⟨acc', m12, e12, y12⟩ := bind_ok y4
        obtain ⟨w12, rfl⟩ := opt_ok e12
        show sE g ek σ5 H6 _
        refine ⟨_, Λ, F6, ι6, m7, y, m8, r6, e8, fun yv H7 F7 ι7 r7 g7 p7 h7 => ?_⟩
        obtain ⟨F8, g8, r8, h8⟩ := r7.asD h7 e9
        refine ⟨_, Λ, F8, ι7, m9, z, m10, r8, e10, fun zv H9 F9 ι9 r9 g9 p9 h9 => ?_⟩
        obtain ⟨F10, g10, r10, h10⟩ := r9.asD h9 e11
        have gg := (((((g5.trans g6).trans g7).trans g8).trans g9).trans g10)
        have roA := hko r10 gg
        obtain ⟨o', hp, roB, nt'⟩ := put_d roA (RT.of r10.sub ((h8.gr g9).gr g10)) h10 hda w12
        have pin10 : Pin g B Λ σ5 H9 F10 ι9 m12 Dl o := ⟨r10, r4.bH, r4.bF, r4.bi, r4.nt⟩
        have pinB := pin10.put (o' := o') nt'
        have r11 := pinB.rel.wipe own
        rw [hwe] at r11
        exact ⟨_, hp, _, by omega, F10, ι9, m12, o', acc', rfl, ⟨r11, r4.bH, r4.bF, r4.bi, nt'⟩, g4.trans gg, (((p3.trans p5).trans p6).trans p7).trans p9, roB, isDict_put w12 hda, y12⟩
    rcases yl x H2 hy with ⟨rfl, hx⟩ | ⟨p, o2, hp, rfl, rfl, hx⟩ | ⟨rfl, a, ks, rfl, hk, rfl⟩
    · exact fin r3 g3 ha hx
    · obtain ⟨r4, g4⟩ := r3.rel.alloc (o := o2) hp
      obtain ⟨_, _, hH⟩ := r3.facts
      exact fin ⟨r4, r3.bH, r3.bF, r3.bi, r3.nt⟩ (g3.trans g4) (ha.keep g4 fun w hw => by rw [upd_ne (ne_of_none hw hp)]; exact hw) hx
    · obtain ⟨F4, g4, r4, hx⟩ := r3.rel.learn hk
      exact fin ⟨r4, r3.bH, r3.bF, r3.bi, r3.nt⟩ (g3.trans g4) (ha.keep g4 fun _ w => w) hx
theorem empty_of (tup : Bool) : MFDc.Empty (if tup then HO.dT [] else HO.dK []) := by cases tup <;> first | exact .inl rfl | exact .inr rfl
/-- {..: .. for .. in seq} -/
theorem iDc {kx vx tg iter : Expr} {ifs : List Expr} {scope : Scope} {pos : Pos} {src : E (List D)} {ws : List Nat} {t : Arg → E Unit} {ft : E Bool} {fk fv : E Val} (tup : Bool) (own : List (Str × Nat)) (hc : X.calm = true) (hNd : X.N.Nodup) (hu : X.A.units < cLine) (hi : PI X tg iter (sI g src)) (ok : BlkOk X.N X.env.scope scope own)
    (hg : ∀ z G C cl fp, PG (MFDc.Blk X scope z G C cl fp) tg (sG g ws t)) (ht : ∀ z G C cl fp, PTs (MFDc.Blk X scope z G C cl fp) ifs (sT g ft)) (hk : ∀ z G C cl fp, PE (MFDc.Blk X scope z G C cl fp) kx (sE g fk)) (hv : ∀ z G C cl fp, PE (MFDc.Blk X scope z G C cl fp) vx (sE g fv))
    (hw : ∀ i ∈ ws, i ∈ own.map (·.2) := by decide) (hs : ∀ x, foldedSetIterable iter X.env x = pure x := by intro _; rfl) : PE X (.DictComp kx vx [⟨tg, iter, ifs, 0⟩] scope pos) (sN g (nDc tup (own.map (·.2)) src t ft fk fv)) :=
  (MFDc.run hc hNd hu (empty_of tup) hi ok hg ht hk hv hs).via fun σ H Q ⟨B, Λ, F, ι, m, d, m', r, e, q⟩ => by
  obtain ⟨items, m1, e1, y1⟩ := bind_ok e
  refine ⟨B, Λ, F, ι, m, items, m1, r, e1, fun J H1 F1 ι1 r1 g1 p1 gv => ?_⟩
  split at y1
  · rename_i res m2 e2
    cases y1
    exact dc_run hw rfl r1 gv e2 fun p H2 F' ι' o k g2 p2 h => q p H2 F' ι' o k (g1.trans g2) (p1.trans p2) h
  · cases y1
/-- {..: .. for k in d} -/
theorem iDcK {x : Str} {p : Pos} {kx vx tg : Expr} {ifs : List Expr} {scope : Scope} {pos : Pos} {ws : List Nat} {t : Arg → E Unit} {ft : E Bool} {fk fv : E Val} (tup : Bool) (i : Nat) (own : List (Str × Nat)) (hc : X.calm = true) (hNd : X.N.Nodup) (hu : X.A.units < cLine) (ok : BlkOk X.N X.env.scope scope own)
    (hg : ∀ z G C cl fp, PG (MFDc.Blk X scope z G C cl fp) tg (sG g ws t)) (ht : ∀ z G C cl fp, PTs (MFDc.Blk X scope z G C cl fp) ifs (sT g ft)) (hk : ∀ z G C cl fp, PE (MFDc.Blk X scope z G C cl fp) kx (sE g fk)) (hv : ∀ z G C cl fp, PE (MFDc.Blk X scope z G C cl fp) vx (sE g fv))
    (hw : ∀ i ∈ ws, i ∈ own.map (·.2) := by decide) (hN : X.N[i]? = some x := by rfl)
    (hvi : Vis X.env.scope x := by first | exact Or.inl rfl | exact Or.inr (Or.inl rfl) | exact Or.inr (Or.inr rfl)) (hd : (x == ("__debug__" : Str)) = false := by decide) (hcd : (x == ("__classdict__" : Str)) = false := by decide)
    (hs : ∀ y, foldedSetIterable (.Name x p) X.env y = pure y := by intro _; rfl) : PE X (.DictComp kx vx [⟨tg, .Name x p, ifs, 0⟩] scope pos) (sN g (nDc tup (own.map (·.2)) (iKeysN i) t ft fk fv)) := PE.orSome fun σ H Q ⟨B, Λ, F, ι, m, d, m', r, e, q⟩ => by
  obtain ⟨items, m1, e1, y1⟩ := bind_ok e
  obtain ⟨a, F1, u, k1, g1, r1, k2, k3, k4⟩ := key_case r e1
  have hpe := MFDc.run hc hNd hu (empty_of tup) (pi_keys (pe_var hN hvi hd hcd)) ok hg ht hk hv hs (pos := pos)
  split at y1
  · rename_i res m2 e2
    cases y1
    rcases k4 with ⟨k4, k5⟩ | ⟨od, k4⟩
    · refine ⟨_, pe_lock hpe, a, u, k5, mut_of k2, fun od => ?_⟩
      have r2 := r1.lockOn k4 k2 k5 od
      refine keys_run k1 k3 (fun H' F' _ _ lk => lk _ List.mem_cons_self) r2 fun J gv => dc_run (Q := fun v H' => H' a = some (.frz od u) ∧ Q v (upd H' a u)) hw rfl r2 gv e2 fun b H' F' ι' o k g2 p2 h => ?_
      obtain ⟨z1, z2⟩ := k.lockOff (r1.unlocked k2 k5) h
      exact ⟨k.rel.locks _ List.mem_cons_self, q b _ F' ι' o z1 (g1.trans g2) p2 z2⟩
    · exact ⟨_, hpe, keys_run k1 k3 k4 r1 fun J gv => dc_run hw rfl r1 gv e2 fun b H' F' ι' o k g2 p2 h => q b H' F' ι' o k (g1.trans g2) p2 h⟩
  · cases y1
end
end MF
set_option Elab.async false
set_option linter.all false
set_option maxRecDepth 100000
set_option maxHeartbeats 4000000
namespace MF
open PySem L2
section
variable {X : Cx} {g : Gb}
theorem _root_.L2.PT.orSome {e : Expr} {t' : TT} (w : ∀ σ H Q, t' σ H Q → ∃ t, PT X e t ∧ t σ H Q) : PT X e t' := ⟨fun pins s σ H Q I q => let ⟨_, h, r⟩ := w _ _ _ q; h.run pins s σ H Q I r⟩
theorem tin_run {neg : Bool} {op : CmpOp} {a b : Expr} {pos : Pos} {fa fb : E Val} {f : D → D → Option D} (hf : ∀ d e, f d e = (dInB d e).map fun c => .bl (if neg then !c else c))
    (hs : ∀ σ H Q, (tTest (tOp (rInA g.K neg) (sE g fa) (sE g fb))) σ H Q → ∃ t, PT X (.Compare a [op] [b] pos) t ∧ t σ H Q)
    (hd : ∀ σ H Q, (sE g fa σ H fun y H1 => sE g fb σ H1 fun x H2 => ∃ a o, x = .ref a ∧ DGet H2 a y o ∧ Q (if neg then !o.isSome else o.isSome) H2) → ∃ t, PT X (.Compare a [op] [b] pos) t ∧ t σ H Q) : PT X (.Compare a [op] [b] pos) (sT g (tV (eOp f fa fb))) := PT.orSome fun σ H Q ⟨B, Λ, F, ι, m, bv, m', rl, e, q⟩ => by
  obtain ⟨x0, m0, e0, y0⟩ := bind_ok e
  obtain ⟨d0, mm, ee, yy⟩ := bind_ok y0
  obtain ⟨w0, rfl⟩ := rd_ok ee
  obtain ⟨wb, rfl⟩ := opt_ok yy
  obtain ⟨x1, m1, e1, y1⟩ := bind_ok e0
  obtain ⟨x2, m2, e2, y2⟩ := bind_ok y1
  obtain ⟨d, m3, e3, y3⟩ := bind_ok y2
  obtain ⟨w3, rfl⟩ := rd_ok e3
  obtain ⟨d2, m4, e4, y4⟩ := bind_ok y3
  obtain ⟨w4, rfl⟩ := rd_ok e4
  obtain ⟨z, m5, e5, y5⟩ := bind_ok y4
  obtain ⟨w5, rfl⟩ := opt_ok e5
  cases y5
  rw [hf] at w5
  obtain ⟨c, hc, rfl⟩ := Option.map_eq_some_iff.mp w5
  cases w0
  cases boolOf_ok wb
  have go : ∀ (P : V → V → Hp → Prop), (∀ v w H2 F2 ι2, Rel g B Λ σ H2 F2 ι2 m' → Gr F F2 → ι <+: ι2 → RT g F2 H2 v d → RT g F2 H2 w d2 → P v w H2) → sE g fa σ H fun v H1 => sE g fb σ H1 fun w H2 => P v w H2 := fun P k =>
    ⟨B, Λ, F, ι, m, x1, m1, rl, e1, fun v H1 F1 ι1 r1 g1 p1 h1 => ⟨B, Λ, F1, ι1, m1, x2, _, r1, e2, fun w H2 F2 ι2 r2 g2 p2 h2 => k v w H2 F2 ι2 r2 (g1.trans g2) (p1.trans p2) (r2.dat (h1.gr g2 p2) w3) (r2.dat h2 w4)⟩⟩
  cases hseq : dInSeq d d2 with
  | some c' =>
    have : c' = c := by
      unfold dInSeq at hseq
      split at hseq
      · cases hseq
      · cases hseq
      · rw [hc] at hseq; exact (Option.some.inj hseq).symm
    subst this
    exact hs σ H Q (go _ fun v w H2 F2 ι2 r2 gg pp hv hw => inSeq r2.sub hv hw hseq ⟨_, rfl, q H2 F2 ι2 r2 gg pp⟩)
  | none =>
    exact hd σ H Q (go _ fun v w H2 F2 ι2 r2 gg pp hv hw => by
      obtain ⟨a, o, ea, hg, rfl⟩ := inDict hv hw hseq hc
      exact ⟨a, o, ea, hg, q H2 F2 ι2 r2 gg pp⟩)
theorem iTIn {a b : Expr} {pos : Pos} {fa fb : E Val} (hu : X.A.units + 65 < cLine) (hK : X.K = g.K) (ha : PE X a (sE g fa)) (hb : PE X b (sE g fb)) (hm : behindInMarks .In b = false := by rfl) : PT X (.Compare a [.In] [b] pos) (sT g (tV (eOp dIn fa fb))) :=
  tin_run (neg := false) (fun d e => rfl) (fun σ H Q h => ⟨_, pt_cmpR (op_inA hu) ha hb hm, by rw [hK]; exact h⟩) fun σ H Q h => ⟨_, pt_cmp (pc_din (by omega) ha hb) hm, by
    obtain ⟨B, Λ, F, ι, m, x1, m1, rl, e1, k⟩ := h
    exact ⟨B, Λ, F, ι, m, x1, m1, rl, e1, fun v H1 F1 ι1 r1 g1 p1 h1 => by
      obtain ⟨B, Λ, F, ι, m, x1, m1, rl, e1, k2⟩ := k v H1 F1 ι1 r1 g1 p1 h1
      exact ⟨B, Λ, F, ι, m, x1, m1, rl, e1, fun v H1 F1 ι1 r1 g1 p1 h1 => by
        obtain ⟨a, o, ea, hg, z⟩ := k2 v H1 F1 ι1 r1 g1 p1 h1
        exact ⟨a, o, ea, hg, ⟨_, rfl, z⟩⟩⟩⟩⟩
theorem iTNotIn {a b : Expr} {pos : Pos} {fa fb : E Val} (hu : X.A.units + 65 < cLine) (hK : X.K = g.K) (ha : PE X a (sE g fa)) (hb : PE X b (sE g fb)) (hm : behindInMarks .NotIn b = false := by rfl) : PT X (.Compare a [.NotIn] [b] pos) (sT g (tV (eOp dNotIn fa fb))) :=
  tin_run (neg := true) (fun d e => rfl) (fun σ H Q h => ⟨_, pt_cmpR (op_notInA hu) ha hb hm, by rw [hK]; exact h⟩) fun σ H Q h => ⟨_, pt_cmp (pc_dnotin (by omega) ha hb) hm, by
    obtain ⟨B, Λ, F, ι, m, x1, m1, rl, e1, k⟩ := h
    exact ⟨B, Λ, F, ι, m, x1, m1, rl, e1, fun v H1 F1 ι1 r1 g1 p1 h1 => by
      obtain ⟨B, Λ, F, ι, m, x1, m1, rl, e1, k2⟩ := k v H1 F1 ι1 r1 g1 p1 h1
      exact ⟨B, Λ, F, ι, m, x1, m1, rl, e1, fun v H1 F1 ι1 r1 g1 p1 h1 => by
        obtain ⟨a, o, ea, hg, z⟩ := k2 v H1 F1 ι1 r1 g1 p1 h1
        exact ⟨a, o, ea, hg, ⟨_, rfl, z⟩⟩⟩⟩⟩
end
end MF
set_option Elab.async false
set_option linter.all false
set_option maxRecDepth 100000
set_option maxHeartbeats 4000000
namespace MF
open PySem L2
/-! # blocks within blocks -/
def relabelS (scope sc : Scope) : Scope := { scope with names := scope.names.map fun (n, k) => if (k == .free && sc.kind == .function && sc.names.lookup n == some .cell) then (n, .cell) else (n, k) }
theorem relabelS_eq (scope : Scope) (env : Env) : relabel scope env = relabelS scope env.scope := rfl
theorem blk2 {N : List Str} {scope1 scope2 sc : Scope} {own : List (Str × Nat)} {cl : List (Str × Addr)} {C : Addr} {env : Env} (e : env.scope = sc) (h : blkC N (relabelS scope1 sc) scope2 own = true) : BlkOk N (compEnvC scope1 cl C env).scope scope2 own := by
  subst e; exact blkOk_by h
theorem blk3 {N : List Str} {scope1 scope2 scope3 sc : Scope} {own : List (Str × Nat)} {cl cl2 : List (Str × Addr)} {C C2 : Addr} {env : Env} (e : env.scope = sc) (h : blkC N (relabelS scope2 (relabelS scope1 sc)) scope3 own = true) : BlkOk N (compEnvC scope2 cl2 C2 (compEnvC scope1 cl C env)).scope scope3 own := by
  subst e; exact blkOk_by h
/-! # a new object that the caller goes on to change -/
def sRetSh (f : E D) : E Ctl := f.bind fun d m => .ok (.rt (.s m.S.length)) ⟨m.ρ, m.S ++ [d]⟩
section
variable {X : Cx} {g : Gb}
theorem iRetSh {e : Expr} {pos : Pos} {f : E D} (h : PE X e (sN g f)) : PS X (.Return (some e) pos) (sS g (sRetSh f)) := (ps_ret h).via fun D σ H ⟨B, Λ, F, ι, m, c, m', r, e, q⟩ => by
  obtain ⟨d, m1, e1, y1⟩ := bind_ok e
  cases y1
  refine ⟨B, Λ, F, ι, m, d, m1, r, e1, fun p H1 F1 ι1 o r1 g1 p1 h1 => ?_⟩
  have r2 := r1.share h1
  have hl : m1.S.length = ι1.length := by obtain ⟨U, l, k⟩ := r1.drop.ex; exact k.sl
  have hn : (ι1 ++ [p])[m1.S.length]? = some p := by rw [hl, List.getElem?_append_right (Nat.le_refl _), Nat.sub_self]; rfl
  exact q σ H1 F1 _ r2 g1 (p1.trans (List.prefix_append _ _)) _ ⟨p, rfl, hn⟩
/-- a def of which nothing is promised -/
theorem fn_none {P : Program} {w : World} {K : PySem.W.Frag} {mg : Str → Option Value} {base : Heap} {k : Nat} {f : Addr} {fd : FuncData} {ps : List Str} : FnOk P w K mg base CX0 k f fd ps (spF g fun _ _ => none) :=
  { len := fun vs H Q E h => by
      obtain ⟨Λ, F, ι, S, as, a, S', h1, h2, h3, h4⟩ := h
      cases h3
    run := fun A outer s H args us vs Q E h1 h2 h3 h4 h => by
      obtain ⟨Λ, F, ι, S, as, a, S', h1, h2, h3, h4⟩ := h
      cases h3 }
end
end MF
set_option Elab.async false
set_option linter.all false
set_option maxRecDepth 100000
set_option maxHeartbeats 4000000
namespace MF
open PySem L2
/-! # several new objects that are still written -/
def Bs.pins (B : Bs) (P : Hp) : Bs := ⟨fun a => match P a with
  | some o => some o
  | none => B.H a, B.F, B.ι⟩
def off (P : Hp) (p : Addr) : Hp := fun a => if a = p then none else P a
structure MPin (g : Gb) (B : Bs) (Λ : Lks) (σ : L2.St) (H F : Hp) (ι : List Addr) (m : M) (P : Hp) : Prop where
  rel : Rel g (B.pins P) Λ σ H F ι m
  fr : ∀ p o, P p = some o → B.H p = none ∧ B.F p = none ∧ p ∉ B.ι ∧ ∀ vs, o ≠ .tup vs
section
variable {g : Gb} {B : Bs} {Λ : Lks} {σ : L2.St} {H F F' U P : Hp} {ι ι' : List Addr} {m m' : M} {d : D} {a p : Addr} {o o' : HO}
theorem pins_off (h : P p = some o) : (B.pins (off P p)).pin p o = B.pins P := by
  unfold Bs.pin Bs.pins
  simp only [Bs.mk.injEq, and_true]
  funext a
  by_cases z : a = p
  · subst z; rw [upd_same, h]
  · rw [upd_ne z]; unfold off; simp only [if_neg z]
theorem pins_put : (B.pins (off P p)).pin p o = B.pins (upd P p o) := by
  unfold Bs.pin Bs.pins
  simp only [Bs.mk.injEq, and_true]
  funext a
  by_cases z : a = p
  · subst z; rw [upd_same, upd_same]
  · rw [upd_ne z, upd_ne z]; unfold off; simp only [if_neg z]
theorem pins_lay : (B.pins P).pin p o = B.pins (upd P p o) := by
  unfold Bs.pin Bs.pins
  simp only [Bs.mk.injEq, and_true]
  funext a
  by_cases z : a = p
  · subst z; rw [upd_same, upd_same]
  · rw [upd_ne z, upd_ne z]
theorem pins_none (h : ∀ a, P a = none) : B.pins P = B := by
  cases B
  unfold Bs.pins
  simp only [Bs.mk.injEq, and_true]
  funext a
  rw [h a]
theorem off_same : off P p p = none := if_pos rfl
theorem off_ne {b : Addr} (h : b ≠ p) : off P p b = P b := if_neg h
theorem MPin.of (r : Rel g B Λ σ H F ι m) : MPin g B Λ σ H F ι m fun _ => none := ⟨by rw [pins_none fun _ => rfl]; exact r, fun _ _ h => nomatch h⟩
theorem MPin.back (r : MPin g B Λ σ H F ι m P) (h : ∀ a, P a = none) : Rel g B Λ σ H F ι m := by rw [← pins_none (B := B) h]; exact r.rel
theorem MPin.one (r : MPin g B Λ σ H F ι m P) (h : P p = some o) : Pin g (B.pins (off P p)) Λ σ H F ι m p o := by
  obtain ⟨h1, h2, h3, h4⟩ := r.fr p o h
  exact ⟨by rw [pins_off h]; exact r.rel, by unfold Bs.pins; simp only [off_same]; exact h1, h2, h3, h4⟩
theorem MPin.facts (r : MPin g B Λ σ H F ι m P) (h : P p = some o) : F p = none ∧ p ∉ ι ∧ H p = some o := (r.one h).facts
theorem MPin.put (r : MPin g B Λ σ H F ι m P) (h : P p = some o) (nt : ∀ vs, o' ≠ .tup vs := by intro _ z; cases z) : MPin g B Λ σ (upd H p o') F ι m (upd P p o') := by
  refine ⟨by rw [← pins_put]; exact ((r.one h).put nt).rel, fun q u e => ?_⟩
  by_cases z : q = p
  · subst z
    rw [upd_same] at e; cases e
    obtain ⟨h1, h2, h3, _⟩ := r.fr q o h
    exact ⟨h1, h2, h3, nt⟩
  · rw [upd_ne z] at e; exact r.fr q u e
theorem MPin.lay (r : MPin g B Λ σ H F ι m P) (h : H p = none) (nt : ∀ vs, o ≠ .tup vs := by intro _ z; cases z) : MPin g B Λ σ (upd H p o) F ι m (upd P p o) := by
  have q := r.rel.lay (o := o) h nt
  refine ⟨by rw [← pins_lay]; exact q.rel, fun b u e => ?_⟩
  by_cases z : b = p
  · subst z
    rw [upd_same] at e; cases e
    have k := q.bH
    unfold Bs.pins at k
    simp only at k
    split at k
    · cases k
    · exact ⟨k, q.bF, q.bi, nt⟩
  · rw [upd_ne z] at e; exact r.fr b u e
theorem MPin.freeze (r : MPin g B Λ σ H F ι m P) (h : P p = some o) (ro : RO g F H p d) : MPin g B Λ σ H (upd F p o) ι m (off P p) ∧ Gr F (upd F p o) ∧ RV g (upd F p o) (.ref p) d := by
  obtain ⟨k1, k2, k3⟩ := (r.one h).freeze ro
  refine ⟨⟨k1, fun b u e => ?_⟩, k2, k3⟩
  unfold off at e
  split at e
  · cases e
  · exact r.fr b u e
theorem MPin.free (r : MPin g B Λ σ H F ι m P) (h : H p = none) : P p = none := by
  cases e : P p with
  | none => rfl
  | some o => have := (r.facts e).2.2; rw [h] at this; cases this
theorem MPin.on (r : MPin g B Λ σ H F ι m P) {σ' : L2.St} {H' F' : Hp} {ι' : List Addr} {m' : M} (r' : Rel g (B.pins P) Λ σ' H' F' ι' m') : MPin g B Λ σ' H' F' ι' m' P := ⟨r', r.fr⟩
/-- a slot that nothing was known of -/
theorem Rel.know {i : Nat} {v : V} (r : Rel g B Λ σ H F ι m) (hi : i < m.ρ.length) (hs : σ[i]? = some (some v)) (h : RV g F v d) : Rel g B Λ σ H F ι ⟨m.ρ.set i (.t d), m.S⟩ := by
  obtain ⟨U, l, q⟩ := r.ex
  refine ⟨U, l, q.sub, q.old, q.new, q.grF, q.pre, q.iF, q.nd, q.sl, q.st, by rw [List.length_set]; exact q.ln, fun j l2 hl => ?_, fun j k d1 d2 hjk h1 h2 => ?_⟩
  · rcases get_set hl with ⟨rfl, rfl⟩ | ⟨_, hl⟩
    · exact ⟨v, hs, h⟩
    · exact q.loc j l2 hl
  · rcases get_set h1 with ⟨_, z⟩ | ⟨_, h1⟩
    · cases z
    · rcases get_set h2 with ⟨_, z⟩ | ⟨_, h2⟩
      · cases z
      · exact q.ap j k d1 d2 hjk h1 h2
/-- a slot is stored of which nothing is to be known -/
theorem Rel.dim {i : Nat} {v : V} (r : Rel g B Λ σ H F ι m) : Rel g B Λ (σ.set i (some v)) H F ι ⟨m.ρ.set i .un, m.S⟩ := by
  obtain ⟨U, l, q⟩ := r.ex
  have own : ∀ {j : Nat} {d}, (m.ρ.set i .un)[j]? = some (.own d) → i ≠ j ∧ m.ρ[j]? = some (.own d) := fun {j d} h => by
    rcases get_set h with ⟨_, z⟩ | ⟨z, h⟩
    · cases z
    · exact ⟨z, h⟩
  refine ⟨U, l, q.sub, q.old, q.new, q.grF, q.pre, q.iF, q.nd, q.sl, q.st, by rw [List.length_set, List.length_set]; exact q.ln, fun j l2 hl => ?_, fun j k d1 d2 hjk h1 h2 => ?_⟩
  · rcases get_set hl with ⟨rfl, rfl⟩ | ⟨z, hl⟩
    · exact True.intro
    · rw [List.getElem?_set_ne z]; exact q.loc j l2 hl
  · obtain ⟨a1, b1⟩ := own h1
    obtain ⟨a2, b2⟩ := own h2
    rw [List.getElem?_set_ne a1, List.getElem?_set_ne a2]
    exact q.ap j k d1 d2 hjk b1 b2
end
/-! # lists of a list -/
structure Grd (g : Gb) (F P : Hp) (a : Addr) (bs : List Addr) (grid : List (List D)) : Prop where
  top : P a = some (.lst (bs.map V.ref))
  nd : bs.Nodup
  na : a ∉ bs
  len : grid.length = bs.length
  row : ∀ (k : Nat) (b : Addr), bs[k]? = some b → ∃ vs row, grid[k]? = some row ∧ P b = some (.lst vs) ∧ RVs g F vs row
  out : ∀ b, b ≠ a → b ∉ bs → P b = none
def gput (g : List (List D)) (r l : Int) (v : D) : Option (List (List D)) := (ixN g.length r).bind fun i => (g[i]?).bind fun row => (ixN row.length l).map fun j => g.set i (row.set j v)
section
variable {g : Gb} {B : Bs} {Λ : Lks} {σ : L2.St} {H F F' P : Hp} {ι ι' : List Addr} {m m' : M} {a : Addr} {bs : List Addr} {grid grid' : List (List D)}
theorem Grd.gr (h : Grd g F P a bs grid) (k : Gr F F') : Grd g F' P a bs grid := ⟨h.top, h.nd, h.na, h.len, fun i b e => let ⟨vs, row, h1, h2, h3⟩ := h.row i b e; ⟨vs, row, h1, h2, h3.gr k⟩, h.out⟩
theorem ixN_lt {n : Nat} {i : Int} {j : Nat} (h : ixN n i = some j) : j < n := (ixN_seq h).2.1
theorem map_get {bs : List Addr} {i : Int} {j : Nat} {b : Addr} (h : ixN bs.length i = some j) (hb : bs[j]? = some b) : atI (bs.map V.ref) i = some (.ref b) := by
  unfold atI
  rw [List.length_map, h]
  show (bs.map V.ref)[j]? = _
  rw [List.getElem?_map, hb]; rfl
/-- rows[r][l] = v -/
theorem grid_store {r l : Int} {v : V} {d : D} (k : MPin g B Λ σ H F ι m P) (h : Grd g F P a bs grid) (e : gput grid r l d = some grid') (hv : RV g F v d) : ∃ (b : Addr) (vs : List V) (j j2 : Nat), atI (bs.map V.ref) r = some (.ref b) ∧ H a = some (.lst (bs.map V.ref)) ∧ H b = some (.lst vs) ∧ ixN vs.length l = some j2 ∧ bs[j]? = some b ∧
    MPin g B Λ σ (upd H b (.lst (vs.set j2 v))) F ι m (upd P b (.lst (vs.set j2 v))) ∧ Grd g F (upd P b (.lst (vs.set j2 v))) a bs grid' := by
  unfold gput at e
  obtain ⟨j, h1, e⟩ := Option.bind_eq_some_iff.mp e
  obtain ⟨row, h2, e⟩ := Option.bind_eq_some_iff.mp e
  obtain ⟨j2, h3, rfl⟩ := Option.map_eq_some_iff.mp e
  rw [h.len] at h1
  have hj := ixN_lt h1
  have hb : bs[j]? = some bs[j] := List.getElem?_eq_getElem hj
  obtain ⟨vs, row', k1, k2, k3⟩ := h.row j _ hb
  rw [h2] at k1; cases k1
  have hP := (k.facts k2).2.2
  have nab : a ≠ bs[j] := fun z => h.na (z ▸ List.getElem_mem hj)
  refine ⟨bs[j], vs, j, j2, map_get h1 hb, (k.facts h.top).2.2, hP, by rw [k3.length]; exact h3, hb, k.put k2, ⟨by rw [upd_ne nab]; exact h.top, h.nd, h.na, by rw [List.length_set]; exact h.len, fun i b eb => ?_, fun b n1 n2 => ?_⟩⟩
  · by_cases z : i = j
    · subst z
      rw [hb] at eb; cases eb
      exact ⟨_, _, List.getElem?_set_self (List.getElem?_eq_some_iff.mp h2).1, upd_same, k3.set hv j2⟩
    · obtain ⟨vs2, row2, q1, q2, q3⟩ := h.row i b eb
      refine ⟨vs2, row2, by rw [List.getElem?_set_ne (Ne.symm z)]; exact q1, ?_, q3⟩
      rw [upd_ne (fun y => z (nd_get h.nd (by rw [← y]; exact eb) hb))]; exact q2
  · rw [upd_ne (fun y => n2 (by rw [y]; exact List.getElem_mem hj))]; exact h.out b n1 n2
/-- all are frozen -/
theorem grid_rows (k : MPin g B Λ σ H F ι m P) (h : Grd g F P a bs grid) : ∀ n ≤ bs.length, ∃ F' P', MPin g B Λ σ H F' ι m P' ∧ Gr F F' ∧ P' a = some (.lst (bs.map V.ref)) ∧ (∀ j b, bs[j]? = some b → n ≤ j → P' b = P b) ∧ (∀ b, b ≠ a → b ∉ bs.drop n → P' b = none) ∧ ∀ j b row, j < n → bs[j]? = some b → grid[j]? = some row → RV g F' (.ref b) (.lst row) := by
  intro n
  induction n with
  | zero => exact fun _ => ⟨F, P, k, Gr.refl F, h.top, fun _ _ _ _ => rfl, fun b n1 n2 => h.out b n1 (by simpa using n2), fun j b row hj => by omega⟩
  | succ n ih =>
    intro hn
    obtain ⟨F1, P1, k1, g1, t1, s1, o1, v1⟩ := ih (by omega)
    have hb : bs[n]? = some bs[n] := List.getElem?_eq_getElem (by omega)
    obtain ⟨vs, row, q1, q2, q3⟩ := h.row n _ hb
    have hP : P1 bs[n] = some (.lst vs) := by rw [s1 n _ hb (Nat.le_refl _)]; exact q2
    obtain ⟨k2, g2, v2⟩ := k1.freeze hP (.lst (k1.facts hP).2.2 (q3.gr g1))
    have nab : a ≠ bs[n] := fun z => h.na (z ▸ List.getElem_mem _)
    refine ⟨_, _, k2, g1.trans g2, by rw [off_ne nab]; exact t1, fun j b e hj => ?_, fun b n1 n2 => ?_, fun j b r hj e er => ?_⟩
    · rw [off_ne (fun y => by have := nd_get h.nd (y ▸ e) hb; omega)]; exact s1 j b e (by omega)
    · by_cases z : b = bs[n]
      · subst z; exact off_same
      · rw [off_ne z]
        refine o1 b n1 fun w => n2 ?_
        rw [List.drop_eq_getElem_cons (by omega)] at w
        exact (List.mem_cons.mp w).resolve_left z
    · by_cases z : j = n
      · subst z
        rw [hb] at e; cases e
        rw [q1] at er; cases er
        exact v2
      · exact (v1 j b r (by omega) e er).gr g2
theorem grid_freeze (k : MPin g B Λ σ H F ι m P) (h : Grd g F P a bs grid) : ∃ F', Gr F F' ∧ Rel g B Λ σ H F' ι m ∧ RV g F' (.ref a) (.lst (grid.map .lst)) := by
  obtain ⟨F1, P1, k1, g1, t1, s1, o1, v1⟩ := grid_rows k h bs.length (Nat.le_refl _)
  have rvs : RVs g F1 (bs.map V.ref) (grid.map .lst) := by
    have : ∀ n ≤ bs.length, RVs g F1 ((bs.drop n).map V.ref) ((grid.drop n).map .lst) := by
      intro n hn
      generalize hk : bs.length - n = k
      induction k generalizing n with
      | zero =>
        rw [List.drop_eq_nil_of_le (by omega), List.drop_eq_nil_of_le (by rw [h.len]; omega)]; exact .nil
      | succ k ih =>
        have hb : n < bs.length := by omega
        have hgr : n < grid.length := by rw [h.len]; exact hb
        rw [List.drop_eq_getElem_cons hb, List.drop_eq_getElem_cons hgr]
        exact .cons (v1 n _ _ hb (List.getElem?_eq_getElem hb) (List.getElem?_eq_getElem hgr)) (ih (n + 1) (by omega) (by omega))
    simpa using this 0 (Nat.zero_le _)
  obtain ⟨k2, g2, v2⟩ := k1.freeze t1 (.lst (k1.facts t1).2.2 rvs)
  refine ⟨_, g1.trans g2, k2.back fun b => ?_, v2⟩
  by_cases z : b = a
  · subst z; exact off_same
  · rw [off_ne z]
    exact o1 b z (by simp)
end

/-! # [..] * n as a new list -/
def nRep (as : E (List Val)) (fb : E Val) : E D := as.bind fun xs => (asDs xs).bind fun ds => fb.bind fun y => (rd y).bind fun k => (E.opt (intD k)).bind fun k => if rngOk k && sizeOk (ds.length * k.toNat) && sizeOk ds.length then .ret (.lst (repD k.toNat ds)) else no'
theorem nMul {X : Cx} {g : Gb} {es : List Expr} {b : Expr} {p pos : Pos} {as : E (List Val)} {fb : E Val} (ha : PA X es (sA g as)) (hb : PE X b (sE g fb)) : PE X (.BinOp (.List es p) .Mult b pos) (sN g (nRep as fb)) := (pe_op op_rep (pe_lst ha) hb).via fun σ H Q ⟨B, Λ, F, ι, m, d, m', r, e, q⟩ => by
  obtain ⟨xs, m1, e1, y1⟩ := bind_ok e
  obtain ⟨ds, m2, e2, y2⟩ := bind_ok y1
  obtain ⟨y, m3, e3, y3⟩ := bind_ok y2
  obtain ⟨kd, m4, e4, y4⟩ := bind_ok y3
  obtain ⟨w4, rfl⟩ := rd_ok e4
  obtain ⟨k, m5, e5, y5⟩ := bind_ok y4
  obtain ⟨w5, rfl⟩ := opt_ok e5
  cases intD_ok w5
  split at y5
  · rename_i hz
    cases y5
    rw [Bool.and_eq_true, Bool.and_eq_true] at hz
    obtain ⟨⟨z1, z2⟩, z3⟩ := hz
    have z1 := of_decide_eq_true z1
    refine ⟨B, Λ, F, ι, m, xs, m1, r, e1, fun vs H1 F1 ι1 r1 g1 p1 h1 => ?_⟩
    obtain ⟨F2, g2, r2, h2⟩ := r1.asDs h1 e2
    have hl := h2.length
    refine ⟨by rw [hl]; exact sizeOk_line z3, fun p0 hp0 => ?_⟩
    have pin := r2.lay (o := .lst vs) hp0
    refine ⟨_, Λ, F2, ι1, m2, y, _, pin.rel, e3, fun w H3 F3 ι3 r3 g3 p3 h3 => ?_⟩
    have pin3 : Pin g B Λ σ H3 F3 ι3 _ p0 (.lst vs) := ⟨r3, pin.bH, pin.bF, pin.bi, pin.nt⟩
    obtain ⟨_, _, hH⟩ := pin3.facts
    have hw := r3.dat h3 w4
    cases hw
    refine ⟨p0, k, vs, rfl, rfl, hH, by omega, by omega, by rw [hl]; exact sizeOk_line z2, fun p hp => ?_⟩
    have pin4 := pin3.drop.lay (o := .lst (List.replicate k.toNat vs).flatten) hp
    exact q p _ F3 ι3 _ pin4 ((g1.trans g2).trans g3) (p1.trans p3) (.lst upd_same ((h2.gr g3).rep k.toNat))
  · cases y5
/-- a list of n like new lists -/
theorem lists_run {g : Gb} {B : Bs} {Λ : Lks} {σ : L2.St} {io : Nat} {J : It} {items : List D} {row : List D} {felt : E D} {ρ : List Loc} {S : List D} {H1 F1 : Hp} {ι1 : List Addr} {Q : VK} (r1 : Rel g B Λ σ H1 F1 ι1 ⟨ρ, S⟩) (gv : Gives g F1 Λ J items) (hz : sizeOk items.length = true) (hio : io < ρ.length)
    (hf : ∀ d, felt ⟨(wipeL [io] ρ).set io (.t d), S⟩ = .ok (.lst row) ⟨(wipeL [io] ρ).set io (.t d), S⟩)
    (q : ∀ a H2 F' ι' P bs, MPin g B Λ σ H2 F' ι' ⟨restL ρ [io] ρ, S⟩ P → Gr F1 F' → ι1 <+: ι' → Grd g F' P a bs (List.replicate items.length row) → Q (.ref a) H2) (Dl : Addr) (hD : H1 Dl = none) : ∃ W : Nat → Nat → Hp → Prop, (∃ m, W 0 m (upd H1 Dl (.lst []))) ∧ ∀ i m H, W i m H →
      (J.stop i H ∧ Q (.ref Dl) H) ∨ (J.go i H ∧ ∃ Nx : Hp → Prop, (∀ H', Nx H' → ∃ m', m' < m ∧ W (i + 1) m' H') ∧ ∀ x H', J.yld i H x H' → sG g [io] (tgN io) x (L2.wipe σ [io]) H' fun σ2 H2 => L2.wipe σ2 [io] = L2.wipe σ [io] ∧ sT g ifsYes σ2 H2 fun b H3 =>
        if b = true then sN g felt σ2 H3 fun y H4 => ∃ acc, H4 Dl = some (.lst acc) ∧ acc.length < sizeLine ∧ Nx (upd H4 Dl (.lst (acc ++ [y]))) else Nx H3) := by
  let St : Nat → Nat → Hp → Prop := fun i k H' => i ≤ items.length ∧ ∃ F' ι' P bs, k = items.length - i ∧ MPin g B Λ (L2.wipe σ [io]) H' F' ι' ⟨wipeL [io] ρ, S⟩ P ∧ Gr F1 F' ∧ ι1 <+: ι' ∧ Grd g F' P Dl bs (List.replicate i row)
  refine ⟨St, ⟨items.length, Nat.zero_le _, F1, ι1, upd (fun _ => none) Dl (.lst []), [], rfl, (MPin.of (r1.wipe [io])).lay hD, Gr.refl F1, List.prefix_refl _, ⟨upd_same, List.nodup_nil, by simp, rfl, fun k b e => by simp at e, fun b n1 _ => upd_ne n1⟩⟩, ?_⟩
  rintro i k H' ⟨hi0, F', ι', P, bs, rfl, k3, g3, p3, hg⟩
  obtain ⟨gs, gi⟩ := gv i H' F' g3 k3.rel.sub k3.rel.locks
  cases hd : items[i]? with
  | none =>
    have hle := List.getElem?_eq_none_iff.mp hd
    have : i = items.length := by omega
    subst this
    refine .inl ⟨gs hle, ?_⟩
    have r4 := Rel.unwipe r1 k3.rel g3 p3
    rw [restL_wipeL] at r4
    exact q Dl H' F' ι' P bs (k3.on r4) g3 p3 hg
  | some d =>
    obtain ⟨hi, hg'⟩ := List.getElem?_eq_some_iff.mp hd
    obtain ⟨go, yl⟩ := gi d hd
    refine .inr ⟨go, fun H' => ∃ k', k' < items.length - i ∧ St (i + 1) k' H', fun H' z => z, fun x H2 hy => ?_⟩
    have hbl : bs.length = i := by rw [← hg.len, List.length_replicate]
    have fin : ∀ {H2 F2 : Hp}, MPin g B Λ (L2.wipe σ [io]) H2 F2 ι' ⟨wipeL [io] ρ, S⟩ P → Gr F' F2 → RV g F2 x d → sG g [io] (tgN io) x (L2.wipe σ [io]) H2 fun σ2 H3 => L2.wipe σ2 [io] = L2.wipe σ [io] ∧ sT g ifsYes σ2 H3 fun b H4 =>
        if b = true then sN g felt σ2 H4 fun y H5 => ∃ acc, H5 Dl = some (.lst acc) ∧ acc.length < sizeLine ∧ (fun H' => ∃ k', k' < items.length - i ∧ St (i + 1) k' H') (upd H5 Dl (.lst (acc ++ [y]))) else (fun H' => ∃ k', k' < items.length - i ∧ St (i + 1) k' H') H4 := fun {H2 F2} k4 g4 hx => by
      have hset : tgN io (.t d) ⟨wipeL [io] ρ, S⟩ = .ok () ⟨(wipeL [io] ρ).set io (.t d), S⟩ := if_pos (by rw [wipeL_length]; exact hio)
      refine ⟨B.pins P, Λ, F2, ι', _, .t d, _, k4.rel, hx, hset, fun σ5 H5 F5 ι5 r5 g5 p5 a5 => ⟨wipe_agree a5 (fun _ h => h), ?_⟩⟩
      have hwe := wipe_agree a5 (fun _ h => h)
      refine ⟨_, Λ, F5, ι5, _, true, _, r5, rfl, fun H6 F6 ι6 r6 g6 p6 => ?_⟩
      dsimp only
      rw [if_pos rfl]
      refine ⟨_, Λ, F6, ι6, _, .lst row, _, r6, hf d, fun p H7 F7 ι7 o pin7 g7 p7 h7 => ?_⟩
      have gg := ((g4.trans g5).trans g6).trans g7
      cases h7 with
      | @lst vs _ q1 q2 =>
        obtain ⟨_, _, q3⟩ := pin7.facts
        rw [q1] at q3; cases q3
        have k8 : MPin g B Λ σ5 H7 F7 ι7 ⟨(wipeL [io] ρ).set io (.t d), S⟩ (upd P p (.lst vs)) := by
          refine ⟨by rw [← pins_lay]; exact pin7.rel, fun b u e => ?_⟩
          by_cases z : b = p
          · subst z
            rw [upd_same] at e; cases e
            have k := pin7.bH
            unfold Bs.pins at k
            simp only at k
            split at k
            · cases k
            · exact ⟨k, pin7.bF, pin7.bi, pin7.nt⟩
          · rw [upd_ne z] at e; exact k4.fr b u e
        have hPp : P p = none := by
          have k := pin7.bH
          unfold Bs.pins at k
          simp only at k
          split at k
          · cases k
          · assumption
        have nDp : Dl ≠ p := fun z => by rw [← z, hg.top] at hPp; cases hPp
        have hTop : (upd P p (.lst vs)) Dl = some (.lst (bs.map V.ref)) := by rw [upd_ne nDp]; exact hg.top
        obtain ⟨_, _, hHD⟩ := k8.facts hTop
        refine ⟨bs.map V.ref, hHD, by rw [List.length_map, hbl]; exact Nat.lt_of_lt_of_le hi (sizeOk_line hz), ?_⟩
        have k9 := (k8.put (o' := .lst (bs.map V.ref ++ [V.ref p])) hTop).rel.wipe [io]
        rw [hwe] at k9
        have hρ : wipeL [io] ((wipeL [io] ρ).set io (.t d)) = wipeL [io] ρ := by
          show ((ρ.set io .un).set io (.t d)).set io .un = ρ.set io .un
          rw [List.set_set, List.set_set]
        rw [hρ] at k9
        have npb : p ∉ bs := fun z => by
          obtain ⟨n, hn⟩ := List.mem_iff_getElem?.mp z
          obtain ⟨_, _, _, e, _⟩ := hg.row n p hn
          rw [hPp] at e; cases e
        have frm := (k8.put (o' := .lst (bs.map V.ref ++ [V.ref p])) hTop).fr
        refine ⟨_, by omega, hi, F7, ι7, upd (upd P p (.lst vs)) Dl (.lst (bs.map V.ref ++ [V.ref p])), bs ++ [p], rfl, ⟨k9, frm⟩, g3.trans gg, (((p3.trans p5).trans p6).trans p7), ⟨?_, ?_, ?_, ?_, fun k b e => ?_, fun b n1 n2 => ?_⟩⟩
        · rw [upd_same, List.map_append]; rfl
        · rw [List.nodup_append]
          refine ⟨hg.nd, by simp, fun x hx y hy => ?_⟩
          rw [List.mem_singleton] at hy; subst hy
          exact fun z => npb (z ▸ hx)
        · intro z
          rcases List.mem_append.mp z with z | z
          · exact hg.na z
          · rw [List.mem_singleton] at z; exact nDp z
        · rw [List.length_replicate, List.length_append, hbl]; rfl
        · by_cases hk : k < bs.length
          · rw [List.getElem?_append_left hk] at e
            obtain ⟨vs2, row2, q5, q6, q7⟩ := hg.row k b e
            have nb : b ≠ Dl := fun z => hg.na (z ▸ List.mem_of_getElem? e)
            have nbp : b ≠ p := fun z => npb (z ▸ List.mem_of_getElem? e)
            refine ⟨vs2, row2, ?_, by rw [upd_ne nb, upd_ne nbp]; exact q6, q7.gr gg⟩
            rw [List.getElem?_replicate] at q5 ⊢
            split at q5
            · rw [if_pos (by omega)]; exact q5
            · cases q5
          · rw [List.getElem?_append_right (by omega)] at e
            cases hk2 : k - bs.length with
            | zero =>
              rw [hk2] at e; cases e
              refine ⟨vs, row, ?_, by rw [upd_ne (Ne.symm nDp), upd_same], q2⟩
              rw [List.getElem?_replicate, if_pos (by omega)]
            | succ k' => rw [hk2] at e; simp at e
        · rw [upd_ne n1, upd_ne (fun z => n2 (by rw [z]; simp))]
          exact hg.out b n1 fun z => n2 (List.mem_append_left _ z)
    rcases yl x H2 hy with ⟨rfl, hx⟩ | ⟨p, o2, hp, rfl, rfl, hx⟩ | ⟨rfl, a, ks, rfl, hk, rfl⟩
    · exact fin k3 (Gr.refl _) hx
    · obtain ⟨r4, g4⟩ := k3.rel.alloc (o := o2) hp
      exact fin (k3.on r4) g4 hx
    · obtain ⟨F4, g4, r4, hx⟩ := k3.rel.learn hk
      exact fin (k3.on r4) g4 hx
end MF
set_option Elab.async false
set_option linter.all false
set_option maxRecDepth 100000
set_option maxHeartbeats 4000000
namespace MF
open PySem L2
section
variable {g : Gb} {B : Bs} {Λ : Lks} {σ : L2.St} {H F F' P : Hp} {ι ι' : List Addr} {m m1 : M} {a : Addr} {bs : List Addr} {grid grid' : List (List D)}
/-- a loop over ints by an invariant -/
theorem for_int {J : It} {is : List Int} (gv : Gives g F Λ J (is.map D.int)) {tgt : TG} {tb : TS} {D : Ends} (I : Nat → L2.St → Hp → Prop) (hb : ∀ k σ H, I k σ H → ∃ F', Gr F F' ∧ Sub F' H ∧ ∀ p ∈ Λ, H p.1 = some (.frz p.2.1 p.2.2)) (h0 : I 0 σ H)
    (step : ∀ k i σ H, is[k]? = some i → I k σ H → tgt (.int i) σ H fun σ2 H2 => tb { D with nx := I (k + 1), ct := I (k + 1), bk := D.nx } σ2 H2) (done : ∀ σ H, I is.length σ H → D.nx σ H) :
    ∃ W : Nat → Nat → L2.St → Hp → Prop, (∃ m, W 0 m σ H) ∧ ∀ i m σ H, W i m σ H →
      (J.stop i H ∧ D.nx σ H) ∨ (J.go i H ∧ ∃ N : L2.St → Hp → Prop, (∀ σ' H', N σ' H' → ∃ m', m' < m ∧ W (i + 1) m' σ' H') ∧ ∀ x H', J.yld i H x H' → tgt x σ H' fun σ2 H2 => tb { D with nx := N, ct := N, bk := D.nx } σ2 H2) := by
  refine ⟨fun i k σ H => i ≤ is.length ∧ k = is.length - i ∧ I i σ H, ⟨_, Nat.zero_le _, rfl, h0⟩, ?_⟩
  rintro i k σ' H' ⟨hi, rfl, inv⟩
  obtain ⟨F', g1, sb, lk⟩ := hb _ _ _ inv
  obtain ⟨gs, gi⟩ := gv i H' F' g1 sb lk
  cases hd : is[i]? with
  | none =>
    have hle := List.getElem?_eq_none_iff.mp hd
    have : i = is.length := by omega
    subst this
    exact .inl ⟨gs (by rw [List.length_map]; exact Nat.le_refl _), done _ _ inv⟩
  | some z =>
    have hlt := (List.getElem?_eq_some_iff.mp hd).1
    obtain ⟨go, yl⟩ := gi (.int z) (by rw [List.getElem?_map, hd]; rfl)
    refine .inr ⟨go, I (i + 1), fun σ2 H2 inv2 => ⟨is.length - (i + 1), by omega, hlt, rfl, inv2⟩, fun x H2 hy => ?_⟩
    rcases yl x H2 hy with ⟨rfl, hx⟩ | ⟨p, o, _, _, rfl, hx⟩ | ⟨_, a, ks, _, _, e⟩
    · cases hx; exact step i z _ _ hd inv
    · cases hx
    · cases e
theorem store_run {fv f1 f2 : E Val} {d : D} {r l : Int} {i3 : Nat} {D : Ends} (k : MPin g B Λ σ H F ι m P) (hg : Grd g F P a bs grid) (hs : σ[i3]? = some (some (.ref a))) (ev : fv m = .ok (.t d) m1) (e1 : f1 m1 = .ok (.t (.int r)) m1) (e2 : f2 m1 = .ok (.t (.int l)) m1) (eg : gput grid r l d = some grid')
    (q : ∀ H' F' ι' P', MPin g B Λ σ H' F' ι' m1 P' → Gr F F' → ι <+: ι' → Grd g F' P' a bs grid' → D.nx σ H') : tAsg (sE g fv) (gSub (tOp (rIxL g.K) (tVar i3) (sE g f1)) (sE g f2) rSetL) D σ H := by
  refine ⟨B.pins P, Λ, F, ι, m, .t d, m1, k.rel, ev, fun v H1 F1 ι1 r1 g1 p1 h1 => ?_⟩
  refine ⟨.ref a, hs, B.pins P, Λ, F1, ι1, m1, _, m1, r1, e1, fun w H2 F2 ι2 r2 g2 p2 h2 => ?_⟩
  cases h2
  obtain ⟨b, vs, j, j2, a1, a2, a3, a4, a5, _, _⟩ := grid_store (k.on r2) (hg.gr (g1.trans g2)) eg (RV.gr g2 h1)
  refine ⟨a, _, r, .ref b, rfl, rfl, .inl (.inl a2), a1, B.pins P, Λ, F2, ι2, m1, _, m1, r2, e2, fun w2 H3 F3 ι3 r3 g3 p3 h3 => ?_⟩
  cases h3
  obtain ⟨b', vs', j', j2', c1, c2, c3, c4, c5, c6, c7⟩ := grid_store (k.on r3) (hg.gr ((g1.trans g2).trans g3)) eg (RV.gr (g2.trans g3) h1)
  rw [a1] at c1; cases c1
  exact ⟨b, vs', l, j2', rfl, rfl, c3, c4, q _ F3 ι3 _ c6 ((g1.trans g2).trans g3) ((p1.trans p2).trans p3) c7⟩
end

/-! # the def that fills a table line by line -/
def pickI (pk : Fn) (p : Nat) (xs : List Int) (S : List D) : Option (D × List D) := match pk [.s p, .t (.lst (xs.map .int))] S with
  | some (.t d, S') => some (d, S')
  | _ => none
def stairIn (pk : Fn) (p : Nat) (r : Int) : List Int → List (List D) → List D → Option (List (List D) × List D)
  | [], g, S => some (g, S)
  | l :: ls, g, S => (pickI pk p [0, 0, 1, 1, 3] S).bind fun z => (gput g r l z.1).bind fun g' => stairIn pk p r ls g' z.2
def stairOut (pk : Fn) (p : Nat) (os : List Int) : List Nat → List (List D) → List D → Option (List (List D) × List D)
  | [], g, S => some (g, S)
  | i :: is, g, S => (os[i]?).bind fun r => (pickI pk p [0, 1, 1] S).bind fun z => (gput g r r z.1).bind fun g' => (stairIn pk p r (os.drop (i + 1)) g' z.2).bind fun y => stairOut pk p os is y.1 y.2
def zeros (n : Nat) : List (List D) := List.replicate n (List.replicate n (.int 0))
def bStair (pk : Fn) : E Ctl := fun m => match m.ρ with
  | [.s p, .t (.int n), .t (.lst ds), .un, .un, .un, .un, .un] => match intsD ds with
    | some os => if rngOk n && sizeOk n.toNat && decide (os.length = n.toNat) then match stairOut pk p os (List.range n.toNat) (zeros n.toNat) m.S with
        | some y => .ok (.rt (.t (.tup (y.1.map .tup)))) ⟨[.s p, .t (.int n), .t (.lst ds), .un, .un, .un, .un, .un], y.2⟩
        | none => .no
      else .no
    | none => .no
  | _ => .no
def ePick (pk : Fn) (xs : List Int) : E Val := eFn pk (eArgs [eN 0, fz (nLst (eArgs (xs.map fun i => eC (.int i))))])
def tStore (g : Gb) (fv f1 f2 : E Val) : TS := tAsg (sE g fv) (gSub (tOp (rIxL g.K) (tVar 3) (sE g f1)) (sE g f2) rSetL)
def eOat : E Val := eOp dIdx (eN 2) (eN 5)
def sTabs : E Ctl := sRet (eCall (one dTuple) (eArgs [fz (nLc [7] (iSeq (eN 3)) (tgN 7) ifsYes (eCall (one dTuple) (eArgs [eN 7])))]))
def tRest (g : Gb) (pk : Fn) : TS := tSeq (tFor (sI g (iRange1 (eArgs [eN 1]))) (sG g [5] (tgN 5)) (tSeq (tStore g (ePick pk [0, 1, 1]) eOat eOat)
    (tFor (sI g (iSeq (eCut (eN 2) (some (eOp dAdd (eN 5) (eC (.int 1)))) none))) (sG g [6] (tgN 6)) (tStore g (ePick pk [0, 0, 1, 1, 3]) eOat (eN 6))))) (sS g sTabs)
def tStair (g : Gb) (pk : Fn) : TS := tSeq (tAsg (tLc (sI g (iRange1 (eArgs [eN 1]))) (sG g [4] (tgN 4)) (sT g ifsYes) (sN g (nRep (eArgs [eC (.int 0)]) (eN 1))) [4]) (gName 3)) (tRest g pk)
end MF
set_option Elab.async false
set_option linter.all false
set_option maxRecDepth 100000
set_option maxHeartbeats 4000000
namespace MF
open PySem L2
/-! # how mirrors compute -/
theorem bind_eq {α β : Type} {f : E α} {k : α → E β} {m m1 : M} {a : α} (h : f m = .ok a m1) : E.bind f k m = k a m1 := by unfold E.bind; rw [h]
theorem opt_eq {α : Type} {o : Option α} {m : M} {a : α} (h : o = some a) : E.opt o m = .ok a m := by subst h; rfl
theorem intsD_map (ns : List Int) : intsD (ns.map D.int) = some ns := by
  induction ns with
  | nil => rfl
  | cons n ns ih => show (match intD (.int n), intsD (ns.map D.int) with | some k, some ks => some (k :: ks) | _, _ => none) = _; rw [ih]; rfl
theorem intsD_eq : ∀ {ds : List D} {ns : List Int}, intsD ds = some ns → ds = ns.map D.int
  | [], _, h => by cases h; rfl
  | d :: ds, ns, h => by
    unfold intsD at h
    split at h
    · rename_i k ks h1 h2
      cases h
      rw [List.map_cons, intD_ok h1, intsD_eq h2]
    · cases h
theorem ixN_nat {n k : Nat} (h : k < n) : ixN n (k : Int) = some k := by
  unfold ixN
  rw [if_pos (Int.natCast_nonneg k), if_pos (Int.ofNat_lt.mpr h), Int.toNat_natCast]
theorem ixN_big {n k : Nat} (h : n ≤ k) : ixN n (k : Int) = none := by
  unfold ixN
  rw [if_pos (Int.natCast_nonneg k), if_neg (by omega)]
theorem atI_nat {α : Type} (xs : List α) (k : Nat) : atI xs (k : Int) = xs[k]? := by
  unfold atI
  by_cases h : k < xs.length
  · rw [ixN_nat h]; rfl
  · rw [ixN_big (by omega), List.getElem?_eq_none (by omega)]; rfl
theorem rangeD_ints (lo : Int) (n : Nat) : rangeD lo n = ((List.range n).map fun (i : Nat) => lo + (i : Int)).map D.int := by
  unfold rangeD
  rw [List.map_map]; rfl
theorem rangeD_zero (n : Nat) : rangeD 0 n = ((List.range n).map fun (i : Nat) => (i : Int)).map D.int := by
  rw [rangeD_ints]
  congr 1
  exact List.map_congr_left fun i _ => Int.zero_add _
theorem repD_one (n : Nat) (d : D) : repD n [d] = List.replicate n d := by
  unfold repD
  induction n with
  | zero => rfl
  | succ n ih => rw [List.replicate_succ, List.flatten_cons, ih]; rfl
theorem cut_drop {α : Type} (xs : List α) (k : Nat) : cutD xs (some (k : Int)) none = xs.drop k := by
  unfold cutD
  rw [HT.sIx_nat, HT.sIx_none]
  by_cases h : k ≤ xs.length
  · rw [Nat.min_eq_left h, List.take_of_length_le (by rw [List.length_drop]; exact Nat.le_refl _)]
  · rw [Nat.min_eq_right (by omega), List.drop_eq_nil_of_le (Nat.le_refl _), List.drop_eq_nil_of_le (by omega), List.take_nil]
theorem cut_take {α : Type} (xs : List α) (k : Nat) : cutD xs none (some (k : Int)) = xs.take k := by
  unfold cutD
  rw [HT.sIx_nat, HT.sIx_none, List.drop_zero, Nat.sub_zero]
  by_cases h : k ≤ xs.length
  · rw [Nat.min_eq_left h]
  · rw [Nat.min_eq_right (by omega), List.take_of_length_le (Nat.le_refl _), List.take_of_length_le (by omega)]
theorem rd_eq {x : Val} {m : M} {d : D} (h : dat x m = some d) : rd x m = .ok d m := opt_eq h
theorem ev_call1 {f : D → Option D} {a : E Val} {m m1 : M} {x : Val} {d z : D} (ha : a m = .ok x m1) (hd : dat x m1 = some d) (hf : f d = some z) : eCall (one f) (eArgs [a]) m = .ok (.t z) m1 := by
  unfold eCall
  have h1 : eArgs [a] m = .ok [x] m1 := by show E.bind a _ m = _; rw [bind_eq ha]; rfl
  have h2 : rds [x] m1 = .ok [d] m1 := by show E.bind (rd x) _ m1 = _; rw [bind_eq (rd_eq hd)]; rfl
  rw [bind_eq h1, bind_eq h2, bind_eq (opt_eq (o := one f [d]) hf)]; rfl
theorem ev_op {f : D → D → Option D} {a b : E Val} {m m1 m2 : M} {x y : Val} {d e z : D} (ha : a m = .ok x m1) (hb : b m1 = .ok y m2) (hd : dat x m2 = some d) (he : dat y m2 = some e) (hf : f d e = some z) : eOp f a b m = .ok (.t z) m2 := by
  unfold eOp
  rw [bind_eq ha, bind_eq hb, bind_eq (rd_eq hd), bind_eq (rd_eq he), bind_eq (opt_eq hf)]; rfl
theorem ev_t {i : Nat} {m : M} {d : D} (h : m.ρ[i]? = some (.t d)) : eN i m = .ok (.t d) m := by unfold eN; simp only [h]
theorem ev_s {i n : Nat} {m : M} (h : m.ρ[i]? = some (.s n)) : eN i m = .ok (.s n) m := by unfold eN; simp only [h]
theorem ev_fz {f : E D} {m m1 : M} {d : D} (h : f m = .ok d m1) : fz f m = .ok (.t d) m1 := by unfold fz; rw [bind_eq h]; rfl
theorem ev_ret {f : E Val} {m m1 : M} {d : D} (h : f m = .ok (.t d) m1) : sRet f m = .ok (.rt (.t d)) m1 := by unfold sRet; rw [bind_eq h]; rfl
/-- a comprehension over one name, without a condition: f tells the item's value and what it does to the store -/
def mapS (f : D → List D → Option (D × List D)) : List D → List D → Option (List D × List D)
  | [], S => some ([], S)
  | d :: ds, S => (f d S).bind fun y => (mapS f ds y.2).bind fun r => some (y.1 :: r.1, r.2)
theorem lcLoop_one {i : Nat} {elt : E Val} {ρ : List MF.Loc} (hi : i < ρ.length) (f : D → List D → Option (D × List D)) : ∀ (items : List D) (h : ∀ d ∈ items, ∀ S y S', f d S = some (y, S') → elt ⟨ρ.set i (.t d), S⟩ = .ok (.t y) ⟨ρ.set i (.t d), S'⟩) (S S' : List D) (ys : List D) (l : MF.Loc), mapS f items S = some (ys, S') →
    ∃ l', lcLoop [i] (tgN i) ifsYes elt items ⟨ρ.set i l, S⟩ = .ok ys ⟨ρ.set i l', S'⟩
  | [], _, S, S', ys, l, e => by cases e; exact ⟨l, rfl⟩
  | d :: ds, h, S, S', ys, l, e => by
    unfold mapS at e
    obtain ⟨y, e1, e⟩ := Option.bind_eq_some_iff.mp e
    obtain ⟨r, e2, e⟩ := Option.bind_eq_some_iff.mp e
    cases e
    obtain ⟨l', h2⟩ := lcLoop_one hi f ds (fun d hd => h d (List.mem_cons_of_mem _ hd)) y.2 r.2 r.1 (.t d) e2
    refine ⟨l', ?_⟩
    have hw : wipeL [i] (ρ.set i l) = ρ.set i .un := by show (ρ.set i l).set i .un = _; rw [List.set_set]
    have ht : lcTurn (tgN i) ifsYes elt d ⟨ρ.set i .un, S⟩ = .ok (some y.1) ⟨ρ.set i (.t d), y.2⟩ := by
      unfold lcTurn
      rw [bind_eq (a := ()) (m1 := ⟨ρ.set i (.t d), S⟩) (by unfold tgN; rw [if_pos (by rw [List.length_set]; exact hi)]; show R.ok () _ = _; rw [List.set_set]; rfl)]
      rw [bind_eq (f := ifsYes) (a := true) (m1 := ⟨ρ.set i (.t d), S⟩) rfl]
      rw [if_pos rfl, bind_eq (h d List.mem_cons_self S y.1 y.2 e1)]
      rfl
    show (lcTurn (tgN i) ifsYes elt d).bind _ ⟨wipeL [i] (ρ.set i l), S⟩ = _
    rw [hw, bind_eq ht, bind_eq h2]
    rfl
theorem nLc_one {i : Nat} {src : E (List D)} {elt : E Val} {ρ : List MF.Loc} {S S1 S' : List D} {items ys : List D} (hi : i < ρ.length) (f : D → List D → Option (D × List D)) (hs : src ⟨ρ, S⟩ = .ok items ⟨ρ, S1⟩) (hz : sizeOk items.length = true) (h : ∀ d ∈ items, ∀ S y S', f d S = some (y, S') → elt ⟨ρ.set i (.t d), S⟩ = .ok (.t y) ⟨ρ.set i (.t d), S'⟩)
    (e : mapS f items S1 = some (ys, S')) : nLc [i] src (tgN i) ifsYes elt ⟨ρ, S⟩ = .ok (.lst ys) ⟨ρ.set i (keepL ρ[i]?), S'⟩ := by
  unfold nLc
  rw [bind_eq hs]
  obtain ⟨l', h2⟩ := lcLoop_one hi f items h S1 S' ys (ρ[i]'hi) e
  rw [List.set_getElem_self] at h2
  simp only [h2, if_pos hz]
  show R.ok _ ⟨(ρ.set i l').set i (keepL ρ[i]?), S'⟩ = _
  rw [List.set_set]
theorem mapS_pure (f : D → D) (S : List D) : ∀ items, mapS (fun d S => some (f d, S)) items S = some (items.map f, S)
  | [] => rfl
  | d :: ds => by
    unfold mapS
    show ((mapS (fun d S => some (f d, S)) ds S).bind fun r => some (f d :: r.1, r.2)) = _
    rw [mapS_pure f S ds]; rfl
section
variable {g : Gb} {B : Bs} {Λ : Lks} {σ : L2.St} {H F : Hp} {ι : List Addr}
theorem Rel.forget {ρ ρ' : List MF.Loc} {S : List D} (r : Rel g B Λ σ H F ι ⟨ρ, S⟩) (hl : ρ'.length = ρ.length) (h : ∀ (i : Nat) (l : MF.Loc), ρ'[i]? = some l → l = .un ∨ ρ[i]? = some l) : Rel g B Λ σ H F ι ⟨ρ', S⟩ := by
  obtain ⟨U, l, q⟩ := r.ex
  have own : ∀ {i : Nat} {d : D}, ρ'[i]? = some (MF.Loc.own d) → ρ[i]? = some (MF.Loc.own d) := fun {i d} e => by
    rcases h _ _ e with z | z
    · cases z
    · exact z
  refine ⟨U, l, q.sub, q.old, q.new, q.grF, q.pre, q.iF, q.nd, q.sl, q.st, hl.trans q.ln, fun i l e => ?_, fun i j d e hij h1 h2 => q.ap i j d e hij (own h1) (own h2)⟩
  rcases h i l e with z | z
  · subst z; exact True.intro
  · exact q.loc i l z
theorem pick_run {pk : Fn} {p : Nat} {xs : List Int} {S S' : List D} {d : D} {ρ : List MF.Loc} (h0 : ρ[0]? = some (.s p)) (hx : sizeOk xs.length = true) (h : pickI pk p xs S = some (d, S')) : ePick pk xs ⟨ρ, S⟩ = .ok (.t d) ⟨ρ, S'⟩ := by
  have hargs : ∀ (xs : List Int) (m : M), eArgs (xs.map fun i => eC (.int i)) m = .ok (xs.map fun i => Val.t (.int i)) m := by
    intro xs m
    induction xs with
    | nil => rfl
    | cons x xs ih => show (E.bind (eArgs (xs.map fun i => eC (.int i))) fun r => E.ret (Val.t (.int x) :: r)) m = _; rw [bind_eq ih]; rfl
  have hds : ∀ (xs : List Int) (m : M), asDs (xs.map fun i => Val.t (.int i)) m = .ok (xs.map D.int) m := by
    intro xs m
    induction xs with
    | nil => rfl
    | cons x xs ih => show (E.bind (asDs (xs.map fun i => Val.t (.int i))) fun r => E.ret (D.int x :: r)) m = _; rw [bind_eq ih]; rfl
  have hl : nLst (eArgs (xs.map fun i => eC (.int i))) ⟨ρ, S⟩ = .ok (.lst (xs.map D.int)) ⟨ρ, S⟩ := by
    unfold nLst
    rw [bind_eq (hargs xs _), bind_eq (hds xs _), if_pos (by rw [List.length_map]; exact hx)]
    rfl
  have hp : pk [.s p, .t (.lst (xs.map .int))] S = some (.t d, S') := by
    unfold pickI at h
    split at h
    · cases h; assumption
    · cases h
  have h1 : eN 0 ⟨ρ, S⟩ = .ok (.s p) ⟨ρ, S⟩ := by unfold eN; simp only [h0]
  unfold ePick eFn
  rw [bind_eq (a := [.s p, .t (.lst (xs.map .int))]) (m1 := ⟨ρ, S⟩)]
  · show (match pk [.s p, .t (.lst (xs.map .int))] S with
      | some (.t d, S') => R.ok (Val.t d) ⟨ρ, S'⟩
      | some (.s n, S') => R.ok (Val.s n) ⟨ρ, S'⟩
      | none => R.no) = _
    rw [hp]
  · show E.bind _ _ _ = _
    rw [bind_eq h1, bind_eq (a := [.t (.lst (xs.map .int))]) (m1 := ⟨ρ, S⟩)]
    · rfl
    · show E.bind _ _ _ = _
      rw [bind_eq (a := .t (.lst (xs.map .int))) (m1 := ⟨ρ, S⟩)]
      · rfl
      · unfold fz; rw [bind_eq hl]; rfl
theorem range1_run {i : Nat} {n : Int} {ρ : List MF.Loc} {S : List D} (h : ρ[i]? = some (.t (.int n))) (hr : rngOk n = true) : iRange1 (eArgs [eN i]) ⟨ρ, S⟩ = .ok (rangeD 0 n.toNat) ⟨ρ, S⟩ := by
  have h1 : eN i ⟨ρ, S⟩ = .ok (.t (.int n)) ⟨ρ, S⟩ := by unfold eN; simp only [h]
  unfold iRange1
  rw [bind_eq (a := [.t (.int n)]) (m1 := ⟨ρ, S⟩)]
  · exact opt_eq (if_pos hr)
  · show E.bind _ _ _ = _
    rw [bind_eq h1]; rfl
end

/-! # the walk of bStair -/
section
variable {g : Gb}
theorem stair_tabs {ρ : List MF.Loc} {S : List D} {grid : List (List D)} (h3 : ρ[3]? = some (.t (.lst (grid.map .lst)))) (h7 : 7 < ρ.length) (hz : sizeOk grid.length = true) : sTabs ⟨ρ, S⟩ = .ok (.rt (.t (.tup (grid.map .tup)))) ⟨ρ.set 7 (keepL ρ[7]?), S⟩ := by
  have hsrc : iSeq (eN 3) ⟨ρ, S⟩ = .ok (grid.map .lst) ⟨ρ, S⟩ := by
    unfold iSeq
    rw [bind_eq (a := .t (.lst (grid.map .lst))) (m1 := ⟨ρ, S⟩) (by unfold eN; simp only [h3])]
    rfl
  have hl := nLc_one (i := 7) (elt := eCall (one dTuple) (eArgs [eN 7])) h7 (fun d S => (dTuple d).map fun y => (y, S)) hsrc (by rw [List.length_map]; exact hz) (fun d _ S y S' e => by
    obtain ⟨z, e1, e2⟩ := Option.map_eq_some_iff.mp e
    cases e2
    exact ev_call1 (ev_t (List.getElem?_set_self h7)) rfl e1) (ys := grid.map .tup) (S' := S) (by
      have : ∀ (gr : List (List D)), mapS (fun d S => (dTuple d).map fun y => (y, S)) (gr.map .lst) S = some (gr.map .tup, S) := by
        intro gr
        induction gr with
        | nil => rfl
        | cons r gr ih =>
          show ((mapS (fun d S => (dTuple d).map fun y => (y, S)) (gr.map .lst) S).bind fun q => some (D.tup r :: q.1, q.2)) = _
          rw [ih]; rfl
      exact this grid)
  exact ev_ret (ev_call1 (ev_fz hl) rfl rfl)
theorem oat_run {os : List Int} {k : Nat} {r : Int} {ρ : List MF.Loc} {S : List D} (h2 : ρ[2]? = some (.t (.lst (os.map .int)))) (h5 : ρ[5]? = some (.t (.int (k : Int)))) (h : os[k]? = some r) : eOat ⟨ρ, S⟩ = .ok (.t (.int r)) ⟨ρ, S⟩ := by
  refine ev_op (ev_t h2) (ev_t h5) rfl rfl ?_
  show atI (os.map D.int) (k : Int) = _
  rw [atI_nat, List.getElem?_map, h]; rfl
theorem gput_len {gr gr' : List (List D)} {r l : Int} {v : D} (h : gput gr r l v = some gr') : gr'.length = gr.length := by
  unfold gput at h
  obtain ⟨j, _, h⟩ := Option.bind_eq_some_iff.mp h
  obtain ⟨row, _, h⟩ := Option.bind_eq_some_iff.mp h
  obtain ⟨j2, _, rfl⟩ := Option.map_eq_some_iff.mp h
  rw [List.length_set]
end
end MF
set_option Elab.async false
set_option linter.all false
set_option maxRecDepth 100000
set_option maxHeartbeats 4000000
namespace MF
open PySem L2
section
variable {g : Gb}
def stR (p : Nat) (n : Int) (ds : List D) (l5 l6 : MF.Loc) : List MF.Loc := [.s p, .t (.int n), .t (.lst ds), .un, .un, l5, l6, .un]
/-- the state within the loops -/
structure StI (g : Gb) (B : Bs) (Λ : Lks) (F0 : Hp) (ι0 : List Addr) (p : Nat) (n : Int) (ds : List D) (a : Addr) (l5 : Option MF.Loc) (σ : L2.St) (H : Hp) (grid : List (List D)) (S : List D) : Prop where
  ex : ∃ F ι P bs l5' l6, MPin g B Λ σ H F ι ⟨stR p n ds l5' l6, S⟩ P ∧ Gr F0 F ∧ ι0 <+: ι ∧ Grd g F P a bs grid ∧ (∀ l, l5 = some l → l5' = l)
  sl : σ[3]? = some (some (.ref a))
theorem StI.base {B : Bs} {Λ : Lks} {F0 : Hp} {ι0 : List Addr} {p : Nat} {n : Int} {ds : List D} {a : Addr} {l5 : Option MF.Loc} {σ : L2.St} {H : Hp} {grid : List (List D)} {S : List D} (h : StI g B Λ F0 ι0 p n ds a l5 σ H grid S) : ∃ F', Gr F0 F' ∧ Sub F' H ∧ ∀ p ∈ Λ, H p.1 = some (.frz p.2.1 p.2.2) :=
  let ⟨F, _, _, _, _, _, k, g1, _⟩ := h.ex; ⟨F, g1, k.rel.sub, k.rel.locks⟩
theorem inner_run {pk : Fn} {B : Bs} {Λ : Lks} {F0 : Hp} {ι0 : List Addr} {p k : Nat} {n r : Int} {os : List Int} {a : Addr} {σ : L2.St} {H : Hp} {grid : List (List D)} {S : List D} {y : List (List D) × List D} {D' : Ends} (hz : sizeOk os.length = true) (hr : os[k]? = some r) (h : StI g B Λ F0 ι0 p n (os.map .int) a (some (.t (.int (k : Int)))) σ H grid S) (e : stairIn pk p r (os.drop (k + 1)) grid S = some y)
    (q : ∀ σ' H', StI g B Λ F0 ι0 p n (os.map .int) a none σ' H' y.1 y.2 → D'.nx σ' H') : tFor (sI g (iSeq (eCut (eN 2) (some (eOp dAdd (eN 5) (eC (.int 1)))) none))) (sG g [6] (tgN 6)) (tStore g (ePick pk [0, 0, 1, 1, 3]) eOat (eN 6)) D' σ H := by
  obtain ⟨F, ι, P, bs, l5', l6, kk, g1, p1, hg, hl⟩ := h.ex
  have := hl _ rfl
  subst this
  have hsrc : iSeq (eCut (eN 2) (some (eOp dAdd (eN 5) (eC (.int 1)))) none) ⟨stR p n (os.map .int) (.t (.int (k : Int))) l6, S⟩ = .ok ((os.drop (k + 1)).map D.int) ⟨stR p n (os.map .int) (.t (.int (k : Int))) l6, S⟩ := by
    have h1 : eCut (eN 2) (some (eOp dAdd (eN 5) (eC (.int 1)))) none ⟨stR p n (os.map .int) (.t (.int (k : Int))) l6, S⟩ = .ok (.t (.lst ((os.drop (k + 1)).map D.int))) ⟨stR p n (os.map .int) (.t (.int (k : Int))) l6, S⟩ := by
      have hc : dCut (.lst (os.map D.int)) (some ((k : Int) + 1)) none = some (.lst ((os.drop (k + 1)).map D.int)) := by
        unfold dCut
        simp only [List.length_map, hz, if_true]
        rw [show (k : Int) + 1 = ((k + 1 : Nat) : Int) from rfl, cut_drop, List.map_drop]
      have h5 : ePart (some (eOp dAdd (eN 5) (eC (.int 1)))) ⟨stR p n (os.map .int) (.t (.int (k : Int))) l6, S⟩ = .ok (some ((k : Int) + 1)) ⟨stR p n (os.map .int) (.t (.int (k : Int))) l6, S⟩ := by
        have h51 : eOp dAdd (eN 5) (eC (.int 1)) ⟨stR p n (os.map .int) (.t (.int (k : Int))) l6, S⟩ = .ok (.t (.int ((k : Int) + 1))) ⟨stR p n (os.map .int) (.t (.int (k : Int))) l6, S⟩ := ev_op (b := eC (.int 1)) (y := .t (.int 1)) (ev_t rfl) rfl rfl rfl rfl
        simp only [ePart]
        rw [bind_eq h51]
        rfl
      unfold eCut
      rw [bind_eq (ev_t rfl), bind_eq h5, bind_eq (f := ePart none) (a := none) (m1 := ⟨stR p n (os.map .int) (.t (.int (k : Int))) l6, S⟩) rfl, bind_eq (rd_eq rfl), bind_eq (opt_eq hc)]
      rfl
    unfold iSeq
    rw [bind_eq h1]
    rfl
  refine ⟨B.pins P, Λ, F, ι, _, _, _, kk.rel, hsrc, fun J H1 F1 ι1 r1 g2 p2 gv => ?_⟩
  refine for_int gv (D := D') (fun j σ' H' => ∃ grid' S', StI g B Λ F1 ι0 p n (os.map .int) a (some (.t (.int (k : Int)))) σ' H' grid' S' ∧ stairIn pk p r ((os.drop (k + 1)).drop j) grid' S' = some y) (fun j σ' H' ⟨_, _, z, _⟩ => z.base) ?_ ?_ ?_
  · exact ⟨grid, S, ⟨⟨F1, ι1, P, bs, _, l6, kk.on r1, Gr.refl _, p1.trans p2, hg.gr g2, fun l z => by cases z; rfl⟩, h.sl⟩, e⟩
  · rintro j i σ' H' hi ⟨grid', S', z, e'⟩
    obtain ⟨F2, ι2, P2, bs2, l52, l62, k2, g3, p3, hg2, hl2⟩ := z.ex
    have := hl2 _ rfl
    subst this
    obtain ⟨hlt, hi'⟩ := List.getElem?_eq_some_iff.mp hi
    rw [List.drop_eq_getElem_cons hlt, hi'] at e'
    unfold stairIn at e'
    obtain ⟨d, e1, e'⟩ := Option.bind_eq_some_iff.mp e'
    obtain ⟨gr2, e2, e'⟩ := Option.bind_eq_some_iff.mp e'
    refine ⟨B.pins P2, Λ, F2, ι2, _, .t (.int i), ⟨stR p n (os.map .int) (.t (.int (k : Int))) (.t (.int i)), S'⟩, k2.rel, .int i, rfl, fun σ2 H2 F3 ι3 r3 g4 p4 ag => ?_⟩
    have hs3 : σ2[3]? = some (some (.ref a)) := by rw [ag.2 3 (by decide)]; exact z.sl
    refine store_run (k2.on r3) (hg2.gr g4) hs3 (m1 := ⟨stR p n (os.map .int) (.t (.int (k : Int))) (.t (.int i)), d.2⟩) (pick_run rfl (by decide) e1) (oat_run rfl rfl hr) (ev_t rfl) e2 fun H' F4 ι4 P4 k4 g5 p5 hg4 => ?_
    exact ⟨gr2, d.2, ⟨⟨F4, ι4, P4, bs2, _, _, k4, (g3.trans g4).trans g5, (p3.trans p4).trans p5, hg4, fun l w => by cases w; rfl⟩, hs3⟩, e'⟩
  · rintro σ' H' ⟨grid', S', z, e'⟩
    rw [List.drop_length] at e'
    cases e'
    obtain ⟨F2, ι2, P2, bs2, l52, l62, k2, g3, p3, hg2, hl2⟩ := z.ex
    exact q σ' H' ⟨⟨F2, ι2, P2, bs2, l52, l62, k2, (g1.trans g2).trans g3, p3, hg2, fun l w => by cases w⟩, z.sl⟩
theorem stair_run {pk : Fn} : ∀ D σ H, sS g (bStair pk) D σ H → tStair g pk D σ H := fun D σ H ⟨B, Λ, F, ι, m, c, m', r, e, q⟩ => by
  obtain ⟨ρ, S⟩ := m
  unfold bStair at e
  simp only at e
  split at e
  · rename_i p n ds
    split at e
    · rename_i os hos
      split at e
      · rename_i hz
        rw [Bool.and_eq_true, Bool.and_eq_true] at hz
        obtain ⟨⟨z1, z2⟩, z3⟩ := hz
        have z3 := of_decide_eq_true z3
        split at e
        · rename_i y hy
          cases e
          have hds := intsD_eq hos
          subst hds
          obtain ⟨N, rfl⟩ : ∃ N : Nat, n.toNat = N := ⟨_, rfl⟩
          have hzo : sizeOk os.length = true := by rw [z3]; exact z2
          unfold tStair tSeq tAsg tLc
          refine ⟨B, Λ, F, ι, _, _, _, r, range1_run (i := 1) rfl z1, fun J H1 F1 ι1 r1 g1 p1 gv Dl hD => ?_⟩
          rw [rangeD_zero] at gv
          refine lists_run (Q := fun v H' => gName 3 v σ H' (tRest g pk D)) (io := 4) (row := List.replicate n.toNat (.int 0)) r1 gv (by rw [List.length_map, List.length_map, List.length_range]; exact z2) (by show 4 < 8; decide) (fun d => ?_) (fun a H2 F2 ι2 P bs k g2 p2 hg => ?_) Dl hD
          · show nRep _ _ _ = _
            unfold nRep
            rw [bind_eq (f := eArgs [eC (.int 0)]) (a := [.t (.int 0)]) (m1 := ⟨_, S⟩) rfl, bind_eq (f := asDs [.t (.int 0)]) (a := [.int 0]) (m1 := ⟨_, S⟩) rfl, bind_eq (ev_t (i := 1) (d := .int n) rfl), bind_eq (rd_eq rfl), bind_eq (opt_eq (o := intD (.int n)) rfl)]
            rw [if_pos (by rw [z1]; show (true && sizeOk (1 * n.toNat) && sizeOk 1) = true; rw [Nat.one_mul, z2]; rfl), repD_one]
            rfl
          · rw [List.length_map, List.length_map, List.length_range] at hg
            have rr := (k.rel.dim (i := 3) (v := .ref a))
            have hlen : 3 < σ.length := by obtain ⟨U, l, w⟩ := r.ex; rw [← w.ln]; show 3 < 8; decide
            have hs3 : (σ.set 3 (some (.ref a)))[3]? = some (some (V.ref a)) := List.getElem?_set_self hlen
            show tRest g pk D (σ.set 3 (some (.ref a))) H2
            show tFor (sI g (iRange1 (eArgs [eN 1]))) (sG g [5] (tgN 5)) (tSeq (tStore g (ePick pk [0, 1, 1]) eOat eOat) (tFor (sI g (iSeq (eCut (eN 2) (some (eOp dAdd (eN 5) (eC (.int 1)))) none))) (sG g [6] (tgN 6)) (tStore g (ePick pk [0, 0, 1, 1, 3]) eOat (eN 6)))) { D with nx := sS g sTabs D } (σ.set 3 (some (.ref a))) H2
            have st0 : StI g B Λ F2 ι2 p n (os.map .int) a none (σ.set 3 (some (.ref a))) H2 (zeros n.toNat) S := ⟨⟨F2, ι2, P, bs, .un, .un, k.on rr, Gr.refl _, List.prefix_refl _, hg, fun l w => by cases w⟩, hs3⟩
            have k0 := k.on rr
            refine ⟨B.pins P, Λ, F2, ι2, _, _, _, k0.rel, range1_run (i := 1) rfl z1, fun J3 H3 F3 ι3 r3 g3 p3 gv3 => ?_⟩
            rw [rangeD_zero] at gv3
            refine for_int gv3 (D := { D with nx := sS g sTabs D }) (fun j σ' H' => ∃ grid' S', StI g B Λ F3 ι2 p n (os.map .int) a none σ' H' grid' S' ∧ stairOut pk p os ((List.range n.toNat).drop j) grid' S' = some y ∧ grid'.length = n.toNat) (fun j σ' H' ⟨_, _, z, _⟩ => z.base) ?_ ?_ ?_
            · exact ⟨_, S, ⟨⟨F3, ι3, P, bs, .un, .un, k0.on r3, Gr.refl _, p3, hg.gr g3, fun l w => by cases w⟩, hs3⟩, hy, List.length_replicate ..⟩
            · rintro j i σ' H' hi ⟨grid', S', z, e', gl⟩
              obtain ⟨F4, ι4, P4, bs4, l54, l64, k4, g4, p4, hg4, _⟩ := z.ex
              rw [List.getElem?_map] at hi
              obtain ⟨j', hj, rfl⟩ := Option.map_eq_some_iff.mp hi
              obtain ⟨hlt, hj'⟩ := List.getElem?_eq_some_iff.mp hj
              rw [List.getElem_range] at hj'
              subst hj'
              have hjn : j < n.toNat := by rw [List.length_range] at hlt; exact hlt
              rw [List.drop_eq_getElem_cons hlt, List.getElem_range] at e'
              unfold stairOut at e'
              obtain ⟨rr1, e1, e'⟩ := Option.bind_eq_some_iff.mp e'
              obtain ⟨d, e2, e'⟩ := Option.bind_eq_some_iff.mp e'
              obtain ⟨gr2, e3, e'⟩ := Option.bind_eq_some_iff.mp e'
              obtain ⟨y2, e4, e'⟩ := Option.bind_eq_some_iff.mp e'
              refine ⟨B.pins P4, Λ, F4, ι4, _, .t (.int (j : Int)), ⟨stR p n (os.map .int) (.t (.int (j : Int))) l64, S'⟩, k4.rel, .int _, rfl, fun σ2 H5 F5 ι5 r5 g5 p5 ag => ?_⟩
              have hs5 : σ2[3]? = some (some (.ref a)) := by rw [ag.2 3 (by decide)]; exact z.sl
              show tStore g _ _ _ _ σ2 H5
              refine store_run (k4.on r5) (hg4.gr g5) hs5 (m1 := ⟨stR p n (os.map .int) (.t (.int (j : Int))) l64, d.2⟩) (pick_run rfl (by decide) e2) (oat_run rfl rfl e1) (oat_run rfl rfl e1) e3 fun H6 F6 ι6 P6 k6 g6 p6 hg6 => ?_
              refine inner_run (k := j) (F0 := F3) (ι0 := ι2) hzo e1 ⟨⟨F6, ι6, P6, bs4, _, l64, k6, (g4.trans g5).trans g6, (p4.trans p5).trans p6, hg6, fun l w => by cases w; rfl⟩, hs5⟩ e4 fun σ7 H7 z7 => ⟨_, _, z7, e', ?_⟩
              have l1 := gput_len e3
              have : ∀ (ls : List Int) (g0 : List (List MF.D)) (S0 : List MF.D) (y0 : List (List MF.D) × List MF.D), stairIn pk p rr1 ls g0 S0 = some y0 → y0.1.length = g0.length := by
                intro ls
                induction ls with
                | nil => intro g0 S0 y0 h; cases h; rfl
                | cons l ls ih =>
                  intro g0 S0 y0 h
                  unfold stairIn at h
                  obtain ⟨d0, _, h⟩ := Option.bind_eq_some_iff.mp h
                  obtain ⟨g1, h1, h⟩ := Option.bind_eq_some_iff.mp h
                  rw [ih _ _ _ h, gput_len h1]
              rw [this _ _ _ _ e4, l1, gl]
            · rintro σ' H' ⟨grid', S', z, e', gl⟩
              rw [List.length_map, show (List.range n.toNat).drop (List.range n.toNat).length = [] from List.drop_length, ] at e'
              cases e'
              obtain ⟨F4, ι4, P4, bs4, l54, l64, k4, g4, p4, hg4, _⟩ := z.ex
              obtain ⟨F5, g5, r5, v5⟩ := grid_freeze k4 hg4
              have r6 := r5.know (i := 3) (by show 3 < 8; decide) z.sl v5
              refine ⟨B, Λ, F5, ι4, _, _, _, r6, stair_tabs rfl (by show 7 < 8; decide) (by rw [gl]; exact z2), fun σ8 H8 F8 ι8 r8 g8 p8 => ?_⟩
              have r9 : Rel g B Λ σ8 H8 F8 ι8 ⟨[.s p, .t (.int n), .t (.lst (os.map .int)), .un, .un, .un, .un, .un], S'⟩ := r8.forget rfl fun i l hl => ?_
              · exact q σ8 H8 F8 ι8 r9 (((((g1.trans g2).trans g3).trans g4).trans g5).trans g8) (((p1.trans p2).trans p4).trans p8)
              · match i, hl with
                | 0, hl => exact .inr hl
                | 1, hl => exact .inr hl
                | 2, hl => exact .inr hl
                | 3, hl => cases hl; exact .inl rfl
                | 4, hl => cases hl; exact .inl rfl
                | 5, hl => cases hl; exact .inl rfl
                | 6, hl => cases hl; exact .inl rfl
                | 7, hl => cases hl; exact .inl rfl
                | i + 8, hl => cases hl
        · cases e
      · cases e
    · cases e
  · cases e
end
end MF
set_option Elab.async false
set_option linter.all false
set_option maxRecDepth 100000
set_option maxHeartbeats 4000000
namespace MF
open PySem L2
/-! # operators on plain values -/
theorem plain_int (i : Int) : plain (.int i) = true := rfl
theorem plain_bl (i : Bool) : plain (.bl i) = true := rfl
theorem eqv_int (i j : Int) : PyData.eqv (.int i) (.int j) = decide (i = j) := by
  unfold PyData.eqv
  first | rfl | simp
theorem eqv_str (i j : Str) : PyData.eqv (.str i) (.str j) = decide (i = j) := by
  unfold PyData.eqv
  first | rfl | simp
theorem eqv_bl (i j : Bool) : PyData.eqv (.bool i) (.bool j) = decide (i = j) := by
  unfold PyData.eqv
  first | rfl | (simp; done) | (cases i <;> cases j <;> simp)
theorem deq_int (i j : Int) : deq (.int i) (.int j) = decide (i = j) := eqv_int i j
theorem deq_str (i j : Str) : deq (.str i) (.str j) = decide (i = j) := eqv_str i j
theorem deq_bl (i j : Bool) : deq (.bl i) (.bl j) = decide (i = j) := eqv_bl i j
theorem dEq_int (i j : Int) : dEq (.int i) (.int j) = some (.bl (decide (i = j))) := by
  unfold dEq dEqB
  simp only [plain_int, Bool.and_self, if_true, deq_int, Option.map]
theorem dNe_int (i j : Int) : dNe (.int i) (.int j) = some (.bl (!decide (i = j))) := by
  unfold dNe dEqB
  simp only [plain_int, Bool.and_self, if_true, deq_int, Option.map]
theorem dEq_str (i j : Str) : dEq (.str i) (.str j) = some (.bl (decide (i = j))) := rfl
theorem dNe_str (i j : Str) : dNe (.str i) (.str j) = some (.bl (!decide (i = j))) := rfl
theorem dAdd_int (i j : Int) : dAdd (.int i) (.int j) = some (.int (i + j)) := rfl
theorem dSub_int (i j : Int) : dSub (.int i) (.int j) = some (.int (i - j)) := rfl
theorem dLt_int (i j : Int) : dLt (.int i) (.int j) = some (.bl (decide (i < j))) := rfl
theorem dLe_int (i j : Int) : dLe (.int i) (.int j) = some (.bl (decide (i ≤ j))) := rfl
theorem dGt_int (i j : Int) : dGt (.int i) (.int j) = some (.bl (decide (j < i))) := rfl
theorem dGe_int (i j : Int) : dGe (.int i) (.int j) = some (.bl (decide (j ≤ i))) := rfl
theorem dMul_int {i j : Int} (h : mulOk i j = true) : dMul (.int i) (.int j) = some (.int (i * j)) := if_pos h
theorem dMod_int {i j : Int} (h : modOk i j = true) : dMod (.int i) (.int j) = some (.int (i % j)) := if_pos h
theorem dFdiv_int {i j : Int} (h : divOk i j = true) : dFdiv (.int i) (.int j) = some (.int (i / j)) := if_pos h
theorem dPow_int {i j : Int} (h : powOk i j = true) : dPow (.int i) (.int j) = some (.int (i ^ j.toNat)) := if_pos h
theorem dInt_int (i : Int) : dInt (.int i) = some (.int i) := rfl
theorem dInt_bl (b : Bool) : dInt (.bl b) = some (.int (if b then 1 else 0)) := rfl
theorem dLen_lst (xs : List D) : dLen (.lst xs) = some (.int xs.length) := rfl
theorem dLen_tup (xs : List D) : dLen (.tup xs) = some (.int xs.length) := rfl
theorem dIdx_lst (xs : List D) (i : Int) : dIdx (.lst xs) (.int i) = atI xs i := rfl
theorem dIdx_tup (xs : List D) (i : Int) : dIdx (.tup xs) (.int i) = atI xs i := rfl
theorem one_eq (f : D → Option D) (d : D) : one f [d] = f d := rfl
theorem two_eq (f : D → D → Option D) (d e : D) : two f [d, e] = f d e := rfl
theorem log2_lt {i : Int} {k : Nat} (h : i.natAbs < 2 ^ (k + 1)) : i.natAbs.log2 ≤ k := by
  by_cases z : i.natAbs = 0
  · rw [z]; simp
  · have := (Nat.log2_lt z).mpr h
    omega
theorem mulOk_of {i j : Int} {a b : Nat} (hi : i.natAbs < 2 ^ (a + 1)) (hj : j.natAbs < 2 ^ (b + 1)) (h : a + b < 1000000) : mulOk i j = true := by
  unfold mulOk
  have := log2_lt hi
  have := log2_lt hj
  exact decide_eq_true (by omega)

/-! # the pen -/
structure Pn where
  cs : List Int
  a : Int
  d : Int
  n : Int
  f : Int
def Pn.D (p : Pn) : MF.D := .dk [(.inr ("cells" : Str), .lst (p.cs.map .int)), (.inr ("at" : Str), .int p.a), (.inr ("digits" : Str), .int p.d), (.inr ("count" : Str), .int p.n), (.inr ("fold" : Str), .int p.f)]
section
variable (p : Pn) (x : Int)
theorem pg_cells : dIdx p.D (.str ("cells" : Str)) = some (.lst (p.cs.map .int)) := by kernel_rfl
theorem pg_at : dIdx p.D (.str ("at" : Str)) = some (.int p.a) := by kernel_rfl
theorem pg_digits : dIdx p.D (.str ("digits" : Str)) = some (.int p.d) := by kernel_rfl
theorem pg_count : dIdx p.D (.str ("count" : Str)) = some (.int p.n) := by kernel_rfl
theorem pg_fold : dIdx p.D (.str ("fold" : Str)) = some (.int p.f) := by kernel_rfl
theorem pp_at : dPut p.D (.str ("at" : Str)) (.int x) = some ({ p with a := x } : Pn).D := by kernel_rfl
theorem pp_digits : dPut p.D (.str ("digits" : Str)) (.int x) = some ({ p with d := x } : Pn).D := by kernel_rfl
theorem pp_count : dPut p.D (.str ("count" : Str)) (.int x) = some ({ p with n := x } : Pn).D := by kernel_rfl
theorem pp_fold : dPut p.D (.str ("fold" : Str)) (.int x) = some ({ p with f := x } : Pn).D := by kernel_rfl
end
/-- a pen from which b things can still be drawn -/
structure Pn.Ok (b : Nat) (p : Pn) : Prop where
  a0 : 0 ≤ p.a
  d0 : 0 ≤ p.d
  n0 : 0 ≤ p.n
  nb : p.n + b ≤ 1099511627776
  f0 : 0 ≤ p.f
  fb : p.f < 4294967296
theorem Pn.Ok.mono {a b : Nat} {p : Pn} (h : p.Ok b) (k : a ≤ b) : p.Ok a := ⟨h.a0, h.d0, h.n0, by have := h.nb; omega, h.f0, h.fb⟩
end MF
namespace MF
open PySem L2
theorem seq_nx {a b : E Ctl} {m m1 : M} (h : a m = .ok .nx m1) : sSeq a b m = b m1 := by unfold sSeq; rw [bind_eq h]
theorem seq_rt {a b : E Ctl} {m m1 : M} {x : Arg} (h : a m = .ok (.rt x) m1) : sSeq a b m = .ok (.rt x) m1 := by unfold sSeq; rw [bind_eq h]; rfl
theorem seq_bk {a b : E Ctl} {m m1 : M} (h : a m = .ok .bk m1) : sSeq a b m = .ok .bk m1 := by unfold sSeq; rw [bind_eq h]; rfl
theorem if_t {c : E Bool} {a b : E Ctl} {m m1 : M} (h : c m = .ok true m1) : sIf c a b m = a m1 := by unfold sIf; rw [bind_eq h]; rfl
theorem if_f {c : E Bool} {a b : E Ctl} {m m1 : M} (h : c m = .ok false m1) : sIf c a b m = b m1 := by unfold sIf; rw [bind_eq h]; rfl
theorem asg_n {f : E Val} {i : Nat} {m m1 : M} {d : D} (h : f m = .ok (.t d) m1) (hi : i < m1.ρ.length) : sAsg f (tgN i) m = .ok .nx ⟨m1.ρ.set i (.t d), m1.S⟩ := by
  unfold sAsg
  rw [bind_eq h, bind_eq (f := arg (.t d)) (a := .t d) (m1 := m1) rfl, bind_eq (a := ()) (m1 := ⟨m1.ρ.set i (.t d), m1.S⟩) (by unfold tgN; rw [if_pos hi]; rfl)]
  rfl
/-- a call -/
theorem ev_fn {fn : Fn} {as : E (List Val)} {m m1 : M} {xs : List Val} {bs : List Arg} {m2 : M} {d : D} {S' : List D} (h1 : as m = .ok xs m1) (h2 : args xs m1 = .ok bs m2) (h3 : fn bs m2.S = some (.t d, S')) : eFn fn as m = .ok (.t d) ⟨m2.ρ, S'⟩ := by
  unfold eFn
  rw [bind_eq h1, bind_eq h2]
  simp only [h3]
theorem mkFn_rt {np nl : Nat} {body : E Ctl} {as : List Arg} {S : List D} {m' : M} {d : D} (hn : as.length = np) (h : body ⟨as.map Arg.loc ++ List.replicate nl .un, S⟩ = .ok (.rt (.t d)) m') : mkFn np nl body as S = some (.t d, m'.S.take S.length) := by
  unfold mkFn
  rw [if_pos hn]
  simp only [h, fin]
theorem mkFn_s {np nl : Nat} {body : E Ctl} {as : List Arg} {S : List D} {m' : M} {d : D} (hn : as.length = np) (h : body ⟨as.map Arg.loc ++ List.replicate nl .un, S⟩ = .ok (.rt (.s S.length)) m') (hS : m'.S = S ++ [d]) : mkFn np nl body as S = some (.s S.length, S ++ [d]) := by
  unfold mkFn
  rw [if_pos hn]
  simp only [h, fin, Nat.lt_irrefl, if_false, hS, List.getElem?_append_right (Nat.le_refl _), Nat.sub_self, List.getElem?_cons_zero, List.take_left']
theorem mkFn_nx {np nl : Nat} {body : E Ctl} {as : List Arg} {S : List D} {m' : M} (hn : as.length = np) (h : body ⟨as.map Arg.loc ++ List.replicate nl .un, S⟩ = .ok .nx m') : mkFn np nl body as S = some (.t .non, m'.S.take S.length) := by
  unfold mkFn
  rw [if_pos hn]
  simp only [h, fin]
theorem rng_nat {n : Nat} (h : n ≤ 1000000) : rngOk (n : Int) = true := decide_eq_true ⟨by omega, by omega⟩
theorem range_ev {f : E Val} {m m1 : M} {n : Nat} (h : f m = .ok (.t (.int (n : Int))) m1) (hn : n ≤ 1000000) : iRange1 (eArgs [f]) m = .ok (rangeD 0 n) m1 := by
  have h1 : eArgs [f] m = .ok [.t (.int (n : Int))] m1 := by show E.bind f _ m = _; rw [bind_eq h]; rfl
  have h2 : rangeOf1 [.int (n : Int)] = some (rangeD 0 n) := by
    unfold rangeOf1
    simp only [rng_nat hn, Int.toNat_natCast, if_true]
  unfold iRange1
  have h3 : rds [Val.t (.int (n : Int))] m1 = .ok [.int (n : Int)] m1 := rfl
  rw [bind_eq h1, bind_eq h3]
  exact opt_eq h2
theorem range_ev2 {f1 f2 : E Val} {m m1 m2 : M} {k n : Nat} (h : f1 m = .ok (.t (.int (k : Int))) m1) (h' : f2 m1 = .ok (.t (.int (n : Int))) m2) (hk : k ≤ 1000000) (hn : n ≤ 1000000) : iRange2 (eArgs [f1, f2]) m = .ok (rangeD k (n - k)) m2 := by
  have h1 : eArgs [f1, f2] m = .ok [.t (.int (k : Int)), .t (.int (n : Int))] m2 := by show E.bind f1 _ m = _; rw [bind_eq h]; show E.bind (E.bind f2 _) _ m1 = _; rw [bind_eq (f := E.bind f2 _) (a := [.t (.int (n : Int))]) (m1 := m2) (by rw [bind_eq h']; rfl)]; rfl
  have h2 : rangeOf2 [.int (k : Int), .int (n : Int)] = some (rangeD k (n - k)) := by
    unfold rangeOf2
    simp only [rng_nat hn, rng_nat hk, Bool.and_self, if_true]
    rw [show ((n : Int) - (k : Int)).toNat = n - k from by omega]
  unfold iRange2
  have h3 : rds [Val.t (.int (k : Int)), Val.t (.int (n : Int))] m2 = .ok [.int (k : Int), .int (n : Int)] m2 := rfl
  rw [bind_eq h1, bind_eq h3]
  exact opt_eq h2
/-! # loops by an invariant -/
theorem for_ok {tg : Arg → E Unit} {body : E Ctl} (I : List D → M → Prop) : ∀ (items : List D) (m : M), I items m → (∀ d ds m, I (d :: ds) m → ∃ m1, (tg (.t d)).bind (fun _ => body) m = .ok .nx m1 ∧ I ds m1) → ∃ m', forLoop tg body items m = .ok .nx m' ∧ I [] m'
  | [], m, h, _ => ⟨m, rfl, h⟩
  | d :: ds, m, h, step => by
    obtain ⟨m1, e1, h1⟩ := step d ds m h
    obtain ⟨m', e2, h2⟩ := for_ok I ds m1 h1 step
    refine ⟨m', ?_, h2⟩
    show E.bind (tg (.t d)) _ m = _
    unfold E.bind at e1 ⊢
    cases et : tg (.t d) m with
    | no => rw [et] at e1; cases e1
    | ok u m2 =>
      rw [et] at e1
      simp only at e1 ⊢
      rw [e1]
      exact e2
theorem sFor_ok {src : E (List D)} {tg : Arg → E Unit} {body : E Ctl} {items : List D} {m m1 : M} (hs : src m = .ok items m1) (I : List D → M → Prop) (h0 : I items m1) (step : ∀ d ds m, I (d :: ds) m → ∃ m1, (tg (.t d)).bind (fun _ => body) m = .ok .nx m1 ∧ I ds m1) : ∃ m', sFor src tg body m = .ok .nx m' ∧ I [] m' := by
  unfold sFor
  rw [bind_eq hs]
  exact for_ok I items m1 h0 step
theorem tg_set {i : Nat} {d : D} {m : M} {body : E Ctl} (hi : i < m.ρ.length) : (tgN i (.t d)).bind (fun _ => body) m = body ⟨m.ρ.set i (.t d), m.S⟩ := bind_eq (by unfold tgN; rw [if_pos hi]; rfl)
end MF
namespace MF
open PySem L2
theorem for_brk {tg : Arg → E Unit} {body : E Ctl} (I : List D → M → Prop) (Q : M → Prop) (fin : ∀ m, I [] m → Q m) : ∀ (items : List D) (m : M), I items m → (∀ d ds m, I (d :: ds) m → ∃ m1, ((tg (.t d)).bind (fun _ => body) m = .ok .nx m1 ∧ I ds m1) ∨ ((tg (.t d)).bind (fun _ => body) m = .ok .bk m1 ∧ Q m1)) → ∃ m', forLoop tg body items m = .ok .nx m' ∧ Q m'
  | [], m, h, _ => ⟨m, rfl, fin m h⟩
  | d :: ds, m, h, step => by
    have key : ∀ c m1, (tg (.t d)).bind (fun _ => body) m = .ok c m1 → forLoop tg body (d :: ds) m = (match c with
        | .nx => forLoop tg body ds m1
        | .ct => forLoop tg body ds m1
        | .bk => .ok .nx m1
        | .rt a => .ok (.rt a) m1) := fun c m1 e => by
      show E.bind (tg (.t d)) _ m = _
      unfold E.bind at e ⊢
      cases et : tg (.t d) m with
      | no => rw [et] at e; cases e
      | ok u m2 =>
        rw [et] at e
        simp only at e ⊢
        rw [e]
        cases c <;> rfl
    obtain ⟨m1, ⟨e1, h1⟩ | ⟨e1, h1⟩⟩ := step d ds m h
    · obtain ⟨m', e2, h2⟩ := for_brk I Q fin ds m1 h1 step
      exact ⟨m', (key _ _ e1).trans e2, h2⟩
    · exact ⟨m1, key _ _ e1, h1⟩
theorem sFor_brk {src : E (List D)} {tg : Arg → E Unit} {body : E Ctl} {items : List D} {m m1 : M} (hs : src m = .ok items m1) (I : List D → M → Prop) (Q : M → Prop) (fin : ∀ m, I [] m → Q m) (h0 : I items m1) (step : ∀ d ds m, I (d :: ds) m → ∃ m1, ((tg (.t d)).bind (fun _ => body) m = .ok .nx m1 ∧ I ds m1) ∨ ((tg (.t d)).bind (fun _ => body) m = .ok .bk m1 ∧ Q m1)) : ∃ m', sFor src tg body m = .ok .nx m' ∧ Q m' := by
  unfold sFor
  rw [bind_eq hs]
  exact for_brk I Q fin items m1 h0 step
theorem in_strs (x : Str) (nms : List Str) : dNotIn (.str x) (.lst (nms.map .str)) = some (.bl (!decide (x ∈ nms))) := by
  have h1 : (nms.map D.str).all flatD = true := List.all_eq_true.mpr fun d hd => by obtain ⟨y, _, rfl⟩ := List.mem_map.mp hd; rfl
  have h2 : ((nms.map D.str).any fun y => deq y (.str x)) = decide (x ∈ nms) := by
    rw [List.any_map]
    induction nms with
    | nil => simp
    | cons y ys ih =>
      rw [List.any_cons, ih (List.all_eq_true.mpr fun d hd => by obtain ⟨y, _, rfl⟩ := List.mem_map.mp hd; rfl)]
      show (deq (.str y) (.str x) || decide (x ∈ ys)) = _
      rw [deq_str]
      by_cases e : y = x
      · subst e; simp
      · simp [e, Ne.symm e]
  show (if flatD (.str x) && (nms.map D.str).all flatD then some ((nms.map D.str).any fun y => deq y (.str x)) else _).map _ = _
  rw [if_pos (by rw [h1]; rfl), h2]; rfl
theorem in_tup3 (x a b c : Str) : dNotIn (.str x) (.tup [.str a, .str b, .str c]) = some (.bl (!(decide (a = x) || (decide (b = x) || (decide (c = x) || false))))) := by
  have e : dNotIn (.str x) (.tup [.str a, .str b, .str c]) = some (.bl (!(deq (.str a) (.str x) || (deq (.str b) (.str x) || (deq (.str c) (.str x) || false))))) := rfl
  rw [e, deq_str, deq_str, deq_str]
theorem nodup_le {α : Type} [DecidableEq α] : ∀ {l m : List α}, l.Nodup → (∀ x ∈ l, x ∈ m) → l.length ≤ m.length
  | [], _, _, _ => Nat.zero_le _
  | x :: l, m, h, hs => by
    have hx := hs x List.mem_cons_self
    have nd := List.nodup_cons.mp h
    have : l.length ≤ (m.erase x).length := nodup_le nd.2 fun y hy => (List.mem_erase_of_ne (by intro e; subst e; exact nd.1 hy)).mpr (hs y (List.mem_cons_of_mem _ hy))
    rw [List.length_erase_of_mem hx] at this
    have := List.length_pos_of_mem hx
    rw [List.length_cons]; omega
end MF
namespace MF
open PySem L2
theorem args1 {f : E Val} {m m1 : M} {x : Val} (h : f m = .ok x m1) : eArgs [f] m = .ok [x] m1 := by show E.bind f _ m = _; rw [bind_eq h]; rfl
theorem args2 {f f2 : E Val} {m m1 m2 : M} {x y : Val} (h : f m = .ok x m1) (h2 : f2 m1 = .ok y m2) : eArgs [f, f2] m = .ok [x, y] m2 := by show E.bind f _ m = _; rw [bind_eq h, bind_eq (args1 h2)]; rfl
theorem app_stmt {i : Nat} {f : E Val} {m m1 : M} {xs : List D} {d : D} (h0 : m.ρ[i]? = some (.own (.lst xs))) (hf : f m = .ok (.t d) m1) (h1 : m1.ρ[i]? = some (.own (.lst xs))) (hz : xs.length ≤ 16000000) : sExpr (eMut mAppend (eN i) (eArgs [f])) m = .ok .nx ⟨m1.ρ.set i (.own (.lst (xs ++ [d]))), m1.S⟩ := by
  have e0 : eN i m = .ok (.o i) m := by unfold eN; simp only [h0]
  have r0 : rd (.o i) m = .ok (.lst xs) m := rd_eq (by unfold dat; simp only [h0])
  have r1 : rd (.o i) m1 = .ok (.lst xs) m1 := rd_eq (by unfold dat; simp only [h1])
  have ha : mAppend (.lst xs) [d] = some (.lst (xs ++ [d]), .non) := if_pos (decide_eq_true hz)
  have hp : putD (.o i) (.lst (xs ++ [d])) m1 = .ok () ⟨m1.ρ.set i (.own (.lst (xs ++ [d]))), m1.S⟩ := by unfold putD; simp only [h1]
  have hd : asDs [.t d] m1 = .ok [d] m1 := rfl
  unfold sExpr eMut
  rw [bind_eq (a := .t .non) (m1 := ⟨m1.ρ.set i (.own (.lst (xs ++ [d]))), m1.S⟩)]
  · rfl
  · rw [bind_eq e0, bind_eq r0]
    show (E.bind (eArgs [f]) _) m = _
    rw [bind_eq (args1 hf), bind_eq hd, bind_eq r1, bind_eq (opt_eq ha), bind_eq hp]
    rfl
end MF
namespace MF
open PySem L2
/-- a comprehension over one name, by an invariant of the store -/
theorem lcLoop_rel {i : Nat} {elt : E Val} {ρ : List MF.Loc} (hi : i < ρ.length) (Inv : List D → List D → Prop) (P : D → D → Prop) (step : ∀ d ds S, Inv (d :: ds) S → ∃ y S', elt ⟨ρ.set i (.t d), S⟩ = .ok (.t y) ⟨ρ.set i (.t d), S'⟩ ∧ Inv ds S' ∧ P d y) :
    ∀ (items : List D) (S : List D) (l : MF.Loc), Inv items S → ∃ ys S' l', lcLoop [i] (tgN i) ifsYes elt items ⟨ρ.set i l, S⟩ = .ok ys ⟨ρ.set i l', S'⟩ ∧ Inv [] S' ∧ All2 P items ys
  | [], S, l, h => ⟨[], S, l, rfl, h, .nil⟩
  | d :: ds, S, l, h => by
    obtain ⟨y, S1, e1, h1, p1⟩ := step d ds S h
    obtain ⟨ys, S2, l2, e2, h2, p2⟩ := lcLoop_rel hi Inv P step ds S1 (.t d) h1
    refine ⟨y :: ys, S2, l2, ?_, h2, .cons p1 p2⟩
    have hw : wipeL [i] (ρ.set i l) = ρ.set i .un := by show (ρ.set i l).set i .un = _; rw [List.set_set]
    have ht : lcTurn (tgN i) ifsYes elt d ⟨ρ.set i .un, S⟩ = .ok (some y) ⟨ρ.set i (.t d), S1⟩ := by
      unfold lcTurn
      rw [bind_eq (a := ()) (m1 := ⟨ρ.set i (.t d), S⟩) (by unfold tgN; rw [if_pos (by rw [List.length_set]; exact hi)]; show R.ok () _ = _; rw [List.set_set]; rfl)]
      rw [bind_eq (f := ifsYes) (a := true) (m1 := ⟨ρ.set i (.t d), S⟩) rfl]
      rw [if_pos rfl, bind_eq e1]
      rfl
    show (lcTurn (tgN i) ifsYes elt d).bind _ ⟨wipeL [i] (ρ.set i l), S⟩ = _
    rw [hw, bind_eq ht, bind_eq e2]
    rfl
theorem nLc_rel {i : Nat} {src : E (List D)} {elt : E Val} {ρ : List MF.Loc} {S S1 : List D} {items : List D} (hi : i < ρ.length) (hs : src ⟨ρ, S⟩ = .ok items ⟨ρ, S1⟩) (hz : items.length ≤ 16000000) (Inv : List D → List D → Prop) (P : D → D → Prop) (h0 : Inv items S1) (step : ∀ d ds S, Inv (d :: ds) S → ∃ y S', elt ⟨ρ.set i (.t d), S⟩ = .ok (.t y) ⟨ρ.set i (.t d), S'⟩ ∧ Inv ds S' ∧ P d y) :
    ∃ ys S', nLc [i] src (tgN i) ifsYes elt ⟨ρ, S⟩ = .ok (.lst ys) ⟨ρ.set i (keepL ρ[i]?), S'⟩ ∧ Inv [] S' ∧ All2 P items ys := by
  obtain ⟨ys, S', l', e, h1, h2⟩ := lcLoop_rel hi Inv P step items S1 (ρ[i]'hi) h0
  refine ⟨ys, S', ?_, h1, h2⟩
  rw [List.set_getElem_self] at e
  unfold nLc
  rw [bind_eq hs]
  simp only [e, if_pos (show sizeOk items.length = true from decide_eq_true hz)]
  show R.ok _ ⟨(ρ.set i l').set i (keepL ρ[i]?), S'⟩ = _
  rw [List.set_set]
/-- .. that leaves the store as it is -/
theorem nLc_map {i : Nat} {src : E (List D)} {elt : E Val} {ρ : List MF.Loc} {S S1 : List D} {items : List D} (hi : i < ρ.length) (hs : src ⟨ρ, S⟩ = .ok items ⟨ρ, S1⟩) (hz : items.length ≤ 16000000) (f : D → D) (step : ∀ d ∈ items, elt ⟨ρ.set i (.t d), S1⟩ = .ok (.t (f d)) ⟨ρ.set i (.t d), S1⟩) :
    nLc [i] src (tgN i) ifsYes elt ⟨ρ, S⟩ = .ok (.lst (items.map f)) ⟨ρ.set i (keepL ρ[i]?), S1⟩ := by
  obtain ⟨ys, S', e, h1, h2⟩ := nLc_rel hi hs hz (fun ds S => S = S1 ∧ ∀ d ∈ ds, d ∈ items) (fun d y => y = f d) ⟨rfl, fun d h => h⟩ fun d ds S ⟨h1, h2⟩ => ⟨f d, S, by subst h1; exact step d (h2 d List.mem_cons_self), ⟨h1, fun x hx => h2 x (List.mem_cons_of_mem _ hx)⟩, rfl⟩
  obtain ⟨h1, _⟩ := h1
  subst h1
  have : ys = items.map f := by
    have : ∀ {xs ys : List D}, All2 (fun d y => y = f d) xs ys → ys = xs.map f := by
      intro xs ys h
      induction h with
      | nil => rfl
      | cons a t ih => rw [List.map_cons, a, ih]
    exact this h2
  rw [← this]; exact e
theorem pop_ev {i : Nat} {f : E Val} {m m1 : M} {xs : List D} {j : Nat} {y : D} (h0 : m.ρ[i]? = some (.own (.lst xs))) (hf : f m = .ok (.t (.int (j : Int))) m1) (h1 : m1.ρ[i]? = some (.own (.lst xs))) (hy : xs[j]? = some y) (hz : j ≤ 1000000) : eMut mPopAt (eN i) (eArgs [f]) m = .ok (.t y) ⟨m1.ρ.set i (.own (.lst (xs.eraseIdx j))), m1.S⟩ := by
  have e0 : eN i m = .ok (.o i) m := by unfold eN; simp only [h0]
  have r0 : rd (.o i) m = .ok (.lst xs) m := rd_eq (by unfold dat; simp only [h0])
  have r1 : rd (.o i) m1 = .ok (.lst xs) m1 := rd_eq (by unfold dat; simp only [h1])
  have ha : mPopAt (.lst xs) [.int (j : Int)] = some (.lst (xs.eraseIdx j), y) := by
    unfold mPopAt
    simp only [ixN_nat (List.getElem?_eq_some_iff.mp hy).1, Option.bind_some, rng_nat hz, if_true, hy, Option.map_some]
  have hp : putD (.o i) (.lst (xs.eraseIdx j)) m1 = .ok () ⟨m1.ρ.set i (.own (.lst (xs.eraseIdx j))), m1.S⟩ := by unfold putD; simp only [h1]
  have hd : asDs [.t (.int (j : Int))] m1 = .ok [.int (j : Int)] m1 := rfl
  unfold eMut
  rw [bind_eq e0, bind_eq r0]
  show (E.bind (eArgs [f]) _) m = _
  rw [bind_eq (args1 hf), bind_eq hd, bind_eq r1, bind_eq (opt_eq ha), bind_eq hp]
  rfl
end MF
namespace MF
theorem erase_map {α β : Type} (f : α → β) : ∀ (l : List α) (i : Nat), (l.map f).eraseIdx i = (l.eraseIdx i).map f
  | [], _ => rfl
  | _ :: _, 0 => rfl
  | x :: l, i + 1 => by show f x :: (l.map f).eraseIdx i = _; rw [erase_map f l i]; rfl
theorem erase_perm {α : Type} : ∀ (l : List α) (i : Nat) (h : i < l.length), (l[i] :: l.eraseIdx i).Perm l
  | [], _, h => by cases h
  | _ :: _, 0, _ => List.Perm.refl _
  | x :: l, i + 1, h => by
    show (l[i]'(by simpa using h) :: x :: l.eraseIdx i).Perm (x :: l)
    exact (List.Perm.swap x _ _).trans ((erase_perm l i (by simpa using h)).cons x)
end MF
namespace MF
open PySem L2
theorem cut_take_ev {f g : E Val} {m : M} {xs : List D} {k : Nat} (hf : f m = .ok (.t (.tup xs)) m) (hg : g m = .ok (.t (.int (k : Int))) m) : eCut f none (some g) m = .ok (.t (.tup (xs.take k))) m := by
  have h1 : ePart (some g) m = .ok (some (k : Int)) m := by
    simp only [ePart]
    rw [bind_eq hg, bind_eq (rd_eq rfl), bind_eq (opt_eq (o := intD (.int (k : Int))) rfl)]
    rfl
  have h2 : dCut (.tup xs) none (some (k : Int)) = some (.tup (xs.take k)) := by
    show some (D.tup (cutD xs none (some (k : Int)))) = _
    rw [cut_take]
  unfold eCut
  rw [bind_eq hf, bind_eq (f := ePart none) (a := none) (m1 := m) rfl, bind_eq h1, bind_eq (rd_eq rfl), bind_eq (opt_eq h2)]
  rfl
theorem cut_drop_ev {f g : E Val} {m : M} {xs : List D} {k : Nat} (hf : f m = .ok (.t (.tup xs)) m) (hg : g m = .ok (.t (.int (k : Int))) m) : eCut f (some g) none m = .ok (.t (.tup (xs.drop k))) m := by
  have h1 : ePart (some g) m = .ok (some (k : Int)) m := by
    simp only [ePart]
    rw [bind_eq hg, bind_eq (rd_eq rfl), bind_eq (opt_eq (o := intD (.int (k : Int))) rfl)]
    rfl
  have h2 : dCut (.tup xs) (some (k : Int)) none = some (.tup (xs.drop k)) := by
    show some (D.tup (cutD xs (some (k : Int)) none)) = _
    rw [cut_drop]
  unfold eCut
  rw [bind_eq hf, bind_eq h1, bind_eq (f := ePart none) (a := none) (m1 := m) rfl, bind_eq (rd_eq rfl), bind_eq (opt_eq h2)]
  rfl
theorem tup_add {xs ys : List D} (h : xs.length + ys.length ≤ 16000000) : dAdd (.tup xs) (.tup ys) = some (.tup (xs ++ ys)) := if_pos (decide_eq_true h)
theorem in_ints2 (x a b : Int) : dIn (.int x) (.tup [.int a, .int b]) = some (.bl (decide (a = x) || (decide (b = x) || false))) := by
  have e : dIn (.int x) (.tup [.int a, .int b]) = some (.bl (deq (.int a) (.int x) || (deq (.int b) (.int x) || false))) := rfl
  rw [e, deq_int, deq_int]
theorem idx_nat {xs : List D} {k : Nat} {d : D} (h : xs[k]? = some d) : dIdx (.lst xs) (.int (k : Int)) = some d := by rw [dIdx_lst, MF.atI_nat, h]
theorem idx_tup {xs : List D} {k : Nat} {d : D} (h : xs[k]? = some d) : dIdx (.tup xs) (.int (k : Int)) = some d := by rw [dIdx_tup, MF.atI_nat, h]
theorem put_nat {xs : List D} {k : Nat} {d : D} (h : k < xs.length) : dPut (.lst xs) (.int (k : Int)) d = some (.lst (xs.set k d)) := by
  show ((intD (.int (k : Int))).bind fun i => (ixN xs.length i).map fun j => D.lst (xs.set j d)) = _
  show ((ixN xs.length (k : Int)).map fun j => D.lst (xs.set j d)) = _
  rw [ixN_nat h]; rfl
theorem nRange1_ev {f : E Val} {m : M} {n : Nat} (h : f m = .ok (.t (.int (n : Int))) m) (hn : n ≤ 1000000) : nRange1 f m = .ok (.lst (rangeD 0 n)) m := by
  have hr : rngOk (n : Int) = true := rng_nat hn
  have hs : sizeOk n = true := decide_eq_true (by omega)
  unfold nRange1
  rw [bind_eq h, bind_eq (rd_eq rfl), bind_eq (opt_eq (o := intD (.int (n : Int))) rfl), if_pos (by rw [hr, Int.toNat_natCast, hs]; rfl), Int.toNat_natCast]
  rfl
/-- a parallel store of two, of three values -/
theorem par2_ev {f1 f2 : E Val} {i j : Nat} {m m1 m2 : M} {d1 d2 : D} (h1 : f1 m = .ok (.t d1) m1) (h2 : f2 m1 = .ok (.t d2) m2) (hj : j < m2.ρ.length) (hi : i < m2.ρ.length) : sPar [(i, kV' f1), (j, kV' f2)] m = .ok .nx ⟨(m2.ρ.set j (.t d2)).set i (.t d1), m2.S⟩ := by
  have k1 : kV' f1 m = .ok (.a (.t d1)) m1 := by unfold kV'; rw [bind_eq h1]; rfl
  have k2 : kV' f2 m1 = .ok (.a (.t d2)) m2 := by unfold kV'; rw [bind_eq h2]; rfl
  have e2 : setI j (.a (.t d2)) m2 = .ok () ⟨m2.ρ.set j (.t d2), m2.S⟩ := by unfold setI; rw [if_pos hj]; rfl
  have e1 : setI i (.a (.t d1)) ⟨m2.ρ.set j (.t d2), m2.S⟩ = .ok () ⟨(m2.ρ.set j (.t d2)).set i (.t d1), m2.S⟩ := by unfold setI; rw [if_pos (by rw [List.length_set]; exact hi)]; rfl
  have q : parE [(j, kV' f2)] m1 = .ok () ⟨m2.ρ.set j (.t d2), m2.S⟩ := by
    unfold parE
    rw [bind_eq k2]
    show E.bind (parE []) _ m2 = _
    rw [bind_eq (f := parE []) (a := ()) (m1 := m2) rfl]
    exact e2
  unfold sPar
  rw [bind_eq (a := ()) (m1 := ⟨(m2.ρ.set j (.t d2)).set i (.t d1), m2.S⟩)]
  · rfl
  · unfold parE
    rw [bind_eq k1, bind_eq q]
    exact e1
theorem par3_ev {f1 f2 f3 : E Val} {i j l : Nat} {m m1 m2 m3 : M} {d1 d2 d3 : D} (h1 : f1 m = .ok (.t d1) m1) (h2 : f2 m1 = .ok (.t d2) m2) (h3 : f3 m2 = .ok (.t d3) m3) (hi : i < m3.ρ.length) (hj : j < m3.ρ.length) (hl : l < m3.ρ.length) :
    sPar [(i, kV' f1), (j, kV' f2), (l, kV' f3)] m = .ok .nx ⟨((m3.ρ.set l (.t d3)).set j (.t d2)).set i (.t d1), m3.S⟩ := by
  have k1 : kV' f1 m = .ok (.a (.t d1)) m1 := by unfold kV'; rw [bind_eq h1]; rfl
  have k2 : kV' f2 m1 = .ok (.a (.t d2)) m2 := by unfold kV'; rw [bind_eq h2]; rfl
  have k3 : kV' f3 m2 = .ok (.a (.t d3)) m3 := by unfold kV'; rw [bind_eq h3]; rfl
  have e3 : setI l (.a (.t d3)) m3 = .ok () ⟨m3.ρ.set l (.t d3), m3.S⟩ := by unfold setI; rw [if_pos hl]; rfl
  have e2 : setI j (.a (.t d2)) ⟨m3.ρ.set l (.t d3), m3.S⟩ = .ok () ⟨(m3.ρ.set l (.t d3)).set j (.t d2), m3.S⟩ := by unfold setI; rw [if_pos (by rw [List.length_set]; exact hj)]; rfl
  have e1 : setI i (.a (.t d1)) ⟨(m3.ρ.set l (.t d3)).set j (.t d2), m3.S⟩ = .ok () ⟨((m3.ρ.set l (.t d3)).set j (.t d2)).set i (.t d1), m3.S⟩ := by unfold setI; rw [if_pos (by rw [List.length_set, List.length_set]; exact hi)]; rfl
  have q3 : parE [(l, kV' f3)] m2 = .ok () ⟨m3.ρ.set l (.t d3), m3.S⟩ := by
    unfold parE
    rw [bind_eq k3]
    show E.bind (parE []) _ m3 = _
    rw [bind_eq (f := parE []) (a := ()) (m1 := m3) rfl]
    exact e3
  have q2 : parE [(j, kV' f2), (l, kV' f3)] m1 = .ok () ⟨(m3.ρ.set l (.t d3)).set j (.t d2), m3.S⟩ := by
    unfold parE
    rw [bind_eq k2, bind_eq q3]
    exact e2
  unfold sPar
  rw [bind_eq (a := ()) (m1 := ⟨((m3.ρ.set l (.t d3)).set j (.t d2)).set i (.t d1), m3.S⟩)]
  · rfl
  · unfold parE
    rw [bind_eq k1, bind_eq q2]
    exact e1
end MF
namespace MF
open PySem L2
theorem ev_un {f : D → Option D} {a : E Val} {m m1 : M} {x : Val} {d z : D} (ha : a m = .ok x m1) (hd : dat x m1 = some d) (hf : f d = some z) : eUn f a m = .ok (.t z) m1 := by
  unfold eUn
  rw [bind_eq ha, bind_eq (rd_eq hd), bind_eq (opt_eq hf)]; rfl
theorem dat_s {k : Nat} {m : M} : dat (.s k) m = m.S[k]? := rfl
theorem fld_stmt {o v : E Val} {f : Str} {m m1 : M} {k : Nat} {c c' d : D} (hv : v m = .ok (.t d) m1) (ho : o m1 = .ok (.s k) m1) (hc : m1.S[k]? = some c) (hp : dPutF f c d = some c') : sFldSet f o v m = .ok .nx ⟨m1.ρ, m1.S.set k c'⟩ := by
  have hd : asD (.t d) m1 = .ok d m1 := rfl
  have hr : rd (.s k) m1 = .ok c m1 := rd_eq hc
  have hput : putD (.s k) c' m1 = .ok () ⟨m1.ρ, m1.S.set k c'⟩ := by
    show putS k c' m1 = _
    unfold putS
    rw [if_pos (List.getElem?_eq_some_iff.mp hc).1]
  unfold sFldSet
  rw [bind_eq hv, bind_eq hd, bind_eq ho, bind_eq hr, bind_eq (opt_eq hp), bind_eq hput]
  rfl
/-- making, by what __init__ does -/
theorem make_ev {c : Str} {fn : Fn} {as : E (List Val)} {m m1 m2 : M} {xs : List Val} {bs : List MF.Arg} {d : D} (h1 : as m = .ok xs m1) (h2 : args xs m1 = .ok bs m2) (h3 : fn (.s m2.S.length :: bs) (m2.S ++ [.obj c []]) = some (.t .non, m2.S ++ [d])) : eMake c fn as m = .ok (.t d) m2 := by
  have hl3 : (m2.S ++ [d])[m2.S.length]? = some d := by rw [List.getElem?_append_right (Nat.le_refl _), Nat.sub_self]; rfl
  unfold eMake
  rw [bind_eq h1, bind_eq h2]
  simp only [h3, hl3, List.length_append, List.length_singleton, if_true, List.take_left']
theorem last_set (S : List D) (x y : D) : (S ++ [x]).set S.length y = S ++ [y] := by rw [List.set_append_right _ _ (Nat.le_refl _), Nat.sub_self]; rfl
theorem last_get (S : List D) (x : D) : (S ++ [x])[S.length]? = some x := by rw [List.getElem?_append_right (Nat.le_refl _), Nat.sub_self]; rfl
end MF
set_option Elab.async false
set_option linter.all false
set_option maxRecDepth 100000
set_option maxHeartbeats 4000000
namespace MF
open PySem L2
theorem tv_ev {a : E Val} {m m1 : M} {b : Bool} (h : a m = .ok (.t (.bl b)) m1) : tV a m = .ok b m1 := by unfold tV; rw [bind_eq h]; rfl
theorem tnot_ev {a : E Bool} {m m1 : M} {b : Bool} (h : a m = .ok b m1) : tNot' a m = .ok (!b) m1 := by unfold tNot'; rw [bind_eq h]; rfl
theorem tor_t {a b : E Bool} {m m1 : M} (h : a m = .ok true m1) : tOr' a b m = .ok true m1 := by unfold tOr'; rw [bind_eq h]; rfl
theorem tor_f {a b : E Bool} {m m1 : M} (h : a m = .ok false m1) : tOr' a b m = b m1 := by unfold tOr'; rw [bind_eq h]; rfl
theorem tand_t {a b : E Bool} {m m1 : M} (h : a m = .ok true m1) : tAnd' a b m = b m1 := by unfold tAnd'; rw [bind_eq h]; rfl
theorem tand_f {a b : E Bool} {m m1 : M} (h : a m = .ok false m1) : tAnd' a b m = .ok false m1 := by unfold tAnd'; rw [bind_eq h]; rfl
theorem or_t {a b : E Val} {m m1 : M} (h : a m = .ok (.t (.bl true)) m1) : eOr a b m = .ok (.t (.bl true)) m1 := by unfold eOr; rw [bind_eq (tv_ev h)]; rfl
theorem or_f {a b : E Val} {m m1 : M} (h : a m = .ok (.t (.bl false)) m1) : eOr a b m = b m1 := by unfold eOr; rw [bind_eq (tv_ev h)]; rfl
theorem and_t {a b : E Val} {m m1 : M} (h : a m = .ok (.t (.bl true)) m1) : eAnd a b m = b m1 := by unfold eAnd; rw [bind_eq (tv_ev h)]; rfl
theorem and_f {a b : E Val} {m m1 : M} (h : a m = .ok (.t (.bl false)) m1) : eAnd a b m = .ok (.t (.bl false)) m1 := by unfold eAnd; rw [bind_eq (tv_ev h)]; rfl
theorem ev_call2 {f : D → D → Option D} {a b : E Val} {m m1 m2 : M} {x y : Val} {d e z : D} (ha : a m = .ok x m1) (hb : b m1 = .ok y m2) (hd : dat x m2 = some d) (he : dat y m2 = some e) (hf : f d e = some z) : eCall (two f) (eArgs [a, b]) m = .ok (.t z) m2 := by
  unfold eCall
  have h2 : rds [x, y] m2 = .ok [d, e] m2 := by
    show E.bind (rd x) _ m2 = _
    rw [bind_eq (rd_eq hd)]
    show E.bind (E.bind (rd y) _) _ m2 = _
    rw [bind_eq (f := E.bind (rd y) _) (a := [e]) (m1 := m2) (by rw [bind_eq (rd_eq he)]; rfl)]
    rfl
  rw [bind_eq (args2 ha hb), bind_eq h2, bind_eq (opt_eq (o := two f [d, e]) hf)]; rfl
theorem chain_ev {f f' : D → D → Option D} {a b c : E Val} {m m1 : M} {d e h : D} {k2 : Bool} (ha : a m = .ok (.t d) m1) (hb : b m1 = .ok (.t e) m1) (hc : c m1 = .ok (.t h) m1) (hf : f d e = some (.bl true)) (hf' : f' e h = some (.bl k2)) : eChain f f' a b c m = .ok (.t (.bl k2)) m1 := by
  unfold eChain
  rw [bind_eq ha, bind_eq hb, bind_eq (rd_eq (x := .t d) (d := d) rfl), bind_eq (rd_eq (x := .t e) (d := e) rfl), bind_eq (opt_eq hf), bind_eq (opt_eq (o := boolOf (.bl true)) (a := true) rfl), if_pos rfl, bind_eq hc, bind_eq (rd_eq (x := .t e) (d := e) rfl), bind_eq (rd_eq (x := .t h) (d := h) rfl), bind_eq (opt_eq hf')]; rfl
theorem chain_f {f f' : D → D → Option D} {a b c : E Val} {m m1 : M} {d e : D} (ha : a m = .ok (.t d) m1) (hb : b m1 = .ok (.t e) m1) (hf : f d e = some (.bl false)) : eChain f f' a b c m = .ok (.t (.bl false)) m1 := by
  unfold eChain
  rw [bind_eq ha, bind_eq hb, bind_eq (rd_eq (x := .t d) (d := d) rfl), bind_eq (rd_eq (x := .t e) (d := e) rfl), bind_eq (opt_eq hf), bind_eq (opt_eq (o := boolOf (.bl false)) (a := false) rfl), if_neg Bool.false_ne_true]; rfl
theorem sign_in (c : Nat) (z : Str) : dIn (.str ⟨#[c]⟩) (.str z) = some (.bl (decide (c ∈ z.cps.toList))) := rfl
theorem sign_notIn (c : Nat) (z : Str) : dNotIn (.str ⟨#[c]⟩) (.str z) = some (.bl (!decide (c ∈ z.cps.toList))) := rfl
theorem in_ktup3 (x a b c : Str) : dIn (.str x) (.ktup [.str a, .str b, .str c]) = some (.bl (decide (a = x) || (decide (b = x) || (decide (c = x) || false)))) := by
  have e : dIn (.str x) (.ktup [.str a, .str b, .str c]) = some (.bl (deq (.str a) (.str x) || (deq (.str b) (.str x) || (deq (.str c) (.str x) || false)))) := rfl
  rw [e, deq_str, deq_str, deq_str]
theorem cut_take_lst {i j : Nat} {m : M} {xs : List D} {k : Nat} (h1 : eN i m = .ok (.t (.lst xs)) m) (h2 : eN j m = .ok (.t (.int (k : Int))) m) (hz : xs.length ≤ 16000000) : eCut (eN i) none (some (eN j)) m = .ok (.t (.lst (xs.take k))) m := by
  have hc : dCut (.lst xs) none (some (k : Int)) = some (.lst (xs.take k)) := by
    show (if MF.sizeOk xs.length then some (D.lst (cutD xs none (some (k : Int)))) else none) = _
    rw [if_pos (show MF.sizeOk xs.length = true from decide_eq_true hz), cut_take]
  have h5 : ePart (some (eN j)) m = .ok (some (k : Int)) m := by
    simp only [ePart]
    rw [bind_eq h2]
    rfl
  unfold eCut
  rw [bind_eq h1, bind_eq (f := ePart none) (a := none) (m1 := m) rfl, bind_eq h5, bind_eq (rd_eq rfl), bind_eq (opt_eq hc)]
  rfl
theorem ev_tup2 {a b : E Val} {m m1 m2 : M} {d e : D} (ha : a m = .ok (.t d) m1) (hb : b m1 = .ok (.t e) m2) : eTup (eArgs [a, b]) m = .ok (.t (.tup [d, e])) m2 := by
  unfold eTup
  rw [bind_eq (args2 ha hb), bind_eq (f := asDs [.t d, .t e]) (a := [d, e]) (m1 := m2) rfl]
  rfl
end MF
set_option Elab.async false
set_option linter.all false
set_option maxRecDepth 100000
set_option maxHeartbeats 4000000
namespace MF
open PySem L2
/-! # weakest preconditions, continuations by name -/
@[irreducible] def Wp {α : Type} (e : E α) (m : M) (Q : α → M → Prop) : Prop := match e m with
  | .ok a m' => Q a m'
  | .no => False
theorem wp_congr {α : Type} {e : E α} {m m' : M} {Q : α → M → Prop} (h : m = m') : Wp e m Q = Wp e m' Q := by with_unfolding_all (rw [h])
def wOpt {α : Type} (o : Option α) (k : α → Prop) : Prop := match o with
  | some a => k a
  | none => False
theorem wOpt_congr {α : Type} {o o' : Option α} {k : α → Prop} (h : o = o') : wOpt o k = wOpt o' k := by with_unfolding_all (rw [h])
def wIf (b : Bool) (p q : Prop) : Prop := match b with
  | true => p
  | false => q
theorem wIf_congr {b b' : Bool} {p q : Prop} (h : b = b') : wIf b p q = wIf b' p q := by with_unfolding_all (rw [h])
def wG (b : Bool) (p : Prop) : Prop := match b with
  | true => p
  | false => False
theorem wG_congr {b b' : Bool} {p : Prop} (h : b = b') : wG b p = wG b' p := by with_unfolding_all (rw [h])
theorem wp_ok {α : Type} {e : E α} {m m' : M} {a : α} {Q : α → M → Prop} (h : e m = .ok a m') (q : Q a m') : Wp e m Q := by with_unfolding_all (unfold Wp; rw [h]; exact q)
theorem wp_ex {α : Type} {e : E α} {m : M} {Q : α → M → Prop} (h : Wp e m Q) : ∃ a m', e m = .ok a m' ∧ Q a m' := by
  with_unfolding_all
    unfold Wp at h
    split at h
    · rename_i a m' e; exact ⟨a, m', e, h⟩
    · exact h.elim
theorem wp_mono {α : Type} {e : E α} {m : M} {P Q : α → M → Prop} (h : Wp e m P) (k : ∀ a m', P a m' → Q a m') : Wp e m Q := by
  with_unfolding_all
    obtain ⟨a, m', e, h⟩ := wp_ex h
    exact wp_ok e (k a m' h)
theorem wp_bind {α β : Type} {f : E α} {k : α → E β} {m : M} {Q : β → M → Prop} : Wp (f.bind k) m Q = Wp f m fun a m' => Wp (k a) m' Q := by
  with_unfolding_all
    unfold Wp E.bind
    cases f m <;> rfl
theorem wp_ret {α : Type} {a : α} {m : M} {Q : α → M → Prop} : Wp (E.ret a) m Q = Q a m := by with_unfolding_all rfl
theorem wp_opt {α : Type} {o : Option α} {m : M} {Q : α → M → Prop} : Wp (E.opt o) m Q = wOpt o fun a => Q a m := by with_unfolding_all (cases o <;> rfl)
theorem wp_no {α : Type} {m : M} {Q : α → M → Prop} : Wp (no' : E α) m Q = False := by with_unfolding_all rfl

section
variable {α : Type} {m : M} {ρ : List Loc} {S : List D} {i n : Nat} {d e : D} {x y : Val}
/-! names, constants -/
def wN (o : Option Loc) (i : Nat) (Q : Val → M → Prop) (m : M) : Prop := match o with
  | some (.t d) => Q (.t d) m
  | some (.s n) => Q (.s n) m
  | some (.own _) => Q (.o i) m
  | _ => False
theorem wN_congr {o o' : Option Loc} {Q : Val → M → Prop} (h : o = o') : wN o i Q m = wN o' i Q m := by with_unfolding_all (rw [h])
theorem w_eN {Q : Val → M → Prop} : Wp (eN i) m Q = wN m.ρ[i]? i Q m := by
  with_unfolding_all
    unfold Wp eN wN
    cases h : m.ρ[i]? with
    | none => simp only [h]
    | some l => cases l <;> simp only [h]
theorem wN_t {Q : Val → M → Prop} : wN (some (.t d)) i Q m = Q (.t d) m := by with_unfolding_all rfl
theorem wN_s {Q : Val → M → Prop} : wN (some (.s n)) i Q m = Q (.s n) m := by with_unfolding_all rfl
theorem wN_o {Q : Val → M → Prop} : wN (some (.own d)) i Q m = Q (.o i) m := by with_unfolding_all rfl
theorem w_eC {Q : Val → M → Prop} : Wp (eC d) m Q = Q (.t d) m := by with_unfolding_all rfl
/-! reading -/
def wRd (x : Val) (m : M) (k : D → Prop) : Prop := wOpt (dat x m) k
theorem wp_rd {Q : D → M → Prop} : Wp (rd x) m Q = wRd x m fun d => Q d m := by with_unfolding_all (unfold wRd rd; show Wp (E.opt (dat x m)) m Q = _; rw [wp_opt])
theorem wRd_t {k : D → Prop} : wRd (.t d) m k = k d := by with_unfolding_all rfl
theorem wRd_s {k : D → Prop} : wRd (.s n) ⟨ρ, S⟩ k = wOpt S[n]? k := by with_unfolding_all rfl
def datO (o : Option Loc) (S : List D) : Option D := match o with
  | some (.own d) => some d
  | some (.t d) => some d
  | some (.s n) => S[n]?
  | _ => none
theorem wRd_o {k : D → Prop} : wRd (.o i) ⟨ρ, S⟩ k = wOpt (datO ρ[i]? S) k := by with_unfolding_all rfl
theorem datO_own : datO (some (.own d)) S = some d := by with_unfolding_all rfl
theorem datO_t : datO (some (.t d)) S = some d := by with_unfolding_all rfl
theorem wOpt_some {a : α} {k : α → Prop} : wOpt (some a) k = k a := by with_unfolding_all rfl
theorem wOpt_none {k : α → Prop} : wOpt none k = False := by with_unfolding_all rfl
theorem wIf_t {p q : Prop} : wIf true p q = p := by with_unfolding_all rfl
theorem wIf_f {p q : Prop} : wIf false p q = q := by with_unfolding_all rfl
theorem wG_t {p : Prop} : wG true p = p := by with_unfolding_all rfl
/-- a result that is plain -/
def kT (Q : Val → M → Prop) (m : M) (z : D) : Prop := Q (.t z) m
theorem kT_eq {Q : Val → M → Prop} : kT Q m d = Q (.t d) m := by with_unfolding_all rfl
/-! operators -/
def kOp1 (f : D → D → Option D) (b : E Val) (Q : Val → M → Prop) (x : Val) (m : M) : Prop := Wp (b.bind fun y => (rd x).bind fun d => (rd y).bind fun e => (E.opt (f d e)).bind fun r => .ret (.t r)) m Q
def kOp2 (f : D → D → Option D) (x : Val) (Q : Val → M → Prop) (y : Val) (m : M) : Prop := Wp ((rd x).bind fun d => (rd y).bind fun e => (E.opt (f d e)).bind fun r => .ret (.t r)) m Q
theorem w_eOp {f : D → D → Option D} {a b : E Val} {Q : Val → M → Prop} : Wp (eOp f a b) m Q = Wp a m (kOp1 f b Q) := by with_unfolding_all exact wp_bind
theorem kOp1_eq {f : D → D → Option D} {b : E Val} {Q : Val → M → Prop} : kOp1 f b Q x m = Wp b m (kOp2 f x Q) := by with_unfolding_all exact wp_bind
theorem kOp2_tt {f : D → D → Option D} {Q : Val → M → Prop} : kOp2 f (.t d) Q (.t e) m = wOpt (f d e) (kT Q m) := by
  with_unfolding_all
    unfold kOp2
    rw [wp_bind, wp_rd, wRd_t, wp_bind, wp_rd, wRd_t, wp_bind, wp_opt]; rfl
def kOp3 (f : D → D → Option D) (y : Val) (Q : Val → M → Prop) (m : M) (d : D) : Prop := wRd y m fun e => wOpt (f d e) (kT Q m)
theorem kOp2_gen {f : D → D → Option D} {Q : Val → M → Prop} : kOp2 f x Q y m = wRd x m (kOp3 f y Q m) := by
  with_unfolding_all
    unfold kOp2
    rw [wp_bind, wp_rd]
    congr 1
    funext d
    rw [wp_bind, wp_rd]
    unfold kOp3
    congr 1
    funext e
    rw [wp_bind, wp_opt]; rfl
theorem kOp3_t {f : D → D → Option D} {Q : Val → M → Prop} : kOp3 f (.t e) Q m d = wOpt (f d e) (kT Q m) := by with_unfolding_all rfl
def kOp4 (f : D → D → Option D) (d : D) (Q : Val → M → Prop) (m : M) (e : D) : Prop := wOpt (f d e) (kT Q m)
theorem kOp3_gen {f : D → D → Option D} {Q : Val → M → Prop} : kOp3 f y Q m d = wRd y m (kOp4 f d Q m) := by with_unfolding_all rfl
theorem kOp4_eq {f : D → D → Option D} {Q : Val → M → Prop} : kOp4 f d Q m e = wOpt (f d e) (kT Q m) := by with_unfolding_all rfl
def kUn (f : D → Option D) (Q : Val → M → Prop) (x : Val) (m : M) : Prop := Wp ((rd x).bind fun d => (E.opt (f d)).bind fun r => .ret (.t r)) m Q
def kUn2 (f : D → Option D) (Q : Val → M → Prop) (m : M) (d : D) : Prop := wOpt (f d) (kT Q m)
theorem w_eUn {f : D → Option D} {a : E Val} {Q : Val → M → Prop} : Wp (eUn f a) m Q = Wp a m (kUn f Q) := by with_unfolding_all exact wp_bind
theorem kUn_gen {f : D → Option D} {Q : Val → M → Prop} : kUn f Q x m = wRd x m (kUn2 f Q m) := by
  with_unfolding_all
    unfold kUn
    rw [wp_bind, wp_rd]
    congr 1
    funext d
    rw [wp_bind, wp_opt]; rfl
theorem kUn2_eq {f : D → Option D} {Q : Val → M → Prop} : kUn2 f Q m d = wOpt (f d) (kT Q m) := by with_unfolding_all rfl
/-! arguments -/
def kA1 (as : List (E Val)) (Q : List Val → M → Prop) (x : Val) (m : M) : Prop := Wp ((eArgs as).bind fun r => .ret (x :: r)) m Q
def kA2 (x : Val) (Q : List Val → M → Prop) (r : List Val) (m : M) : Prop := Q (x :: r) m
theorem w_args0 {Q : List Val → M → Prop} : Wp (eArgs []) m Q = Q [] m := by with_unfolding_all rfl
theorem w_args {a : E Val} {as : List (E Val)} {Q : List Val → M → Prop} : Wp (eArgs (a :: as)) m Q = Wp a m (kA1 as Q) := by with_unfolding_all exact wp_bind
theorem kA1_eq {as : List (E Val)} {Q : List Val → M → Prop} : kA1 as Q x m = Wp (eArgs as) m (kA2 x Q) := by with_unfolding_all exact wp_bind
theorem kA2_eq {r : List Val} {Q : List Val → M → Prop} : kA2 x Q r m = Q (x :: r) m := by with_unfolding_all rfl
/-- reading a list of values -/
def wRds : List Val → M → (List D → Prop) → Prop
  | [], _, k => k []
  | x :: xs, m, k => wRd x m fun d => wRds xs m fun r => k (d :: r)
theorem wp_rds {Q : List D → M → Prop} : ∀ {xs : List Val} {Q : List D → M → Prop}, Wp (rds xs) m Q = wRds xs m fun r => Q r m
  | [], _ => by with_unfolding_all rfl
  | x :: xs, Q => by
    show Wp ((rd x).bind fun d => (rds xs).bind fun r => .ret (d :: r)) m Q = _
    rw [wp_bind, wp_rd]
    unfold wRds
    congr 1
    funext d
    rw [wp_bind, wp_rds (Q := Q)]
    with_unfolding_all rfl
def datL (o : M → Val → Option D) (m : M) : List Val → Option (List D)
  | [] => some []
  | x :: xs => match o m x, datL o m xs with
    | some d, some r => some (d :: r)
    | _, _ => none
/-- built-ins -/
def kCB (f : List D → Option D) (Q : Val → M → Prop) (xs : List Val) (m : M) : Prop := Wp ((rds xs).bind fun ds => (E.opt (f ds)).bind fun r => .ret (.t r)) m Q
theorem w_eCall {f : List D → Option D} {as : E (List Val)} {Q : Val → M → Prop} : Wp (eCall f as) m Q = Wp as m (kCB f Q) := by with_unfolding_all exact wp_bind
def kC1 (f : D → Option D) (Q : Val → M → Prop) (m : M) (d : D) : Prop := wOpt (f d) (kT Q m)
theorem kCB_one {f : D → Option D} {Q : Val → M → Prop} : kCB (one f) Q [x] m = wRd x m (kC1 f Q m) := by
  with_unfolding_all
    unfold kCB
    rw [wp_bind, wp_rds (Q := fun _ _ => True)]
    show wRd x m _ = _
    congr 1
    funext d
    show Wp _ m Q = _
    rw [wp_bind, wp_opt]; rfl
theorem kC1_eq {f : D → Option D} {Q : Val → M → Prop} : kC1 f Q m d = wOpt (f d) (kT Q m) := by with_unfolding_all rfl
theorem kCB_two {f : D → D → Option D} {Q : Val → M → Prop} : kCB (two f) Q [x, y] m = wRd x m (kOp3 f y Q m) := by
  with_unfolding_all
    unfold kCB
    rw [wp_bind, wp_rds (Q := fun _ _ => True)]
    show wRd x m _ = _
    congr 1
    funext d
    show wRd y m _ = _
    unfold kOp3
    congr 1
    funext e
    show Wp _ m Q = _
    rw [wp_bind, wp_opt]; rfl
/-! values as data: frozen -/
def wAsD (x : Val) (m : M) (k : D → M → Prop) : Prop := Wp (asD x) m k
theorem wAsD_t {k : D → M → Prop} : wAsD (.t d) m k = k d m := by with_unfolding_all rfl
def wAsO (o : Option Loc) (i : Nat) (m : M) (k : D → M → Prop) : Prop := match o with
  | some (.own d) => k d ⟨m.ρ.set i (.t d), m.S⟩
  | some (.t d) => k d m
  | _ => False
theorem wAsO_congr {o o' : Option Loc} {k : D → M → Prop} (h : o = o') : wAsO o i m k = wAsO o' i m k := by with_unfolding_all (rw [h])
theorem wAsD_o {k : D → M → Prop} : wAsD (.o i) ⟨ρ, S⟩ k = wAsO ρ[i]? i ⟨ρ, S⟩ k := by
  with_unfolding_all
    unfold wAsD asD wAsO
    rw [wp_bind]
    unfold Wp arg
    cases h : ρ[i]? with
    | none => simp only [h]
    | some l => cases l <;> simp only [h] <;> rfl
theorem wAsO_own {k : D → M → Prop} : wAsO (some (.own d)) i ⟨ρ, S⟩ k = k d ⟨ρ.set i (.t d), S⟩ := by with_unfolding_all rfl
theorem wAsO_t {k : D → M → Prop} : wAsO (some (.t d)) i m k = k d m := by with_unfolding_all rfl
def wAsDs (xs : List Val) (m : M) (k : List D → M → Prop) : Prop := Wp (asDs xs) m k
def kAd1 (xs : List Val) (k : List D → M → Prop) (d : D) (m : M) : Prop := wAsDs xs m fun r m' => k (d :: r) m'
def kAd2 (k : List D → M → Prop) (d : D) (r : List D) (m : M) : Prop := k (d :: r) m
theorem wAsDs_nil {k : List D → M → Prop} : wAsDs [] m k = k [] m := by with_unfolding_all rfl
theorem wAsDs_cons {xs : List Val} {k : List D → M → Prop} : wAsDs (x :: xs) m k = wAsD x m (kAd1 xs k) := by
  with_unfolding_all
    unfold wAsDs wAsD
    show Wp ((asD x).bind fun d => (asDs xs).bind fun r => .ret (d :: r)) m k = _
    rw [wp_bind]
    congr 1
    funext d m'
    rw [wp_bind]; rfl
theorem kAd1_eq {xs : List Val} {k : List D → M → Prop} : kAd1 xs k d m = wAsDs xs m (kAd2 k d) := by with_unfolding_all rfl
theorem kAd2_eq {r : List D} {k : List D → M → Prop} : kAd2 k d r m = k (d :: r) m := by with_unfolding_all rfl
/-! displays -/
def kTup (Q : Val → M → Prop) (xs : List Val) (m : M) : Prop := Wp ((asDs xs).bind fun ds => if sizeOk ds.length then .ret (.t (.tup ds)) else fun _ => .no) m Q
def kTup2 (Q : Val → M → Prop) (ds : List D) (m : M) : Prop := wG (sizeOk ds.length) (Q (.t (.tup ds)) m)
theorem w_eTup {as : E (List Val)} {Q : Val → M → Prop} : Wp (eTup as) m Q = Wp as m (kTup Q) := by with_unfolding_all exact wp_bind
theorem kTup_eq {xs : List Val} {Q : Val → M → Prop} : kTup Q xs m = wAsDs xs m (kTup2 Q) := by
  with_unfolding_all
    unfold kTup wAsDs
    rw [wp_bind]
    congr 1
    funext ds m'
    unfold kTup2
    cases h : sizeOk ds.length <;> rfl
theorem kTup2_eq {ds : List D} {Q : Val → M → Prop} : kTup2 Q ds m = wG (sizeOk ds.length) (Q (.t (.tup ds)) m) := by with_unfolding_all rfl
def kLst (Q : D → M → Prop) (xs : List Val) (m : M) : Prop := Wp ((asDs xs).bind fun ds => if sizeOk ds.length then .ret (.lst ds) else fun _ => .no) m Q
def kLst2 (Q : D → M → Prop) (ds : List D) (m : M) : Prop := wG (sizeOk ds.length) (Q (.lst ds) m)
theorem w_nLst {as : E (List Val)} {Q : D → M → Prop} : Wp (nLst as) m Q = Wp as m (kLst Q) := by with_unfolding_all exact wp_bind
theorem kLst_eq {xs : List Val} {Q : D → M → Prop} : kLst Q xs m = wAsDs xs m (kLst2 Q) := by
  with_unfolding_all
    unfold kLst wAsDs
    rw [wp_bind]
    congr 1
    funext ds m'
    unfold kLst2
    cases h : sizeOk ds.length <;> rfl
theorem kLst2_eq {ds : List D} {Q : D → M → Prop} : kLst2 Q ds m = wG (sizeOk ds.length) (Q (.lst ds) m) := by with_unfolding_all rfl
def kFz (Q : Val → M → Prop) (d : D) (m : M) : Prop := Q (.t d) m
theorem w_fz {f : E D} {Q : Val → M → Prop} : Wp (fz f) m Q = Wp f m (kFz Q) := by with_unfolding_all exact wp_bind
theorem kFz_eq {Q : Val → M → Prop} : kFz Q d m = Q (.t d) m := by with_unfolding_all rfl
/-! tests -/
def kTV (Q : Bool → M → Prop) (x : Val) (m : M) : Prop := Wp ((rd x).bind fun d => .opt (boolOf d)) m Q
theorem w_tV {a : E Val} {Q : Bool → M → Prop} : Wp (tV a) m Q = Wp a m (kTV Q) := by with_unfolding_all exact wp_bind
theorem kTV_b {b : Bool} {Q : Bool → M → Prop} : kTV Q (.t (.bl b)) m = Q b m := by with_unfolding_all rfl
def kB2 (b : E Bool) (t : Bool) (Q : Bool → M → Prop) (c : Bool) (m : M) : Prop := if c = t then Wp b m Q else Q c m
theorem w_and {a b : E Bool} {Q : Bool → M → Prop} : Wp (tAnd' a b) m Q = Wp a m (kB2 b true Q) := by
  with_unfolding_all
    unfold tAnd'; rw [wp_bind]; congr 1; funext c m'; cases c <;> rfl
theorem w_or {a b : E Bool} {Q : Bool → M → Prop} : Wp (tOr' a b) m Q = Wp a m (kB2 b false Q) := by
  with_unfolding_all
    unfold tOr'; rw [wp_bind]; congr 1; funext c m'; cases c <;> rfl
theorem kB2_tt {b : E Bool} {Q : Bool → M → Prop} : kB2 b true Q true m = Wp b m Q := by with_unfolding_all rfl
theorem kB2_tf {b : E Bool} {Q : Bool → M → Prop} : kB2 b true Q false m = Q false m := by with_unfolding_all rfl
theorem kB2_ft {b : E Bool} {Q : Bool → M → Prop} : kB2 b false Q true m = Q true m := by with_unfolding_all rfl
theorem kB2_ff {b : E Bool} {Q : Bool → M → Prop} : kB2 b false Q false m = Wp b m Q := by with_unfolding_all rfl
def kNot (Q : Bool → M → Prop) (c : Bool) (m : M) : Prop := Q (!c) m
theorem w_not {a : E Bool} {Q : Bool → M → Prop} : Wp (tNot' a) m Q = Wp a m (kNot Q) := by with_unfolding_all exact wp_bind
theorem kNot_eq {c : Bool} {Q : Bool → M → Prop} : kNot Q c m = Q (!c) m := by with_unfolding_all rfl
def kV2 (b : E Val) (t : Bool) (Q : Val → M → Prop) (c : Bool) (m : M) : Prop := if c = t then Wp b m Q else Q (.t (.bl c)) m
theorem w_eAnd {a b : E Val} {Q : Val → M → Prop} : Wp (eAnd a b) m Q = Wp (tV a) m (kV2 b true Q) := by
  with_unfolding_all
    unfold eAnd; rw [wp_bind]; congr 1; funext c m'; cases c <;> rfl
theorem w_eOr {a b : E Val} {Q : Val → M → Prop} : Wp (eOr a b) m Q = Wp (tV a) m (kV2 b false Q) := by
  with_unfolding_all
    unfold eOr; rw [wp_bind]; congr 1; funext c m'; cases c <;> rfl
theorem kV2_tt {b : E Val} {Q : Val → M → Prop} : kV2 b true Q true m = Wp b m Q := by with_unfolding_all rfl
theorem kV2_tf {b : E Val} {Q : Val → M → Prop} : kV2 b true Q false m = Q (.t (.bl false)) m := by with_unfolding_all rfl
theorem kV2_ft {b : E Val} {Q : Val → M → Prop} : kV2 b false Q true m = Q (.t (.bl true)) m := by with_unfolding_all rfl
theorem kV2_ff {b : E Val} {Q : Val → M → Prop} : kV2 b false Q false m = Wp b m Q := by with_unfolding_all rfl
def kENot (Q : Val → M → Prop) (c : Bool) (m : M) : Prop := Q (.t (.bl (!c))) m
theorem w_eNot {a : E Val} {Q : Val → M → Prop} : Wp (eNot a) m Q = Wp (tV a) m (kENot Q) := by with_unfolding_all exact wp_bind
theorem kENot_eq {c : Bool} {Q : Val → M → Prop} : kENot Q c m = Q (.t (.bl (!c))) m := by with_unfolding_all rfl
def kEIf (a b : E Val) (Q : Val → M → Prop) (c : Bool) (m : M) : Prop := wIf c (Wp a m Q) (Wp b m Q)
theorem w_eIf {c : E Bool} {a b : E Val} {Q : Val → M → Prop} : Wp (eIf c a b) m Q = Wp c m (kEIf a b Q) := by
  with_unfolding_all
    unfold eIf; rw [wp_bind]; congr 1; funext c m'; cases c <;> rfl
theorem kEIf_t {a b : E Val} {Q : Val → M → Prop} : kEIf a b Q true m = Wp a m Q := by with_unfolding_all rfl
theorem kEIf_f {a b : E Val} {Q : Val → M → Prop} : kEIf a b Q false m = Wp b m Q := by with_unfolding_all rfl
theorem kEIf_s {a b : E Val} {c : Bool} {Q : Val → M → Prop} (h1 : c = true → Wp a m Q) (h2 : c = false → Wp b m Q) : kEIf a b Q c m := by
  with_unfolding_all
    cases c with
    | false => exact h2 rfl
    | true => exact h1 rfl
def kCh1 (f f' : D → D → Option D) (b c : E Val) (Q : Val → M → Prop) (x : Val) (m : M) : Prop := Wp (b.bind fun y => (rd x).bind fun d => (rd y).bind fun e => (E.opt (f d e)).bind fun z => (E.opt (boolOf z)).bind fun k =>
  if k then c.bind fun w => (rd y).bind fun e => (rd w).bind fun h => (E.opt (f' e h)).bind fun r => .ret (.t r) else .ret (.t (.bl false))) m Q
def kCh2 (f f' : D → D → Option D) (c : E Val) (Q : Val → M → Prop) (x y : Val) (m : M) : Prop := Wp ((rd x).bind fun d => (rd y).bind fun e => (E.opt (f d e)).bind fun z => (E.opt (boolOf z)).bind fun k =>
  if k then c.bind fun w => (rd y).bind fun e => (rd w).bind fun h => (E.opt (f' e h)).bind fun r => .ret (.t r) else .ret (.t (.bl false))) m Q
def kCh3 (f' : D → D → Option D) (c : E Val) (Q : Val → M → Prop) (y : Val) (m : M) (z : D) : Prop := wOpt (boolOf z) fun k => wIf k (Wp c m (kOp2 f' y Q)) (Q (.t (.bl false)) m)
theorem w_eChain {f f' : D → D → Option D} {a b c : E Val} {Q : Val → M → Prop} : Wp (eChain f f' a b c) m Q = Wp a m (kCh1 f f' b c Q) := by with_unfolding_all exact wp_bind
theorem kCh1_eq {f f' : D → D → Option D} {b c : E Val} {Q : Val → M → Prop} : kCh1 f f' b c Q x m = Wp b m (kCh2 f f' c Q x) := by with_unfolding_all exact wp_bind
theorem kCh2_tt {f f' : D → D → Option D} {c : E Val} {Q : Val → M → Prop} : kCh2 f f' c Q (.t d) (.t e) m = wOpt (f d e) (kCh3 f' c Q (.t e) m) := by
  with_unfolding_all
    unfold kCh2
    rw [wp_bind, wp_rd, wRd_t, wp_bind, wp_rd, wRd_t, wp_bind, wp_opt]
    congr 1
    funext z
    rw [wp_bind, wp_opt]
    unfold kCh3
    congr 1
    funext k
    cases k
    · rfl
    · show Wp (c.bind _) m Q = Wp c m _
      rw [wp_bind]; rfl
theorem kCh3_t {f' : D → D → Option D} {c : E Val} {Q : Val → M → Prop} : kCh3 f' c Q y m (.bl true) = Wp c m (kOp2 f' y Q) := by with_unfolding_all rfl
theorem kCh3_f {f' : D → D → Option D} {c : E Val} {Q : Val → M → Prop} : kCh3 f' c Q y m (.bl false) = Q (.t (.bl false)) m := by with_unfolding_all rfl
theorem kCh3_and {f' : D → D → Option D} {c : E Val} {Q : Val → M → Prop} {b q : Bool} (hb : b = true → Wp c m fun x m' => kOp2 f' y (fun x' m' => x' = .t (.bl q) ∧ m' = m) x m') (k : Q (.t (.bl (b && q))) m) (hm : b = true → ∀ x m', kOp2 f' y (fun x' m' => x' = .t (.bl q) ∧ m' = m) x m' → kOp2 f' y Q x m') : kCh3 f' c Q y m (.bl b) := by
  with_unfolding_all
    cases b with
    | false => exact k
    | true => exact wp_mono (hb rfl) (hm rfl)
/-! calls -/
def wFn (r : Option (Arg × List D)) (Q : Val → M → Prop) (ρ : List Loc) : Prop := match r with
  | some (.t d, S') => Q (.t d) ⟨ρ, S'⟩
  | some (.s n, S') => Q (.s n) ⟨ρ, S'⟩
  | none => False
theorem wFn_congr {r r' : Option (Arg × List D)} {Q : Val → M → Prop} (h : r = r') : wFn r Q ρ = wFn r' Q ρ := by with_unfolding_all (rw [h])
def kFn (fn : Fn) (Q : Val → M → Prop) (xs : List Val) (m : M) : Prop := Wp ((args xs).bind fun bs m => match fn bs m.S with
  | some (.t d, S') => .ok (.t d) ⟨m.ρ, S'⟩
  | some (.s n, S') => .ok (.s n) ⟨m.ρ, S'⟩
  | none => .no) m Q
theorem w_eFn {fn : Fn} {as : E (List Val)} {Q : Val → M → Prop} : Wp (eFn fn as) m Q = Wp as m (kFn fn Q) := by with_unfolding_all exact wp_bind
def wArg (x : Val) (m : M) (k : Arg → M → Prop) : Prop := Wp (arg x) m k
theorem wArg_t {k : Arg → M → Prop} : wArg (.t d) m k = k (.t d) m := by with_unfolding_all rfl
theorem wArg_s {k : Arg → M → Prop} : wArg (.s n) m k = k (.s n) m := by with_unfolding_all rfl
def wArgO (o : Option Loc) (i : Nat) (m : M) (k : Arg → M → Prop) : Prop := match o with
  | some (.own d) => k (.t d) ⟨m.ρ.set i (.t d), m.S⟩
  | some (.t d) => k (.t d) m
  | some (.s n) => k (.s n) m
  | _ => False
theorem wArgO_congr {o o' : Option Loc} {k : Arg → M → Prop} (h : o = o') : wArgO o i m k = wArgO o' i m k := by with_unfolding_all (rw [h])
theorem wArg_o {k : Arg → M → Prop} : wArg (.o i) ⟨ρ, S⟩ k = wArgO ρ[i]? i ⟨ρ, S⟩ k := by
  with_unfolding_all
    unfold wArg wArgO Wp arg
    cases h : ρ[i]? with
    | none => simp only [h]
    | some l => cases l <;> simp only [h]
theorem wArgO_own {k : Arg → M → Prop} : wArgO (some (.own d)) i ⟨ρ, S⟩ k = k (.t d) ⟨ρ.set i (.t d), S⟩ := by with_unfolding_all rfl
theorem wArgO_t {k : Arg → M → Prop} : wArgO (some (.t d)) i m k = k (.t d) m := by with_unfolding_all rfl
theorem wArgO_s {k : Arg → M → Prop} : wArgO (some (.s n)) i m k = k (.s n) m := by with_unfolding_all rfl
def wArgs (xs : List Val) (m : M) (k : List Arg → M → Prop) : Prop := Wp (args xs) m k
def kAr1 (xs : List Val) (k : List Arg → M → Prop) (a : Arg) (m : M) : Prop := wArgs xs m fun r m' => k (a :: r) m'
def kAr2 (k : List Arg → M → Prop) (a : Arg) (r : List Arg) (m : M) : Prop := k (a :: r) m
theorem wArgs_nil {k : List Arg → M → Prop} : wArgs [] m k = k [] m := by with_unfolding_all rfl
theorem wArgs_cons {xs : List Val} {k : List Arg → M → Prop} : wArgs (x :: xs) m k = wArg x m (kAr1 xs k) := by
  with_unfolding_all
    unfold wArgs wArg
    show Wp ((arg x).bind fun d => (args xs).bind fun r => .ret (d :: r)) m k = _
    rw [wp_bind]
    congr 1
    funext d m'
    rw [wp_bind]; rfl
theorem kAr1_eq {xs : List Val} {k : List Arg → M → Prop} {a : Arg} : kAr1 xs k a m = wArgs xs m (kAr2 k a) := by with_unfolding_all rfl
theorem kAr2_eq {r : List Arg} {k : List Arg → M → Prop} {a : Arg} : kAr2 k a r m = k (a :: r) m := by with_unfolding_all rfl
def kFn2 (fn : Fn) (Q : Val → M → Prop) (bs : List Arg) (m : M) : Prop := wFn (fn bs m.S) Q m.ρ
theorem kFn_eq {fn : Fn} {xs : List Val} {Q : Val → M → Prop} : kFn fn Q xs m = wArgs xs m (kFn2 fn Q) := by
  with_unfolding_all
    unfold kFn wArgs
    rw [wp_bind]
    congr 1
    funext bs m'
    unfold kFn2 Wp wFn
    cases h : fn bs m'.S with
    | none => simp only [h]
    | some p => obtain ⟨a, S'⟩ := p; cases a <;> simp only [h]
theorem kFn2_eq {fn : Fn} {bs : List Arg} {Q : Val → M → Prop} : kFn2 fn Q bs ⟨ρ, S⟩ = wFn (fn bs S) Q ρ := by with_unfolding_all rfl
theorem wFn_t {Q : Val → M → Prop} : wFn (some (.t d, S)) Q ρ = Q (.t d) ⟨ρ, S⟩ := by with_unfolding_all rfl
theorem wFn_s {Q : Val → M → Prop} : wFn (some (.s n, S)) Q ρ = Q (.s n) ⟨ρ, S⟩ := by with_unfolding_all rfl
/-! making an instance, the own len -/
def wMk (r : Option (Arg × List D)) (S : List D) (Q : Val → M → Prop) (ρ : List Loc) : Prop := match r with
  | some (.t .non, S') => wOpt S'[S.length]? fun d => wG (decide (S'.length = S.length + 1)) (Q (.t d) ⟨ρ, S'.take S.length⟩)
  | _ => False
theorem wMk_congr {r r' : Option (Arg × List D)} {Q : Val → M → Prop} (h : r = r') : wMk r S Q ρ = wMk r' S Q ρ := by with_unfolding_all (rw [h])
def kMk (fn : Fn) (c : Str) (Q : Val → M → Prop) (bs : List Arg) (m : M) : Prop := wMk (fn (.s m.S.length :: bs) (m.S ++ [.obj c []])) m.S Q m.ρ
def kMk0 (fn : Fn) (c : Str) (Q : Val → M → Prop) (xs : List Val) (m : M) : Prop := wArgs xs m (kMk fn c Q)
theorem w_eMake {fn : Fn} {c : Str} {as : E (List Val)} {Q : Val → M → Prop} : Wp (eMake c fn as) m Q = Wp as m (kMk0 fn c Q) := by
  with_unfolding_all
    unfold eMake
    rw [wp_bind]
    congr 1
    funext xs m1
    unfold kMk0 wArgs
    rw [wp_bind]
    congr 1
    funext bs m'
    unfold kMk Wp wMk
    cases h : fn (.s m'.S.length :: bs) (m'.S ++ [.obj c []]) with
    | none => simp only [h]
    | some p =>
      obtain ⟨a, S'⟩ := p
      cases a with
      | s n => simp only [h]
      | t d =>
        cases d <;> simp only [h]
        cases h2 : S'[m'.S.length]? with
        | none => simp only [h2]; rfl
        | some d =>
          simp only [h2, wOpt]
          by_cases h3 : S'.length = m'.S.length + 1
          · rw [if_pos h3, decide_eq_true h3]; rfl
          · rw [if_neg h3, decide_eq_false h3]; rfl
theorem kMk0_eq {fn : Fn} {c : Str} {xs : List Val} {Q : Val → M → Prop} : kMk0 fn c Q xs m = wArgs xs m (kMk fn c Q) := by with_unfolding_all rfl
theorem kMk_eq {fn : Fn} {c : Str} {bs : List Arg} {Q : Val → M → Prop} : kMk fn c Q bs ⟨ρ, S⟩ = wMk (fn (.s S.length :: bs) (S ++ [.obj c []])) S Q ρ := by with_unfolding_all rfl
theorem wMk_ok {Q : Val → M → Prop} : wMk (some (.t .non, S ++ [d])) S Q ρ = Q (.t d) ⟨ρ, S⟩ := by
  with_unfolding_all
    unfold wMk
    simp only [List.getElem?_append_right (Nat.le_refl _), Nat.sub_self, List.getElem?_cons_zero, wOpt, List.length_append, List.length_singleton, decide_true, wG, List.take_left']
def kLenO (c : Str) (fn : Fn) (Q : Val → M → Prop) (xs : List Val) (m : M) : Prop := match xs with
  | [x] => wRd x m fun d => match d with
    | .obj c' _ => if c' = c then wArg x m fun b m => match fn [b] m.S with
        | some (.t (.int n), S') => wG (lenOk n) (Q (.t (.int n)) ⟨m.ρ, S'⟩)
        | _ => False
      else False
    | _ => False
  | _ => False
theorem w_eLenO {fn : Fn} {c : Str} {as : E (List Val)} {Q : Val → M → Prop} : Wp (eLenO c fn as) m Q = Wp as m (kLenO c fn Q) := by
  with_unfolding_all
    unfold eLenO
    rw [wp_bind]
    congr 1
    funext xs m1
    unfold kLenO
    match xs with
    | [] => rfl
    | [x] =>
      show Wp ((rd x).bind _) m1 Q = _
      rw [wp_bind, wp_rd]
      show wRd x m1 _ = wRd x m1 _
      congr 1
      funext d
      cases d <;> try rfl
      rename_i c' fs
      by_cases h : c' = c
      · simp only [if_pos h]
        rw [wp_bind]
        unfold wArg
        congr 1
        funext b m2
        unfold Wp
        cases h2 : fn [b] m2.S with
        | none => simp only [h2]
        | some p =>
          obtain ⟨a, S'⟩ := p
          cases a with
          | s n => simp only [h2]
          | t d =>
            cases d <;> simp only [h2]
            rename_i n
            cases h3 : lenOk n <;> rfl
      · simp only [if_neg h]; rfl
    | _ :: _ :: _ => rfl
theorem kLenO_ok {fn : Fn} {c : Str} {fs : List (Str × D)} {k : Int} {Q : Val → M → Prop} (h : fn [.t (.obj c fs)] S = some (.t (.int k), S)) (hk : lenOk k = true) : kLenO c fn Q [.t (.obj c fs)] ⟨ρ, S⟩ = Q (.t (.int k)) ⟨ρ, S⟩ := by
  with_unfolding_all
    unfold kLenO
    simp only [wRd_t, if_true, wArg_t, h, hk, wG]
/-! cuts -/
def wPart (o : Option (E Val)) (m : M) (k : Option Int → M → Prop) : Prop := Wp (ePart o) m k
def kPart (k : Option Int → M → Prop) (x : Val) (m : M) : Prop := wRd x m fun d => wOpt (intD d) fun i => k (some i) m
theorem wPart_none {k : Option Int → M → Prop} : wPart none m k = k none m := by with_unfolding_all rfl
theorem wPart_some {f : E Val} {k : Option Int → M → Prop} : wPart (some f) m k = Wp f m (kPart k) := by
  with_unfolding_all
    unfold wPart ePart
    rw [wp_bind]
    congr 1
    funext x m'
    unfold kPart
    rw [wp_bind, wp_rd]
    congr 1
    funext d
    rw [wp_bind, wp_opt]; rfl
theorem kPart_t {j : Int} {k : Option Int → M → Prop} : kPart k (.t (.int j)) m = k (some j) m := by with_unfolding_all rfl
def kCut1 (lo hi : Option (E Val)) (Q : Val → M → Prop) (x : Val) (m : M) : Prop := wPart lo m fun l m1 => wPart hi m1 fun h m2 => wRd x m2 fun d => wOpt (dCut d l h) (kT Q m2)
def kCut2 (hi : Option (E Val)) (Q : Val → M → Prop) (x : Val) (l : Option Int) (m : M) : Prop := wPart hi m fun h m2 => wRd x m2 fun d => wOpt (dCut d l h) (kT Q m2)
def kCut3 (Q : Val → M → Prop) (x : Val) (l h : Option Int) (m : M) : Prop := wRd x m fun d => wOpt (dCut d l h) (kT Q m)
def kCut4 (Q : Val → M → Prop) (l h : Option Int) (m : M) (d : D) : Prop := wOpt (dCut d l h) (kT Q m)
theorem w_eCut {f : E Val} {lo hi : Option (E Val)} {Q : Val → M → Prop} : Wp (eCut f lo hi) m Q = Wp f m (kCut1 lo hi Q) := by
  with_unfolding_all
    unfold eCut
    rw [wp_bind]
    congr 1
    funext x m1
    unfold kCut1 wPart
    rw [wp_bind]
    congr 1
    funext l m2
    rw [wp_bind]
    congr 1
    funext h m3
    rw [wp_bind, wp_rd]
    congr 1
    funext d
    rw [wp_bind, wp_opt]; rfl
theorem kCut1_eq {lo hi : Option (E Val)} {Q : Val → M → Prop} : kCut1 lo hi Q x m = wPart lo m (kCut2 hi Q x) := by with_unfolding_all rfl
theorem kCut2_eq {hi : Option (E Val)} {l : Option Int} {Q : Val → M → Prop} : kCut2 hi Q x l m = wPart hi m (kCut3 Q x l) := by with_unfolding_all rfl
theorem kCut3_eq {l h : Option Int} {Q : Val → M → Prop} : kCut3 Q x l h m = wRd x m (kCut4 Q l h m) := by with_unfolding_all rfl
theorem kCut4_eq {l h : Option Int} {Q : Val → M → Prop} : kCut4 Q l h m d = wOpt (dCut d l h) (kT Q m) := by with_unfolding_all rfl
/-! built-ins that make -/
def kNC (f : List D → Option D) (Q : D → M → Prop) (xs : List Val) (m : M) : Prop := Wp ((rds xs).bind fun ds => .opt (f ds)) m Q
def kNC1 (f : D → Option D) (Q : D → M → Prop) (m : M) (d : D) : Prop := wOpt (f d) fun z => Q z m
def kNC2 (Q : D → M → Prop) (m : M) (d : D) : Prop := Q d m
theorem w_nCall {f : List D → Option D} {as : E (List Val)} {Q : D → M → Prop} : Wp (nCall f as) m Q = Wp as m (kNC f Q) := by with_unfolding_all exact wp_bind
theorem kNC_one {f : D → Option D} {Q : D → M → Prop} : kNC (one f) Q [x] m = wRd x m (kNC1 f Q m) := by
  with_unfolding_all
    unfold kNC
    rw [wp_bind, wp_rds (Q := fun _ _ => True)]
    show wRd x m _ = _
    congr 1
    funext d
    show Wp _ m Q = _
    rw [wp_opt]; rfl
theorem kNC1_eq {f : D → Option D} {Q : D → M → Prop} : kNC1 f Q m d = wOpt (f d) (kNC2 Q m) := by with_unfolding_all rfl
theorem kNC2_eq {Q : D → M → Prop} : kNC2 Q m d = Q d m := by with_unfolding_all rfl
def kNR2 (Q : D → M → Prop) (m : M) (n : Int) : Prop := wG (rngOk n && sizeOk n.toNat) (Q (.lst (rangeD 0 n.toNat)) m)
def kNR (Q : D → M → Prop) (x : Val) (m : M) : Prop := wRd x m fun d => wOpt (intD d) (kNR2 Q m)
theorem w_nRange1 {f : E Val} {Q : D → M → Prop} : Wp (nRange1 f) m Q = Wp f m (kNR Q) := by
  with_unfolding_all
    unfold nRange1
    rw [wp_bind]
    congr 1
    funext x m1
    unfold kNR
    rw [wp_bind, wp_rd]
    congr 1
    funext d
    rw [wp_bind, wp_opt]
    congr 1
    funext n
    unfold kNR2
    cases h : (rngOk n && sizeOk n.toNat) <;> rfl
theorem rs_nat {n : Nat} (h : n ≤ 1000000) : (rngOk (n : Int) && sizeOk (n : Int).toNat) = true := by
  with_unfolding_all
    have h2 : sizeOk n = true := decide_eq_true (by omega)
    rw [rng_nat h, Int.toNat_natCast, h2, Bool.and_self]
theorem kNR_nat {n : Nat} {Q : D → M → Prop} (h : n ≤ 1000000) : kNR Q (.t (.int (n : Int))) m = Q (.lst (rangeD 0 n)) m := by
  with_unfolding_all
    unfold kNR
    rw [wRd_t, show intD (.int (n : Int)) = some (n : Int) from rfl, wOpt_some]
    unfold kNR2
    rw [rs_nat h, wG_t, Int.toNat_natCast]
/-! sources -/
def kSeq (Q : List D → M → Prop) (x : Val) (m : M) : Prop := wAsD x m fun d m' => wOpt (itemsOf d) fun l => Q l m'
def kSeq2 (Q : List D → M → Prop) (d : D) (m : M) : Prop := wOpt (itemsOf d) fun l => Q l m
def kSeq3 (Q : List D → M → Prop) (m : M) (l : List D) : Prop := Q l m
theorem w_iSeq {f : E Val} {Q : List D → M → Prop} : Wp (iSeq f) m Q = Wp f m (kSeq Q) := by
  with_unfolding_all
    unfold iSeq
    rw [wp_bind]
    congr 1
    funext x m1
    unfold kSeq wAsD
    rw [wp_bind]
    congr 1
    funext d m2
    rw [wp_opt]
theorem kSeq_eq {Q : List D → M → Prop} : kSeq Q x m = wAsD x m (kSeq2 Q) := by with_unfolding_all rfl
theorem kSeq2_eq {Q : List D → M → Prop} : kSeq2 Q d m = wOpt (itemsOf d) (kSeq3 Q m) := by with_unfolding_all rfl
theorem kSeq3_eq {l : List D} {Q : List D → M → Prop} : kSeq3 Q m l = Q l m := by with_unfolding_all rfl
theorem kSeq3_all {Q : List D → M → Prop} : (fun l => Q l m) = kSeq3 Q m := by with_unfolding_all rfl
theorem items_lst {l : List D} : itemsOf (.lst l) = some l := by with_unfolding_all rfl
theorem items_tup {l : List D} : itemsOf (.tup l) = some l := by with_unfolding_all rfl
theorem items_ktup {l : List D} : itemsOf (.ktup l) = some l := by with_unfolding_all rfl
theorem items_scr {l : List Int} : itemsOf (.scr l) = some (l.map .int) := by with_unfolding_all rfl
theorem items_str {s : Str} : itemsOf (.str s) = some (chars s) := by with_unfolding_all rfl
def kRg1 (Q : List D → M → Prop) (xs : List Val) (m : M) : Prop := Wp ((rds xs).bind fun ds => .opt (rangeOf1 ds)) m Q
def kRg2 (Q : List D → M → Prop) (xs : List Val) (m : M) : Prop := Wp ((rds xs).bind fun ds => .opt (rangeOf2 ds)) m Q
theorem w_iRange1 {as : E (List Val)} {Q : List D → M → Prop} : Wp (iRange1 as) m Q = Wp as m (kRg1 Q) := by with_unfolding_all exact wp_bind
theorem w_iRange2 {as : E (List Val)} {Q : List D → M → Prop} : Wp (iRange2 as) m Q = Wp as m (kRg2 Q) := by with_unfolding_all exact wp_bind
theorem kRg1_one {Q : List D → M → Prop} : kRg1 Q [.t d] m = wOpt (rangeOf1 [d]) (kSeq3 Q m) := by
  with_unfolding_all
    unfold kRg1
    rw [wp_bind]
    have e : rds [.t d] m = .ok [d] m := rfl
    show (match rds [.t d] m with | .ok a m' => Wp (E.opt (rangeOf1 a)) m' Q | .no => False) = _
    rw [e, ← kSeq3_all, ← wp_opt]
theorem kRg2_two {Q : List D → M → Prop} : kRg2 Q [.t d, .t e] m = wOpt (rangeOf2 [d, e]) (kSeq3 Q m) := by
  with_unfolding_all
    unfold kRg2
    rw [wp_bind]
    have e' : rds [.t d, .t e] m = .ok [d, e] m := rfl
    show (match rds [.t d, .t e] m with | .ok a m' => Wp (E.opt (rangeOf2 a)) m' Q | .no => False) = _
    rw [e', ← kSeq3_all, ← wp_opt]
theorem kRg1_nat {n : Nat} {Q : List D → M → Prop} (h : n ≤ 1000000) : kRg1 Q [.t (.int (n : Int))] m = Q (rangeD 0 n) m := by
  with_unfolding_all
    have h2 : rangeOf1 [.int (n : Int)] = some (rangeD 0 n) := by
      unfold rangeOf1
      simp only [rng_nat h, Int.toNat_natCast, if_true]
    rw [kRg1_one, h2, wOpt_some, kSeq3_eq]
theorem kRg1_int {n : Int} {Q : List D → M → Prop} (h : rngOk n = true) : kRg1 Q [.t (.int n)] m = Q (rangeD 0 n.toNat) m := by
  with_unfolding_all
    have h2 : rangeOf1 [.int n] = some (rangeD 0 n.toNat) := if_pos h
    rw [kRg1_one, h2, wOpt_some, kSeq3_eq]
theorem kRg2_nat {k n : Nat} {Q : List D → M → Prop} (hk : k ≤ 1000000) (h : n ≤ 1000000) : kRg2 Q [.t (.int (k : Int)), .t (.int (n : Int))] m = Q (rangeD k (n - k)) m := by
  with_unfolding_all
    have h2 : rangeOf2 [.int (k : Int), .int (n : Int)] = some (rangeD k (n - k)) := by
      unfold rangeOf2
      simp only [rng_nat h, rng_nat hk, Bool.and_self, if_true]
      rw [show ((n : Int) - (k : Int)).toNat = n - k from by omega]
    rw [kRg2_two, h2, wOpt_some, kSeq3_eq]
def wKeys (o : Option Loc) (i : Nat) (Q : List D → M → Prop) (m : M) : Prop := match o with
  | some (.t d) => wOpt (keysOf d) fun l => Q l m
  | some (.own d) => wOpt (keysOf d) fun l => Q l ⟨m.ρ.set i (.t d), m.S⟩
  | _ => False
theorem wKeys_congr {o o' : Option Loc} {Q : List D → M → Prop} (h : o = o') : wKeys o i Q m = wKeys o' i Q m := by with_unfolding_all (rw [h])
theorem w_iKeysN {Q : List D → M → Prop} : Wp (iKeysN i) m Q = wKeys m.ρ[i]? i Q m := by
  with_unfolding_all
    unfold Wp iKeysN wKeys
    cases h : m.ρ[i]? with
    | none => simp only [h]
    | some l => cases l <;> simp only [h] <;> first | rfl | (rename_i d; cases keysOf d <;> rfl)
theorem wKeys_t {Q : List D → M → Prop} : wKeys (some (.t d)) i Q m = wOpt (keysOf d) (kSeq3 Q m) := by with_unfolding_all rfl
theorem wKeys_own {Q : List D → M → Prop} : wKeys (some (.own d)) i Q ⟨ρ, S⟩ = wOpt (keysOf d) (kSeq3 Q ⟨ρ.set i (.t d), S⟩) := by with_unfolding_all rfl
/-! statements -/
def seqK (b : E Ctl) (Q : Ctl → M → Prop) (c : Ctl) (m : M) : Prop := match c with
  | .nx => Wp b m Q
  | c => Q c m
theorem w_sSeq {a b : E Ctl} {Q : Ctl → M → Prop} : Wp (sSeq a b) m Q = Wp a m (seqK b Q) := by
  with_unfolding_all
    unfold sSeq; rw [wp_bind]; congr 1; funext c m'; cases c <;> rfl
theorem seqK_nx {b : E Ctl} {Q : Ctl → M → Prop} : seqK b Q .nx m = Wp b m Q := by with_unfolding_all rfl
theorem seqK_rt {b : E Ctl} {Q : Ctl → M → Prop} {a : Arg} : seqK b Q (.rt a) m = Q (.rt a) m := by with_unfolding_all rfl
theorem seqK_bk {b : E Ctl} {Q : Ctl → M → Prop} : seqK b Q .bk m = Q .bk m := by with_unfolding_all rfl
theorem seqK_ct {b : E Ctl} {Q : Ctl → M → Prop} : seqK b Q .ct m = Q .ct m := by with_unfolding_all rfl
theorem w_sSkip {Q : Ctl → M → Prop} : Wp sSkip m Q = Q .nx m := by with_unfolding_all rfl
theorem w_retC {c : Ctl} {Q : Ctl → M → Prop} : Wp (E.ret c) m Q = Q c m := by with_unfolding_all rfl
def kIf (a b : E Ctl) (Q : Ctl → M → Prop) (c : Bool) (m : M) : Prop := wIf c (Wp a m Q) (Wp b m Q)
theorem w_sIf {c : E Bool} {a b : E Ctl} {Q : Ctl → M → Prop} : Wp (sIf c a b) m Q = Wp c m (kIf a b Q) := by
  with_unfolding_all
    unfold sIf; rw [wp_bind]; congr 1; funext c m'; cases c <;> rfl
theorem kIf_t {a b : E Ctl} {Q : Ctl → M → Prop} : kIf a b Q true m = Wp a m Q := by with_unfolding_all rfl
theorem kIf_f {a b : E Ctl} {Q : Ctl → M → Prop} : kIf a b Q false m = Wp b m Q := by with_unfolding_all rfl
theorem kIf_s {a b : E Ctl} {c : Bool} {Q : Ctl → M → Prop} (h1 : c = true → Wp a m Q) (h2 : c = false → Wp b m Q) : kIf a b Q c m := by
  with_unfolding_all
    cases c with
    | false => exact h2 rfl
    | true => exact h1 rfl
def kRet (Q : Ctl → M → Prop) (x : Val) (m : M) : Prop := wArg x m fun a m' => Q (.rt a) m'
def kRet2 (Q : Ctl → M → Prop) (a : Arg) (m : M) : Prop := Q (.rt a) m
theorem w_sRet {e : E Val} {Q : Ctl → M → Prop} : Wp (sRet e) m Q = Wp e m (kRet Q) := by
  with_unfolding_all
    unfold sRet; rw [wp_bind]; congr 1; funext x m'; rw [wp_bind]; rfl
theorem kRet_eq {Q : Ctl → M → Prop} : kRet Q x m = wArg x m (kRet2 Q) := by with_unfolding_all rfl
theorem kRet2_eq {a : Arg} {Q : Ctl → M → Prop} : kRet2 Q a m = Q (.rt a) m := by with_unfolding_all rfl
theorem w_sRetN {Q : Ctl → M → Prop} : Wp sRetN m Q = Q (.rt (.t .non)) m := by with_unfolding_all rfl
def kExpr (Q : Ctl → M → Prop) (x : Val) (m : M) : Prop := Q .nx m
theorem w_sExpr {e : E Val} {Q : Ctl → M → Prop} : Wp (sExpr e) m Q = Wp e m (kExpr Q) := by with_unfolding_all exact wp_bind
theorem kExpr_eq {Q : Ctl → M → Prop} : kExpr Q x m = Q .nx m := by with_unfolding_all rfl
def kAsg (t : Arg → E Unit) (Q : Ctl → M → Prop) (x : Val) (m : M) : Prop := wArg x m fun a m' => Wp (t a) m' fun _ m2 => Q .nx m2
def kAsg2 (t : Arg → E Unit) (Q : Ctl → M → Prop) (a : Arg) (m : M) : Prop := Wp (t a) m fun _ m2 => Q .nx m2
def kNx (Q : Ctl → M → Prop) (_ : Unit) (m : M) : Prop := Q .nx m
theorem w_sAsg {e : E Val} {t : Arg → E Unit} {Q : Ctl → M → Prop} : Wp (sAsg e t) m Q = Wp e m (kAsg t Q) := by
  with_unfolding_all
    unfold sAsg; rw [wp_bind]; congr 1; funext x m'; rw [wp_bind]; unfold kAsg wArg; congr 1; funext a m2; rw [wp_bind]; rfl
theorem kAsg_eq {t : Arg → E Unit} {Q : Ctl → M → Prop} : kAsg t Q x m = wArg x m (kAsg2 t Q) := by with_unfolding_all rfl
theorem kAsg2_eq {t : Arg → E Unit} {a : Arg} {Q : Ctl → M → Prop} : kAsg2 t Q a m = Wp (t a) m (kNx Q) := by with_unfolding_all rfl
theorem kNx_eq {u : Unit} {Q : Ctl → M → Prop} : kNx Q u m = Q .nx m := by with_unfolding_all rfl
def lenGt : List Loc → Nat → Bool
  | [], _ => false
  | _ :: _, 0 => true
  | _ :: l, n + 1 => lenGt l n
theorem lenGt_iff : ∀ {l : List Loc} {n : Nat}, lenGt l n = decide (n < l.length)
  | [], n => by rw [List.length_nil, decide_eq_false (Nat.not_lt_zero n)]; rfl
  | _ :: _, 0 => by rw [decide_eq_true (by rw [List.length_cons]; omega)]; rfl
  | _ :: l, n + 1 => by
    show lenGt l n = _
    rw [lenGt_iff]
    exact decide_eq_decide.mpr (by rw [List.length_cons]; omega)
theorem lenGt_z {a : Loc} {l : List Loc} : lenGt (a :: l) 0 = true := by with_unfolding_all rfl
theorem lenGt_s {a : Loc} {l : List Loc} : lenGt (a :: l) (n + 1) = lenGt l n := by with_unfolding_all rfl
theorem w_tgN {a : Arg} {Q : Unit → M → Prop} : Wp (tgN i a) ⟨ρ, S⟩ Q = wG (lenGt ρ i) (Q () ⟨ρ.set i a.loc, S⟩) := by
  with_unfolding_all
    rw [lenGt_iff]
    unfold Wp tgN
    by_cases h : i < ρ.length
    · simp only [if_pos h, decide_eq_true h, wG]
    · simp only [if_neg h, decide_eq_false h, wG]
theorem loc_t : Arg.loc (.t d) = .t d := by with_unfolding_all rfl
theorem loc_s : Arg.loc (.s n) = .s n := by with_unfolding_all rfl
def wTs : List (Arg → E Unit) → List D → (Unit → M → Prop) → M → Prop
  | [], [], Q, m => Q () m
  | t :: ts, d :: ds, Q, m => Wp (t (.t d)) m fun _ m' => wTs ts ds Q m'
  | _, _, _, _ => False
def kTs (ts : List (Arg → E Unit)) (ds : List D) (Q : Unit → M → Prop) (_ : Unit) (m : M) : Prop := wTs ts ds Q m
theorem wp_tgTs : ∀ {ts : List (Arg → E Unit)} {ds : List D} {Q : Unit → M → Prop} {m : M}, Wp (tgTs ts ds) m Q = wTs ts ds Q m
  | [], [], _, _ => by with_unfolding_all rfl
  | [], _ :: _, _, _ => by with_unfolding_all rfl
  | _ :: _, [], _, _ => by with_unfolding_all rfl
  | t :: ts, d :: ds, Q, m => by
    show Wp ((t (.t d)).bind fun _ => tgTs ts ds) m Q = _
    rw [wp_bind]
    unfold wTs
    congr 1
    funext u m'
    exact wp_tgTs
theorem wTs_nil {Q : Unit → M → Prop} : wTs [] [] Q m = Q () m := by with_unfolding_all rfl
theorem wTs_cons {t : Arg → E Unit} {ts : List (Arg → E Unit)} {ds : List D} {Q : Unit → M → Prop} : wTs (t :: ts) (d :: ds) Q m = Wp (t (.t d)) m (kTs ts ds Q) := by with_unfolding_all rfl
theorem kTs_eq {ts : List (Arg → E Unit)} {ds : List D} {u : Unit} {Q : Unit → M → Prop} : kTs ts ds Q u m = wTs ts ds Q m := by with_unfolding_all rfl
theorem wTs_len : ∀ {ts : List (Arg → E Unit)} {ds : List D} {Q : Unit → M → Prop} {m : M}, ds.length ≠ ts.length → wTs ts ds Q m = False := by
  with_unfolding_all
    intro ts
    induction ts with
    | nil => intro ds Q m h; cases ds with | nil => exact absurd rfl h | cons => rfl
    | cons t ts ih =>
      intro ds Q m h
      cases ds with
      | nil => rfl
      | cons d ds =>
        unfold wTs Wp
        cases t (.t d) m with
        | no => rfl
        | ok u m' => exact ih fun e => h (by rw [List.length_cons, List.length_cons, e])
theorem w_tgTup {ts : List (Arg → E Unit)} {ds : List D} {Q : Unit → M → Prop} : Wp (tgTup ts (.t (.tup ds))) m Q = wTs ts ds Q m := by
  with_unfolding_all
    rw [← wp_tgTs]
    have e : tgTup ts (.t (.tup ds)) m = if ds.length = ts.length then tgTs ts ds m else .no := rfl
    by_cases h : ds.length = ts.length
    · rw [if_pos h] at e
      unfold Wp
      rw [e]
    · rw [wp_tgTs, wTs_len h]
      rw [if_neg h] at e
      unfold Wp
      rw [e]
def kOwnN (i : Nat) (Q : Ctl → M → Prop) (d : D) (m : M) : Prop := wG (lenGt m.ρ i) (Q .nx ⟨m.ρ.set i (.own d), m.S⟩)
theorem w_setOwn {f : E D} {Q : Ctl → M → Prop} : Wp (setOwn i f) m Q = Wp f m (kOwnN i Q) := by
  with_unfolding_all
    unfold setOwn; rw [wp_bind]; congr 1; funext d m'; unfold kOwnN; rw [lenGt_iff]
    unfold Wp
    by_cases h : i < m'.ρ.length
    · simp only [if_pos h, decide_eq_true h, wG]
    · simp only [if_neg h, decide_eq_false h, wG]
theorem kOwnN_eq {Q : Ctl → M → Prop} : kOwnN i Q d ⟨ρ, S⟩ = wG (lenGt ρ i) (Q .nx ⟨ρ.set i (.own d), S⟩) := by with_unfolding_all rfl
def kShN (i : Nat) (Q : Ctl → M → Prop) (d : D) (m : M) : Prop := wG (lenGt m.ρ i) (Q .nx ⟨m.ρ.set i (.s m.S.length), m.S ++ [d]⟩)
theorem w_setSh {f : E D} {Q : Ctl → M → Prop} : Wp (setSh i f) m Q = Wp f m (kShN i Q) := by
  with_unfolding_all
    unfold setSh; rw [wp_bind]; congr 1; funext d m'; unfold kShN; rw [lenGt_iff]
    unfold Wp
    by_cases h : i < m'.ρ.length
    · simp only [if_pos h, decide_eq_true h, wG]
    · simp only [if_neg h, decide_eq_false h, wG]
theorem kShN_eq {Q : Ctl → M → Prop} : kShN i Q d ⟨ρ, S⟩ = wG (lenGt ρ i) (Q .nx ⟨ρ.set i (.s S.length), S ++ [d]⟩) := by with_unfolding_all rfl
theorem w_nDk {Q : D → M → Prop} : Wp nDk m Q = Q (.dk []) m := by with_unfolding_all rfl
theorem w_nDt {Q : D → M → Prop} : Wp nDt m Q = Q (.dt []) m := by with_unfolding_all rfl
end
end MF
set_option Elab.async false
set_option linter.all false
set_option maxRecDepth 100000
set_option maxHeartbeats 4000000
namespace MF
open PySem L2
section
variable {α : Type} {m : M} {ρ : List Loc} {S : List D} {i n : Nat} {d e : D} {x y : Val} {tg : Arg → E Unit} {body : E Ctl}
/-! # loops -/
def kFor (tg : Arg → E Unit) (body : E Ctl) (Q : Ctl → M → Prop) (items : List D) (m : M) : Prop := Wp (forLoop tg body items) m Q
theorem w_sFor {src : E (List D)} {Q : Ctl → M → Prop} : Wp (sFor src tg body) m Q = Wp src m (kFor tg body Q) := by with_unfolding_all exact wp_bind
theorem kFor_eq {items : List D} {Q : Ctl → M → Prop} : kFor tg body Q items m = Wp (forLoop tg body items) m Q := by with_unfolding_all rfl
def turn (tg : Arg → E Unit) (body : E Ctl) (d : D) : E Ctl := (tg (.t d)).bind fun _ => body
def kBody (body : E Ctl) (Q : Ctl → M → Prop) (_ : Unit) (m : M) : Prop := Wp body m Q
theorem w_turn {Q : Ctl → M → Prop} : Wp (turn tg body d) m Q = Wp (tg (.t d)) m (kBody body Q) := by with_unfolding_all exact wp_bind
theorem kBody_eq {u : Unit} {Q : Ctl → M → Prop} : kBody body Q u m = Wp body m Q := by with_unfolding_all rfl
def stepK (J : M → Prop) (Q : Ctl → M → Prop) (c : Ctl) (m : M) : Prop := match c with
  | .nx => J m
  | .ct => J m
  | .bk => Q .nx m
  | .rt a => Q (.rt a) m
theorem stepK_nx {J : M → Prop} {Q : Ctl → M → Prop} : stepK J Q .nx m = J m := by with_unfolding_all rfl
theorem stepK_ct {J : M → Prop} {Q : Ctl → M → Prop} : stepK J Q .ct m = J m := by with_unfolding_all rfl
theorem stepK_bk {J : M → Prop} {Q : Ctl → M → Prop} : stepK J Q .bk m = Q .nx m := by with_unfolding_all rfl
theorem stepK_rt {J : M → Prop} {Q : Ctl → M → Prop} {a : Arg} : stepK J Q (.rt a) m = Q (.rt a) m := by with_unfolding_all rfl
def forJ (tg : Arg → E Unit) (body : E Ctl) (ds : List D) (Q : Ctl → M → Prop) (m : M) : Prop := Wp (forLoop tg body ds) m Q
theorem forJ_eq {ds : List D} {Q : Ctl → M → Prop} : forJ tg body ds Q m = Wp (forLoop tg body ds) m Q := by with_unfolding_all rfl
theorem w_forNil {Q : Ctl → M → Prop} : Wp (forLoop tg body []) m Q = Q .nx m := by with_unfolding_all rfl
theorem w_forCons {d : D} {ds : List D} {Q : Ctl → M → Prop} : Wp (forLoop tg body (d :: ds)) m Q = Wp (turn tg body d) m (stepK (forJ tg body ds Q) Q) := by
  with_unfolding_all
    show Wp ((tg (.t d)).bind fun _ => body.bind _) m Q = _
    unfold turn
    rw [wp_bind, wp_bind]
    congr 1
    funext u m1
    rw [wp_bind]
    congr 1
    funext c m2
    cases c <;> rfl
theorem wp_forL {tD : α → D} {Q : Ctl → M → Prop} (full : List α) (I : List α → M → Prop) (step : ∀ pre a post m, full = pre ++ a :: post → I pre m → Wp (turn tg body (tD a)) m (stepK (I (pre ++ [a])) Q)) (done : ∀ m, I full m → Q .nx m) :
    ∀ (l pre : List α) (m : M), full = pre ++ l → I pre m → Wp (forLoop tg body (l.map tD)) m Q
  | [], pre, m, e, h => by
    rw [List.append_nil] at e
    subst e
    rw [List.map_nil, w_forNil]
    exact done m h
  | a :: l, pre, m, e, h => by
    rw [List.map_cons, w_forCons]
    refine wp_mono (step pre a l m e h) fun c m1 hc => ?_
    cases c with
    | nx => exact wp_forL full I step done l (pre ++ [a]) m1 (by rw [e, List.append_assoc]; rfl) hc
    | ct => exact wp_forL full I step done l (pre ++ [a]) m1 (by rw [e, List.append_assoc]; rfl) hc
    | bk => exact hc
    | rt _ => exact hc
/-- a loop over the items tD of l; I tells what holds behind a part of them -/
theorem wp_for {tD : α → D} {l : List α} {Q : Ctl → M → Prop} (I : List α → M → Prop) (h0 : I [] m) (step : ∀ pre a post m, l = pre ++ a :: post → I pre m → Wp (turn tg body (tD a)) m (stepK (I (pre ++ [a])) Q)) (done : ∀ m, I l m → Q .nx m) : Wp (forLoop tg body (l.map tD)) m Q := wp_forL l I step done l [] m rfl h0
/-- a loop whose turns keep something -/
theorem wp_forI {tD : α → D} {l : List α} {Q : Ctl → M → Prop} (I : M → Prop) (h0 : I m) (step : ∀ a m, a ∈ l → I m → Wp (turn tg body (tD a)) m (stepK I Q)) (done : ∀ m, I m → Q .nx m) : Wp (forLoop tg body (l.map tD)) m Q :=
  wp_for (fun _ => I) h0 (fun pre a post m e h => step a m (by rw [e]; exact List.mem_append_right _ List.mem_cons_self) h) done
theorem rangeD_map (lo : Nat) (n : Nat) : rangeD (lo : Int) n = (List.range n).map fun (k : Nat) => D.int ((lo + k : Nat) : Int) := by
  with_unfolding_all
    unfold rangeD
    exact List.map_congr_left fun i _ => by rw [Int.natCast_add]
theorem range_split {n : Nat} {pre : List Nat} {a : Nat} {post : List Nat} (h : List.range n = pre ++ a :: post) : pre = List.range a ∧ a < n := by
  with_unfolding_all
    have h1 : pre.length < n := by have := congrArg List.length h; rw [List.length_range, List.length_append, List.length_cons] at this; omega
    have h2 : (List.range n)[pre.length]? = some a := by rw [h, List.getElem?_append_right (Nat.le_refl _), Nat.sub_self]; rfl
    rw [List.getElem?_range h1] at h2
    have h3 : pre.length = a := Option.some.inj h2
    refine ⟨?_, by omega⟩
    have h4 : (List.range n).take pre.length = pre := by rw [h, List.take_left']; rfl
    rw [← h4, List.take_range, h3, Nat.min_eq_left (by omega)]
/-- a loop over range(lo, lo + n) -/
theorem wp_rangeL {lo n : Nat} {Q : Ctl → M → Prop} (I : Nat → M → Prop) (h0 : I lo m) (step : ∀ k m, lo ≤ k → k < lo + n → I k m → Wp (turn tg body (.int (k : Int))) m (stepK (I (k + 1)) Q)) (done : ∀ m, I (lo + n) m → Q .nx m) : Wp (forLoop tg body (rangeD (lo : Int) n)) m Q := by
  with_unfolding_all
    rw [rangeD_map]
    refine wp_for (fun pre => I (lo + pre.length)) h0 (fun pre a post m e h => ?_) (fun m h => done m (by rw [List.length_range] at h; exact h))
    obtain ⟨rfl, ha⟩ := range_split e
    rw [List.length_append, List.length_range, List.length_singleton]
    rw [List.length_range] at h
    exact step (lo + a) m (by omega) (by omega) h
theorem wp_range {n : Nat} {Q : Ctl → M → Prop} (I : Nat → M → Prop) (h0 : I 0 m) (step : ∀ k m, k < n → I k m → Wp (turn tg body (.int (k : Int))) m (stepK (I (k + 1)) Q)) (done : ∀ m, I n m → Q .nx m) : Wp (forLoop tg body (rangeD 0 n)) m Q :=
  wp_rangeL (lo := 0) I h0 (fun k m _ h => step k m (by omega)) (fun m h => done m (by rw [Nat.zero_add] at h; exact h))
def whJ (c : E Bool) (body : E Ctl) (n : Nat) (Q : Ctl → M → Prop) (m : M) : Prop := Wp (whileLoop c body n) m Q
theorem whJ_eq {c : E Bool} {Q : Ctl → M → Prop} : whJ c body n Q m = Wp (whileLoop c body n) m Q := by with_unfolding_all rfl
def kWh (c : E Bool) (body : E Ctl) (n : Nat) (Q : Ctl → M → Prop) (b : Bool) (m : M) : Prop := wIf b (Wp body m (stepK (whJ c body n Q) Q)) (Q .nx m)
theorem w_while {c : E Bool} {Q : Ctl → M → Prop} : Wp (whileLoop c body (n + 1)) m Q = Wp c m (kWh c body n Q) := by
  with_unfolding_all
    show Wp (c.bind _) m Q = _
    rw [wp_bind]
    congr 1
    funext b m1
    cases b with
    | false => rfl
    | true =>
      show Wp (body.bind _) m1 Q = Wp body m1 _
      rw [wp_bind]
      congr 1
      funext c m2
      cases c <;> rfl
def whK (J : M → Prop) (body : E Ctl) (Q : Ctl → M → Prop) (b : Bool) (m : M) : Prop := wIf b (Wp body m (stepK J Q)) (Q .nx m)
theorem whK_t {J : M → Prop} {Q : Ctl → M → Prop} : whK J body Q true m = Wp body m (stepK J Q) := by with_unfolding_all rfl
theorem whK_f {J : M → Prop} {Q : Ctl → M → Prop} : whK J body Q false m = Q .nx m := by with_unfolding_all rfl
theorem whK_s {J : M → Prop} {Q : Ctl → M → Prop} {b : Bool} (h1 : b = true → Wp body m (stepK J Q)) (h2 : b = false → Q .nx m) : whK J body Q b m := by
  with_unfolding_all
    cases b with
    | false => exact h2 rfl
    | true => exact h1 rfl
theorem kWh_t {c : E Bool} {Q : Ctl → M → Prop} : kWh c body n Q true m = Wp body m (stepK (whJ c body n Q) Q) := by with_unfolding_all rfl
theorem kWh_f {c : E Bool} {Q : Ctl → M → Prop} : kWh c body n Q false m = Q .nx m := by with_unfolding_all rfl
/-- a while with a number that falls -/
theorem wp_while {c : E Bool} {Q : Ctl → M → Prop} (I : Nat → M → Prop) (step : ∀ k m, I k m → Wp c m (whK (fun m' => ∃ k', k' < k ∧ I k' m') body Q)) : ∀ (fuel k : Nat) (m : M), k < fuel → I k m → Wp (whileLoop c body fuel) m Q
  | 0, k, m, h, _ => absurd h (Nat.not_lt_zero k)
  | fuel + 1, k, m, h, hI => by
    rw [w_while]
    refine wp_mono (step k m hI) fun b m1 hb => ?_
    cases b with
    | false => exact hb
    | true =>
      refine wp_mono (show Wp body m1 _ from hb) fun c m2 hc => ?_
      cases c with
      | nx => obtain ⟨k', h1, h2⟩ := hc; exact wp_while I step fuel k' m2 (by omega) h2
      | ct => obtain ⟨k', h1, h2⟩ := hc; exact wp_while I step fuel k' m2 (by omega) h2
      | bk => exact hc
      | rt _ => exact hc
/-! # comprehensions -/
def kLc (own : List Nat) (tg : Arg → E Unit) (ifs : E Bool) (elt : E Val) (Q : D → M → Prop) (items : List D) (m : M) : Prop := match lcLoop own tg ifs elt items m with
  | .ok r m' => if sizeOk items.length then Q (.lst r) ⟨restL m.ρ own m'.ρ, m'.S⟩ else False
  | .no => False
theorem w_nLc {own : List Nat} {src : E (List D)} {ifs : E Bool} {elt : E Val} {Q : D → M → Prop} : Wp (nLc own src tg ifs elt) m Q = Wp src m (kLc own tg ifs elt Q) := by
  with_unfolding_all
    unfold nLc
    rw [wp_bind]
    congr 1
    funext items m1
    unfold kLc Wp
    cases h : lcLoop own tg ifs elt items m1 with
    | no => simp only [h]
    | ok r m' =>
      simp only [h]
      by_cases hz : sizeOk items.length = true
      · simp only [if_pos hz]
      · simp only [if_neg hz]
def kLt (ifs : E Bool) (elt : E Val) (Q : Option D → M → Prop) (_ : Unit) (m : M) : Prop := Wp (ifs.bind fun b => if b then elt.bind fun x => (asD x).bind fun y => .ret (some y) else .ret none) m Q
def kLt2 (elt : E Val) (Q : Option D → M → Prop) (b : Bool) (m : M) : Prop := Wp (if b then elt.bind fun x => (asD x).bind fun y => .ret (some y) else .ret none) m Q
def kLt3 (Q : Option D → M → Prop) (x : Val) (m : M) : Prop := wAsD x m fun d m' => Q (some d) m'
def kLt4 (Q : Option D → M → Prop) (d : D) (m : M) : Prop := Q (some d) m
theorem w_lcTurn {ifs : E Bool} {elt : E Val} {Q : Option D → M → Prop} : Wp (lcTurn tg ifs elt d) m Q = Wp (tg (.t d)) m (kLt ifs elt Q) := by with_unfolding_all exact wp_bind
theorem kLt_eq {ifs : E Bool} {elt : E Val} {u : Unit} {Q : Option D → M → Prop} : kLt ifs elt Q u m = Wp ifs m (kLt2 elt Q) := by with_unfolding_all exact wp_bind
theorem kLt2_eq {elt : E Val} {b : Bool} {Q : Option D → M → Prop} : kLt2 elt Q b m = wIf b (Wp elt m (kLt3 Q)) (Q none m) := by
  with_unfolding_all
    cases b with
    | false => rfl
    | true =>
      show Wp (elt.bind _) m Q = Wp elt m _
      rw [wp_bind]
      congr 1
      funext x m'
      rw [wp_bind]; rfl
theorem kLt2_t {elt : E Val} {Q : Option D → M → Prop} : kLt2 elt Q true m = Wp elt m (kLt3 Q) := kLt2_eq
theorem kLt2_f {elt : E Val} {Q : Option D → M → Prop} : kLt2 elt Q false m = Q none m := kLt2_eq
theorem kLt2_s {elt : E Val} {Q : Option D → M → Prop} {b : Bool} (h1 : b = true → Wp elt m (kLt3 Q)) (h2 : b = false → Q none m) : kLt2 elt Q b m := by
  with_unfolding_all
    cases b with
    | false => rw [kLt2_f]; exact h2 rfl
    | true => rw [kLt2_t]; exact h1 rfl
theorem kLt3_eq {Q : Option D → M → Prop} : kLt3 Q x m = wAsD x m (kLt4 Q) := by with_unfolding_all rfl
theorem kLt4_eq {Q : Option D → M → Prop} : kLt4 Q d m = Q (some d) m := by with_unfolding_all rfl
theorem w_ifsYes {Q : Bool → M → Prop} : Wp ifsYes m Q = Q true m := by with_unfolding_all rfl
def lcK (own : List Nat) (ρ : List Loc) (J : Option D → List D → Prop) (o : Option D) (m : M) : Prop := wipeL own m.ρ = wipeL own ρ ∧ J o m.S
theorem lcK_eq {own : List Nat} {ρ ρ' : List Loc} {J : Option D → List D → Prop} {o : Option D} : lcK own ρ J o ⟨ρ', S⟩ = (wipeL own ρ' = wipeL own ρ ∧ J o S) := by with_unfolding_all rfl
theorem wipeL_idem (own : List Nat) (ρ : List Loc) : wipeL own (wipeL own ρ) = wipeL own ρ := by
  with_unfolding_all
    refine List.ext_getElem? fun i => ?_
    by_cases hi : i ∈ own
    · cases h1 : (wipeL own ρ)[i]? with
      | none =>
        have := List.getElem?_eq_none_iff.mp h1
        rw [wipeL_length] at this
        exact List.getElem?_eq_none (by rw [wipeL_length, wipeL_length]; exact this)
      | some l =>
        have hl := wipeL_in hi h1
        have hlt : i < (wipeL own (wipeL own ρ)).length := by rw [wipeL_length]; exact (List.getElem?_eq_some_iff.mp h1).1
        have h2 := List.getElem?_eq_getElem hlt
        have h3 := wipeL_in hi h2
        rw [h2, h3, hl]
    · rw [wipeL_out hi]
theorem wp_lcL {own : List Nat} {ifs : E Bool} {elt : E Val} {tD : α → D} (ρ : List Loc) (full : List α) (I : List α → List D → List D → Prop) (step : ∀ pre a post ys S, full = pre ++ a :: post → I pre ys S → Wp (lcTurn tg ifs elt (tD a)) ⟨wipeL own ρ, S⟩ (lcK own ρ fun o S' => I (pre ++ [a]) (ys ++ o.toList) S')) :
    ∀ (l pre : List α) (ys : List D) (m : M), full = pre ++ l → I pre ys m.S → wipeL own m.ρ = wipeL own ρ → ∃ r m', lcLoop own tg ifs elt (l.map tD) m = .ok r m' ∧ wipeL own m'.ρ = wipeL own ρ ∧ I full (ys ++ r) m'.S
  | [], pre, ys, m, e, h, hw => ⟨[], m, rfl, hw, by rw [List.append_nil] at e ⊢; subst e; exact h⟩
  | a :: l, pre, ys, m, e, h, hw => by
    obtain ⟨o, m1, e1, h1, h2⟩ := wp_ex (step pre a l ys m.S e h)
    obtain ⟨r, m2, e2, h3, h4⟩ := wp_lcL ρ full I step l (pre ++ [a]) (ys ++ o.toList) m1 (by rw [e, List.append_assoc]; rfl) h2 h1
    refine ⟨o.toList ++ r, m2, ?_, h3, by rw [← List.append_assoc]; exact h4⟩
    show (lcTurn tg ifs elt (tD a)).bind _ ⟨wipeL own m.ρ, m.S⟩ = _
    rw [hw, bind_eq e1, bind_eq e2]; rfl
/-- a comprehension; I tells of a part of the items, what they gave, the store -/
theorem wp_lc {own : List Nat} {ifs : E Bool} {elt : E Val} {Q : D → M → Prop} {tD : α → D} {l : List α} (I : List α → List D → List D → Prop) (hz : l.length ≤ 16000000) (h0 : I [] [] S) (step : ∀ pre a post ys S, l = pre ++ a :: post → I pre ys S → Wp (lcTurn tg ifs elt (tD a)) ⟨wipeL own ρ, S⟩ (lcK own ρ fun o S' => I (pre ++ [a]) (ys ++ o.toList) S'))
    (done : ∀ ys S', I l ys S' → Q (.lst ys) ⟨restL ρ own ρ, S'⟩) : kLc own tg ifs elt Q (l.map tD) ⟨ρ, S⟩ := by
  with_unfolding_all
    obtain ⟨r, m', e, h1, h2⟩ := wp_lcL ρ l I step l [] [] ⟨ρ, S⟩ rfl h0 rfl
    unfold kLc
    rw [e]
    have hz' : sizeOk (l.map tD).length = true := decide_eq_true (by rw [List.length_map]; exact hz)
    simp only [if_pos hz']
    have hr : restL ρ own m'.ρ = restL ρ own ρ := by rw [← restL_wipeL, h1, restL_wipeL]
    rw [hr]
    exact done _ _ h2
/-- .. that leaves the store, and gives f -/
theorem wp_lcP {own : List Nat} {ifs : E Bool} {elt : E Val} {Q : D → M → Prop} {tD : α → D} {l : List α} (f : α → Option D) (hz : l.length ≤ 16000000) (step : ∀ a, a ∈ l → Wp (lcTurn tg ifs elt (tD a)) ⟨wipeL own ρ, S⟩ (lcK own ρ fun o S' => o = f a ∧ S' = S)) (done : Q (.lst (l.filterMap f)) ⟨restL ρ own ρ, S⟩) : kLc own tg ifs elt Q (l.map tD) ⟨ρ, S⟩ := by
  with_unfolding_all
    refine wp_lc (fun pre ys S' => ys = pre.filterMap f ∧ S' = S) hz ⟨rfl, rfl⟩ (fun pre a post ys S' e h => ?_) (fun ys S' h => ?_)
    · obtain ⟨rfl, rfl⟩ := h
      refine wp_mono (step a (by rw [e]; exact List.mem_append_right _ List.mem_cons_self)) fun o m1 h1 => ⟨h1.1, ?_, h1.2.2⟩
      rw [h1.2.1, List.filterMap_append]
      congr 1
    · obtain ⟨rfl, rfl⟩ := h
      exact done
theorem fmap_some {β γ : Type} (f : β → γ) : ∀ l : List β, l.filterMap (fun a => some (f a)) = l.map f
  | [] => rfl
  | a :: l => by rw [List.filterMap_cons_some (f := fun a => some (f a)) rfl, List.map_cons, fmap_some f l]
/-- .. without a condition -/
theorem wp_lcM {own : List Nat} {ifs : E Bool} {elt : E Val} {Q : D → M → Prop} {tD : α → D} {l : List α} (f : α → D) (hz : l.length ≤ 16000000) (step : ∀ a, a ∈ l → Wp (lcTurn tg ifs elt (tD a)) ⟨wipeL own ρ, S⟩ (lcK own ρ fun o S' => o = some (f a) ∧ S' = S)) (done : Q (.lst (l.map f)) ⟨restL ρ own ρ, S⟩) : kLc own tg ifs elt Q (l.map tD) ⟨ρ, S⟩ :=
  wp_lcP (fun a => some (f a)) hz step (by rw [fmap_some]; exact done)
/-! # changes -/
def wMuO (o : Option Loc) (f : D → List D → Option (D × D)) (i : Nat) (as : E (List Val)) (Q : Val → M → Prop) (m : M) : Prop := Wp (eMut f (fun _ => match o with | some (.own _) => .ok (.o i) m | some (.s n) => .ok (.s n) m | _ => .no) as) m Q
def kMu2 (f : D → List D → Option (D × D)) (i : Nat) (Q : Val → M → Prop) (xs : List Val) (m : M) : Prop := wAsDs xs m fun ds m' => match m'.ρ[i]? with
  | some (.own c) => wOpt (f c ds) fun z => Q (.t z.2) ⟨m'.ρ.set i (.own z.1), m'.S⟩
  | _ => False
def kMu3 (f : D → List D → Option (D × D)) (i : Nat) (Q : Val → M → Prop) (ds : List D) (m : M) : Prop := match m.ρ[i]? with
  | some (.own c) => wOpt (f c ds) fun z => Q (.t z.2) ⟨m.ρ.set i (.own z.1), m.S⟩
  | _ => False
def wMu4 (o : Option Loc) (f : D → List D → Option (D × D)) (i : Nat) (Q : Val → M → Prop) (ds : List D) (m : M) : Prop := match o with
  | some (.own c) => wOpt (f c ds) fun z => Q (.t z.2) ⟨m.ρ.set i (.own z.1), m.S⟩
  | _ => False
theorem wMu4_congr {o o' : Option Loc} {f : D → List D → Option (D × D)} {Q : Val → M → Prop} {ds : List D} (h : o = o') : wMu4 o f i Q ds m = wMu4 o' f i Q ds m := by with_unfolding_all (rw [h])
def kMu5 (i : Nat) (Q : Val → M → Prop) (m : M) (z : D × D) : Prop := Q (.t z.2) ⟨m.ρ.set i (.own z.1), m.S⟩
/-- name.method(..) on a list of the def's own -/
theorem w_eMutN {f : D → List D → Option (D × D)} {as : E (List Val)} {Q : Val → M → Prop} {c : D} (h : m.ρ[i]? = some (.own c)) (hc : isLstD c = true) : Wp (eMut f (eN i) as) m Q = Wp as m fun xs m1 => wAsDs xs m1 fun ds m' => Wp ((rd (.o i)).bind fun c => (E.opt (f c ds)).bind fun z => (putD (.o i) z.1).bind fun _ => .ret (.t z.2)) m' Q := by
  with_unfolding_all
    unfold eMut
    rw [wp_bind, w_eN, h, wN_o, wp_bind, wp_rd]
    have hd : dat (.o i) m = some c := by unfold dat; simp only [h]
    unfold wRd
    rw [hd, wOpt_some, if_pos hc, wp_bind]
    congr 1
    funext xs m1
    rw [wp_bind]; rfl
theorem put_own {c d : D} (h : m.ρ[i]? = some (.own c)) : putD (.o i) d m = .ok () ⟨m.ρ.set i (.own d), m.S⟩ := by with_unfolding_all (unfold putD; simp only [h])
theorem mu_fin {f : D → List D → Option (D × D)} {Q : Val → M → Prop} {c : D} {ds : List D} (h : m.ρ[i]? = some (.own c)) : Wp ((rd (.o i)).bind fun c => (E.opt (f c ds)).bind fun z => (putD (.o i) z.1).bind fun _ => .ret (.t z.2)) m Q = wOpt (f c ds) (kMu5 i Q m) := by
  with_unfolding_all
    rw [wp_bind, wp_rd]
    have hd : dat (.o i) m = some c := by unfold dat; simp only [h]
    unfold wRd
    rw [hd, wOpt_some, wp_bind, wp_opt]
    congr 1
    funext z
    rw [wp_bind]
    unfold Wp
    rw [put_own h]
    rfl
def kMuA (f : D → List D → Option (D × D)) (i : Nat) (Q : Val → M → Prop) (xs : List Val) (m : M) : Prop := wAsDs xs m fun ds m' => Wp ((rd (.o i)).bind fun c => (E.opt (f c ds)).bind fun z => (putD (.o i) z.1).bind fun _ => .ret (.t z.2)) m' Q
def kMuB (f : D → List D → Option (D × D)) (i : Nat) (Q : Val → M → Prop) (ds : List D) (m : M) : Prop := Wp ((rd (.o i)).bind fun c => (E.opt (f c ds)).bind fun z => (putD (.o i) z.1).bind fun _ => .ret (.t z.2)) m Q
def wMuA (o : Option Loc) (f : D → List D → Option (D × D)) (i : Nat) (as : E (List Val)) (Q : Val → M → Prop) (m : M) : Prop := match o with
  | some (.own (.lst _)) => Wp as m (kMuA f i Q)
  | _ => Wp (eMut f (eN i) as) m Q
theorem wMuA_congr {o o' : Option Loc} {f : D → List D → Option (D × D)} {as : E (List Val)} {Q : Val → M → Prop} (h : o = o') : wMuA o f i as Q m = wMuA o' f i as Q m := by with_unfolding_all (rw [h])
theorem w_eMut {f : D → List D → Option (D × D)} {as : E (List Val)} {Q : Val → M → Prop} : Wp (eMut f (eN i) as) m Q = wMuA m.ρ[i]? f i as Q m := by
  with_unfolding_all
    cases h : m.ρ[i]? with
    | none => rfl
    | some l =>
      cases l with
      | own c =>
        cases c with
        | lst xs => exact w_eMutN h rfl
        | _ => rfl
      | _ => rfl
theorem wMuA_own {xs : List D} {f : D → List D → Option (D × D)} {as : E (List Val)} {Q : Val → M → Prop} : wMuA (some (.own (.lst xs))) f i as Q m = Wp as m (kMuA f i Q) := by with_unfolding_all rfl
theorem kMuA_eq {xs : List Val} {f : D → List D → Option (D × D)} {Q : Val → M → Prop} : kMuA f i Q xs m = wAsDs xs m (kMuB f i Q) := by with_unfolding_all rfl
def wMuB (o : Option Loc) (f : D → List D → Option (D × D)) (i : Nat) (Q : Val → M → Prop) (ds : List D) (m : M) : Prop := match o with
  | some (.own c) => wOpt (f c ds) (kMu5 i Q m)
  | _ => kMuB f i Q ds m
theorem wMuB_congr {o o' : Option Loc} {f : D → List D → Option (D × D)} {Q : Val → M → Prop} {ds : List D} (h : o = o') : wMuB o f i Q ds m = wMuB o' f i Q ds m := by with_unfolding_all (rw [h])
theorem kMuB_eq {ds : List D} {f : D → List D → Option (D × D)} {Q : Val → M → Prop} : kMuB f i Q ds ⟨ρ, S⟩ = wMuB ρ[i]? f i Q ds ⟨ρ, S⟩ := by
  with_unfolding_all
    cases h : ρ[i]? with
    | none => rfl
    | some l =>
      cases l with
      | own c => exact mu_fin (m := ⟨ρ, S⟩) h
      | _ => rfl
theorem wMuB_own {c : D} {f : D → List D → Option (D × D)} {Q : Val → M → Prop} {ds : List D} : wMuB (some (.own c)) f i Q ds m = wOpt (f c ds) (kMu5 i Q m) := by with_unfolding_all rfl
theorem kMu5_eq {Q : Val → M → Prop} {c v : D} : kMu5 i Q ⟨ρ, S⟩ (c, v) = Q (.t v) ⟨ρ.set i (.own c), S⟩ := by with_unfolding_all rfl
theorem wg_if {β : Type} {b : Bool} {x : β} {k : β → Prop} : wOpt (if b = true then some x else none) k = wG b (k x) := by with_unfolding_all (cases b <;> rfl)
theorem w_append {xs : List D} {k : D × D → Prop} : wOpt (mAppend (.lst xs) [d]) k = wG (sizeOk xs.length) (k (.lst (xs ++ [d]), .non)) := wg_if
theorem w_extend {xs ys : List D} {k : D × D → Prop} : wOpt (mExtend (.lst xs) [.lst ys]) k = wG (sizeOk (xs.length + ys.length)) (k (.lst (xs ++ ys), .non)) := wg_if
theorem w_addT {xs ys : List D} {k : D → Prop} : wOpt (dAdd (.tup xs) (.tup ys)) k = wG (sizeOk (xs.length + ys.length)) (k (.tup (xs ++ ys))) := wg_if
theorem w_addL {xs ys : List D} {k : D → Prop} : wOpt (dAdd (.lst xs) (.lst ys)) k = wG (sizeOk (xs.length + ys.length)) (k (.lst (xs ++ ys))) := wg_if
theorem w_addS {a b : Str} {k : D → Prop} : wOpt (dAdd (.str a) (.str b)) k = wG (sizeOk (a.length + b.length)) (k (.str (a ++ b))) := wg_if
theorem w_mod {a b : Int} {k : D → Prop} : wOpt (dMod (.int a) (.int b)) k = wG (modOk a b) (k (.int (a % b))) := wg_if
theorem w_mul {a b : Int} {k : D → Prop} : wOpt (dMul (.int a) (.int b)) k = wG (mulOk a b) (k (.int (a * b))) := wg_if
theorem w_fdiv {a b : Int} {k : D → Prop} : wOpt (dFdiv (.int a) (.int b)) k = wG (divOk a b) (k (.int (a / b))) := wg_if
theorem wG_sz {n : Nat} {P : Prop} (h : n ≤ 16000000) (p : P) : wG (sizeOk n) P := by with_unfolding_all (rw [show sizeOk n = true from decide_eq_true h]; exact p)
theorem wG_of {b : Bool} {P : Prop} (h : b = true) (p : P) : wG b P := by with_unfolding_all (rw [h]; exact p)
theorem put_s {c : D} : putD (.s n) c m = if n < m.S.length then .ok () ⟨m.ρ, m.S.set n c⟩ else .no := by with_unfolding_all rfl
/-! item stores -/
def kSub1 (ix : E Val) (v : D) (Q : Unit → M → Prop) (x : Val) (m : M) : Prop := Wp ix m fun y m1 => Wp ((rd x).bind fun c => (rd y).bind fun k => (E.opt (dPut c k v)).bind fun c' => putD x c') m1 Q
def kSub2 (x : Val) (v : D) (Q : Unit → M → Prop) (y : Val) (m : M) : Prop := Wp ((rd x).bind fun c => (rd y).bind fun k => (E.opt (dPut c k v)).bind fun c' => putD x c') m Q
theorem w_tgSub {o ix : E Val} {v : D} {Q : Unit → M → Prop} : Wp (tgSub o ix (.t v)) m Q = Wp o m (kSub1 ix v Q) := by
  with_unfolding_all
    unfold tgSub
    rw [wp_bind]
    congr 1
    funext x m1
    rw [wp_bind]
    unfold kSub1
    congr 1
theorem kSub1_eq {ix : E Val} {v : D} {Q : Unit → M → Prop} : kSub1 ix v Q x m = Wp ix m (kSub2 x v Q) := by with_unfolding_all rfl
def wSub (o : Option Loc) (i : Nat) (v k : D) (Q : Unit → M → Prop) (m : M) : Prop := match o with
  | some (.own c) => wOpt (dPut c k v) fun c' => Q () ⟨m.ρ.set i (.own c'), m.S⟩
  | _ => kSub2 (.o i) v Q (.t k) m
theorem wSub_congr {o o' : Option Loc} {v k : D} {Q : Unit → M → Prop} (h : o = o') : wSub o i v k Q m = wSub o' i v k Q m := by with_unfolding_all (rw [h])
def kSub5 (i : Nat) (Q : Unit → M → Prop) (m : M) (c : D) : Prop := Q () ⟨m.ρ.set i (.own c), m.S⟩
theorem kSub5_eq {c : D} {Q : Unit → M → Prop} : kSub5 i Q ⟨ρ, S⟩ c = Q () ⟨ρ.set i (.own c), S⟩ := by with_unfolding_all rfl
theorem kSub2_o {v k : D} {Q : Unit → M → Prop} : kSub2 (.o i) v Q (.t k) ⟨ρ, S⟩ = wSub ρ[i]? i v k Q ⟨ρ, S⟩ := by
  with_unfolding_all
    unfold wSub
    cases h : ρ[i]? with
    | none => rfl
    | some l =>
      cases l with
      | own c =>
        unfold kSub2
        rw [wp_bind, wp_rd]
        have hd : dat (.o i) ⟨ρ, S⟩ = some c := by unfold dat; simp only [h]
        unfold wRd
        rw [hd, wOpt_some, wp_bind, wp_rd, wRd_t, wp_bind, wp_opt]
        show wOpt _ _ = wOpt _ _
        congr 1
        funext c'
        unfold Wp
        rw [put_own (m := ⟨ρ, S⟩) h]
      | _ => rfl
theorem wSub_own {c v k : D} {Q : Unit → M → Prop} : wSub (some (.own c)) i v k Q m = wOpt (dPut c k v) (kSub5 i Q m) := by with_unfolding_all rfl
def kSub6 (n : Nat) (Q : Unit → M → Prop) (m : M) (c : D) : Prop := wG (decide (n < m.S.length)) (Q () ⟨m.ρ, m.S.set n c⟩)
theorem kSub2_s {v k : D} {Q : Unit → M → Prop} : kSub2 (.s n) v Q (.t k) ⟨ρ, S⟩ = wOpt S[n]? fun c => wOpt (dPut c k v) (kSub6 n Q ⟨ρ, S⟩) := by
  with_unfolding_all
    unfold kSub2
    rw [wp_bind, wp_rd, wRd_s]
    congr 1
    funext c
    rw [wp_bind, wp_rd, wRd_t, wp_bind, wp_opt]
    congr 1
    funext c'
    unfold Wp kSub6
    rw [put_s]
    by_cases h : n < (⟨ρ, S⟩ : M).S.length
    · rw [if_pos h, decide_eq_true h]; rfl
    · rw [if_neg h, decide_eq_false h]; rfl
/-! get -/
def kGet1 (e : E Val) (Q : Val → M → Prop) (x : Val) (m : M) : Prop := Wp ((rd x).bind fun d0 => if isDictD d0 then e.bind fun y => (rd x).bind fun d => (rd y).bind fun k => (E.opt (dGet1 d k)).bind fun z => .ret (.t z) else fun _ => .no) m Q
theorem w_eGet {o e : E Val} {Q : Val → M → Prop} : Wp (eGet o e) m Q = Wp o m (kGet1 e Q) := by with_unfolding_all exact wp_bind
theorem kGet1_t {e : E Val} {Q : Val → M → Prop} (h : isDictD d = true) : kGet1 e Q (.t d) m = Wp e m (kOp2 dGet1 (.t d) Q) := by
  with_unfolding_all
    unfold kGet1
    rw [wp_bind, wp_rd, wRd_t, if_pos h, wp_bind]; rfl
/-! several names at once -/
def wPar (l : List (Nat × E Itm)) (m : M) (k : Unit → M → Prop) : Prop := Wp (parE l) m k
def kPv (r : List (Nat × E Itm)) (i : Nat) (k : Unit → M → Prop) (x : Val) (m : M) : Prop := wArg x m fun a m1 => wPar r m1 fun _ m2 => wG (lenGt m2.ρ i) (k () ⟨m2.ρ.set i a.loc, m2.S⟩)
def kPv2 (r : List (Nat × E Itm)) (i : Nat) (k : Unit → M → Prop) (a : Arg) (m : M) : Prop := wPar r m fun _ m2 => wG (lenGt m2.ρ i) (k () ⟨m2.ρ.set i a.loc, m2.S⟩)
def kPv3 (i : Nat) (l : Loc) (k : Unit → M → Prop) (_ : Unit) (m : M) : Prop := wG (lenGt m.ρ i) (k () ⟨m.ρ.set i l, m.S⟩)
def kPo (r : List (Nat × E Itm)) (i : Nat) (k : Unit → M → Prop) (d : D) (m : M) : Prop := wPar r m fun _ m2 => wG (lenGt m2.ρ i) (k () ⟨m2.ρ.set i (.own d), m2.S⟩)
theorem w_sPar {l : List (Nat × E Itm)} {Q : Ctl → M → Prop} : Wp (sPar l) m Q = wPar l m (kNx Q) := by with_unfolding_all exact wp_bind
theorem wPar_nil {k : Unit → M → Prop} : wPar [] m k = k () m := by with_unfolding_all rfl
theorem wPar_v {f : E Val} {r : List (Nat × E Itm)} {k : Unit → M → Prop} : wPar ((i, kV' f) :: r) m k = Wp f m (kPv r i k) := by
  with_unfolding_all
    unfold wPar parE kV'
    rw [wp_bind, wp_bind]
    congr 1
    funext x m1
    rw [wp_bind]
    unfold kPv wArg
    congr 1
    funext a m2
    show Wp ((parE r).bind fun _ => setI i (.a a)) m2 k = _
    rw [wp_bind]
    unfold wPar
    congr 1
    funext u m3
    rw [lenGt_iff]
    unfold Wp setI
    by_cases h : i < m3.ρ.length
    · simp only [if_pos h, decide_eq_true h, wG]
    · simp only [if_neg h, decide_eq_false h, wG]
theorem wPar_o {f : E D} {r : List (Nat × E Itm)} {k : Unit → M → Prop} : wPar ((i, kOwn f) :: r) m k = Wp f m (kPo r i k) := by
  with_unfolding_all
    unfold wPar parE kOwn
    rw [wp_bind, wp_bind]
    congr 1
    funext d m1
    show Wp ((parE r).bind fun _ => setI i (.own d)) m1 k = _
    rw [wp_bind]
    unfold kPo wPar
    congr 1
    funext u m3
    rw [lenGt_iff]
    unfold Wp setI
    by_cases h : i < m3.ρ.length
    · simp only [if_pos h, decide_eq_true h, wG]
    · simp only [if_neg h, decide_eq_false h, wG]
theorem kPv_eq {r : List (Nat × E Itm)} {k : Unit → M → Prop} : kPv r i k x m = wArg x m (kPv2 r i k) := by with_unfolding_all rfl
theorem kPv2_eq {r : List (Nat × E Itm)} {k : Unit → M → Prop} {a : Arg} : kPv2 r i k a m = wPar r m (kPv3 i a.loc k) := by with_unfolding_all rfl
theorem kPo_eq {r : List (Nat × E Itm)} {k : Unit → M → Prop} : kPo r i k d m = wPar r m (kPv3 i (.own d) k) := by with_unfolding_all rfl
theorem kPv3_eq {l : Loc} {k : Unit → M → Prop} {u : Unit} : kPv3 i l k u ⟨ρ, S⟩ = wG (lenGt ρ i) (k () ⟨ρ.set i l, S⟩) := by with_unfolding_all rfl
/-! fields of an instance that is being made -/
def kFl1 (f : Str) (o : E Val) (Q : Ctl → M → Prop) (y : Val) (m : M) : Prop := wAsD y m fun d m1 => Wp o m1 fun x m2 => wRd x m2 fun c => wOpt (dPutF f c d) fun c' => Wp (putD x c') m2 fun _ m3 => Q .nx m3
def kFl2 (f : Str) (o : E Val) (Q : Ctl → M → Prop) (d : D) (m : M) : Prop := Wp o m fun x m2 => wRd x m2 fun c => wOpt (dPutF f c d) fun c' => Wp (putD x c') m2 fun _ m3 => Q .nx m3
def kFl3 (f : Str) (d : D) (Q : Ctl → M → Prop) (x : Val) (m : M) : Prop := wRd x m fun c => wOpt (dPutF f c d) fun c' => Wp (putD x c') m fun _ m3 => Q .nx m3
theorem w_sFldSet {f : Str} {o v : E Val} {Q : Ctl → M → Prop} : Wp (sFldSet f o v) m Q = Wp v m (kFl1 f o Q) := by
  with_unfolding_all
    unfold sFldSet
    rw [wp_bind]
    congr 1
    funext y m1
    unfold kFl1 wAsD
    rw [wp_bind]
    congr 1
    funext d m2
    rw [wp_bind]
    congr 1
    funext x m3
    rw [wp_bind, wp_rd]
    congr 1
    funext c
    rw [wp_bind, wp_opt]
    congr 1
    funext c'
    rw [wp_bind]; rfl
theorem kFl1_eq {f : Str} {o : E Val} {Q : Ctl → M → Prop} {y : Val} : kFl1 f o Q y m = wAsD y m (kFl2 f o Q) := by with_unfolding_all rfl
theorem kFl2_eq {f : Str} {o : E Val} {Q : Ctl → M → Prop} : kFl2 f o Q d m = Wp o m (kFl3 f d Q) := by with_unfolding_all rfl
def wFl (o : Option D) (f : Str) (d : D) (n : Nat) (Q : Ctl → M → Prop) (m : M) : Prop := wOpt o fun c => wOpt (dPutF f c d) fun c' => wG (decide (n < m.S.length)) (Q .nx ⟨m.ρ, m.S.set n c'⟩)
theorem kFl3_s {f : Str} {Q : Ctl → M → Prop} : kFl3 f d Q (.s n) ⟨ρ, S⟩ = wFl S[n]? f d n Q ⟨ρ, S⟩ := by
  with_unfolding_all
    unfold kFl3 wFl
    rw [wRd_s]
    congr 1
    funext c
    congr 1
    funext c'
    unfold Wp
    rw [put_s]
    by_cases h : n < (⟨ρ, S⟩ : M).S.length
    · rw [if_pos h, decide_eq_true h]; rfl
    · rw [if_neg h, decide_eq_false h]; rfl
theorem wFl_last {f : Str} {Q : Ctl → M → Prop} {c c' : D} (h : dPutF f c d = some c') : wFl (S ++ [c])[S.length]? f d S.length Q ⟨ρ, S ++ [c]⟩ = Q .nx ⟨ρ, S ++ [c']⟩ := by
  with_unfolding_all
    unfold wFl
    rw [last_get, wOpt_some, h, wOpt_some, last_set, decide_eq_true (by rw [List.length_append]; exact Nat.lt_succ_self _), wG_t]
/-! dict comprehensions -/
def kDc (own : List Nat) (tup : Bool) (tg : Arg → E Unit) (ifs : E Bool) (ek ev : E Val) (Q : D → M → Prop) (items : List D) (m : M) : Prop := match dcLoop own tg ifs ek ev (emptyD tup) items m with
  | .ok r m' => Q r ⟨restL m.ρ own m'.ρ, m'.S⟩
  | .no => False
theorem w_nDc {own : List Nat} {tup : Bool} {src : E (List D)} {ifs : E Bool} {ek ev : E Val} {Q : D → M → Prop} : Wp (nDc tup own src tg ifs ek ev) m Q = Wp src m (kDc own tup tg ifs ek ev Q) := by
  with_unfolding_all
    unfold nDc
    rw [wp_bind]
    congr 1
    funext items m1
    unfold kDc Wp
    cases h : dcLoop own tg ifs ek ev (emptyD tup) items m1 <;> simp only [h]
def kDt1 (ifs : E Bool) (ek ev : E Val) (Q : Option (D × D) → M → Prop) (_ : Unit) (m : M) : Prop := Wp (ifs.bind fun b => if b then ek.bind fun x => (asD x).bind fun kd => ev.bind fun y => (asD y).bind fun vd => .ret (some (kd, vd)) else .ret none) m Q
def kDt2 (ek ev : E Val) (Q : Option (D × D) → M → Prop) (b : Bool) (m : M) : Prop := Wp (if b then ek.bind fun x => (asD x).bind fun kd => ev.bind fun y => (asD y).bind fun vd => .ret (some (kd, vd)) else .ret none) m Q
def kDt3 (ev : E Val) (Q : Option (D × D) → M → Prop) (x : Val) (m : M) : Prop := wAsD x m fun kd m1 => Wp ev m1 fun y m2 => wAsD y m2 fun vd m3 => Q (some (kd, vd)) m3
def kDt4 (ev : E Val) (Q : Option (D × D) → M → Prop) (kd : D) (m : M) : Prop := Wp ev m fun y m2 => wAsD y m2 fun vd m3 => Q (some (kd, vd)) m3
def kDt5 (Q : Option (D × D) → M → Prop) (kd : D) (y : Val) (m : M) : Prop := wAsD y m fun vd m3 => Q (some (kd, vd)) m3
def kDt6 (Q : Option (D × D) → M → Prop) (kd vd : D) (m : M) : Prop := Q (some (kd, vd)) m
theorem w_dcTurn {ifs : E Bool} {ek ev : E Val} {Q : Option (D × D) → M → Prop} : Wp (dcTurn tg ifs ek ev d) m Q = Wp (tg (.t d)) m (kDt1 ifs ek ev Q) := by with_unfolding_all exact wp_bind
theorem kDt1_eq {ifs : E Bool} {ek ev : E Val} {u : Unit} {Q : Option (D × D) → M → Prop} : kDt1 ifs ek ev Q u m = Wp ifs m (kDt2 ek ev Q) := by with_unfolding_all exact wp_bind
theorem kDt2_eq {ek ev : E Val} {b : Bool} {Q : Option (D × D) → M → Prop} : kDt2 ek ev Q b m = wIf b (Wp ek m (kDt3 ev Q)) (Q none m) := by
  with_unfolding_all
    cases b with
    | false => rfl
    | true =>
      show Wp (ek.bind _) m Q = Wp ek m _
      rw [wp_bind]
      congr 1
      funext x m'
      unfold kDt3 wAsD
      rw [wp_bind]
      congr 1
      funext kd m2
      rw [wp_bind]
      congr 1
      funext y m3
      rw [wp_bind]; rfl
theorem kDt2_t {ek ev : E Val} {Q : Option (D × D) → M → Prop} : kDt2 ek ev Q true m = Wp ek m (kDt3 ev Q) := kDt2_eq
theorem kDt2_f {ek ev : E Val} {Q : Option (D × D) → M → Prop} : kDt2 ek ev Q false m = Q none m := kDt2_eq
theorem kDt3_eq {ev : E Val} {Q : Option (D × D) → M → Prop} : kDt3 ev Q x m = wAsD x m (kDt4 ev Q) := by with_unfolding_all rfl
theorem kDt4_eq {ev : E Val} {Q : Option (D × D) → M → Prop} : kDt4 ev Q d m = Wp ev m (kDt5 Q d) := by with_unfolding_all rfl
theorem kDt5_eq {Q : Option (D × D) → M → Prop} : kDt5 Q d y m = wAsD y m (kDt6 Q d) := by with_unfolding_all rfl
theorem kDt6_eq {Q : Option (D × D) → M → Prop} : kDt6 Q d e m = Q (some (d, e)) m := by with_unfolding_all rfl
def dcK (own : List Nat) (ρ : List Loc) (acc : D) (J : D → List D → Prop) (o : Option (D × D)) (m : M) : Prop := wipeL own m.ρ = wipeL own ρ ∧ match o with
  | some kv => wOpt (dPut acc kv.1 kv.2) fun z => J z m.S
  | none => J acc m.S
theorem dcK_some {own : List Nat} {ρ ρ' : List Loc} {acc : D} {J : D → List D → Prop} {k v : D} : dcK own ρ acc J (some (k, v)) ⟨ρ', S⟩ = (wipeL own ρ' = wipeL own ρ ∧ wOpt (dPut acc k v) fun z => J z S) := by with_unfolding_all rfl
theorem dcK_none {own : List Nat} {ρ ρ' : List Loc} {acc : D} {J : D → List D → Prop} : dcK own ρ acc J none ⟨ρ', S⟩ = (wipeL own ρ' = wipeL own ρ ∧ J acc S) := by with_unfolding_all rfl
theorem wp_dcL {own : List Nat} {ifs : E Bool} {ek ev : E Val} {tD : α → D} (ρ : List Loc) (full : List α) (I : List α → D → List D → Prop) (step : ∀ pre a post acc S, full = pre ++ a :: post → I pre acc S → Wp (dcTurn tg ifs ek ev (tD a)) ⟨wipeL own ρ, S⟩ (dcK own ρ acc (I (pre ++ [a])))) :
    ∀ (l pre : List α) (acc : D) (m : M), full = pre ++ l → I pre acc m.S → wipeL own m.ρ = wipeL own ρ → ∃ r m', dcLoop own tg ifs ek ev acc (l.map tD) m = .ok r m' ∧ wipeL own m'.ρ = wipeL own ρ ∧ I full r m'.S
  | [], pre, acc, m, e, h, hw => ⟨acc, m, rfl, hw, by rw [List.append_nil] at e; subst e; exact h⟩
  | a :: l, pre, acc, m, e, h, hw => by
    obtain ⟨o, m1, e1, h1, h2⟩ := wp_ex (step pre a l acc m.S e h)
    have key : dcLoop own tg ifs ek ev acc ((a :: l).map tD) m = (match o with
      | some kv => (E.opt (dPut acc kv.1 kv.2)).bind fun acc' => dcLoop own tg ifs ek ev acc' (l.map tD)
      | none => dcLoop own tg ifs ek ev acc (l.map tD)) m1 := by
      show (dcTurn tg ifs ek ev (tD a)).bind _ ⟨wipeL own m.ρ, m.S⟩ = _
      rw [hw, bind_eq e1]
      all_goals (cases o <;> rfl)
    cases o with
    | none =>
      obtain ⟨r, m2, e2, h3, h4⟩ := wp_dcL ρ full I step l (pre ++ [a]) acc m1 (by rw [e, List.append_assoc]; rfl) h2 h1
      exact ⟨r, m2, key.trans e2, h3, h4⟩
    | some kv =>
      cases hp : dPut acc kv.1 kv.2 with
      | none => simp only [hp, wOpt] at h2
      | some z =>
        simp only [hp, wOpt] at h2
        obtain ⟨r, m2, e2, h3, h4⟩ := wp_dcL ρ full I step l (pre ++ [a]) z m1 (by rw [e, List.append_assoc]; rfl) h2 h1
        refine ⟨r, m2, key.trans ?_, h3, h4⟩
        show (E.opt (dPut acc kv.1 kv.2)).bind _ m1 = _
        rw [bind_eq (opt_eq hp)]
        exact e2
theorem wp_dc {own : List Nat} {tup : Bool} {ifs : E Bool} {ek ev : E Val} {Q : D → M → Prop} {tD : α → D} {l : List α} (I : List α → D → List D → Prop) (h0 : I [] (emptyD tup) S) (step : ∀ pre a post acc S, l = pre ++ a :: post → I pre acc S → Wp (dcTurn tg ifs ek ev (tD a)) ⟨wipeL own ρ, S⟩ (dcK own ρ acc (I (pre ++ [a]))))
    (done : ∀ r S', I l r S' → Q r ⟨restL ρ own ρ, S'⟩) : kDc own tup tg ifs ek ev Q (l.map tD) ⟨ρ, S⟩ := by
  with_unfolding_all
    obtain ⟨r, m', e, h1, h2⟩ := wp_dcL ρ l I step l [] (emptyD tup) ⟨ρ, S⟩ rfl h0 rfl
    unfold kDc
    rw [e]
    have hr : restL ρ own m'.ρ = restL ρ own ρ := by rw [← restL_wipeL, h1, restL_wipeL]
    show Q r ⟨restL ρ own m'.ρ, m'.S⟩
    rw [hr]
    exact done _ _ h2
/-! # defs -/
def finK (k : Nat) (P : Arg → List D → Prop) (c : Ctl) (m : M) : Prop := match c with
  | .nx => P (.t .non) (m.S.take k)
  | .rt (.t d) => P (.t d) (m.S.take k)
  | .rt (.s n) => if n < k then P (.s n) (m.S.take k) else match m.S[n]? with
    | some d => P (.s k) (m.S.take k ++ [d])
    | none => False
  | _ => False
theorem finK_nx {k : Nat} {P : Arg → List D → Prop} : finK k P .nx m = P (.t .non) (m.S.take k) := by with_unfolding_all rfl
theorem finK_t {k : Nat} {P : Arg → List D → Prop} : finK k P (.rt (.t d)) m = P (.t d) (m.S.take k) := by with_unfolding_all rfl
theorem fn_wp {np nl : Nat} {as : List Arg} {P : Arg → List D → Prop} (hn : as.length = np) (h : Wp body ⟨as.map Arg.loc ++ List.replicate nl .un, S⟩ (finK S.length P)) : ∃ a S', mkFn np nl body as S = some (a, S') ∧ P a S' := by
  with_unfolding_all
    obtain ⟨c, m', e, h⟩ := wp_ex h
    unfold mkFn
    rw [if_pos hn]
    simp only [e]
    cases c with
    | nx => exact ⟨_, _, rfl, h⟩
    | bk => exact h.elim
    | ct => exact h.elim
    | rt a =>
      cases a with
      | t d => exact ⟨_, _, rfl, h⟩
      | s n =>
        unfold finK at h
        simp only at h
        unfold fin
        simp only
        by_cases hk : n < S.length
        · rw [if_pos hk] at h ⊢
          exact ⟨_, _, rfl, h⟩
        · rw [if_neg hk] at h ⊢
          cases hS : m'.S[n]? with
          | none => rw [hS] at h; exact h.elim
          | some d => rw [hS] at h; exact ⟨_, _, rfl, h⟩
/-- a def that leaves the store as it is -/
def retK (d : D) (S : List D) (c : Ctl) (m : M) : Prop := c = .rt (.t d) ∧ m.S = S
theorem retK_rt {d' : D} {S' : List D} : retK d S (.rt (.t d')) ⟨ρ, S'⟩ = (d' = d ∧ S' = S) := by
  with_unfolding_all
    unfold retK
    refine propext ⟨fun h => ⟨?_, h.2⟩, fun h => ⟨by rw [h.1], h.2⟩⟩
    have := h.1
    cases this
    rfl
theorem fn_eq {np nl : Nat} {as : List Arg} (hn : as.length = np) (h : Wp body ⟨as.map Arg.loc ++ List.replicate nl .un, S⟩ (retK d S)) : mkFn np nl body as S = some (.t d, S) := by
  with_unfolding_all
    obtain ⟨c, m', e, h1, h2⟩ := wp_ex h
    subst h1
    have := mkFn_rt hn e
    rw [this, h2, List.take_of_length_le (Nat.le_refl _)]
end
end MF
set_option Elab.async false
set_option linter.all false
set_option maxRecDepth 100000
set_option maxHeartbeats 4000000
namespace MF
open PySem L2
theorem wr : (type_of% @w_eN) ∧ (type_of% @w_eC) ∧ (type_of% @w_eOp) ∧ (type_of% @kOp1_eq) ∧ (type_of% @kOp2_gen) ∧ (type_of% @kOp3_gen) ∧ (type_of% @kOp4_eq) ∧ (type_of% @w_eUn) ∧ (type_of% @kUn_gen) ∧ (type_of% @kUn2_eq) ∧ (type_of% @w_args0) ∧ (type_of% @w_args) ∧ (type_of% @kA1_eq) ∧ (type_of% @kA2_eq) ∧ (type_of% @w_eCall) ∧ (type_of% @kCB_one) ∧ (type_of% @kC1_eq) ∧ (type_of% @kCB_two) ∧ (type_of% @kAd1_eq) ∧ (type_of% @kAd2_eq) ∧ (type_of% @w_eTup) ∧ (type_of% @kTup_eq) ∧ (type_of% @kTup2_eq) ∧ (type_of% @w_nLst) ∧ (type_of% @kLst_eq) ∧ (type_of% @kLst2_eq) ∧ (type_of% @w_fz) ∧ (type_of% @kFz_eq) ∧ (type_of% @w_tV) ∧ (type_of% @kTV_b) ∧ (type_of% @w_and) ∧ (type_of% @w_or) ∧ (type_of% @kB2_tt) ∧ (type_of% @kB2_tf) ∧ (type_of% @kB2_ft) ∧ (type_of% @kB2_ff) ∧ (type_of% @w_not) ∧ (type_of% @kNot_eq) ∧ (type_of% @w_eAnd) ∧ (type_of% @w_eOr) ∧ (type_of% @kV2_tt) ∧ (type_of% @kV2_tf) ∧ (type_of% @kV2_ft) ∧ (type_of% @kV2_ff) ∧ (type_of% @w_eNot) ∧ (type_of% @kENot_eq) ∧ (type_of% @w_eIf) ∧ (type_of% @kEIf_t) ∧ (type_of% @kEIf_f) ∧ (type_of% @w_eChain) ∧ (type_of% @kCh1_eq) ∧ (type_of% @kCh2_tt) ∧ (type_of% @kCh3_t) ∧ (type_of% @kCh3_f) ∧ (type_of% @w_eFn) ∧ (type_of% @wArgs_nil) ∧ (type_of% @wArgs_cons) ∧ (type_of% @kAr1_eq) ∧ (type_of% @kAr2_eq) ∧ (type_of% @kFn_eq) ∧ (type_of% @kFn2_eq) ∧ (type_of% @w_eMake) ∧ (type_of% @kMk0_eq) ∧ (type_of% @kMk_eq) ∧ (type_of% @w_eLenO) ∧ (type_of% @wPart_none) ∧ (type_of% @wPart_some) ∧ (type_of% @kPart_t) ∧ (type_of% @w_eCut) ∧ (type_of% @kCut1_eq) ∧ (type_of% @kCut2_eq) ∧ (type_of% @kCut3_eq) ∧ (type_of% @kCut4_eq) ∧ (type_of% @w_nCall) ∧ (type_of% @kNC_one) ∧ (type_of% @kNC1_eq) ∧ (type_of% @kNC2_eq) ∧ (type_of% @w_nRange1) ∧ (type_of% @w_iSeq) ∧ (type_of% @kSeq_eq) ∧ (type_of% @kSeq2_eq) ∧ (type_of% @kSeq3_eq) ∧ (type_of% @w_iRange1) ∧ (type_of% @w_iRange2) ∧ (type_of% @w_iKeysN) ∧ (type_of% @w_sSeq) ∧ (type_of% @seqK_nx) ∧ (type_of% @seqK_rt) ∧ (type_of% @seqK_bk) ∧ (type_of% @seqK_ct) ∧ (type_of% @w_sSkip) ∧ (type_of% @w_retC) ∧ (type_of% @w_sIf) ∧ (type_of% @kIf_t) ∧ (type_of% @kIf_f) ∧ (type_of% @w_sRet) ∧ (type_of% @kRet_eq) ∧ (type_of% @kRet2_eq) ∧ (type_of% @w_sRetN) ∧ (type_of% @w_sExpr) ∧ (type_of% @kExpr_eq) ∧ (type_of% @w_sAsg) ∧ (type_of% @kAsg_eq) ∧ (type_of% @kAsg2_eq) ∧ (type_of% @kNx_eq) ∧ (type_of% @w_tgN) ∧ (type_of% @w_tgTup) ∧ (type_of% @wTs_nil) ∧ (type_of% @wTs_cons) ∧ (type_of% @kTs_eq) ∧ (type_of% @w_setOwn) ∧ (type_of% @kOwnN_eq) ∧ (type_of% @w_setSh) ∧ (type_of% @kShN_eq) ∧ (type_of% @w_nDk) ∧ (type_of% @w_nDt) ∧ (type_of% @w_sFor) ∧ (type_of% @kFor_eq) ∧ (type_of% @w_turn) ∧ (type_of% @kBody_eq) ∧ (type_of% @stepK_nx) ∧ (type_of% @stepK_ct) ∧ (type_of% @stepK_bk) ∧ (type_of% @stepK_rt) ∧ (type_of% @whJ_eq) ∧ (type_of% @forJ_eq) ∧ (type_of% @kWh_t) ∧ (type_of% @kWh_f) ∧ (type_of% @whK_t) ∧ (type_of% @whK_f) ∧ (type_of% @w_nLc) ∧ (type_of% @w_lcTurn) ∧ (type_of% @kLt_eq) ∧ (type_of% @kLt2_t) ∧ (type_of% @kLt2_f) ∧ (type_of% @kLt3_eq) ∧ (type_of% @kLt4_eq) ∧ (type_of% @w_ifsYes) ∧ (type_of% @lcK_eq) ∧ (type_of% @w_eMut) ∧ (type_of% @kMuA_eq) ∧ (type_of% @kMuB_eq) ∧ (type_of% @kMu5_eq) ∧ (type_of% @w_append) ∧ (type_of% @w_extend) ∧ (type_of% @w_addT) ∧ (type_of% @w_addL) ∧ (type_of% @w_addS) ∧ (type_of% @w_mod) ∧ (type_of% @w_mul) ∧ (type_of% @w_fdiv) ∧ (type_of% @w_tgSub) ∧ (type_of% @kSub1_eq) ∧ (type_of% @kSub2_o) ∧ (type_of% @kSub2_s) ∧ (type_of% @kSub5_eq) ∧ (type_of% @w_eGet) ∧ (type_of% @w_sPar) ∧ (type_of% @wPar_nil) ∧ (type_of% @wPar_v) ∧ (type_of% @wPar_o) ∧ (type_of% @kPv_eq) ∧ (type_of% @kPv2_eq) ∧ (type_of% @kPo_eq) ∧ (type_of% @kPv3_eq) ∧ (type_of% @w_sFldSet) ∧ (type_of% @kFl1_eq) ∧ (type_of% @kFl2_eq) ∧ (type_of% @kFl3_s) ∧ (type_of% @w_nDc) ∧ (type_of% @w_dcTurn) ∧ (type_of% @kDt1_eq) ∧ (type_of% @kDt2_t) ∧ (type_of% @kDt2_f) ∧ (type_of% @kDt3_eq) ∧ (type_of% @kDt4_eq) ∧ (type_of% @kDt5_eq) ∧ (type_of% @kDt6_eq) ∧ (type_of% @dcK_some) ∧ (type_of% @dcK_none) ∧ (type_of% @finK_nx) ∧ (type_of% @finK_t) ∧ (type_of% @retK_rt) ∧ (type_of% @kT_eq) ∧ (type_of% @wAsDs_nil) ∧ (type_of% @wAsDs_cons) :=
  ⟨@w_eN, @w_eC, @w_eOp, @kOp1_eq, @kOp2_gen, @kOp3_gen, @kOp4_eq, @w_eUn, @kUn_gen, @kUn2_eq, @w_args0, @w_args, @kA1_eq, @kA2_eq, @w_eCall, @kCB_one, @kC1_eq, @kCB_two, @kAd1_eq, @kAd2_eq, @w_eTup, @kTup_eq, @kTup2_eq, @w_nLst, @kLst_eq, @kLst2_eq, @w_fz, @kFz_eq, @w_tV, @kTV_b, @w_and, @w_or, @kB2_tt, @kB2_tf, @kB2_ft, @kB2_ff, @w_not, @kNot_eq, @w_eAnd, @w_eOr, @kV2_tt, @kV2_tf, @kV2_ft, @kV2_ff, @w_eNot, @kENot_eq, @w_eIf, @kEIf_t, @kEIf_f, @w_eChain, @kCh1_eq, @kCh2_tt, @kCh3_t, @kCh3_f, @w_eFn, @wArgs_nil, @wArgs_cons, @kAr1_eq, @kAr2_eq, @kFn_eq, @kFn2_eq, @w_eMake, @kMk0_eq, @kMk_eq, @w_eLenO, @wPart_none, @wPart_some, @kPart_t, @w_eCut, @kCut1_eq, @kCut2_eq, @kCut3_eq, @kCut4_eq, @w_nCall, @kNC_one, @kNC1_eq, @kNC2_eq, @w_nRange1, @w_iSeq, @kSeq_eq, @kSeq2_eq, @kSeq3_eq, @w_iRange1, @w_iRange2, @w_iKeysN, @w_sSeq, @seqK_nx, @seqK_rt, @seqK_bk, @seqK_ct, @w_sSkip, @w_retC, @w_sIf, @kIf_t, @kIf_f, @w_sRet, @kRet_eq, @kRet2_eq, @w_sRetN, @w_sExpr, @kExpr_eq, @w_sAsg, @kAsg_eq, @kAsg2_eq, @kNx_eq, @w_tgN, @w_tgTup, @wTs_nil, @wTs_cons, @kTs_eq, @w_setOwn, @kOwnN_eq, @w_setSh, @kShN_eq, @w_nDk, @w_nDt, @w_sFor, @kFor_eq, @w_turn, @kBody_eq, @stepK_nx, @stepK_ct, @stepK_bk, @stepK_rt, @whJ_eq, @forJ_eq, @kWh_t, @kWh_f, @whK_t, @whK_f, @w_nLc, @w_lcTurn, @kLt_eq, @kLt2_t, @kLt2_f, @kLt3_eq, @kLt4_eq, @w_ifsYes, @lcK_eq, @w_eMut, @kMuA_eq, @kMuB_eq, @kMu5_eq, @w_append, @w_extend, @w_addT, @w_addL, @w_addS, @w_mod, @w_mul, @w_fdiv, @w_tgSub, @kSub1_eq, @kSub2_o, @kSub2_s, @kSub5_eq, @w_eGet, @w_sPar, @wPar_nil, @wPar_v, @wPar_o, @kPv_eq, @kPv2_eq, @kPo_eq, @kPv3_eq, @w_sFldSet, @kFl1_eq, @kFl2_eq, @kFl3_s, @w_nDc, @w_dcTurn, @kDt1_eq, @kDt2_t, @kDt2_f, @kDt3_eq, @kDt4_eq, @kDt5_eq, @kDt6_eq, @dcK_some, @dcK_none, @finK_nx, @finK_t, @retK_rt, @kT_eq, @wAsDs_nil, @wAsDs_cons⟩
theorem wq : (type_of% @kIf_t) ∧ (type_of% @kIf_f) ∧ (type_of% @kEIf_t) ∧ (type_of% @kEIf_f) ∧ (type_of% @kWh_t) ∧ (type_of% @kWh_f) ∧ (type_of% @whK_t) ∧ (type_of% @whK_f) ∧ (type_of% @kLt2_t) ∧ (type_of% @kLt2_f) ∧ (type_of% @kDt2_t) ∧ (type_of% @kDt2_f) ∧ (type_of% @wN_t) ∧ (type_of% @wN_s) ∧ (type_of% @wN_o) ∧ (type_of% @wRd_t) ∧ (type_of% @wRd_s) ∧ (type_of% @wRd_o) ∧ (type_of% @datO_own) ∧ (type_of% @datO_t) ∧ (type_of% @wOpt_some) ∧ (type_of% @wIf_t) ∧ (type_of% @wIf_f) ∧ (type_of% @wG_t) ∧ (type_of% @wAsD_t) ∧ (type_of% @wAsD_o) ∧ (type_of% @wAsO_own) ∧ (type_of% @wAsO_t) ∧ (type_of% @wArg_t) ∧ (type_of% @wArg_s) ∧ (type_of% @wArg_o) ∧ (type_of% @wArgO_own) ∧ (type_of% @wArgO_t) ∧ (type_of% @wArgO_s) ∧ (type_of% @wFn_t) ∧ (type_of% @wFn_s) ∧ (type_of% @wMk_ok) ∧ (type_of% @items_lst) ∧ (type_of% @items_tup) ∧ (type_of% @items_ktup) ∧ (type_of% @items_scr) ∧ (type_of% @items_str) ∧ (type_of% @wKeys_t) ∧ (type_of% @wKeys_own) ∧ (type_of% @lenGt_z) ∧ (type_of% @lenGt_s) ∧ (type_of% @loc_t) ∧ (type_of% @loc_s) ∧ (type_of% @wMuA_own) ∧ (type_of% @wMuB_own) ∧ (type_of% @wSub_own) ∧ (type_of% @kTV_b) ∧ (type_of% @kPart_t) ∧ (type_of% @kB2_tt) ∧ (type_of% @kB2_tf) ∧ (type_of% @kB2_ft) ∧ (type_of% @kB2_ff) ∧ (type_of% @kV2_tt) ∧ (type_of% @kV2_tf) ∧ (type_of% @kV2_ft) ∧ (type_of% @kV2_ff) ∧ (type_of% @kCh3_t) ∧ (type_of% @kCh3_f) ∧ (type_of% @w_append) ∧ (type_of% @w_extend) ∧ (type_of% @w_addT) ∧ (type_of% @w_addL) ∧ (type_of% @w_addS) ∧ (type_of% @w_mod) ∧ (type_of% @w_mul) ∧ (type_of% @w_fdiv) ∧ (type_of% @kSub2_o) ∧ (type_of% @kSub2_s) ∧ (type_of% @kCh2_tt) ∧ (type_of% @w_tgTup) ∧ (type_of% @w_args0) ∧ (type_of% @w_args) ∧ (type_of% @wArgs_nil) ∧ (type_of% @wArgs_cons) ∧ (type_of% @wTs_nil) ∧ (type_of% @wTs_cons) ∧ (type_of% @wAsDs_nil) ∧ (type_of% @wAsDs_cons) ∧ (type_of% @dAdd_int) ∧ (type_of% @dSub_int) ∧ (type_of% @dLt_int) ∧ (type_of% @dLe_int) ∧ (type_of% @dGt_int) ∧ (type_of% @dGe_int) ∧ (type_of% @dEq_int) ∧ (type_of% @dNe_int) ∧ (type_of% @dEq_str) ∧ (type_of% @dNe_str) ∧ (type_of% @dInt_int) ∧ (type_of% @dInt_bl) ∧ (type_of% @dLen_lst) ∧ (type_of% @dLen_tup) ∧ (type_of% @dIdx_lst) ∧ (type_of% @dIdx_tup) ∧ (type_of% @atI_nat) ∧ (type_of% @wMk_ok) ∧ (type_of% @kMk_eq) ∧ (type_of% @kFn2_eq) ∧ (type_of% @retK_rt) ∧ (type_of% @finK_t) ∧ (type_of% @finK_nx) ∧ (type_of% @kMu5_eq) ∧ (type_of% @lcK_eq) :=
  ⟨@kIf_t, @kIf_f, @kEIf_t, @kEIf_f, @kWh_t, @kWh_f, @whK_t, @whK_f, @kLt2_t, @kLt2_f, @kDt2_t, @kDt2_f, @wN_t, @wN_s, @wN_o, @wRd_t, @wRd_s, @wRd_o, @datO_own, @datO_t, @wOpt_some, @wIf_t, @wIf_f, @wG_t, @wAsD_t, @wAsD_o, @wAsO_own, @wAsO_t, @wArg_t, @wArg_s, @wArg_o, @wArgO_own, @wArgO_t, @wArgO_s, @wFn_t, @wFn_s, @wMk_ok, @items_lst, @items_tup, @items_ktup, @items_scr, @items_str, @wKeys_t, @wKeys_own, @lenGt_z, @lenGt_s, @loc_t, @loc_s, @wMuA_own, @wMuB_own, @wSub_own, @kTV_b, @kPart_t, @kB2_tt, @kB2_tf, @kB2_ft, @kB2_ff, @kV2_tt, @kV2_tf, @kV2_ft, @kV2_ff, @kCh3_t, @kCh3_f, @w_append, @w_extend, @w_addT, @w_addL, @w_addS, @w_mod, @w_mul, @w_fdiv, @kSub2_o, @kSub2_s, @kCh2_tt, @w_tgTup, @w_args0, @w_args, @wArgs_nil, @wArgs_cons, @wTs_nil, @wTs_cons, @wAsDs_nil, @wAsDs_cons, @dAdd_int, @dSub_int, @dLt_int, @dLe_int, @dGt_int, @dGe_int, @dEq_int, @dNe_int, @dEq_str, @dNe_str, @dInt_int, @dInt_bl, @dLen_lst, @dLen_tup, @dIdx_lst, @dIdx_tup, @atI_nat, @wMk_ok, @kMk_eq, @kFn2_eq, @retK_rt, @finK_t, @finK_nx, @kMu5_eq, @lcK_eq⟩
def isK (x : Val) (m : M) (x' : Val) (m' : M) : Prop := x' = x ∧ m' = m
theorem isK_eq {d d' : D} {m m' : M} : isK (.t d) m (.t d') m' = (d' = d ∧ m' = m) := by
  unfold isK
  refine propext ⟨fun h => ⟨?_, h.2⟩, fun h => ⟨by rw [h.1], h.2⟩⟩
  have := h.1
  cases this
  rfl
def isB (b : Bool) (m : M) (b' : Bool) (m' : M) : Prop := b' = b ∧ m' = m
theorem isB_eq {b b' : Bool} {m m' : M} : isB b m b' m' = (b' = b ∧ m' = m) := rfl
theorem kV2_and {b : E Val} {Q : Val → M → Prop} {c q : Bool} {m : M} (hb : c = true → Wp b m (isK (.t (.bl q)) m)) (k : Q (.t (.bl (c && q))) m) : kV2 b true Q c m := by
  cases c with
  | false => exact k
  | true => exact wp_mono (hb rfl) fun x m' h => by obtain ⟨rfl, rfl⟩ := h; exact k
theorem kV2_or {b : E Val} {Q : Val → M → Prop} {c q : Bool} {m : M} (hb : c = false → Wp b m (isK (.t (.bl q)) m)) (k : Q (.t (.bl (c || q))) m) : kV2 b false Q c m := by
  cases c with
  | true => exact k
  | false => exact wp_mono (hb rfl) fun x m' h => by obtain ⟨rfl, rfl⟩ := h; exact k
theorem kB2_and {b : E Bool} {Q : Bool → M → Prop} {c q : Bool} {m : M} (hb : c = true → Wp b m (isB q m)) (k : Q (c && q) m) : kB2 b true Q c m := by
  cases c with
  | false => exact k
  | true => exact wp_mono (hb rfl) fun x m' h => by obtain ⟨rfl, rfl⟩ := h; exact k
theorem kB2_or {b : E Bool} {Q : Bool → M → Prop} {c q : Bool} {m : M} (hb : c = false → Wp b m (isB q m)) (k : Q (c || q) m) : kB2 b false Q c m := by
  cases c with
  | true => exact k
  | false => exact wp_mono (hb rfl) fun x m' h => by obtain ⟨rfl, rfl⟩ := h; exact k
theorem wIf_split {b : Bool} {p q : Prop} (h1 : b = true → p) (h2 : b = false → q) : wIf b p q := by
  cases b with
  | false => exact h2 rfl
  | true => exact h1 rfl
theorem lg0 {a : Loc} {l : List Loc} : (a :: l)[0]? = some a := rfl
theorem lgS {a : Loc} {l : List Loc} {n : Nat} : (a :: l)[n + 1]? = l[n]? := rfl
theorem ls0 {a b : Loc} {l : List Loc} : (a :: l).set 0 b = b :: l := rfl
theorem lsS {a b : Loc} {l : List Loc} {n : Nat} : (a :: l).set (n + 1) b = a :: l.set n b := rfl
theorem dg0 {a : D} {l : List D} : (a :: l)[0]? = some a := rfl
theorem dgS {a : D} {l : List D} {n : Nat} : (a :: l)[n + 1]? = l[n]? := rfl
theorem ds0 {a b : D} {l : List D} : (a :: l).set 0 b = b :: l := rfl
theorem dsS {a b : D} {l : List D} {n : Nat} : (a :: l).set (n + 1) b = a :: l.set n b := rfl
theorem am0 {f : Arg → Loc} : List.map f [] = [] := rfl
theorem amS {f : Arg → Loc} {a : Arg} {l : List Arg} : List.map f (a :: l) = f a :: List.map f l := rfl
theorem lr0 {a : Loc} : List.replicate 0 a = [] := rfl
theorem lrS {a : Loc} {n : Nat} : List.replicate (n + 1) a = a :: List.replicate n a := rfl
theorem la0 {l : List Loc} : [] ++ l = l := rfl
theorem laS {a : Loc} {l l' : List Loc} : (a :: l) ++ l' = a :: (l ++ l') := rfl
theorem wl_0 {ρ : List Loc} : wipeL [] ρ = ρ := rfl
theorem wl_S {i : Nat} {v : List Nat} {ρ : List Loc} : wipeL (i :: v) ρ = (wipeL v ρ).set i .un := rfl
theorem rl_0 {ρ0 ρ : List Loc} : restL ρ0 [] ρ = ρ := rfl
theorem rl_S {i : Nat} {v : List Nat} {ρ0 ρ : List Loc} : restL ρ0 (i :: v) ρ = (restL ρ0 v ρ).set i (keepL ρ0[i]?) := rfl
theorem kl_t {d : D} : keepL (some (.t d)) = .t d := rfl
theorem kl_s {n : Nat} : keepL (some (.s n)) = .s n := rfl
theorem kl_u : keepL (some .un) = .un := rfl
theorem kl_o {d : D} : keepL (some (.own d)) = .un := rfl
theorem dl0 : ([] : List D).length = 0 := rfl
theorem dlS {a : D} {l : List D} : (a :: l).length = l.length + 1 := rfl
theorem sz_0 : sizeOk 0 = true := rfl
theorem sz_1 : sizeOk (0 + 1) = true := rfl
theorem sz_2 : sizeOk (0 + 1 + 1) = true := rfl
theorem sz_3 : sizeOk (0 + 1 + 1 + 1) = true := rfl
theorem sz_4 : sizeOk (0 + 1 + 1 + 1 + 1) = true := rfl
theorem sz_5 : sizeOk (0 + 1 + 1 + 1 + 1 + 1) = true := rfl
theorem sz_6 : sizeOk (0 + 1 + 1 + 1 + 1 + 1 + 1) = true := rfl
theorem sz_7 : sizeOk (0 + 1 + 1 + 1 + 1 + 1 + 1 + 1) = true := rfl
theorem sz_8 : sizeOk (0 + 1 + 1 + 1 + 1 + 1 + 1 + 1 + 1) = true := rfl
theorem nb_t : (!true) = false := rfl
theorem nb_f : (!false) = true := rfl
theorem nc0 : ((0 : Nat) : Int) = 0 := rfl
theorem nc1 : ((0 + 1 : Nat) : Int) = 1 := rfl
theorem nc2 : ((0 + 1 + 1 : Nat) : Int) = 2 := rfl
theorem nc3 : ((0 + 1 + 1 + 1 : Nat) : Int) = 3 := rfl
theorem nc4 : ((0 + 1 + 1 + 1 + 1 : Nat) : Int) = 4 := rfl
theorem nc5 : ((0 + 1 + 1 + 1 + 1 + 1 : Nat) : Int) = 5 := rfl
theorem nc6 : ((0 + 1 + 1 + 1 + 1 + 1 + 1 : Nat) : Int) = 6 := rfl
theorem nc7 : ((0 + 1 + 1 + 1 + 1 + 1 + 1 + 1 : Nat) : Int) = 7 := rfl
theorem nc8 : ((0 + 1 + 1 + 1 + 1 + 1 + 1 + 1 + 1 : Nat) : Int) = 8 := rfl
theorem otl0 : (none : Option D).toList = [] := rfl
theorem otlS {d : D} : (some d).toList = [d] := rfl
theorem wl : (type_of% @isK_eq) ∧ (type_of% @isB_eq) ∧ (type_of% @lg0) ∧ (type_of% @lgS) ∧ (type_of% @ls0) ∧ (type_of% @lsS) ∧ (type_of% @dg0) ∧ (type_of% @dgS) ∧ (type_of% @ds0) ∧ (type_of% @dsS) ∧ (type_of% @am0) ∧ (type_of% @amS) ∧ (type_of% @lr0) ∧ (type_of% @lrS) ∧ (type_of% @la0) ∧ (type_of% @laS) ∧ (type_of% @wl_0) ∧ (type_of% @wl_S) ∧ (type_of% @rl_0) ∧ (type_of% @rl_S) ∧ (type_of% @kl_t) ∧ (type_of% @kl_s) ∧ (type_of% @kl_u) ∧ (type_of% @kl_o) ∧ (type_of% @dl0) ∧ (type_of% @dlS) ∧ (type_of% @sz_0) ∧ (type_of% @sz_1) ∧ (type_of% @sz_2) ∧ (type_of% @sz_3) ∧ (type_of% @sz_4) ∧ (type_of% @sz_5) ∧ (type_of% @sz_6) ∧ (type_of% @sz_7) ∧ (type_of% @sz_8) ∧ (type_of% @nb_t) ∧ (type_of% @nb_f) ∧ (type_of% @nc0) ∧ (type_of% @nc1) ∧ (type_of% @nc2) ∧ (type_of% @nc3) ∧ (type_of% @nc4) ∧ (type_of% @nc5) ∧ (type_of% @nc6) ∧ (type_of% @nc7) ∧ (type_of% @nc8) ∧ (type_of% @otl0) ∧ (type_of% @otlS) :=
  ⟨@isK_eq, @isB_eq, @lg0, @lgS, @ls0, @lsS, @dg0, @dgS, @ds0, @dsS, @am0, @amS, @lr0, @lrS, @la0, @laS, @wl_0, @wl_S, @rl_0, @rl_S, @kl_t, @kl_s, @kl_u, @kl_o, @dl0, @dlS, @sz_0, @sz_1, @sz_2, @sz_3, @sz_4, @sz_5, @sz_6, @sz_7, @sz_8, @nb_t, @nb_f, @nc0, @nc1, @nc2, @nc3, @nc4, @nc5, @nc6, @nc7, @nc8, @otl0, @otlS⟩
end MF
set_option Elab.async false
set_option linter.all false
set_option maxRecDepth 100000
set_option maxHeartbeats 4000000
namespace Z09
open PySem L2 MF
/-! # the mirror -/
def k_LETTERS : D := (.str ("abcdefghijklmnopqrstuvwxyzABCDEFGHIJKLMNOPQRSTUVWXYZ" : Str))
def k_FIGURES : D := (.str ("0123456789" : Str))
def k_KEPT_WORDS : D := (.ktup [(.str ("kinds" : Str)), (.str ("round" : Str)), (.str ("becomes" : Str))])
def b__law_pen : E Ctl := (sSeq (sAsg (eC (.int 0)) (tgN 1))
  (sSeq (sFor (iSeq (eN 0)) (tgN 2)
  (sAsg (eOp dMod (eCall (one dInt) (eArgs [(eOp dAdd (eOp dMul (eN 1) (eC (.int 59))) (eN 2))])) (eC (.int 1000000009))) (tgN 1)))
  (sRetSh (nDisp [((eC (.str ("cells" : Str))), (fz (nCall (one dList) (eArgs [(eN 0)])))), ((eC (.str ("at" : Str))), (eC (.int 0))), ((eC (.str ("digits" : Str))), (eC (.int 0))), ((eC (.str ("count" : Str))), (eC (.int 0))), ((eC (.str ("fold" : Str))), (eN 1))]))))
def m__law_pen : Fn := mkFn 1 2 b__law_pen
def b__law_draw : E Ctl := (sSeq (sAsg (eOp dAdd (eOp dIdx (eN 0) (eC (.str ("count" : Str)))) (eC (.int 1))) (tgSub (eN 0) (eC (.str ("count" : Str)))))
  (sSeq (sIf (tAnd' (tV (eOp dEq (eOp dIdx (eN 0) (eC (.str ("digits" : Str)))) (eC (.int 0)))) (tV (eOp dLt (eOp dIdx (eN 0) (eC (.str ("at" : Str)))) (eCall (one dLen) (eArgs [(eOp dIdx (eN 0) (eC (.str ("cells" : Str))))])))))
  (sSeq (sAsg (eOp dIdx (eOp dIdx (eN 0) (eC (.str ("cells" : Str)))) (eOp dIdx (eN 0) (eC (.str ("at" : Str))))) (tgN 2))
  (sSeq (sAsg (eOp dAdd (eOp dIdx (eN 0) (eC (.str ("at" : Str)))) (eC (.int 1))) (tgSub (eN 0) (eC (.str ("at" : Str)))))
  (sIf (tV (eOp dGe (eN 2) (eOp dPow (eC (.int 10)) (eC (.int 18)))))
  (sAsg (eOp dSub (eN 2) (eOp dPow (eC (.int 10)) (eC (.int 18)))) (tgSub (eN 0) (eC (.str ("digits" : Str)))))
  (sAsg (eOp dMod (eCall (one dInt) (eArgs [(eOp dAdd (eOp dMul (eOp dIdx (eN 0) (eC (.str ("fold" : Str)))) (eC (.int 48271))) (eN 2))])) (eC (.int 2147483563))) (tgSub (eN 0) (eC (.str ("fold" : Str))))))))
  sSkip)
  (sSeq (sIf (tV (eOp dGt (eOp dIdx (eN 0) (eC (.str ("digits" : Str)))) (eC (.int 0))))
  (sSeq (sAsg (eOp dMod (eCall (one dInt) (eArgs [(eOp dIdx (eN 0) (eC (.str ("digits" : Str))))])) (eN 1)) (tgN 3))
  (sSeq (sAsg (eOp dFdiv (eOp dIdx (eN 0) (eC (.str ("digits" : Str)))) (eN 1)) (tgSub (eN 0) (eC (.str ("digits" : Str)))))
  (sRet (eN 3))))
  sSkip)
  (sSeq (sAsg (eOp dAdd (eOp dAdd (eOp dIdx (eN 0) (eC (.str ("fold" : Str)))) (eOp dMul (eOp dIdx (eN 0) (eC (.str ("count" : Str)))) (eC (.int 8513)))) (eC (.int 61))) (tgN 4))
  (sRet (eOp dMod (eOp dFdiv (eCall (one dInt) (eArgs [(eOp dMod (eOp dPow (eN 4) (eC (.int 19))) (eC (.int 2305843009213693951)))])) (eC (.int 256))) (eN 1)))))))
def m__law_draw : Fn := mkFn 2 3 b__law_draw
def b__law_pick : E Ctl := (sRet (eOp dIdx (eN 1) (eFn m__law_draw (eArgs [(eN 0), (eCall (one dLen) (eArgs [(eN 1)]))]))))
def m__law_pick : Fn := mkFn 2 0 b__law_pick
def b__law_many : E Ctl := (sRet (eFn m__law_pick (eArgs [(eN 0), (fz (nLst (eArgs [(eC (.int 2)), (eC (.int 3)), (eC (.int 3)), (eC (.int 4)), (eC (.int 2)), (eC (.int 5)), (eC (.int 1)), (eC (.int 6))])))])))
def m__law_many : Fn := mkFn 1 0 b__law_many
def b__law_name : E Ctl := (sSeq (sAsg (eC (.str ("abcdefghijklmnopqrstuvwxyzABCDEFGHIJKLMNOPQRSTUVWXYZ" : Str))) (tgN 1))
  (sSeq (sAsg (eOp dIdx (eN 1) (eFn m__law_draw (eArgs [(eN 0), (eC (.int 52))]))) (tgN 2))
  (sSeq (sFor (iRange1 (eArgs [(eFn m__law_pick (eArgs [(eN 0), (fz (nLst (eArgs [(eC (.int 0)), (eC (.int 1)), (eC (.int 2)), (eC (.int 4)), (eC (.int 11))])))]))])) (tgN 3)
  (sAsg (eOp dAdd (eN 2) (eOp dIdx (eOp dAdd (eN 1) (eC (.str ("0123456789_" : Str)))) (eFn m__law_draw (eArgs [(eN 0), (eC (.int 63))])))) (tgN 2)))
  (sRet (eN 2)))))
def m__law_name : Fn := mkFn 1 3 b__law_name
def b__law_names : E Ctl := (sSeq (setOwn 2 (nLst (eArgs [])))
  (sSeq (sFor (iRange1 (eArgs [(eN 1)])) (tgN 3)
  (sSeq (sAsg (eFn m__law_name (eArgs [(eN 0)])) (tgN 4))
  (sSeq (sFor (iRange1 (eArgs [(eC (.int 24))])) (tgN 5)
  (sSeq (sIf (tAnd' (tV (eOp dNotIn (eN 4) (eN 2))) (tV (eOp dNotIn (eN 4) (eTup (eArgs [(eC (.str ("kinds" : Str))), (eC (.str ("round" : Str))), (eC (.str ("becomes" : Str)))])))))
  (.ret .bk)
  sSkip)
  (sAsg (eOp dAdd (eC (.str ("y" : Str))) (eCall (one dStr) (eArgs [(eN 5)]))) (tgN 4))))
  (sExpr (eMut mAppend (eN 2) (eArgs [(eN 4)]))))))
  (sRet (eN 2))))
def m__law_names : Fn := mkFn 2 4 b__law_names
def b__law_shuffled : E Ctl := (sSeq (sPar [(2, (kOwn (nCall (one dList) (eArgs [(eN 1)])))), (3, (kOwn (nLst (eArgs []))))])
  (sSeq (sFor (iRange1 (eArgs [(eCall (one dLen) (eArgs [(eN 1)]))])) (tgN 4)
  (sExpr (eMut mAppend (eN 3) (eArgs [(eMut mPopAt (eN 2) (eArgs [(eFn m__law_draw (eArgs [(eN 0), (eCall (one dLen) (eArgs [(eN 2)]))]))]))]))))
  (sRet (eN 3))))
def m__law_shuffled : Fn := mkFn 2 3 b__law_shuffled
def b__law_free_rows : E Ctl := (sSeq (sAsg (eFn m__law_pick (eArgs [(eN 0), (fz (nLst (eArgs [(fz (nLst (eArgs [(eC (.int 0)), (eC (.int 0)), (eC (.int 1))]))), (fz (nLst (eArgs [(eC (.int 0)), (eC (.int 0)), (eC (.int 0)), (eC (.int 1))]))), (fz (nLst (eArgs [(eC (.int 0)), (eC (.int 1))]))), (fz (nLst (eArgs [(eC (.int 0)), (eC (.int 0)), (eC (.int 0)), (eC (.int 1)), (eC (.int 2))]))), (fz (nLst (eArgs [(eC (.int 0)), (eC (.int 0)), (eC (.int 0)), (eC (.int 0)), (eC (.int 1))])))])))])) (tgN 2))
  (sRet (eCall (one dTuple) (eArgs [(fz (nLc [4] (iRange1 (eArgs [(eN 1)])) (tgN 4) ifsYes (eCall (one dTuple) (eArgs [(fz (nLc [3] (iRange1 (eArgs [(eN 1)])) (tgN 3) ifsYes (eFn m__law_pick (eArgs [(eN 0), (eN 2)]))))]))))]))))
def m__law_free_rows : Fn := mkFn 2 3 b__law_free_rows
def b__law_moving_rows : E Ctl := (sSeq (setOwn 2 (nLst (eArgs [])))
  (sSeq (sFor (iRange1 (eArgs [(eN 1)])) (tgN 3)
  (sSeq (sAsg (eFn m__law_draw (eArgs [(eN 0), (eOp dAdd (eN 1) (eC (.int 1)))])) (tgN 4))
  (sExpr (eMut mAppend (eN 2) (eArgs [(eCall (one dTuple) (eArgs [(fz (nLc [5] (iRange1 (eArgs [(eN 1)])) (tgN 5) ifsYes (eCall (one dInt) (eArgs [(eOp dEq (eN 5) (eN 4))]))))]))])))))
  (sRet (eCall (one dTuple) (eArgs [(eN 2)])))))
def m__law_moving_rows : Fn := mkFn 2 4 b__law_moving_rows
def m__law_stair_rows : Fn := mkFn 3 5 (bStair m__law_pick)
def b__law_exchange_rows : E Ctl := (sSeq (sAsg (eFn m__law_shuffled (eArgs [(eN 0), (fz (nRange1 (eN 1)))])) (tgN 2))
  (sRet (eCall (one dTuple) (eArgs [(fz (nLc [4] (iRange1 (eArgs [(eN 1)])) (tgN 4) ifsYes (eCall (one dTuple) (eArgs [(fz (nLc [3] (iRange1 (eArgs [(eN 1)])) (tgN 3) ifsYes (eCall (one dInt) (eArgs [(eOp dEq (eOp dIdx (eN 2) (eN 4)) (eN 3))]))))]))))]))))
def m__law_exchange_rows : Fn := mkFn 2 3 b__law_exchange_rows
def b__law_tables : E Ctl := (sSeq (sPar [(3, (kV' (eFn m__law_draw (eArgs [(eN 0), (eC (.int 8))])))), (4, (kV' (eFn m__law_shuffled (eArgs [(eN 0), (fz (nRange1 (eN 1)))]))))])
  (sSeq (setOwn 5 (nLst (eArgs [])))
  (sSeq (sFor (iRange1 (eArgs [(eN 2)])) (tgN 6)
  (sSeq (sIf (tV (eOp dLt (eN 3) (eC (.int 2))))
  (sAsg (eFn m__law_free_rows (eArgs [(eN 0), (eN 1)])) (tgN 7))
  (sIf (tV (eOp dEq (eN 3) (eC (.int 2))))
  (sAsg (eFn m__law_moving_rows (eArgs [(eN 0), (eN 1)])) (tgN 7))
  (sIf (tV (eOp dIn (eN 3) (eTup (eArgs [(eC (.int 3)), (eC (.int 4))]))))
  (sAsg (eFn m__law_stair_rows (eArgs [(eN 0), (eN 1), (eN 4)])) (tgN 7))
  (sIf (tV (eOp dEq (eN 3) (eC (.int 5))))
  (sAsg (eIf (tV (eOp dGt (eN 6) (eC (.int 0)))) (eFn m__law_exchange_rows (eArgs [(eN 0), (eN 1)])) (eFn m__law_stair_rows (eArgs [(eN 0), (eN 1), (eN 4)]))) (tgN 7))
  (sAsg (eIf (tV (eOp dGt (eFn m__law_draw (eArgs [(eN 0), (eC (.int 3))])) (eC (.int 0)))) (eFn m__law_moving_rows (eArgs [(eN 0), (eN 1)])) (eFn m__law_exchange_rows (eArgs [(eN 0), (eN 1)]))) (tgN 7))))))
  (sExpr (eMut mAppend (eN 5) (eArgs [(eN 7)])))))
  (sSeq (sIf (tV (eOp dGt (eN 3) (eC (.int 5))))
  (sSeq (sPar [(6, (kV' (eFn m__law_draw (eArgs [(eN 0), (eN 2)])))), (8, (kV' (eFn m__law_draw (eArgs [(eN 0), (eN 1)])))), (9, (kV' (eFn m__law_draw (eArgs [(eN 0), (eN 1)]))))])
  (sSeq (sAsg (eOp dAdd (eOp dAdd (eCut (eOp dIdx (eOp dIdx (eN 5) (eN 6)) (eN 8)) none (some (eN 9))) (eTup (eArgs [(eOp dAdd (eOp dIdx (eOp dIdx (eOp dIdx (eN 5) (eN 6)) (eN 8)) (eN 9)) (eC (.int 1)))]))) (eCut (eOp dIdx (eOp dIdx (eN 5) (eN 6)) (eN 8)) (some (eOp dAdd (eN 9) (eC (.int 1)))) none)) (tgN 10))
  (sAsg (eOp dAdd (eOp dAdd (eCut (eOp dIdx (eN 5) (eN 6)) none (some (eN 8))) (eTup (eArgs [(eN 10)]))) (eCut (eOp dIdx (eN 5) (eN 6)) (some (eOp dAdd (eN 8) (eC (.int 1)))) none)) (tgSub (eN 5) (eN 6)))))
  sSkip)
  (sRet (eN 5))))))
def m__law_tables : Fn := mkFn 3 8 b__law_tables
def b_is_list : E Ctl := (sRet (eCall (two dIsi) (eArgs [(eN 0), (eTup (eArgs [(eC (.ty "tuple")), (eC (.ty "list"))]))])))
def m_is_list : Fn := mkFn 1 0 b_is_list
def b_is_whole : E Ctl := (sRet (eAnd (eCall (two dIsi) (eArgs [(eN 0), (eC (.ty "int"))])) (eNot (eCall (two dIsi) (eArgs [(eN 0), (eC (.ty "bool"))])))))
def m_is_whole : Fn := mkFn 1 0 b_is_whole
def b_is_counts : E Ctl := (sRet (eAnd (eFn m_is_list (eArgs [(eN 1)])) (eAnd (eOp dEq (eCall (one dLen) (eArgs [(eN 1)])) (eN 0)) (eCall (one dAll) (eArgs [(fz (nLc [2] (iSeq (eN 1)) (tgN 2) ifsYes (eAnd (eFn m_is_whole (eArgs [(eN 2)])) (eOp dGe (eN 2) (eC (.int 0))))))])))))
def m_is_counts : Fn := mkFn 2 1 b_is_counts
def b_is_rows : E Ctl := (sRet (eAnd (eFn m_is_list (eArgs [(eN 0)])) (eAnd (eOp dGt (eCall (one dLen) (eArgs [(eN 0)])) (eC (.int 0))) (eCall (one dAll) (eArgs [(fz (nLc [1] (iSeq (eN 0)) (tgN 1) ifsYes (eFn m_is_counts (eArgs [(eCall (one dLen) (eArgs [(eN 0)])), (eN 1)]))))])))))
def m_is_rows : Fn := mkFn 1 1 b_is_rows
def b_Table_init : E Ctl := (sSeq (sIf (tNot' (tV (eFn m_is_rows (eArgs [(eN 1)]))))
  no'
  sSkip)
  (sSeq (sFldSet ("rows" : Str) (eN 0) (eCall (one dTuple) (eArgs [(fz (nLc [2] (iSeq (eN 1)) (tgN 2) ifsYes (eCall (one dTuple) (eArgs [(eN 2)]))))])))
  (sFldSet ("many" : Str) (eN 0) (eCall (one dLen) (eArgs [(eUn (getFld ("rows" : Str)) (eN 0))])))))
def m_Table_init : Fn := mkFn 2 1 b_Table_init
def b_is_name : E Ctl := (sSeq (sIf (tOr' (tNot' (tV (eCall (two dIsi) (eArgs [(eN 0), (eC (.ty "str"))])))) (tOr' (tNot' (tV (eChain dLe dLe (eC (.int 1)) (eCall (one dLen) (eArgs [(eN 0)])) (eC (.int 12))))) (tV (eOp dIn (eN 0) (eC k_KEPT_WORDS)))))
  (sRet (eC (.bl false)))
  sSkip)
  (sSeq (sIf (tV (eOp dNotIn (eOp dIdx (eN 0) (eC (.int 0))) (eC k_LETTERS)))
  (sRet (eC (.bl false)))
  sSkip)
  (sRet (eCall (one dAll) (eArgs [(fz (nLc [1] (iSeq (eN 0)) (tgN 1) ifsYes (eOr (eOp dIn (eN 1) (eC k_LETTERS)) (eOr (eOp dIn (eN 1) (eC k_FIGURES)) (eOp dEq (eN 1) (eC (.str ("_" : Str))))))))])))))
def m_is_name : Fn := mkFn 1 1 b_is_name
def b_name_new : E Ctl := (sSeq (sIf (tNot' (tV (eFn m_is_name (eArgs [(eN 0)]))))
  no'
  sSkip)
  (sSeq (sIf (tV (eOp dIn (eN 0) (eN 1)))
  no'
  sSkip)
  (sAsg (eC (.bl true)) (tgSub (eN 1) (eN 0)))))
def m_name_new : Fn := mkFn 2 0 b_name_new
def b_Book_init : E Ctl := (sSeq (sIf (tOr' (tNot' (tV (eFn m_is_list (eArgs [(eN 1)])))) (tV (eOp dEq (eCall (one dLen) (eArgs [(eN 1)])) (eC (.int 0)))))
  no'
  sSkip)
  (sSeq (setSh 3 nDk)
  (sSeq (sFor (iSeq (eN 1)) (tgN 4)
  (sExpr (eFn m_name_new (eArgs [(eN 4), (eN 3)]))))
  (sSeq (sIf (tOr' (tNot' (tV (eFn m_is_list (eArgs [(eN 2)])))) (tV (eOp dEq (eCall (one dLen) (eArgs [(eN 2)])) (eC (.int 0)))))
  no'
  sSkip)
  (sSeq (sFor (iSeq (eN 2)) (tgN 5)
  (sSeq (sIf (tOr' (tNot' (tV (eFn m_is_list (eArgs [(eN 5)])))) (tV (eOp dNe (eCall (one dLen) (eArgs [(eN 5)])) (eC (.int 2)))))
  no'
  sSkip)
  (sSeq (sExpr (eFn m_name_new (eArgs [(eOp dIdx (eN 5) (eC (.int 0))), (eN 3)])))
  (sIf (tOr' (tNot' (tV (eCall (two dIsi) (eArgs [(eOp dIdx (eN 5) (eC (.int 1))), (eC (.kls ("Table" : Str)))])))) (tV (eOp dNe (eUn (getFld ("many" : Str)) (eOp dIdx (eN 5) (eC (.int 1)))) (eCall (one dLen) (eArgs [(eN 1)])))))
  no'
  sSkip))))
  (sSeq (sFldSet ("kinds" : Str) (eN 0) (eCall (one dTuple) (eArgs [(eN 1)])))
  (sSeq (sFldSet ("names" : Str) (eN 0) (eCall (one dTuple) (eArgs [(fz (nLc [5] (iSeq (eN 2)) (tgN 5) ifsYes (eOp dIdx (eN 5) (eC (.int 0)))))])))
  (sFldSet ("tables" : Str) (eN 0) (eCall (one dTuple) (eArgs [(fz (nLc [5] (iSeq (eN 2)) (tgN 5) ifsYes (eOp dIdx (eN 5) (eC (.int 1)))))]))))))))))
def m_Book_init : Fn := mkFn 3 3 b_Book_init
def b__law_book : E Ctl := (sSeq (sAsg (eCall (one dLen) (eArgs [(eOp dIdx (eN 1) (eC (.int 0)))])) (tgN 3))
  (sRet (eMake ("Book" : Str) m_Book_init (eArgs [(eCut (eN 2) none (some (eN 3))), (fz (nLc [4] (iRange1 (eArgs [(eCall (one dLen) (eArgs [(eN 1)]))])) (tgN 4) ifsYes (eTup (eArgs [(eOp dIdx (eN 2) (eOp dAdd (eN 3) (eN 4))), (eMake ("Table" : Str) m_Table_init (eArgs [(eOp dIdx (eN 1) (eN 4))]))]))))]))))
def m__law_book : Fn := mkFn 3 2 b__law_book
def b_supports_of : E Ctl := (sSeq (sAsg (eCall (one dLen) (eArgs [(eUn (getFld ("kinds" : Str)) (eN 0))])) (tgN 1))
  (sRet (fz (nLc [4] (iSeq (eUn (getFld ("tables" : Str)) (eN 0))) (tgN 4) ifsYes (fz (nLc [3] (iRange1 (eArgs [(eN 1)])) (tgN 3) ifsYes (fz (nLc [2] (iRange1 (eArgs [(eN 1)])) (tgN 2) (tV (eOp dGt (eOp dIdx (eOp dIdx (eUn (getFld ("rows" : Str)) (eN 4)) (eN 3)) (eN 2)) (eC (.int 0)))) (eN 2)))))))))
def m_supports_of : Fn := mkFn 1 4 b_supports_of
def b_Book_len : E Ctl := (sRet (eCall (one dLen) (eArgs [(eUn (getFld ("names" : Str)) (eN 0))])))
def m_Book_len : Fn := mkFn 1 0 b_Book_len
def b_splits : E Ctl := (sSeq (setOwn 1 (nLst (eArgs [])))
  (sSeq (sAsg (eFn m_supports_of (eArgs [(eN 0)])) (tgN 2))
  (sSeq (sFor (iRange1 (eArgs [(eLenO ("Book" : Str) m_Book_len (eArgs [(eN 0)]))])) (tgN 3)
  (sFor (iRange1 (eArgs [(eCall (one dLen) (eArgs [(eUn (getFld ("kinds" : Str)) (eN 0))]))])) (tgN 4)
  (sFor (iSeq (eOp dIdx (eOp dIdx (eN 2) (eN 3)) (eN 4))) (tgN 5)
  (sFor (iSeq (eOp dIdx (eOp dIdx (eN 2) (eN 3)) (eN 4))) (tgN 6)
  (sIf (tOr' (tV (eOp dLt (eN 5) (eN 6))) (tAnd' (tV (eOp dEq (eN 5) (eN 6))) (tV (eOp dGt (eOp dIdx (eOp dIdx (eUn (getFld ("rows" : Str)) (eOp dIdx (eUn (getFld ("tables" : Str)) (eN 0)) (eN 3))) (eN 4)) (eN 5)) (eC (.int 1))))))
  (sExpr (eMut mAppend (eN 1) (eArgs [(eTup (eArgs [(eN 3), (eN 4), (eN 5), (eN 6)]))])))
  sSkip)))))
  (sRet (eCall (one dTuple) (eArgs [(eCall (one dSorted) (eArgs [(eN 1)]))]))))))
def m_splits : Fn := mkFn 1 6 b_splits
def b_pair_steps : E Ctl := (sSeq (sAsg (eCall (one dLen) (eArgs [(eUn (getFld ("kinds" : Str)) (eN 0))])) (tgN 1))
  (sSeq (sAsg (eFn m_supports_of (eArgs [(eN 0)])) (tgN 2))
  (sSeq (setOwn 3 nDt)
  (sSeq (sFor (iRange1 (eArgs [(eN 1)])) (tgN 4)
  (sFor (iRange1 (eArgs [(eN 1)])) (tgN 5)
  (sSeq (setOwn 6 (nLst (eArgs [])))
  (sSeq (sFor (iRange1 (eArgs [(eLenO ("Book" : Str) m_Book_len (eArgs [(eN 0)]))])) (tgN 7)
  (sSeq (sAsg (eUn (getFld ("rows" : Str)) (eOp dIdx (eUn (getFld ("tables" : Str)) (eN 0)) (eN 7))) (tgN 8))
  (sFor (iSeq (eOp dIdx (eOp dIdx (eN 2) (eN 7)) (eN 4))) (tgN 9)
  (sFor (iSeq (eOp dIdx (eOp dIdx (eN 2) (eN 7)) (eN 5))) (tgN 10)
  (sSeq (sAsg (eAnd (eOp dEq (eN 4) (eN 5)) (eOr (eOp dNe (eN 9) (eN 10)) (eOp dGt (eOp dIdx (eOp dIdx (eN 8) (eN 4)) (eN 9)) (eC (.int 1))))) (tgN 11))
  (sExpr (eMut mAppend (eN 6) (eArgs [(eTup (eArgs [(eN 7), (eTup (eArgs [(eN 9), (eN 10)])), (eCall (one dInt) (eArgs [(eN 11)]))]))]))))))))
  (sAsg (eN 6) (tgSub (eN 3) (eTup (eArgs [(eN 4), (eN 5)]))))))))
  (sRet (eN 3))))))
def m_pair_steps : Fn := mkFn 1 11 b_pair_steps
def b_doublings_found : E Ctl := (sSeq (sAsg (eFn m_pair_steps (eArgs [(eN 0)])) (tgN 1))
  (sSeq (setOwn 2 nDk)
  (sSeq (sFor (iRange1 (eArgs [(eCall (one dLen) (eArgs [(eUn (getFld ("kinds" : Str)) (eN 0))]))])) (tgN 3)
  (sSeq (setOwn 4 (nLst (eArgs [])))
  (sSeq (sFor (iSeq (eOp dIdx (eN 1) (eTup (eArgs [(eN 3), (eN 3)])))) (tgTup [(tgN 5), (tgN 6), (tgN 7)])
  (sIf (tV (eOp dEq (eN 7) (eC (.int 1))))
  (sSeq (sAsg (eGet no' (eTup (eArgs [(eN 3), (eN 3)]))) (tgN 8))
  (sIf (tV (eOp dIsNot (eN 8) (eC .non)))
  (sExpr (eMut mAppend (eN 4) (eArgs [(eOp dAdd (eTup (eArgs [(eN 5)])) (eN 8))])))
  sSkip))
  sSkip))
  (sIf (tV (eOp dGt (eCall (one dLen) (eArgs [(eN 4)])) (eC (.int 0))))
  (sAsg no' (tgSub (eN 2) (eN 3)))
  sSkip))))
  (sRet (eN 2)))))
def m_doublings_found : Fn := mkFn 1 8 b_doublings_found
def b_shortest_doubling : E Ctl := (sSeq (sAsg (eFn m_doublings_found (eArgs [(eN 0)])) (tgN 1))
  (sSeq (sIf (tV (eOp dEq (eCall (one dLen) (eArgs [(eN 1)])) (eC (.int 0))))
  (sRet (eC .non))
  sSkip)
  (sSeq (sAsg no' (tgN 2))
  (sRet no'))))
def m_shortest_doubling : Fn := mkFn 1 2 b_shortest_doubling
def b_doubles : E Ctl := (sRet (eOp dIsNot (eFn m_shortest_doubling (eArgs [(eN 0)])) (eC .non)))
def m_doubles : Fn := mkFn 1 0 b_doubles
def b_highest : E Ctl := (sSeq (setOwn 1 (nDc true [2] (iKeysN 0) (tgN 2) ifsYes (eN 2) (eC (.int 0))))
  (sSeq (sAsg (eC (.bl true)) (tgN 3))
  (sSeq (whileLoop (tV (eN 3))
  (sSeq (sAsg (eC (.bl false)) (tgN 3))
  (sFor (iKeysN 0) (tgN 2)
  (sSeq (sAsg (eCall (one dMax1) (eArgs [(eOp dAdd (fz (nLst (eArgs [(eOp dIdx (eN 1) (eN 2))]))) (fz (nLc [5, 6] (iSeq (eOp dIdx (eN 0) (eN 2))) (tgTup [(tgN 5), (tgN 6)]) ifsYes (eOp dAdd (eOp dIdx (eN 1) (eN 5)) (eN 6)))))])) (tgN 4))
  (sIf (tV (eOp dGt (eN 4) (eOp dIdx (eN 1) (eN 2))))
  (sSeq (sAsg (eN 4) (tgSub (eN 1) (eN 2)))
  (sAsg (eC (.bl true)) (tgN 3)))
  sSkip)))) 2)
  (sRet (eN 1)))))
def m_highest : Fn := mkFn 1 6 b_highest
def b_frozen (rec : Fn) : E Ctl := (sSeq (sIf (tV (eCall (two dIsi) (eArgs [(eN 0), (eTup (eArgs [(eC (.ty "tuple")), (eC (.ty "list"))]))])))
  (sRet (eCall (one dTuple) (eArgs [(fz (nLc [1] (iSeq (eN 0)) (tgN 1) ifsYes (eFn (rec) (eArgs [(eN 1)]))))])))
  sSkip)
  (sRet (eN 0)))
def m_frozen : Nat → Fn
  | 0 => fun _ _ => none
  | n + 1 => mkFn 1 1 (b_frozen (m_frozen n))
def b_Heights_init : E Ctl := (sFldSet ("rows" : Str) (eN 0) (eFn (m_frozen 6) (eArgs [(eN 1)])))
def m_Heights_init : Fn := mkFn 2 0 b_Heights_init
def b_growth_verdict : E Ctl := (sSeq (sAsg (eFn m_shortest_doubling (eArgs [(eN 0)])) (tgN 1))
  (sSeq (sIf (tV (eOp dIsNot (eN 1) (eC .non)))
  (sRet (eN 1))
  sSkip)
  (sSeq (sAsg (eFn m_pair_steps (eArgs [(eN 0)])) (tgN 2))
  (sSeq (sAsg (eFn m_highest (eArgs [(fz (nDc true [5] (iKeysN 2) (tgN 5) ifsYes (eN 5) (fz (nLc [4] (iSeq (eOp dIdx (eN 2) (eN 5))) (tgN 4) ifsYes (eTup (eArgs [(eOp dIdx (eN 4) (eC (.int 1))), (eOp dIdx (eN 4) (eC (.int 2)))]))))))])) (tgN 3))
  (sRet (eMake ("Heights" : Str) m_Heights_init (eArgs [(eCall (one dSorted) (eArgs [(fz (nLc [5] (iKeysN 3) (tgN 5) ifsYes (eTup (eArgs [(eN 5), (eOp dIdx (eN 3) (eN 5))]))))]))])))))))
def m_growth_verdict : Fn := mkFn 1 5 b_growth_verdict
def b_law_10 : E Ctl := (sRet (eAnd (eCall (two dIsi) (eArgs [(eN 16), (eC (.kls ("Heights" : Str)))])) (eAnd (eCall (one dAll) (eArgs [(fz (nLc [12] (iSeq (eUn (getFld ("rows" : Str)) (eN 16))) (tgN 12) ifsYes (eOp dEq (eOp dIdx (eN 12) (eC (.int 1))) (eC (.int 0)))))])) (eOp dEq (eCall (one dLen) (eArgs [(eUn (getFld ("rows" : Str)) (eN 16))])) (eOp dMul (eN 2) (eN 2))))))
def b_law_9 : E Ctl := (sSeq (sAsg (eFn m_growth_verdict (eArgs [(eN 14)])) (tgN 16))
  b_law_10)
def b_law_8 : E Ctl := (sSeq (sIf (tOr' (tV (eOp dNe (eFn m_splits (eArgs [(eN 14)])) (eTup (eArgs [])))) (tV (eFn m_doubles (eArgs [(eN 14)]))))
  (sRet (eC (.bl false)))
  sSkip)
  b_law_9)
def b_law_7 : E Ctl := (sSeq (sAsg (eFn m__law_book (eArgs [(eN 1), (fz (nLc [15] (iRange1 (eArgs [(eN 3)])) (tgN 15) ifsYes (eFn m__law_moving_rows (eArgs [(eN 1), (eN 2)])))), (eN 4)])) (tgN 14))
  b_law_8)
def b_law_6 : E Ctl := (sSeq (sIf (tOr' (tV (eOp dNe (eN 13) (eCall (one dTuple) (eArgs [(eN 7)])))) (tOr' (tNot' (tV (eCall (two dIsi) (eArgs [(eN 13), (eC (.ty "tuple"))])))) (tNot' (tV (eCall (one dAll) (eArgs [(fz (nLc [12] (iSeq (eN 13)) (tgN 12) ifsYes (eCall (two dIsi) (eArgs [(eN 12), (eC (.ty "tuple"))]))))]))))))
  (sRet (eC (.bl false)))
  sSkip)
  b_law_7)
def b_law_5 : E Ctl := (sSeq (sAsg (eFn m_splits (eArgs [(eN 6)])) (tgN 13))
  b_law_6)
def b_law_4 : E Ctl := (sSeq (sFor (iRange1 (eArgs [(eN 3)])) (tgN 8)
  (sFor (iRange1 (eArgs [(eN 2)])) (tgN 9)
  (sFor (iRange1 (eArgs [(eN 2)])) (tgN 10)
  (sFor (iRange2 (eArgs [(eN 10), (eN 2)])) (tgN 11)
  (sSeq (sAsg (eOp dIdx (eOp dIdx (eN 5) (eN 8)) (eN 9)) (tgN 12))
  (sIf (tOr' (tAnd' (tV (eOp dLt (eN 10) (eN 11))) (tAnd' (tV (eOp dGt (eOp dIdx (eN 12) (eN 10)) (eC (.int 0)))) (tV (eOp dGt (eOp dIdx (eN 12) (eN 11)) (eC (.int 0)))))) (tAnd' (tV (eOp dEq (eN 10) (eN 11))) (tV (eOp dGt (eOp dIdx (eN 12) (eN 10)) (eC (.int 1))))))
  (sExpr (eMut mAppend (eN 7) (eArgs [(eTup (eArgs [(eN 8), (eN 9), (eN 10), (eN 11)]))])))
  sSkip))))))
  b_law_5)
def b_law_3 : E Ctl := (sSeq (sPar [(6, (kV' (eFn m__law_book (eArgs [(eN 1), (eN 5), (eN 4)])))), (7, (kOwn (nLst (eArgs []))))])
  b_law_4)
def b_law_2 : E Ctl := (sSeq (sPar [(4, (kV' (eFn m__law_names (eArgs [(eN 1), (eOp dAdd (eN 2) (eN 3))])))), (5, (kV' (eFn m__law_tables (eArgs [(eN 1), (eN 2), (eN 3)]))))])
  b_law_3)
def b_law_1 : E Ctl := (sSeq (sAsg (eTup (eArgs [(eFn m__law_many (eArgs [(eN 1)])), (eOp dAdd (eC (.int 1)) (eFn m__law_draw (eArgs [(eN 1), (eC (.int 4))])))])) (tgTup [(tgN 2), (tgN 3)]))
  b_law_2)
def b_law : E Ctl := (sSeq (sAsg (eFn m__law_pen (eArgs [(eN 0)])) (tgN 1))
  b_law_1)
def m_law : Fn := mkFn 1 16 b_law
end Z09
set_option Elab.async false
set_option linter.all false
set_option maxRecDepth 100000
set_option maxHeartbeats 4000000
namespace Z09
open PySem L2 MF

theorem draw_fin {b : Nat} {p : Pn} {many : Int} {ρ1 ρ2 : MF.Loc} (hp : p.Ok b) (h1 : 0 < many) (h2 : many < 1073741824) : ∃ r, ∃ p' : Pn, ∃ m',
   (sSeq (sIf (tV (eOp dGt (eOp dIdx (eN 0) (eC (.str ("digits" : Str)))) (eC (.int 0))))
  (sSeq (sAsg (eOp dMod (eCall (one dInt) (eArgs [(eOp dIdx (eN 0) (eC (.str ("digits" : Str))))])) (eN 1)) (tgN 3))
  (sSeq (sAsg (eOp dFdiv (eOp dIdx (eN 0) (eC (.str ("digits" : Str)))) (eN 1)) (tgSub (eN 0) (eC (.str ("digits" : Str)))))
  (sRet (eN 3))))
  sSkip)
  (sSeq (sAsg (eOp dAdd (eOp dAdd (eOp dIdx (eN 0) (eC (.str ("fold" : Str)))) (eOp dMul (eOp dIdx (eN 0) (eC (.str ("count" : Str)))) (eC (.int 8513)))) (eC (.int 61))) (tgN 4))
  (sRet (eOp dMod (eOp dFdiv (eCall (one dInt) (eArgs [(eOp dMod (eOp dPow (eN 4) (eC (.int 19))) (eC (.int 2305843009213693951)))])) (eC (.int 256))) (eN 1))))) ⟨[.s 0, .t (.int many), ρ1, ρ2, .un], [p.D]⟩ = .ok (.rt (.t (.int r))) m' ∧ m'.S = [p'.D] ∧ 0 ≤ r ∧ r < many ∧ p'.Ok b := by
  have hmod : ∀ i, modOk i many = true := fun i => decide_eq_true h1
  have hdiv : ∀ i, divOk i many = true := fun i => decide_eq_true ⟨h1, by have := log2_lt (i := many) (k := 30) (by omega); omega⟩
  obtain ⟨cs, a, d, n, f⟩ := p
  obtain ⟨a0, d0, n0, nb, f0, fb⟩ := hp
  simp only at a0 d0 n0 nb f0 fb
  by_cases hd : 0 < d
  · simp only [sSeq, sIf, sAsg, sRet, sSkip, sExpr, setOwn, tgN, tgSub, eOp, eCall, one_eq, two_eq, eArgs, eN, eC, eTup, fz, nLst, tV, tAnd', tOr', tNot', eAnd, eOr, eNot, eIf, E.bind, E.ret, E.opt, rd, rds, dat, asD, asDs, arg, args, toD, boolOf, putD, putS, Arg.loc, List.length_cons, List.length_nil, List.getElem?_cons_zero, List.getElem?_cons_succ, List.set_cons_zero, List.set_cons_succ, if_true, Nat.zero_lt_succ, decide_true, Nat.reduceAdd, Nat.reduceLT, Nat.zero_add, Bool.false_eq_true, if_false, decide_false, List.map_cons, List.map_nil, List.replicate, List.cons_append, List.nil_append, pg_digits, pp_digits, dGt_int, dInt_int, dMod_int (hmod _), dFdiv_int (hdiv _), hd]
    exact ⟨_, ⟨cs, a, d / many, n, f⟩, _, rfl, rfl, Int.emod_nonneg _ (by omega), Int.emod_lt_of_pos _ h1, a0, Int.ediv_nonneg d0 (by omega), n0, nb, f0, fb⟩
  · have m1 : mulOk n 8513 = true := mulOk_of (a := 40) (b := 20) (by omega) (by decide) (by decide)
    have m2 : powOk (f + n * 8513 + 61) 19 = true := decide_eq_true ⟨by decide, by decide, by omega⟩
    have m3 : modOk ((f + n * 8513 + 61) ^ (19 : Int).toNat) 2305843009213693951 = true := rfl
    have m4 : ∀ i, divOk i 256 = true := fun i => rfl
    simp only [sSeq, sIf, sAsg, sRet, sSkip, sExpr, setOwn, tgN, tgSub, eOp, eCall, one_eq, two_eq, eArgs, eN, eC, eTup, fz, nLst, tV, tAnd', tOr', tNot', eAnd, eOr, eNot, eIf, E.bind, E.ret, E.opt, rd, rds, dat, asD, asDs, arg, args, toD, boolOf, putD, putS, Arg.loc, List.length_cons, List.length_nil, List.getElem?_cons_zero, List.getElem?_cons_succ, List.set_cons_zero, List.set_cons_succ, if_true, Nat.zero_lt_succ, decide_true, Nat.reduceAdd, Nat.reduceLT, Nat.zero_add, Bool.false_eq_true, if_false, decide_false, List.map_cons, List.map_nil, List.replicate, List.cons_append, List.nil_append, pg_digits, pg_fold, pg_count, dGt_int, dInt_int, dAdd_int, dMul_int m1, dPow_int m2, dMod_int m3, dFdiv_int (m4 _), dMod_int (hmod _), hd]
    exact ⟨_, ⟨cs, a, d, n, f⟩, _, rfl, rfl, Int.emod_nonneg _ (by omega), Int.emod_lt_of_pos _ h1, a0, d0, n0, nb, f0, fb⟩
theorem draw_ok {b : Nat} {p : Pn} {many : Int} (hp : p.Ok (b + 1)) (h1 : 0 < many) (h2 : many < 1073741824) : ∃ r, ∃ p' : Pn, m__law_draw [.s 0, .t (.int many)] [p.D] = some (.t (.int r), [p'.D]) ∧ 0 ≤ r ∧ r < many ∧ p'.Ok b := by
  obtain ⟨cs, a, d, n, f⟩ := p
  obtain ⟨a0, d0, n0, nb, f0, fb⟩ := hp
  simp only at a0 d0 n0 nb f0 fb
  have main : ∃ r, ∃ p' : Pn, ∃ m', b__law_draw ⟨[.s 0, .t (.int many), .un, .un, .un], [(⟨cs, a, d, n, f⟩ : Pn).D]⟩ = .ok (.rt (.t (.int r))) m' ∧ m'.S = [p'.D] ∧ 0 ≤ r ∧ r < many ∧ p'.Ok b := by
    have s1 : (sAsg (eOp dAdd (eOp dIdx (eN 0) (eC (.str ("count" : Str)))) (eC (.int 1))) (tgSub (eN 0) (eC (.str ("count" : Str))))) ⟨[.s 0, .t (.int many), .un, .un, .un], [(⟨cs, a, d, n, f⟩ : Pn).D]⟩ = .ok .nx ⟨[.s 0, .t (.int many), .un, .un, .un], [(⟨cs, a, d, n + 1, f⟩ : Pn).D]⟩ := by
      simp only [sSeq, sIf, sAsg, sRet, sSkip, sExpr, setOwn, tgN, tgSub, eOp, eCall, one_eq, two_eq, eArgs, eN, eC, eTup, fz, nLst, tV, tAnd', tOr', tNot', eAnd, eOr, eNot, eIf, E.bind, E.ret, E.opt, rd, rds, dat, asD, asDs, arg, args, toD, boolOf, putD, putS, Arg.loc, List.length_cons, List.length_nil, List.getElem?_cons_zero, List.getElem?_cons_succ, List.set_cons_zero, List.set_cons_succ, if_true, Nat.zero_lt_succ, decide_true, Nat.reduceAdd, Nat.reduceLT, Nat.zero_add, Bool.false_eq_true, if_false, decide_false, List.map_cons, List.map_nil, List.replicate, List.cons_append, List.nil_append, pg_count, pp_count, dAdd_int]
    unfold b__law_draw
    rw [seq_nx s1]
    by_cases hd : d = 0
    · by_cases ha : a < cs.length
      · obtain ⟨k, rfl⟩ := Int.eq_ofNat_of_zero_le a0
        have hk : k < cs.length := by omega
        have hcell : atI (cs.map D.int) (k : Int) = some (.int cs[k]) := by rw [MF.atI_nat, List.getElem?_map, List.getElem?_eq_getElem hk]; rfl
        have e1 : powOk 10 18 = true := by decide
        have hkl : (k : Int) < (cs.length : Int) := ha
        by_cases hc : (1000000000000000000 : Int) ≤ cs[k]
        · rw [seq_nx (m1 := ⟨[.s 0, .t (.int many), .t (.int cs[k]), .un, .un], [(⟨cs, k + 1, cs[k] - 1000000000000000000, n + 1, f⟩ : Pn).D]⟩)]
          · exact draw_fin ⟨by simp only; omega, by simp only; omega, by simp only; omega, by simp only; omega, f0, fb⟩ h1 h2
          · have e2 : (10 : Int) ^ (18 : Int).toNat = 1000000000000000000 := by decide
            simp only [sSeq, sIf, sAsg, sRet, sSkip, sExpr, setOwn, tgN, tgSub, eOp, eCall, one_eq, two_eq, eArgs, eN, eC, eTup, fz, nLst, tV, tAnd', tOr', tNot', eAnd, eOr, eNot, eIf, E.bind, E.ret, E.opt, rd, rds, dat, asD, asDs, arg, args, toD, boolOf, putD, putS, Arg.loc, List.length_cons, List.length_nil, List.getElem?_cons_zero, List.getElem?_cons_succ, List.set_cons_zero, List.set_cons_succ, if_true, Nat.zero_lt_succ, decide_true, Nat.reduceAdd, Nat.reduceLT, Nat.zero_add, Bool.false_eq_true, if_false, decide_false, List.map_cons, List.map_nil, List.replicate, List.cons_append, List.nil_append, pg_count, pg_digits, pg_at, pg_cells, pp_at, pp_digits, dAdd_int, dSub_int, dEq_int, dLt_int, dGe_int, dLen_lst, dIdx_lst, dPow_int e1, e2, hd, hcell, hkl, hc, List.length_map]
        · rw [seq_nx (m1 := ⟨[.s 0, .t (.int many), .t (.int cs[k]), .un, .un], [(⟨cs, k + 1, 0, n + 1, (f * 48271 + cs[k]) % 2147483563⟩ : Pn).D]⟩)]
          · exact draw_fin ⟨by simp only; omega, by simp only; omega, by simp only; omega, by simp only; omega, by simp only; exact Int.emod_nonneg _ (by decide), by simp only; have := Int.emod_lt_of_pos (f * 48271 + cs[k]) (b := 2147483563) (by decide); omega⟩ h1 h2
          · have e2 : (10 : Int) ^ (18 : Int).toNat = 1000000000000000000 := by decide
            have e3 : mulOk f 48271 = true := mulOk_of (a := 40) (b := 20) (by omega) (by decide) (by decide)
            have e4 : ∀ i, modOk i 2147483563 = true := fun _ => rfl
            simp only [sSeq, sIf, sAsg, sRet, sSkip, sExpr, setOwn, tgN, tgSub, eOp, eCall, one_eq, two_eq, eArgs, eN, eC, eTup, fz, nLst, tV, tAnd', tOr', tNot', eAnd, eOr, eNot, eIf, E.bind, E.ret, E.opt, rd, rds, dat, asD, asDs, arg, args, toD, boolOf, putD, putS, Arg.loc, List.length_cons, List.length_nil, List.getElem?_cons_zero, List.getElem?_cons_succ, List.set_cons_zero, List.set_cons_succ, if_true, Nat.zero_lt_succ, decide_true, Nat.reduceAdd, Nat.reduceLT, Nat.zero_add, Bool.false_eq_true, if_false, decide_false, List.map_cons, List.map_nil, List.replicate, List.cons_append, List.nil_append, pg_count, pg_digits, pg_at, pg_cells, pg_fold, pp_at, pp_digits, pp_fold, dAdd_int, dSub_int, dEq_int, dLt_int, dGe_int, dLen_lst, dIdx_lst, dInt_int, dPow_int e1, e2, dMul_int e3, dMod_int (e4 _), hd, hcell, hkl, hc, List.length_map]
      · rw [seq_nx (m1 := ⟨[.s 0, .t (.int many), .un, .un, .un], [(⟨cs, a, d, n + 1, f⟩ : Pn).D]⟩)]
        · exact draw_fin ⟨a0, d0, by simp only; omega, by simp only; omega, f0, fb⟩ h1 h2
        · simp only [sSeq, sIf, sAsg, sRet, sSkip, sExpr, setOwn, tgN, tgSub, eOp, eCall, one_eq, two_eq, eArgs, eN, eC, eTup, fz, nLst, tV, tAnd', tOr', tNot', eAnd, eOr, eNot, eIf, E.bind, E.ret, E.opt, rd, rds, dat, asD, asDs, arg, args, toD, boolOf, putD, putS, Arg.loc, List.length_cons, List.length_nil, List.getElem?_cons_zero, List.getElem?_cons_succ, List.set_cons_zero, List.set_cons_succ, if_true, Nat.zero_lt_succ, decide_true, Nat.reduceAdd, Nat.reduceLT, Nat.zero_add, Bool.false_eq_true, if_false, decide_false, List.map_cons, List.map_nil, List.replicate, List.cons_append, List.nil_append, pg_count, pg_digits, pg_at, pg_cells, dEq_int, dLt_int, dLen_lst, hd, ha, List.length_map]
    · rw [seq_nx (m1 := ⟨[.s 0, .t (.int many), .un, .un, .un], [(⟨cs, a, d, n + 1, f⟩ : Pn).D]⟩)]
      · exact draw_fin ⟨a0, d0, by simp only; omega, by simp only; omega, f0, fb⟩ h1 h2
      · simp only [sSeq, sIf, sAsg, sRet, sSkip, sExpr, setOwn, tgN, tgSub, eOp, eCall, one_eq, two_eq, eArgs, eN, eC, eTup, fz, nLst, tV, tAnd', tOr', tNot', eAnd, eOr, eNot, eIf, E.bind, E.ret, E.opt, rd, rds, dat, asD, asDs, arg, args, toD, boolOf, putD, putS, Arg.loc, List.length_cons, List.length_nil, List.getElem?_cons_zero, List.getElem?_cons_succ, List.set_cons_zero, List.set_cons_succ, if_true, Nat.zero_lt_succ, decide_true, Nat.reduceAdd, Nat.reduceLT, Nat.zero_add, Bool.false_eq_true, if_false, decide_false, List.map_cons, List.map_nil, List.replicate, List.cons_append, List.nil_append, pg_count, pg_digits, dEq_int, hd]
  obtain ⟨r, p', m', h, hS, hr⟩ := main
  refine ⟨r, p', ?_, hr⟩
  unfold m__law_draw
  have e := mkFn_rt (np := 2) (nl := 3) (as := [.s 0, .t (.int many)]) (S := [(⟨cs, a, d, n, f⟩ : Pn).D]) rfl h
  rw [hS] at e
  exact e
theorem atI_some {ds : List D} {r : Int} (h0 : 0 ≤ r) (h1 : r < (ds.length : Int)) : ∃ d, atI ds r = some d ∧ d ∈ ds := by
  obtain ⟨k, rfl⟩ := Int.eq_ofNat_of_zero_le h0
  have hk : k < ds.length := by omega
  exact ⟨ds[k], by rw [MF.atI_nat]; exact List.getElem?_eq_getElem hk, List.getElem_mem hk⟩
theorem pick_ok {b : Nat} {p : Pn} {ds : List D} (hp : p.Ok (b + 1)) (h1 : 0 < ds.length) (h2 : ds.length < 1073741824) : ∃ d, d ∈ ds ∧ ∃ p' : Pn, m__law_pick [.s 0, .t (.lst ds)] [p.D] = some (.t d, [p'.D]) ∧ p'.Ok b := by
  obtain ⟨r, p', hd, r0, r1, ok⟩ := draw_ok (many := ds.length) hp (by omega) (by omega)
  obtain ⟨d, e, hm⟩ := atI_some r0 r1
  refine ⟨d, hm, p', ?_, ok⟩
  have h : b__law_pick ⟨[.s 0, .t (.lst ds)], [p.D]⟩ = .ok (.rt (.t d)) ⟨[.s 0, .t (.lst ds)], [p'.D]⟩ := by
    unfold b__law_pick
    simp only [sSeq, sIf, sAsg, sRet, sSkip, sExpr, setOwn, tgN, tgSub, eOp, eCall, one_eq, two_eq, eArgs, eN, eC, eTup, fz, nLst, tV, tAnd', tOr', tNot', eAnd, eOr, eNot, eIf, E.bind, E.ret, E.opt, rd, rds, dat, asD, asDs, arg, args, toD, boolOf, putD, putS, Arg.loc, List.length_cons, List.length_nil, List.getElem?_cons_zero, List.getElem?_cons_succ, List.set_cons_zero, List.set_cons_succ, if_true, Nat.zero_lt_succ, decide_true, Nat.reduceAdd, Nat.reduceLT, Nat.zero_add, Bool.false_eq_true, if_false, decide_false, List.map_cons, List.map_nil, List.replicate, List.cons_append, List.nil_append, eFn, dLen_lst, dIdx_lst, hd, e]
  exact mkFn_rt (np := 2) (nl := 0) (as := [.s 0, .t (.lst ds)]) (S := [p.D]) rfl h
theorem pickI_ok {b : Nat} {p : Pn} {xs : List Int} (hp : p.Ok (b + 1)) (h1 : 0 < xs.length) (h2 : xs.length < 1073741824) : ∃ i, i ∈ xs ∧ ∃ p' : Pn, pickI m__law_pick 0 xs [p.D] = some (.int i, [p'.D]) ∧ p'.Ok b := by
  obtain ⟨d, hd, p', e, ok⟩ := pick_ok (ds := xs.map .int) hp (by rw [List.length_map]; exact h1) (by rw [List.length_map]; exact h2)
  obtain ⟨i, hi, rfl⟩ := List.mem_map.mp hd
  refine ⟨i, hi, p', ?_, ok⟩
  unfold pickI
  rw [e]
/-- the pen of a script -/
theorem pen_ok (ns : List Int) : ∃ p : Pn, m__law_pen [.t (.scr ns)] [] = some (.s 0, [p.D]) ∧ p.Ok 1099511627776 := by
  have loop := sFor_ok (src := iSeq (eN 0)) (tg := tgN 2) (body := (sAsg (eOp dMod (eCall (one dInt) (eArgs [(eOp dAdd (eOp dMul (eN 1) (eC (.int 59))) (eN 2))])) (eC (.int 1000000009))) (tgN 1))) (items := ns.map .int) (m := ⟨[.t (.scr ns), .t (.int 0), .un], []⟩) (m1 := ⟨[.t (.scr ns), .t (.int 0), .un], []⟩) rfl
    (fun ds m => (∀ d ∈ ds, ∃ i, d = D.int i) ∧ ∃ f l, 0 ≤ f ∧ f < 1000000009 ∧ m = ⟨[.t (.scr ns), .t (.int f), l], []⟩) ⟨fun d hd => by obtain ⟨i, _, rfl⟩ := List.mem_map.mp hd; exact ⟨i, rfl⟩, 0, _, by decide, by decide, rfl⟩ (fun d ds m h => by
      obtain ⟨h, f, l, f0, f1, rfl⟩ := h
      obtain ⟨i, rfl⟩ := h d List.mem_cons_self
      have m1 : mulOk f 59 = true := mulOk_of (a := 40) (b := 20) (by omega) (by decide) (by decide)
      have m2 : ∀ i, modOk i 1000000009 = true := fun _ => rfl
      refine ⟨⟨[.t (.scr ns), .t (.int ((f * 59 + i) % 1000000009)), .t (.int i)], []⟩, ?_, fun d hd => h d (List.mem_cons_of_mem _ hd), _, _, Int.emod_nonneg _ (by decide), Int.emod_lt_of_pos _ (by decide), rfl⟩
      simp only [sSeq, sIf, sAsg, sRet, sSkip, sExpr, setOwn, tgN, tgSub, eOp, eCall, one_eq, two_eq, eArgs, eN, eC, eTup, fz, nLst, tV, tAnd', tOr', tNot', eAnd, eOr, eNot, eIf, E.bind, E.ret, E.opt, rd, rds, dat, asD, asDs, arg, args, toD, boolOf, putD, putS, Arg.loc, List.length_cons, List.length_nil, List.getElem?_cons_zero, List.getElem?_cons_succ, List.set_cons_zero, List.set_cons_succ, if_true, Nat.zero_lt_succ, decide_true, Nat.reduceAdd, Nat.reduceLT, Nat.zero_add, Bool.false_eq_true, if_false, decide_false, List.map_cons, List.map_nil, List.replicate, List.cons_append, List.nil_append, dAdd_int, dMul_int m1, dInt_int, dMod_int (m2 _)])
  obtain ⟨m', e, _, f, l, f0, f1, rfl⟩ := loop
  refine ⟨⟨ns, 0, 0, 0, f⟩, ?_, by show (0 : Int) ≤ 0; decide, by show (0 : Int) ≤ 0; decide, by show (0 : Int) ≤ 0; decide, by show (0 : Int) + (1099511627776 : Nat) ≤ 1099511627776; decide, f0, by simp only; omega⟩
  have h : b__law_pen ⟨[.t (.scr ns), .un, .un], []⟩ = .ok (.rt (.s 0)) ⟨[.t (.scr ns), .t (.int f), l], [(⟨ns, 0, 0, 0, f⟩ : Pn).D]⟩ := by
    unfold b__law_pen
    rw [seq_nx (asg_n (f := eC (.int 0)) (i := 1) rfl (by show 1 < 3; decide))]
    show sSeq _ _ ⟨[.t (.scr ns), .t (.int 0), .un], []⟩ = _
    rw [seq_nx e]
    rfl
  exact mkFn_s (np := 1) (nl := 2) (as := [.t (.scr ns)]) (S := []) (d := (⟨ns, 0, 0, 0, f⟩ : Pn).D) rfl h rfl
theorem many_ok {b : Nat} {p : Pn} (hp : p.Ok (b + 1)) : ∃ n : Nat, 1 ≤ n ∧ n ≤ 6 ∧ ∃ p' : Pn, m__law_many [.s 0] [p.D] = some (.t (.int n), [p'.D]) ∧ p'.Ok b := by
  obtain ⟨d, hd, p', e, ok⟩ := pick_ok (ds := [.int 2, .int 3, .int 3, .int 4, .int 2, .int 5, .int 1, .int 6]) hp (by decide) (by decide)
  have hn : ∃ n : Nat, 1 ≤ n ∧ n ≤ 6 ∧ d = .int n := by
    simp only [List.mem_cons, List.not_mem_nil, or_false] at hd
    rcases hd with rfl | rfl | rfl | rfl | rfl | rfl | rfl | rfl
    · exact ⟨2, by decide, by decide, rfl⟩
    · exact ⟨3, by decide, by decide, rfl⟩
    · exact ⟨3, by decide, by decide, rfl⟩
    · exact ⟨4, by decide, by decide, rfl⟩
    · exact ⟨2, by decide, by decide, rfl⟩
    · exact ⟨5, by decide, by decide, rfl⟩
    · exact ⟨1, by decide, by decide, rfl⟩
    · exact ⟨6, by decide, by decide, rfl⟩
  obtain ⟨n, n1, n2, rfl⟩ := hn
  refine ⟨n, n1, n2, p', ?_, ok⟩
  have hz : sizeOk 8 = true := by decide
  have h : b__law_many ⟨[.s 0], [p.D]⟩ = .ok (.rt (.t (.int n))) ⟨[.s 0], [p'.D]⟩ := by
    unfold b__law_many
    simp only [sSeq, sIf, sAsg, sRet, sSkip, sExpr, setOwn, tgN, tgSub, eOp, eCall, one_eq, two_eq, eArgs, eN, eC, eTup, fz, nLst, tV, tAnd', tOr', tNot', eAnd, eOr, eNot, eIf, E.bind, E.ret, E.opt, rd, rds, dat, asD, asDs, arg, args, toD, boolOf, putD, putS, Arg.loc, List.length_cons, List.length_nil, List.getElem?_cons_zero, List.getElem?_cons_succ, List.set_cons_zero, List.set_cons_succ, if_true, Nat.zero_lt_succ, decide_true, Nat.reduceAdd, Nat.reduceLT, Nat.zero_add, Bool.false_eq_true, if_false, decide_false, List.map_cons, List.map_nil, List.replicate, List.cons_append, List.nil_append, eFn, e, hz]
  exact mkFn_rt (np := 1) (nl := 0) (as := [.s 0]) (S := [p.D]) rfl h
/-! # names -/
def LETS : Str := ("abcdefghijklmnopqrstuvwxyzABCDEFGHIJKLMNOPQRSTUVWXYZ" : Str)
def FIGS : Str := ("0123456789" : Str)
def MORE : Str := ("0123456789_" : Str)
structure Nm (x : Str) : Prop where
  l1 : 1 ≤ x.length
  l2 : x.length ≤ 12
  hd : ∀ c, x.cps.toList[0]? = some c → c ∈ LETS.cps.toList
  al : ∀ c ∈ x.cps.toList, c ∈ LETS.cps.toList ∨ c ∈ FIGS.cps.toList ∨ c = 95
theorem lets_len : LETS.length = 52 := by kernel_rfl
theorem lets_len2 : LETS.cps.toList.length = 52 := by kernel_rfl
theorem both_len : (LETS ++ MORE).length = 63 := by kernel_rfl
theorem both_len2 : (LETS ++ MORE).cps.toList.length = 63 := by kernel_rfl
theorem both_in : ∀ c ∈ (LETS ++ MORE).cps.toList, c ∈ LETS.cps.toList ∨ c ∈ FIGS.cps.toList ∨ c = 95 := by decide +kernel
theorem atI_any {α : Type} {ds : List α} {r : Int} (h0 : 0 ≤ r) (h1 : r < (ds.length : Int)) : ∃ d, atI ds r = some d ∧ d ∈ ds := by
  obtain ⟨k, rfl⟩ := Int.eq_ofNat_of_zero_le h0
  have hk : k < ds.length := by omega
  exact ⟨ds[k], by rw [MF.atI_nat]; exact List.getElem?_eq_getElem hk, List.getElem_mem hk⟩
theorem str_idx {z : Str} {r : Int} (hz : MF.sizeOk z.length = true) (h0 : 0 ≤ r) (h1 : r < (z.cps.toList.length : Int)) : ∃ c ∈ z.cps.toList, dIdx (.str z) (.int r) = some (.str ⟨#[c]⟩) := by
  obtain ⟨c, e, h⟩ := atI_any h0 h1
  refine ⟨c, h, ?_⟩
  show (if MF.sizeOk z.length then (atI z.cps.toList r).map fun c => MF.D.str ⟨#[c]⟩ else none) = _
  rw [if_pos hz, e]; rfl
theorem app_len (x : Str) (c : Nat) : (x ++ (⟨#[c]⟩ : Str)).length = x.length + 1 := by
  show (x.cps ++ #[c]).size = _
  rw [Array.size_append]; rfl
theorem app_list (x : Str) (c : Nat) : (x ++ (⟨#[c]⟩ : Str)).cps.toList = x.cps.toList ++ [c] := by
  show (x.cps ++ #[c]).toList = _
  rw [Array.toList_append]
def nameB (F M : Str) : E Ctl := (sSeq (sAsg (eC (.str F)) (tgN 1))
  (sSeq (sAsg (eOp dIdx (eN 1) (eFn m__law_draw (eArgs [(eN 0), (eC (.int 52))]))) (tgN 2))
  (sSeq (sFor (iRange1 (eArgs [(eFn m__law_pick (eArgs [(eN 0), (fz (nLst (eArgs [(eC (.int 0)), (eC (.int 1)), (eC (.int 2)), (eC (.int 4)), (eC (.int 11))])))]))])) (tgN 3)
  (sAsg (eOp dAdd (eN 2) (eOp dIdx (eOp dAdd (eN 1) (eC (.str M))) (eFn m__law_draw (eArgs [(eN 0), (eC (.int 63))])))) (tgN 2)))
  (sRet (eN 2)))))
theorem str_add {x y : Str} (h : x.length + y.length ≤ 16000000) : dAdd (.str x) (.str y) = some (.str (x ++ y)) := if_pos (decide_eq_true h)
theorem nameB_eq : b__law_name = nameB LETS MORE := rfl
theorem both_add : dAdd (.str LETS) (.str MORE) = some (.str (LETS ++ MORE)) := by
  show (if MF.sizeOk (LETS.length + MORE.length) then some (D.str (LETS ++ MORE)) else none) = _
  rw [lets_len]
  exact if_pos (by decide +kernel)
theorem nameB_ok {b : Nat} {p : Pn} {F M Z : Str} (hp : p.Ok (b + 13)) (hF1 : MF.sizeOk F.length = true) (hF2 : F.cps.toList.length = 52) (hadd : dAdd (.str F) (.str M) = some (.str Z)) (hZ1 : MF.sizeOk Z.length = true) (hZ2 : Z.cps.toList.length = 63) (hFL : ∀ c ∈ F.cps.toList, c ∈ LETS.cps.toList)
    (hZin : ∀ c ∈ Z.cps.toList, c ∈ LETS.cps.toList ∨ c ∈ FIGS.cps.toList ∨ c = 95) : ∃ x, Nm x ∧ ∃ p' : Pn, ∃ ρ, nameB F M ⟨[.s 0, .un, .un, .un], [p.D]⟩ = .ok (.rt (.t (.str x))) ⟨ρ, [p'.D]⟩ ∧ p'.Ok b := by
  obtain ⟨r, p1, e1, r0, r1, k1⟩ := draw_ok (b := b + 12) (many := 52) hp (by omega) (by omega)
  obtain ⟨c, hc, ec⟩ := str_idx (z := F) hF1 r0 (by rw [hF2]; exact r1)
  obtain ⟨dn, hdn, p2, e2, k2⟩ := pick_ok (b := b + 11) (ds := [.int 0, .int 1, .int 2, .int 4, .int 11]) k1 (by decide) (by decide)
  have hn : ∃ n : Nat, n ≤ 11 ∧ dn = .int n := by
    simp only [List.mem_cons, List.not_mem_nil, or_false] at hdn
    rcases hdn with rfl | rfl | rfl | rfl | rfl
    · exact ⟨0, by decide, rfl⟩
    · exact ⟨1, by decide, rfl⟩
    · exact ⟨2, by decide, rfl⟩
    · exact ⟨4, by decide, rfl⟩
    · exact ⟨11, by decide, rfl⟩
  obtain ⟨n, n1, rfl⟩ := hn
  have hz : MF.sizeOk 5 = true := by decide
  have hr : rngOk (n : Int) = true := decide_eq_true ⟨by omega, by omega⟩
  have hsrc : (iRange1 (eArgs [(eFn m__law_pick (eArgs [(eN 0), (fz (nLst (eArgs [(eC (.int 0)), (eC (.int 1)), (eC (.int 2)), (eC (.int 4)), (eC (.int 11))])))]))])) ⟨[.s 0, .t (.str F), .t (.str ⟨#[c]⟩), .un], [p1.D]⟩ = .ok (rangeD 0 n) ⟨[.s 0, .t (.str F), .t (.str ⟨#[c]⟩), .un], [p2.D]⟩ := by
    exact range_ev (by simp only [sSeq, sIf, sAsg, sRet, sSkip, sExpr, setOwn, tgN, tgSub, eOp, eCall, one_eq, two_eq, eArgs, eN, eC, eTup, fz, nLst, tV, tAnd', tOr', tNot', eAnd, eOr, eNot, eIf, E.bind, E.ret, E.opt, rd, rds, dat, asD, asDs, arg, args, toD, boolOf, putD, putS, Arg.loc, List.length_cons, List.length_nil, List.getElem?_cons_zero, List.getElem?_cons_succ, List.set_cons_zero, List.set_cons_succ, if_true, Nat.zero_lt_succ, decide_true, Nat.reduceAdd, Nat.reduceLT, Nat.zero_add, Bool.false_eq_true, if_false, decide_false, List.map_cons, List.map_nil, List.replicate, List.cons_append, List.nil_append, eFn, e2, hz]) (by omega)
  obtain ⟨m', e3, _, x, l, p3, rfl, nx, _, k3⟩ := sFor_ok (tg := tgN 3) (body := (sAsg (eOp dAdd (eN 2) (eOp dIdx (eOp dAdd (eN 1) (eC (.str M))) (eFn m__law_draw (eArgs [(eN 0), (eC (.int 63))])))) (tgN 2))) hsrc
    (fun ds m => (∀ d ∈ ds, ∃ i, d = D.int i) ∧ ∃ x l p', m = ⟨[.s 0, .t (.str F), .t (.str x), l], [Pn.D p']⟩ ∧ Nm x ∧ x.length + ds.length ≤ 12 ∧ p'.Ok (b + ds.length))
    ⟨fun d hd => by unfold rangeD at hd; obtain ⟨i, _, rfl⟩ := List.mem_map.mp hd; exact ⟨_, rfl⟩, ⟨#[c]⟩, .un, p2, rfl, ⟨Nat.le_refl _, by show 1 ≤ 12; decide, fun c' h => by cases h; exact hFL _ hc, fun c' h => by simp at h; subst h; exact .inl (hFL _ hc)⟩, by unfold rangeD; rw [List.length_map, List.length_range]; show 1 + n ≤ 12; omega, by unfold rangeD; rw [List.length_map, List.length_range]; exact k2.mono (by omega)⟩
    (fun d ds m h => by
      obtain ⟨hi, x, l, p4, rfl, nx, hl, k4⟩ := h
      obtain ⟨i, rfl⟩ := hi d List.mem_cons_self
      rw [List.length_cons] at hl k4
      obtain ⟨r, p5, e5, r0, r1, k5⟩ := draw_ok (b := b + ds.length) (many := 63) k4 (by omega) (by omega)
      obtain ⟨c2, hc2, ec2⟩ := str_idx (z := Z) hZ1 r0 (by rw [hZ2]; exact r1)
      have ha : dAdd (.str x) (.str ⟨#[c2]⟩) = some (.str (x ++ (⟨#[c2]⟩ : Str))) := by
        have h1 : (⟨#[c2]⟩ : Str).length = 1 := rfl
        exact str_add (by rw [h1]; have := nx.l2; omega)
      refine ⟨⟨[.s 0, .t (.str F), .t (.str (x ++ (⟨#[c2]⟩ : Str))), .t (.int i)], [p5.D]⟩, ?_, fun d hd => hi d (List.mem_cons_of_mem _ hd), _, _, p5, rfl, ⟨?_, ?_, ?_, ?_⟩, ?_, k5⟩
      · simp only [sSeq, sIf, sAsg, sRet, sSkip, sExpr, setOwn, tgN, tgSub, eOp, eCall, one_eq, two_eq, eArgs, eN, eC, eTup, fz, nLst, tV, tAnd', tOr', tNot', eAnd, eOr, eNot, eIf, E.bind, E.ret, E.opt, rd, rds, dat, asD, asDs, arg, args, toD, boolOf, putD, putS, Arg.loc, List.length_cons, List.length_nil, List.getElem?_cons_zero, List.getElem?_cons_succ, List.set_cons_zero, List.set_cons_succ, if_true, Nat.zero_lt_succ, decide_true, Nat.reduceAdd, Nat.reduceLT, Nat.zero_add, Bool.false_eq_true, if_false, decide_false, List.map_cons, List.map_nil, List.replicate, List.cons_append, List.nil_append, eFn, e5, hadd, ec2, ha]
      · rw [app_len]; omega
      · rw [app_len]; omega
      · intro c' h
        rw [app_list] at h
        have h1 := nx.l1
        rw [List.getElem?_append_left (by rw [Array.length_toList]; exact h1)] at h
        exact nx.hd c' h
      · intro c' h
        rw [app_list] at h
        rcases List.mem_append.mp h with h | h
        · exact nx.al c' h
        · simp at h; subst h; exact hZin _ hc2
      · rw [app_len]; omega)
  refine ⟨x, nx, p3, [.s 0, .t (.str F), .t (.str x), l], ?_, k3⟩
  unfold nameB
  rw [seq_nx (asg_n (f := eC (.str F)) (i := 1) rfl (by show 1 < 4; decide))]
  show sSeq _ _ ⟨[.s 0, .t (.str F), .un, .un], [p.D]⟩ = _
  rw [seq_nx (m1 := ⟨[.s 0, .t (.str F), .t (.str ⟨#[c]⟩), .un], [p1.D]⟩) (by simp only [sSeq, sIf, sAsg, sRet, sSkip, sExpr, setOwn, tgN, tgSub, eOp, eCall, one_eq, two_eq, eArgs, eN, eC, eTup, fz, nLst, tV, tAnd', tOr', tNot', eAnd, eOr, eNot, eIf, E.bind, E.ret, E.opt, rd, rds, dat, asD, asDs, arg, args, toD, boolOf, putD, putS, Arg.loc, List.length_cons, List.length_nil, List.getElem?_cons_zero, List.getElem?_cons_succ, List.set_cons_zero, List.set_cons_succ, if_true, Nat.zero_lt_succ, decide_true, Nat.reduceAdd, Nat.reduceLT, Nat.zero_add, Bool.false_eq_true, if_false, decide_false, List.map_cons, List.map_nil, List.replicate, List.cons_append, List.nil_append, eFn, e1, ec])]
  rw [seq_nx e3]
  rfl
theorem name_ok {b : Nat} {p : Pn} (hp : p.Ok (b + 13)) : ∃ x, Nm x ∧ ∃ p' : Pn, m__law_name [.s 0] [p.D] = some (.t (.str x), [p'.D]) ∧ p'.Ok b := by
  obtain ⟨x, nx, p', ρ, h, ok⟩ := nameB_ok (F := LETS) (M := MORE) (Z := LETS ++ MORE) hp (by rw [lets_len]; decide) lets_len2 both_add (by rw [both_len]; decide) both_len2 (fun _ h => h) both_in
  rw [← nameB_eq] at h
  exact ⟨x, nx, p', mkFn_rt (np := 1) (nl := 3) (as := [.s 0]) (S := [p.D]) rfl h, ok⟩
/-! # the names -/
def keptB (x : Str) : Bool := decide (("kinds" : Str) = x) || (decide (("round" : Str) = x) || (decide (("becomes" : Str) = x) || false))
def nmB (x : Str) : Bool := decide (1 ≤ x.length) && (decide (x.length ≤ 12) && ((match x.cps.toList[0]? with | some c => decide (c ∈ LETS.cps.toList) | none => true) && x.cps.toList.all fun c => decide (c ∈ LETS.cps.toList) || (decide (c ∈ FIGS.cps.toList) || decide (c = 95))))
theorem nm_of {x : Str} (h : nmB x = true) : Nm x := by
  unfold nmB at h
  simp only [Bool.and_eq_true, decide_eq_true_eq, List.all_eq_true, Bool.or_eq_true] at h
  obtain ⟨h1, h2, h3, h4⟩ := h
  refine ⟨h1, h2, fun c e => ?_, h4⟩
  rw [e] at h3
  exact of_decide_eq_true h3
def yN (j : Nat) : Str := ("y" : Str) ++ ((toString (j : Int) : String) : Str)
theorem yN_all : ((List.range 24).all fun j => nmB (yN j) && !keptB (yN j)) = true := by decide +kernel
theorem yN_inj : ((List.range 24).all fun i => (List.range 24).all fun j => decide (i = j) || !decide (yN i = yN j)) = true := by decide +kernel
theorem yN_add : ((List.range 24).all fun j => decide (("y" : Str).length + (((toString (j : Int) : String) : Str)).length ≤ 16000000) && decide ((j : Int).natAbs.log2 < 1920)) = true := by decide +kernel
theorem yN_ok {j : Nat} (h : j < 24) : Nm (yN j) ∧ keptB (yN j) = false := by
  have := List.all_eq_true.mp yN_all j (List.mem_range.mpr h)
  rw [Bool.and_eq_true, Bool.not_eq_true'] at this
  exact ⟨nm_of this.1, this.2⟩
theorem yN_eq {i j : Nat} (hi : i < 24) (hj : j < 24) (h : yN i = yN j) : i = j := by
  have := List.all_eq_true.mp (List.all_eq_true.mp yN_inj i (List.mem_range.mpr hi)) j (List.mem_range.mpr hj)
  simpa [h] using this
theorem yN_run {j : Nat} (h : j < 24) : dStr (.int j) = some (.str ((toString (j : Int) : String) : Str)) ∧ dAdd (.str ("y" : Str)) (.str ((toString (j : Int) : String) : Str)) = some (.str (yN j)) := by
  have := List.all_eq_true.mp yN_add j (List.mem_range.mpr h)
  rw [Bool.and_eq_true] at this
  exact ⟨if_pos this.2, str_add (of_decide_eq_true this.1)⟩
theorem names_in {n : Int} {nms : List Str} {x : Str} {p : Pn} {l : MF.Loc} {l5 : MF.Loc} (nx : Nm x) (hn : nms.length < 23) : ∃ m', (sFor (iRange1 (eArgs [(eC (.int 24))])) (tgN 5)
  (sSeq (sIf (tAnd' (tV (eOp dNotIn (eN 4) (eN 2))) (tV (eOp dNotIn (eN 4) (eTup (eArgs [(eC (.str ("kinds" : Str))), (eC (.str ("round" : Str))), (eC (.str ("becomes" : Str)))])))))
  (.ret .bk)
  sSkip)
  (sAsg (eOp dAdd (eC (.str ("y" : Str))) (eCall (one dStr) (eArgs [(eN 5)]))) (tgN 4)))) ⟨[.s 0, .t (.int n), .own (.lst (nms.map .str)), l, .t (.str x), l5], [p.D]⟩ = .ok .nx m' ∧ ∃ y l5, m' = ⟨[.s 0, .t (.int n), .own (.lst (nms.map .str)), l, .t (.str y), l5], [p.D]⟩ ∧ Nm y ∧ keptB y = false ∧ y ∉ nms := by
  refine sFor_brk (range_ev (n := 24) (f := eC (.int 24)) rfl (by decide)) (fun ds m => ∃ k y l5, k ≤ 24 ∧ ds = (rangeD 0 24).drop k ∧ m = ⟨[.s 0, .t (.int n), .own (.lst (nms.map .str)), l, .t (.str y), l5], [p.D]⟩ ∧ Nm y ∧ (k = 0 ∨ y = yN (k - 1)) ∧ ∀ j, j + 1 < k → yN j ∈ nms)
    (fun m' => ∃ y l5, m' = ⟨[.s 0, .t (.int n), .own (.lst (nms.map .str)), l, .t (.str y), l5], [p.D]⟩ ∧ Nm y ∧ keptB y = false ∧ y ∉ nms) ?_ ⟨0, x, l5, Nat.zero_le _, rfl, rfl, nx, .inl rfl, fun j hj => by omega⟩ ?_
  · rintro m ⟨k, y, l5, hk, e, rfl, ny, hy, hin⟩
    have hk24 : k = 24 := by
      have := congrArg List.length e
      rw [List.length_drop, rangeD, List.length_map, List.length_range] at this
      simp only [List.length_nil] at this
      omega
    subst hk24
    have : ((List.range 23).map yN).length ≤ nms.length := nodup_le (by
      refine List.pairwise_map.mpr ((List.nodup_range (n := 23)).imp_of_mem fun {i j} hi hj hij e => hij ?_)
      have := List.mem_range.mp hi
      have := List.mem_range.mp hj
      exact yN_eq (by omega) (by omega) e) fun z hz => by
        obtain ⟨j, hj, rfl⟩ := List.mem_map.mp hz
        exact hin j (by have := List.mem_range.mp hj; omega)
    rw [List.length_map, List.length_range] at this
    omega
  · rintro d ds m ⟨k, y, l5, hk, e, rfl, ny, hy, hin⟩
    have hk24 : k < 24 := by
      rcases Nat.lt_or_ge k 24 with h | h
      · exact h
      · rw [List.drop_eq_nil_of_le (by rw [rangeD, List.length_map, List.length_range]; exact h)] at e; cases e
    have hlen : k < (rangeD 0 24).length := by rw [rangeD, List.length_map, List.length_range]; exact hk24
    rw [List.drop_eq_getElem_cons hlen] at e
    have hd : d = .int (k : Int) := by
      have := (List.cons.inj e).1
      rw [this]
      simp [rangeD]
    have hds := (List.cons.inj e).2
    subst hd
    have e1 := in_strs y nms
    have e2 := in_tup3 y ("kinds" : Str) ("round" : Str) ("becomes" : Str)
    have hz : MF.sizeOk 3 = true := by decide
    by_cases h1 : y ∈ nms
    · obtain ⟨s1, s2⟩ := yN_run hk24
      refine ⟨⟨[.s 0, .t (.int n), .own (.lst (nms.map .str)), l, .t (.str (yN k)), .t (.int (k : Int))], [p.D]⟩, .inl ⟨?_, k + 1, yN k, _, by omega, hds, rfl, (yN_ok hk24).1, .inr rfl, fun j hj => ?_⟩⟩
      · simp only [sSeq, sIf, sAsg, sRet, sSkip, sExpr, setOwn, tgN, tgSub, eOp, eCall, one_eq, two_eq, eArgs, eN, eC, eTup, fz, nLst, tV, tAnd', tOr', tNot', eAnd, eOr, eNot, eIf, E.bind, E.ret, E.opt, rd, rds, dat, asD, asDs, arg, args, toD, boolOf, putD, putS, Arg.loc, List.length_cons, List.length_nil, List.getElem?_cons_zero, List.getElem?_cons_succ, List.set_cons_zero, List.set_cons_succ, if_true, Nat.zero_lt_succ, decide_true, Nat.reduceAdd, Nat.reduceLT, Nat.zero_add, Bool.false_eq_true, if_false, decide_false, List.map_cons, List.map_nil, List.replicate, List.cons_append, List.nil_append, e1, h1, s1, s2, Bool.not_true, Bool.not_false]
      · by_cases hj' : j + 1 < k
        · exact hin j hj'
        · have : j = k - 1 := by omega
          subst this
          rcases hy with hy | hy
          · omega
          · rw [← hy]; exact h1
    · by_cases h2 : keptB y = true
      · obtain ⟨s1, s2⟩ := yN_run hk24
        have h2' : (decide (("kinds" : Str) = y) || (decide (("round" : Str) = y) || (decide (("becomes" : Str) = y) || false))) = true := h2
        rw [h2'] at e2
        refine ⟨⟨[.s 0, .t (.int n), .own (.lst (nms.map .str)), l, .t (.str (yN k)), .t (.int (k : Int))], [p.D]⟩, .inl ⟨?_, k + 1, yN k, _, by omega, hds, rfl, (yN_ok hk24).1, .inr rfl, fun j hj => ?_⟩⟩
        · simp only [sSeq, sIf, sAsg, sRet, sSkip, sExpr, setOwn, tgN, tgSub, eOp, eCall, one_eq, two_eq, eArgs, eN, eC, eTup, fz, nLst, tV, tAnd', tOr', tNot', eAnd, eOr, eNot, eIf, E.bind, E.ret, E.opt, rd, rds, dat, asD, asDs, arg, args, toD, boolOf, putD, putS, Arg.loc, List.length_cons, List.length_nil, List.getElem?_cons_zero, List.getElem?_cons_succ, List.set_cons_zero, List.set_cons_succ, if_true, Nat.zero_lt_succ, decide_true, Nat.reduceAdd, Nat.reduceLT, Nat.zero_add, Bool.false_eq_true, if_false, decide_false, List.map_cons, List.map_nil, List.replicate, List.cons_append, List.nil_append, e1, e2, hz, h1, s1, s2, Bool.not_true, Bool.not_false]
        · rcases hy with hy | hy
          · omega
          · exfalso
            have := (yN_ok (j := k - 1) (by omega)).2
            rw [← hy, h2] at this; cases this
      · have h2f : keptB y = false := by simpa using h2
        have h2' : (decide (("kinds" : Str) = y) || (decide (("round" : Str) = y) || (decide (("becomes" : Str) = y) || false))) = false := h2f
        rw [h2'] at e2
        refine ⟨⟨[.s 0, .t (.int n), .own (.lst (nms.map .str)), l, .t (.str y), .t (.int (k : Int))], [p.D]⟩, .inr ⟨?_, y, _, rfl, ny, h2f, h1⟩⟩
        simp only [sSeq, sIf, sAsg, sRet, sSkip, sExpr, setOwn, tgN, tgSub, eOp, eCall, one_eq, two_eq, eArgs, eN, eC, eTup, fz, nLst, tV, tAnd', tOr', tNot', eAnd, eOr, eNot, eIf, E.bind, E.ret, E.opt, rd, rds, dat, asD, asDs, arg, args, toD, boolOf, putD, putS, Arg.loc, List.length_cons, List.length_nil, List.getElem?_cons_zero, List.getElem?_cons_succ, List.set_cons_zero, List.set_cons_succ, if_true, Nat.zero_lt_succ, decide_true, Nat.reduceAdd, Nat.reduceLT, Nat.zero_add, Bool.false_eq_true, if_false, decide_false, List.map_cons, List.map_nil, List.replicate, List.cons_append, List.nil_append, e1, e2, hz, h1, Bool.not_true, Bool.not_false]
theorem names_ok {b n : Nat} {p : Pn} (hp : p.Ok (b + 13 * n)) (hn : n ≤ 20) : ∃ nms : List Str, nms.length = n ∧ nms.Nodup ∧ (∀ x ∈ nms, Nm x ∧ keptB x = false) ∧ ∃ p' : Pn, m__law_names [.s 0, .t (.int n)] [p.D] = some (.t (.lst (nms.map .str)), [p'.D]) ∧ p'.Ok b := by
  have s1 : setOwn 2 (nLst (eArgs [])) ⟨[.s 0, .t (.int n), .un, .un, .un, .un], [p.D]⟩ = .ok .nx ⟨[.s 0, .t (.int n), .own (.lst []), .un, .un, .un], [p.D]⟩ := rfl
  have hlen : (rangeD 0 n).length = n := by rw [rangeD, List.length_map, List.length_range]
  obtain ⟨m', e, nms, l3, l4, l5, p', rfl, hl, nd, ok, pk⟩ := sFor_ok (tg := tgN 3) (body := (sSeq (sAsg (eFn m__law_name (eArgs [(eN 0)])) (tgN 4))
  (sSeq (sFor (iRange1 (eArgs [(eC (.int 24))])) (tgN 5)
  (sSeq (sIf (tAnd' (tV (eOp dNotIn (eN 4) (eN 2))) (tV (eOp dNotIn (eN 4) (eTup (eArgs [(eC (.str ("kinds" : Str))), (eC (.str ("round" : Str))), (eC (.str ("becomes" : Str)))])))))
  (.ret .bk)
  sSkip)
  (sAsg (eOp dAdd (eC (.str ("y" : Str))) (eCall (one dStr) (eArgs [(eN 5)]))) (tgN 4))))
  (sExpr (eMut mAppend (eN 2) (eArgs [(eN 4)])))))) (range_ev (f := eN 1) (n := n) (m := ⟨[.s 0, .t (.int n), .own (.lst []), .un, .un, .un], [p.D]⟩) (ev_t rfl) (by omega))
    (fun ds m => ∃ nms : List Str, ∃ l3 l4 l5, ∃ p' : Pn, m = ⟨[.s 0, .t (.int n), .own (.lst (nms.map .str)), l3, l4, l5], [p'.D]⟩ ∧ nms.length + ds.length = n ∧ nms.Nodup ∧ (∀ x ∈ nms, Nm x ∧ keptB x = false) ∧ p'.Ok (b + 13 * ds.length))
    ⟨[], _, _, _, p, rfl, by rw [hlen]; simp, List.nodup_nil, by simp, by rw [hlen]; exact hp⟩ (by
      rintro d ds m ⟨nms, l3, l4, l5, p1, rfl, hl, nd, ok, pk⟩
      rw [List.length_cons] at hl pk
      obtain ⟨x, nx, p2, e2, k2⟩ := name_ok (b := b + 13 * ds.length) (by rw [Nat.mul_add] at pk; exact pk)
      obtain ⟨m3, e3, y, l5', rfl, ny, ky, yn⟩ := names_in (n := n) (nms := nms) (x := x) (p := p2) (l := .t d) (l5 := l5) nx (by omega)
      refine ⟨⟨[.s 0, .t (.int n), .own (.lst ((nms ++ [y]).map .str)), .t d, .t (.str y), l5'], [p2.D]⟩, ?_, nms ++ [y], _, _, _, p2, rfl, by rw [List.length_append, List.length_singleton]; omega, ?_, ?_, k2⟩
      · rw [tg_set (by show 3 < 6; decide)]
        show sSeq _ _ ⟨[.s 0, .t (.int n), .own (.lst (nms.map .str)), .t d, l4, l5], [p1.D]⟩ = _
        rw [seq_nx (m1 := ⟨[.s 0, .t (.int n), .own (.lst (nms.map .str)), .t d, .t (.str x), l5], [p2.D]⟩) (by simp only [sSeq, sIf, sAsg, sRet, sSkip, sExpr, setOwn, tgN, tgSub, eOp, eCall, one_eq, two_eq, eArgs, eN, eC, eTup, fz, nLst, tV, tAnd', tOr', tNot', eAnd, eOr, eNot, eIf, E.bind, E.ret, E.opt, rd, rds, dat, asD, asDs, arg, args, toD, boolOf, putD, putS, Arg.loc, List.length_cons, List.length_nil, List.getElem?_cons_zero, List.getElem?_cons_succ, List.set_cons_zero, List.set_cons_succ, if_true, Nat.zero_lt_succ, decide_true, Nat.reduceAdd, Nat.reduceLT, Nat.zero_add, Bool.false_eq_true, if_false, decide_false, List.map_cons, List.map_nil, List.replicate, List.cons_append, List.nil_append, eFn, e2])]
        rw [seq_nx e3, app_stmt (xs := nms.map .str) (d := .str y) (m1 := ⟨[.s 0, .t (.int n), .own (.lst (nms.map .str)), .t d, .t (.str y), l5'], [p2.D]⟩) rfl (ev_t rfl) rfl (by rw [List.length_map]; omega)]
        rw [List.map_append]; rfl
      · rw [List.nodup_append]
        exact ⟨nd, by simp, fun z hz w hw => by rw [List.mem_singleton] at hw; subst hw; exact fun q => yn (q ▸ hz)⟩
      · intro z hz
        rcases List.mem_append.mp hz with hz | hz
        · exact ok z hz
        · rw [List.mem_singleton] at hz; subst hz; exact ⟨ny, ky⟩)
  refine ⟨nms, by simpa using hl, nd, ok, p', ?_, by simpa using pk⟩
  have h : b__law_names ⟨[.s 0, .t (.int n), .un, .un, .un, .un], [p.D]⟩ = .ok (.rt (.t (.lst (nms.map .str)))) ⟨[.s 0, .t (.int n), .t (.lst (nms.map .str)), l3, l4, l5], [p'.D]⟩ := by
    unfold b__law_names
    rw [seq_nx s1, seq_nx e]
    rfl
  exact mkFn_rt (np := 2) (nl := 4) (as := [.s 0, .t (.int n)]) (S := [p.D]) rfl h
/-! # tables -/
def rowD (r : List Int) : D := .tup (r.map .int)
def tabD (M : List (List Int)) : D := .tup (M.map rowD)
structure Tb (n : Nat) (M : List (List Int)) : Prop where
  len : M.length = n
  row : ∀ r ∈ M, r.length = n ∧ ∀ x ∈ r, 0 ≤ x ∧ x ≤ 100
theorem rangeD_len (lo : Int) (n : Nat) : (rangeD lo n).length = n := by rw [rangeD, List.length_map, List.length_range]
theorem rangeD_mem {n : Nat} {d : D} (h : d ∈ rangeD 0 n) : ∃ k : Nat, k < n ∧ d = .int (k : Int) := by
  unfold rangeD at h
  obtain ⟨k, hk, rfl⟩ := List.mem_map.mp h
  exact ⟨k, List.mem_range.mp hk, by rw [Int.zero_add]⟩
/-- a shuffled list -/
theorem shuffled_ok {b : Nat} {p : Pn} {os : List Int} (hp : p.Ok (b + os.length)) (hz : os.length ≤ 1000) : ∃ os' : List Int, os'.Perm os ∧ ∃ p' : Pn, m__law_shuffled [.s 0, .t (.lst (os.map .int))] [p.D] = some (.t (.lst (os'.map .int)), [p'.D]) ∧ p'.Ok b := by
  have s1 : (sPar [(2, (kOwn (nCall (one dList) (eArgs [(eN 1)])))), (3, (kOwn (nLst (eArgs []))))]) ⟨[.s 0, .t (.lst (os.map .int)), .un, .un, .un], [p.D]⟩ = .ok .nx ⟨[.s 0, .t (.lst (os.map .int)), .own (.lst (os.map .int)), .own (.lst []), .un], [p.D]⟩ := rfl
  have hsrc : (iRange1 (eArgs [(eCall (one dLen) (eArgs [(eN 1)]))])) ⟨[.s 0, .t (.lst (os.map .int)), .own (.lst (os.map .int)), .own (.lst []), .un], [p.D]⟩ = .ok (rangeD 0 os.length) ⟨[.s 0, .t (.lst (os.map .int)), .own (.lst (os.map .int)), .own (.lst []), .un], [p.D]⟩ :=
    range_ev (ev_call1 (ev_t rfl) rfl (by rw [dLen_lst, List.length_map])) (by omega)
  obtain ⟨m', e, rem, fnd, l, p', rfl, hl, pm, pk⟩ := sFor_ok (tg := tgN 4) (body := (sExpr (eMut mAppend (eN 3) (eArgs [(eMut mPopAt (eN 2) (eArgs [(eFn m__law_draw (eArgs [(eN 0), (eCall (one dLen) (eArgs [(eN 2)]))]))]))])))) hsrc
    (fun ds m => ∃ rem fnd : List Int, ∃ l, ∃ p' : Pn, m = ⟨[.s 0, .t (.lst (os.map .int)), .own (.lst (rem.map .int)), .own (.lst (fnd.map .int)), l], [p'.D]⟩ ∧ rem.length = ds.length ∧ (fnd ++ rem).Perm os ∧ p'.Ok (b + ds.length))
    ⟨os, [], _, p, rfl, (rangeD_len 0 _).symm, by simp, by rw [rangeD_len]; exact hp⟩ (by
      rintro d ds m ⟨rem, fnd, l, p1, rfl, hl, pm, pk⟩
      rw [List.length_cons] at hl pk
      have hos : rem.length ≤ os.length := by have := pm.length_eq; rw [List.length_append] at this; omega
      have hfs : fnd.length ≤ os.length := by have := pm.length_eq; rw [List.length_append] at this; omega
      obtain ⟨r, p2, e2, r0, r1, k2⟩ := draw_ok (b := b + ds.length) (many := rem.length) pk (by omega) (by omega)
      obtain ⟨j, rfl⟩ := Int.eq_ofNat_of_zero_le r0
      have hj : j < rem.length := by omega
      have hget : (rem.map D.int)[j]? = some (.int rem[j]) := by rw [List.getElem?_map, List.getElem?_eq_getElem hj]; rfl
      have hrun : (eMut mPopAt (eN 2) (eArgs [(eFn m__law_draw (eArgs [(eN 0), (eCall (one dLen) (eArgs [(eN 2)]))]))])) ⟨[.s 0, .t (.lst (os.map .int)), .own (.lst (rem.map .int)), .own (.lst (fnd.map .int)), .t d], [p1.D]⟩ = .ok (.t (.int rem[j])) ⟨[.s 0, .t (.lst (os.map .int)), .own (.lst ((rem.map .int).eraseIdx j)), .own (.lst (fnd.map .int)), .t d], [p2.D]⟩ :=
        pop_ev (xs := rem.map .int) (m1 := ⟨[.s 0, .t (.lst (os.map .int)), .own (.lst (rem.map .int)), .own (.lst (fnd.map .int)), .t d], [p2.D]⟩) rfl (by simp only [sSeq, sIf, sAsg, sRet, sSkip, sExpr, setOwn, tgN, tgSub, eOp, eCall, one_eq, two_eq, eArgs, eN, eC, eTup, fz, nLst, tV, tAnd', tOr', tNot', eAnd, eOr, eNot, eIf, E.bind, E.ret, E.opt, rd, rds, dat, asD, asDs, arg, args, toD, boolOf, putD, putS, Arg.loc, List.length_cons, List.length_nil, List.getElem?_cons_zero, List.getElem?_cons_succ, List.set_cons_zero, List.set_cons_succ, if_true, Nat.zero_lt_succ, decide_true, Nat.reduceAdd, Nat.reduceLT, Nat.zero_add, Bool.false_eq_true, if_false, decide_false, List.map_cons, List.map_nil, List.replicate, List.cons_append, List.nil_append, eFn, dLen_lst, List.length_map, e2]) rfl hget (by omega)
      refine ⟨⟨[.s 0, .t (.lst (os.map .int)), .own (.lst ((rem.eraseIdx j).map .int)), .own (.lst ((fnd ++ [rem[j]]).map .int)), .t d], [p2.D]⟩, ?_, rem.eraseIdx j, fnd ++ [rem[j]], _, p2, rfl, ?_, ?_, k2⟩
      · rw [tg_set (by show 4 < 5; decide)]
        show sExpr _ ⟨[.s 0, .t (.lst (os.map .int)), .own (.lst (rem.map .int)), .own (.lst (fnd.map .int)), .t d], [p1.D]⟩ = _
        rw [app_stmt (xs := fnd.map .int) rfl hrun rfl (by rw [List.length_map]; omega), List.map_append, erase_map]
        rfl
      · rw [List.length_eraseIdx_of_lt hj]; omega
      · refine List.Perm.trans ?_ pm
        rw [List.append_assoc]
        refine List.Perm.append_left fnd ?_
        rw [List.singleton_append]
        exact erase_perm rem j hj)
  have h : b__law_shuffled ⟨[.s 0, .t (.lst (os.map .int)), .un, .un, .un], [p.D]⟩ = .ok (.rt (.t (.lst (fnd.map .int)))) ⟨[.s 0, .t (.lst (os.map .int)), .own (.lst (rem.map .int)), .t (.lst (fnd.map .int)), l], [p'.D]⟩ := by
    unfold b__law_shuffled
    rw [seq_nx s1, seq_nx e]
    rfl
  have hr : rem = [] := List.length_eq_zero_iff.mp hl
  subst hr
  refine ⟨fnd, by simpa using pm, p', ?_, by simpa using pk⟩
  exact mkFn_rt (np := 2) (nl := 3) (as := [.s 0, .t (.lst (os.map .int))]) (S := [p.D]) rfl h
/-- a row with at most one 1 -/
def oneRow (n : Nat) (t : Int) : List Int := (List.range n).map fun (j : Nat) => if (j : Int) = t then 1 else 0
theorem oneRow_ok (n : Nat) (t : Int) : (oneRow n t).length = n ∧ ∀ x ∈ oneRow n t, 0 ≤ x ∧ x ≤ 100 := by
  unfold oneRow
  refine ⟨by rw [List.length_map, List.length_range], fun x hx => ?_⟩
  obtain ⟨j, _, rfl⟩ := List.mem_map.mp hx
  split
  · exact ⟨by decide, by decide⟩
  · exact ⟨by decide, by decide⟩
theorem rowD_one (n : Nat) (t : Int) : D.tup ((rangeD 0 n).map fun d => match d with | .int i => .int (if decide (i = t) then 1 else 0) | d => d) = rowD (oneRow n t) := by
  unfold rowD oneRow rangeD
  rw [List.map_map, List.map_map]
  congr 1
  refine List.map_congr_left fun i _ => ?_
  show D.int (if decide ((0 : Int) + (i : Int) = t) = true then 1 else 0) = D.int (if (i : Int) = t then 1 else 0)
  rw [Int.zero_add]
  simp only [decide_eq_true_eq]
theorem moving_ok {b n : Nat} {p : Pn} (hp : p.Ok (b + n)) (hn : n ≤ 1000) : ∃ ts : List Int, ts.length = n ∧ ∃ p' : Pn, m__law_moving_rows [.s 0, .t (.int n)] [p.D] = some (.t (tabD (ts.map (oneRow n))), [p'.D]) ∧ p'.Ok b := by
  have s1 : (setOwn 2 (nLst (eArgs []))) ⟨[.s 0, .t (.int n), .un, .un, .un, .un], [p.D]⟩ = .ok .nx ⟨[.s 0, .t (.int n), .own (.lst []), .un, .un, .un], [p.D]⟩ := rfl
  obtain ⟨m', e, ts, l3, l4, p', rfl, hl, pk⟩ := sFor_ok (tg := tgN 3) (body := (sSeq (sAsg (eFn m__law_draw (eArgs [(eN 0), (eOp dAdd (eN 1) (eC (.int 1)))])) (tgN 4))
  (sExpr (eMut mAppend (eN 2) (eArgs [(eCall (one dTuple) (eArgs [(fz (nLc [5] (iRange1 (eArgs [(eN 1)])) (tgN 5) ifsYes (eCall (one dInt) (eArgs [(eOp dEq (eN 5) (eN 4))]))))]))]))))) (range_ev (f := eN 1) (n := n) (m := ⟨[.s 0, .t (.int n), .own (.lst []), .un, .un, .un], [p.D]⟩) (ev_t rfl) (by omega))
    (fun ds m => ∃ ts : List Int, ∃ l3 l4, ∃ p' : Pn, m = ⟨[.s 0, .t (.int n), .own (.lst (ts.map fun t => rowD (oneRow n t))), l3, l4, .un], [p'.D]⟩ ∧ ts.length + ds.length = n ∧ p'.Ok (b + ds.length))
    ⟨[], _, _, p, rfl, by rw [rangeD_len]; simp, by rw [rangeD_len]; exact hp⟩ (by
      rintro d ds m ⟨ts, l3, l4, p1, rfl, hl, pk⟩
      rw [List.length_cons] at hl pk
      obtain ⟨t, p2, e2, r0, r1, k2⟩ := draw_ok (b := b + ds.length) (many := (n : Int) + 1) pk (by omega) (by omega)
      have hc := nLc_map (i := 5) (elt := (eCall (one dInt) (eArgs [(eOp dEq (eN 5) (eN 4))]))) (ρ := [.s 0, .t (.int n), .own (.lst (ts.map fun t => rowD (oneRow n t))), .t d, .t (.int t), .un]) (by show 5 < 6; decide) (range_ev (f := eN 1) (n := n) (m := ⟨[.s 0, .t (.int n), .own (.lst (ts.map fun t => rowD (oneRow n t))), .t d, .t (.int t), .un], [p2.D]⟩) (ev_t rfl) (by omega)) (by rw [rangeD_len]; omega)
        (fun d => match d with | .int i => .int (if decide (i = t) then 1 else 0) | d => d) (fun d hd => by
          obtain ⟨k, _, rfl⟩ := rangeD_mem hd
          simp only [sSeq, sIf, sAsg, sRet, sSkip, sExpr, setOwn, tgN, tgSub, eOp, eCall, one_eq, two_eq, eArgs, eN, eC, eTup, fz, nLst, tV, tAnd', tOr', tNot', eAnd, eOr, eNot, eIf, E.bind, E.ret, E.opt, rd, rds, dat, asD, asDs, arg, args, toD, boolOf, putD, putS, Arg.loc, List.length_cons, List.length_nil, List.getElem?_cons_zero, List.getElem?_cons_succ, List.set_cons_zero, List.set_cons_succ, if_true, Nat.zero_lt_succ, decide_true, Nat.reduceAdd, Nat.reduceLT, Nat.zero_add, Bool.false_eq_true, if_false, decide_false, List.map_cons, List.map_nil, List.replicate, List.cons_append, List.nil_append, dEq_int, dInt_bl])
      refine ⟨⟨[.s 0, .t (.int n), .own (.lst ((ts ++ [t]).map fun t => rowD (oneRow n t))), .t d, .t (.int t), .un], [p2.D]⟩, ?_, ts ++ [t], _, _, p2, rfl, by rw [List.length_append, List.length_singleton]; omega, k2⟩
      rw [tg_set (by show 3 < 6; decide)]
      show sSeq _ _ ⟨[.s 0, .t (.int n), .own (.lst (ts.map fun t => rowD (oneRow n t))), .t d, l4, .un], [p1.D]⟩ = _
      rw [seq_nx (m1 := ⟨[.s 0, .t (.int n), .own (.lst (ts.map fun t => rowD (oneRow n t))), .t d, .t (.int t), .un], [p2.D]⟩) (by simp only [sSeq, sIf, sAsg, sRet, sSkip, sExpr, setOwn, tgN, tgSub, eOp, eCall, one_eq, two_eq, eArgs, eN, eC, eTup, fz, nLst, tV, tAnd', tOr', tNot', eAnd, eOr, eNot, eIf, E.bind, E.ret, E.opt, rd, rds, dat, asD, asDs, arg, args, toD, boolOf, putD, putS, Arg.loc, List.length_cons, List.length_nil, List.getElem?_cons_zero, List.getElem?_cons_succ, List.set_cons_zero, List.set_cons_succ, if_true, Nat.zero_lt_succ, decide_true, Nat.reduceAdd, Nat.reduceLT, Nat.zero_add, Bool.false_eq_true, if_false, decide_false, List.map_cons, List.map_nil, List.replicate, List.cons_append, List.nil_append, eFn, dAdd_int, e2])]
      rw [app_stmt (xs := ts.map fun t => rowD (oneRow n t)) (d := rowD (oneRow n t)) rfl (by rw [← rowD_one]; exact ev_call1 (ev_fz hc) rfl rfl) rfl (by rw [List.length_map]; omega), List.map_append]
      rfl)
  refine ⟨ts, by simpa using hl, p', ?_, by simpa using pk⟩
  have h : b__law_moving_rows ⟨[.s 0, .t (.int n), .un, .un, .un, .un], [p.D]⟩ = .ok (.rt (.t (tabD (ts.map (oneRow n))))) ⟨[.s 0, .t (.int n), .own (.lst (ts.map fun t => rowD (oneRow n t))), l3, l4, .un], [p'.D]⟩ := by
    unfold b__law_moving_rows tabD
    rw [seq_nx s1, seq_nx e, List.map_map]
    rfl
  exact mkFn_rt (np := 2) (nl := 4) (as := [.s 0, .t (.int n)]) (S := [p.D]) rfl h
theorem all2_ints {items ys : List D} (h : All2 (fun _ y => ∃ x : Int, y = D.int x ∧ 0 ≤ x ∧ x ≤ 100) items ys) : ∃ r : List Int, ys = r.map D.int ∧ r.length = items.length ∧ ∀ x ∈ r, 0 ≤ x ∧ x ≤ 100 := by
  induction h with
  | nil => exact ⟨[], rfl, rfl, by simp⟩
  | cons a t ih =>
    obtain ⟨x, rfl, h1⟩ := a
    obtain ⟨r, rfl, h2, h3⟩ := ih
    refine ⟨x :: r, rfl, by rw [List.length_cons, List.length_cons, h2], fun y hy => ?_⟩
    rcases List.mem_cons.mp hy with rfl | hy
    · exact h1
    · exact h3 y hy
theorem all2_rows {n : Nat} {items ys : List D} (h : All2 (fun _ y => ∃ r : List Int, y = rowD r ∧ r.length = n ∧ ∀ x ∈ r, 0 ≤ x ∧ x ≤ 100) items ys) : ∃ M : List (List Int), ys = M.map rowD ∧ M.length = items.length ∧ ∀ r ∈ M, r.length = n ∧ ∀ x ∈ r, 0 ≤ x ∧ x ≤ 100 := by
  induction h with
  | nil => exact ⟨[], rfl, rfl, by simp⟩
  | cons a t ih =>
    obtain ⟨r, rfl, h1⟩ := a
    obtain ⟨M, rfl, h2, h3⟩ := ih
    refine ⟨r :: M, rfl, by rw [List.length_cons, List.length_cons, h2], fun y hy => ?_⟩
    rcases List.mem_cons.mp hy with rfl | hy
    · exact h1
    · exact h3 y hy
theorem free_ok {b n : Nat} {p : Pn} (hp : p.Ok (b + n * n + 1)) (hn : n ≤ 1000) : ∃ M, Tb n M ∧ ∃ p' : Pn, m__law_free_rows [.s 0, .t (.int n)] [p.D] = some (.t (tabD M), [p'.D]) ∧ p'.Ok b := by
  obtain ⟨much, hm, p1, e1, k1⟩ := pick_ok (b := b + n * n) (ds := [.lst [.int 0, .int 0, .int 1], .lst [.int 0, .int 0, .int 0, .int 1], .lst [.int 0, .int 1], .lst [.int 0, .int 0, .int 0, .int 1, .int 2], .lst [.int 0, .int 0, .int 0, .int 0, .int 1]]) hp (by decide) (by decide)
  have hmu : ∃ ws : List Int, much = .lst (ws.map .int) ∧ 0 < ws.length ∧ ws.length < 10 ∧ ∀ x ∈ ws, 0 ≤ x ∧ x ≤ 100 := by
    simp only [List.mem_cons, List.not_mem_nil, or_false] at hm
    rcases hm with rfl | rfl | rfl | rfl | rfl
    · exact ⟨[0, 0, 1], rfl, by decide, by decide, by decide⟩
    · exact ⟨[0, 0, 0, 1], rfl, by decide, by decide, by decide⟩
    · exact ⟨[0, 1], rfl, by decide, by decide, by decide⟩
    · exact ⟨[0, 0, 0, 1, 2], rfl, by decide, by decide, by decide⟩
    · exact ⟨[0, 0, 0, 0, 1], rfl, by decide, by decide, by decide⟩
  obtain ⟨ws, rfl, w1, w2, w3⟩ := hmu
  have h3 : MF.sizeOk 3 = true := by decide
  have h4 : MF.sizeOk 4 = true := by decide
  have h2 : MF.sizeOk 2 = true := by decide
  have h5 : MF.sizeOk 5 = true := by decide
  obtain ⟨ys, S', ec, ⟨p', rfl, k'⟩, ha⟩ := nLc_rel (i := 4) (elt := (eCall (one dTuple) (eArgs [(fz (nLc [3] (iRange1 (eArgs [(eN 1)])) (tgN 3) ifsYes (eFn m__law_pick (eArgs [(eN 0), (eN 2)]))))]))) (ρ := [.s 0, .t (.int n), .t (.lst (ws.map .int)), .un, .un]) (by show 4 < 5; decide)
    (range_ev (f := eN 1) (n := n) (m := ⟨[.s 0, .t (.int n), .t (.lst (ws.map .int)), .un, .un], [p1.D]⟩) (ev_t rfl) (by omega)) (by rw [rangeD_len]; omega)
    (fun ds S => ∃ p' : Pn, S = [p'.D] ∧ p'.Ok (b + ds.length * n)) (fun _ y => ∃ r : List Int, y = rowD r ∧ r.length = n ∧ ∀ x ∈ r, 0 ≤ x ∧ x ≤ 100) ⟨p1, rfl, by rw [rangeD_len]; exact k1⟩ (by
      rintro d ds S ⟨p2, rfl, k2⟩
      rw [List.length_cons, Nat.add_mul, Nat.one_mul, ← Nat.add_assoc] at k2
      obtain ⟨ys, S', ec, ⟨p3, rfl, k3⟩, ha⟩ := nLc_rel (i := 3) (elt := (eFn m__law_pick (eArgs [(eN 0), (eN 2)]))) (ρ := [.s 0, .t (.int n), .t (.lst (ws.map .int)), .un, .t d]) (by show 3 < 5; decide)
        (range_ev (f := eN 1) (n := n) (m := ⟨[.s 0, .t (.int n), .t (.lst (ws.map .int)), .un, .t d], [p2.D]⟩) (ev_t rfl) (by omega)) (by rw [rangeD_len]; omega)
        (fun es S => ∃ p' : Pn, S = [p'.D] ∧ p'.Ok (b + ds.length * n + es.length)) (fun _ y => ∃ x : Int, y = D.int x ∧ 0 ≤ x ∧ x ≤ 100) ⟨p2, rfl, by rw [rangeD_len]; exact k2⟩ (by
          rintro d2 es S ⟨p4, rfl, k4⟩
          obtain ⟨y, hy, p5, e5, k5⟩ := pick_ok (ds := ws.map .int) k4 (by rw [List.length_map]; exact w1) (by rw [List.length_map]; omega)
          obtain ⟨x, hx, rfl⟩ := List.mem_map.mp hy
          exact ⟨.int x, [p5.D], by simp only [sSeq, sIf, sAsg, sRet, sSkip, sExpr, setOwn, tgN, tgSub, eOp, eCall, one_eq, two_eq, eArgs, eN, eC, eTup, fz, nLst, tV, tAnd', tOr', tNot', eAnd, eOr, eNot, eIf, E.bind, E.ret, E.opt, rd, rds, dat, asD, asDs, arg, args, toD, boolOf, putD, putS, Arg.loc, List.length_cons, List.length_nil, List.getElem?_cons_zero, List.getElem?_cons_succ, List.set_cons_zero, List.set_cons_succ, if_true, Nat.zero_lt_succ, decide_true, Nat.reduceAdd, Nat.reduceLT, Nat.zero_add, Bool.false_eq_true, if_false, decide_false, List.map_cons, List.map_nil, List.replicate, List.cons_append, List.nil_append, eFn, e5], ⟨p5, rfl, k5⟩, x, rfl, w3 x hx⟩)
      obtain ⟨r, rfl, hl, hr⟩ := all2_ints ha
      exact ⟨rowD r, [p3.D], ev_call1 (ev_fz ec) rfl rfl, ⟨p3, rfl, k3⟩, r, rfl, by rw [hl, rangeD_len], hr⟩)
  obtain ⟨M, rfl, hl, hM⟩ := all2_rows ha
  refine ⟨M, ⟨by rw [hl, rangeD_len], hM⟩, p', ?_, by simpa using k'⟩
  have h : b__law_free_rows ⟨[.s 0, .t (.int n), .un, .un, .un], [p.D]⟩ = .ok (.rt (.t (tabD M))) ⟨[.s 0, .t (.int n), .t (.lst (ws.map .int)), .un, .un], [p'.D]⟩ := by
    unfold b__law_free_rows
    rw [seq_nx (m1 := ⟨[.s 0, .t (.int n), .t (.lst (ws.map .int)), .un, .un], [p1.D]⟩) (by simp only [sSeq, sIf, sAsg, sRet, sSkip, sExpr, setOwn, tgN, tgSub, eOp, eCall, one_eq, two_eq, eArgs, eN, eC, eTup, fz, nLst, tV, tAnd', tOr', tNot', eAnd, eOr, eNot, eIf, E.bind, E.ret, E.opt, rd, rds, dat, asD, asDs, arg, args, toD, boolOf, putD, putS, Arg.loc, List.length_cons, List.length_nil, List.getElem?_cons_zero, List.getElem?_cons_succ, List.set_cons_zero, List.set_cons_succ, if_true, Nat.zero_lt_succ, decide_true, Nat.reduceAdd, Nat.reduceLT, Nat.zero_add, Bool.false_eq_true, if_false, decide_false, List.map_cons, List.map_nil, List.replicate, List.cons_append, List.nil_append, eFn, e1, h2, h3, h4, h5])]
    exact ev_ret (ev_call1 (ev_fz ec) rfl rfl)
  exact mkFn_rt (np := 2) (nl := 3) (as := [.s 0, .t (.int n)]) (S := [p.D]) rfl h
theorem exchange_ok {b n : Nat} {p : Pn} (hp : p.Ok (b + n)) (hn : n ≤ 1000) : ∃ ts : List Int, ts.length = n ∧ ∃ p' : Pn, m__law_exchange_rows [.s 0, .t (.int n)] [p.D] = some (.t (tabD (ts.map (oneRow n))), [p'.D]) ∧ p'.Ok b := by
  obtain ⟨os, pm, p1, e1, k1⟩ := shuffled_ok (b := b) (os := (List.range n).map fun (i : Nat) => (i : Int)) (p := p) (by rw [List.length_map, List.length_range]; exact hp) (by rw [List.length_map, List.length_range]; exact hn)
  rw [← rangeD_zero] at e1
  have hol : os.length = n := by rw [pm.length_eq, List.length_map, List.length_range]
  refine ⟨os, hol, p1, ?_, k1⟩
  have hr : rngOk (n : Int) = true := rng_nat (by omega)
  have hs : MF.sizeOk n = true := decide_eq_true (by omega)
  have hn1 : nRange1 (eN 1) ⟨[.s 0, .t (.int n), .un, .un, .un], [p.D]⟩ = .ok (.lst (rangeD 0 n)) ⟨[.s 0, .t (.int n), .un, .un, .un], [p.D]⟩ := by
    unfold nRange1
    rw [bind_eq (ev_t rfl), bind_eq (rd_eq rfl), bind_eq (opt_eq (o := intD (.int (n : Int))) rfl), if_pos (by rw [hr, Int.toNat_natCast, hs]; rfl), Int.toNat_natCast]
    rfl
  have hc := nLc_map (i := 4) (elt := (eCall (one dTuple) (eArgs [(fz (nLc [3] (iRange1 (eArgs [(eN 1)])) (tgN 3) ifsYes (eCall (one dInt) (eArgs [(eOp dEq (eOp dIdx (eN 2) (eN 4)) (eN 3))]))))]))) (ρ := [.s 0, .t (.int n), .t (.lst (os.map .int)), .un, .un]) (by show 4 < 5; decide)
    (range_ev (f := eN 1) (n := n) (m := ⟨[.s 0, .t (.int n), .t (.lst (os.map .int)), .un, .un], [p1.D]⟩) (ev_t rfl) (by omega)) (by rw [rangeD_len]; omega)
    (fun d => match d with | .int i => rowD (oneRow n ((os[i.toNat]?).getD 0)) | d => d) (fun d hd => by
      obtain ⟨k, hk, rfl⟩ := rangeD_mem hd
      have hk2 : k < os.length := by omega
      have hget : atI (os.map D.int) (k : Int) = some (.int os[k]) := by rw [MF.atI_nat, List.getElem?_map, List.getElem?_eq_getElem hk2]; rfl
      have hc2 := nLc_map (i := 3) (elt := (eCall (one dInt) (eArgs [(eOp dEq (eOp dIdx (eN 2) (eN 4)) (eN 3))]))) (ρ := [.s 0, .t (.int n), .t (.lst (os.map .int)), .un, .t (.int (k : Int))]) (by show 3 < 5; decide)
        (range_ev (f := eN 1) (n := n) (m := ⟨[.s 0, .t (.int n), .t (.lst (os.map .int)), .un, .t (.int (k : Int))], [p1.D]⟩) (ev_t rfl) (by omega)) (by rw [rangeD_len]; omega)
        (fun d => match d with | .int i => .int (if decide (os[k] = i) then 1 else 0) | d => d) (fun d hd => by
          obtain ⟨k2, _, rfl⟩ := rangeD_mem hd
          simp only [sSeq, sIf, sAsg, sRet, sSkip, sExpr, setOwn, tgN, tgSub, eOp, eCall, one_eq, two_eq, eArgs, eN, eC, eTup, fz, nLst, tV, tAnd', tOr', tNot', eAnd, eOr, eNot, eIf, E.bind, E.ret, E.opt, rd, rds, dat, asD, asDs, arg, args, toD, boolOf, putD, putS, Arg.loc, List.length_cons, List.length_nil, List.getElem?_cons_zero, List.getElem?_cons_succ, List.set_cons_zero, List.set_cons_succ, if_true, Nat.zero_lt_succ, decide_true, Nat.reduceAdd, Nat.reduceLT, Nat.zero_add, Bool.false_eq_true, if_false, decide_false, List.map_cons, List.map_nil, List.replicate, List.cons_append, List.nil_append, dIdx_lst, hget, dEq_int, dInt_bl])
      have hrow : D.tup ((rangeD 0 n).map fun d => match d with | .int i => .int (if decide (os[k] = i) then 1 else 0) | d => d) = rowD (oneRow n os[k]) := by
        rw [← rowD_one]
        refine congrArg D.tup ?_
        refine List.map_congr_left fun d hd => ?_
        obtain ⟨k2, _, rfl⟩ := rangeD_mem hd
        simp only [eq_comm (a := os[k])]
      have := ev_call1 (f := dTuple) (ev_fz hc2) rfl rfl
      rw [hrow] at this
      simp only [Int.toNat_natCast, List.getElem?_eq_getElem hk2, Option.getD_some]
      exact this)
  have hM : D.tup ((rangeD 0 n).map fun d => match d with | .int i => rowD (oneRow n ((os[i.toNat]?).getD 0)) | d => d) = tabD (os.map (oneRow n)) := by
    unfold tabD rangeD
    rw [List.map_map, List.map_map]
    refine congrArg D.tup ?_
    refine List.ext_getElem? fun k => ?_
    rw [List.getElem?_map, List.getElem?_map]
    by_cases hk : k < n
    · rw [List.getElem?_range hk, List.getElem?_eq_getElem (by omega)]
      simp only [Option.map_some, Function.comp, Int.zero_add, Int.toNat_natCast, List.getElem?_eq_getElem (show k < os.length by omega), Option.getD_some]
    · rw [List.getElem?_eq_none (by rw [List.length_range]; omega), List.getElem?_eq_none (by omega)]; rfl
  have h : b__law_exchange_rows ⟨[.s 0, .t (.int n), .un, .un, .un], [p.D]⟩ = .ok (.rt (.t (tabD (os.map (oneRow n))))) ⟨[.s 0, .t (.int n), .t (.lst (os.map .int)), .un, .un], [p1.D]⟩ := by
    unfold b__law_exchange_rows
    have hf := ev_fn (fn := m__law_shuffled) (args2 (f := eN 0) (ev_s (m := ⟨[.s 0, .t (.int n), .un, .un, .un], [p.D]⟩) (n := 0) rfl) (ev_fz hn1)) (bs := [.s 0, .t (.lst (rangeD 0 n))]) rfl e1
    rw [seq_nx (asg_n hf (by show 2 < 5; decide))]
    show sRet _ ⟨[.s 0, .t (.int n), .t (.lst (os.map .int)), .un, .un], [p1.D]⟩ = _
    rw [← hM]
    exact ev_ret (ev_call1 (ev_fz hc) rfl rfl)
  exact mkFn_rt (np := 2) (nl := 3) (as := [.s 0, .t (.int n)]) (S := [p.D]) rfl h
/-! stairs -/
def gI (M : List (List Int)) : List (List D) := M.map fun r => r.map D.int
theorem gput_ok {n : Nat} {M : List (List Int)} {r l v : Int} (h : Tb n M) (hr : 0 ≤ r ∧ r < n) (hl : 0 ≤ l ∧ l < n) (hv : 0 ≤ v ∧ v ≤ 100) : ∃ M', gput (gI M) r l (.int v) = some (gI M') ∧ Tb n M' := by
  obtain ⟨i, rfl⟩ := Int.eq_ofNat_of_zero_le hr.1
  obtain ⟨j, rfl⟩ := Int.eq_ofNat_of_zero_le hl.1
  have hi : i < M.length := by rw [h.len]; omega
  obtain ⟨h1, h2⟩ := h.row M[i] (List.getElem_mem hi)
  have hj : j < M[i].length := by rw [h1]; omega
  refine ⟨M.set i (M[i].set j v), ?_, ⟨by rw [List.length_set]; exact h.len, fun r hr => ?_⟩⟩
  · unfold gput gI
    rw [List.length_map, ixN_nat hi]
    show ((M.map fun r => r.map D.int)[i]?.bind _) = _
    rw [List.getElem?_map, List.getElem?_eq_getElem hi]
    show ((ixN (M[i].map D.int).length (j : Int)).map _) = _
    rw [List.length_map, ixN_nat hj, List.map_set, List.map_set]
    rfl
  · rcases List.mem_or_eq_of_mem_set hr with hr | rfl
    · exact h.row r hr
    · refine ⟨by rw [List.length_set]; exact h1, fun x hx => ?_⟩
      rcases List.mem_or_eq_of_mem_set hx with hx | rfl
      · exact h2 x hx
      · exact hv
theorem stairIn_ok {b n : Nat} {r : Int} (hr : 0 ≤ r ∧ r < n) : ∀ (ls : List Int) (M : List (List Int)) (p : Pn), (∀ l ∈ ls, 0 ≤ l ∧ l < n) → Tb n M → p.Ok (b + ls.length) → ∃ M', ∃ p' : Pn, stairIn m__law_pick 0 r ls (gI M) [p.D] = some (gI M', [p'.D]) ∧ Tb n M' ∧ p'.Ok b
  | [], M, p, _, h, hp => ⟨M, p, rfl, h, hp⟩
  | l :: ls, M, p, hl, h, hp => by
    obtain ⟨v, hv, p1, e1, k1⟩ := pickI_ok (b := b + ls.length) (xs := [0, 0, 1, 1, 3]) hp (by decide) (by decide)
    have hv' : 0 ≤ v ∧ v ≤ 100 := by
      simp only [List.mem_cons, List.not_mem_nil, or_false] at hv
      rcases hv with rfl | rfl | rfl | rfl | rfl <;> exact ⟨by decide, by decide⟩
    obtain ⟨M1, e2, h1⟩ := gput_ok h hr (hl l List.mem_cons_self) hv'
    obtain ⟨M2, p2, e3, h2, k2⟩ := stairIn_ok hr ls M1 p1 (fun x hx => hl x (List.mem_cons_of_mem _ hx)) h1 k1
    refine ⟨M2, p2, ?_, h2, k2⟩
    simp only [stairIn, e1, Option.bind_some, e2, e3]
theorem stairOut_ok {b n : Nat} {os : List Int} (ho : os.length = n) (hos : ∀ l ∈ os, 0 ≤ l ∧ l < n) : ∀ (is : List Nat) (M : List (List Int)) (p : Pn), (∀ i ∈ is, i < n) → Tb n M → p.Ok (b + is.length * (n + 1)) → ∃ M', ∃ p' : Pn, stairOut m__law_pick 0 os is (gI M) [p.D] = some (gI M', [p'.D]) ∧ Tb n M' ∧ p'.Ok b
  | [], M, p, _, h, hp => ⟨M, p, rfl, h, by simpa using hp⟩
  | i :: is, M, p, hi, h, hp => by
    have hil : i < os.length := by rw [ho]; exact hi i List.mem_cons_self
    have hr := hos os[i] (List.getElem_mem hil)
    rw [List.length_cons, Nat.add_mul, Nat.one_mul] at hp
    obtain ⟨v, hv, p1, e1, k1⟩ := pickI_ok (b := b + is.length * (n + 1) + n) (xs := [0, 1, 1]) (hp.mono (by omega)) (by decide) (by decide)
    have hv' : 0 ≤ v ∧ v ≤ 100 := by
      simp only [List.mem_cons, List.not_mem_nil, or_false] at hv
      rcases hv with rfl | rfl | rfl <;> exact ⟨by decide, by decide⟩
    obtain ⟨M1, e2, h1⟩ := gput_ok h hr hr hv'
    obtain ⟨M2, p2, e3, h2, k2⟩ := stairIn_ok (b := b + is.length * (n + 1)) hr (os.drop (i + 1)) M1 p1 (fun x hx => hos x (List.mem_of_mem_drop hx)) h1 (k1.mono (by rw [List.length_drop]; omega))
    obtain ⟨M3, p3, e4, h3, k3⟩ := stairOut_ok ho hos is M2 p2 (fun x hx => hi x (List.mem_cons_of_mem _ hx)) h2 k2
    refine ⟨M3, p3, ?_, h3, k3⟩
    simp only [stairOut, List.getElem?_eq_getElem hil, Option.bind_some, e1, e2, e3, e4]
theorem stair_ok {b n : Nat} {os : List Int} {p : Pn} (ho : os.length = n) (hos : ∀ l ∈ os, 0 ≤ l ∧ l < n) (hn : n ≤ 1000) (hp : p.Ok (b + n * (n + 1))) : ∃ M, Tb n M ∧ ∃ p' : Pn, m__law_stair_rows [.s 0, .t (.int n), .t (.lst (os.map .int))] [p.D] = some (.t (tabD M), [p'.D]) ∧ p'.Ok b := by
  have hz : zeros n = gI (List.replicate n (List.replicate n 0)) := by unfold zeros gI; rw [List.map_replicate, List.map_replicate]
  have tz : Tb n (List.replicate n (List.replicate n 0)) := ⟨List.length_replicate .., fun r hr => by
    rw [List.eq_of_mem_replicate hr]
    exact ⟨List.length_replicate .., fun x hx => by rw [List.eq_of_mem_replicate hx]; exact ⟨by decide, by decide⟩⟩⟩
  obtain ⟨M, p', e, h, k⟩ := stairOut_ok (b := b) ho hos (List.range n) _ p (fun i hi => List.mem_range.mp hi) tz (by rw [List.length_range]; exact hp)
  refine ⟨M, h, p', ?_, k⟩
  have hM : (gI M).map D.tup = M.map rowD := by unfold gI; rw [List.map_map]; rfl
  have hb : bStair m__law_pick ⟨[.s 0, .t (.int n), .t (.lst (os.map .int)), .un, .un, .un, .un, .un], [p.D]⟩ = .ok (.rt (.t (tabD M))) ⟨[.s 0, .t (.int n), .t (.lst (os.map .int)), .un, .un, .un, .un, .un], [p'.D]⟩ := by
    have c1 : rngOk (n : Int) = true := rng_nat (by omega)
    have c2 : MF.sizeOk n = true := decide_eq_true (by omega)
    have c3 : decide (os.length = n) = true := decide_eq_true ho
    unfold bStair
    simp only [intsD_map, Int.toNat_natCast, c1, c2, c3, hz, e, Bool.and_self, if_true, hM]
    rfl
  exact mkFn_rt (np := 3) (nl := 5) (as := [.s 0, .t (.int n), .t (.lst (os.map .int))]) (S := [p.D]) rfl hb
/-! # the tables of a law -/
structure Tbl (n : Nat) (M : List (List Int)) : Prop where
  len : M.length = n
  row : ∀ r ∈ M, r.length = n ∧ ∀ x ∈ r, 0 ≤ x ∧ x ≤ 1000
theorem Tb.tbl {n : Nat} {M : List (List Int)} (h : Tb n M) : Tbl n M := ⟨h.len, fun r hr => ⟨(h.row r hr).1, fun x hx => ⟨((h.row r hr).2 x hx).1, by have := ((h.row r hr).2 x hx).2; omega⟩⟩⟩
theorem oneTb {n : Nat} {ts : List Int} (h : ts.length = n) : Tb n (ts.map (oneRow n)) := ⟨by rw [List.length_map, h], fun r hr => by
  obtain ⟨t, _, rfl⟩ := List.mem_map.mp hr
  exact oneRow_ok n t⟩
theorem set_split {α : Type} {l : List α} {i : Nat} {x : α} (h : i < l.length) : l.take i ++ [x] ++ l.drop (i + 1) = l.set i x := by
  rw [List.set_eq_take_append_cons_drop, if_pos h, List.append_assoc]; rfl
/-- rows for one place -/
theorem rows_ok {b n : Nat} {p : Pn} {way : Int} {os : List Int} {at_ : Nat} {c : Int} {ts : List D} {l7 : MF.Loc} (hw : 0 ≤ way ∧ way < 8) (ho : os.length = n) (hos : ∀ l ∈ os, 0 ≤ l ∧ l < n) (hn : n ≤ 6) (hp : p.Ok (b + 100)) : ∃ M, Tb n M ∧ ∃ p' : Pn, p'.Ok b ∧
  (sIf (tV (eOp dLt (eN 3) (eC (.int 2))))
  (sAsg (eFn m__law_free_rows (eArgs [(eN 0), (eN 1)])) (tgN 7))
  (sIf (tV (eOp dEq (eN 3) (eC (.int 2))))
  (sAsg (eFn m__law_moving_rows (eArgs [(eN 0), (eN 1)])) (tgN 7))
  (sIf (tV (eOp dIn (eN 3) (eTup (eArgs [(eC (.int 3)), (eC (.int 4))]))))
  (sAsg (eFn m__law_stair_rows (eArgs [(eN 0), (eN 1), (eN 4)])) (tgN 7))
  (sIf (tV (eOp dEq (eN 3) (eC (.int 5))))
  (sAsg (eIf (tV (eOp dGt (eN 6) (eC (.int 0)))) (eFn m__law_exchange_rows (eArgs [(eN 0), (eN 1)])) (eFn m__law_stair_rows (eArgs [(eN 0), (eN 1), (eN 4)]))) (tgN 7))
  (sAsg (eIf (tV (eOp dGt (eFn m__law_draw (eArgs [(eN 0), (eC (.int 3))])) (eC (.int 0)))) (eFn m__law_moving_rows (eArgs [(eN 0), (eN 1)])) (eFn m__law_exchange_rows (eArgs [(eN 0), (eN 1)]))) (tgN 7)))))) ⟨[.s 0, .t (.int n), .t (.int c), .t (.int way), .t (.lst (os.map .int)), .own (.lst ts), .t (.int (at_ : Int)), l7, .un, .un, .un], [p.D]⟩ = .ok .nx ⟨[.s 0, .t (.int n), .t (.int c), .t (.int way), .t (.lst (os.map .int)), .own (.lst ts), .t (.int (at_ : Int)), .t (tabD M), .un, .un, .un], [p'.D]⟩ := by
  have h2z : MF.sizeOk 2 = true := by decide
  have hnn : n * n ≤ 6 * 6 := Nat.mul_le_mul hn hn
  have hnn1 : n * (n + 1) ≤ 6 * 7 := Nat.mul_le_mul hn (show n + 1 ≤ 7 by omega)
  let σ : MF.Loc → List MF.Loc := fun l => [.s 0, .t (.int n), .t (.int c), .t (.int way), .t (.lst (os.map .int)), .own (.lst ts), .t (.int (at_ : Int)), l, .un, .un, .un]
  have r2 : ∀ {fn : Fn} {q q' : Pn} {d : D}, fn [.s 0, .t (.int n)] [q.D] = some (.t d, [q'.D]) → eFn fn (eArgs [(eN 0), (eN 1)]) ⟨σ l7, [q.D]⟩ = .ok (.t d) ⟨σ l7, [q'.D]⟩ := fun {fn q q' d} e => ev_fn (args2 (f := eN 0) (f2 := eN 1) (ev_s (m := ⟨σ l7, [q.D]⟩) (n := 0) rfl) (ev_t rfl)) (bs := [.s 0, .t (.int n)]) rfl e
  have r3 : ∀ {fn : Fn} {q q' : Pn} {d : D}, fn [.s 0, .t (.int n), .t (.lst (os.map .int))] [q.D] = some (.t d, [q'.D]) → eFn fn (eArgs [(eN 0), (eN 1), (eN 4)]) ⟨σ l7, [q.D]⟩ = .ok (.t d) ⟨σ l7, [q'.D]⟩ := fun {fn q q' d} e => ev_fn (xs := [.s 0, .t (.int n), .t (.lst (os.map .int))]) (m1 := ⟨σ l7, [q.D]⟩) rfl (bs := [.s 0, .t (.int n), .t (.lst (os.map .int))]) rfl e
  have st : ∀ {f : E Val} {q : Pn} {M : List (List Int)}, f ⟨σ l7, [p.D]⟩ = .ok (.t (tabD M)) ⟨σ l7, [q.D]⟩ → sAsg f (tgN 7) ⟨σ l7, [p.D]⟩ = .ok .nx ⟨σ (.t (tabD M)), [q.D]⟩ := fun {f q M} e => asg_n e (by show 7 < 11; decide)
  have eif : ∀ {t : E Bool} {f1 f2 : E Val} {k : Bool} {m m1 : M}, t m = .ok k m1 → eIf t f1 f2 m = (if k then f1 else f2) m1 := fun {t f1 f2 k m m1} e => by unfold eIf; rw [bind_eq e]
  have q1 : ∀ k, decide (way < 2) = k → tV (eOp dLt (eN 3) (eC (.int 2))) ⟨σ l7, [p.D]⟩ = .ok k ⟨σ l7, [p.D]⟩ := fun k e => by subst e; rfl
  have q2 : ∀ k, decide (way = 2) = k → tV (eOp dEq (eN 3) (eC (.int 2))) ⟨σ l7, [p.D]⟩ = .ok k ⟨σ l7, [p.D]⟩ := fun k e => by
    unfold tV
    rw [bind_eq (ev_op (f := dEq) (b := eC (.int 2)) (y := .t (.int 2)) (ev_t (m := ⟨σ l7, [p.D]⟩) (d := .int way) rfl) rfl rfl rfl (dEq_int way 2)), e]; rfl
  have q5 : ∀ k, decide (way = 5) = k → tV (eOp dEq (eN 3) (eC (.int 5))) ⟨σ l7, [p.D]⟩ = .ok k ⟨σ l7, [p.D]⟩ := fun k e => by
    unfold tV
    rw [bind_eq (ev_op (f := dEq) (b := eC (.int 5)) (y := .t (.int 5)) (ev_t (m := ⟨σ l7, [p.D]⟩) (d := .int way) rfl) rfl rfl rfl (dEq_int way 5)), e]; rfl
  have q3 : ∀ k, (decide ((3 : Int) = way) || (decide ((4 : Int) = way) || false)) = k → tV (eOp dIn (eN 3) (eTup (eArgs [(eC (.int 3)), (eC (.int 4))]))) ⟨σ l7, [p.D]⟩ = .ok k ⟨σ l7, [p.D]⟩ := fun k e => by
    have h := in_ints2 way 3 4
    rw [e] at h
    have ht : eTup (eArgs [(eC (.int 3)), (eC (.int 4))]) ⟨σ l7, [p.D]⟩ = .ok (.t (.tup [.int 3, .int 4])) ⟨σ l7, [p.D]⟩ := by
      unfold eTup
      rw [bind_eq (args2 (f := eC (.int 3)) (f2 := eC (.int 4)) (m1 := ⟨σ l7, [p.D]⟩) (m2 := ⟨σ l7, [p.D]⟩) (x := .t (.int 3)) (y := .t (.int 4)) rfl rfl)]
      rfl
    unfold tV
    rw [bind_eq (ev_op (f := dIn) (ev_t (m := ⟨σ l7, [p.D]⟩) (d := .int way) rfl) ht rfl rfl h)]; rfl
  have qa : ∀ k, decide ((0 : Int) < (at_ : Int)) = k → tV (eOp dGt (eN 6) (eC (.int 0))) ⟨σ l7, [p.D]⟩ = .ok k ⟨σ l7, [p.D]⟩ := fun k e => by subst e; rfl
  cases c1 : decide (way < 2) with
  | true =>
    obtain ⟨M, hM, p1, e1, k1⟩ := free_ok (b := b) (n := n) (p := p) (hp.mono (by omega)) (by omega)
    exact ⟨M, hM, p1, k1, (if_t (q1 _ c1)).trans (st (r2 e1))⟩
  | false =>
    cases c2 : decide (way = 2) with
    | true =>
      obtain ⟨tt, ht, p1, e1, k1⟩ := moving_ok (b := b) (n := n) (p := p) (hp.mono (by omega)) (by omega)
      exact ⟨_, oneTb ht, p1, k1, (if_f (q1 _ c1)).trans ((if_t (q2 _ c2)).trans (st (r2 e1)))⟩
    | false =>
      cases c3 : (decide ((3 : Int) = way) || (decide ((4 : Int) = way) || false)) with
      | true =>
        obtain ⟨M, hM, p1, e1, k1⟩ := stair_ok (b := b) (n := n) (p := p) ho hos (by omega) (hp.mono (by omega))
        exact ⟨M, hM, p1, k1, (if_f (q1 _ c1)).trans ((if_f (q2 _ c2)).trans ((if_t (q3 _ c3)).trans (st (r3 e1))))⟩
      | false =>
        cases c5 : decide (way = 5) with
        | true =>
          cases ca : decide ((0 : Int) < (at_ : Int)) with
          | true =>
            obtain ⟨tt, ht, p1, e1, k1⟩ := exchange_ok (b := b) (n := n) (p := p) (hp.mono (by omega)) (by omega)
            exact ⟨_, oneTb ht, p1, k1, (if_f (q1 _ c1)).trans ((if_f (q2 _ c2)).trans ((if_f (q3 _ c3)).trans ((if_t (q5 _ c5)).trans (st ((eif (qa _ ca)).trans (r2 e1))))))⟩
          | false =>
            obtain ⟨M, hM, p1, e1, k1⟩ := stair_ok (b := b) (n := n) (p := p) ho hos (by omega) (hp.mono (by omega))
            exact ⟨M, hM, p1, k1, (if_f (q1 _ c1)).trans ((if_f (q2 _ c2)).trans ((if_f (q3 _ c3)).trans ((if_t (q5 _ c5)).trans (st ((eif (qa _ ca)).trans (r3 e1))))))⟩
        | false =>
          obtain ⟨r, p1, e1, r0, r1, k1⟩ := draw_ok (b := b + 50) (many := 3) (p := p) (hp.mono (by omega)) (by omega) (by omega)
          have qr : ∀ k, decide (0 < r) = k → tV (eOp dGt (eFn m__law_draw (eArgs [(eN 0), (eC (.int 3))])) (eC (.int 0))) ⟨σ l7, [p.D]⟩ = .ok k ⟨σ l7, [p1.D]⟩ := fun k e => by
            have hd := ev_fn (args2 (f := eN 0) (f2 := eC (.int 3)) (ev_s (m := ⟨σ l7, [p.D]⟩) (n := 0) rfl) rfl) (bs := [.s 0, .t (.int 3)]) rfl e1
            unfold tV
            rw [bind_eq (ev_op (f := dGt) (b := eC (.int 0)) (y := .t (.int 0)) hd rfl rfl rfl (dGt_int r 0)), e]; rfl
          cases cr : decide (0 < r) with
          | true =>
            obtain ⟨tt, ht, p2, e2, k2⟩ := moving_ok (b := b) (n := n) (p := p1) (k1.mono (by omega)) (by omega)
            exact ⟨_, oneTb ht, p2, k2, (if_f (q1 _ c1)).trans ((if_f (q2 _ c2)).trans ((if_f (q3 _ c3)).trans ((if_f (q5 _ c5)).trans (st ((eif (qr _ cr)).trans (r2 e2))))))⟩
          | false =>
            obtain ⟨tt, ht, p2, e2, k2⟩ := exchange_ok (b := b) (n := n) (p := p1) (k1.mono (by omega)) (by omega)
            exact ⟨_, oneTb ht, p2, k2, (if_f (q1 _ c1)).trans ((if_f (q2 _ c2)).trans ((if_f (q3 _ c3)).trans ((if_f (q5 _ c5)).trans (st ((eif (qr _ cr)).trans (r2 e2))))))⟩
theorem tables_ok {b n c : Nat} {p : Pn} (hp : p.Ok (b + 500)) (hn : 1 ≤ n ∧ n ≤ 6) (hc : 1 ≤ c ∧ c ≤ 4) : ∃ Ms : List (List (List Int)), Ms.length = c ∧ (∀ M ∈ Ms, Tbl n M) ∧ ∃ p' : Pn, m__law_tables [.s 0, .t (.int n), .t (.int c)] [p.D] = some (.t (.lst (Ms.map tabD)), [p'.D]) ∧ p'.Ok b := by
  obtain ⟨way, p1, e1, w0, w1, k1⟩ := draw_ok (b := b + 410) (many := 8) (p := p) (hp.mono (by omega)) (by omega) (by omega)
  obtain ⟨os, pm, p2, e2, k2⟩ := shuffled_ok (b := b + 403) (os := (List.range n).map fun (i : Nat) => (i : Int)) (p := p1) (k1.mono (by rw [List.length_map, List.length_range]; omega)) (by rw [List.length_map, List.length_range]; omega)
  rw [← rangeD_zero] at e2
  have ho : os.length = n := by rw [pm.length_eq, List.length_map, List.length_range]
  have hos : ∀ l ∈ os, 0 ≤ l ∧ l < n := fun l hl => by
    obtain ⟨i, hi, rfl⟩ := List.mem_map.mp (pm.mem_iff.mp hl)
    have := List.mem_range.mp hi
    omega
  have s1 := par2_ev (i := 3) (j := 4) (ev_fn (fn := m__law_draw) (args2 (f := eN 0) (f2 := eC (.int 8)) (ev_s (m := ⟨[.s 0, .t (.int n), .t (.int c), .un, .un, .un, .un, .un, .un, .un, .un], [p.D]⟩) (n := 0) rfl) rfl) (bs := [.s 0, .t (.int 8)]) rfl e1)
    (ev_fn (fn := m__law_shuffled) (args2 (f := eN 0) (ev_s (m := ⟨[.s 0, .t (.int n), .t (.int c), .un, .un, .un, .un, .un, .un, .un, .un], [p1.D]⟩) (n := 0) rfl) (ev_fz (nRange1_ev (f := eN 1) (n := n) (ev_t rfl) (by omega)))) (bs := [.s 0, .t (.lst (rangeD 0 n))]) rfl e2) (by show 4 < 11; decide) (by show 3 < 11; decide)
  have s2 : setOwn 5 (nLst (eArgs [])) ⟨[.s 0, .t (.int n), .t (.int c), .t (.int way), .t (.lst (os.map .int)), .un, .un, .un, .un, .un, .un], [p2.D]⟩ = .ok .nx ⟨[.s 0, .t (.int n), .t (.int c), .t (.int way), .t (.lst (os.map .int)), .own (.lst []), .un, .un, .un, .un, .un], [p2.D]⟩ := rfl
  obtain ⟨m', e3, _, Ms, l6, l7, p3, rfl, hl, hM, k3⟩ := sFor_ok (tg := tgN 6) (body := (sSeq (sIf (tV (eOp dLt (eN 3) (eC (.int 2))))
  (sAsg (eFn m__law_free_rows (eArgs [(eN 0), (eN 1)])) (tgN 7))
  (sIf (tV (eOp dEq (eN 3) (eC (.int 2))))
  (sAsg (eFn m__law_moving_rows (eArgs [(eN 0), (eN 1)])) (tgN 7))
  (sIf (tV (eOp dIn (eN 3) (eTup (eArgs [(eC (.int 3)), (eC (.int 4))]))))
  (sAsg (eFn m__law_stair_rows (eArgs [(eN 0), (eN 1), (eN 4)])) (tgN 7))
  (sIf (tV (eOp dEq (eN 3) (eC (.int 5))))
  (sAsg (eIf (tV (eOp dGt (eN 6) (eC (.int 0)))) (eFn m__law_exchange_rows (eArgs [(eN 0), (eN 1)])) (eFn m__law_stair_rows (eArgs [(eN 0), (eN 1), (eN 4)]))) (tgN 7))
  (sAsg (eIf (tV (eOp dGt (eFn m__law_draw (eArgs [(eN 0), (eC (.int 3))])) (eC (.int 0)))) (eFn m__law_moving_rows (eArgs [(eN 0), (eN 1)])) (eFn m__law_exchange_rows (eArgs [(eN 0), (eN 1)]))) (tgN 7))))))
  (sExpr (eMut mAppend (eN 5) (eArgs [(eN 7)])))))
    (range_ev (f := eN 2) (n := c) (m := ⟨[.s 0, .t (.int n), .t (.int c), .t (.int way), .t (.lst (os.map .int)), .own (.lst []), .un, .un, .un, .un, .un], [p2.D]⟩) (ev_t rfl) (by omega))
    (fun ds m => (∀ d ∈ ds, ∃ k : Nat, d = D.int (k : Int)) ∧ ∃ Ms : List (List (List Int)), ∃ l6 l7, ∃ p' : Pn, m = ⟨[.s 0, .t (.int n), .t (.int c), .t (.int way), .t (.lst (os.map .int)), .own (.lst (Ms.map tabD)), l6, l7, .un, .un, .un], [p'.D]⟩ ∧ Ms.length + ds.length = c ∧ (∀ M ∈ Ms, Tb n M) ∧ p'.Ok (b + 3 + 100 * ds.length))
    ⟨fun d hd => let ⟨k, _, e⟩ := rangeD_mem hd; ⟨k, e⟩, [], _, _, p2, rfl, by rw [rangeD_len]; simp, by simp, by rw [rangeD_len]; exact k2.mono (by omega)⟩ (by
      rintro d ds m ⟨hd, Ms, l6, l7, p4, rfl, hl, hM, k4⟩
      obtain ⟨k, rfl⟩ := hd d List.mem_cons_self
      rw [List.length_cons] at hl k4
      obtain ⟨M, tM, p5, k5, e5⟩ := rows_ok (b := b + 3 + 100 * ds.length) (n := n) (p := p4) (way := way) (os := os) (at_ := k) (c := c) (ts := Ms.map tabD) (l7 := l7) ⟨w0, w1⟩ ho hos hn.2 (k4.mono (by omega))
      refine ⟨⟨[.s 0, .t (.int n), .t (.int c), .t (.int way), .t (.lst (os.map .int)), .own (.lst ((Ms ++ [M]).map tabD)), .t (.int (k : Int)), .t (tabD M), .un, .un, .un], [p5.D]⟩, ?_, fun d h => hd d (List.mem_cons_of_mem _ h), Ms ++ [M], _, _, p5, rfl, by rw [List.length_append, List.length_singleton]; omega, fun M' h => ?_, k5⟩
      · rw [tg_set (by show 6 < 11; decide)]
        show sSeq _ _ ⟨[.s 0, .t (.int n), .t (.int c), .t (.int way), .t (.lst (os.map .int)), .own (.lst (Ms.map tabD)), .t (.int (k : Int)), l7, .un, .un, .un], [p4.D]⟩ = _
        rw [seq_nx e5, app_stmt (xs := Ms.map tabD) (d := tabD M) (m1 := ⟨[.s 0, .t (.int n), .t (.int c), .t (.int way), .t (.lst (os.map .int)), .own (.lst (Ms.map tabD)), .t (.int (k : Int)), .t (tabD M), .un, .un, .un], [p5.D]⟩) rfl (ev_t rfl) rfl (by rw [List.length_map]; omega), List.map_append]
        rfl
      · rcases List.mem_append.mp h with h | h
        · exact hM M' h
        · rw [List.mem_singleton] at h; subst h; exact tM)
  simp only [List.length_nil, Nat.add_zero, Nat.mul_zero] at hl k3
  have fin : ∃ Ms' : List (List (List Int)), Ms'.length = c ∧ (∀ M ∈ Ms', Tbl n M) ∧ ∃ p' : Pn, ∃ ρ, (sSeq (sIf (tV (eOp dGt (eN 3) (eC (.int 5))))
  (sSeq (sPar [(6, (kV' (eFn m__law_draw (eArgs [(eN 0), (eN 2)])))), (8, (kV' (eFn m__law_draw (eArgs [(eN 0), (eN 1)])))), (9, (kV' (eFn m__law_draw (eArgs [(eN 0), (eN 1)]))))])
  (sSeq (sAsg (eOp dAdd (eOp dAdd (eCut (eOp dIdx (eOp dIdx (eN 5) (eN 6)) (eN 8)) none (some (eN 9))) (eTup (eArgs [(eOp dAdd (eOp dIdx (eOp dIdx (eOp dIdx (eN 5) (eN 6)) (eN 8)) (eN 9)) (eC (.int 1)))]))) (eCut (eOp dIdx (eOp dIdx (eN 5) (eN 6)) (eN 8)) (some (eOp dAdd (eN 9) (eC (.int 1)))) none)) (tgN 10))
  (sAsg (eOp dAdd (eOp dAdd (eCut (eOp dIdx (eN 5) (eN 6)) none (some (eN 8))) (eTup (eArgs [(eN 10)]))) (eCut (eOp dIdx (eN 5) (eN 6)) (some (eOp dAdd (eN 8) (eC (.int 1)))) none)) (tgSub (eN 5) (eN 6)))))
  sSkip)
  (sRet (eN 5))) ⟨[.s 0, .t (.int n), .t (.int c), .t (.int way), .t (.lst (os.map .int)), .own (.lst (Ms.map tabD)), l6, l7, .un, .un, .un], [p3.D]⟩ = .ok (.rt (.t (.lst (Ms'.map tabD)))) ⟨ρ, [p'.D]⟩ ∧ p'.Ok b := by
    by_cases cw : 5 < way
    · obtain ⟨a, q1, f1, a0, a1, g1⟩ := draw_ok (b := b + 2) (many := c) k3 (by omega) (by omega)
      obtain ⟨i, q2, f2, i0, i1, g2⟩ := draw_ok (b := b + 1) (many := n) g1 (by omega) (by omega)
      obtain ⟨j, q3, f3, j0, j1, g3⟩ := draw_ok (b := b) (many := n) g2 (by omega) (by omega)
      obtain ⟨a, rfl⟩ := Int.eq_ofNat_of_zero_le a0
      obtain ⟨i, rfl⟩ := Int.eq_ofNat_of_zero_le i0
      obtain ⟨j, rfl⟩ := Int.eq_ofNat_of_zero_le j0
      have ha : a < Ms.length := by omega
      have tM := hM Ms[a] (List.getElem_mem ha)
      have hi : i < Ms[a].length := by rw [tM.len]; omega
      obtain ⟨rl, rx⟩ := tM.row Ms[a][i] (List.getElem_mem hi)
      have hj : j < Ms[a][i].length := by rw [rl]; omega
      let σ : MF.Loc → List MF.Loc := fun l10 => [.s 0, .t (.int n), .t (.int c), .t (.int way), .t (.lst (os.map .int)), .own (.lst (Ms.map tabD)), .t (.int (a : Int)), l7, .t (.int (i : Int)), .t (.int (j : Int)), l10]
      have g5 : ∀ l10, eOp dIdx (eN 5) (eN 6) ⟨σ l10, [q3.D]⟩ = .ok (.t (tabD Ms[a])) ⟨σ l10, [q3.D]⟩ := fun l10 => by
        refine ev_op (x := .o 5) rfl (ev_t rfl) rfl rfl (idx_nat ?_)
        rw [List.getElem?_map, List.getElem?_eq_getElem ha]; rfl
      have g58 : ∀ l10, eOp dIdx (eOp dIdx (eN 5) (eN 6)) (eN 8) ⟨σ l10, [q3.D]⟩ = .ok (.t (rowD Ms[a][i])) ⟨σ l10, [q3.D]⟩ := fun l10 => by
        refine ev_op (g5 l10) (ev_t rfl) rfl rfl (idx_tup ?_)
        rw [List.getElem?_map, List.getElem?_eq_getElem hi]; rfl
      have g589 : ∀ l10, eOp dIdx (eOp dIdx (eOp dIdx (eN 5) (eN 6)) (eN 8)) (eN 9) ⟨σ l10, [q3.D]⟩ = .ok (.t (.int Ms[a][i][j])) ⟨σ l10, [q3.D]⟩ := fun l10 => by
        refine ev_op (g58 l10) (ev_t rfl) rfl rfl (idx_tup ?_)
        rw [List.getElem?_map, List.getElem?_eq_getElem hj]; rfl
      have j1' : ∀ l10, eOp dAdd (eN 9) (eC (.int 1)) ⟨σ l10, [q3.D]⟩ = .ok (.t (.int ((j + 1 : Nat) : Int))) ⟨σ l10, [q3.D]⟩ := fun l10 => ev_op (b := eC (.int 1)) (y := .t (.int 1)) (ev_t rfl) rfl rfl rfl rfl
      have i1' : ∀ l10, eOp dAdd (eN 8) (eC (.int 1)) ⟨σ l10, [q3.D]⟩ = .ok (.t (.int ((i + 1 : Nat) : Int))) ⟨σ l10, [q3.D]⟩ := fun l10 => ev_op (b := eC (.int 1)) (y := .t (.int 1)) (ev_t rfl) rfl rfl rfl rfl
      have hline : (eOp dAdd (eOp dAdd (eCut (eOp dIdx (eOp dIdx (eN 5) (eN 6)) (eN 8)) none (some (eN 9))) (eTup (eArgs [(eOp dAdd (eOp dIdx (eOp dIdx (eOp dIdx (eN 5) (eN 6)) (eN 8)) (eN 9)) (eC (.int 1)))]))) (eCut (eOp dIdx (eOp dIdx (eN 5) (eN 6)) (eN 8)) (some (eOp dAdd (eN 9) (eC (.int 1)))) none)) ⟨σ .un, [q3.D]⟩ = .ok (.t (rowD (Ms[a][i].set j (Ms[a][i][j] + 1)))) ⟨σ .un, [q3.D]⟩ := by
        have t1 : eTup (eArgs [(eOp dAdd (eOp dIdx (eOp dIdx (eOp dIdx (eN 5) (eN 6)) (eN 8)) (eN 9)) (eC (.int 1)))]) ⟨σ .un, [q3.D]⟩ = .ok (.t (.tup [.int (Ms[a][i][j] + 1)])) ⟨σ .un, [q3.D]⟩ := by
          unfold eTup
          rw [bind_eq (args1 (ev_op (b := eC (.int 1)) (y := .t (.int 1)) (f := dAdd) (z := .int (Ms[a][i][j] + 1)) (g589 .un) rfl rfl rfl rfl))]
          rfl
        have c1 := cut_take_ev (f := eOp dIdx (eOp dIdx (eN 5) (eN 6)) (eN 8)) (g := eN 9) (xs := Ms[a][i].map .int) (k := j) (g58 .un) (ev_t rfl)
        have c2 := cut_drop_ev (f := eOp dIdx (eOp dIdx (eN 5) (eN 6)) (eN 8)) (xs := Ms[a][i].map .int) (k := j + 1) (g58 .un) (j1' .un)
        have a1 := ev_op (f := dAdd) c1 t1 rfl rfl (tup_add (by rw [List.length_take, List.length_map]; show _ + 1 ≤ _; omega))
        have a2 := ev_op (f := dAdd) a1 c2 rfl rfl (tup_add (by rw [List.length_append, List.length_take, List.length_drop, List.length_map]; show _ + 1 + _ ≤ _; omega))
        rw [a2, set_split (by rw [List.length_map]; exact hj)]
        unfold rowD
        rw [List.map_set]
      have htab : (eOp dAdd (eOp dAdd (eCut (eOp dIdx (eN 5) (eN 6)) none (some (eN 8))) (eTup (eArgs [(eN 10)]))) (eCut (eOp dIdx (eN 5) (eN 6)) (some (eOp dAdd (eN 8) (eC (.int 1)))) none)) ⟨σ (.t (rowD (Ms[a][i].set j (Ms[a][i][j] + 1)))), [q3.D]⟩ = .ok (.t (tabD (Ms[a].set i (Ms[a][i].set j (Ms[a][i][j] + 1))))) ⟨σ (.t (rowD (Ms[a][i].set j (Ms[a][i][j] + 1)))), [q3.D]⟩ := by
        have t1 : eTup (eArgs [(eN 10)]) ⟨σ (.t (rowD (Ms[a][i].set j (Ms[a][i][j] + 1)))), [q3.D]⟩ = .ok (.t (.tup [rowD (Ms[a][i].set j (Ms[a][i][j] + 1))])) ⟨σ (.t (rowD (Ms[a][i].set j (Ms[a][i][j] + 1)))), [q3.D]⟩ := rfl
        have c1 := cut_take_ev (f := eOp dIdx (eN 5) (eN 6)) (g := eN 8) (xs := Ms[a].map rowD) (k := i) (g5 (.t (rowD (Ms[a][i].set j (Ms[a][i][j] + 1))))) (ev_t rfl)
        have c2 := cut_drop_ev (f := eOp dIdx (eN 5) (eN 6)) (xs := Ms[a].map rowD) (k := i + 1) (g5 (.t (rowD (Ms[a][i].set j (Ms[a][i][j] + 1))))) (i1' _)
        have a1 := ev_op (f := dAdd) c1 t1 rfl rfl (tup_add (by rw [List.length_take, List.length_map]; show _ + 1 ≤ _; have := tM.len; omega))
        have a2 := ev_op (f := dAdd) a1 c2 rfl rfl (tup_add (by rw [List.length_append, List.length_take, List.length_drop, List.length_map]; show _ + 1 + _ ≤ _; have := tM.len; omega))
        rw [a2, set_split (by rw [List.length_map]; exact hi)]
        unfold tabD
        rw [List.map_set]
      let M' := Ms[a].set i (Ms[a][i].set j (Ms[a][i][j] + 1))
      have tM' : Tbl n M' := ⟨by rw [List.length_set]; exact tM.len, fun r hr => by
        rcases List.mem_or_eq_of_mem_set hr with hr | rfl
        · exact tM.tbl.row r hr
        · refine ⟨by rw [List.length_set]; exact rl, fun x hx => ?_⟩
          rcases List.mem_or_eq_of_mem_set hx with hx | rfl
          · exact (tM.tbl.row _ (List.getElem_mem hi)).2 x hx
          · have := rx _ (List.getElem_mem hj); omega⟩
      refine ⟨Ms.set a M', by rw [List.length_set]; omega, fun M hM' => ?_, q3, (σ (.t (rowD (Ms[a][i].set j (Ms[a][i][j] + 1))))).set 5 (.t (.lst ((Ms.set a M').map tabD))), ?_, g3⟩
      · rcases List.mem_or_eq_of_mem_set hM' with h | rfl
        · exact (hM M h).tbl
        · exact tM'
      · have sp := par3_ev (i := 6) (j := 8) (l := 9) (ev_fn (fn := m__law_draw) (args2 (f := eN 0) (f2 := eN 2) (ev_s (m := ⟨[.s 0, .t (.int n), .t (.int c), .t (.int way), .t (.lst (os.map .int)), .own (.lst (Ms.map tabD)), l6, l7, .un, .un, .un], [p3.D]⟩) (n := 0) rfl) (ev_t rfl)) (bs := [.s 0, .t (.int c)]) rfl f1)
          (ev_fn (fn := m__law_draw) (args2 (f := eN 0) (f2 := eN 1) (ev_s (m := ⟨[.s 0, .t (.int n), .t (.int c), .t (.int way), .t (.lst (os.map .int)), .own (.lst (Ms.map tabD)), l6, l7, .un, .un, .un], [q1.D]⟩) (n := 0) rfl) (ev_t rfl)) (bs := [.s 0, .t (.int n)]) rfl f2)
          (ev_fn (fn := m__law_draw) (args2 (f := eN 0) (f2 := eN 1) (ev_s (m := ⟨[.s 0, .t (.int n), .t (.int c), .t (.int way), .t (.lst (os.map .int)), .own (.lst (Ms.map tabD)), l6, l7, .un, .un, .un], [q2.D]⟩) (n := 0) rfl) (ev_t rfl)) (bs := [.s 0, .t (.int n)]) rfl f3) (by show 6 < 11; decide) (by show 8 < 11; decide) (by show 9 < 11; decide)
        have s10 := asg_n hline (i := 10) (by show 10 < 11; decide)
        have s5 : sAsg (eOp dAdd (eOp dAdd (eCut (eOp dIdx (eN 5) (eN 6)) none (some (eN 8))) (eTup (eArgs [(eN 10)]))) (eCut (eOp dIdx (eN 5) (eN 6)) (some (eOp dAdd (eN 8) (eC (.int 1)))) none)) (tgSub (eN 5) (eN 6)) ⟨σ (.t (rowD (Ms[a][i].set j (Ms[a][i][j] + 1)))), [q3.D]⟩ = .ok .nx ⟨(σ (.t (rowD (Ms[a][i].set j (Ms[a][i][j] + 1))))).set 5 (.own (.lst ((Ms.set a M').map tabD))), [q3.D]⟩ := by
          have hput : dPut (.lst (Ms.map tabD)) (.int (a : Int)) (tabD M') = some (.lst ((Ms.set a M').map tabD)) := by rw [put_nat (by rw [List.length_map]; exact ha), List.map_set]
          have hs : tgSub (eN 5) (eN 6) (.t (tabD M')) ⟨σ (.t (rowD (Ms[a][i].set j (Ms[a][i][j] + 1)))), [q3.D]⟩ = .ok () ⟨(σ (.t (rowD (Ms[a][i].set j (Ms[a][i][j] + 1))))).set 5 (.own (.lst ((Ms.set a M').map tabD))), [q3.D]⟩ := by
            unfold tgSub
            rw [bind_eq (f := eN 5) (a := .o 5) (m1 := ⟨σ (.t (rowD (Ms[a][i].set j (Ms[a][i][j] + 1)))), [q3.D]⟩) rfl, bind_eq (f := eN 6) (ev_t rfl), bind_eq (opt_eq (o := toD (.t (tabD M'))) rfl), bind_eq (rd_eq (d := .lst (Ms.map tabD)) rfl), bind_eq (rd_eq rfl), bind_eq (opt_eq hput)]
            rfl
          unfold sAsg
          rw [bind_eq htab, bind_eq (f := arg (.t (tabD M'))) (a := .t (tabD M')) (m1 := ⟨σ (.t (rowD (Ms[a][i].set j (Ms[a][i][j] + 1)))), [q3.D]⟩) rfl, bind_eq hs]
          rfl
        rw [seq_nx (m1 := ⟨(σ (.t (rowD (Ms[a][i].set j (Ms[a][i][j] + 1))))).set 5 (.own (.lst ((Ms.set a M').map tabD))), [q3.D]⟩)]
        · rfl
        · rw [if_t (m1 := ⟨[.s 0, .t (.int n), .t (.int c), .t (.int way), .t (.lst (os.map .int)), .own (.lst (Ms.map tabD)), l6, l7, .un, .un, .un], [p3.D]⟩) (by simp only [sSeq, sIf, sAsg, sRet, sSkip, sExpr, setOwn, tgN, tgSub, eOp, eCall, one_eq, two_eq, eArgs, eN, eC, eTup, fz, nLst, tV, tAnd', tOr', tNot', eAnd, eOr, eNot, eIf, E.bind, E.ret, E.opt, rd, rds, dat, asD, asDs, arg, args, toD, boolOf, putD, putS, Arg.loc, List.length_cons, List.length_nil, List.getElem?_cons_zero, List.getElem?_cons_succ, List.set_cons_zero, List.set_cons_succ, if_true, Nat.zero_lt_succ, decide_true, Nat.reduceAdd, Nat.reduceLT, Nat.zero_add, Bool.false_eq_true, if_false, decide_false, List.map_cons, List.map_nil, List.replicate, List.cons_append, List.nil_append, dGt_int, cw])]
          rw [seq_nx sp]
          show sSeq _ _ ⟨σ .un, [q3.D]⟩ = _
          rw [seq_nx s10]
          exact s5
    · refine ⟨Ms, hl, fun M h => (hM M h).tbl, p3, [.s 0, .t (.int n), .t (.int c), .t (.int way), .t (.lst (os.map .int)), .t (.lst (Ms.map tabD)), l6, l7, .un, .un, .un], ?_, k3.mono (by omega)⟩
      rw [seq_nx (m1 := ⟨[.s 0, .t (.int n), .t (.int c), .t (.int way), .t (.lst (os.map .int)), .own (.lst (Ms.map tabD)), l6, l7, .un, .un, .un], [p3.D]⟩)]
      · rfl
      · rw [if_f (m1 := ⟨[.s 0, .t (.int n), .t (.int c), .t (.int way), .t (.lst (os.map .int)), .own (.lst (Ms.map tabD)), l6, l7, .un, .un, .un], [p3.D]⟩) (by simp only [sSeq, sIf, sAsg, sRet, sSkip, sExpr, setOwn, tgN, tgSub, eOp, eCall, one_eq, two_eq, eArgs, eN, eC, eTup, fz, nLst, tV, tAnd', tOr', tNot', eAnd, eOr, eNot, eIf, E.bind, E.ret, E.opt, rd, rds, dat, asD, asDs, arg, args, toD, boolOf, putD, putS, Arg.loc, List.length_cons, List.length_nil, List.getElem?_cons_zero, List.getElem?_cons_succ, List.set_cons_zero, List.set_cons_succ, if_true, Nat.zero_lt_succ, decide_true, Nat.reduceAdd, Nat.reduceLT, Nat.zero_add, Bool.false_eq_true, if_false, decide_false, List.map_cons, List.map_nil, List.replicate, List.cons_append, List.nil_append, dGt_int, cw])]
        rfl
  obtain ⟨Ms', h1, h2, p', ρ, h3, h4⟩ := fin
  refine ⟨Ms', h1, h2, p', ?_, h4⟩
  have h : b__law_tables ⟨[.s 0, .t (.int n), .t (.int c), .un, .un, .un, .un, .un, .un, .un, .un], [p.D]⟩ = .ok (.rt (.t (.lst (Ms'.map tabD)))) ⟨ρ, [p'.D]⟩ := by
    unfold b__law_tables
    rw [seq_nx s1]
    show sSeq _ _ ⟨[.s 0, .t (.int n), .t (.int c), .t (.int way), .t (.lst (os.map .int)), .un, .un, .un, .un, .un, .un], [p2.D]⟩ = _
    rw [seq_nx s2, seq_nx e3]
    exact h3
  exact mkFn_rt (np := 3) (nl := 8) (as := [.s 0, .t (.int n), .t (.int c)]) (S := [p.D]) rfl h
end Z09
set_option Elab.async false
set_option linter.all false
set_option maxRecDepth 100000
set_option maxHeartbeats 4000000
namespace Z09
open PySem L2 MF
/-! # tables and books are made -/
theorem mk_rt {np nl : Nat} {body : E Ctl} {as : List MF.Arg} {S : List D} {ρ : List MF.Loc} {d : D} (hn : as.length = np) (h : body ⟨as.map Arg.loc ++ List.replicate nl .un, S⟩ = .ok (.rt (.t d)) ⟨ρ, S⟩) : mkFn np nl body as S = some (.t d, S) := by
  have e := mkFn_rt hn h
  rw [List.take_length] at e
  exact e
theorem is_list_tup (xs : List D) (S : List D) : m_is_list [.t (.tup xs)] S = some (.t (.bl true), S) := mk_rt (np := 1) (nl := 0) (as := [.t (.tup xs)]) (ρ := [.t (.tup xs)]) rfl rfl
theorem is_list_lst (xs : List D) (S : List D) : m_is_list [.t (.lst xs)] S = some (.t (.bl true), S) := mk_rt (np := 1) (nl := 0) (as := [.t (.lst xs)]) (ρ := [.t (.lst xs)]) rfl rfl
theorem is_whole_int (i : Int) (S : List D) : m_is_whole [.t (.int i)] S = some (.t (.bl true), S) := mk_rt (np := 1) (nl := 0) (as := [.t (.int i)]) (ρ := [.t (.int i)]) rfl rfl
theorem boolsD_map (bs : List Bool) : boolsD (bs.map D.bl) = some bs := by
  induction bs with
  | nil => rfl
  | cons b bs ih => show (match (some b), boolsD (bs.map D.bl) with | some k, some ks => some (k :: ks) | _, _ => none) = _; rw [ih]
theorem dAll_map (bs : List Bool) : dAll (.lst (bs.map D.bl)) = some (.bl (bs.all id)) := by
  show ((boolsD (bs.map D.bl)).map fun bs => D.bl (bs.all id)) = _
  rw [boolsD_map]; rfl
theorem dAll_true {ds : List D} (h : ∀ d ∈ ds, d = .bl true) : dAll (.lst ds) = some (.bl true) := by
  have : ds = (List.replicate ds.length true).map D.bl := by
    rw [List.map_replicate]
    exact List.eq_replicate_iff.mpr ⟨rfl, h⟩
  rw [this, dAll_map, List.all_replicate]
  cases ds.length <;> rfl
theorem all2_true {P : D → D → Prop} (h : ∀ d y, P d y → y = .bl true) {items ys : List D} (a : All2 P items ys) : ∀ d ∈ ys, d = .bl true := by
  induction a with
  | nil => intro d hd; cases hd
  | cons q t ih =>
    intro d hd
    rcases List.mem_cons.mp hd with rfl | hd
    · exact h _ _ q
    · exact ih d hd
/-- all([.. for x in xs]), all true -/
theorem all_ev {i : Nat} {src : E (List D)} {elt : E Val} {ρ : List MF.Loc} {S : List D} {items : List D} (hi : i < ρ.length) (hk : ρ.set i (keepL ρ[i]?) = ρ) (hs : src ⟨ρ, S⟩ = .ok items ⟨ρ, S⟩) (hz : items.length ≤ 16000000) (step : ∀ d ∈ items, elt ⟨ρ.set i (.t d), S⟩ = .ok (.t (.bl true)) ⟨ρ.set i (.t d), S⟩) :
    eCall (one dAll) (eArgs [fz (nLc [i] src (tgN i) ifsYes elt)]) ⟨ρ, S⟩ = .ok (.t (.bl true)) ⟨ρ, S⟩ := by
  have h := nLc_map hi hs hz (fun _ => .bl true) step
  rw [hk] at h
  exact ev_call1 (ev_fz h) rfl (dAll_true fun d hd => by obtain ⟨_, _, rfl⟩ := List.mem_map.mp hd; rfl)
theorem and_ev {a b : E Val} {m m1 m2 : M} {x : Val} (ha : a m = .ok (.t (.bl true)) m1) (hb : b m1 = .ok x m2) : eAnd a b m = .ok x m2 := by
  have h : tV a m = .ok true m1 := by unfold tV; rw [bind_eq ha]; rfl
  unfold eAnd
  rw [bind_eq h]
  exact hb
theorem seq_ev {i : Nat} {m : M} {d : D} {items : List D} (h : m.ρ[i]? = some (.t d)) (hd : itemsOf d = some items) : iSeq (eN i) m = .ok items m := by
  unfold iSeq
  rw [bind_eq (ev_t h), bind_eq (f := asD (.t d)) (a := d) (m1 := m) rfl]
  exact opt_eq hd
theorem is_counts_ok {n : Nat} {r : List Int} (h1 : r.length = n) (h2 : ∀ x ∈ r, 0 ≤ x) (hn : n ≤ 1000) (S : List D) : m_is_counts [.t (.int n), .t (rowD r)] S = some (.t (.bl true), S) := by
  refine mk_rt (np := 2) (nl := 1) (as := [.t (.int n), .t (rowD r)]) (ρ := [.t (.int n), .t (rowD r), .un]) rfl ?_
  show b_is_counts ⟨[.t (.int n), .t (rowD r), .un], S⟩ = _
  unfold b_is_counts
  refine ev_ret (and_ev (m1 := ⟨[.t (.int n), .t (rowD r), .un], S⟩) (ev_fn (args1 (f := eN 1) (ev_t rfl)) (bs := [.t (rowD r)]) rfl (is_list_tup _ S)) (and_ev (m1 := ⟨[.t (.int n), .t (rowD r), .un], S⟩) (ev_op (f := dEq) (ev_call1 (ev_t rfl) rfl (dLen_tup _)) (ev_t rfl) rfl rfl (by rw [dEq_int, List.length_map, h1, decide_eq_true rfl])) ?_))
  refine all_ev (by show 2 < 3; decide) rfl (seq_ev rfl rfl) (by rw [List.length_map]; omega) fun d hd => ?_
  obtain ⟨x, hx, rfl⟩ := List.mem_map.mp hd
  refine and_ev (m1 := ⟨[.t (.int n), .t (rowD r), .t (.int x)], S⟩) (ev_fn (args1 (f := eN 2) (ev_t rfl)) (bs := [.t (.int x)]) rfl (is_whole_int x S)) (ev_op (f := dGe) (b := eC (.int 0)) (y := .t (.int 0)) (ev_t rfl) rfl rfl rfl (by rw [dGe_int, decide_eq_true (h2 x hx)]))
theorem is_rows_ok {n : Nat} {M : List (List Int)} (h : Tbl n M) (h0 : 1 ≤ n) (hn : n ≤ 1000) (S : List D) : m_is_rows [.t (tabD M)] S = some (.t (.bl true), S) := by
  refine mk_rt (np := 1) (nl := 1) (as := [.t (tabD M)]) (ρ := [.t (tabD M), .un]) rfl ?_
  show b_is_rows ⟨[.t (tabD M), .un], S⟩ = _
  unfold b_is_rows
  refine ev_ret (and_ev (m1 := ⟨[.t (tabD M), .un], S⟩) (ev_fn (args1 (f := eN 0) (ev_t rfl)) (bs := [.t (tabD M)]) rfl (is_list_tup _ S)) (and_ev (m1 := ⟨[.t (tabD M), .un], S⟩) (ev_op (f := dGt) (b := eC (.int 0)) (y := .t (.int 0)) (ev_call1 (ev_t rfl) rfl (dLen_tup _)) rfl rfl rfl (by rw [dGt_int, List.length_map, h.len, decide_eq_true (by omega)])) ?_))
  refine all_ev (by show 1 < 2; decide) rfl (seq_ev rfl rfl) (by rw [List.length_map, h.len]; omega) fun d hd => ?_
  obtain ⟨r, hr, rfl⟩ := List.mem_map.mp hd
  obtain ⟨h1, h2⟩ := h.row r hr
  refine ev_fn (args2 (f2 := eN 1) (ev_call1 (f := dLen) (a := eN 0) (m := ⟨[.t (tabD M), .t (rowD r)], S⟩) (z := .int n) (ev_t rfl) rfl (by show some (D.int ((M.map rowD).length : Nat)) = _; rw [List.length_map, h.len])) (ev_t rfl)) (bs := [.t (.int n), .t (rowD r)]) rfl (is_counts_ok h1 (fun x hx => (h2 x hx).1) hn S)
def tblO (n : Nat) (M : List (List Int)) : D := .obj ("Table" : Str) [(("rows" : Str), tabD M), (("many" : Str), .int n)]
theorem table_make {n : Nat} {M : List (List Int)} (h : Tbl n M) (h0 : 1 ≤ n) (hn : n ≤ 1000) {f : E Val} {m m1 : MF.M} (hf : f m = .ok (.t (tabD M)) m1) : eMake ("Table" : Str) m_Table_init (eArgs [f]) m = .ok (.t (tblO n M)) m1 := by
  obtain ⟨ρ, S⟩ := m1
  have tr : ∀ S', nLc [2] (iSeq (eN 1)) (tgN 2) ifsYes (eCall (one dTuple) (eArgs [(eN 2)])) ⟨[.s S.length, .t (tabD M), .un], S'⟩ = .ok (.lst (M.map rowD)) ⟨[.s S.length, .t (tabD M), .un], S'⟩ := fun S' => by
    have := nLc_map (i := 2) (ρ := [.s S.length, .t (tabD M), .un]) (by show 2 < 3; decide) (seq_ev (i := 1) (m := ⟨[.s S.length, .t (tabD M), .un], S'⟩) (items := M.map rowD) rfl rfl) (by rw [List.length_map, h.len]; omega) (fun d => d) (elt := eCall (one dTuple) (eArgs [(eN 2)])) fun d hd => by
      obtain ⟨r, hr, rfl⟩ := List.mem_map.mp hd
      exact ev_call1 (ev_t rfl) rfl rfl
    rw [List.map_id'] at this
    exact this
  have s2 : sFldSet ("rows" : Str) (eN 0) (eCall (one dTuple) (eArgs [(fz (nLc [2] (iSeq (eN 1)) (tgN 2) ifsYes (eCall (one dTuple) (eArgs [(eN 2)]))))])) ⟨[.s S.length, .t (tabD M), .un], S ++ [.obj ("Table" : Str) []]⟩ = .ok .nx ⟨[.s S.length, .t (tabD M), .un], S ++ [.obj ("Table" : Str) [(("rows" : Str), tabD M)]]⟩ := by
    rw [fld_stmt (d := tabD M) (ev_call1 (ev_fz (tr _)) rfl rfl) (ev_s rfl) (last_get _ _) (c' := .obj ("Table" : Str) [(("rows" : Str), tabD M)]) rfl, last_set]
  have hput : dPutF ("many" : Str) (.obj ("Table" : Str) [(("rows" : Str), tabD M)]) (.int n) = some (tblO n M) := by kernel_rfl
  have hget : getFld ("rows" : Str) (.obj ("Table" : Str) [(("rows" : Str), tabD M)]) = some (tabD M) := by kernel_rfl
  have s3 : sFldSet ("many" : Str) (eN 0) (eCall (one dLen) (eArgs [(eUn (getFld ("rows" : Str)) (eN 0))])) ⟨[.s S.length, .t (tabD M), .un], S ++ [.obj ("Table" : Str) [(("rows" : Str), tabD M)]]⟩ = .ok .nx ⟨[.s S.length, .t (tabD M), .un], S ++ [tblO n M]⟩ := by
    have hlen : dLen (tabD M) = some (.int n) := by show some (D.int ((M.map rowD).length : Nat)) = _; rw [List.length_map, h.len]
    have hu := ev_un (f := getFld ("rows" : Str)) (a := eN 0) (m := ⟨[.s S.length, .t (tabD M), .un], S ++ [.obj ("Table" : Str) [(("rows" : Str), tabD M)]]⟩) (ev_s rfl) (last_get S _) hget
    rw [fld_stmt (d := .int n) (ev_call1 hu rfl hlen) (ev_s rfl) (last_get _ _) hput, last_set]
  have s1 : (sIf (tNot' (tV (eFn m_is_rows (eArgs [(eN 1)])))) no' sSkip) ⟨[.s S.length, .t (tabD M), .un], S ++ [.obj ("Table" : Str) []]⟩ = .ok .nx ⟨[.s S.length, .t (tabD M), .un], S ++ [.obj ("Table" : Str) []]⟩ := by
    refine (if_f (m1 := ⟨[.s S.length, .t (tabD M), .un], S ++ [.obj ("Table" : Str) []]⟩) ?_).trans rfl
    unfold tNot' tV
    rw [bind_eq (a := true) (m1 := ⟨[.s S.length, .t (tabD M), .un], S ++ [.obj ("Table" : Str) []]⟩)]
    · rfl
    · rw [bind_eq (ev_fn (args1 (f := eN 1) (ev_t (d := tabD M) rfl)) (bs := [.t (tabD M)]) rfl (is_rows_ok h h0 hn _))]
      rfl
  have hinit : m_Table_init [.s S.length, .t (tabD M)] (S ++ [.obj ("Table" : Str) []]) = some (.t .non, S ++ [tblO n M]) := by
    have hb : b_Table_init ⟨[.s S.length, .t (tabD M), .un], S ++ [.obj ("Table" : Str) []]⟩ = .ok .nx ⟨[.s S.length, .t (tabD M), .un], S ++ [tblO n M]⟩ := by
      unfold b_Table_init
      rw [seq_nx s1, seq_nx s2]
      exact s3
    have := mkFn_nx (np := 2) (nl := 1) (as := [.s S.length, .t (tabD M)]) (S := S ++ [.obj ("Table" : Str) []]) rfl hb
    simp only [List.length_append, List.length_singleton] at this
    rw [List.take_of_length_le (by rw [List.length_append]; exact Nat.le_refl _)] at this
    exact this
  exact make_ev (args1 hf) (bs := [.t (tabD M)]) (m2 := ⟨ρ, S⟩) rfl hinit
end Z09
set_option Elab.async false
set_option linter.all false
set_option maxRecDepth 100000
set_option maxHeartbeats 4000000
namespace Z09
open PySem L2 MF
/-! # books -/
theorem is_name_ok {x : Str} (nx : Nm x) (kx : keptB x = false) (S : List D) : m_is_name [.t (.str x)] S = some (.t (.bl true), S) := by
  refine mk_rt (np := 1) (nl := 1) (as := [.t (.str x)]) (ρ := [.t (.str x), .un]) rfl ?_
  show b_is_name ⟨[.t (.str x), .un], S⟩ = _
  have hz : MF.sizeOk x.length = true := decide_eq_true (by have := nx.l2; omega)
  have hlen : dLen (.str x) = some (.int x.length) := if_pos hz
  obtain ⟨c, hc⟩ : ∃ c, x.cps.toList[0]? = some c := ⟨x.cps.toList[0]'(by rw [Array.length_toList]; exact nx.l1), List.getElem?_eq_getElem _⟩
  have hidx : dIdx (.str x) (.int 0) = some (.str ⟨#[c]⟩) := by
    show (if MF.sizeOk x.length then (atI x.cps.toList ((0 : Nat) : Int)).map fun c => MF.D.str ⟨#[c]⟩ else none) = _
    rw [if_pos hz, MF.atI_nat, hc]; rfl
  have s1 : (sIf (tOr' (tNot' (tV (eCall (two dIsi) (eArgs [(eN 0), (eC (.ty "str"))])))) (tOr' (tNot' (tV (eChain dLe dLe (eC (.int 1)) (eCall (one dLen) (eArgs [(eN 0)])) (eC (.int 12))))) (tV (eOp dIn (eN 0) (eC k_KEPT_WORDS)))))
  (sRet (eC (.bl false)))
  sSkip) ⟨[.t (.str x), .un], S⟩ = .ok .nx ⟨[.t (.str x), .un], S⟩ := by
    refine (if_f (m1 := ⟨[.t (.str x), .un], S⟩) ?_).trans rfl
    refine (tor_f (m1 := ⟨[.t (.str x), .un], S⟩) (tnot_ev (b := true) (tv_ev (ev_call2 (f := dIsi) (b := eC (.ty "str")) (y := .t (.ty "str")) (ev_t rfl) rfl rfl rfl rfl)))).trans ?_
    refine (tor_f (m1 := ⟨[.t (.str x), .un], S⟩) (tnot_ev (b := true) (tv_ev (chain_ev (f := dLe) (f' := dLe) (a := eC (.int 1)) (c := eC (.int 12)) (d := .int 1) (h := .int 12) (e := .int x.length) rfl (ev_call1 (ev_t rfl) rfl hlen) rfl (by rw [dLe_int, decide_eq_true (by have := nx.l1; omega)]) (by rw [dLe_int, decide_eq_true (by have := nx.l2; omega)]))))).trans ?_
    refine tv_ev (ev_op (f := dIn) (b := eC k_KEPT_WORDS) (y := .t k_KEPT_WORDS) (ev_t rfl) rfl rfl rfl ?_)
    have := in_ktup3 x ("kinds" : Str) ("round" : Str) ("becomes" : Str)
    rw [show (decide (("kinds" : Str) = x) || (decide (("round" : Str) = x) || (decide (("becomes" : Str) = x) || false))) = false from kx] at this
    exact this
  have s2 : (sIf (tV (eOp dNotIn (eOp dIdx (eN 0) (eC (.int 0))) (eC k_LETTERS)))
  (sRet (eC (.bl false)))
  sSkip) ⟨[.t (.str x), .un], S⟩ = .ok .nx ⟨[.t (.str x), .un], S⟩ := by
    refine (if_f (m1 := ⟨[.t (.str x), .un], S⟩) ?_).trans rfl
    refine tv_ev (ev_op (f := dNotIn) (b := eC k_LETTERS) (y := .t k_LETTERS) (ev_op (f := dIdx) (b := eC (.int 0)) (y := .t (.int 0)) (ev_t rfl) rfl rfl rfl hidx) rfl rfl rfl ?_)
    have := sign_notIn c LETS
    rw [decide_eq_true (nx.hd c hc)] at this
    exact this
  unfold b_is_name
  rw [seq_nx s1, seq_nx s2]
  refine ev_ret (all_ev (by show 1 < 2; decide) rfl (seq_ev (items := chars x) rfl rfl) (by unfold chars; rw [List.length_map, Array.length_toList]; have := nx.l2; show x.length ≤ _; omega) fun d hd => ?_)
  unfold chars at hd
  obtain ⟨c', hc', rfl⟩ := List.mem_map.mp hd
  have i1 : ∀ (z : Str) (k : Bool), decide (c' ∈ z.cps.toList) = k → eOp dIn (eN 1) (eC (.str z)) ⟨[.t (.str x), .t (.str ⟨#[c']⟩)], S⟩ = .ok (.t (.bl k)) ⟨[.t (.str x), .t (.str ⟨#[c']⟩)], S⟩ := fun z k e => by
    refine ev_op (f := dIn) (b := eC (.str z)) (y := .t (.str z)) (ev_t rfl) rfl rfl rfl ?_
    rw [sign_in, e]
  show eOr (eOp dIn (eN 1) (eC (.str LETS))) (eOr (eOp dIn (eN 1) (eC (.str FIGS))) (eOp dEq (eN 1) (eC (.str ("_" : Str))))) ⟨[.t (.str x), .t (.str ⟨#[c']⟩)], S⟩ = _
  cases k1 : decide (c' ∈ LETS.cps.toList) with
  | true => exact or_t (i1 LETS true k1)
  | false =>
    refine (or_f (i1 LETS false k1)).trans ?_
    cases k2 : decide (c' ∈ FIGS.cps.toList) with
    | true => exact or_t (i1 FIGS true k2)
    | false =>
      refine (or_f (i1 FIGS false k2)).trans ?_
      have h95 : c' = 95 := by
        rcases nx.al c' hc' with h | h | h
        · exact absurd h (of_decide_eq_false k1)
        · exact absurd h (of_decide_eq_false k2)
        · exact h
      subst h95
      have hu : (⟨#[95]⟩ : Str) = ("_" : Str) := by decide +kernel
      exact ev_op (f := dEq) (b := eC (.str ("_" : Str))) (y := .t (.str ("_" : Str))) (ev_t rfl) rfl rfl rfl (by rw [dEq_str, decide_eq_true hu])
def seenD (l : List Str) : D := .dk (l.map fun x => (.inr x, .bl true))
theorem seen_in (l : List Str) (x : Str) : dIn (.str x) (seenD l) = some (.bl (decide (x ∈ l))) := by
  have h : (dLook (l.map fun x => ((Sum.inr x : Key), D.bl true)) (Sum.inr x)).isSome = decide (x ∈ l) := by
    unfold dLook
    rw [Option.isSome_map]
    induction l with
    | nil => rfl
    | cons y ys ih =>
      rw [List.map_cons, List.find?_cons]
      by_cases e : y = x
      · subst e; simp
      · have e' : ¬ (Sum.inr y : Key) = Sum.inr x := fun q => e (Sum.inr.inj q)
        rw [decide_eq_false e']
        simp only
        rw [ih]
        simp [Ne.symm e]
  show some (D.bl ((dLook (l.map fun x => ((Sum.inr x : Key), D.bl true)) (Sum.inr x)).isSome)) = _
  rw [h]
theorem seen_put {l : List Str} {x : Str} (h : x ∉ l) (hz : l.length ≤ 1000) : dPut (seenD l) (.str x) (.bl true) = some (seenD (l ++ [x])) := by
  have h1 : ((l.map fun x => ((Sum.inr x : Key), D.bl true)).any fun kv => decide (kv.1 = Sum.inr x)) = false := by
    rw [List.any_eq_false]
    intro kv hkv
    obtain ⟨y, hy, rfl⟩ := List.mem_map.mp hkv
    simp only [decide_eq_true_eq]
    intro e
    exact h (Sum.inr.inj e ▸ hy)
  have h2 : MF.sizeOk (l.map fun x => ((Sum.inr x : Key), D.bl true)).length = true := decide_eq_true (by rw [List.length_map]; omega)
  show (if MF.sizeOk (l.map fun x => ((Sum.inr x : Key), D.bl true)).length then (keyD (.str x)).map fun k => D.dk (putKD (l.map fun x => ((Sum.inr x : Key), D.bl true)) k (.bl true)) else none) = _
  rw [if_pos h2]
  show some (D.dk (putKD (l.map fun x => ((Sum.inr x : Key), D.bl true)) (.inr x) (.bl true))) = _
  unfold putKD seenD
  rw [if_neg (by rw [h1]; exact Bool.false_ne_true), List.map_append]
  rfl
theorem name_new_ok {l : List Str} {x : Str} {S : List D} {k : Nat} (nx : Nm x) (kx : keptB x = false) (hx : x ∉ l) (hz : l.length ≤ 1000) (hS : S[k]? = some (seenD l)) : m_name_new [.t (.str x), .s k] S = some (.t .non, S.set k (seenD (l ++ [x]))) := by
  have s1 : (sIf (tNot' (tV (eFn m_is_name (eArgs [(eN 0)])))) no' sSkip) ⟨[.t (.str x), .s k], S⟩ = .ok .nx ⟨[.t (.str x), .s k], S⟩ :=
    (if_f (m1 := ⟨[.t (.str x), .s k], S⟩) (tnot_ev (b := true) (tv_ev (ev_fn (args1 (f := eN 0) (ev_t (d := .str x) rfl)) (bs := [.t (.str x)]) rfl (is_name_ok nx kx S))))).trans rfl
  have s2 : (sIf (tV (eOp dIn (eN 0) (eN 1))) no' sSkip) ⟨[.t (.str x), .s k], S⟩ = .ok .nx ⟨[.t (.str x), .s k], S⟩ := by
    refine (if_f (m1 := ⟨[.t (.str x), .s k], S⟩) (tv_ev (ev_op (f := dIn) (ev_t rfl) (ev_s rfl) rfl hS ?_))).trans rfl
    rw [seen_in, decide_eq_false hx]
  have s3 : sAsg (eC (.bl true)) (tgSub (eN 1) (eN 0)) ⟨[.t (.str x), .s k], S⟩ = .ok .nx ⟨[.t (.str x), .s k], S.set k (seenD (l ++ [x]))⟩ := by
    have hp : putD (.s k) (seenD (l ++ [x])) ⟨[.t (.str x), .s k], S⟩ = .ok () ⟨[.t (.str x), .s k], S.set k (seenD (l ++ [x]))⟩ := by
      show putS k _ _ = _
      unfold putS
      rw [if_pos (List.getElem?_eq_some_iff.mp hS).1]
    have ht : tgSub (eN 1) (eN 0) (.t (.bl true)) ⟨[.t (.str x), .s k], S⟩ = .ok () ⟨[.t (.str x), .s k], S.set k (seenD (l ++ [x]))⟩ := by
      unfold tgSub
      rw [bind_eq (f := eN 1) (ev_s rfl), bind_eq (f := eN 0) (ev_t rfl), bind_eq (opt_eq (o := toD (.t (.bl true))) rfl), bind_eq (show rd (.s k) ⟨[.t (.str x), .s k], S⟩ = .ok (seenD l) ⟨[.t (.str x), .s k], S⟩ from rd_eq hS), bind_eq (show rd (.t (.str x)) ⟨[.t (.str x), .s k], S⟩ = .ok (.str x) ⟨[.t (.str x), .s k], S⟩ from rd_eq rfl), bind_eq (opt_eq (seen_put hx hz)), hp]
    unfold sAsg
    rw [bind_eq (f := eC (.bl true)) (a := .t (.bl true)) (m1 := ⟨[.t (.str x), .s k], S⟩) rfl, bind_eq (f := arg (.t (.bl true))) (a := .t (.bl true)) (m1 := ⟨[.t (.str x), .s k], S⟩) rfl, bind_eq ht]
    rfl
  have hb : b_name_new ⟨[.t (.str x), .s k], S⟩ = .ok .nx ⟨[.t (.str x), .s k], S.set k (seenD (l ++ [x]))⟩ := by
    unfold b_name_new
    rw [seq_nx s1, seq_nx s2]
    exact s3
  have := mkFn_nx (np := 2) (nl := 0) (as := [.t (.str x), .s k]) (S := S) rfl hb
  simp only at this
  rw [List.take_of_length_le (by rw [List.length_set]; exact Nat.le_refl _)] at this
  exact this
end Z09
set_option Elab.async false
set_option linter.all false
set_option maxRecDepth 100000
set_option maxHeartbeats 4000000
namespace Z09
open PySem L2 MF
/-! # books are made -/
theorem two_get (S : List D) (o a : D) : (S ++ [o, a])[S.length + 1]? = some a := by
  rw [List.getElem?_append_right (by omega), show S.length + 1 - S.length = 1 by omega]; rfl
theorem two_get0 (S : List D) (o a : D) : (S ++ [o, a])[S.length]? = some o := by
  rw [List.getElem?_append_right (Nat.le_refl _), Nat.sub_self]; rfl
theorem two_set (S : List D) (o a b : D) : (S ++ [o, a]).set (S.length + 1) b = S ++ [o, b] := by
  rw [List.set_append_right _ _ (by omega), show S.length + 1 - S.length = 1 by omega]; rfl
theorem two_set0 (S : List D) (o a b : D) : (S ++ [o, a]).set S.length b = S ++ [b, a] := by
  rw [List.set_append_right _ _ (Nat.le_refl _), Nat.sub_self]; rfl
def kindsD (ks : List Str) : D := .lst (ks.map .str)
def rndD (n : Nat) (r : Str × List (List Int)) : D := .tup [.str r.1, tblO n r.2]
def rndsD (n : Nat) (rs : List (Str × List (List Int))) : D := .lst (rs.map (rndD n))
def bookO (n : Nat) (ks : List Str) (rs : List (Str × List (List Int))) : D :=
  .obj ("Book" : Str) [(("kinds" : Str), .tup (ks.map .str)), (("names" : Str), .tup (rs.map fun r => .str r.1)), (("tables" : Str), .tup (rs.map fun r => tblO n r.2))]
structure Bk (n : Nat) (ks : List Str) (rs : List (Str × List (List Int))) : Prop where
  kl : ks.length = n
  n1 : 1 ≤ n
  n6 : n ≤ 400
  r1 : 1 ≤ rs.length
  r6 : rs.length ≤ 400
  nd : (ks ++ rs.map (·.1)).Nodup
  nm : ∀ x ∈ ks ++ rs.map (·.1), Nm x ∧ keptB x = false
  tb : ∀ r ∈ rs, Tbl n r.2
theorem book_init {n : Nat} {ks : List Str} {rs : List (Str × List (List Int))} (h : Bk n ks rs) (S : List D) : m_Book_init [.s S.length, .t (kindsD ks), .t (rndsD n rs)] (S ++ [.obj ("Book" : Str) []]) = some (.t .non, S ++ [bookO n ks rs]) := by
  let σ : MF.Loc → MF.Loc → List MF.Loc := fun l4 l5 => [.s S.length, .t (kindsD ks), .t (rndsD n rs), .s (S.length + 1), l4, l5]
  let ob : D := .obj ("Book" : Str) []
  have s1 : (sIf (tOr' (tNot' (tV (eFn m_is_list (eArgs [(eN 1)])))) (tV (eOp dEq (eCall (one dLen) (eArgs [(eN 1)])) (eC (.int 0))))) no' sSkip) ⟨[.s S.length, .t (kindsD ks), .t (rndsD n rs), .un, .un, .un], S ++ [ob]⟩ = .ok .nx ⟨[.s S.length, .t (kindsD ks), .t (rndsD n rs), .un, .un, .un], S ++ [ob]⟩ := by
    refine (if_f (m1 := ⟨[.s S.length, .t (kindsD ks), .t (rndsD n rs), .un, .un, .un], S ++ [ob]⟩) ?_).trans rfl
    refine (tor_f (m1 := ⟨[.s S.length, .t (kindsD ks), .t (rndsD n rs), .un, .un, .un], S ++ [ob]⟩) (tnot_ev (b := true) (tv_ev (ev_fn (args1 (f := eN 1) (ev_t rfl)) (bs := [.t (kindsD ks)]) rfl (is_list_lst _ _))))).trans ?_
    refine tv_ev (ev_op (f := dEq) (b := eC (.int 0)) (y := .t (.int 0)) (ev_call1 (d := kindsD ks) (ev_t rfl) rfl (dLen_lst _)) rfl rfl rfl ?_)
    rw [dEq_int, List.length_map, h.kl, decide_eq_false (by have := h.n1; omega)]
  have s2 : setSh 3 nDk ⟨[.s S.length, .t (kindsD ks), .t (rndsD n rs), .un, .un, .un], S ++ [ob]⟩ = .ok .nx ⟨σ .un .un, S ++ [ob, seenD []]⟩ := by
    have e : (S ++ [ob]).length = S.length + 1 := by rw [List.length_append]; rfl
    show MF.R.ok MF.Ctl.nx ⟨[.s S.length, .t (kindsD ks), .t (rndsD n rs), .s (S ++ [ob]).length, .un, .un], (S ++ [ob]) ++ [.dk []]⟩ = _
    rw [e, List.append_assoc]; rfl
  have ndk : ks.Nodup := (List.nodup_append.mp h.nd).1
  obtain ⟨m3, e3, l4, rfl⟩ : ∃ m', sFor (iSeq (eN 1)) (tgN 4) (sExpr (eFn m_name_new (eArgs [(eN 4), (eN 3)]))) ⟨σ .un .un, S ++ [ob, seenD []]⟩ = .ok .nx m' ∧ ∃ l4, m' = ⟨σ l4 .un, S ++ [ob, seenD ks]⟩ := by
    obtain ⟨m', e, q1, q2, l4, h1, h2, rfl⟩ := sFor_ok (tg := tgN 4) (body := sExpr (eFn m_name_new (eArgs [(eN 4), (eN 3)]))) (seq_ev (i := 1) (m := ⟨σ .un .un, S ++ [ob, seenD []]⟩) (items := ks.map .str) rfl rfl)
      (fun ds m => ∃ dn rs' l4, dn ++ rs' = ks ∧ ds = rs'.map D.str ∧ m = ⟨σ l4 .un, S ++ [ob, seenD dn]⟩)
      ⟨[], ks, .un, rfl, rfl, rfl⟩ (by
        rintro d ds m ⟨dn, rs', l4, h1, h2, rfl⟩
        cases rs' with
        | nil => cases h2
        | cons x xs =>
          obtain ⟨rfl, rfl⟩ := List.cons.inj h2
          have hx : x ∈ ks := h1 ▸ List.mem_append_right _ List.mem_cons_self
          have nx := h.nm x (List.mem_append_left _ hx)
          have hn : x ∉ dn := fun hm => by
            rw [← h1] at ndk
            exact (List.nodup_append.mp ndk).2.2 x hm x List.mem_cons_self rfl
          have hl : dn.length ≤ 1000 := by
            have := congrArg List.length h1
            rw [List.length_append] at this
            have := h.kl; have := h.n6; omega
          refine ⟨⟨σ (.t (.str x)) .un, S ++ [ob, seenD (dn ++ [x])]⟩, ?_, dn ++ [x], xs, _, by rw [List.append_assoc]; exact h1, rfl, rfl⟩
          rw [tg_set (by show 4 < 6; decide)]
          show sExpr _ ⟨σ (.t (.str x)) .un, _⟩ = _
          have := name_new_ok nx.1 nx.2 hn hl (two_get S ob (seenD dn))
          rw [two_set] at this
          unfold sExpr
          rw [bind_eq (ev_fn (args2 (f := eN 4) (f2 := eN 3) (m := ⟨σ (.t (.str x)) .un, S ++ [ob, seenD dn]⟩) (ev_t rfl) (ev_s rfl)) (bs := [.t (.str x), .s (S.length + 1)]) rfl this)]
          rfl)
    have h3 : q2 = [] := List.map_eq_nil_iff.mp h2.symm
    subst h3
    rw [List.append_nil] at h1
    subst h1
    exact ⟨_, e, l4, rfl⟩
  have s4 : (sIf (tOr' (tNot' (tV (eFn m_is_list (eArgs [(eN 2)])))) (tV (eOp dEq (eCall (one dLen) (eArgs [(eN 2)])) (eC (.int 0))))) no' sSkip) ⟨σ l4 .un, S ++ [ob, seenD ks]⟩ = .ok .nx ⟨σ l4 .un, S ++ [ob, seenD ks]⟩ := by
    refine (if_f (m1 := ⟨σ l4 .un, S ++ [ob, seenD ks]⟩) ?_).trans rfl
    refine (tor_f (m1 := ⟨σ l4 .un, S ++ [ob, seenD ks]⟩) (tnot_ev (b := true) (tv_ev (ev_fn (args1 (f := eN 2) (ev_t rfl)) (bs := [.t (rndsD n rs)]) rfl (is_list_lst _ _))))).trans ?_
    refine tv_ev (ev_op (f := dEq) (b := eC (.int 0)) (y := .t (.int 0)) (ev_call1 (d := rndsD n rs) (ev_t rfl) rfl (dLen_lst _)) rfl rfl rfl ?_)
    rw [dEq_int, List.length_map, decide_eq_false (by have := h.r1; omega)]
  obtain ⟨m5, e5, l5, rfl⟩ : ∃ m', sFor (iSeq (eN 2)) (tgN 5)
    (sSeq (sIf (tOr' (tNot' (tV (eFn m_is_list (eArgs [(eN 5)])))) (tV (eOp dNe (eCall (one dLen) (eArgs [(eN 5)])) (eC (.int 2)))))
  no'
  sSkip)
  (sSeq (sExpr (eFn m_name_new (eArgs [(eOp dIdx (eN 5) (eC (.int 0))), (eN 3)])))
  (sIf (tOr' (tNot' (tV (eCall (two dIsi) (eArgs [(eOp dIdx (eN 5) (eC (.int 1))), (eC (.kls ("Table" : Str)))])))) (tV (eOp dNe (eUn (getFld ("many" : Str)) (eOp dIdx (eN 5) (eC (.int 1)))) (eCall (one dLen) (eArgs [(eN 1)])))))
  no'
  sSkip))) ⟨σ l4 .un, S ++ [ob, seenD ks]⟩ = .ok .nx m' ∧ ∃ l5, m' = ⟨σ l4 l5, S ++ [ob, seenD (ks ++ rs.map (·.1))]⟩ := by
    obtain ⟨m', e, q1, q2, l5, h1, h2, rfl⟩ := sFor_ok (tg := tgN 5) (body := (sSeq (sIf (tOr' (tNot' (tV (eFn m_is_list (eArgs [(eN 5)])))) (tV (eOp dNe (eCall (one dLen) (eArgs [(eN 5)])) (eC (.int 2)))))
  no'
  sSkip)
  (sSeq (sExpr (eFn m_name_new (eArgs [(eOp dIdx (eN 5) (eC (.int 0))), (eN 3)])))
  (sIf (tOr' (tNot' (tV (eCall (two dIsi) (eArgs [(eOp dIdx (eN 5) (eC (.int 1))), (eC (.kls ("Table" : Str)))])))) (tV (eOp dNe (eUn (getFld ("many" : Str)) (eOp dIdx (eN 5) (eC (.int 1)))) (eCall (one dLen) (eArgs [(eN 1)])))))
  no'
  sSkip)))) (seq_ev (i := 2) (m := ⟨σ l4 .un, S ++ [ob, seenD ks]⟩) (items := rs.map (rndD n)) rfl rfl)
      (fun ds m => ∃ dn rs' l5, dn ++ rs' = rs ∧ ds = rs'.map (rndD n) ∧ m = ⟨σ l4 l5, S ++ [ob, seenD (ks ++ dn.map (·.1))]⟩)
      ⟨[], rs, .un, rfl, rfl, by rw [List.map_nil, List.append_nil]⟩ (by
        rintro d ds m ⟨dn, rs', l5, h1, h2, rfl⟩
        cases rs' with
        | nil => cases h2
        | cons x xs =>
          obtain ⟨rfl, rfl⟩ := List.cons.inj h2
          have hx : x ∈ rs := h1 ▸ List.mem_append_right _ List.mem_cons_self
          have nx := h.nm x.1 (List.mem_append_right _ (List.mem_map_of_mem hx))
          have hn : x.1 ∉ ks ++ dn.map (·.1) := fun hm => by
            have nd := h.nd
            rw [← h1, List.map_append, ← List.append_assoc] at nd
            exact (List.nodup_append.mp nd).2.2 x.1 hm x.1 List.mem_cons_self rfl
          have hl : (ks ++ dn.map (·.1)).length ≤ 1000 := by
            have := congrArg List.length h1
            rw [List.length_append] at this
            rw [List.length_append, List.length_map]
            have := h.kl; have := h.n6; have := h.r6; omega
          let m4 : MF.M := ⟨σ l4 (.t (rndD n x)), S ++ [ob, seenD (ks ++ dn.map (·.1))]⟩
          let m6 : MF.M := ⟨σ l4 (.t (rndD n x)), S ++ [ob, seenD ((ks ++ dn.map (·.1)) ++ [x.1])]⟩
          have t1 : (sIf (tOr' (tNot' (tV (eFn m_is_list (eArgs [(eN 5)])))) (tV (eOp dNe (eCall (one dLen) (eArgs [(eN 5)])) (eC (.int 2))))) no' sSkip) m4 = .ok .nx m4 := by
            refine (if_f (m1 := m4) ?_).trans rfl
            refine (tor_f (m1 := m4) (tnot_ev (b := true) (tv_ev (ev_fn (args1 (f := eN 5) (ev_t rfl)) (bs := [.t (rndD n x)]) rfl (is_list_tup _ _))))).trans ?_
            refine tv_ev (ev_op (f := dNe) (b := eC (.int 2)) (y := .t (.int 2)) (ev_call1 (d := rndD n x) (ev_t rfl) rfl (dLen_tup _)) rfl rfl rfl ?_)
            exact dNe_int 2 2
          have i0 : ∀ S', eOp dIdx (eN 5) (eC (.int 0)) ⟨σ l4 (.t (rndD n x)), S'⟩ = .ok (.t (.str x.1)) ⟨σ l4 (.t (rndD n x)), S'⟩ := fun S' => ev_op (b := eC (.int 0)) (y := .t (.int 0)) (ev_t rfl) rfl rfl rfl rfl
          have i1 : ∀ S', eOp dIdx (eN 5) (eC (.int 1)) ⟨σ l4 (.t (rndD n x)), S'⟩ = .ok (.t (tblO n x.2)) ⟨σ l4 (.t (rndD n x)), S'⟩ := fun S' => ev_op (b := eC (.int 1)) (y := .t (.int 1)) (ev_t rfl) rfl rfl rfl rfl
          have t2 : sExpr (eFn m_name_new (eArgs [(eOp dIdx (eN 5) (eC (.int 0))), (eN 3)])) m4 = .ok .nx m6 := by
            have := name_new_ok nx.1 nx.2 hn hl (two_get S ob (seenD (ks ++ dn.map (·.1))))
            rw [two_set] at this
            unfold sExpr
            rw [bind_eq (ev_fn (args2 (f2 := eN 3) (i0 _) (ev_s rfl)) (bs := [.t (.str x.1), .s (S.length + 1)]) rfl this)]
            rfl
          have hmany : getFld ("many" : Str) (tblO n x.2) = some (.int n) := by kernel_rfl
          have t3 : (sIf (tOr' (tNot' (tV (eCall (two dIsi) (eArgs [(eOp dIdx (eN 5) (eC (.int 1))), (eC (.kls ("Table" : Str)))])))) (tV (eOp dNe (eUn (getFld ("many" : Str)) (eOp dIdx (eN 5) (eC (.int 1)))) (eCall (one dLen) (eArgs [(eN 1)]))))) no' sSkip) m6 = .ok .nx m6 := by
            refine (if_f (m1 := m6) ?_).trans rfl
            refine (tor_f (m1 := m6) (tnot_ev (b := true) (tv_ev (ev_call2 (f := dIsi) (b := eC (.kls ("Table" : Str))) (y := .t (.kls ("Table" : Str))) (i1 _) rfl rfl rfl (by kernel_rfl))))).trans ?_
            refine tv_ev (ev_op (f := dNe) (d := .int n) (e := .int (ks.map D.str).length) (ev_un (i1 _) rfl hmany) (ev_call1 (d := kindsD ks) (ev_t rfl) rfl (dLen_lst _)) rfl rfl ?_)
            rw [dNe_int, List.length_map, h.kl, decide_eq_true rfl]; rfl
          refine ⟨m6, ?_, dn ++ [x], xs, _, by rw [List.append_assoc]; exact h1, rfl, by rw [List.map_append, ← List.append_assoc]; rfl⟩
          rw [tg_set (by show 5 < 6; decide)]
          show sSeq _ _ m4 = _
          rw [seq_nx t1, seq_nx t2]
          exact t3)
    have h3 : q2 = [] := List.map_eq_nil_iff.mp h2.symm
    subst h3
    rw [List.append_nil] at h1
    subst h1
    exact ⟨_, e, l5, rfl⟩
  let se := seenD (ks ++ rs.map (·.1))
  let o1 : D := .obj ("Book" : Str) [(("kinds" : Str), .tup (ks.map .str))]
  let o2 : D := .obj ("Book" : Str) [(("kinds" : Str), .tup (ks.map .str)), (("names" : Str), .tup (rs.map fun r => .str r.1))]
  have p1 : dPutF ("kinds" : Str) ob (.tup (ks.map .str)) = some o1 := by kernel_rfl
  have p2 : dPutF ("names" : Str) o1 (.tup (rs.map fun r => .str r.1)) = some o2 := by kernel_rfl
  have p3 : dPutF ("tables" : Str) o2 (.tup (rs.map fun r => tblO n r.2)) = some (bookO n ks rs) := by kernel_rfl
  have s6 : sFldSet ("kinds" : Str) (eN 0) (eCall (one dTuple) (eArgs [(eN 1)])) ⟨σ l4 l5, S ++ [ob, se]⟩ = .ok .nx ⟨σ l4 l5, S ++ [o1, se]⟩ := by
    rw [fld_stmt (d := .tup (ks.map .str)) (ev_call1 (d := kindsD ks) (ev_t rfl) rfl rfl) (ev_s rfl) (two_get0 _ _ _) p1, two_set0]
  obtain ⟨l5a, k5a⟩ : ∃ l5a, (keepL ((σ l4 l5)[5]?)) = l5a := ⟨_, rfl⟩
  obtain ⟨l5b, k5b⟩ : ∃ l5b, (keepL ((σ l4 l5a)[5]?)) = l5b := ⟨_, rfl⟩
  have lc : ∀ (l : MF.Loc) (S' : List D) (i : Int) (f : D → D) (hf : ∀ r, dIdx (rndD n r) (.int i) = some (f (rndD n r))), nLc [5] (iSeq (eN 2)) (tgN 5) ifsYes (eOp dIdx (eN 5) (eC (.int i))) ⟨σ l4 l, S'⟩ = .ok (.lst ((rs.map (rndD n)).map f)) ⟨σ l4 (keepL ((σ l4 l)[5]?)), S'⟩ := fun l S' i f hf => by
    exact nLc_map (i := 5) (ρ := σ l4 l) (by show 5 < 6; decide) (seq_ev (i := 2) (m := ⟨σ l4 l, S'⟩) (items := rs.map (rndD n)) rfl rfl) (by rw [List.length_map]; have := h.r6; omega) f fun d hd => by
      obtain ⟨r, _, rfl⟩ := List.mem_map.mp hd
      exact ev_op (b := eC (.int i)) (y := .t (.int i)) (ev_t rfl) rfl rfl rfl (hf r)
  have s7 : sFldSet ("names" : Str) (eN 0) (eCall (one dTuple) (eArgs [(fz (nLc [5] (iSeq (eN 2)) (tgN 5) ifsYes (eOp dIdx (eN 5) (eC (.int 0)))))])) ⟨σ l4 l5, S ++ [o1, se]⟩ = .ok .nx ⟨σ l4 l5a, S ++ [o2, se]⟩ := by
    have e := lc l5 (S ++ [o1, se]) 0 (fun d => match d with | .tup (a :: _) => a | d => d) fun r => rfl
    rw [k5a, List.map_map] at e
    rw [fld_stmt (d := .tup (rs.map fun r => .str r.1)) (ev_call1 (ev_fz e) rfl rfl) (ev_s rfl) (two_get0 _ _ _) p2, two_set0]
  have s8 : sFldSet ("tables" : Str) (eN 0) (eCall (one dTuple) (eArgs [(fz (nLc [5] (iSeq (eN 2)) (tgN 5) ifsYes (eOp dIdx (eN 5) (eC (.int 1)))))])) ⟨σ l4 l5a, S ++ [o2, se]⟩ = .ok .nx ⟨σ l4 l5b, S ++ [bookO n ks rs, se]⟩ := by
    have e := lc l5a (S ++ [o2, se]) 1 (fun d => match d with | .tup (_ :: a :: _) => a | d => d) fun r => rfl
    rw [k5b, List.map_map] at e
    rw [fld_stmt (d := .tup (rs.map fun r => tblO n r.2)) (ev_call1 (ev_fz e) rfl rfl) (ev_s rfl) (two_get0 _ _ _) p3, two_set0]
  have hb : b_Book_init ⟨[.s S.length, .t (kindsD ks), .t (rndsD n rs), .un, .un, .un], S ++ [ob]⟩ = .ok .nx ⟨σ l4 l5b, S ++ [bookO n ks rs, se]⟩ := by
    unfold b_Book_init
    rw [seq_nx s1, seq_nx s2, seq_nx e3, seq_nx s4, seq_nx e5, seq_nx s6, seq_nx s7]
    exact s8
  have := mkFn_nx (np := 3) (nl := 3) (as := [.s S.length, .t (kindsD ks), .t (rndsD n rs)]) (S := S ++ [ob]) rfl hb
  simp only [List.length_append, List.length_singleton] at this
  rw [show S ++ [bookO n ks rs, se] = (S ++ [bookO n ks rs]) ++ [se] by rw [List.append_assoc]; rfl, List.take_left' (by rw [List.length_append]; rfl)] at this
  exact this
end Z09
set_option Elab.async false
set_option linter.all false
set_option maxRecDepth 100000
set_option maxHeartbeats 4000000
namespace Z09
open PySem L2 MF
def bkD (n : Nat) (ks rn : List Str) (Ms : List (List (List Int))) : D :=
  .obj ("Book" : Str) [(("kinds" : Str), .tup (ks.map .str)), (("names" : Str), .tup (rn.map .str)), (("tables" : Str), .tup (Ms.map (tblO n)))]
def rsOf (n : Nat) (nms : List Str) (Ms : List (List (List Int))) : List (Str × List (List Int)) := (List.range Ms.length).map fun i => ((nms[n + i]?).getD ⟨#[]⟩, (Ms[i]?).getD [])
theorem rsOf_fst {n : Nat} {nms : List Str} {Ms : List (List (List Int))} (h : nms.length = n + Ms.length) : (rsOf n nms Ms).map (·.1) = nms.drop n := by
  apply List.ext_getElem
  · simp [rsOf, h]
  · intro i h1 h2
    simp only [rsOf, List.length_map, List.length_range, List.length_drop] at h1 h2
    simp only [rsOf, List.getElem_map, List.getElem_range, List.getElem_drop]
    rw [List.getElem?_eq_getElem (by omega)]; rfl
theorem rsOf_snd {n : Nat} {nms : List Str} {Ms : List (List (List Int))} : (rsOf n nms Ms).map (·.2) = Ms := by
  apply List.ext_getElem
  · simp [rsOf]
  · intro i h1 h2
    simp only [rsOf, List.getElem_map, List.getElem_range]
    rw [List.getElem?_eq_getElem h2]; rfl
theorem law_book_ok {n : Nat} {nms : List Str} {Ms : List (List (List Int))} (h1 : 1 ≤ n) (hn : n ≤ 400) (h2 : 1 ≤ Ms.length) (hc : Ms.length ≤ 400) (hl : nms.length = n + Ms.length) (nd : nms.Nodup) (hk : ∀ x ∈ nms, Nm x ∧ keptB x = false) (hM : ∀ M ∈ Ms, Tbl n M) (S : List D) :
    m__law_book [.s 0, .t (.lst (Ms.map tabD)), .t (.lst (nms.map .str))] S = some (.t (bkD n (nms.take n) (nms.drop n) Ms), S) := by
  have bk : Bk n (nms.take n) (rsOf n nms Ms) := by
    refine ⟨by rw [List.length_take]; omega, h1, hn, by rw [rsOf, List.length_map, List.length_range]; omega, by rw [rsOf, List.length_map, List.length_range]; omega, ?_, ?_, ?_⟩
    · rw [rsOf_fst hl, List.take_append_drop]; exact nd
    · rw [rsOf_fst hl, List.take_append_drop]; exact hk
    · intro r hr
      have := List.mem_map_of_mem (f := (·.2)) hr
      rw [rsOf_snd] at this
      exact hM _ this
  have e1 : bookO n (nms.take n) (rsOf n nms Ms) = bkD n (nms.take n) (nms.drop n) Ms := by
    have a : (rsOf n nms Ms).map (fun r => D.str r.1) = (nms.drop n).map .str := by rw [← rsOf_fst hl, List.map_map]; rfl
    have b : (rsOf n nms Ms).map (fun r => tblO n r.2) = Ms.map (tblO n) := by rw [← rsOf_snd (n := n) (nms := nms) (Ms := Ms), List.map_map, rsOf_snd]; rfl
    unfold bookO bkD
    rw [a, b]
  let σ : MF.Loc → MF.Loc → List MF.Loc := fun l3 l4 => [.s 0, .t (.lst (Ms.map tabD)), .t (.lst (nms.map .str)), l3, l4]
  obtain ⟨M0, hM0⟩ : ∃ M0, Ms[0]? = some M0 := ⟨Ms[0]'(by omega), List.getElem?_eq_getElem _⟩
  have t0 := hM M0 (List.mem_of_getElem? hM0)
  have s1 : sAsg (eCall (one dLen) (eArgs [(eOp dIdx (eN 1) (eC (.int 0)))])) (tgN 3) ⟨σ .un .un, S⟩ = .ok .nx ⟨σ (.t (.int n)) .un, S⟩ := by
    refine asg_n (ev_call1 (d := tabD M0) (ev_op (f := dIdx) (b := eC (.int 0)) (y := .t (.int 0)) (ev_t rfl) rfl rfl rfl ?_) rfl (by show some (D.int ((M0.map rowD).length : Nat)) = _; rw [List.length_map, t0.len])) (by show 3 < 5; decide)
    exact idx_nat (k := 0) (by rw [List.getElem?_map, hM0]; rfl)
  have a1 : eCut (eN 2) none (some (eN 3)) ⟨σ (.t (.int n)) .un, S⟩ = .ok (.t (kindsD (nms.take n))) ⟨σ (.t (.int n)) .un, S⟩ := by
    rw [cut_take_lst (xs := nms.map .str) (ev_t rfl) (ev_t rfl) (by rw [List.length_map]; omega), ← List.map_take]; rfl
  have a2 : nLc [4] (iRange1 (eArgs [(eCall (one dLen) (eArgs [(eN 1)]))])) (tgN 4) ifsYes (eTup (eArgs [(eOp dIdx (eN 2) (eOp dAdd (eN 3) (eN 4))), (eMake ("Table" : Str) m_Table_init (eArgs [(eOp dIdx (eN 1) (eN 4))]))])) ⟨σ (.t (.int n)) .un, S⟩ = .ok (rndsD n (rsOf n nms Ms)) ⟨σ (.t (.int n)) .un, S⟩ := by
    have hr : iRange1 (eArgs [(eCall (one dLen) (eArgs [(eN 1)]))]) ⟨σ (.t (.int n)) .un, S⟩ = .ok (rangeD 0 Ms.length) ⟨σ (.t (.int n)) .un, S⟩ := by
      refine range_ev (ev_call1 (d := .lst (Ms.map tabD)) (ev_t rfl) rfl ?_) (by omega)
      rw [dLen_lst, List.length_map]
    have := nLc_map (i := 4) (ρ := σ (.t (.int n)) .un) (by show 4 < 5; decide) hr (by rw [rangeD_len]; omega) (fun d => match d with | .int i => rndD n ((nms[n + i.toNat]?).getD ⟨#[]⟩, (Ms[i.toNat]?).getD []) | d => d) (elt := eTup (eArgs [(eOp dIdx (eN 2) (eOp dAdd (eN 3) (eN 4))), (eMake ("Table" : Str) m_Table_init (eArgs [(eOp dIdx (eN 1) (eN 4))]))])) fun d hd => by
      obtain ⟨k, hk, rfl⟩ := rangeD_mem hd
      have hMk : Ms[k]? = some Ms[k] := List.getElem?_eq_getElem hk
      have hnk : nms[n + k]? = some (nms[n + k]'(by omega)) := List.getElem?_eq_getElem _
      have i1 : eOp dIdx (eN 2) (eOp dAdd (eN 3) (eN 4)) ⟨σ (.t (.int n)) (.t (.int (k : Int))), S⟩ = .ok (.t (.str (nms[n + k]'(by omega)))) ⟨σ (.t (.int n)) (.t (.int (k : Int))), S⟩ := by
        refine ev_op (f := dIdx) (ev_t rfl) (ev_op (f := dAdd) (z := .int ((n + k : Nat) : Int)) (ev_t rfl) (ev_t rfl) rfl rfl rfl) rfl rfl (idx_nat ?_)
        rw [List.getElem?_map, hnk]; rfl
      have i2 : eOp dIdx (eN 1) (eN 4) ⟨σ (.t (.int n)) (.t (.int (k : Int))), S⟩ = .ok (.t (tabD Ms[k])) ⟨σ (.t (.int n)) (.t (.int (k : Int))), S⟩ := by
        refine ev_op (f := dIdx) (ev_t rfl) (ev_t rfl) rfl rfl (idx_nat ?_)
        rw [List.getElem?_map, hMk]; rfl
      have i3 := table_make (hM _ (List.getElem_mem hk)) h1 (by omega) i2
      show eTup _ ⟨σ (.t (.int n)) (.t (.int (k : Int))), S⟩ = _
      rw [ev_tup2 i1 i3]
      simp only [Int.toNat_natCast, hMk, hnk, Option.getD_some]
      rfl
    rw [this]
    have e : (rangeD 0 Ms.length).map (fun d => match d with | .int i => rndD n ((nms[n + i.toNat]?).getD ⟨#[]⟩, (Ms[i.toNat]?).getD []) | d => d) = (rsOf n nms Ms).map (rndD n) := by
      unfold rangeD rsOf
      rw [List.map_map, List.map_map]
      refine List.map_congr_left fun i _ => ?_
      simp only [Function.comp_apply, Int.zero_add, Int.toNat_natCast]
    rw [e]; rfl
  have hb : b__law_book ⟨σ .un .un, S⟩ = .ok (.rt (.t (bkD n (nms.take n) (nms.drop n) Ms))) ⟨σ (.t (.int n)) .un, S⟩ := by
    unfold b__law_book
    rw [seq_nx s1]
    refine ev_ret (make_ev (m1 := ⟨σ (.t (.int n)) .un, S⟩) (args2 a1 (ev_fz a2)) (bs := [.t (kindsD (nms.take n)), .t (rndsD n (rsOf n nms Ms))]) rfl ?_)
    rw [← e1]
    exact book_init bk S
  exact mk_rt (np := 3) (nl := 2) (as := [.s 0, .t (.lst (Ms.map tabD)), .t (.lst (nms.map .str))]) rfl hb
end Z09
set_option Elab.async false
set_option linter.all false
set_option maxRecDepth 100000
set_option maxHeartbeats 4000000
namespace Z09
open PySem L2 MF
/-! # supports -/
def rwOf (M : List (List Int)) (i : Nat) : List Int := (M[i]?).getD []
def ent (M : List (List Int)) (i j : Nat) : Int := ((rwOf M i)[j]?).getD 0
theorem book_kinds (n : Nat) (ks rn : List Str) (Ms : List (List (List Int))) : getFld ("kinds" : Str) (bkD n ks rn Ms) = some (.tup (ks.map .str)) := by kernel_rfl
theorem book_names (n : Nat) (ks rn : List Str) (Ms : List (List (List Int))) : getFld ("names" : Str) (bkD n ks rn Ms) = some (.tup (rn.map .str)) := by kernel_rfl
theorem book_tables (n : Nat) (ks rn : List Str) (Ms : List (List (List Int))) : getFld ("tables" : Str) (bkD n ks rn Ms) = some (.tup (Ms.map (tblO n))) := by kernel_rfl
theorem tbl_rows (n : Nat) (M : List (List Int)) : getFld ("rows" : Str) (tblO n M) = some (tabD M) := by kernel_rfl
theorem tab_idx {n : Nat} {M : List (List Int)} (h : Tbl n M) {i : Nat} (hi : i < n) : dIdx (tabD M) (.int (i : Int)) = some (rowD (rwOf M i)) := by
  have hi' : i < M.length := by rw [h.len]; exact hi
  refine idx_tup ?_
  unfold rwOf
  rw [List.getElem?_map, List.getElem?_eq_getElem hi']; rfl
theorem rw_mem {n : Nat} {M : List (List Int)} (h : Tbl n M) {i : Nat} (hi : i < n) : rwOf M i ∈ M := by
  have hi' : i < M.length := by rw [h.len]; exact hi
  unfold rwOf
  rw [List.getElem?_eq_getElem hi']
  exact List.getElem_mem hi'
theorem row_idx {n : Nat} {M : List (List Int)} (h : Tbl n M) {i j : Nat} (hi : i < n) (hj : j < n) : dIdx (rowD (rwOf M i)) (.int (j : Int)) = some (.int (ent M i j)) := by
  have hj' : j < (rwOf M i).length := by rw [(h.row _ (rw_mem h hi)).1]; exact hj
  refine idx_tup ?_
  unfold ent
  rw [List.getElem?_map, List.getElem?_eq_getElem hj']; rfl
def natsD (l : List Nat) : List D := l.map fun (i : Nat) => D.int (i : Int)
theorem range_nats (n : Nat) : rangeD 0 n = natsD (List.range n) := by unfold rangeD natsD; exact List.map_congr_left fun i _ => by rw [Int.zero_add]
def posOf (n : Nat) (M : List (List Int)) (i : Nat) : List Nat := (List.range n).filter fun j => decide (0 < ent M i j)
def supR (n : Nat) (M : List (List Int)) : D := .lst ((List.range n).map fun i => .lst (natsD (posOf n M i)))
def supD (n : Nat) (Ms : List (List (List Int))) : D := .lst (Ms.map (supR n))
theorem lcLoop_filter {i : Nat} {c : E Bool} {ρ : List MF.Loc} {S : List D} (hi : i < ρ.length) (p : D → Bool) : ∀ (items : List D) (l : MF.Loc), (∀ d ∈ items, c ⟨ρ.set i (.t d), S⟩ = .ok (p d) ⟨ρ.set i (.t d), S⟩) →
    ∃ l', lcLoop [i] (tgN i) c (eN i) items ⟨ρ.set i l, S⟩ = .ok (items.filter p) ⟨ρ.set i l', S⟩
  | [], l, _ => ⟨l, rfl⟩
  | d :: ds, l, h => by
    have e1 := h d List.mem_cons_self
    obtain ⟨l2, e2⟩ := lcLoop_filter hi p ds (.t d) fun x hx => h x (List.mem_cons_of_mem _ hx)
    refine ⟨l2, ?_⟩
    have hw : wipeL [i] (ρ.set i l) = ρ.set i .un := by show (ρ.set i l).set i .un = _; rw [List.set_set]
    have ht : lcTurn (tgN i) c (eN i) d ⟨ρ.set i .un, S⟩ = .ok (if p d then some d else none) ⟨ρ.set i (.t d), S⟩ := by
      unfold lcTurn
      rw [bind_eq (a := ()) (m1 := ⟨ρ.set i (.t d), S⟩) (by unfold tgN; rw [if_pos (by rw [List.length_set]; exact hi)]; show MF.R.ok () _ = _; rw [List.set_set]; rfl)]
      rw [bind_eq e1]
      cases p d with
      | true =>
        rw [if_pos rfl, if_pos rfl, bind_eq (ev_t (d := d) (by rw [List.getElem?_set_self hi]))]
        rfl
      | false => rfl
    show (lcTurn (tgN i) c (eN i) d).bind _ ⟨wipeL [i] (ρ.set i l), S⟩ = _
    rw [hw, bind_eq ht, bind_eq e2, List.filter_cons]
    cases p d <;> rfl
theorem nLc_filter {i : Nat} {src : E (List D)} {c : E Bool} {ρ : List MF.Loc} {S : List D} {items : List D} (hi : i < ρ.length) (hk : ρ.set i (keepL ρ[i]?) = ρ) (hs : src ⟨ρ, S⟩ = .ok items ⟨ρ, S⟩) (hz : items.length ≤ 16000000) (p : D → Bool) (h : ∀ d ∈ items, c ⟨ρ.set i (.t d), S⟩ = .ok (p d) ⟨ρ.set i (.t d), S⟩) :
    nLc [i] src (tgN i) c (eN i) ⟨ρ, S⟩ = .ok (.lst (items.filter p)) ⟨ρ, S⟩ := by
  obtain ⟨l', e⟩ := lcLoop_filter hi p items (ρ[i]'hi) h
  rw [List.set_getElem_self] at e
  unfold nLc
  rw [bind_eq hs]
  simp only [e, if_pos (show sizeOk items.length = true from decide_eq_true hz)]
  show MF.R.ok _ ⟨(ρ.set i l').set i (keepL ρ[i]?), S⟩ = _
  rw [List.set_set, hk]
theorem natsD_len (l : List Nat) : (natsD l).length = l.length := List.length_map _
theorem natsD_mem {l : List Nat} {d : D} (h : d ∈ natsD l) : ∃ k, k ∈ l ∧ d = .int (k : Int) := by
  obtain ⟨k, hk, rfl⟩ := List.mem_map.mp h
  exact ⟨k, hk, rfl⟩
def natOf : D → Nat
  | .int i => i.toNat
  | _ => 0
theorem natsD_filter (l : List Nat) (p : Nat → Bool) : (natsD l).filter (fun d => p (natOf d)) = natsD (l.filter p) := by
  unfold natsD
  rw [List.filter_map]
  congr 1
theorem natsD_map (l : List Nat) (f : Nat → D) : (natsD l).map (fun d => f (natOf d)) = l.map f := by
  unfold natsD
  rw [List.map_map]
  exact List.map_congr_left fun i _ => rfl
structure BkOk (n : Nat) (ks rn : List Str) (Ms : List (List (List Int))) : Prop where
  n1 : 1 ≤ n
  n6 : n ≤ 6
  kl : ks.length = n
  rl : rn.length = Ms.length
  c1 : 1 ≤ Ms.length
  c4 : Ms.length ≤ 4
  tb : ∀ M ∈ Ms, Tbl n M
theorem supports_ok {n : Nat} {ks rn : List Str} {Ms : List (List (List Int))} (b : BkOk n ks rn Ms) (S : List D) : m_supports_of [.t (bkD n ks rn Ms)] S = some (.t (supD n Ms), S) := by
  let σ : MF.Loc → MF.Loc → MF.Loc → MF.Loc → List MF.Loc := fun l1 l2 l3 l4 => [.t (bkD n ks rn Ms), l1, l2, l3, l4]
  let N : MF.Loc := .t (.int n)
  have s1 : sAsg (eCall (one dLen) (eArgs [(eUn (getFld ("kinds" : Str)) (eN 0))])) (tgN 1) ⟨σ .un .un .un .un, S⟩ = .ok .nx ⟨σ N .un .un .un, S⟩ := by
    refine asg_n (ev_call1 (ev_un (ev_t rfl) rfl (book_kinds n ks rn Ms)) rfl ?_) (by show 1 < 5; decide)
    rw [dLen_tup, List.length_map, b.kl]
  have inner2 : ∀ M ∈ Ms, ∀ i, i < n → nLc [2] (iRange1 (eArgs [(eN 1)])) (tgN 2) (tV (eOp dGt (eOp dIdx (eOp dIdx (eUn (getFld ("rows" : Str)) (eN 4)) (eN 3)) (eN 2)) (eC (.int 0)))) (eN 2) ⟨σ N .un (.t (.int (i : Int))) (.t (tblO n M)), S⟩ = .ok (.lst (natsD (posOf n M i))) ⟨σ N .un (.t (.int (i : Int))) (.t (tblO n M)), S⟩ := fun M hM i hi => by
    have := nLc_filter (i := 2) (ρ := σ N .un (.t (.int (i : Int))) (.t (tblO n M))) (by show 2 < 5; decide) rfl (range_ev (f := eN 1) (n := n) (m := ⟨σ N .un (.t (.int (i : Int))) (.t (tblO n M)), S⟩) (ev_t rfl) (by have := b.n6; omega)) (by rw [rangeD_len]; have := b.n6; omega) (fun d => decide (0 < ent M i (natOf d))) (c := (tV (eOp dGt (eOp dIdx (eOp dIdx (eUn (getFld ("rows" : Str)) (eN 4)) (eN 3)) (eN 2)) (eC (.int 0))))) fun d hd => by
      obtain ⟨j, hj, rfl⟩ := rangeD_mem hd
      have t := b.tb M hM
      refine tv_ev (ev_op (f := dGt) (b := eC (.int 0)) (y := .t (.int 0)) (ev_op (f := dIdx) (ev_op (f := dIdx) (ev_un (ev_t rfl) rfl (tbl_rows n M)) (ev_t rfl) rfl rfl (tab_idx t hi)) (ev_t rfl) rfl rfl (row_idx t hi hj)) rfl rfl rfl ?_)
      rw [dGt_int]; rfl
    rw [this, range_nats, natsD_filter (List.range n) (fun j => decide (0 < ent M i j))]
    rfl
  have inner3 : ∀ M ∈ Ms, nLc [3] (iRange1 (eArgs [(eN 1)])) (tgN 3) ifsYes (fz (nLc [2] (iRange1 (eArgs [(eN 1)])) (tgN 2) (tV (eOp dGt (eOp dIdx (eOp dIdx (eUn (getFld ("rows" : Str)) (eN 4)) (eN 3)) (eN 2)) (eC (.int 0)))) (eN 2))) ⟨σ N .un .un (.t (tblO n M)), S⟩ = .ok (supR n M) ⟨σ N .un .un (.t (tblO n M)), S⟩ := fun M hM => by
    have := nLc_map (i := 3) (ρ := σ N .un .un (.t (tblO n M))) (by show 3 < 5; decide) (range_ev (f := eN 1) (n := n) (m := ⟨σ N .un .un (.t (tblO n M)), S⟩) (ev_t rfl) (by have := b.n6; omega)) (by rw [rangeD_len]; have := b.n6; omega) (fun d => .lst (natsD (posOf n M (natOf d)))) (elt := (fz (nLc [2] (iRange1 (eArgs [(eN 1)])) (tgN 2) (tV (eOp dGt (eOp dIdx (eOp dIdx (eUn (getFld ("rows" : Str)) (eN 4)) (eN 3)) (eN 2)) (eC (.int 0)))) (eN 2)))) fun d hd => by
      obtain ⟨i, hi, rfl⟩ := rangeD_mem hd
      exact ev_fz (inner2 M hM i hi)
    rw [this, range_nats, natsD_map (List.range n) (fun i => .lst (natsD (posOf n M i)))]
    rfl
  have hb : b_supports_of ⟨σ .un .un .un .un, S⟩ = .ok (.rt (.t (supD n Ms))) ⟨σ N .un .un .un, S⟩ := by
    unfold b_supports_of
    rw [seq_nx s1]
    refine ev_ret (ev_fz ?_)
    have hs : iSeq (eUn (getFld ("tables" : Str)) (eN 0)) ⟨σ N .un .un .un, S⟩ = .ok (Ms.map (tblO n)) ⟨σ N .un .un .un, S⟩ := by
      unfold iSeq
      rw [bind_eq (ev_un (ev_t rfl) rfl (book_tables n ks rn Ms)), bind_eq (f := asD (.t (.tup (Ms.map (tblO n))))) (a := .tup (Ms.map (tblO n))) (m1 := ⟨σ N .un .un .un, S⟩) rfl]
      exact opt_eq rfl
    obtain ⟨ys, S', e, h1, h2⟩ := nLc_rel (i := 4) (ρ := σ N .un .un .un) (by show 4 < 5; decide) hs (by rw [List.length_map]; have := b.c4; omega) (fun ds S' => S' = S ∧ ∃ r, (∀ M ∈ r, M ∈ Ms) ∧ ds = r.map (tblO n)) (fun d y => ∀ M, d = tblO n M → y = supR n M) (elt := (fz (nLc [3] (iRange1 (eArgs [(eN 1)])) (tgN 3) ifsYes (fz (nLc [2] (iRange1 (eArgs [(eN 1)])) (tgN 2) (tV (eOp dGt (eOp dIdx (eOp dIdx (eUn (getFld ("rows" : Str)) (eN 4)) (eN 3)) (eN 2)) (eC (.int 0)))) (eN 2)))))) ⟨rfl, Ms, fun M h => h, rfl⟩ (by
        rintro d ds S' ⟨rfl, r, hr, e⟩
        cases r with
        | nil => cases e
        | cons M r =>
          obtain ⟨rfl, rfl⟩ := List.cons.inj e
          refine ⟨supR n M, S', ev_fz (inner3 M (hr M List.mem_cons_self)), ⟨rfl, r, fun x hx => hr x (List.mem_cons_of_mem _ hx), rfl⟩, fun M' e' => ?_⟩
          have : M = M' := by
            have e2 : tabD M = tabD M' := by
              have := congrArg (getFld ("rows" : Str)) e'
              rw [tbl_rows, tbl_rows] at this
              exact Option.some.inj this
            unfold tabD at e2
            have e3 := (MF.D.tup.inj e2)
            refine (List.map_inj_right (f := rowD) fun a b hab => ?_).mp e3
            unfold rowD at hab
            exact (List.map_inj_right (f := MF.D.int) fun x y q => MF.D.int.inj q).mp (MF.D.tup.inj hab)
          rw [this])
    obtain ⟨rfl, _⟩ := h1
    have h3 : ∀ {l : List (List (List Int))} {ys : List D}, All2 (fun d y => ∀ M, d = tblO n M → y = supR n M) (l.map (tblO n)) ys → ys = l.map (supR n) := by
      intro l
      induction l with
      | nil => intro ys a; cases a; rfl
      | cons M l ih => intro ys a; cases a with | cons q t => rw [q M rfl, ih t]; rfl
    rw [e, h3 h2]
    rfl
  exact mk_rt (np := 1) (nl := 4) (as := [.t (bkD n ks rn Ms)]) rfl hb
end Z09
set_option Elab.async false
set_option linter.all false
set_option maxRecDepth 100000
set_option maxHeartbeats 4000000
namespace Z09
open PySem L2 MF
/-! # loops that gather -/
theorem acc_forL {α : Type} {tg : MF.Arg → E Unit} {body : E Ctl} {tD : α → D} (C : List (List Int) → MF.M → Prop) (g : α → List (List Int)) : ∀ (items : List α) (pre : List (List Int)) (m : MF.M), C pre m → (pre ++ items.flatMap g).length ≤ 16000000 →
    (∀ a ∈ items, ∀ acc m, C acc m → (acc ++ g a).length ≤ 16000000 → ∃ m', ((tg (.t (tD a))).bind fun _ => body) m = .ok .nx m' ∧ C (acc ++ g a) m') → ∃ m', forLoop tg body (items.map tD) m = .ok .nx m' ∧ C (pre ++ items.flatMap g) m'
  | [], pre, m, h, _, _ => ⟨m, rfl, by rw [List.flatMap_nil, List.append_nil]; exact h⟩
  | a :: as, pre, m, h, hb, step => by
    rw [List.flatMap_cons, ← List.append_assoc] at hb
    obtain ⟨m1, e1, c1⟩ := step a List.mem_cons_self pre m h (by rw [List.length_append] at hb; omega)
    obtain ⟨m2, e2, c2⟩ := acc_forL C g as (pre ++ g a) m1 c1 hb fun x hx => step x (List.mem_cons_of_mem _ hx)
    refine ⟨m2, ?_, by rw [List.flatMap_cons, ← List.append_assoc]; exact c2⟩
    show E.bind (tg (.t (tD a))) _ m = _
    unfold E.bind at e1 ⊢
    cases et : tg (.t (tD a)) m with
    | no => rw [et] at e1; cases e1
    | ok u m3 =>
      rw [et] at e1
      simp only at e1 ⊢
      rw [e1]
      exact e2
theorem acc_for {α : Type} {src : E (List D)} {tg : MF.Arg → E Unit} {body : E Ctl} {tD : α → D} {items : List α} {m m1 : MF.M} (hs : src m = .ok (items.map tD) m1) (C : List (List Int) → MF.M → Prop) (g : α → List (List Int)) {pre : List (List Int)} (h0 : C pre m1) (hb : (pre ++ items.flatMap g).length ≤ 16000000)
    (step : ∀ a ∈ items, ∀ acc m, C acc m → (acc ++ g a).length ≤ 16000000 → ∃ m', ((tg (.t (tD a))).bind fun _ => body) m = .ok .nx m' ∧ C (acc ++ g a) m') : ∃ m', sFor src tg body m = .ok .nx m' ∧ C (pre ++ items.flatMap g) m' := by
  unfold sFor
  rw [bind_eq hs]
  exact acc_forL C g items pre m1 h0 hb step
theorem flat_len {α β : Type} (B : Nat) (f : α → List β) : ∀ (l : List α), (∀ a ∈ l, (f a).length ≤ B) → (l.flatMap f).length ≤ l.length * B
  | [], _ => by simp
  | a :: l, h => by
    rw [List.flatMap_cons, List.length_append, List.length_cons, Nat.succ_mul]
    have h1 := h a List.mem_cons_self
    have h2 := flat_len B f l fun x hx => h x (List.mem_cons_of_mem _ hx)
    omega
theorem flat_congr {α β : Type} {f g : α → List β} : ∀ {l : List α}, (∀ a ∈ l, f a = g a) → l.flatMap f = l.flatMap g
  | [], _ => rfl
  | a :: l, h => by rw [List.flatMap_cons, List.flatMap_cons, h a List.mem_cons_self, flat_congr fun x hx => h x (List.mem_cons_of_mem _ hx)]
theorem flat_filter {α β : Type} {f : α → List β} {p : α → Bool} : ∀ {l : List α}, (∀ a ∈ l, p a = false → f a = []) → (l.filter p).flatMap f = l.flatMap f
  | [], _ => rfl
  | a :: l, h => by
    have ih := flat_filter (f := f) (p := p) (l := l) fun x hx => h x (List.mem_cons_of_mem _ hx)
    rw [List.filter_cons, List.flatMap_cons]
    cases e : p a with
    | true => rw [if_pos rfl, List.flatMap_cons, ih]
    | false => rw [if_neg Bool.false_ne_true, ih, h a List.mem_cons_self e, List.nil_append]
theorem flat_nil {α β : Type} {f : α → List β} : ∀ {l : List α}, (∀ a ∈ l, f a = []) → l.flatMap f = []
  | [], _ => rfl
  | a :: l, h => by rw [List.flatMap_cons, h a List.mem_cons_self, flat_nil fun x hx => h x (List.mem_cons_of_mem _ hx)]; rfl
/-! # ascending -/
open PySem.W in
def asc (u v : List Int) : Prop := listLt v u = false
open PySem.W in
theorem listLt_pre : ∀ (p u v : List Int), listLt (p ++ u) (p ++ v) = listLt u v
  | [], _, _ => rfl
  | x :: p, u, v => by
    show (if x = x then listLt (p ++ u) (p ++ v) else _) = _
    rw [if_pos rfl, listLt_pre p u v]
open PySem.W in
theorem asc_hd (p u v : List Int) {a b : Nat} (h : a < b) : asc (p ++ (a : Int) :: u) (p ++ (b : Int) :: v) := by
  show listLt (p ++ (b : Int) :: v) (p ++ (a : Int) :: u) = false
  rw [listLt_pre]
  show (if (b : Int) = (a : Int) then listLt v u else decide ((b : Int) < (a : Int))) = false
  rw [if_neg (by omega), decide_eq_false (by omega)]
theorem asc_flat {l : List Nat} (hl : l.Pairwise (· < ·)) (p : List Int) (f : Nat → List (List Int)) (h1 : ∀ a ∈ l, (f a).Pairwise asc) (h2 : ∀ a ∈ l, ∀ u ∈ f a, ∃ t, u = p ++ (a : Int) :: t) : (l.flatMap f).Pairwise asc := by
  rw [List.pairwise_flatMap]
  refine ⟨h1, ?_⟩
  refine List.Pairwise.imp_of_mem (R := (· < ·)) (fun {a b} ha hb hab => ?_) hl
  intro u hu v hv
  obtain ⟨t, rfl⟩ := h2 a ha u hu
  obtain ⟨t', rfl⟩ := h2 b hb v hv
  exact asc_hd p t t' hab
theorem flat_pre {l : List Nat} {p : List Int} {f : Nat → List (List Int)} (h2 : ∀ a ∈ l, ∀ u ∈ f a, ∃ t, u = p ++ (a : Int) :: t) {u : List Int} (hu : u ∈ l.flatMap f) : ∃ t, u = p ++ t := by
  obtain ⟨a, ha, hu⟩ := List.mem_flatMap.mp hu
  obtain ⟨t, rfl⟩ := h2 a ha u hu
  exact ⟨_, rfl⟩
theorem toPys_ints (r : List Int) : toPys (r.map .int) = r.map PyData.int := by rw [toPys_map, List.map_map]; rfl
theorem toPy_row (r : List Int) : toPy (rowD r) = .tuple (r.map PyData.int) := by
  show PyData.tuple (toPys (r.map .int)) = _
  rw [toPys_ints]
open PySem.W in
theorem lt_row (u v : List Int) : dataLt (toPy (rowD u)) (toPy (rowD v)) = listLt u v := by
  rw [toPy_row, toPy_row]
  exact lexAll_map u v
open PySem.W in
theorem alike_row (u v : List Int) : alike (toPy (rowD u)) (toPy (rowD v)) = true := by
  rw [toPy_row, toPy_row]
  show alike (.tuple _) (.tuple _) = true
  rw [alike]
  exact alikeAll_map u v
theorem canLayInts (r : List Int) : PyData.canLayAll0 (r.map PyData.int) = true := by
  induction r with
  | nil => rfl
  | cons x r ih => show (PyData.canLay0 (.int x) && PyData.canLayAll0 (r.map PyData.int)) = true; rw [ih]; rfl
theorem depthInts (r : List Int) : PyData.depthAll (r.map PyData.int) ≤ 1 := by
  induction r with
  | nil => exact Nat.zero_le _
  | cons x r ih => 
    show max (PyData.depth (.int x)) (PyData.depthAll (r.map PyData.int)) ≤ 1
    have : PyData.depth (.int x) ≤ 1 := by first | exact Nat.zero_le _ | exact Nat.le_refl _
    omega
theorem canLay_row (r : List Int) : PyData.canLay0 (toPy (rowD r)) = true := by rw [toPy_row]; exact canLayInts r
theorem depth_row (r : List Int) : PyData.depth (toPy (rowD r)) ≤ 2 := by
  rw [toPy_row]
  show PyData.depthAll (r.map PyData.int) + 1 ≤ 2
  have := depthInts r
  omega
theorem plain_row (r : List Int) : MF.plain (rowD r) = true := by
  unfold MF.plain SeqAt.shaped
  rw [canLay_row, decide_eq_true (by have := depth_row r; omega)]; rfl
theorem canLayRows (rs : List (List Int)) : PyData.canLayAll0 (toPys (rs.map rowD)) = true := by
  induction rs with
  | nil => rfl
  | cons x r ih => show (PyData.canLay0 (toPy (rowD x)) && PyData.canLayAll0 (toPys (r.map rowD))) = true; rw [ih, canLay_row]; rfl
theorem depthRows (rs : List (List Int)) : PyData.depthAll (toPys (rs.map rowD)) ≤ 2 := by
  induction rs with
  | nil => exact Nat.zero_le _
  | cons x r ih =>
    show max (PyData.depth (toPy (rowD x))) (PyData.depthAll (toPys (r.map rowD))) ≤ 2
    have := depth_row x
    omega
theorem plain_rows (rs : List (List Int)) : MF.plain (.tup (rs.map rowD)) = true := by
  unfold MF.plain SeqAt.shaped
  show (PyData.canLayAll0 (toPys (rs.map rowD)) && decide (PyData.depthAll (toPys (rs.map rowD)) + 1 ≤ 64)) = true
  rw [canLayRows, decide_eq_true (by have := depthRows rs; omega)]; rfl
theorem dNe_self {d : D} (h : MF.plain d = true) : dNe d d = some (.bl false) := by
  have hq : deq d d = true := SeqAt.eqv_refl _ (SeqAt.canLay_of_shaped h)
  have hb : dEqB d d = some true := by
    unfold dEqB
    split
    · rw [decide_eq_true rfl]
    · rw [h, hq]; rfl
  unfold dNe
  rw [hb]; rfl
theorem sorted_rows {rs : List (List Int)} (h : rs.Pairwise asc) (hn : ∀ r ∈ rs, r ≠ []) : dSorted (.lst (rs.map rowD)) = some (.lst (rs.map rowD)) := by
  have hs : sortD (rs.map rowD) = rs.map rowD := by
    refine List.mergeSort_of_pairwise ?_
    rw [List.pairwise_map]
    refine h.imp fun {u v} a => ?_
    show (!PySem.W.dataLt (toPy (rowD v)) (toPy (rowD u))) = true
    rw [lt_row, show PySem.W.listLt v u = false from a]; rfl
  have ho : sortOk (rs.map rowD) = true := by
    unfold sortOk alikeB
    rw [Bool.and_eq_true, Bool.and_eq_true, Bool.or_eq_true]
    refine ⟨List.all_eq_true.mpr fun d hd => List.all_eq_true.mpr fun e he => ?_, List.all_eq_true.mpr fun d hd => ?_, .inl (List.all_eq_true.mpr fun d hd => ?_)⟩
    · obtain ⟨u, _, rfl⟩ := List.mem_map.mp hd
      obtain ⟨v, _, rfl⟩ := List.mem_map.mp he
      exact alike_row u v
    · obtain ⟨u, _, rfl⟩ := List.mem_map.mp hd
      exact plain_row u
    · obtain ⟨u, hu, rfl⟩ := List.mem_map.mp hd
      rw [toPy_row]
      cases u with
      | nil => exact absurd rfl (hn _ hu)
      | cons x u => rfl
  unfold dSorted
  rw [show lstD (.lst (rs.map rowD)) = some (rs.map rowD) from rfl]
  show (if sortOk (rs.map rowD) then some (D.lst (sortD (rs.map rowD))) else none) = _
  rw [if_pos ho, hs]
end Z09
set_option Elab.async false
set_option linter.all false
set_option maxRecDepth 100000
set_option maxHeartbeats 4000000
namespace Z09
open PySem L2 MF
/-! # splits -/
theorem book_len {n : Nat} {ks rn : List Str} {Ms : List (List (List Int))} (b : BkOk n ks rn Ms) (S : List D) : m_Book_len [.t (bkD n ks rn Ms)] S = some (.t (.int Ms.length), S) := by
  refine mk_rt (np := 1) (nl := 0) (as := [.t (bkD n ks rn Ms)]) (ρ := [.t (bkD n ks rn Ms)]) rfl ?_
  show b_Book_len ⟨[.t (bkD n ks rn Ms)], S⟩ = _
  unfold b_Book_len
  refine ev_ret (ev_call1 (ev_un (ev_t rfl) rfl (book_names n ks rn Ms)) rfl ?_)
  rw [dLen_tup, List.length_map, b.rl]
theorem book_len_ev {n : Nat} {ks rn : List Str} {Ms : List (List (List Int))} (b : BkOk n ks rn Ms) {i : Nat} {m : MF.M} (h : m.ρ[i]? = some (.t (bkD n ks rn Ms))) : eLenO ("Book" : Str) m_Book_len (eArgs [(eN i)]) m = .ok (.t (.int Ms.length)) m := by
  unfold eLenO
  rw [bind_eq (args1 (ev_t h))]
  show E.bind (rd (.t (bkD n ks rn Ms))) _ m = _
  rw [bind_eq (rd_eq (x := .t (bkD n ks rn Ms)) (d := bkD n ks rn Ms) rfl)]
  unfold bkD
  simp only [if_true]
  rw [bind_eq (f := arg _) (a := .t (bkD n ks rn Ms)) (m1 := m) rfl]
  have hl : lenOk ((Ms.length : Nat) : Int) = true := decide_eq_true ⟨by omega, by have := b.c4; omega⟩
  simp only [book_len b m.S, hl, if_true]
def Qc (M : List (List Int)) (i x y : Nat) : Bool := (decide (x < y) && (decide (0 < ent M i x) && decide (0 < ent M i y))) || (decide (x = y) && decide (1 < ent M i x))
def F3 (M : List (List Int)) (a i x y : Nat) : List (List Int) := if Qc M i x y then [[(a : Int), (i : Int), (x : Int), (y : Int)]] else []
def F2 (n : Nat) (M : List (List Int)) (a i x : Nat) : List (List Int) := (List.range n).flatMap (F3 M a i x)
def F1 (n : Nat) (M : List (List Int)) (a i : Nat) : List (List Int) := (List.range n).flatMap (F2 n M a i)
def F0 (n : Nat) (M : List (List Int)) (a : Nat) : List (List Int) := (List.range n).flatMap (F1 n M a)
def tbAt (Ms : List (List (List Int))) (a : Nat) : List (List Int) := (Ms[a]?).getD []
def spl (n : Nat) (Ms : List (List (List Int))) : List (List Int) := (List.range Ms.length).flatMap fun a => F0 n (tbAt Ms a) a
theorem tbAt_mem {Ms : List (List (List Int))} {a : Nat} (h : a < Ms.length) : Ms[a]? = some (tbAt Ms a) ∧ tbAt Ms a ∈ Ms := by
  unfold tbAt
  rw [List.getElem?_eq_getElem h]
  exact ⟨rfl, List.getElem_mem h⟩
theorem F3_len (M : List (List Int)) (a i x y : Nat) : (F3 M a i x y).length ≤ 1 := by unfold F3; split <;> simp
theorem F2_len (n : Nat) (M : List (List Int)) (a i x : Nat) : (F2 n M a i x).length ≤ n * 1 := by
  have := flat_len 1 (F3 M a i x) (List.range n) fun y _ => F3_len M a i x y
  rwa [List.length_range] at this
theorem F1_len (n : Nat) (M : List (List Int)) (a i : Nat) : (F1 n M a i).length ≤ n * (n * 1) := by
  have := flat_len (n * 1) (F2 n M a i) (List.range n) fun y _ => F2_len n M a i y
  rwa [List.length_range] at this
theorem F0_len (n : Nat) (M : List (List Int)) (a : Nat) : (F0 n M a).length ≤ n * (n * (n * 1)) := by
  have := flat_len (n * (n * 1)) (F1 n M a) (List.range n) fun y _ => F1_len n M a y
  rwa [List.length_range] at this
theorem spl_len {n : Nat} {Ms : List (List (List Int))} (hn : n ≤ 6) (hc : Ms.length ≤ 4) : (spl n Ms).length ≤ 1000 := by
  have := flat_len (n * (n * (n * 1))) (fun a => F0 n (tbAt Ms a) a) (List.range Ms.length) fun y _ => F0_len n _ y
  rw [List.length_range] at this
  have h1 : n * (n * (n * 1)) ≤ 6 * (6 * (6 * 1)) := Nat.mul_le_mul hn (Nat.mul_le_mul hn (Nat.mul_le_mul hn (Nat.le_refl 1)))
  have h2 : Ms.length * (n * (n * (n * 1))) ≤ 4 * (6 * (6 * (6 * 1))) := Nat.mul_le_mul hc h1
  unfold spl
  omega
theorem F3_pre {M : List (List Int)} {a i x y : Nat} {u : List Int} (h : u ∈ F3 M a i x y) : u = [(a : Int), (i : Int), (x : Int), (y : Int)] := by
  unfold F3 at h
  split at h
  · exact List.mem_singleton.mp h
  · cases h
theorem F2_pre {n : Nat} {M : List (List Int)} {a i x : Nat} {u : List Int} (h : u ∈ F2 n M a i x) : ∃ t, u = [(a : Int), (i : Int)] ++ (x : Int) :: t := by
  obtain ⟨y, _, h⟩ := List.mem_flatMap.mp h
  exact ⟨[(y : Int)], F3_pre h⟩
theorem F1_pre {n : Nat} {M : List (List Int)} {a i : Nat} {u : List Int} (h : u ∈ F1 n M a i) : ∃ t, u = [(a : Int)] ++ (i : Int) :: t := by
  obtain ⟨y, _, h⟩ := List.mem_flatMap.mp h
  obtain ⟨t, rfl⟩ := F2_pre h
  exact ⟨_, rfl⟩
theorem F0_pre {n : Nat} {M : List (List Int)} {a : Nat} {u : List Int} (h : u ∈ F0 n M a) : ∃ t, u = [] ++ (a : Int) :: t := by
  obtain ⟨y, _, h⟩ := List.mem_flatMap.mp h
  obtain ⟨t, rfl⟩ := F1_pre h
  exact ⟨_, rfl⟩
theorem spl_asc (n : Nat) (Ms : List (List (List Int))) : (spl n Ms).Pairwise asc := by
  have hr := fun k => List.pairwise_lt_range (n := k)
  refine asc_flat (hr _) [] _ (fun a _ => ?_) fun a _ u hu => F0_pre hu
  refine asc_flat (hr _) [(a : Int)] _ (fun i _ => ?_) fun i _ u hu => F1_pre hu
  refine asc_flat (hr _) [(a : Int), (i : Int)] _ (fun x _ => ?_) fun x _ u hu => F2_pre hu
  refine asc_flat (hr _) [(a : Int), (i : Int), (x : Int)] _ (fun y _ => ?_) fun y _ u hu => ⟨[], F3_pre hu⟩
  unfold F3
  split
  · exact List.pairwise_singleton _ _
  · exact List.Pairwise.nil
theorem spl_ne (n : Nat) (Ms : List (List (List Int))) : ∀ r ∈ spl n Ms, r ≠ [] := fun r hr e => by
  obtain ⟨a, _, h⟩ := List.mem_flatMap.mp hr
  obtain ⟨t, rfl⟩ := F0_pre h
  cases e
theorem splits_ok {n : Nat} {ks rn : List Str} {Ms : List (List (List Int))} (b : BkOk n ks rn Ms) (S : List D) : m_splits [.t (bkD n ks rn Ms)] S = some (.t (.tup ((spl n Ms).map rowD)), S) := by
  let bk := bkD n ks rn Ms
  let σ : List (List Int) → MF.Loc → MF.Loc → MF.Loc → MF.Loc → List MF.Loc := fun acc l3 l4 l5 l6 => [.t bk, .own (.lst (acc.map rowD)), .t (supD n Ms), l3, l4, l5, l6]
  have s1 : setOwn 1 (nLst (eArgs [])) ⟨[.t bk, .un, .un, .un, .un, .un, .un], S⟩ = .ok .nx ⟨[.t bk, .own (.lst []), .un, .un, .un, .un, .un], S⟩ := rfl
  have s2 : sAsg (eFn m_supports_of (eArgs [(eN 0)])) (tgN 2) ⟨[.t bk, .own (.lst []), .un, .un, .un, .un, .un], S⟩ = .ok .nx ⟨σ [] .un .un .un .un, S⟩ :=
    asg_n (ev_fn (args1 (f := eN 0) (ev_t rfl)) (bs := [.t bk]) rfl (supports_ok b S)) (by show 2 < 7; decide)
  have sup : ∀ acc (a i : Nat) l5 l6, a < Ms.length → i < n → iSeq (eOp dIdx (eOp dIdx (eN 2) (eN 3)) (eN 4)) ⟨σ acc (.t (.int (a : Int))) (.t (.int (i : Int))) l5 l6, S⟩ = .ok ((posOf n (tbAt Ms a) i).map fun (k : Nat) => D.int (k : Int)) ⟨σ acc (.t (.int (a : Int))) (.t (.int (i : Int))) l5 l6, S⟩ := fun acc a i l5 l6 ha hi => by
    have h1 : dIdx (supD n Ms) (.int (a : Int)) = some (supR n (tbAt Ms a)) := idx_nat (by rw [List.getElem?_map, (tbAt_mem ha).1]; rfl)
    have h2 : dIdx (supR n (tbAt Ms a)) (.int (i : Int)) = some (.lst (natsD (posOf n (tbAt Ms a) i))) := idx_nat (by rw [List.getElem?_map, List.getElem?_range hi]; rfl)
    unfold iSeq
    rw [bind_eq (ev_op (f := dIdx) (ev_op (f := dIdx) (ev_t rfl) (ev_t rfl) rfl rfl h1) (ev_t rfl) rfl rfl h2), bind_eq (f := asD (.t (.lst (natsD (posOf n (tbAt Ms a) i))))) (a := .lst (natsD (posOf n (tbAt Ms a) i))) (m1 := ⟨σ acc (.t (.int (a : Int))) (.t (.int (i : Int))) l5 l6, S⟩) rfl]
    exact opt_eq rfl
  have step : ∀ (a i x y : Nat) acc, a < Ms.length → i < n → x ∈ posOf n (tbAt Ms a) i → y ∈ posOf n (tbAt Ms a) i → (acc ++ F3 (tbAt Ms a) a i x y).length ≤ 16000000 →
    (sIf (tOr' (tV (eOp dLt (eN 5) (eN 6))) (tAnd' (tV (eOp dEq (eN 5) (eN 6))) (tV (eOp dGt (eOp dIdx (eOp dIdx (eUn (getFld ("rows" : Str)) (eOp dIdx (eUn (getFld ("tables" : Str)) (eN 0)) (eN 3))) (eN 4)) (eN 5)) (eC (.int 1))))))
  (sExpr (eMut mAppend (eN 1) (eArgs [(eTup (eArgs [(eN 3), (eN 4), (eN 5), (eN 6)]))])))
  sSkip) ⟨σ acc (.t (.int (a : Int))) (.t (.int (i : Int))) (.t (.int (x : Int))) (.t (.int (y : Int))), S⟩ = .ok .nx ⟨σ (acc ++ F3 (tbAt Ms a) a i x y) (.t (.int (a : Int))) (.t (.int (i : Int))) (.t (.int (x : Int))) (.t (.int (y : Int))), S⟩ := fun a i x y acc ha hi hx hy hz => by
    have t := b.tb _ (tbAt_mem ha).2
    obtain ⟨hx1, hx2⟩ := List.mem_filter.mp hx
    obtain ⟨hy1, hy2⟩ := List.mem_filter.mp hy
    have hx1 := List.mem_range.mp hx1
    let m : MF.M := ⟨σ acc (.t (.int (a : Int))) (.t (.int (i : Int))) (.t (.int (x : Int))) (.t (.int (y : Int))), S⟩
    have h1 : dIdx (.tup (Ms.map (tblO n))) (.int (a : Int)) = some (tblO n (tbAt Ms a)) := idx_tup (by rw [List.getElem?_map, (tbAt_mem ha).1]; rfl)
    have c1 : tV (eOp dLt (eN 5) (eN 6)) m = .ok (decide (x < y)) m := by
      refine tv_ev (ev_op (f := dLt) (ev_t rfl) (ev_t rfl) rfl rfl ?_)
      rw [dLt_int, show decide ((x : Int) < (y : Int)) = decide (x < y) from decide_eq_decide.mpr (by omega)]
    have c2 : tV (eOp dEq (eN 5) (eN 6)) m = .ok (decide (x = y)) m := by
      refine tv_ev (ev_op (f := dEq) (ev_t rfl) (ev_t rfl) rfl rfl ?_)
      rw [dEq_int, show decide ((x : Int) = (y : Int)) = decide (x = y) from decide_eq_decide.mpr (by omega)]
    have c3 : tV (eOp dGt (eOp dIdx (eOp dIdx (eUn (getFld ("rows" : Str)) (eOp dIdx (eUn (getFld ("tables" : Str)) (eN 0)) (eN 3))) (eN 4)) (eN 5)) (eC (.int 1))) m = .ok (decide (1 < ent (tbAt Ms a) i x)) m :=
      tv_ev (ev_op (f := dGt) (b := eC (.int 1)) (y := .t (.int 1)) (ev_op (f := dIdx) (ev_op (f := dIdx) (ev_un (ev_op (f := dIdx) (ev_un (ev_t rfl) rfl (book_tables n ks rn Ms)) (ev_t rfl) rfl rfl h1) rfl (tbl_rows n _)) (ev_t rfl) rfl rfl (tab_idx t hi)) (ev_t rfl) rfl rfl (row_idx t hi hx1)) rfl rfl rfl (dGt_int _ _))
    have hQ : Qc (tbAt Ms a) i x y = (decide (x < y) || (decide (x = y) && decide (1 < ent (tbAt Ms a) i x))) := by
      unfold Qc
      rw [hx2, hy2, Bool.and_self, Bool.and_true]
    have ct : (tOr' (tV (eOp dLt (eN 5) (eN 6))) (tAnd' (tV (eOp dEq (eN 5) (eN 6))) (tV (eOp dGt (eOp dIdx (eOp dIdx (eUn (getFld ("rows" : Str)) (eOp dIdx (eUn (getFld ("tables" : Str)) (eN 0)) (eN 3))) (eN 4)) (eN 5)) (eC (.int 1)))))) m = .ok (Qc (tbAt Ms a) i x y) m := by
      rw [hQ]
      cases k1 : decide (x < y) with
      | true => rw [k1] at c1; exact tor_t c1
      | false =>
        rw [k1] at c1
        refine (tor_f c1).trans ?_
        cases k2 : decide (x = y) with
        | true => rw [k2] at c2; exact (tand_t c2).trans c3
        | false => rw [k2] at c2; exact tand_f c2
    cases q : Qc (tbAt Ms a) i x y with
    | true =>
      rw [q] at ct
      rw [if_t ct]
      have e : F3 (tbAt Ms a) a i x y = [[(a : Int), (i : Int), (x : Int), (y : Int)]] := by unfold F3; rw [q]; rfl
      rw [e] at hz ⊢
      rw [app_stmt (i := 1) (f := eTup (eArgs [(eN 3), (eN 4), (eN 5), (eN 6)])) (xs := acc.map rowD) (d := rowD [(a : Int), (i : Int), (x : Int), (y : Int)]) (m1 := m) rfl rfl rfl (by rw [List.length_map]; rw [List.length_append] at hz; omega)]
      rw [show acc.map rowD ++ [rowD [(a : Int), (i : Int), (x : Int), (y : Int)]] = (acc ++ [[(a : Int), (i : Int), (x : Int), (y : Int)]]).map rowD by rw [List.map_append]; rfl]
      rfl
    | false =>
      rw [q] at ct
      rw [if_f ct]
      have e : F3 (tbAt Ms a) a i x y = [] := by unfold F3; rw [q]; rfl
      rw [e, List.append_nil]
      rfl
  have e2 : ∀ M a i x, (posOf n M i).flatMap (F3 M a i x) = F2 n M a i x := fun M a i x => flat_filter fun y _ hy => by
    unfold F3
    have : Qc M i x y = false := by
      unfold Qc
      by_cases h : x = y
      · subst h
        have h1 := of_decide_eq_false hy
        rw [hy, decide_eq_false (Nat.lt_irrefl x), decide_eq_false (show ¬ 1 < ent M i x by omega), Bool.and_false (decide (x = x))]; rfl
      · rw [hy, decide_eq_false h, Bool.and_false, Bool.and_false]; rfl
    rw [this]; rfl
  have e1 : ∀ M a i, (posOf n M i).flatMap (F2 n M a i) = F1 n M a i := fun M a i => flat_filter fun x _ hx => flat_nil fun y _ => by
    unfold F3
    have : Qc M i x y = false := by
      unfold Qc
      have h1 := of_decide_eq_false hx
      rw [hx, decide_eq_false (show ¬ 1 < ent M i x by omega), Bool.and_false, Bool.false_and, Bool.and_false]; rfl
    rw [this]; rfl
  obtain ⟨m', ef, l3, l4, l5, l6, rfl⟩ := acc_for (tg := tgN 3) (tD := fun (k : Nat) => D.int (k : Int)) (items := List.range Ms.length) (pre := []) (m := ⟨σ [] .un .un .un .un, S⟩) (m1 := ⟨σ [] .un .un .un .un, S⟩)
    (src := iRange1 (eArgs [(eLenO ("Book" : Str) m_Book_len (eArgs [(eN 0)]))]))
    (body := sFor (iRange1 (eArgs [(eCall (one dLen) (eArgs [(eUn (getFld ("kinds" : Str)) (eN 0))]))])) (tgN 4)
  (sFor (iSeq (eOp dIdx (eOp dIdx (eN 2) (eN 3)) (eN 4))) (tgN 5)
  (sFor (iSeq (eOp dIdx (eOp dIdx (eN 2) (eN 3)) (eN 4))) (tgN 6)
  (sIf (tOr' (tV (eOp dLt (eN 5) (eN 6))) (tAnd' (tV (eOp dEq (eN 5) (eN 6))) (tV (eOp dGt (eOp dIdx (eOp dIdx (eUn (getFld ("rows" : Str)) (eOp dIdx (eUn (getFld ("tables" : Str)) (eN 0)) (eN 3))) (eN 4)) (eN 5)) (eC (.int 1))))))
  (sExpr (eMut mAppend (eN 1) (eArgs [(eTup (eArgs [(eN 3), (eN 4), (eN 5), (eN 6)]))])))
  sSkip))))
    (by rw [range_ev (book_len_ev b rfl) (by have := b.c4; omega), range_nats]; rfl)
    (fun acc m => ∃ l3 l4 l5 l6, m = ⟨σ acc l3 l4 l5 l6, S⟩) (fun a => F0 n (tbAt Ms a) a) ⟨.un, .un, .un, .un, rfl⟩ (by rw [List.nil_append]; exact Nat.le_trans (spl_len b.n6 b.c4) (by omega)) (by
      rintro a ha acc m ⟨l3, l4, l5, l6, rfl⟩ hz
      have ha := List.mem_range.mp ha
      rw [tg_set (by show 3 < 7; decide)]
      obtain ⟨m', e, l4, l5, l6, rfl⟩ := acc_for (tg := tgN 4) (tD := fun (k : Nat) => D.int (k : Int)) (items := List.range n) (pre := acc) (m := ⟨σ acc (.t (.int (a : Int))) l4 l5 l6, S⟩) (m1 := ⟨σ acc (.t (.int (a : Int))) l4 l5 l6, S⟩)
        (src := iRange1 (eArgs [(eCall (one dLen) (eArgs [(eUn (getFld ("kinds" : Str)) (eN 0))]))]))
        (body := (sFor (iSeq (eOp dIdx (eOp dIdx (eN 2) (eN 3)) (eN 4))) (tgN 5)
  (sFor (iSeq (eOp dIdx (eOp dIdx (eN 2) (eN 3)) (eN 4))) (tgN 6)
  (sIf (tOr' (tV (eOp dLt (eN 5) (eN 6))) (tAnd' (tV (eOp dEq (eN 5) (eN 6))) (tV (eOp dGt (eOp dIdx (eOp dIdx (eUn (getFld ("rows" : Str)) (eOp dIdx (eUn (getFld ("tables" : Str)) (eN 0)) (eN 3))) (eN 4)) (eN 5)) (eC (.int 1))))))
  (sExpr (eMut mAppend (eN 1) (eArgs [(eTup (eArgs [(eN 3), (eN 4), (eN 5), (eN 6)]))])))
  sSkip))))
        (by rw [range_ev (ev_call1 (ev_un (ev_t rfl) rfl (book_kinds n ks rn Ms)) rfl (by rw [dLen_tup, List.length_map, b.kl])) (by have := b.n6; omega), range_nats]; rfl)
        (fun acc m => ∃ l4 l5 l6, m = ⟨σ acc (.t (.int (a : Int))) l4 l5 l6, S⟩) (fun i => F1 n (tbAt Ms a) a i) ⟨l4, l5, l6, rfl⟩ hz (by
          rintro i hi acc m ⟨l4, l5, l6, rfl⟩ hz
          have hi := List.mem_range.mp hi
          rw [tg_set (by show 4 < 7; decide)]
          obtain ⟨m', e, l5, l6, rfl⟩ := acc_for (tg := tgN 5) (tD := fun (k : Nat) => D.int (k : Int)) (items := posOf n (tbAt Ms a) i) (pre := acc) (m := ⟨σ acc (.t (.int (a : Int))) (.t (.int (i : Int))) l5 l6, S⟩) (m1 := ⟨σ acc (.t (.int (a : Int))) (.t (.int (i : Int))) l5 l6, S⟩)
            (src := iSeq (eOp dIdx (eOp dIdx (eN 2) (eN 3)) (eN 4)))
            (body := (sFor (iSeq (eOp dIdx (eOp dIdx (eN 2) (eN 3)) (eN 4))) (tgN 6)
  (sIf (tOr' (tV (eOp dLt (eN 5) (eN 6))) (tAnd' (tV (eOp dEq (eN 5) (eN 6))) (tV (eOp dGt (eOp dIdx (eOp dIdx (eUn (getFld ("rows" : Str)) (eOp dIdx (eUn (getFld ("tables" : Str)) (eN 0)) (eN 3))) (eN 4)) (eN 5)) (eC (.int 1))))))
  (sExpr (eMut mAppend (eN 1) (eArgs [(eTup (eArgs [(eN 3), (eN 4), (eN 5), (eN 6)]))])))
  sSkip)))
            (sup acc a i l5 l6 ha hi)
            (fun acc m => ∃ l5 l6, m = ⟨σ acc (.t (.int (a : Int))) (.t (.int (i : Int))) l5 l6, S⟩) (F2 n (tbAt Ms a) a i) ⟨l5, l6, rfl⟩ (by rw [e1]; exact hz) (by
              rintro x hx acc m ⟨l5, l6, rfl⟩ hz
              rw [tg_set (by show 5 < 7; decide)]
              obtain ⟨m', e, l6, rfl⟩ := acc_for (tg := tgN 6) (tD := fun (k : Nat) => D.int (k : Int)) (items := posOf n (tbAt Ms a) i) (pre := acc) (m := ⟨σ acc (.t (.int (a : Int))) (.t (.int (i : Int))) (.t (.int (x : Int))) l6, S⟩) (m1 := ⟨σ acc (.t (.int (a : Int))) (.t (.int (i : Int))) (.t (.int (x : Int))) l6, S⟩)
                (src := iSeq (eOp dIdx (eOp dIdx (eN 2) (eN 3)) (eN 4)))
                (body := (sIf (tOr' (tV (eOp dLt (eN 5) (eN 6))) (tAnd' (tV (eOp dEq (eN 5) (eN 6))) (tV (eOp dGt (eOp dIdx (eOp dIdx (eUn (getFld ("rows" : Str)) (eOp dIdx (eUn (getFld ("tables" : Str)) (eN 0)) (eN 3))) (eN 4)) (eN 5)) (eC (.int 1))))))
  (sExpr (eMut mAppend (eN 1) (eArgs [(eTup (eArgs [(eN 3), (eN 4), (eN 5), (eN 6)]))])))
  sSkip))
                (sup acc a i (.t (.int (x : Int))) l6 ha hi)
                (fun acc m => ∃ l6, m = ⟨σ acc (.t (.int (a : Int))) (.t (.int (i : Int))) (.t (.int (x : Int))) l6, S⟩) (F3 (tbAt Ms a) a i x) ⟨l6, rfl⟩ (by rw [e2]; exact hz) (by
                  rintro y hy acc m ⟨l6, rfl⟩ hz
                  rw [tg_set (by show 6 < 7; decide)]
                  exact ⟨_, step a i x y acc ha hi hx hy hz, _, rfl⟩)
              rw [e2] at e
              exact ⟨_, e, _, _, rfl⟩)
          rw [e1] at e
          exact ⟨_, e, _, _, _, rfl⟩)
      exact ⟨_, e, _, _, _, _, rfl⟩)
  rw [List.nil_append] at ef
  have hb : b_splits ⟨[.t bk, .un, .un, .un, .un, .un, .un], S⟩ = .ok (.rt (.t (.tup ((spl n Ms).map rowD)))) ⟨σ (spl n Ms) l3 l4 l5 l6, S⟩ := by
    unfold b_splits
    rw [seq_nx s1, seq_nx s2, seq_nx ef]
    exact ev_ret (ev_call1 (f := dTuple) (d := .lst ((spl n Ms).map rowD)) (ev_call1 (f := dSorted) (x := .o 1) (d := .lst ((spl n Ms).map rowD)) rfl rfl (sorted_rows (spl_asc n Ms) (spl_ne n Ms))) rfl rfl)
  exact mk_rt (np := 1) (nl := 6) (as := [.t bk]) rfl hb
end Z09
set_option Elab.async false
set_option linter.all false
set_option maxRecDepth 100000
set_option maxHeartbeats 4000000
namespace Z09
open PySem L2 MF
/-! # the law's own look -/
theorem F2_law (n : Nat) (M : List (List Int)) (a i x : Nat) (hx : x ≤ n) : (List.range' x (n - x)).flatMap (F3 M a i x) = F2 n M a i x := by
  unfold F2
  have e : List.range n = List.range' 0 x ++ List.range' x (n - x) := by
    rw [List.range_eq_range', show List.range' x (n - x) = List.range' (0 + x) (n - x) by rw [Nat.zero_add], List.range'_append_1, Nat.add_sub_cancel' hx]
  have e0 : (List.range' 0 x).flatMap (F3 M a i x) = [] := by
    refine flat_nil fun y hy => ?_
    have h1 := List.mem_range'_1.mp hy
    have : Qc M i x y = false := by
      unfold Qc
      rw [decide_eq_false (show ¬ x < y by omega), decide_eq_false (show ¬ x = y by omega)]; rfl
    unfold F3
    rw [this]; rfl
  rw [e, List.flatMap_append, e0, List.nil_append]
theorem range2_nats (x n : Nat) : rangeD (x : Int) (n - x) = (List.range' x (n - x)).map fun (k : Nat) => D.int (k : Int) := by
  unfold rangeD
  rw [List.range'_eq_map_range, List.map_map]
  exact List.map_congr_left fun i _ => by show D.int ((x : Int) + (i : Int)) = D.int ((x + i : Nat) : Int); rw [Int.natCast_add]
theorem due_ok {n : Nat} {Ms : List (List (List Int))} (n6 : n ≤ 6) (c4 : Ms.length ≤ 4) (tb : ∀ M ∈ Ms, Tbl n M) (L0 L4 L6 : MF.Loc) (S : List D) : ∃ l8 l9 l10 l11 l12, (sFor (iRange1 (eArgs [(eN 3)])) (tgN 8)
  (sFor (iRange1 (eArgs [(eN 2)])) (tgN 9)
  (sFor (iRange1 (eArgs [(eN 2)])) (tgN 10)
  (sFor (iRange2 (eArgs [(eN 10), (eN 2)])) (tgN 11)
  (sSeq (sAsg (eOp dIdx (eOp dIdx (eN 5) (eN 8)) (eN 9)) (tgN 12))
  (sIf (tOr' (tAnd' (tV (eOp dLt (eN 10) (eN 11))) (tAnd' (tV (eOp dGt (eOp dIdx (eN 12) (eN 10)) (eC (.int 0)))) (tV (eOp dGt (eOp dIdx (eN 12) (eN 11)) (eC (.int 0)))))) (tAnd' (tV (eOp dEq (eN 10) (eN 11))) (tV (eOp dGt (eOp dIdx (eN 12) (eN 10)) (eC (.int 1))))))
  (sExpr (eMut mAppend (eN 7) (eArgs [(eTup (eArgs [(eN 8), (eN 9), (eN 10), (eN 11)]))])))
  sSkip)))))) ⟨[L0, .s 0, .t (.int n), .t (.int Ms.length), L4, .t (.lst (Ms.map tabD)), L6, .own (.lst []), .un, .un, .un, .un, .un, .un, .un, .un, .un], S⟩ = .ok .nx ⟨[L0, .s 0, .t (.int n), .t (.int Ms.length), L4, .t (.lst (Ms.map tabD)), L6, .own (.lst ((spl n Ms).map rowD)), l8, l9, l10, l11, l12, .un, .un, .un, .un], S⟩ := by
  let σ : List (List Int) → MF.Loc → MF.Loc → MF.Loc → MF.Loc → MF.Loc → List MF.Loc := fun acc l8 l9 l10 l11 l12 => [L0, .s 0, .t (.int n), .t (.int Ms.length), L4, .t (.lst (Ms.map tabD)), L6, .own (.lst (acc.map rowD)), l8, l9, l10, l11, l12, .un, .un, .un, .un]
  have step : ∀ (a i x y : Nat) acc l12, a < Ms.length → i < n → x < n → y < n → (acc ++ F3 (tbAt Ms a) a i x y).length ≤ 16000000 →
    (sSeq (sAsg (eOp dIdx (eOp dIdx (eN 5) (eN 8)) (eN 9)) (tgN 12))
  (sIf (tOr' (tAnd' (tV (eOp dLt (eN 10) (eN 11))) (tAnd' (tV (eOp dGt (eOp dIdx (eN 12) (eN 10)) (eC (.int 0)))) (tV (eOp dGt (eOp dIdx (eN 12) (eN 11)) (eC (.int 0)))))) (tAnd' (tV (eOp dEq (eN 10) (eN 11))) (tV (eOp dGt (eOp dIdx (eN 12) (eN 10)) (eC (.int 1))))))
  (sExpr (eMut mAppend (eN 7) (eArgs [(eTup (eArgs [(eN 8), (eN 9), (eN 10), (eN 11)]))])))
  sSkip)) ⟨σ acc (.t (.int (a : Int))) (.t (.int (i : Int))) (.t (.int (x : Int))) (.t (.int (y : Int))) l12, S⟩ = .ok .nx ⟨σ (acc ++ F3 (tbAt Ms a) a i x y) (.t (.int (a : Int))) (.t (.int (i : Int))) (.t (.int (x : Int))) (.t (.int (y : Int))) (.t (rowD (rwOf (tbAt Ms a) i))), S⟩ := fun a i x y acc l12 ha hi hx hy hz => by
    have t := tb _ (tbAt_mem ha).2
    have h1 : dIdx (.lst (Ms.map tabD)) (.int (a : Int)) = some (tabD (tbAt Ms a)) := idx_nat (by rw [List.getElem?_map, (tbAt_mem ha).1]; rfl)
    have s0 : sAsg (eOp dIdx (eOp dIdx (eN 5) (eN 8)) (eN 9)) (tgN 12) ⟨σ acc (.t (.int (a : Int))) (.t (.int (i : Int))) (.t (.int (x : Int))) (.t (.int (y : Int))) l12, S⟩ = .ok .nx ⟨σ acc (.t (.int (a : Int))) (.t (.int (i : Int))) (.t (.int (x : Int))) (.t (.int (y : Int))) (.t (rowD (rwOf (tbAt Ms a) i))), S⟩ :=
      asg_n (ev_op (f := dIdx) (ev_op (f := dIdx) (ev_t rfl) (ev_t rfl) rfl rfl h1) (ev_t rfl) rfl rfl (tab_idx t hi)) (by show 12 < 17; decide)
    rw [seq_nx s0]
    let m : MF.M := ⟨σ acc (.t (.int (a : Int))) (.t (.int (i : Int))) (.t (.int (x : Int))) (.t (.int (y : Int))) (.t (rowD (rwOf (tbAt Ms a) i))), S⟩
    have c1 : tV (eOp dLt (eN 10) (eN 11)) m = .ok (decide (x < y)) m := by
      refine tv_ev (ev_op (f := dLt) (ev_t rfl) (ev_t rfl) rfl rfl ?_)
      rw [dLt_int, show decide ((x : Int) < (y : Int)) = decide (x < y) from decide_eq_decide.mpr (by omega)]
    have c2 : tV (eOp dEq (eN 10) (eN 11)) m = .ok (decide (x = y)) m := by
      refine tv_ev (ev_op (f := dEq) (ev_t rfl) (ev_t rfl) rfl rfl ?_)
      rw [dEq_int, show decide ((x : Int) = (y : Int)) = decide (x = y) from decide_eq_decide.mpr (by omega)]
    have cx : ∀ k : Int, tV (eOp dGt (eOp dIdx (eN 12) (eN 10)) (eC (.int k))) m = .ok (decide (k < ent (tbAt Ms a) i x)) m := fun k =>
      tv_ev (ev_op (f := dGt) (b := eC (.int k)) (y := .t (.int k)) (ev_op (f := dIdx) (ev_t rfl) (ev_t rfl) rfl rfl (row_idx t hi hx)) rfl rfl rfl (dGt_int _ _))
    have cy : tV (eOp dGt (eOp dIdx (eN 12) (eN 11)) (eC (.int 0))) m = .ok (decide (0 < ent (tbAt Ms a) i y)) m :=
      tv_ev (ev_op (f := dGt) (b := eC (.int 0)) (y := .t (.int 0)) (ev_op (f := dIdx) (ev_t rfl) (ev_t rfl) rfl rfl (row_idx t hi hy)) rfl rfl rfl (dGt_int _ _))
    have tand : ∀ {a b : E Bool} {p q : Bool}, a m = .ok p m → b m = .ok q m → tAnd' a b m = .ok (p && q) m := fun {a b p q} e1 e2 => by
      cases p with
      | true => rw [tand_t e1, e2]; rfl
      | false => rw [tand_f e1]; rfl
    have tor : ∀ {a b : E Bool} {p q : Bool}, a m = .ok p m → b m = .ok q m → tOr' a b m = .ok (p || q) m := fun {a b p q} e1 e2 => by
      cases p with
      | true => rw [tor_t e1]; rfl
      | false => rw [tor_f e1, e2]; rfl
    have ct := tor (tand c1 (tand (cx 0) cy)) (tand c2 (cx 1))
    show sIf _ _ _ m = _
    cases q : Qc (tbAt Ms a) i x y with
    | true =>
      rw [if_t (ct.trans (congrArg (fun b => MF.R.ok b m) q))]
      have e : F3 (tbAt Ms a) a i x y = [[(a : Int), (i : Int), (x : Int), (y : Int)]] := by unfold F3; rw [q]; rfl
      rw [e] at hz ⊢
      rw [app_stmt (i := 7) (f := eTup (eArgs [(eN 8), (eN 9), (eN 10), (eN 11)])) (xs := acc.map rowD) (d := rowD [(a : Int), (i : Int), (x : Int), (y : Int)]) (m1 := m) rfl rfl rfl (by rw [List.length_map]; rw [List.length_append] at hz; omega)]
      rw [show acc.map rowD ++ [rowD [(a : Int), (i : Int), (x : Int), (y : Int)]] = (acc ++ [[(a : Int), (i : Int), (x : Int), (y : Int)]]).map rowD by rw [List.map_append]; rfl]
      rfl
    | false =>
      rw [if_f (ct.trans (congrArg (fun b => MF.R.ok b m) q))]
      have e : F3 (tbAt Ms a) a i x y = [] := by unfold F3; rw [q]; rfl
      rw [e, List.append_nil]
      rfl
  obtain ⟨m', ef, l8, l9, l10, l11, l12, rfl⟩ := acc_for (tg := tgN 8) (tD := fun (k : Nat) => D.int (k : Int)) (items := List.range Ms.length) (pre := []) (m := ⟨σ [] .un .un .un .un .un, S⟩) (m1 := ⟨σ [] .un .un .un .un .un, S⟩)
    (src := iRange1 (eArgs [(eN 3)])) (body := (sFor (iRange1 (eArgs [(eN 2)])) (tgN 9)
  (sFor (iRange1 (eArgs [(eN 2)])) (tgN 10)
  (sFor (iRange2 (eArgs [(eN 10), (eN 2)])) (tgN 11)
  (sSeq (sAsg (eOp dIdx (eOp dIdx (eN 5) (eN 8)) (eN 9)) (tgN 12))
  (sIf (tOr' (tAnd' (tV (eOp dLt (eN 10) (eN 11))) (tAnd' (tV (eOp dGt (eOp dIdx (eN 12) (eN 10)) (eC (.int 0)))) (tV (eOp dGt (eOp dIdx (eN 12) (eN 11)) (eC (.int 0)))))) (tAnd' (tV (eOp dEq (eN 10) (eN 11))) (tV (eOp dGt (eOp dIdx (eN 12) (eN 10)) (eC (.int 1))))))
  (sExpr (eMut mAppend (eN 7) (eArgs [(eTup (eArgs [(eN 8), (eN 9), (eN 10), (eN 11)]))])))
  sSkip))))))
    (by rw [range_ev (f := eN 3) (ev_t rfl) (by omega), range_nats]; rfl)
    (fun acc m => ∃ l8 l9 l10 l11 l12, m = ⟨σ acc l8 l9 l10 l11 l12, S⟩) (fun a => F0 n (tbAt Ms a) a) ⟨.un, .un, .un, .un, .un, rfl⟩ (by rw [List.nil_append]; exact Nat.le_trans (spl_len n6 c4) (by omega)) (by
      rintro a ha acc m ⟨l8, l9, l10, l11, l12, rfl⟩ hz
      have ha := List.mem_range.mp ha
      rw [tg_set (by show 8 < 17; decide)]
      obtain ⟨m', e, l9, l10, l11, l12, rfl⟩ := acc_for (tg := tgN 9) (tD := fun (k : Nat) => D.int (k : Int)) (items := List.range n) (pre := acc) (m := ⟨σ acc (.t (.int (a : Int))) l9 l10 l11 l12, S⟩) (m1 := ⟨σ acc (.t (.int (a : Int))) l9 l10 l11 l12, S⟩)
        (src := iRange1 (eArgs [(eN 2)])) (body := (sFor (iRange1 (eArgs [(eN 2)])) (tgN 10)
  (sFor (iRange2 (eArgs [(eN 10), (eN 2)])) (tgN 11)
  (sSeq (sAsg (eOp dIdx (eOp dIdx (eN 5) (eN 8)) (eN 9)) (tgN 12))
  (sIf (tOr' (tAnd' (tV (eOp dLt (eN 10) (eN 11))) (tAnd' (tV (eOp dGt (eOp dIdx (eN 12) (eN 10)) (eC (.int 0)))) (tV (eOp dGt (eOp dIdx (eN 12) (eN 11)) (eC (.int 0)))))) (tAnd' (tV (eOp dEq (eN 10) (eN 11))) (tV (eOp dGt (eOp dIdx (eN 12) (eN 10)) (eC (.int 1))))))
  (sExpr (eMut mAppend (eN 7) (eArgs [(eTup (eArgs [(eN 8), (eN 9), (eN 10), (eN 11)]))])))
  sSkip)))))
        (by rw [range_ev (f := eN 2) (ev_t rfl) (by omega), range_nats]; rfl)
        (fun acc m => ∃ l9 l10 l11 l12, m = ⟨σ acc (.t (.int (a : Int))) l9 l10 l11 l12, S⟩) (fun i => F1 n (tbAt Ms a) a i) ⟨l9, l10, l11, l12, rfl⟩ hz (by
          rintro i hi acc m ⟨l9, l10, l11, l12, rfl⟩ hz
          have hi := List.mem_range.mp hi
          rw [tg_set (by show 9 < 17; decide)]
          obtain ⟨m', e, l10, l11, l12, rfl⟩ := acc_for (tg := tgN 10) (tD := fun (k : Nat) => D.int (k : Int)) (items := List.range n) (pre := acc) (m := ⟨σ acc (.t (.int (a : Int))) (.t (.int (i : Int))) l10 l11 l12, S⟩) (m1 := ⟨σ acc (.t (.int (a : Int))) (.t (.int (i : Int))) l10 l11 l12, S⟩)
            (src := iRange1 (eArgs [(eN 2)])) (body := (sFor (iRange2 (eArgs [(eN 10), (eN 2)])) (tgN 11)
  (sSeq (sAsg (eOp dIdx (eOp dIdx (eN 5) (eN 8)) (eN 9)) (tgN 12))
  (sIf (tOr' (tAnd' (tV (eOp dLt (eN 10) (eN 11))) (tAnd' (tV (eOp dGt (eOp dIdx (eN 12) (eN 10)) (eC (.int 0)))) (tV (eOp dGt (eOp dIdx (eN 12) (eN 11)) (eC (.int 0)))))) (tAnd' (tV (eOp dEq (eN 10) (eN 11))) (tV (eOp dGt (eOp dIdx (eN 12) (eN 10)) (eC (.int 1))))))
  (sExpr (eMut mAppend (eN 7) (eArgs [(eTup (eArgs [(eN 8), (eN 9), (eN 10), (eN 11)]))])))
  sSkip))))
            (by rw [range_ev (f := eN 2) (ev_t rfl) (by omega), range_nats]; rfl)
            (fun acc m => ∃ l10 l11 l12, m = ⟨σ acc (.t (.int (a : Int))) (.t (.int (i : Int))) l10 l11 l12, S⟩) (F2 n (tbAt Ms a) a i) ⟨l10, l11, l12, rfl⟩ hz (by
              rintro x hx acc m ⟨l10, l11, l12, rfl⟩ hz
              have hx := List.mem_range.mp hx
              rw [tg_set (by show 10 < 17; decide)]
              obtain ⟨m', e, l11, l12, rfl⟩ := acc_for (tg := tgN 11) (tD := fun (k : Nat) => D.int (k : Int)) (items := List.range' x (n - x)) (pre := acc) (m := ⟨σ acc (.t (.int (a : Int))) (.t (.int (i : Int))) (.t (.int (x : Int))) l11 l12, S⟩) (m1 := ⟨σ acc (.t (.int (a : Int))) (.t (.int (i : Int))) (.t (.int (x : Int))) l11 l12, S⟩)
                (src := iRange2 (eArgs [(eN 10), (eN 2)])) (body := (sSeq (sAsg (eOp dIdx (eOp dIdx (eN 5) (eN 8)) (eN 9)) (tgN 12))
  (sIf (tOr' (tAnd' (tV (eOp dLt (eN 10) (eN 11))) (tAnd' (tV (eOp dGt (eOp dIdx (eN 12) (eN 10)) (eC (.int 0)))) (tV (eOp dGt (eOp dIdx (eN 12) (eN 11)) (eC (.int 0)))))) (tAnd' (tV (eOp dEq (eN 10) (eN 11))) (tV (eOp dGt (eOp dIdx (eN 12) (eN 10)) (eC (.int 1))))))
  (sExpr (eMut mAppend (eN 7) (eArgs [(eTup (eArgs [(eN 8), (eN 9), (eN 10), (eN 11)]))])))
  sSkip)))
                (by rw [range_ev2 (f1 := eN 10) (f2 := eN 2) (k := x) (n := n) (ev_t rfl) (ev_t rfl) (by omega) (by omega), range2_nats])
                (fun acc m => ∃ l11 l12, m = ⟨σ acc (.t (.int (a : Int))) (.t (.int (i : Int))) (.t (.int (x : Int))) l11 l12, S⟩) (F3 (tbAt Ms a) a i x) ⟨l11, l12, rfl⟩ (by rw [F2_law _ _ _ _ _ (by omega)]; exact hz) (by
                  rintro y hy acc m ⟨l11, l12, rfl⟩ hz
                  have hy := List.mem_range'_1.mp hy
                  rw [tg_set (by show 11 < 17; decide)]
                  exact ⟨_, step a i x y acc l12 ha hi hx (by omega) hz, _, _, rfl⟩)
              rw [F2_law _ _ _ _ _ (by omega)] at e
              exact ⟨_, e, _, _, _, rfl⟩)
          exact ⟨_, e, _, _, _, _, rfl⟩)
      exact ⟨_, e, _, _, _, _, _, rfl⟩)
  rw [List.nil_append] at ef
  exact ⟨_, _, _, _, _, ef⟩
end Z09
set_option Elab.async false
set_option linter.all false
set_option maxRecDepth 100000
set_option maxHeartbeats 4000000
namespace Z09
open PySem L2 MF
/-! # dicts of tuples of numbers -/
theorem acc_forPL {α : Type} {tg : MF.Arg → E Unit} {body : E Ctl} {tD : α → D} (P : List (List Int) → Prop) (hP : ∀ l l', P (l ++ l') → P l) (C : List (List Int) → MF.M → Prop) (g : α → List (List Int)) : ∀ (items : List α) (pre : List (List Int)) (m : MF.M), C pre m → P (pre ++ items.flatMap g) →
    (∀ a ∈ items, ∀ acc m, C acc m → P (acc ++ g a) → ∃ m', ((tg (.t (tD a))).bind fun _ => body) m = .ok .nx m' ∧ C (acc ++ g a) m') → ∃ m', forLoop tg body (items.map tD) m = .ok .nx m' ∧ C (pre ++ items.flatMap g) m'
  | [], pre, m, h, _, _ => ⟨m, rfl, by rw [List.flatMap_nil, List.append_nil]; exact h⟩
  | a :: as, pre, m, h, hb, step => by
    rw [List.flatMap_cons, ← List.append_assoc] at hb
    obtain ⟨m1, e1, c1⟩ := step a List.mem_cons_self pre m h (hP _ _ hb)
    obtain ⟨m2, e2, c2⟩ := acc_forPL P hP C g as (pre ++ g a) m1 c1 hb fun x hx => step x (List.mem_cons_of_mem _ hx)
    refine ⟨m2, ?_, by rw [List.flatMap_cons, ← List.append_assoc]; exact c2⟩
    show E.bind (tg (.t (tD a))) _ m = _
    unfold E.bind at e1 ⊢
    cases et : tg (.t (tD a)) m with
    | no => rw [et] at e1; cases e1
    | ok u m3 =>
      rw [et] at e1
      simp only at e1 ⊢
      rw [e1]
      exact e2
theorem acc_forP {α : Type} {src : E (List D)} {tg : MF.Arg → E Unit} {body : E Ctl} {tD : α → D} {items : List α} {m m1 : MF.M} (hs : src m = .ok (items.map tD) m1) (P : List (List Int) → Prop) (hP : ∀ l l', P (l ++ l') → P l) (C : List (List Int) → MF.M → Prop) (g : α → List (List Int)) {pre : List (List Int)} (h0 : C pre m1) (hb : P (pre ++ items.flatMap g))
    (step : ∀ a ∈ items, ∀ acc m, C acc m → P (acc ++ g a) → ∃ m', ((tg (.t (tD a))).bind fun _ => body) m = .ok .nx m' ∧ C (acc ++ g a) m') : ∃ m', sFor src tg body m = .ok .nx m' ∧ C (pre ++ items.flatMap g) m' := by
  unfold sFor
  rw [bind_eq hs]
  exact acc_forPL P hP C g items pre m1 h0 hb step
def keyI (k : List Int) : List Key := k.map .inl
theorem keyI_inj {k k' : List Int} (h : keyI k = keyI k') : k = k' := (List.map_inj_right (f := (Sum.inl : Int → Key)) fun x y q => Sum.inl.inj q).mp h
theorem keysD_int (k : List Int) : keysD (k.map .int) = some (keyI k) := by
  induction k with
  | nil => rfl
  | cons x k ih =>
    show (match keyD (.int x), keysD (k.map .int) with
      | some k, some ks => some (k :: ks)
      | _, _ => none) = _
    rw [ih]; rfl
def dtD (ks : List (List Int)) (f : List Int → D) : D := .dt (ks.map fun k => (keyI k, f k))
theorem dt_look {ks : List (List Int)} {f : List Int → D} {k : List Int} (h : k ∈ ks) : dLook (ks.map fun k => (keyI k, f k)) (keyI k) = some (f k) := by
  unfold dLook
  induction ks with
  | nil => cases h
  | cons x ks ih =>
    rw [List.map_cons, List.find?_cons]
    by_cases e : x = k
    · subst e
      simp
    · have e' : ¬ keyI x = keyI k := fun q => e (keyI_inj q)
      rw [decide_eq_false e']
      exact ih ((List.mem_cons.mp h).resolve_left fun q => e q.symm)
theorem dt_idx {ks : List (List Int)} {f : List Int → D} {k : List Int} (h : k ∈ ks) : dIdx (dtD ks f) (rowD k) = some (f k) := by
  show (keysD (k.map .int)).bind (dLook (ks.map fun k => (keyI k, f k))) = _
  rw [keysD_int]
  exact dt_look h
theorem dt_put {ks : List (List Int)} {f : List Int → D} {k : List Int} (h : k ∉ ks) (hz : ks.length ≤ 1000) : dPut (dtD ks f) (rowD k) (f k) = some (dtD (ks ++ [k]) f) := by
  have h2 : MF.sizeOk (ks.map fun k => (keyI k, f k)).length = true := decide_eq_true (by rw [List.length_map]; omega)
  have h1 : ((ks.map fun k => (keyI k, f k)).any fun kv => decide (kv.1 = keyI k)) = false := by
    rw [List.any_eq_false]
    intro kv hkv
    obtain ⟨y, hy, rfl⟩ := List.mem_map.mp hkv
    simp only [decide_eq_true_eq]
    intro e
    exact h (keyI_inj e ▸ hy)
  show (if MF.sizeOk (ks.map fun k => (keyI k, f k)).length then (keysD (k.map .int)).map fun k' => D.dt (putKD (ks.map fun k => (keyI k, f k)) k' (f k)) else none) = _
  rw [if_pos h2, keysD_int]
  show some (D.dt (putKD (ks.map fun k => (keyI k, f k)) (keyI k) (f k))) = _
  unfold putKD dtD
  rw [if_neg (by rw [h1]; exact Bool.false_ne_true), List.map_append]
  rfl
theorem dt_keys (ks : List (List Int)) (f : List Int → D) : keysOf (dtD ks f) = some (ks.map rowD) := by
  have e : (ks.map fun k => (keyI k, f k)).map (fun p => D.tup (p.1.map kD)) = ks.map rowD := by
    rw [List.map_map]
    refine List.map_congr_left fun k _ => ?_
    show D.tup ((keyI k).map kD) = _
    unfold keyI rowD
    rw [List.map_map]; rfl
  rw [← e]
  rfl
end Z09
set_option Elab.async false
set_option linter.all false
set_option maxRecDepth 100000
set_option maxHeartbeats 4000000
namespace Z09
open PySem L2 MF
/-! # steps of pairs -/
def stepD (w a b : Nat) (s : Bool) : D := .tup [.int (w : Int), .tup [.int (a : Int), .int (b : Int)], .int (if s then 1 else 0)]
def spB (M : List (List Int)) (j k a b : Nat) : Bool := decide ((j : Int) = (k : Int)) && (!decide ((a : Int) = (b : Int)) || decide (1 < ent M j a))
def pst3 (M : List (List Int)) (w j k a : Nat) (l : List Nat) : List D := l.map fun b => stepD w a b (spB M j k a b)
def pst2 (n : Nat) (M : List (List Int)) (w j k : Nat) (l : List Nat) : List D := l.flatMap fun a => pst3 M w j k a (posOf n M k)
def pst1 (n : Nat) (Ms : List (List (List Int))) (j k c : Nat) : List D := (List.range c).flatMap fun w => pst2 n (tbAt Ms w) w j k (posOf n (tbAt Ms w) j)
theorem pst3_app (M : List (List Int)) (w j k a b : Nat) (l : List Nat) : pst3 M w j k a (l ++ [b]) = pst3 M w j k a l ++ [stepD w a b (spB M j k a b)] := by unfold pst3; rw [List.map_append]; rfl
theorem pst2_app (n : Nat) (M : List (List Int)) (w j k a : Nat) (l : List Nat) : pst2 n M w j k (l ++ [a]) = pst2 n M w j k l ++ pst3 M w j k a (posOf n M k) := by unfold pst2; rw [List.flatMap_append, List.flatMap_singleton]
theorem pst1_succ (n : Nat) (Ms : List (List (List Int))) (j k c : Nat) : pst1 n Ms j k (c + 1) = pst1 n Ms j k c ++ pst2 n (tbAt Ms c) c j k (posOf n (tbAt Ms c) j) := by unfold pst1; rw [List.range_succ, List.flatMap_append, List.flatMap_singleton]
theorem posOf_len (n : Nat) (M : List (List Int)) (i : Nat) : (posOf n M i).length ≤ n := by
  unfold posOf
  have := List.length_filter_le (fun j => decide (0 < ent M i j)) (List.range n)
  rwa [List.length_range] at this
theorem pst3_len (M : List (List Int)) (w j k a : Nat) (l : List Nat) : (pst3 M w j k a l).length = l.length := by unfold pst3; rw [List.length_map]
theorem pst2_len {n : Nat} {M : List (List Int)} {w j k : Nat} : ∀ {l : List Nat}, (pst2 n M w j k l).length ≤ l.length * n
  | [] => by simp [pst2]
  | a :: l => by
    have := pst2_len (n := n) (M := M) (w := w) (j := j) (k := k) (l := l)
    have h1 := posOf_len n M k
    unfold pst2 at this ⊢
    rw [List.flatMap_cons, List.length_append, pst3_len, List.length_cons, Nat.succ_mul]
    omega
theorem pst1_len {n : Nat} {Ms : List (List (List Int))} {j k : Nat} (h : n ≤ 6) : ∀ {c : Nat}, (pst1 n Ms j k c).length ≤ c * 36
  | 0 => by simp [pst1]
  | c + 1 => by
    have := pst1_len (Ms := Ms) (j := j) (k := k) h (c := c)
    have h1 := pst2_len (n := n) (M := tbAt Ms c) (w := c) (j := j) (k := k) (l := posOf n (tbAt Ms c) j)
    have h2 := posOf_len n (tbAt Ms c) j
    have h3 : (posOf n (tbAt Ms c) j).length * n ≤ 6 * 6 := Nat.mul_le_mul (by omega) h
    rw [pst1_succ, List.length_append]
    omega
def prsOf (n a b : Nat) : List (List Int) := (List.range a).flatMap (fun (j : Nat) => (List.range n).map fun (k : Nat) => [(j : Int), (k : Int)]) ++ (List.range b).map fun (k : Nat) => [(a : Int), (k : Int)]
def pstF (n : Nat) (Ms : List (List (List Int))) : List Int → D
  | [j, k] => .lst (pst1 n Ms j.toNat k.toNat Ms.length)
  | _ => .non
theorem sup_idx {n : Nat} {Ms : List (List (List Int))} {a : Nat} (ha : a < Ms.length) : dIdx (supD n Ms) (.int (a : Int)) = some (supR n (tbAt Ms a)) := idx_nat (by rw [List.getElem?_map, (tbAt_mem ha).1]; rfl)
theorem supR_idx {n : Nat} {M : List (List Int)} {i : Nat} (hi : i < n) : dIdx (supR n M) (.int (i : Int)) = some (.lst (natsD (posOf n M i))) := idx_nat (by rw [List.getElem?_map, List.getElem?_range hi]; rfl)
theorem tbl_idx {n : Nat} {Ms : List (List (List Int))} {a : Nat} (ha : a < Ms.length) : dIdx (.tup (Ms.map (tblO n))) (.int (a : Int)) = some (tblO n (tbAt Ms a)) := idx_tup (by rw [List.getElem?_map, (tbAt_mem ha).1]; rfl)
theorem bk_len {n : Nat} {ks rn : List Str} {Ms : List (List (List Int))} (b : BkOk n ks rn Ms) {ρ : List MF.Loc} {S : List D} {Q : Val → MF.M → Prop} : kLenO ("Book" : Str) m_Book_len Q [.t (bkD n ks rn Ms)] ⟨ρ, S⟩ = Q (.t (.int (Ms.length : Int))) ⟨ρ, S⟩ := kLenO_ok (book_len b S) (decide_eq_true ⟨by omega, by have := b.c4; omega⟩)
theorem pos_lt {n : Nat} {M : List (List Int)} {i j : Nat} (h : j ∈ posOf n M i) : j < n := List.mem_range.mp (List.mem_filter.mp h).1
theorem prs_succ (n a b : Nat) : prsOf n a (b + 1) = prsOf n a b ++ [[(a : Int), (b : Int)]] := by unfold prsOf; rw [List.range_succ, List.map_append, List.append_assoc]; rfl
theorem prs_row (n a : Nat) : prsOf n a n = prsOf n (a + 1) 0 := by unfold prsOf; rw [List.range_succ, List.flatMap_append, List.flatMap_singleton]; simp
theorem prs_mem {n a b : Nat} {j k : Nat} : [(j : Int), (k : Int)] ∈ prsOf n a b ↔ (j < a ∧ k < n) ∨ (j = a ∧ k < b) := by
  unfold prsOf
  simp only [List.mem_append, List.mem_flatMap, List.mem_map, List.mem_range, List.cons.injEq, and_true, Int.natCast_inj]
  constructor
  · rintro (⟨x, hx, y, hy, rfl, rfl⟩ | ⟨y, hy, rfl, rfl⟩)
    · exact .inl ⟨hx, hy⟩
    · exact .inr ⟨rfl, hy⟩
  · rintro (⟨h1, h2⟩ | ⟨rfl, h2⟩)
    · exact .inl ⟨j, h1, k, h2, rfl, rfl⟩
    · exact .inr ⟨k, h2, rfl, rfl⟩
theorem prs_len {n a b : Nat} (h : n ≤ 6) (ha : a ≤ 6) (hb : b ≤ 6) : (prsOf n a b).length ≤ 42 := by
  unfold prsOf
  have := flat_len 6 (fun (j : Nat) => (List.range n).map fun (k : Nat) => [(j : Int), (k : Int)]) (List.range a) (fun x _ => by rw [List.length_map, List.length_range]; exact h)
  rw [List.length_range] at this
  rw [List.length_append, List.length_map, List.length_range]
  omega
theorem pair_steps_ok {n : Nat} {ks rn : List Str} {Ms : List (List (List Int))} (b : BkOk n ks rn Ms) (S : List D) : m_pair_steps [.t (bkD n ks rn Ms)] S = some (.t (dtD (prsOf n n 0) (pstF n Ms)), S) := by
  have n6 := b.n6
  have c4 := b.c4
  unfold m_pair_steps
  refine fn_eq rfl ?_
  unfold b_pair_steps
  simp only [↓wr, wq, wl, eq_self, true_and, and_true, book_kinds, List.length_map, b.kl, supports_ok b]
  rw [kRg1_nat (by omega), kFor_eq]
  refine wp_range (fun j m => ∃ l4 l5 l6 l7 l8 l9 l10 l11, m = ⟨[.t (bkD n ks rn Ms), .t (.int n), .t (supD n Ms), .own (dtD (prsOf n j 0) (pstF n Ms)), l4, l5, l6, l7, l8, l9, l10, l11], S⟩) ⟨_, _, _, _, _, _, _, _, rfl⟩ ?_ ?_
  · rintro j m hj ⟨l4, l5, l6, l7, l8, l9, l10, l11, rfl⟩
    simp only [↓wr, wq, wl, eq_self, true_and, and_true]
    rw [kRg1_nat (by omega), kFor_eq]
    refine wp_range (fun k m => ∃ l5 l6 l7 l8 l9 l10 l11, m = ⟨[.t (bkD n ks rn Ms), .t (.int n), .t (supD n Ms), .own (dtD (prsOf n j k) (pstF n Ms)), .t (.int j), l5, l6, l7, l8, l9, l10, l11], S⟩) ⟨_, _, _, _, _, _, _, rfl⟩ ?_ ?_
    · rintro k m hk ⟨l5, l6, l7, l8, l9, l10, l11, rfl⟩
      simp only [↓wr, wq, wl, eq_self, true_and, and_true, bk_len b]
      rw [kRg1_nat (by omega), kFor_eq]
      refine wp_range (fun w m => ∃ l7 l8 l9 l10 l11, m = ⟨[.t (bkD n ks rn Ms), .t (.int n), .t (supD n Ms), .own (dtD (prsOf n j k) (pstF n Ms)), .t (.int j), .t (.int k), .own (.lst (pst1 n Ms j k w)), l7, l8, l9, l10, l11], S⟩) ⟨_, _, _, _, _, rfl⟩ ?_ ?_
      · rintro w m hw ⟨l7, l8, l9, l10, l11, rfl⟩
        have t := b.tb _ (tbAt_mem hw).2
        have z1 := pst1_len (Ms := Ms) (j := j) (k := k) n6 (c := w)
        simp only [↓wr, wq, wl, eq_self, true_and, and_true, book_tables, tbl_idx hw, tbl_rows, sup_idx hw, supR_idx hj]
        refine wp_for (fun pre m => ∃ l9 l10 l11, m = ⟨[.t (bkD n ks rn Ms), .t (.int n), .t (supD n Ms), .own (dtD (prsOf n j k) (pstF n Ms)), .t (.int j), .t (.int k), .own (.lst (pst1 n Ms j k w ++ pst2 n (tbAt Ms w) w j k pre)), .t (.int w), .t (tabD (tbAt Ms w)), l9, l10, l11], S⟩) ⟨_, _, _, by rw [show pst2 n (tbAt Ms w) w j k [] = [] from rfl, List.append_nil]⟩ ?_ ?_
        · rintro pre x post m e ⟨l9, l10, l11, rfl⟩
          have hx : x < n := pos_lt (e ▸ List.mem_append_right _ List.mem_cons_self : x ∈ posOf n (tbAt Ms w) j)
          have z2 := pst2_len (n := n) (M := tbAt Ms w) (w := w) (j := j) (k := k) (l := pre)
          have z3 : pre.length ≤ n := by have h1 := posOf_len n (tbAt Ms w) j; rw [e, List.length_append] at h1; omega
          have z4 : pre.length * n ≤ 6 * 6 := Nat.mul_le_mul (by omega) n6
          simp only [↓wr, wq, wl, eq_self, true_and, and_true, sup_idx hw, supR_idx hk]
          refine wp_for (fun pre2 m => ∃ l10 l11, m = ⟨[.t (bkD n ks rn Ms), .t (.int n), .t (supD n Ms), .own (dtD (prsOf n j k) (pstF n Ms)), .t (.int j), .t (.int k), .own (.lst (pst1 n Ms j k w ++ pst2 n (tbAt Ms w) w j k pre ++ pst3 (tbAt Ms w) w j k x pre2)), .t (.int w), .t (tabD (tbAt Ms w)), .t (.int x), l10, l11], S⟩) ⟨_, _, by rw [show pst3 (tbAt Ms w) w j k x [] = [] from rfl, List.append_nil]⟩ ?_ ?_
          · rintro pre2 y post2 m e2 ⟨l10, l11, rfl⟩
            have z5 : pre2.length ≤ n := by have h1 := posOf_len n (tbAt Ms w) k; rw [e2, List.length_append] at h1; omega
            simp only [↓wr, wq, wl, eq_self, true_and, and_true]
            refine kV2_and (q := !decide ((x : Int) = (y : Int)) || decide (1 < ent (tbAt Ms w) j x)) (fun _ => ?_) ?_
            · simp only [↓wr, wq, wl, eq_self, true_and, and_true]
              refine kV2_or (q := decide (1 < ent (tbAt Ms w) j x)) (fun _ => ?_) ?_
              · simp only [↓wr, wq, wl, eq_self, true_and, and_true, tab_idx t hj, row_idx t hj hx]
              · simp only [↓wr, wq, wl, eq_self, true_and, and_true]
            · simp only [↓wr, wq, wl, eq_self, true_and, and_true]
              refine wG_sz (by rw [List.length_append, List.length_append, pst3_len]; omega) ?_
              rw [pst3_app]
              exact ⟨_, _, by rw [← List.append_assoc]; rfl⟩
          · rintro m ⟨l10, l11, rfl⟩
            simp only [↓wr, wq, wl, eq_self, true_and, and_true]
            rw [pst2_app]
            exact ⟨_, _, _, by rw [← List.append_assoc]⟩
        · rintro m ⟨l9, l10, l11, rfl⟩
          simp only [↓wr, wq, wl, eq_self, true_and, and_true]
          rw [pst1_succ]
          exact ⟨_, _, _, _, _, rfl⟩
      · rintro m ⟨l7, l8, l9, l10, l11, rfl⟩
        have hp := dt_put (f := pstF n Ms) (k := [(j : Int), (k : Int)]) (ks := prsOf n j k) (fun h => by rcases prs_mem.mp h with h | h <;> omega) (by have := prs_len (n := n) (a := j) (b := k) n6 (by omega) (by omega); omega)
        rw [show rowD [(j : Int), (k : Int)] = .tup [.int j, .int k] from rfl, show pstF n Ms [(j : Int), (k : Int)] = .lst (pst1 n Ms j k Ms.length) from rfl] at hp
        simp only [↓wr, wq, wl, eq_self, true_and, and_true, hp]
        rw [prs_succ]
        exact ⟨_, _, _, _, _, _, _, rfl⟩
    · rintro m ⟨l5, l6, l7, l8, l9, l10, l11, rfl⟩
      simp only [↓wr, wq, wl, eq_self, true_and, and_true]
      rw [prs_row]
      exact ⟨_, _, _, _, _, _, _, _, rfl⟩
  · rintro m ⟨l4, l5, l6, l7, l8, l9, l10, l11, rfl⟩
    simp only [↓wr, wq, wl, eq_self, true_and, and_true]
end Z09
set_option Elab.async false
set_option linter.all false
set_option maxRecDepth 100000
set_option maxHeartbeats 4000000
namespace Z09
open PySem L2 MF
theorem wp_lcD {own : List Nat} {tg : MF.Arg → E Unit} {ifs : E Bool} {elt : E Val} {ρ : List MF.Loc} {S : List D} {Q : D → MF.M → Prop} {l : List D} (f : D → D) (hz : l.length ≤ 16000000) (step : ∀ a, a ∈ l → Wp (lcTurn tg ifs elt a) ⟨wipeL own ρ, S⟩ (lcK own ρ fun o S' => o = some (f a) ∧ S' = S)) (done : Q (.lst (l.map f)) ⟨restL ρ own ρ, S⟩) : kLc own tg ifs elt Q l ⟨ρ, S⟩ := by
  have := wp_lcM (tD := fun d : D => d) (l := l) f hz step done
  rwa [List.map_id'] at this
/-! # frozen -/
mutual
def frz : D → D
  | .tup xs => .tup (frzs xs)
  | .lst xs => .tup (frzs xs)
  | d => d
def frzs : List D → List D
  | [] => []
  | d :: ds => frz d :: frzs ds
end
theorem frzs_map : ∀ ds : List D, frzs ds = ds.map frz
  | [] => rfl
  | d :: ds => by show frz d :: frzs ds = _; rw [frzs_map ds]; rfl
def fzOk : Nat → D → Bool
  | 0, _ => false
  | n + 1, .tup xs => decide (xs.length ≤ 16000000) && xs.all (fzOk n)
  | n + 1, .lst xs => decide (xs.length ≤ 16000000) && xs.all (fzOk n)
  | _ + 1, .non => true
  | _ + 1, .bl _ => true
  | _ + 1, .int _ => true
  | _ + 1, .str _ => true
  | _ + 1, .obj _ _ => true
  | _ + 1, _ => false
theorem isi_seq_tup (xs : List D) : dIsi (.tup xs) (.tup [.ty "tuple", .ty "list"]) = some (.bl true) := rfl
theorem isi_seq_lst (xs : List D) : dIsi (.lst xs) (.tup [.ty "tuple", .ty "list"]) = some (.bl true) := rfl
theorem isi_seq_non : dIsi .non (.tup [.ty "tuple", .ty "list"]) = some (.bl false) := rfl
theorem isi_seq_bl (b : Bool) : dIsi (.bl b) (.tup [.ty "tuple", .ty "list"]) = some (.bl false) := rfl
theorem isi_seq_int (b : Int) : dIsi (.int b) (.tup [.ty "tuple", .ty "list"]) = some (.bl false) := rfl
theorem isi_seq_str (b : Str) : dIsi (.str b) (.tup [.ty "tuple", .ty "list"]) = some (.bl false) := rfl
theorem isi_seq_obj (c : Str) (fs : List (Str × D)) : dIsi (.obj c fs) (.tup [.ty "tuple", .ty "list"]) = some (.bl false) := rfl
theorem dTuple_lst (xs : List D) : dTuple (.lst xs) = some (.tup xs) := rfl
theorem dTuple_tup (xs : List D) : dTuple (.tup xs) = some (.tup xs) := rfl
theorem dList_lst (xs : List D) : dList (.lst xs) = some (.lst xs) := rfl
theorem dList_tup (xs : List D) : dList (.tup xs) = some (.lst xs) := rfl
theorem frozen_seq {n : Nat} {d : D} {xs : List D} {S : List D} (hi : dIsi d (.tup [.ty "tuple", .ty "list"]) = some (.bl true)) (hs : itemsOf d = some xs) (hz : xs.length ≤ 16000000) (h : ∀ x ∈ xs, m_frozen n [.t x] S = some (.t (frz x), S)) : m_frozen (n + 1) [.t d] S = some (.t (.tup (frzs xs)), S) := by
  unfold m_frozen
  refine fn_eq rfl ?_
  unfold b_frozen
  simp only [↓wr, wq, wl, eq_self, true_and, and_true, hi, hs]
  refine wp_lcD frz hz (fun x hx => by simp only [↓wr, wq, wl, eq_self, true_and, and_true, h x hx]) ?_
  simp only [↓wr, wq, wl, eq_self, true_and, and_true, dTuple_lst]
  exact congrArg D.tup (frzs_map xs).symm
theorem frozen_atom {n : Nat} {d : D} {S : List D} (hi : dIsi d (.tup [.ty "tuple", .ty "list"]) = some (.bl false)) : m_frozen (n + 1) [.t d] S = some (.t d, S) := by
  unfold m_frozen
  refine fn_eq rfl ?_
  unfold b_frozen
  simp only [↓wr, wq, wl, eq_self, true_and, and_true, hi]
theorem frozen_ok (S : List D) : ∀ (n : Nat) (d : D), fzOk n d = true → m_frozen n [.t d] S = some (.t (frz d), S)
  | 0, _, h => by cases h
  | n + 1, d, h => by
    cases d with
    | tup xs =>
      unfold fzOk at h
      rw [Bool.and_eq_true, List.all_eq_true] at h
      exact frozen_seq (isi_seq_tup xs) rfl (of_decide_eq_true h.1) fun x hx => frozen_ok S n x (h.2 x hx)
    | lst xs =>
      unfold fzOk at h
      rw [Bool.and_eq_true, List.all_eq_true] at h
      exact frozen_seq (isi_seq_lst xs) rfl (of_decide_eq_true h.1) fun x hx => frozen_ok S n x (h.2 x hx)
    | non => exact frozen_atom isi_seq_non
    | bl b => exact frozen_atom (isi_seq_bl b)
    | int i => exact frozen_atom (isi_seq_int i)
    | str i => exact frozen_atom (isi_seq_str i)
    | obj c fs => exact frozen_atom (isi_seq_obj c fs)
    | ktup xs => cases h
    | scr xs => cases h
    | dk xs => cases h
    | dt xs => cases h
    | ty xs => cases h
    | kls xs => cases h
end Z09
set_option Elab.async false
set_option linter.all false
set_option maxRecDepth 100000
set_option maxHeartbeats 4000000
namespace Z09
open PySem L2 MF
/-! # calm books -/
theorem wp_forD {tg : MF.Arg → E Unit} {body : E Ctl} {m : MF.M} {l : List D} {Q : Ctl → MF.M → Prop} (I : MF.M → Prop) (h0 : I m) (step : ∀ d m, d ∈ l → I m → Wp (turn tg body d) m (stepK I Q)) (done : ∀ m, I m → Q .nx m) : Wp (forLoop tg body l) m Q := by
  have := wp_forI (tD := fun d : D => d) (l := l) I h0 step done
  rwa [List.map_id'] at this
def Calm (n : Nat) (Ms : List (List (List Int))) : Prop := ∀ M ∈ Ms, ∀ j a b, j < n → a ∈ posOf n M j → b ∈ posOf n M j → a = b ∧ ent M j a ≤ 1
theorem spl_calm {n : Nat} {Ms : List (List (List Int))} (h : Calm n Ms) : spl n Ms = [] := by
  refine flat_nil fun w hw => flat_nil fun j hj => flat_nil fun a ha => flat_nil fun b hb => ?_
  have hw := List.mem_range.mp hw
  have hj := List.mem_range.mp hj
  have hc := h _ (tbAt_mem hw).2 j
  unfold F3
  rw [if_neg]
  unfold Qc
  intro q
  rw [Bool.or_eq_true, Bool.and_eq_true, Bool.and_eq_true, Bool.and_eq_true, decide_eq_true_eq, decide_eq_true_eq, decide_eq_true_eq, decide_eq_true_eq, decide_eq_true_eq] at q
  have pos : ∀ x, x ∈ List.range n → 0 < ent (tbAt Ms w) j x → x ∈ posOf n (tbAt Ms w) j := fun x hx h0 => List.mem_filter.mpr ⟨hx, decide_eq_true h0⟩
  rcases q with ⟨h1, h2, h3⟩ | ⟨rfl, h2⟩
  · have := (hc a b hj (pos a ha h2) (pos b hb h3)).1
    omega
  · have := (hc a a hj (pos a ha (by omega)) (pos a ha (by omega))).2
    omega
theorem pst_mem {n : Nat} {Ms : List (List (List Int))} {j k c : Nat} {d : D} (h : d ∈ pst1 n Ms j k c) : ∃ w a b, w < c ∧ a ∈ posOf n (tbAt Ms w) j ∧ b ∈ posOf n (tbAt Ms w) k ∧ d = stepD w a b (spB (tbAt Ms w) j k a b) := by
  obtain ⟨w, hw, h⟩ := List.mem_flatMap.mp h
  obtain ⟨a, ha, h⟩ := List.mem_flatMap.mp h
  obtain ⟨b, hb, rfl⟩ := List.mem_map.mp h
  exact ⟨w, a, b, List.mem_range.mp hw, ha, hb, rfl⟩
theorem calm_mem {n : Nat} {Ms : List (List (List Int))} (h : Calm n Ms) {j k : Nat} (hj : j < n) {d : D} (hd : d ∈ pst1 n Ms j k Ms.length) : ∃ w a b, a < n ∧ b < n ∧ d = stepD w a b false := by
  obtain ⟨w, a, b, hw, ha, hb, rfl⟩ := pst_mem hd
  refine ⟨w, a, b, pos_lt ha, pos_lt hb, ?_⟩
  congr 1
  unfold spB
  by_cases e : j = k
  · subst e
    obtain ⟨rfl, h2⟩ := h _ (tbAt_mem hw).2 j a b hj ha hb
    rw [decide_eq_true (rfl : (a : Int) = a), decide_eq_false (show ¬ 1 < ent (tbAt Ms w) j a by omega)]
    simp
  · rw [decide_eq_false (show ¬ (j : Int) = (k : Int) by omega)]; rfl
theorem pr_idx {n j k : Nat} {f : List Int → D} (hj : j < n) (hk : k < n) : dIdx (dtD (prsOf n n 0) f) (.tup [.int (j : Int), .int (k : Int)]) = some (f [(j : Int), (k : Int)]) := dt_idx (k := [(j : Int), (k : Int)]) (prs_mem.mpr (.inl ⟨hj, hk⟩))
theorem dbl_found {n : Nat} {ks rn : List Str} {Ms : List (List (List Int))} (b : BkOk n ks rn Ms) (hc : Calm n Ms) (S : List D) : m_doublings_found [.t (bkD n ks rn Ms)] S = some (.t (.dk []), S) := by
  have n6 := b.n6
  unfold m_doublings_found
  refine fn_eq rfl ?_
  unfold b_doublings_found
  simp only [↓wr, wq, wl, eq_self, true_and, and_true, pair_steps_ok b, book_kinds, List.length_map, b.kl]
  rw [kRg1_nat (by omega), kFor_eq]
  refine wp_range (fun k m => ∃ l3 l4 l5 l6 l7 l8, m = ⟨[.t (bkD n ks rn Ms), .t (dtD (prsOf n n 0) (pstF n Ms)), .own (.dk []), l3, l4, l5, l6, l7, l8], S⟩) ⟨_, _, _, _, _, _, rfl⟩ ?_ ?_
  · rintro k m hk ⟨l3, l4, l5, l6, l7, l8, rfl⟩
    simp only [↓wr, wq, wl, eq_self, true_and, and_true, pr_idx (f := pstF n Ms) hk hk]
    refine wp_forD (fun m => ∃ l5 l6 l7, m = ⟨[.t (bkD n ks rn Ms), .t (dtD (prsOf n n 0) (pstF n Ms)), .own (.dk []), .t (.int k), .own (.lst []), l5, l6, l7, l8], S⟩) ⟨_, _, _, rfl⟩ ?_ ?_
    · rintro d m hd ⟨l5, l6, l7, rfl⟩
      obtain ⟨w, x, y, hx, hy, rfl⟩ := calm_mem hc hk hd
      simp only [↓wr, wq, wl, eq_self, true_and, and_true, stepD, Bool.false_eq_true, if_false, Int.reduceEq, decide_false]
      exact ⟨_, _, _, rfl⟩
    · rintro m ⟨l5, l6, l7, rfl⟩
      simp only [↓wr, wq, wl, eq_self, true_and, and_true, Int.lt_irrefl, decide_false]
      exact ⟨_, _, _, _, _, _, rfl⟩
  · rintro m ⟨l3, l4, l5, l6, l7, l8, rfl⟩
    simp only [↓wr, wq, wl, eq_self, true_and, and_true]
theorem len_dk0 : dLen (.dk []) = some (.int 0) := rfl
theorem isNot_non : dIsNot .non .non = some (.bl false) := rfl
theorem shortest_calm {n : Nat} {ks rn : List Str} {Ms : List (List (List Int))} (b : BkOk n ks rn Ms) (hc : Calm n Ms) (S : List D) : m_shortest_doubling [.t (bkD n ks rn Ms)] S = some (.t .non, S) := by
  unfold m_shortest_doubling
  refine fn_eq rfl ?_
  unfold b_shortest_doubling
  simp only [↓wr, wq, wl, eq_self, true_and, and_true, dbl_found b hc, len_dk0, decide_true]
theorem doubles_calm {n : Nat} {ks rn : List Str} {Ms : List (List (List Int))} (b : BkOk n ks rn Ms) (hc : Calm n Ms) (S : List D) : m_doubles [.t (bkD n ks rn Ms)] S = some (.t (.bl false), S) := by
  unfold m_doubles
  refine fn_eq rfl ?_
  unfold b_doubles
  simp only [↓wr, wq, wl, eq_self, true_and, and_true, shortest_calm b hc, isNot_non]
theorem maxI_zero : ∀ l : List Int, (∀ x ∈ l, x = 0) → maxI 0 l = 0
  | [], _ => rfl
  | x :: l, h => by
    have := h x List.mem_cons_self
    subst this
    show maxI (if (0 : Int) > 0 then 0 else 0) l = 0
    rw [if_neg (by decide)]
    exact maxI_zero l fun y hy => h y (List.mem_cons_of_mem _ hy)
theorem max_zeros {α : Type} (l : List α) : dMax1 (.lst ([D.int 0] ++ l.map fun _ => D.int 0)) = some (.int 0) := by
  have e : [D.int 0] ++ l.map (fun _ => D.int 0) = ((0 : Int) :: l.map fun _ => (0 : Int)).map D.int := by rw [List.map_cons, List.map_map]; rfl
  have h2 : maxI 0 (l.map fun _ => (0 : Int)) = 0 := maxI_zero _ fun x hx => by obtain ⟨_, _, rfl⟩ := List.mem_map.mp hx; rfl
  rw [e]
  show (intsD (((0 : Int) :: l.map fun _ => (0 : Int)).map D.int)).bind _ = _
  rw [intsD_map]
  show some (D.int (maxI 0 (l.map fun _ => (0 : Int)))) = _
  rw [h2]
def edgD (p : Nat × Nat) : D := .tup [.tup [.int (p.1 : Int), .int (p.2 : Int)], .int 0]
def zeroF : List Int → D := fun _ => .int 0
theorem highest_calm {ks : List (List Int)} {f : List Int → D} (hz : ks.length ≤ 1000) (nd : ks.Nodup) (hf : ∀ k ∈ ks, ∃ l : List (Nat × Nat), f k = .lst (l.map edgD) ∧ l.length ≤ 1000 ∧ ∀ p ∈ l, [(p.1 : Int), (p.2 : Int)] ∈ ks) (S : List D) : m_highest [.t (dtD ks f)] S = some (.t (dtD ks zeroF), S) := by
  unfold m_highest
  refine fn_eq rfl ?_
  unfold b_highest
  simp only [↓wr, wq, wl, eq_self, true_and, and_true, dt_keys]
  refine wp_dc (tD := rowD) (l := ks) (fun pre acc S' => acc = dtD pre zeroF ∧ S' = S) ⟨rfl, rfl⟩ ?_ ?_
  · rintro pre a post acc S' e ⟨rfl, rfl⟩
    have ha : a ∉ pre := fun hm => by rw [e] at nd; exact (List.nodup_append.mp nd).2.2 a hm a List.mem_cons_self rfl
    have hl : pre.length ≤ 1000 := by have := congrArg List.length e; rw [List.length_append] at this; omega
    have hp := dt_put (f := zeroF) ha hl
    rw [show zeroF a = .int 0 from rfl] at hp
    simp only [↓wr, wq, wl, eq_self, true_and, and_true, hp]
  · rintro r S' ⟨rfl, rfl⟩
    simp only [↓wr, wq, wl, eq_self, true_and, and_true, w_while, dt_keys]
    refine wp_forI (tD := rowD) (l := ks) (fun m => ∃ l2 l4, m = ⟨[.t (dtD ks f), .own (dtD ks zeroF), l2, .t (.bl false), l4, .un, .un], S'⟩) ⟨_, _, rfl⟩ ?_ ?_
    · rintro a m ha ⟨l2, l4, rfl⟩
      obtain ⟨l, e1, hl, hm⟩ := hf a ha
      have i1 : dIdx (dtD ks zeroF) (rowD a) = some (.int 0) := dt_idx ha
      have i2 : dIdx (dtD ks f) (rowD a) = some (.lst (l.map edgD)) := by rw [dt_idx ha, e1]
      simp only [↓wr, wq, wl, eq_self, true_and, and_true, i1, i2]
      refine wp_lcM (fun _ => .int 0) (by omega) (fun p hp => ?_) ?_
      · have i3 : dIdx (dtD ks zeroF) (.tup [.int (p.1 : Int), .int (p.2 : Int)]) = some (.int 0) := dt_idx (hm p hp)
        simp only [↓wr, wq, wl, eq_self, true_and, and_true, edgD, i3, Int.add_zero]
      · simp only [↓wr, wq, wl, eq_self, true_and, and_true]
        refine wG_sz (by rw [List.length_map]; omega) ?_
        simp only [↓wr, wq, wl, eq_self, true_and, and_true, max_zeros, i1, Int.lt_irrefl, decide_false]
        exact ⟨_, _, rfl⟩
    · rintro m ⟨l2, l4, rfl⟩
      simp only [↓wr, wq, wl, eq_self, true_and, and_true, w_while]
theorem nodup_prs (n : Nat) : (prsOf n n 0).Nodup := by
  unfold prsOf
  rw [List.range_zero, List.map_nil, List.append_nil]
  show List.Pairwise (· ≠ ·) _
  rw [List.pairwise_flatMap]
  refine ⟨fun j _ => ?_, ?_⟩
  · rw [List.pairwise_map]
    exact List.pairwise_lt_range.imp fun {a b} h e => by
      have := List.cons.inj (List.cons.inj e).2
      omega
  · exact List.pairwise_lt_range.imp fun {a b} h x hx y hy e => by
      obtain ⟨k, _, rfl⟩ := List.mem_map.mp hx
      obtain ⟨k', _, rfl⟩ := List.mem_map.mp hy
      have := (List.cons.inj e).1
      omega
end Z09
set_option Elab.async false
set_option linter.all false
set_option maxRecDepth 100000
set_option maxHeartbeats 4000000
namespace Z09
open PySem L2 MF
/-! # papers are made -/
def initK (S : List D) (d : D) (c : Ctl) (m : MF.M) : Prop := (c = .nx ∨ c = .rt (.t .non)) ∧ m.S = S ++ [d]
theorem initK_nx {S S' : List D} {d : D} {ρ : List MF.Loc} : initK S d .nx ⟨ρ, S'⟩ = (S' = S ++ [d]) := propext ⟨fun h => h.2, fun h => ⟨.inl rfl, h⟩⟩
theorem init_eq {np nl : Nat} {body : E Ctl} {as : List MF.Arg} {S : List D} {o d : D} (hn : as.length = np) (h : Wp body ⟨as.map Arg.loc ++ List.replicate nl .un, S ++ [o]⟩ (initK S d)) : mkFn np nl body as (S ++ [o]) = some (.t .non, S ++ [d]) := by
  obtain ⟨c, m', e, h1, h2⟩ := wp_ex h
  have ht : (S ++ [d]).take (S ++ [o]).length = S ++ [d] := List.take_of_length_le (by rw [List.length_append, List.length_append]; exact Nat.le_refl _)
  rcases h1 with rfl | rfl
  · rw [mkFn_nx hn e, h2, ht]
  · rw [mkFn_rt hn e, h2, ht]
theorem heights_make {d : D} (h : fzOk 6 d = true) (S : List D) : m_Heights_init [.s S.length, .t d] (S ++ [.obj ("Heights" : Str) []]) = some (.t .non, S ++ [.obj ("Heights" : Str) [(("rows" : Str), frz d)]]) := by
  unfold m_Heights_init
  refine init_eq rfl ?_
  unfold b_Heights_init
  simp only [↓wr, wN_t, wN_s, lg0, lgS, amS, am0, loc_t, loc_s, lr0, lrS, la0, laS, wArg_t, wFn_t, wAsD_t, frozen_ok _ 6 d h]
  rw [wFl_last (c' := .obj ("Heights" : Str) [(("rows" : Str), frz d)]) (by kernel_rfl), initK_nx]
theorem frz_row (k : List Int) : frz (rowD k) = rowD k := by
  show D.tup (frzs (k.map .int)) = _
  rw [frzs_map, List.map_map]; rfl
theorem fz_row {n : Nat} {k : List Int} (h : k.length ≤ 16000000) : fzOk (n + 2) (rowD k) = true := by
  show (decide ((k.map D.int).length ≤ 16000000) && (k.map D.int).all (fzOk (n + 1))) = true
  rw [List.length_map, decide_eq_true h, List.all_map]
  exact List.all_eq_true.mpr fun x _ => rfl
def hrow (k : List Int) (i : Int) : D := .tup [rowD k, .int i]
theorem frz_hrow (k : List Int) (i : Int) : frz (hrow k i) = hrow k i := by
  show D.tup [frz (rowD k), .int i] = _
  rw [frz_row]; rfl
theorem fz_hrow {n : Nat} {k : List Int} {i : Int} (h : k.length ≤ 16000000) : fzOk (n + 3) (hrow k i) = true := by
  show (decide (2 ≤ 16000000) && [rowD k, .int i].all (fzOk (n + 2))) = true
  rw [List.all_cons, fz_row h]; rfl
theorem sort_hrows {rs : List (Nat × Nat × Int)} : sortOk (rs.map fun r => hrow [(r.1 : Int), (r.2.1 : Int)] r.2.2) = true := by
  unfold sortOk alikeB
  rw [Bool.and_eq_true, Bool.and_eq_true, Bool.or_eq_true]
  refine ⟨List.all_eq_true.mpr fun d hd => List.all_eq_true.mpr fun e he => ?_, List.all_eq_true.mpr fun d hd => ?_, .inl (List.all_eq_true.mpr fun d hd => ?_)⟩
  · obtain ⟨u, _, rfl⟩ := List.mem_map.mp hd
    obtain ⟨v, _, rfl⟩ := List.mem_map.mp he
    rfl
  · obtain ⟨u, _, rfl⟩ := List.mem_map.mp hd
    rfl
  · obtain ⟨u, _, rfl⟩ := List.mem_map.mp hd
    rfl
theorem sortD_perm (ds : List D) : (sortD ds).Perm ds := List.mergeSort_perm ds leD
theorem flat_len_eq {α β : Type} (B : Nat) (f : α → List β) : ∀ (l : List α), (∀ a ∈ l, (f a).length = B) → (l.flatMap f).length = l.length * B
  | [], _ => by simp
  | a :: l, h => by
    rw [List.flatMap_cons, List.length_append, List.length_cons, Nat.succ_mul, h a List.mem_cons_self, flat_len_eq B f l fun x hx => h x (List.mem_cons_of_mem _ hx)]
    omega
theorem verdict_calm {n : Nat} {ks rn : List Str} {Ms : List (List (List Int))} (b : BkOk n ks rn Ms) (hc : Calm n Ms) (S : List D) : ∃ rows : List D, rows.length = n * n ∧ (∀ r ∈ rows, ∃ k, r = hrow k 0) ∧ m_growth_verdict [.t (bkD n ks rn Ms)] S = some (.t (.obj ("Heights" : Str) [(("rows" : Str), .tup rows)]), S) := by
  have n6 := b.n6
  have pm : ∀ k ∈ prsOf n n 0, ∃ x y : Nat, x < n ∧ y < n ∧ k = [(x : Int), (y : Int)] := fun k hk => by
    unfold prsOf at hk
    rw [List.range_zero, List.map_nil, List.append_nil] at hk
    obtain ⟨x, hx, hk⟩ := List.mem_flatMap.mp hk
    obtain ⟨y, hy, rfl⟩ := List.mem_map.mp hk
    exact ⟨x, y, List.mem_range.mp hx, List.mem_range.mp hy, rfl⟩
  have pl : (prsOf n n 0).length = n * n := by
    unfold prsOf
    rw [List.range_zero, List.map_nil, List.append_nil, flat_len_eq n _ _ (fun a _ => by rw [List.length_map, List.length_range]), List.length_range]
  let rows := sortD ((prsOf n n 0).map fun k => hrow k 0)
  have rm : ∀ r ∈ rows, ∃ k ∈ prsOf n n 0, r = hrow k 0 := fun r hr => by
    obtain ⟨k, hk, rfl⟩ := List.mem_map.mp ((sortD_perm _).mem_iff.mp hr)
    exact ⟨k, hk, rfl⟩
  have rl : rows.length = n * n := by rw [(sortD_perm _).length_eq, List.length_map, pl]
  refine ⟨rows, rl, fun r hr => let ⟨k, _, e⟩ := rm r hr; ⟨k, e⟩, ?_⟩
  have so : sortOk ((prsOf n n 0).map fun k => hrow k 0) = true := by
    have : (prsOf n n 0).map (fun k => hrow k 0) = ((prsOf n n 0).map (fun k => ((k[0]?.getD 0).toNat, (k[1]?.getD 0).toNat, (0 : Int)) : List Int → Nat × Nat × Int)).map fun (r : Nat × Nat × Int) => hrow [(r.1 : Int), (r.2.1 : Int)] r.2.2 := by
      rw [List.map_map]
      refine List.map_congr_left fun k hk => ?_
      obtain ⟨x, y, _, _, rfl⟩ := pm k hk
      simp
    rw [this]
    exact sort_hrows
  have sd : dSorted (.lst ((prsOf n n 0).map fun k => hrow k 0)) = some (.lst rows) := by
    show (if sortOk ((prsOf n n 0).map fun k => hrow k 0) then some (D.lst rows) else none) = _
    rw [if_pos so]
  have z1 : n * n ≤ 36 := Nat.mul_le_mul n6 n6
  have fr : frz (.lst rows) = .tup rows := by
    show D.tup (frzs rows) = _
    rw [frzs_map]
    congr 1
    refine (List.map_congr_left fun r hr => ?_).trans (List.map_id rows)
    obtain ⟨k, _, rfl⟩ := rm r hr
    exact frz_hrow k 0
  have fz : fzOk 6 (.lst rows) = true := by
    show (decide (rows.length ≤ 16000000) && rows.all (fzOk 5)) = true
    rw [decide_eq_true (by omega), Bool.true_and]
    refine List.all_eq_true.mpr fun r hr => ?_
    obtain ⟨k, hk, rfl⟩ := rm r hr
    obtain ⟨x, y, _, _, rfl⟩ := pm k hk
    exact fz_hrow (n := 2) (by simp)
  let eF : List Int → D := fun k => match pstF n Ms k with
    | .lst l => .lst (l.map fun d => match d with
      | .tup [_, q, s] => .tup [q, s]
      | d => d)
    | d => d
  have hE : ∀ k ∈ prsOf n n 0, ∃ l : List (Nat × Nat), eF k = .lst (l.map edgD) ∧ l.length ≤ 1000 ∧ ∀ p ∈ l, [(p.1 : Int), (p.2 : Int)] ∈ prsOf n n 0 := fun k hk => by
    obtain ⟨x, y, hx, hy, rfl⟩ := pm k hk
    have e1 : eF [(x : Int), (y : Int)] = .lst ((pst1 n Ms x y Ms.length).map fun d => match d with
      | .tup [_, q, s] => .tup [q, s]
      | d => d) := rfl
    have z2 := pst1_len (Ms := Ms) (j := x) (k := y) n6 (c := Ms.length)
    have : ∀ l : List D, (∀ d ∈ l, ∃ w a b, a < n ∧ b < n ∧ d = stepD w a b false) → ∃ l' : List (Nat × Nat), (l.map fun d => match d with
      | .tup [_, q, s] => .tup [q, s]
      | d => d) = l'.map edgD ∧ l'.length = l.length ∧ ∀ p ∈ l', p.1 < n ∧ p.2 < n := by
      intro l
      induction l with
      | nil => intro _; exact ⟨[], rfl, rfl, fun _ h => by cases h⟩
      | cons d l ih =>
        intro h
        obtain ⟨w, a, b, ha, hb, rfl⟩ := h d List.mem_cons_self
        obtain ⟨l', e, hl, hm⟩ := ih fun x hx => h x (List.mem_cons_of_mem _ hx)
        refine ⟨(a, b) :: l', by rw [List.map_cons, List.map_cons, e]; rfl, by rw [List.length_cons, List.length_cons, hl], fun p hp => ?_⟩
        rcases List.mem_cons.mp hp with rfl | hp
        · exact ⟨ha, hb⟩
        · exact hm p hp
    obtain ⟨l', e, hl, hm⟩ := this _ fun d hd => calm_mem hc hx hd
    have c4 := b.c4
    exact ⟨l', e1.trans (congrArg D.lst e), by omega, fun p hp => prs_mem.mpr (.inl (hm p hp))⟩
  unfold m_growth_verdict
  refine fn_eq rfl ?_
  unfold b_growth_verdict
  simp only [↓wr, wq, wl, eq_self, true_and, and_true, shortest_calm b hc, isNot_non, pair_steps_ok b, dt_keys]
  refine wp_dc (tD := rowD) (l := prsOf n n 0) (fun pre acc S' => acc = dtD pre eF ∧ S' = S) ⟨rfl, rfl⟩ ?_ ?_
  · rintro pre a post acc S' e ⟨rfl, rfl⟩
    have hk : a ∈ prsOf n n 0 := by rw [e]; exact List.mem_append_right _ List.mem_cons_self
    obtain ⟨x, y, hx, hy, rfl⟩ := pm a hk
    have nd := nodup_prs n
    have ha : [(x : Int), (y : Int)] ∉ pre := fun hm => by rw [e] at nd; exact (List.nodup_append.mp nd).2.2 _ hm _ List.mem_cons_self rfl
    have hl : pre.length ≤ 1000 := by have := congrArg List.length e; rw [pl, List.length_append] at this; omega
    have hp := dt_put (f := eF) ha hl
    have z2 := pst1_len (Ms := Ms) (j := x) (k := y) n6 (c := Ms.length)
    have c4 := b.c4
    have i2 : dIdx (dtD (prsOf n n 0) (pstF n Ms)) (rowD [(x : Int), (y : Int)]) = some (.lst (pst1 n Ms x y Ms.length)) := by rw [dt_idx hk]; rfl
    simp only [↓wr, wq, wl, eq_self, true_and, and_true, i2]
    refine wp_lcD (fun d => match d with
      | .tup [_, q, s] => .tup [q, s]
      | d => d) (by omega) (fun d hd => ?_) ?_
    · obtain ⟨w, u, v, hu, hv, rfl⟩ := calm_mem hc hx hd
      have i3 : dIdx (stepD w u v false) (.int 1) = some (.tup [.int u, .int v]) := rfl
      have i4 : dIdx (stepD w u v false) (.int 2) = some (.int 0) := rfl
      simp only [↓wr, wq, wl, eq_self, true_and, and_true, i3, i4]
      rfl
    · rw [show (D.lst ((pst1 n Ms x y Ms.length).map fun d => match d with
        | .tup [_, q, s] => .tup [q, s]
        | d => d)) = eF [(x : Int), (y : Int)] from rfl]
      simp only [↓wr, wq, wl, eq_self, true_and, and_true, hp]
  · rintro r S' ⟨rfl, rfl⟩
    have hi := highest_calm (ks := prsOf n n 0) (f := eF) (by omega) (nodup_prs n) hE S'
    simp only [↓wr, wq, wl, eq_self, true_and, and_true, hi, dt_keys]
    refine wp_lcM (tD := rowD) (l := prsOf n n 0) (fun k => hrow k 0) (by omega) (fun k hk => ?_) ?_
    · have i1 : dIdx (dtD (prsOf n n 0) zeroF) (rowD k) = some (.int 0) := dt_idx hk
      simp only [↓wr, wq, wl, eq_self, true_and, and_true, i1]
      rfl
    · simp only [↓wr, wq, wl, eq_self, true_and, and_true, sd, ↓heights_make fz]
      rw [fr]
theorem ent_one {n : Nat} {ts : List Int} {j a : Nat} (hj : j < ts.length) (ha : a < n) : ent (ts.map (oneRow n)) j a = if (a : Int) = ts[j] then 1 else 0 := by
  unfold ent rwOf
  rw [List.getElem?_map, List.getElem?_eq_getElem hj, Option.map_some, Option.getD_some]
  unfold oneRow
  rw [List.getElem?_map, List.getElem?_range ha]; rfl
theorem calm_one {n : Nat} {Ms : List (List (List Int))} (h : ∀ M ∈ Ms, ∃ ts : List Int, ts.length = n ∧ M = ts.map (oneRow n)) : Calm n Ms := by
  intro M hM j a b hj ha hb
  obtain ⟨ts, hl, rfl⟩ := h M hM
  have a1 := of_decide_eq_true (List.mem_filter.mp ha).2
  have b1 := of_decide_eq_true (List.mem_filter.mp hb).2
  rw [ent_one (by omega) (pos_lt ha)] at a1
  rw [ent_one (by omega) (pos_lt hb)] at b1
  rw [ent_one (by omega) (pos_lt ha)]
  split at a1
  · split at b1
    · rename_i h1 h2
      exact ⟨by omega, by rw [if_pos h1]; omega⟩
    · omega
  · omega
end Z09
set_option Elab.async false
set_option linter.all false
set_option maxRecDepth 100000
set_option maxHeartbeats 4000000
namespace Z09
open PySem L2 MF
/-! # the law -/
theorem rows_ne (a b : List (List Int)) (h : a = b) : dNe (.tup (a.map rowD)) (.tup (b.map rowD)) = some (.bl false) := by
  subst h
  exact dNe_self (plain_rows a)
theorem isi_tup_tup (xs : List D) : dIsi (.tup xs) (.ty "tuple") = some (.bl true) := rfl
def lawσ (ns : List Int) (n c : Nat) (nms : List Str) (Ms : List (List (List Int))) (acc : List (List Int)) (l8 l9 l10 l11 l12 l13 : MF.Loc) : List MF.Loc := [.t (.scr ns), .s 0, .t (.int n), .t (.int c), .t (.lst (nms.map .str)), .t (.lst (Ms.map tabD)), .t (bkD n (nms.take n) (nms.drop n) Ms), .own (.lst (acc.map rowD)), l8, l9, l10, l11, l12, l13, .un, .un, .un]
theorem law_7 {ns : List Int} {n c : Nat} {nms : List Str} {Ms : List (List (List Int))} {acc : List (List Int)} {l8 l9 l10 l11 l12 l13 : MF.Loc} {p4 : Pn} (n1 : 1 ≤ n) (n6 : n ≤ 6) (c1 : 1 ≤ c) (c4 : c ≤ 4) (nl : nms.length = n + c) (nd : nms.Nodup) (nk : ∀ x ∈ nms, Nm x ∧ keptB x = false) (k4 : p4.Ok 700000) :
    Wp b_law_7 ⟨lawσ ns n c nms Ms acc l8 l9 l10 l11 l12 l13, [p4.D]⟩ (finK 0 fun a _ => a = .t (.bl true)) := by
  unfold b_law_7 lawσ
  simp only [↓wr, wq, wl, eq_self, true_and, and_true]
  rw [kRg1_nat (by omega)]
  rw [show rangeD 0 c = (List.range c).map (fun (k : Nat) => D.int (k : Int)) from range_nats c]
  refine wp_lc (fun pre ys S' => ∃ Ns, ∃ p : Pn, ys = Ns.map tabD ∧ Ns.length = pre.length ∧ (∀ M ∈ Ns, ∃ ts : List Int, ts.length = n ∧ M = ts.map (oneRow n)) ∧ S' = [p.D] ∧ ∃ b, 600000 ≤ b + 1000 * pre.length ∧ p.Ok b) (by rw [List.length_range]; omega) ⟨[], p4, rfl, rfl, fun _ h => (List.not_mem_nil h).elim, rfl, 600000, by simp, k4.mono (by omega)⟩ ?_ ?_
  · intro pre k post ys S e h
    obtain ⟨Ns, h⟩ := h
    obtain ⟨p, h⟩ := h
    obtain ⟨h0, h⟩ := h
    obtain ⟨h1, h⟩ := h
    obtain ⟨h2, h⟩ := h
    obtain ⟨h3, h⟩ := h
    obtain ⟨b, h⟩ := h
    obtain ⟨hb', h4⟩ := h
    subst h0
    subst h3
    have hpl : pre.length < c := by have := congrArg List.length e; rw [List.length_range, List.length_append, List.length_cons] at this; omega
    obtain ⟨ts, tl, p', e9, k9⟩ := moving_ok (b := b - 1000) (n := n) (h4.mono (by omega)) (by omega)
    simp only [↓wr, wq, wl, eq_self, true_and, and_true, ↓e9]
    refine ⟨Ns ++ [ts.map (oneRow n)], p', by rw [List.map_append]; rfl, by rw [List.length_append, List.length_append, h1]; rfl, fun M hM => ?_, rfl, b - 1000, by rw [List.length_append, List.length_singleton]; omega, k9⟩
    rcases List.mem_append.mp hM with hM | hM
    · exact h2 M hM
    · exact ⟨ts, tl, List.mem_singleton.mp hM⟩
  · rintro ys S' ⟨Ns, p, rfl, h1, h2, rfl, _, _, h4⟩
    rw [List.length_range] at h1
    have hT2 : ∀ M ∈ Ns, Tbl n M := fun M hM => by obtain ⟨ts, tl, rfl⟩ := h2 M hM; exact (oneTb tl).tbl
    have e10 := fun S => law_book_ok (nms := nms) (Ms := Ns) n1 (by omega) (by omega) (by omega) (by omega) nd nk hT2 S
    have hb2 : BkOk n (nms.take n) (nms.drop n) Ns := ⟨n1, n6, by rw [List.length_take]; omega, by rw [List.length_drop]; omega, by omega, by omega, hT2⟩
    have hcm := calm_one h2
    have e11 := fun S => splits_ok hb2 S
    obtain ⟨rows, rl, rr, e12⟩ := verdict_calm hb2 hcm [p.D]
    have e13 : dNe (.tup []) (.tup []) = some (.bl false) := rows_ne [] [] rfl
    have i1 : dIsi (.obj ("Heights" : Str) [(("rows" : Str), .tup rows)]) (.kls ("Heights" : Str)) = some (.bl true) := rfl
    have i2 : getFld ("rows" : Str) (.obj ("Heights" : Str) [(("rows" : Str), .tup rows)]) = some (.tup rows) := by kernel_rfl
    have z36 : n * n ≤ 36 := Nat.mul_le_mul n6 n6
    simp only [↓wr, wq, wl, eq_self, true_and, and_true, b_law_8, b_law_9, b_law_10, ↓e10, e11, spl_calm hcm, List.map_nil, e13, ↓doubles_calm hb2 hcm, ↓e12, i1, i2]
    refine wp_lcD (fun _ => .bl true) (by omega) (fun d hd => ?_) ?_
    · obtain ⟨k, rfl⟩ := rr d hd
      have i3 : dIdx (hrow k 0) (.int 1) = some (.int 0) := rfl
      simp only [↓wr, wq, wl, eq_self, true_and, and_true, i3, decide_true]
    · have ha : dAll (.lst (rows.map fun _ => .bl true)) = some (.bl true) := dAll_true fun d hd => by obtain ⟨_, _, rfl⟩ := List.mem_map.mp hd; rfl
      simp only [↓wr, wq, wl, eq_self, true_and, and_true, ha, i2, rl]
      refine wG_of (mulOk_of (a := 10) (b := 10) (by omega) (by omega) (by omega)) ?_
      rw [Int.natCast_mul, decide_eq_true rfl]
theorem law_ok (ns : List Int) : ∃ S, m_law [.t (.scr ns)] [] = some (.t (.bl true), S) := by
  obtain ⟨p0, e0, k0⟩ := pen_ok ns
  obtain ⟨n, n1, n6, p1, e1, k1⟩ := many_ok (b := 1000000) (k0.mono (by omega))
  obtain ⟨r, p2, e2, r0, r4, k2⟩ := draw_ok (b := 900000) (many := 4) (k1.mono (by omega)) (by omega) (by omega)
  obtain ⟨c, hc⟩ : ∃ c : Nat, 1 + r = (c : Int) := ⟨(1 + r).toNat, by omega⟩
  have c1 : 1 ≤ c := by omega
  have c4 : c ≤ 4 := by omega
  obtain ⟨nms, nl, nd, nk, p3, e3, k3⟩ := names_ok (b := 800000) (n := n + c) (k2.mono (by omega)) (by omega)
  obtain ⟨Ms, hM, hT, p4, e4, k4⟩ := tables_ok (b := 700000) (n := n) (c := c) (k3.mono (by omega)) ⟨n1, n6⟩ ⟨c1, c4⟩
  have e5 := fun S => law_book_ok (nms := nms) (Ms := Ms) n1 (by omega) (by omega) (by omega) (by omega) nd nk hT S
  have hb : BkOk n (nms.take n) (nms.drop n) Ms := ⟨n1, n6, by rw [List.length_take]; omega, by rw [List.length_drop]; omega, by omega, by omega, hT⟩
  have e6 : ∀ x : Int, x + (c : Int) = x + c := fun _ => rfl
  have e7 : ((n : Int) + (c : Int)) = ((n + c : Nat) : Int) := rfl
  have hl := spl_len (n := n) (Ms := Ms) n6 (by omega)
  unfold m_law
  obtain ⟨a, S', e, h⟩ := fn_wp (body := b_law) (np := 1) (nl := 16) (as := [.t (.scr ns)]) (S := []) (P := fun a _ => a = .t (.bl true)) rfl (by
    unfold b_law
    simp only [↓wr, wq, wl, eq_self, true_and, and_true, b_law_1, b_law_2, b_law_3, b_law_4, ↓e0, ↓e1, ↓e2, hc, e7, ↓e3, ↓e4, ↓e5]
    rw [kRg1_nat (by omega), kFor_eq]
    let σ : List (List Int) → MF.Loc → MF.Loc → MF.Loc → MF.Loc → MF.Loc → MF.M := fun acc l8 l9 l10 l11 l12 => ⟨[.t (.scr ns), .s 0, .t (.int n), .t (.int c), .t (.lst (nms.map .str)), .t (.lst (Ms.map tabD)), .t (bkD n (nms.take n) (nms.drop n) Ms), .own (.lst (acc.map rowD)), l8, l9, l10, l11, l12, .un, .un, .un, .un], [p4.D]⟩
    have F0s : ∀ w, (List.range (w + 1)).flatMap (fun a => F0 n (tbAt Ms a) a) = (List.range w).flatMap (fun a => F0 n (tbAt Ms a) a) ++ F0 n (tbAt Ms w) w := fun w => by rw [List.range_succ, List.flatMap_append, List.flatMap_singleton]
    refine wp_range (fun w m => ∃ l8 l9 l10 l11 l12, m = σ ((List.range w).flatMap fun a => F0 n (tbAt Ms a) a) l8 l9 l10 l11 l12) ⟨_, _, _, _, _, rfl⟩ ?_ ?_
    · rintro w m hw ⟨l8, l9, l10, l11, l12, rfl⟩
      have hw' : w < Ms.length := by omega
      have t := hT _ (tbAt_mem hw').2
      have z0 : ((List.range w).flatMap fun a => F0 n (tbAt Ms a) a).length ≤ w * 216 := by
        have := flat_len 216 (fun a => F0 n (tbAt Ms a) a) (List.range w) (fun a _ => by
          have h1 := F0_len n (tbAt Ms a) a
          have h2 : n * (n * (n * 1)) ≤ 6 * (6 * (6 * 1)) := Nat.mul_le_mul n6 (Nat.mul_le_mul n6 (Nat.mul_le_mul n6 (Nat.le_refl 1)))
          omega)
        rwa [List.length_range] at this
      show Wp _ (σ _ _ _ _ _ _) _
      simp only [↓wr, wq, wl, eq_self, true_and, and_true, σ]
      rw [kRg1_nat (by omega), kFor_eq]
      refine wp_range (fun i m => ∃ l9 l10 l11 l12, m = σ (((List.range w).flatMap fun a => F0 n (tbAt Ms a) a) ++ (List.range i).flatMap (F1 n (tbAt Ms w) w)) (.t (.int w)) l9 l10 l11 l12) ⟨_, _, _, _, by rw [List.range_zero, List.flatMap_nil, List.append_nil]⟩ ?_ ?_
      · rintro i m hi ⟨l9, l10, l11, l12, rfl⟩
        simp only [↓wr, wq, wl, eq_self, true_and, and_true, σ]
        rw [kRg1_nat (by omega), kFor_eq]
        refine wp_range (fun x m => ∃ l10 l11 l12, m = σ (((List.range w).flatMap fun a => F0 n (tbAt Ms a) a) ++ (List.range i).flatMap (F1 n (tbAt Ms w) w) ++ (List.range x).flatMap (F2 n (tbAt Ms w) w i)) (.t (.int w)) (.t (.int i)) l10 l11 l12) ⟨_, _, _, by rw [List.range_zero, List.flatMap_nil, List.append_nil]⟩ ?_ ?_
        · rintro x m hx ⟨l10, l11, l12, rfl⟩
          simp only [↓wr, wq, wl, eq_self, true_and, and_true, σ]
          rw [kRg2_nat (by omega) (by omega), kFor_eq]
          refine wp_rangeL (fun y m => ∃ l11 l12, m = σ (((List.range w).flatMap fun a => F0 n (tbAt Ms a) a) ++ (List.range i).flatMap (F1 n (tbAt Ms w) w) ++ (List.range x).flatMap (F2 n (tbAt Ms w) w i) ++ (List.range' x (y - x)).flatMap (F3 (tbAt Ms w) w i x)) (.t (.int w)) (.t (.int i)) (.t (.int x)) l11 l12) ⟨_, _, by rw [Nat.sub_self, List.range'_zero, List.flatMap_nil, List.append_nil]⟩ ?_ ?_
          · rintro y m hy1 hy2 ⟨l11, l12, rfl⟩
            have hy : y < n := by omega
            have h1 : dIdx (.lst (Ms.map tabD)) (.int (w : Int)) = some (tabD (tbAt Ms w)) := idx_nat (by rw [List.getElem?_map, (tbAt_mem hw').1]; rfl)
            have i1 := tab_idx t hi
            have i2 := row_idx t hi hx
            have i3 := row_idx t hi hy
            have z1 : ((List.range i).flatMap (F1 n (tbAt Ms w) w)).length ≤ i * 36 := by
              have := flat_len 36 (F1 n (tbAt Ms w) w) (List.range i) (fun a _ => by
                have h1 := F1_len n (tbAt Ms w) w a
                have h2 : n * (n * 1) ≤ 6 * (6 * 1) := Nat.mul_le_mul n6 (Nat.mul_le_mul n6 (Nat.le_refl 1))
                omega)
              rwa [List.length_range] at this
            have z2 : ((List.range x).flatMap (F2 n (tbAt Ms w) w i)).length ≤ x * 6 := by
              have := flat_len 6 (F2 n (tbAt Ms w) w i) (List.range x) (fun a _ => by
                have h1 := F2_len n (tbAt Ms w) w i a
                omega)
              rwa [List.length_range] at this
            have z3 : ((List.range' x (y - x)).flatMap (F3 (tbAt Ms w) w i x)).length ≤ (y - x) * 1 := by
              have := flat_len 1 (F3 (tbAt Ms w) w i x) (List.range' x (y - x)) (fun a _ => F3_len _ w i x a)
              rwa [List.length_range'] at this
            have hs : (List.range' x (y + 1 - x)).flatMap (F3 (tbAt Ms w) w i x) = (List.range' x (y - x)).flatMap (F3 (tbAt Ms w) w i x) ++ F3 (tbAt Ms w) w i x y := by
              rw [show y + 1 - x = (y - x) + 1 by omega, List.range'_1_concat, List.flatMap_append, List.flatMap_singleton, show x + (y - x) = y by omega]
            have qe : Qc (tbAt Ms w) i x y = ((decide ((x : Int) < (y : Int)) && (decide (0 < ent (tbAt Ms w) i x) && decide (0 < ent (tbAt Ms w) i y))) || (decide ((x : Int) = (y : Int)) && decide (1 < ent (tbAt Ms w) i x))) := by
              unfold Qc
              rw [show decide ((x : Int) < (y : Int)) = decide (x < y) from decide_eq_decide.mpr (by omega), show decide ((x : Int) = (y : Int)) = decide (x = y) from decide_eq_decide.mpr (by omega)]
            simp only [↓wr, wq, wl, eq_self, true_and, and_true, σ, h1, i1]
            refine kB2_and (q := decide (0 < ent (tbAt Ms w) i x) && decide (0 < ent (tbAt Ms w) i y)) (fun _ => ?_) ?_
            · simp only [↓wr, wq, wl, eq_self, true_and, and_true, i2]
              refine kB2_and (q := decide (0 < ent (tbAt Ms w) i y)) (fun _ => ?_) ?_
              · simp only [↓wr, wq, wl, eq_self, true_and, and_true, i3]
              · simp only [↓wr, wq, wl, eq_self, true_and, and_true]
            · refine kB2_or (q := decide ((x : Int) = (y : Int)) && decide (1 < ent (tbAt Ms w) i x)) (fun _ => ?_) ?_
              · simp only [↓wr, wq, wl, eq_self, true_and, and_true]
                refine kB2_and (q := decide (1 < ent (tbAt Ms w) i x)) (fun _ => ?_) ?_
                · simp only [↓wr, wq, wl, eq_self, true_and, and_true, i2]
                · simp only [↓wr, wq, wl, eq_self, true_and, and_true]
              · rw [← qe]
                cases q : Qc (tbAt Ms w) i x y with
                | true =>
                  simp only [↓wr, wq, wl, eq_self, true_and, and_true]
                  refine wG_sz (by simp only [List.length_map, List.length_append]; omega) ?_
                  have e : F3 (tbAt Ms w) w i x y = [[(w : Int), (i : Int), (x : Int), (y : Int)]] := by unfold F3; rw [q]; rfl
                  refine ⟨.t (.int (y : Int)), .t (rowD (rwOf (tbAt Ms w) i)), ?_⟩
                  rw [hs, e]
                  simp only [List.map_append, List.append_assoc, List.map_cons, List.map_nil]
                  rfl
                | false =>
                  simp only [↓wr, wq, wl, eq_self, true_and, and_true]
                  have e : F3 (tbAt Ms w) w i x y = [] := by unfold F3; rw [q]; rfl
                  refine ⟨.t (.int (y : Int)), .t (rowD (rwOf (tbAt Ms w) i)), ?_⟩
                  rw [hs, e, List.append_nil]
          · rintro m ⟨l11, l12, rfl⟩
            simp only [↓wr, wq, wl, eq_self, true_and, and_true]
            rw [show x + (n - x) - x = n - x by omega, F2_law _ _ _ _ _ (by omega), List.append_assoc, List.range_succ, List.flatMap_append, List.flatMap_singleton]
            exact ⟨_, _, _, by rw [← List.append_assoc]⟩
        · rintro m ⟨l10, l11, l12, rfl⟩
          simp only [↓wr, wq, wl, eq_self, true_and, and_true]
          have hE : (List.range w).flatMap (fun a => F0 n (tbAt Ms a) a) ++ (List.range i).flatMap (F1 n (tbAt Ms w) w) ++ (List.range n).flatMap (F2 n (tbAt Ms w) w i) = (List.range w).flatMap (fun a => F0 n (tbAt Ms a) a) ++ (List.range (i + 1)).flatMap (F1 n (tbAt Ms w) w) := by
            rw [List.append_assoc, List.range_succ, List.flatMap_append (xs := List.range i), List.flatMap_singleton]; rfl
          rw [hE]
          exact ⟨_, _, _, _, rfl⟩
      · rintro m ⟨l9, l10, l11, l12, rfl⟩
        simp only [↓wr, wq, wl, eq_self, true_and, and_true]
        rw [F0s]
        exact ⟨_, _, _, _, _, rfl⟩
    · rintro m ⟨l8, l9, l10, l11, l12, rfl⟩
      have e8 := fun S => splits_ok hb S
      have e9 := rows_ne (spl n Ms) (spl n Ms) rfl
      have hsp : ((List.range c).flatMap fun a => F0 n (tbAt Ms a) a) = spl n Ms := by unfold spl; rw [hM]
      simp only [↓wr, wq, wl, eq_self, true_and, and_true, b_law_5, b_law_6, σ, hsp, e8, dTuple_lst, e9, isi_tup_tup]
      refine wp_lcM (tD := rowD) (l := spl n Ms) (fun _ => .bl true) (by omega) (fun x _ => ?_) ?_
      · have : dIsi (rowD x) (.ty "tuple") = some (.bl true) := rfl
        simp only [↓wr, wq, wl, eq_self, true_and, and_true, this]
      · have ha : dAll (.lst ((spl n Ms).map fun _ => .bl true)) = some (.bl true) := dAll_true fun d hd => by obtain ⟨_, _, rfl⟩ := List.mem_map.mp hd; rfl
        simp only [↓wr, wq, wl, eq_self, true_and, and_true, ha]
        exact law_7 n1 n6 c1 c4 nl nd nk k4)
  exact ⟨S', by rw [e, h]⟩
end Z09
set_option Elab.async false
set_option linter.all false
set_option maxRecDepth 100000
set_option maxHeartbeats 8000000
namespace Z09
open PySem L2 MF
/-! # the text by places -/
def top (i : Nat) : Stmt := PySem.Challenge.pw_manyfold_k09_splits.main.body.getD i (.Pass ⟨0, 0, 0, 0⟩)
abbrev s__law_pen : Stmt := top 55
abbrev s__law_draw : Stmt := top 56
abbrev s__law_pick : Stmt := top 57
abbrev s__law_many : Stmt := top 48
abbrev s__law_name : Stmt := top 59
abbrev s__law_names : Stmt := top 47
abbrev s__law_shuffled : Stmt := top 58
abbrev s__law_free_rows : Stmt := top 49
abbrev s__law_moving_rows : Stmt := top 50
abbrev s__law_stair_rows : Stmt := top 51
abbrev s__law_exchange_rows : Stmt := top 52
abbrev s__law_tables : Stmt := top 53
abbrev s_is_list : Stmt := top 24
abbrev s_is_whole : Stmt := top 23
abbrev s_is_counts : Stmt := top 25
abbrev s_is_rows : Stmt := top 26
abbrev s_Table_init : Stmt := inClass (top 28) 0
abbrev s_is_name : Stmt := top 12
abbrev s_name_new : Stmt := top 30
abbrev s_Book_init : Stmt := inClass (top 29) 0
abbrev s__law_book : Stmt := top 54
abbrev s_supports_of : Stmt := top 34
abbrev s_Book_len : Stmt := inClass (top 29) 2
abbrev s_splits : Stmt := top 45
abbrev s_pair_steps : Stmt := top 35
abbrev s_doublings_found : Stmt := top 41
abbrev s_shortest_doubling : Stmt := top 42
abbrev s_doubles : Stmt := top 44
abbrev s_highest : Stmt := top 37
abbrev s_frozen : Stmt := top 32
abbrev s_Heights_init : Stmt := inClass (top 40) 0
abbrev s_growth_verdict : Stmt := top 43
abbrev s_law : Stmt := top 60
abbrev N__law_pen : List Str := [("script" : Str), ("fold" : Str), ("cell" : Str)]
theorem sc__law_pen : FnScope N__law_pen [("script" : Str)] (defScope s__law_pen) := ⟨rfl, rfl, rfl, by decide +kernel, rfl, by decide +kernel, by decide +kernel⟩
abbrev N__law_draw : List Str := [("pen" : Str), ("many" : Str), ("cell" : Str), ("digit" : Str), ("blend" : Str)]
theorem sc__law_draw : FnScope N__law_draw [("pen" : Str), ("many" : Str)] (defScope s__law_draw) := ⟨rfl, rfl, rfl, by decide +kernel, rfl, by decide +kernel, by decide +kernel⟩
abbrev N__law_pick : List Str := [("pen" : Str), ("some" : Str)]
theorem sc__law_pick : FnScope N__law_pick [("pen" : Str), ("some" : Str)] (defScope s__law_pick) := ⟨rfl, rfl, rfl, by decide +kernel, rfl, by decide +kernel, by decide +kernel⟩
abbrev N__law_many : List Str := [("pen" : Str)]
theorem sc__law_many : FnScope N__law_many [("pen" : Str)] (defScope s__law_many) := ⟨rfl, rfl, rfl, by decide +kernel, rfl, by decide +kernel, by decide +kernel⟩
abbrev N__law_name : List Str := [("pen" : Str), ("first" : Str), ("name" : Str), ("lap" : Str)]
theorem sc__law_name : FnScope N__law_name [("pen" : Str)] (defScope s__law_name) := ⟨rfl, rfl, rfl, by decide +kernel, rfl, by decide +kernel, by decide +kernel⟩
abbrev N__law_names : List Str := [("pen" : Str), ("many" : Str), ("found" : Str), ("lap" : Str), ("name" : Str), ("spare" : Str)]
theorem sc__law_names : FnScope N__law_names [("pen" : Str), ("many" : Str)] (defScope s__law_names) := ⟨rfl, rfl, rfl, by decide +kernel, rfl, by decide +kernel, by decide +kernel⟩
abbrev N__law_shuffled : List Str := [("pen" : Str), ("some" : Str), ("remain" : Str), ("found" : Str), ("lap" : Str)]
theorem sc__law_shuffled : FnScope N__law_shuffled [("pen" : Str), ("some" : Str)] (defScope s__law_shuffled) := ⟨rfl, rfl, rfl, by decide +kernel, rfl, by decide +kernel, by decide +kernel⟩
abbrev N__law_free_rows : List Str := [("pen" : Str), ("many" : Str), ("much" : Str), ("j" : Str), ("i" : Str)]
theorem sc__law_free_rows : FnScope N__law_free_rows [("pen" : Str), ("many" : Str)] (defScope s__law_free_rows) := ⟨rfl, rfl, rfl, by decide +kernel, rfl, by decide +kernel, by decide +kernel⟩
abbrev N__law_moving_rows : List Str := [("pen" : Str), ("many" : Str), ("rows" : Str), ("i" : Str), ("there" : Str), ("j" : Str)]
theorem sc__law_moving_rows : FnScope N__law_moving_rows [("pen" : Str), ("many" : Str)] (defScope s__law_moving_rows) := ⟨rfl, rfl, rfl, by decide +kernel, rfl, by decide +kernel, by decide +kernel⟩
abbrev N__law_stair_rows : List Str := [("pen" : Str), ("many" : Str), ("order" : Str), ("rows" : Str), ("i" : Str), ("at" : Str), ("later" : Str), ("row" : Str)]
theorem sc__law_stair_rows : FnScope N__law_stair_rows [("pen" : Str), ("many" : Str), ("order" : Str)] (defScope s__law_stair_rows) := ⟨rfl, rfl, rfl, by decide +kernel, rfl, by decide +kernel, by decide +kernel⟩
abbrev N__law_exchange_rows : List Str := [("pen" : Str), ("many" : Str), ("deal" : Str), ("j" : Str), ("i" : Str)]
theorem sc__law_exchange_rows : FnScope N__law_exchange_rows [("pen" : Str), ("many" : Str)] (defScope s__law_exchange_rows) := ⟨rfl, rfl, rfl, by decide +kernel, rfl, by decide +kernel, by decide +kernel⟩
abbrev N__law_tables : List Str := [("pen" : Str), ("many" : Str), ("count" : Str), ("way" : Str), ("order" : Str), ("tables" : Str), ("at" : Str), ("rows" : Str), ("i" : Str), ("j" : Str), ("line" : Str)]
theorem sc__law_tables : FnScope N__law_tables [("pen" : Str), ("many" : Str), ("count" : Str)] (defScope s__law_tables) := ⟨rfl, rfl, rfl, by decide +kernel, rfl, by decide +kernel, by decide +kernel⟩
abbrev N_is_list : List Str := [("value" : Str)]
theorem sc_is_list : FnScope N_is_list [("value" : Str)] (defScope s_is_list) := ⟨rfl, rfl, rfl, by decide +kernel, rfl, by decide +kernel, by decide +kernel⟩
abbrev N_is_whole : List Str := [("value" : Str)]
theorem sc_is_whole : FnScope N_is_whole [("value" : Str)] (defScope s_is_whole) := ⟨rfl, rfl, rfl, by decide +kernel, rfl, by decide +kernel, by decide +kernel⟩
abbrev N_is_counts : List Str := [("many" : Str), ("value" : Str), ("item" : Str)]
theorem sc_is_counts : FnScope N_is_counts [("many" : Str), ("value" : Str)] (defScope s_is_counts) := ⟨rfl, rfl, rfl, by decide +kernel, rfl, by decide +kernel, by decide +kernel⟩
abbrev N_is_rows : List Str := [("value" : Str), ("row" : Str)]
theorem sc_is_rows : FnScope N_is_rows [("value" : Str)] (defScope s_is_rows) := ⟨rfl, rfl, rfl, by decide +kernel, rfl, by decide +kernel, by decide +kernel⟩
abbrev N_Table_init : List Str := [("self" : Str), ("rows" : Str), ("row" : Str)]
theorem sc_Table_init : FnScope N_Table_init [("self" : Str), ("rows" : Str)] (defScope s_Table_init) := ⟨rfl, rfl, rfl, by decide +kernel, rfl, by decide +kernel, by decide +kernel⟩
abbrev N_is_name : List Str := [("value" : Str), ("sign" : Str)]
theorem sc_is_name : FnScope N_is_name [("value" : Str)] (defScope s_is_name) := ⟨rfl, rfl, rfl, by decide +kernel, rfl, by decide +kernel, by decide +kernel⟩
abbrev N_name_new : List Str := [("name" : Str), ("seen" : Str)]
theorem sc_name_new : FnScope N_name_new [("name" : Str), ("seen" : Str)] (defScope s_name_new) := ⟨rfl, rfl, rfl, by decide +kernel, rfl, by decide +kernel, by decide +kernel⟩
abbrev N_Book_init : List Str := [("self" : Str), ("kinds" : Str), ("rounds" : Str), ("seen" : Str), ("name" : Str), ("pair" : Str)]
theorem sc_Book_init : FnScope N_Book_init [("self" : Str), ("kinds" : Str), ("rounds" : Str)] (defScope s_Book_init) := ⟨rfl, rfl, rfl, by decide +kernel, rfl, by decide +kernel, by decide +kernel⟩
abbrev N__law_book : List Str := [("pen" : Str), ("tables" : Str), ("names" : Str), ("many" : Str), ("at" : Str)]
theorem sc__law_book : FnScope N__law_book [("pen" : Str), ("tables" : Str), ("names" : Str)] (defScope s__law_book) := ⟨rfl, rfl, rfl, by decide +kernel, rfl, by decide +kernel, by decide +kernel⟩
abbrev N_supports_of : List Str := [("book" : Str), ("many" : Str), ("j" : Str), ("i" : Str), ("table" : Str)]
theorem sc_supports_of : FnScope N_supports_of [("book" : Str)] (defScope s_supports_of) := ⟨rfl, rfl, rfl, by decide +kernel, rfl, by decide +kernel, by decide +kernel⟩
abbrev N_Book_len : List Str := [("self" : Str)]
theorem sc_Book_len : FnScope N_Book_len [("self" : Str)] (defScope s_Book_len) := ⟨rfl, rfl, rfl, by decide +kernel, rfl, by decide +kernel, by decide +kernel⟩
abbrev N_splits : List Str := [("book" : Str), ("found" : Str), ("webs" : Str), ("which" : Str), ("j" : Str), ("one" : Str), ("other" : Str)]
theorem sc_splits : FnScope N_splits [("book" : Str)] (defScope s_splits) := ⟨rfl, rfl, rfl, by decide +kernel, rfl, by decide +kernel, by decide +kernel⟩
abbrev N_pair_steps : List Str := [("book" : Str), ("many" : Str), ("webs" : Str), ("steps" : Str), ("j" : Str), ("k" : Str), ("found" : Str), ("which" : Str), ("rows" : Str), ("one" : Str), ("other" : Str), ("split" : Str)]
theorem sc_pair_steps : FnScope N_pair_steps [("book" : Str)] (defScope s_pair_steps) := ⟨rfl, rfl, rfl, by decide +kernel, rfl, by decide +kernel, by decide +kernel⟩
abbrev N_doublings_found : List Str := [("book" : Str), ("steps" : Str), ("found" : Str), ("kind" : Str), ("words" : Str), ("which" : Str), ("pair" : Str), ("split" : Str), ("way" : Str)]
theorem sc_doublings_found : FnScope N_doublings_found [("book" : Str)] (defScope s_doublings_found) := ⟨rfl, rfl, rfl, by decide +kernel, rfl, by decide +kernel, by decide +kernel⟩
abbrev N_shortest_doubling : List Str := [("book" : Str), ("found" : Str), ("kind" : Str)]
theorem sc_shortest_doubling : FnScope N_shortest_doubling [("book" : Str)] (defScope s_shortest_doubling) := ⟨rfl, rfl, rfl, by decide +kernel, rfl, by decide +kernel, by decide +kernel⟩
abbrev N_doubles : List Str := [("book" : Str)]
theorem sc_doubles : FnScope N_doubles [("book" : Str)] (defScope s_doubles) := ⟨rfl, rfl, rfl, by decide +kernel, rfl, by decide +kernel, by decide +kernel⟩
abbrev N_highest : List Str := [("edges" : Str), ("numbers" : Str), ("place" : Str), ("moved" : Str), ("best" : Str), ("there" : Str), ("mark" : Str)]
theorem sc_highest : FnScope N_highest [("edges" : Str)] (defScope s_highest) := ⟨rfl, rfl, rfl, by decide +kernel, rfl, by decide +kernel, by decide +kernel⟩
abbrev N_frozen : List Str := [("value" : Str), ("item" : Str)]
theorem sc_frozen : FnScope N_frozen [("value" : Str)] (defScope s_frozen) := ⟨rfl, rfl, rfl, by decide +kernel, rfl, by decide +kernel, by decide +kernel⟩
abbrev N_Heights_init : List Str := [("self" : Str), ("rows" : Str)]
theorem sc_Heights_init : FnScope N_Heights_init [("self" : Str), ("rows" : Str)] (defScope s_Heights_init) := ⟨rfl, rfl, rfl, by decide +kernel, rfl, by decide +kernel, by decide +kernel⟩
abbrev N_growth_verdict : List Str := [("book" : Str), ("paper" : Str), ("steps" : Str), ("numbers" : Str), ("step" : Str), ("pair" : Str)]
theorem sc_growth_verdict : FnScope N_growth_verdict [("book" : Str)] (defScope s_growth_verdict) := ⟨rfl, rfl, rfl, by decide +kernel, rfl, by decide +kernel, by decide +kernel⟩
abbrev N_law : List Str := [("script" : Str), ("pen" : Str), ("many" : Str), ("count" : Str), ("names" : Str), ("tables" : Str), ("book" : Str), ("due" : Str), ("which" : Str), ("j" : Str), ("k" : Str), ("l" : Str), ("row" : Str), ("told" : Str), ("calm" : Str), ("at" : Str), ("paper" : Str)]
theorem sc_law : FnScope N_law [("script" : Str)] (defScope s_law) := ⟨rfl, rfl, rfl, by decide +kernel, rfl, by decide +kernel, by decide +kernel⟩
/-! # what the top has written -/
structure Txt (K : PySem.W.Frag) (mg : Str → Option Value) where
  f__law_pen : Addr
  d__law_pen : FuncData
  F__law_pen : Fun K ("_law_pen" : Str) ("_law_pen" : Str) s__law_pen f__law_pen d__law_pen
  b__law_pen : Binds K d__law_pen [("script" : Str)] []
  m__law_pen : mg ("_law_pen" : Str) = some (.ref f__law_pen)
  f__law_draw : Addr
  d__law_draw : FuncData
  F__law_draw : Fun K ("_law_draw" : Str) ("_law_draw" : Str) s__law_draw f__law_draw d__law_draw
  b__law_draw : Binds K d__law_draw [("pen" : Str), ("many" : Str)] []
  m__law_draw : mg ("_law_draw" : Str) = some (.ref f__law_draw)
  f__law_pick : Addr
  d__law_pick : FuncData
  F__law_pick : Fun K ("_law_pick" : Str) ("_law_pick" : Str) s__law_pick f__law_pick d__law_pick
  b__law_pick : Binds K d__law_pick [("pen" : Str), ("some" : Str)] []
  m__law_pick : mg ("_law_pick" : Str) = some (.ref f__law_pick)
  f__law_many : Addr
  d__law_many : FuncData
  F__law_many : Fun K ("_law_many" : Str) ("_law_many" : Str) s__law_many f__law_many d__law_many
  b__law_many : Binds K d__law_many [("pen" : Str)] []
  m__law_many : mg ("_law_many" : Str) = some (.ref f__law_many)
  f__law_name : Addr
  d__law_name : FuncData
  F__law_name : Fun K ("_law_name" : Str) ("_law_name" : Str) s__law_name f__law_name d__law_name
  b__law_name : Binds K d__law_name [("pen" : Str)] []
  m__law_name : mg ("_law_name" : Str) = some (.ref f__law_name)
  f__law_names : Addr
  d__law_names : FuncData
  F__law_names : Fun K ("_law_names" : Str) ("_law_names" : Str) s__law_names f__law_names d__law_names
  b__law_names : Binds K d__law_names [("pen" : Str), ("many" : Str)] []
  m__law_names : mg ("_law_names" : Str) = some (.ref f__law_names)
  f__law_shuffled : Addr
  d__law_shuffled : FuncData
  F__law_shuffled : Fun K ("_law_shuffled" : Str) ("_law_shuffled" : Str) s__law_shuffled f__law_shuffled d__law_shuffled
  b__law_shuffled : Binds K d__law_shuffled [("pen" : Str), ("some" : Str)] []
  m__law_shuffled : mg ("_law_shuffled" : Str) = some (.ref f__law_shuffled)
  f__law_free_rows : Addr
  d__law_free_rows : FuncData
  F__law_free_rows : Fun K ("_law_free_rows" : Str) ("_law_free_rows" : Str) s__law_free_rows f__law_free_rows d__law_free_rows
  b__law_free_rows : Binds K d__law_free_rows [("pen" : Str), ("many" : Str)] []
  m__law_free_rows : mg ("_law_free_rows" : Str) = some (.ref f__law_free_rows)
  f__law_moving_rows : Addr
  d__law_moving_rows : FuncData
  F__law_moving_rows : Fun K ("_law_moving_rows" : Str) ("_law_moving_rows" : Str) s__law_moving_rows f__law_moving_rows d__law_moving_rows
  b__law_moving_rows : Binds K d__law_moving_rows [("pen" : Str), ("many" : Str)] []
  m__law_moving_rows : mg ("_law_moving_rows" : Str) = some (.ref f__law_moving_rows)
  f__law_stair_rows : Addr
  d__law_stair_rows : FuncData
  F__law_stair_rows : Fun K ("_law_stair_rows" : Str) ("_law_stair_rows" : Str) s__law_stair_rows f__law_stair_rows d__law_stair_rows
  b__law_stair_rows : Binds K d__law_stair_rows [("pen" : Str), ("many" : Str), ("order" : Str)] []
  m__law_stair_rows : mg ("_law_stair_rows" : Str) = some (.ref f__law_stair_rows)
  f__law_exchange_rows : Addr
  d__law_exchange_rows : FuncData
  F__law_exchange_rows : Fun K ("_law_exchange_rows" : Str) ("_law_exchange_rows" : Str) s__law_exchange_rows f__law_exchange_rows d__law_exchange_rows
  b__law_exchange_rows : Binds K d__law_exchange_rows [("pen" : Str), ("many" : Str)] []
  m__law_exchange_rows : mg ("_law_exchange_rows" : Str) = some (.ref f__law_exchange_rows)
  f__law_tables : Addr
  d__law_tables : FuncData
  F__law_tables : Fun K ("_law_tables" : Str) ("_law_tables" : Str) s__law_tables f__law_tables d__law_tables
  b__law_tables : Binds K d__law_tables [("pen" : Str), ("many" : Str), ("count" : Str)] []
  m__law_tables : mg ("_law_tables" : Str) = some (.ref f__law_tables)
  f_is_list : Addr
  d_is_list : FuncData
  F_is_list : Fun K ("is_list" : Str) ("is_list" : Str) s_is_list f_is_list d_is_list
  b_is_list : Binds K d_is_list [("value" : Str)] []
  m_is_list : mg ("is_list" : Str) = some (.ref f_is_list)
  f_is_whole : Addr
  d_is_whole : FuncData
  F_is_whole : Fun K ("is_whole" : Str) ("is_whole" : Str) s_is_whole f_is_whole d_is_whole
  b_is_whole : Binds K d_is_whole [("value" : Str)] []
  m_is_whole : mg ("is_whole" : Str) = some (.ref f_is_whole)
  f_is_counts : Addr
  d_is_counts : FuncData
  F_is_counts : Fun K ("is_counts" : Str) ("is_counts" : Str) s_is_counts f_is_counts d_is_counts
  b_is_counts : Binds K d_is_counts [("many" : Str), ("value" : Str)] []
  m_is_counts : mg ("is_counts" : Str) = some (.ref f_is_counts)
  f_is_rows : Addr
  d_is_rows : FuncData
  F_is_rows : Fun K ("is_rows" : Str) ("is_rows" : Str) s_is_rows f_is_rows d_is_rows
  b_is_rows : Binds K d_is_rows [("value" : Str)] []
  m_is_rows : mg ("is_rows" : Str) = some (.ref f_is_rows)
  f_Table_init : Addr
  d_Table_init : FuncData
  F_Table_init : Fun K ("__init__" : Str) ("Table.__init__" : Str) s_Table_init f_Table_init d_Table_init
  b_Table_init : Binds K d_Table_init [("self" : Str), ("rows" : Str)] []
  f_is_name : Addr
  d_is_name : FuncData
  F_is_name : Fun K ("is_name" : Str) ("is_name" : Str) s_is_name f_is_name d_is_name
  b_is_name : Binds K d_is_name [("value" : Str)] []
  m_is_name : mg ("is_name" : Str) = some (.ref f_is_name)
  f_name_new : Addr
  d_name_new : FuncData
  F_name_new : Fun K ("name_new" : Str) ("name_new" : Str) s_name_new f_name_new d_name_new
  b_name_new : Binds K d_name_new [("name" : Str), ("seen" : Str)] []
  m_name_new : mg ("name_new" : Str) = some (.ref f_name_new)
  f_Book_init : Addr
  d_Book_init : FuncData
  F_Book_init : Fun K ("__init__" : Str) ("Book.__init__" : Str) s_Book_init f_Book_init d_Book_init
  b_Book_init : Binds K d_Book_init [("self" : Str), ("kinds" : Str), ("rounds" : Str)] []
  f__law_book : Addr
  d__law_book : FuncData
  F__law_book : Fun K ("_law_book" : Str) ("_law_book" : Str) s__law_book f__law_book d__law_book
  b__law_book : Binds K d__law_book [("pen" : Str), ("tables" : Str), ("names" : Str)] []
  m__law_book : mg ("_law_book" : Str) = some (.ref f__law_book)
  f_supports_of : Addr
  d_supports_of : FuncData
  F_supports_of : Fun K ("supports_of" : Str) ("supports_of" : Str) s_supports_of f_supports_of d_supports_of
  b_supports_of : Binds K d_supports_of [("book" : Str)] []
  m_supports_of : mg ("supports_of" : Str) = some (.ref f_supports_of)
  f_Book_len : Addr
  d_Book_len : FuncData
  F_Book_len : Fun K ("__len__" : Str) ("Book.__len__" : Str) s_Book_len f_Book_len d_Book_len
  b_Book_len : Binds K d_Book_len [("self" : Str)] []
  f_splits : Addr
  d_splits : FuncData
  F_splits : Fun K ("splits" : Str) ("splits" : Str) s_splits f_splits d_splits
  b_splits : Binds K d_splits [("book" : Str)] []
  m_splits : mg ("splits" : Str) = some (.ref f_splits)
  f_pair_steps : Addr
  d_pair_steps : FuncData
  F_pair_steps : Fun K ("pair_steps" : Str) ("pair_steps" : Str) s_pair_steps f_pair_steps d_pair_steps
  b_pair_steps : Binds K d_pair_steps [("book" : Str)] []
  m_pair_steps : mg ("pair_steps" : Str) = some (.ref f_pair_steps)
  f_doublings_found : Addr
  d_doublings_found : FuncData
  F_doublings_found : Fun K ("doublings_found" : Str) ("doublings_found" : Str) s_doublings_found f_doublings_found d_doublings_found
  b_doublings_found : Binds K d_doublings_found [("book" : Str)] []
  m_doublings_found : mg ("doublings_found" : Str) = some (.ref f_doublings_found)
  f_shortest_doubling : Addr
  d_shortest_doubling : FuncData
  F_shortest_doubling : Fun K ("shortest_doubling" : Str) ("shortest_doubling" : Str) s_shortest_doubling f_shortest_doubling d_shortest_doubling
  b_shortest_doubling : Binds K d_shortest_doubling [("book" : Str)] []
  m_shortest_doubling : mg ("shortest_doubling" : Str) = some (.ref f_shortest_doubling)
  f_doubles : Addr
  d_doubles : FuncData
  F_doubles : Fun K ("doubles" : Str) ("doubles" : Str) s_doubles f_doubles d_doubles
  b_doubles : Binds K d_doubles [("book" : Str)] []
  m_doubles : mg ("doubles" : Str) = some (.ref f_doubles)
  f_highest : Addr
  d_highest : FuncData
  F_highest : Fun K ("highest" : Str) ("highest" : Str) s_highest f_highest d_highest
  b_highest : Binds K d_highest [("edges" : Str)] []
  m_highest : mg ("highest" : Str) = some (.ref f_highest)
  f_frozen : Addr
  d_frozen : FuncData
  F_frozen : Fun K ("frozen" : Str) ("frozen" : Str) s_frozen f_frozen d_frozen
  b_frozen : Binds K d_frozen [("value" : Str)] []
  m_frozen : mg ("frozen" : Str) = some (.ref f_frozen)
  f_Heights_init : Addr
  d_Heights_init : FuncData
  F_Heights_init : Fun K ("__init__" : Str) ("Heights.__init__" : Str) s_Heights_init f_Heights_init d_Heights_init
  b_Heights_init : Binds K d_Heights_init [("self" : Str), ("rows" : Str)] []
  f_growth_verdict : Addr
  d_growth_verdict : FuncData
  F_growth_verdict : Fun K ("growth_verdict" : Str) ("growth_verdict" : Str) s_growth_verdict f_growth_verdict d_growth_verdict
  b_growth_verdict : Binds K d_growth_verdict [("book" : Str)] []
  m_growth_verdict : mg ("growth_verdict" : Str) = some (.ref f_growth_verdict)
  f_law : Addr
  d_law : FuncData
  F_law : Fun K ("law" : Str) ("law" : Str) s_law f_law d_law
  b_law : Binds K d_law [("script" : Str)] []
  m_law : mg ("law" : Str) = some (.ref f_law)
  C_Table : Addr
  mC_Table : mg ("Table" : Str) = some (.ref C_Table)
  cl_Table : Cls K C_Table
  M_Table : Mk K C_Table f_Table_init
  na_Table_rows : NoAttr K C_Table ("rows" : Str)
  na_Table_many : NoAttr K C_Table ("many" : Str)
  na_Table_kinds : NoAttr K C_Table ("kinds" : Str)
  na_Table_names : NoAttr K C_Table ("names" : Str)
  na_Table_tables : NoAttr K C_Table ("tables" : Str)
  ha_Table : PySem.W.findIn K (.ref C_Table) "__class__" = some (some (.builtin "object.__class__"))
  hm_Table : PySem.W.mroIn K C_Table (.type "object") = some true
  ct_Table_int : PySem.W.kitOne K (.ref C_Table) (.type "int") = some false
  ct_Table_bool : PySem.W.kitOne K (.ref C_Table) (.type "bool") = some false
  ct_Table_str : PySem.W.kitOne K (.ref C_Table) (.type "str") = some false
  ct_Table_tuple : PySem.W.kitOne K (.ref C_Table) (.type "tuple") = some false
  ct_Table_list : PySem.W.kitOne K (.ref C_Table) (.type "list") = some false
  ct_Table_dict : PySem.W.kitOne K (.ref C_Table) (.type "dict") = some false
  tc_Table_NoneType : PySem.W.kitOne K (.type "NoneType") (.ref C_Table) = some false
  tc_Table_int : PySem.W.kitOne K (.type "int") (.ref C_Table) = some false
  tc_Table_bool : PySem.W.kitOne K (.type "bool") (.ref C_Table) = some false
  tc_Table_str : PySem.W.kitOne K (.type "str") (.ref C_Table) = some false
  tc_Table_tuple : PySem.W.kitOne K (.type "tuple") (.ref C_Table) = some false
  tc_Table_list : PySem.W.kitOne K (.type "list") (.ref C_Table) = some false
  tc_Table_dict : PySem.W.kitOne K (.type "dict") (.ref C_Table) = some false
  C_Book : Addr
  mC_Book : mg ("Book" : Str) = some (.ref C_Book)
  cl_Book : Cls K C_Book
  M_Book : Mk K C_Book f_Book_init
  L_Book : PySem.W.findIn K (.ref C_Book) "__len__" = some (some (.ref f_Book_len)) ∧ PySem.W.isFn K (.ref f_Book_len) = true
  na_Book_rows : NoAttr K C_Book ("rows" : Str)
  na_Book_many : NoAttr K C_Book ("many" : Str)
  na_Book_kinds : NoAttr K C_Book ("kinds" : Str)
  na_Book_names : NoAttr K C_Book ("names" : Str)
  na_Book_tables : NoAttr K C_Book ("tables" : Str)
  ha_Book : PySem.W.findIn K (.ref C_Book) "__class__" = some (some (.builtin "object.__class__"))
  hm_Book : PySem.W.mroIn K C_Book (.type "object") = some true
  ct_Book_int : PySem.W.kitOne K (.ref C_Book) (.type "int") = some false
  ct_Book_bool : PySem.W.kitOne K (.ref C_Book) (.type "bool") = some false
  ct_Book_str : PySem.W.kitOne K (.ref C_Book) (.type "str") = some false
  ct_Book_tuple : PySem.W.kitOne K (.ref C_Book) (.type "tuple") = some false
  ct_Book_list : PySem.W.kitOne K (.ref C_Book) (.type "list") = some false
  ct_Book_dict : PySem.W.kitOne K (.ref C_Book) (.type "dict") = some false
  tc_Book_NoneType : PySem.W.kitOne K (.type "NoneType") (.ref C_Book) = some false
  tc_Book_int : PySem.W.kitOne K (.type "int") (.ref C_Book) = some false
  tc_Book_bool : PySem.W.kitOne K (.type "bool") (.ref C_Book) = some false
  tc_Book_str : PySem.W.kitOne K (.type "str") (.ref C_Book) = some false
  tc_Book_tuple : PySem.W.kitOne K (.type "tuple") (.ref C_Book) = some false
  tc_Book_list : PySem.W.kitOne K (.type "list") (.ref C_Book) = some false
  tc_Book_dict : PySem.W.kitOne K (.type "dict") (.ref C_Book) = some false
  C_Heights : Addr
  mC_Heights : mg ("Heights" : Str) = some (.ref C_Heights)
  cl_Heights : Cls K C_Heights
  M_Heights : Mk K C_Heights f_Heights_init
  na_Heights_rows : NoAttr K C_Heights ("rows" : Str)
  na_Heights_many : NoAttr K C_Heights ("many" : Str)
  na_Heights_kinds : NoAttr K C_Heights ("kinds" : Str)
  na_Heights_names : NoAttr K C_Heights ("names" : Str)
  na_Heights_tables : NoAttr K C_Heights ("tables" : Str)
  ha_Heights : PySem.W.findIn K (.ref C_Heights) "__class__" = some (some (.builtin "object.__class__"))
  hm_Heights : PySem.W.mroIn K C_Heights (.type "object") = some true
  ct_Heights_int : PySem.W.kitOne K (.ref C_Heights) (.type "int") = some false
  ct_Heights_bool : PySem.W.kitOne K (.ref C_Heights) (.type "bool") = some false
  ct_Heights_str : PySem.W.kitOne K (.ref C_Heights) (.type "str") = some false
  ct_Heights_tuple : PySem.W.kitOne K (.ref C_Heights) (.type "tuple") = some false
  ct_Heights_list : PySem.W.kitOne K (.ref C_Heights) (.type "list") = some false
  ct_Heights_dict : PySem.W.kitOne K (.ref C_Heights) (.type "dict") = some false
  tc_Heights_NoneType : PySem.W.kitOne K (.type "NoneType") (.ref C_Heights) = some false
  tc_Heights_int : PySem.W.kitOne K (.type "int") (.ref C_Heights) = some false
  tc_Heights_bool : PySem.W.kitOne K (.type "bool") (.ref C_Heights) = some false
  tc_Heights_str : PySem.W.kitOne K (.type "str") (.ref C_Heights) = some false
  tc_Heights_tuple : PySem.W.kitOne K (.type "tuple") (.ref C_Heights) = some false
  tc_Heights_list : PySem.W.kitOne K (.type "list") (.ref C_Heights) = some false
  tc_Heights_dict : PySem.W.kitOne K (.type "dict") (.ref C_Heights) = some false
  cc_Table_Table : PySem.W.kitOne K (.ref C_Table) (.ref C_Table) = some true
  cc_Table_Book : PySem.W.kitOne K (.ref C_Table) (.ref C_Book) = some false
  cc_Table_Heights : PySem.W.kitOne K (.ref C_Table) (.ref C_Heights) = some false
  cc_Book_Table : PySem.W.kitOne K (.ref C_Book) (.ref C_Table) = some false
  cc_Book_Book : PySem.W.kitOne K (.ref C_Book) (.ref C_Book) = some true
  cc_Book_Heights : PySem.W.kitOne K (.ref C_Book) (.ref C_Heights) = some false
  cc_Heights_Table : PySem.W.kitOne K (.ref C_Heights) (.ref C_Table) = some false
  cc_Heights_Book : PySem.W.kitOne K (.ref C_Heights) (.ref C_Book) = some false
  cc_Heights_Heights : PySem.W.kitOne K (.ref C_Heights) (.ref C_Heights) = some true
  hn : PySem.W.specialIn K (.builtin "object.__class__") "__get__" = some (some (.builtin "getset_descriptor.__get__"))
  ht : PySem.W.takesIn K (.builtin "object.__class__") = some true
  n_int : mg ("int" : Str) = none
  n_list : mg ("list" : Str) = none
  n_len : mg ("len" : Str) = none
  n_range : mg ("range" : Str) = none
  n_str : mg ("str" : Str) = none
  n_tuple : mg ("tuple" : Str) = none
  n_isinstance : mg ("isinstance" : Str) = none
  n_all : mg ("all" : Str) = none
  n_bool : mg ("bool" : Str) = none
  n_sorted : mg ("sorted" : Str) = none
  n_max : mg ("max" : Str) = none
  v_LETTERS : Value
  mk_LETTERS : mg ("LETTERS" : Str) = some v_LETTERS
  vk_LETTERS : RelV (.str ("abcdefghijklmnopqrstuvwxyzABCDEFGHIJKLMNOPQRSTUVWXYZ" : Str)) v_LETTERS
  v_FIGURES : Value
  mk_FIGURES : mg ("FIGURES" : Str) = some v_FIGURES
  vk_FIGURES : RelV (.str ("0123456789" : Str)) v_FIGURES
  v_KEPT_WORDS : Value
  mk_KEPT_WORDS : mg ("KEPT_WORDS" : Str) = some v_KEPT_WORDS
  a_KEPT_WORDS : Addr
  va_KEPT_WORDS : v_KEPT_WORDS = .ref a_KEPT_WORDS
  vk_KEPT_WORDS : ∀ H, SqT K H a_KEPT_WORDS [.str ("kinds" : Str), .str ("round" : Str), .str ("becomes" : Str)]
section
variable {P : Program} {w : World} {K : PySem.W.Frag} {mg : Str → Option Value} {base : Heap}
def Txt.gb (T : Txt K mg) : Gb := ⟨K, fun c => if c = ("Table" : Str) then some T.C_Table else if c = ("Book" : Str) then some T.C_Book else if c = ("Heights" : Str) then some T.C_Heights else none⟩
theorem Txt.cases (T : Txt K mg) {c : Str} {C : Addr} (h : T.gb.cls c = some C) : (c = ("Table" : Str) ∧ C = T.C_Table) ∨ (c = ("Book" : Str) ∧ C = T.C_Book) ∨ (c = ("Heights" : Str) ∧ C = T.C_Heights) := by
  unfold Txt.gb at h
  simp only at h
  by_cases e : c = ("Table" : Str)
  · rw [if_pos e] at h; exact .inl ⟨e, (Option.some.inj h).symm⟩
  rw [if_neg e] at h; clear e
  by_cases e : c = ("Book" : Str)
  · rw [if_pos e] at h; exact .inr <| .inl ⟨e, (Option.some.inj h).symm⟩
  rw [if_neg e] at h; clear e
  by_cases e : c = ("Heights" : Str)
  · rw [if_pos e] at h; exact .inr <| .inr <| ⟨e, (Option.some.inj h).symm⟩
  rw [if_neg e] at h; clear e
  cases h
theorem Txt.fld_rows (T : Txt K mg) : FldOk T.gb ("rows" : Str) := ⟨fun c C h => by
  rcases T.cases h with ⟨rfl, rfl⟩ | ⟨rfl, rfl⟩ | ⟨rfl, rfl⟩
  · exact ⟨T.cl_Table, T.na_Table_rows⟩
  · exact ⟨T.cl_Book, T.na_Book_rows⟩
  · exact ⟨T.cl_Heights, T.na_Heights_rows⟩⟩
theorem Txt.fld_many (T : Txt K mg) : FldOk T.gb ("many" : Str) := ⟨fun c C h => by
  rcases T.cases h with ⟨rfl, rfl⟩ | ⟨rfl, rfl⟩ | ⟨rfl, rfl⟩
  · exact ⟨T.cl_Table, T.na_Table_many⟩
  · exact ⟨T.cl_Book, T.na_Book_many⟩
  · exact ⟨T.cl_Heights, T.na_Heights_many⟩⟩
theorem Txt.fld_kinds (T : Txt K mg) : FldOk T.gb ("kinds" : Str) := ⟨fun c C h => by
  rcases T.cases h with ⟨rfl, rfl⟩ | ⟨rfl, rfl⟩ | ⟨rfl, rfl⟩
  · exact ⟨T.cl_Table, T.na_Table_kinds⟩
  · exact ⟨T.cl_Book, T.na_Book_kinds⟩
  · exact ⟨T.cl_Heights, T.na_Heights_kinds⟩⟩
theorem Txt.fld_names (T : Txt K mg) : FldOk T.gb ("names" : Str) := ⟨fun c C h => by
  rcases T.cases h with ⟨rfl, rfl⟩ | ⟨rfl, rfl⟩ | ⟨rfl, rfl⟩
  · exact ⟨T.cl_Table, T.na_Table_names⟩
  · exact ⟨T.cl_Book, T.na_Book_names⟩
  · exact ⟨T.cl_Heights, T.na_Heights_names⟩⟩
theorem Txt.fld_tables (T : Txt K mg) : FldOk T.gb ("tables" : Str) := ⟨fun c C h => by
  rcases T.cases h with ⟨rfl, rfl⟩ | ⟨rfl, rfl⟩ | ⟨rfl, rfl⟩
  · exact ⟨T.cl_Table, T.na_Table_tables⟩
  · exact ⟨T.cl_Book, T.na_Book_tables⟩
  · exact ⟨T.cl_Heights, T.na_Heights_tables⟩⟩
theorem tys_mem {n : String} (h : tys.contains n = true) : n = "int" ∨ n = "bool" ∨ n = "str" ∨ n = "tuple" ∨ n = "list" ∨ n = "dict" := by
  have := List.contains_iff_mem.mp h
  simpa [tys] using this
theorem Txt.clsOk (T : Txt K mg) : ClsOk T.gb where
  cl := fun c C h => by
    rcases T.cases h with ⟨rfl, rfl⟩ | ⟨rfl, rfl⟩ | ⟨rfl, rfl⟩
    · exact T.cl_Table
    · exact T.cl_Book
    · exact T.cl_Heights
  ha := fun c C h => by
    rcases T.cases h with ⟨rfl, rfl⟩ | ⟨rfl, rfl⟩ | ⟨rfl, rfl⟩
    · exact T.ha_Table
    · exact T.ha_Book
    · exact T.ha_Heights
  hn := T.hn
  ht := T.ht
  hm := fun c C h => by
    rcases T.cases h with ⟨rfl, rfl⟩ | ⟨rfl, rfl⟩ | ⟨rfl, rfl⟩
    · exact T.hm_Table
    · exact T.hm_Book
    · exact T.hm_Heights
  ct := fun c C h n hn => by
    rcases T.cases h with ⟨rfl, rfl⟩ | ⟨rfl, rfl⟩ | ⟨rfl, rfl⟩
    · rcases tys_mem hn with rfl | rfl | rfl | rfl | rfl | rfl
      · exact T.ct_Table_int
      · exact T.ct_Table_bool
      · exact T.ct_Table_str
      · exact T.ct_Table_tuple
      · exact T.ct_Table_list
      · exact T.ct_Table_dict
    · rcases tys_mem hn with rfl | rfl | rfl | rfl | rfl | rfl
      · exact T.ct_Book_int
      · exact T.ct_Book_bool
      · exact T.ct_Book_str
      · exact T.ct_Book_tuple
      · exact T.ct_Book_list
      · exact T.ct_Book_dict
    · rcases tys_mem hn with rfl | rfl | rfl | rfl | rfl | rfl
      · exact T.ct_Heights_int
      · exact T.ct_Heights_bool
      · exact T.ct_Heights_str
      · exact T.ct_Heights_tuple
      · exact T.ct_Heights_list
      · exact T.ct_Heights_dict
  tc := fun c C h n hn => by
    simp only [List.mem_cons, List.not_mem_nil, or_false] at hn
    rcases T.cases h with ⟨rfl, rfl⟩ | ⟨rfl, rfl⟩ | ⟨rfl, rfl⟩
    · rcases hn with rfl | rfl | rfl | rfl | rfl | rfl | rfl
      · exact T.tc_Table_NoneType
      · exact T.tc_Table_int
      · exact T.tc_Table_bool
      · exact T.tc_Table_str
      · exact T.tc_Table_tuple
      · exact T.tc_Table_list
      · exact T.tc_Table_dict
    · rcases hn with rfl | rfl | rfl | rfl | rfl | rfl | rfl
      · exact T.tc_Book_NoneType
      · exact T.tc_Book_int
      · exact T.tc_Book_bool
      · exact T.tc_Book_str
      · exact T.tc_Book_tuple
      · exact T.tc_Book_list
      · exact T.tc_Book_dict
    · rcases hn with rfl | rfl | rfl | rfl | rfl | rfl | rfl
      · exact T.tc_Heights_NoneType
      · exact T.tc_Heights_int
      · exact T.tc_Heights_bool
      · exact T.tc_Heights_str
      · exact T.tc_Heights_tuple
      · exact T.tc_Heights_list
      · exact T.tc_Heights_dict
  cc := fun c C e E h k => by
    rcases T.cases h with ⟨rfl, rfl⟩ | ⟨rfl, rfl⟩ | ⟨rfl, rfl⟩
    · rcases T.cases k with ⟨rfl, rfl⟩ | ⟨rfl, rfl⟩ | ⟨rfl, rfl⟩
      · exact T.cc_Table_Table.trans (by first | rfl | (rw [decide_eq_true rfl]) | (rw [decide_eq_false (by decide +kernel)]))
      · exact T.cc_Table_Book.trans (by first | rfl | (rw [decide_eq_true rfl]) | (rw [decide_eq_false (by decide +kernel)]))
      · exact T.cc_Table_Heights.trans (by first | rfl | (rw [decide_eq_true rfl]) | (rw [decide_eq_false (by decide +kernel)]))
    · rcases T.cases k with ⟨rfl, rfl⟩ | ⟨rfl, rfl⟩ | ⟨rfl, rfl⟩
      · exact T.cc_Book_Table.trans (by first | rfl | (rw [decide_eq_true rfl]) | (rw [decide_eq_false (by decide +kernel)]))
      · exact T.cc_Book_Book.trans (by first | rfl | (rw [decide_eq_true rfl]) | (rw [decide_eq_false (by decide +kernel)]))
      · exact T.cc_Book_Heights.trans (by first | rfl | (rw [decide_eq_true rfl]) | (rw [decide_eq_false (by decide +kernel)]))
    · rcases T.cases k with ⟨rfl, rfl⟩ | ⟨rfl, rfl⟩ | ⟨rfl, rfl⟩
      · exact T.cc_Heights_Table.trans (by first | rfl | (rw [decide_eq_true rfl]) | (rw [decide_eq_false (by decide +kernel)]))
      · exact T.cc_Heights_Book.trans (by first | rfl | (rw [decide_eq_true rfl]) | (rw [decide_eq_false (by decide +kernel)]))
      · exact T.cc_Heights_Heights.trans (by first | rfl | (rw [decide_eq_true rfl]) | (rw [decide_eq_false (by decide +kernel)]))
theorem Txt.c_LETTERS (T : Txt K mg) : GConst T.gb mg ("LETTERS" : Str) k_LETTERS := ⟨T.v_LETTERS, .str ("abcdefghijklmnopqrstuvwxyzABCDEFGHIJKLMNOPQRSTUVWXYZ" : Str), T.mk_LETTERS, T.vk_LETTERS, fun _ => .str _⟩
theorem Txt.c_FIGURES (T : Txt K mg) : GConst T.gb mg ("FIGURES" : Str) k_FIGURES := ⟨T.v_FIGURES, .str ("0123456789" : Str), T.mk_FIGURES, T.vk_FIGURES, fun _ => .str _⟩
theorem Txt.c_KEPT_WORDS (T : Txt K mg) : GConst T.gb mg ("KEPT_WORDS" : Str) k_KEPT_WORDS := ⟨T.v_KEPT_WORDS, .ref T.a_KEPT_WORDS, T.mk_KEPT_WORDS, T.va_KEPT_WORDS, fun H => .ktup (T.vk_KEPT_WORDS H) (.cons (.str _) (.cons (.str _) (.cons (.str _) ( .nil))))⟩
/-! # the walk -/
theorem ok__law_pen (T : Txt K mg) : FnOk P w K mg base CX0 1 T.f__law_pen T.d__law_pen [("script" : Str)] (spF T.gb m__law_pen) := by
  have nd := sc__law_pen.nd
  refine fnOk T.F__law_pen sc__law_pen fun cdv A outer s H E hr => ?_
  have hu0 : (A.deeper (PyProof.Rows.envOfC ("_law_pen" : Str) (defScope s__law_pen) s.heap.objs.size T.f__law_pen cdv)).units < cLine := by have := hr.un; omega
  have hu64 : (A.deeper (PyProof.Rows.envOfC ("_law_pen" : Str) (defScope s__law_pen) s.heap.objs.size T.f__law_pen cdv)).units + 64 < cLine := by have := hr.un; omega
  have hu65 : (A.deeper (PyProof.Rows.envOfC ("_law_pen" : Str) (defScope s__law_pen) s.heap.objs.size T.f__law_pen cdv)).units + 65 < cLine := by have := hr.un; omega
  have hu67 : (A.deeper (PyProof.Rows.envOfC ("_law_pen" : Str) (defScope s__law_pen) s.heap.objs.size T.f__law_pen cdv)).units + 67 < cLine := by have := hr.un; omega
  let g := T.gb
  exact (isCons (iSet 1 iInt nd)
  (isCons (iFor rfl PassesOwn.never (iiSeq (iN 0) rfl) (igName 2 nd)
  (isOne (iSet 1 (iOp op_mod (modS g) (iCallT call_intA (intS g) T.n_int (by decide +kernel) (iaCons (iOp op_addA (addS g) (iOp op_mulA (mulS g) (iN 1) iInt) (iN 2)) iaNil)) iInt) nd)))
  (isOne (iRetSh (inDisp (ippsCons iStr (iFz (nListOf rfl T.n_list (iaCons (iN 0) iaNil))) (ippsCons iStr iInt (ippsCons iStr iInt (ippsCons iStr iInt (ippsCons iStr (iN 1) ippsNil))))))))))
theorem ok__law_draw (T : Txt K mg) : FnOk P w K mg base CX0 1 T.f__law_draw T.d__law_draw [("pen" : Str), ("many" : Str)] (spF T.gb m__law_draw) := by
  have nd := sc__law_draw.nd
  refine fnOk T.F__law_draw sc__law_draw fun cdv A outer s H E hr => ?_
  have hu0 : (A.deeper (PyProof.Rows.envOfC ("_law_draw" : Str) (defScope s__law_draw) s.heap.objs.size T.f__law_draw cdv)).units < cLine := by have := hr.un; omega
  have hu64 : (A.deeper (PyProof.Rows.envOfC ("_law_draw" : Str) (defScope s__law_draw) s.heap.objs.size T.f__law_draw cdv)).units + 64 < cLine := by have := hr.un; omega
  have hu65 : (A.deeper (PyProof.Rows.envOfC ("_law_draw" : Str) (defScope s__law_draw) s.heap.objs.size T.f__law_draw cdv)).units + 65 < cLine := by have := hr.un; omega
  have hu67 : (A.deeper (PyProof.Rows.envOfC ("_law_draw" : Str) (defScope s__law_draw) s.heap.objs.size T.f__law_draw cdv)).units + 67 < cLine := by have := hr.un; omega
  let g := T.gb
  exact (isCons (iAsg (iOp op_addA (addS g) (iIdx hu65 rfl (iN 0) iStr) iInt) (igSub hu65 (iN 0) iStr))
  (isCons (iIf ((iTAnd (iTCmp (op_eqA hu64) (eqS g) (iIdx hu65 rfl (iN 0) iStr) iInt) (pw_and1 (iTCmp op_lt (ltS g) (iIdx hu65 rfl (iN 0) iStr) (iCallB call_lenA (lenS g) T.n_len (by decide +kernel) (iaCons (iIdx hu65 rfl (iN 0) iStr) iaNil)))))).pt
  (isCons (iSet 2 (iIdx hu65 rfl (iIdx hu65 rfl (iN 0) iStr) (iIdx hu65 rfl (iN 0) iStr)) nd)
  (isCons (iAsg (iOp op_addA (addS g) (iIdx hu65 rfl (iN 0) iStr) iInt) (igSub hu65 (iN 0) iStr))
  (isOne (iIf (iTCmp op_ge (geS g) (iN 2) (iOp op_pow (powS g) iInt iInt))
  (isOne (iAsg (iOp op_sub (subS g) (iN 2) (iOp op_pow (powS g) iInt iInt)) (igSub hu65 (iN 0) iStr)))
  (isOne (iAsg (iOp op_mod (modS g) (iCallT call_intA (intS g) T.n_int (by decide +kernel) (iaCons (iOp op_addA (addS g) (iOp op_mulA (mulS g) (iIdx hu65 rfl (iN 0) iStr) iInt) (iN 2)) iaNil)) iInt) (igSub hu65 (iN 0) iStr)))))))
  isNil)
  (isCons (iIf (iTCmp op_gt (gtS g) (iIdx hu65 rfl (iN 0) iStr) iInt)
  (isCons (iSet 3 (iOp op_mod (modS g) (iCallT call_intA (intS g) T.n_int (by decide +kernel) (iaCons (iIdx hu65 rfl (iN 0) iStr) iaNil)) (iN 1)) nd)
  (isCons (iAsg (iOp op_fdivW (fdivS g) (iIdx hu65 rfl (iN 0) iStr) (iN 1)) (igSub hu65 (iN 0) iStr))
  (isOne (iRet (iN 3)))))
  isNil)
  (isCons (iSet 4 (iOp op_addA (addS g) (iOp op_addA (addS g) (iIdx hu65 rfl (iN 0) iStr) (iOp op_mulA (mulS g) (iIdx hu65 rfl (iN 0) iStr) iInt)) iInt) nd)
  (isOne (iRet (iOp op_mod (modS g) (iOp op_fdivW (fdivS g) (iCallT call_intA (intS g) T.n_int (by decide +kernel) (iaCons (iOp op_mod (modS g) (iOp op_pow (powS g) (iN 4) iInt) iInt) iaNil)) iInt) (iN 1))))))))
theorem ok__law_pick (T : Txt K mg) : FnOk P w K mg base CX0 2 T.f__law_pick T.d__law_pick [("pen" : Str), ("some" : Str)] (spF T.gb m__law_pick) := by
  have nd := sc__law_pick.nd
  refine fnOk T.F__law_pick sc__law_pick fun cdv A outer s H E hr => ?_
  have hu0 : (A.deeper (PyProof.Rows.envOfC ("_law_pick" : Str) (defScope s__law_pick) s.heap.objs.size T.f__law_pick cdv)).units < cLine := by have := hr.un; omega
  have hu64 : (A.deeper (PyProof.Rows.envOfC ("_law_pick" : Str) (defScope s__law_pick) s.heap.objs.size T.f__law_pick cdv)).units + 64 < cLine := by have := hr.un; omega
  have hu65 : (A.deeper (PyProof.Rows.envOfC ("_law_pick" : Str) (defScope s__law_pick) s.heap.objs.size T.f__law_pick cdv)).units + 65 < cLine := by have := hr.un; omega
  have hu67 : (A.deeper (PyProof.Rows.envOfC ("_law_pick" : Str) (defScope s__law_pick) s.heap.objs.size T.f__law_pick cdv)).units + 67 < cLine := by have := hr.un; omega
  let g := T.gb
  exact (isOne (iRet (iIdx hu65 rfl (iN 1) (iCall (E := fun _ _ _ => False) (ok__law_draw T) (hr.mono (by decide)) T.m__law_draw T.F__law_draw.kp T.b__law_draw pass0 (iaCons (iN 0) (iaCons (iCallB call_lenA (lenS g) T.n_len (by decide +kernel) (iaCons (iN 1) iaNil)) iaNil))))))
theorem ok__law_many (T : Txt K mg) : FnOk P w K mg base CX0 3 T.f__law_many T.d__law_many [("pen" : Str)] (spF T.gb m__law_many) := by
  have nd := sc__law_many.nd
  refine fnOk T.F__law_many sc__law_many fun cdv A outer s H E hr => ?_
  have hu0 : (A.deeper (PyProof.Rows.envOfC ("_law_many" : Str) (defScope s__law_many) s.heap.objs.size T.f__law_many cdv)).units < cLine := by have := hr.un; omega
  have hu64 : (A.deeper (PyProof.Rows.envOfC ("_law_many" : Str) (defScope s__law_many) s.heap.objs.size T.f__law_many cdv)).units + 64 < cLine := by have := hr.un; omega
  have hu65 : (A.deeper (PyProof.Rows.envOfC ("_law_many" : Str) (defScope s__law_many) s.heap.objs.size T.f__law_many cdv)).units + 65 < cLine := by have := hr.un; omega
  have hu67 : (A.deeper (PyProof.Rows.envOfC ("_law_many" : Str) (defScope s__law_many) s.heap.objs.size T.f__law_many cdv)).units + 67 < cLine := by have := hr.un; omega
  let g := T.gb
  exact (isOne (iRet (iCall (E := fun _ _ _ => False) (ok__law_pick T) (hr.mono (by decide)) T.m__law_pick T.F__law_pick.kp T.b__law_pick pass0 (iaCons (iN 0) (iaCons (iFz (nList (iaCons iInt (iaCons iInt (iaCons iInt (iaCons iInt (iaCons iInt (iaCons iInt (iaCons iInt (iaCons iInt iaNil)))))))))) iaNil)))))
theorem ok__law_name (T : Txt K mg) : FnOk P w K mg base CX0 3 T.f__law_name T.d__law_name [("pen" : Str)] (spF T.gb m__law_name) := by
  have nd := sc__law_name.nd
  refine fnOk T.F__law_name sc__law_name fun cdv A outer s H E hr => ?_
  have hu0 : (A.deeper (PyProof.Rows.envOfC ("_law_name" : Str) (defScope s__law_name) s.heap.objs.size T.f__law_name cdv)).units < cLine := by have := hr.un; omega
  have hu64 : (A.deeper (PyProof.Rows.envOfC ("_law_name" : Str) (defScope s__law_name) s.heap.objs.size T.f__law_name cdv)).units + 64 < cLine := by have := hr.un; omega
  have hu65 : (A.deeper (PyProof.Rows.envOfC ("_law_name" : Str) (defScope s__law_name) s.heap.objs.size T.f__law_name cdv)).units + 65 < cLine := by have := hr.un; omega
  have hu67 : (A.deeper (PyProof.Rows.envOfC ("_law_name" : Str) (defScope s__law_name) s.heap.objs.size T.f__law_name cdv)).units + 67 < cLine := by have := hr.un; omega
  let g := T.gb
  exact (isCons (iSet 1 iStr nd)
  (isCons (iSet 2 (iIdx hu65 rfl (iN 1) (iCall (E := fun _ _ _ => False) (ok__law_draw T) (hr.mono (by decide)) T.m__law_draw T.F__law_draw.kp T.b__law_draw pass0 (iaCons (iN 0) (iaCons iInt iaNil)))) nd)
  (isCons (iFor rfl PassesOwn.never (iiRange1 (iaCons (iCall (E := fun _ _ _ => False) (ok__law_pick T) (hr.mono (by decide)) T.m__law_pick T.F__law_pick.kp T.b__law_pick pass0 (iaCons (iN 0) (iaCons (iFz (nList (iaCons iInt (iaCons iInt (iaCons iInt (iaCons iInt (iaCons iInt iaNil))))))) iaNil))) iaNil) T.n_range) (igName 3 nd)
  (isOne (iSet 2 (iOp op_addA (addS g) (iN 2) (iIdx hu65 rfl (iOp op_addA (addS g) (iN 1) iStr) (iCall (E := fun _ _ _ => False) (ok__law_draw T) (hr.mono (by decide)) T.m__law_draw T.F__law_draw.kp T.b__law_draw pass0 (iaCons (iN 0) (iaCons iInt iaNil))))) nd)))
  (isOne (iRet (iN 2))))))
theorem ok__law_names (T : Txt K mg) : FnOk P w K mg base CX0 4 T.f__law_names T.d__law_names [("pen" : Str), ("many" : Str)] (spF T.gb m__law_names) := by
  have nd := sc__law_names.nd
  refine fnOk T.F__law_names sc__law_names fun cdv A outer s H E hr => ?_
  have hu0 : (A.deeper (PyProof.Rows.envOfC ("_law_names" : Str) (defScope s__law_names) s.heap.objs.size T.f__law_names cdv)).units < cLine := by have := hr.un; omega
  have hu64 : (A.deeper (PyProof.Rows.envOfC ("_law_names" : Str) (defScope s__law_names) s.heap.objs.size T.f__law_names cdv)).units + 64 < cLine := by have := hr.un; omega
  have hu65 : (A.deeper (PyProof.Rows.envOfC ("_law_names" : Str) (defScope s__law_names) s.heap.objs.size T.f__law_names cdv)).units + 65 < cLine := by have := hr.un; omega
  have hu67 : (A.deeper (PyProof.Rows.envOfC ("_law_names" : Str) (defScope s__law_names) s.heap.objs.size T.f__law_names cdv)).units + 67 < cLine := by have := hr.un; omega
  let g := T.gb
  exact (isCons (iOwn 2 (nList iaNil) nd)
  (isCons (iFor rfl PassesOwn.never (iiRange1 (iaCons (iN 1) iaNil) T.n_range) (igName 3 nd)
  (isCons (iSet 4 (iCall (E := fun _ _ _ => False) (ok__law_name T) (hr.mono (by decide)) T.m__law_name T.F__law_name.kp T.b__law_name pass0 (iaCons (iN 0) iaNil)) nd)
  (isCons (iFor rfl PassesOwn.never (iiRange1 (iaCons iInt iaNil) T.n_range) (igName 5 nd)
  (isCons (iIf ((iTAnd (iTNotIn hu65 rfl (iN 4) (iN 2)) (pw_and1 (iTNotIn hu65 rfl (iN 4) (iTup (iaCons iStr (iaCons iStr (iaCons iStr iaNil)))))))).pt
  (isOne iBreak)
  isNil)
  (isOne (iSet 4 (iOp op_addA (addS g) iStr (iCallT call_strA (strS g) T.n_str (by decide +kernel) (iaCons (iN 5) iaNil))) nd))))
  (isOne (iExpr (iAppend rfl (iN 2) (iaCons (iN 4) iaNil)))))))
  (isOne (iRet (iN 2)))))
theorem ok__law_shuffled (T : Txt K mg) : FnOk P w K mg base CX0 2 T.f__law_shuffled T.d__law_shuffled [("pen" : Str), ("some" : Str)] (spF T.gb m__law_shuffled) := by
  have nd := sc__law_shuffled.nd
  refine fnOk T.F__law_shuffled sc__law_shuffled fun cdv A outer s H E hr => ?_
  have hu0 : (A.deeper (PyProof.Rows.envOfC ("_law_shuffled" : Str) (defScope s__law_shuffled) s.heap.objs.size T.f__law_shuffled cdv)).units < cLine := by have := hr.un; omega
  have hu64 : (A.deeper (PyProof.Rows.envOfC ("_law_shuffled" : Str) (defScope s__law_shuffled) s.heap.objs.size T.f__law_shuffled cdv)).units + 64 < cLine := by have := hr.un; omega
  have hu65 : (A.deeper (PyProof.Rows.envOfC ("_law_shuffled" : Str) (defScope s__law_shuffled) s.heap.objs.size T.f__law_shuffled cdv)).units + 65 < cLine := by have := hr.un; omega
  have hu67 : (A.deeper (PyProof.Rows.envOfC ("_law_shuffled" : Str) (defScope s__law_shuffled) s.heap.objs.size T.f__law_shuffled cdv)).units + 67 < cLine := by have := hr.un; omega
  let g := T.gb
  exact (isCons (iPar2 2 3 rfl nd (ikOwn (nListOf rfl T.n_list (iaCons (iN 1) iaNil))) (ikOwn (nList iaNil)))
  (isCons (iFor rfl PassesOwn.never (iiRange1 (iaCons (iCallB call_lenA (lenS g) T.n_len (by decide +kernel) (iaCons (iN 1) iaNil)) iaNil) T.n_range) (igName 4 nd)
  (isOne (iExpr (iAppend rfl (iN 3) (iaCons (iPopAt rfl (iN 2) (iaCons (iCall (E := fun _ _ _ => False) (ok__law_draw T) (hr.mono (by decide)) T.m__law_draw T.F__law_draw.kp T.b__law_draw pass0 (iaCons (iN 0) (iaCons (iCallB call_lenA (lenS g) T.n_len (by decide +kernel) (iaCons (iN 2) iaNil)) iaNil))) iaNil)) iaNil)))))
  (isOne (iRet (iN 3)))))
theorem ok__law_free_rows (T : Txt K mg) : FnOk P w K mg base CX0 3 T.f__law_free_rows T.d__law_free_rows [("pen" : Str), ("many" : Str)] (spF T.gb m__law_free_rows) := by
  have nd := sc__law_free_rows.nd
  refine fnOk T.F__law_free_rows sc__law_free_rows fun cdv A outer s H E hr => ?_
  have hu0 : (A.deeper (PyProof.Rows.envOfC ("_law_free_rows" : Str) (defScope s__law_free_rows) s.heap.objs.size T.f__law_free_rows cdv)).units < cLine := by have := hr.un; omega
  have hu64 : (A.deeper (PyProof.Rows.envOfC ("_law_free_rows" : Str) (defScope s__law_free_rows) s.heap.objs.size T.f__law_free_rows cdv)).units + 64 < cLine := by have := hr.un; omega
  have hu65 : (A.deeper (PyProof.Rows.envOfC ("_law_free_rows" : Str) (defScope s__law_free_rows) s.heap.objs.size T.f__law_free_rows cdv)).units + 65 < cLine := by have := hr.un; omega
  have hu67 : (A.deeper (PyProof.Rows.envOfC ("_law_free_rows" : Str) (defScope s__law_free_rows) s.heap.objs.size T.f__law_free_rows cdv)).units + 67 < cLine := by have := hr.un; omega
  let g := T.gb
  exact (isCons (iSet 2 (iCall (E := fun _ _ _ => False) (ok__law_pick T) (hr.mono (by decide)) T.m__law_pick T.F__law_pick.kp T.b__law_pick pass0 (iaCons (iN 0) (iaCons (iFz (nList (iaCons (iFz (nList (iaCons iInt (iaCons iInt (iaCons iInt iaNil))))) (iaCons (iFz (nList (iaCons iInt (iaCons iInt (iaCons iInt (iaCons iInt iaNil)))))) (iaCons (iFz (nList (iaCons iInt (iaCons iInt iaNil)))) (iaCons (iFz (nList (iaCons iInt (iaCons iInt (iaCons iInt (iaCons iInt (iaCons iInt iaNil))))))) (iaCons (iFz (nList (iaCons iInt (iaCons iInt (iaCons iInt (iaCons iInt (iaCons iInt iaNil))))))) iaNil))))))) iaNil))) nd)
  (isOne (iRet (iCallT call_tupleA (tupleS g) T.n_tuple (by decide +kernel) (iaCons (iFz (iLc [(("i" : Str), 4)] rfl nd (iiRange1 (iaCons (iN 1) iaNil) T.n_range) (blkOk_by (N := N__law_free_rows) (sc := defScope s__law_free_rows) (by decide +kernel)) (fun _ _ _ _ _ => (igName 4 nd)) (fun _ _ _ _ _ => itsNil) (fun _ _ _ _ _ => (iCallT call_tupleA (tupleS g) T.n_tuple (by decide +kernel) (iaCons (iFz (iLc [(("j" : Str), 3)] rfl nd (iiRange1 (iaCons (iN 1) iaNil) T.n_range) (blk2 (N := N__law_free_rows) (sc := defScope s__law_free_rows) rfl (by decide +kernel)) (fun _ _ _ _ _ => (igName 3 nd)) (fun _ _ _ _ _ => itsNil) (fun _ _ _ _ _ => (iCall (E := fun _ _ _ => False) (ok__law_pick T) (hr.mono (by decide)) T.m__law_pick T.F__law_pick.kp T.b__law_pick pass0 (iaCons (iN 0) (iaCons (iN 2) iaNil)))))) iaNil))))) iaNil)))))
theorem ok__law_moving_rows (T : Txt K mg) : FnOk P w K mg base CX0 2 T.f__law_moving_rows T.d__law_moving_rows [("pen" : Str), ("many" : Str)] (spF T.gb m__law_moving_rows) := by
  have nd := sc__law_moving_rows.nd
  refine fnOk T.F__law_moving_rows sc__law_moving_rows fun cdv A outer s H E hr => ?_
  have hu0 : (A.deeper (PyProof.Rows.envOfC ("_law_moving_rows" : Str) (defScope s__law_moving_rows) s.heap.objs.size T.f__law_moving_rows cdv)).units < cLine := by have := hr.un; omega
  have hu64 : (A.deeper (PyProof.Rows.envOfC ("_law_moving_rows" : Str) (defScope s__law_moving_rows) s.heap.objs.size T.f__law_moving_rows cdv)).units + 64 < cLine := by have := hr.un; omega
  have hu65 : (A.deeper (PyProof.Rows.envOfC ("_law_moving_rows" : Str) (defScope s__law_moving_rows) s.heap.objs.size T.f__law_moving_rows cdv)).units + 65 < cLine := by have := hr.un; omega
  have hu67 : (A.deeper (PyProof.Rows.envOfC ("_law_moving_rows" : Str) (defScope s__law_moving_rows) s.heap.objs.size T.f__law_moving_rows cdv)).units + 67 < cLine := by have := hr.un; omega
  let g := T.gb
  exact (isCons (iOwn 2 (nList iaNil) nd)
  (isCons (iFor rfl PassesOwn.never (iiRange1 (iaCons (iN 1) iaNil) T.n_range) (igName 3 nd)
  (isCons (iSet 4 (iCall (E := fun _ _ _ => False) (ok__law_draw T) (hr.mono (by decide)) T.m__law_draw T.F__law_draw.kp T.b__law_draw pass0 (iaCons (iN 0) (iaCons (iOp op_addA (addS g) (iN 1) iInt) iaNil))) nd)
  (isOne (iExpr (iAppend rfl (iN 2) (iaCons (iCallT call_tupleA (tupleS g) T.n_tuple (by decide +kernel) (iaCons (iFz (iLc [(("j" : Str), 5)] rfl nd (iiRange1 (iaCons (iN 1) iaNil) T.n_range) (blkOk_by (N := N__law_moving_rows) (sc := defScope s__law_moving_rows) (by decide +kernel)) (fun _ _ _ _ _ => (igName 5 nd)) (fun _ _ _ _ _ => itsNil) (fun _ _ _ _ _ => (iCallT call_intA (intS g) T.n_int (by decide +kernel) (iaCons (iCmp (op_eqA hu64) (eqS g) (iN 5) (iN 4)) iaNil))))) iaNil)) iaNil))))))
  (isOne (iRet (iCallT call_tupleA (tupleS g) T.n_tuple (by decide +kernel) (iaCons (iN 2) iaNil))))))
theorem ok__law_stair_rows (T : Txt K mg) : FnOk P w K mg base CX0 3 T.f__law_stair_rows T.d__law_stair_rows [("pen" : Str), ("many" : Str), ("order" : Str)] (spF T.gb m__law_stair_rows) := by
  have nd := sc__law_stair_rows.nd
  refine fnOk T.F__law_stair_rows sc__law_stair_rows fun cdv A outer s H E hr => ?_
  have hu0 : (A.deeper (PyProof.Rows.envOfC ("_law_stair_rows" : Str) (defScope s__law_stair_rows) s.heap.objs.size T.f__law_stair_rows cdv)).units < cLine := by have := hr.un; omega
  have hu64 : (A.deeper (PyProof.Rows.envOfC ("_law_stair_rows" : Str) (defScope s__law_stair_rows) s.heap.objs.size T.f__law_stair_rows cdv)).units + 64 < cLine := by have := hr.un; omega
  have hu65 : (A.deeper (PyProof.Rows.envOfC ("_law_stair_rows" : Str) (defScope s__law_stair_rows) s.heap.objs.size T.f__law_stair_rows cdv)).units + 65 < cLine := by have := hr.un; omega
  have hu67 : (A.deeper (PyProof.Rows.envOfC ("_law_stair_rows" : Str) (defScope s__law_stair_rows) s.heap.objs.size T.f__law_stair_rows cdv)).units + 67 < cLine := by have := hr.un; omega
  let g := T.gb
  exact PSs.via (pss_cons (ps_setLc (i := 3) (own := [(("i" : Str), 4)]) rfl nd rfl rfl (sw_true rfl rfl rfl (by decide +kernel)) (iiRange1 (iaCons (iN 1) iaNil) T.n_range) (blkOk_by (N := N__law_stair_rows) (sc := defScope s__law_stair_rows) (by decide +kernel)) (fun _ _ _ _ _ => igName 4 nd) (fun _ _ _ _ _ => itsNil) (fun _ _ _ _ _ => nMul (iaCons iInt iaNil) (iN 1)))
    (pss_cons (ps_for PassesOwn.never rfl (iiRange1 (iaCons (iN 1) iaNil) T.n_range) (igName 5 nd) (pss_cons
      (ps_asg (iCall (E := fun _ _ _ => False) (ok__law_pick T) (hr.mono (by decide)) T.m__law_pick T.F__law_pick.kp T.b__law_pick pass0 (iaCons (iN 0) (iaCons (iFz (nList (iaCons iInt (iaCons iInt (iaCons iInt iaNil))))) iaNil)))
        (pg_sub (pe_ix ix_list (pe_var (i := 3) rfl (Or.inl rfl)) (iIdx hu65 rfl (iN 2) (iN 5)) (by intro _ _; rfl)) (iIdx hu65 rfl (iN 2) (iN 5)) set_list))
      (pss_one (ps_for PassesOwn.never rfl (iiSeq (iCut rfl (iN 2) (ioSome (iOp op_addA (addS g) (iN 5) iInt)) ioNone) rfl) (igName 6 nd) (pss_one
        (ps_asg (iCall (E := fun _ _ _ => False) (ok__law_pick T) (hr.mono (by decide)) T.m__law_pick T.F__law_pick.kp T.b__law_pick pass0 (iaCons (iN 0) (iaCons (iFz (nList (iaCons iInt (iaCons iInt (iaCons iInt (iaCons iInt (iaCons iInt iaNil))))))) iaNil)))
          (pg_sub (pe_ix ix_list (pe_var (i := 3) rfl (Or.inl rfl)) (iIdx hu65 rfl (iN 2) (iN 5)) (by intro _ _; rfl)) (iN 6) set_list)))))))
    (pss_one (iRet (iCallT call_tupleA (tupleS g) T.n_tuple (by decide +kernel) (iaCons (iFz (iLc [(("row" : Str), 7)] rfl nd (iiSeq (iN 3) rfl) (blkOk_by (N := N__law_stair_rows) (sc := defScope s__law_stair_rows) (by decide +kernel)) (fun _ _ _ _ _ => igName 7 nd) (fun _ _ _ _ _ => itsNil) (fun _ _ _ _ _ => iCallT call_tupleA (tupleS g) T.n_tuple (by decide +kernel) (iaCons (iN 7) iaNil)))) iaNil)))))) (stair_run (pk := m__law_pick))

theorem ok__law_exchange_rows (T : Txt K mg) : FnOk P w K mg base CX0 3 T.f__law_exchange_rows T.d__law_exchange_rows [("pen" : Str), ("many" : Str)] (spF T.gb m__law_exchange_rows) := by
  have nd := sc__law_exchange_rows.nd
  refine fnOk T.F__law_exchange_rows sc__law_exchange_rows fun cdv A outer s H E hr => ?_
  have hu0 : (A.deeper (PyProof.Rows.envOfC ("_law_exchange_rows" : Str) (defScope s__law_exchange_rows) s.heap.objs.size T.f__law_exchange_rows cdv)).units < cLine := by have := hr.un; omega
  have hu64 : (A.deeper (PyProof.Rows.envOfC ("_law_exchange_rows" : Str) (defScope s__law_exchange_rows) s.heap.objs.size T.f__law_exchange_rows cdv)).units + 64 < cLine := by have := hr.un; omega
  have hu65 : (A.deeper (PyProof.Rows.envOfC ("_law_exchange_rows" : Str) (defScope s__law_exchange_rows) s.heap.objs.size T.f__law_exchange_rows cdv)).units + 65 < cLine := by have := hr.un; omega
  have hu67 : (A.deeper (PyProof.Rows.envOfC ("_law_exchange_rows" : Str) (defScope s__law_exchange_rows) s.heap.objs.size T.f__law_exchange_rows cdv)).units + 67 < cLine := by have := hr.un; omega
  let g := T.gb
  exact (isCons (iSet 2 (iCall (E := fun _ _ _ => False) (ok__law_shuffled T) (hr.mono (by decide)) T.m__law_shuffled T.F__law_shuffled.kp T.b__law_shuffled pass0 (iaCons (iN 0) (iaCons (iFz (nListRg1 rfl T.n_list T.n_range (iN 1))) iaNil))) nd)
  (isOne (iRet (iCallT call_tupleA (tupleS g) T.n_tuple (by decide +kernel) (iaCons (iFz (iLc [(("i" : Str), 4)] rfl nd (iiRange1 (iaCons (iN 1) iaNil) T.n_range) (blkOk_by (N := N__law_exchange_rows) (sc := defScope s__law_exchange_rows) (by decide +kernel)) (fun _ _ _ _ _ => (igName 4 nd)) (fun _ _ _ _ _ => itsNil) (fun _ _ _ _ _ => (iCallT call_tupleA (tupleS g) T.n_tuple (by decide +kernel) (iaCons (iFz (iLc [(("j" : Str), 3)] rfl nd (iiRange1 (iaCons (iN 1) iaNil) T.n_range) (blk2 (N := N__law_exchange_rows) (sc := defScope s__law_exchange_rows) rfl (by decide +kernel)) (fun _ _ _ _ _ => (igName 3 nd)) (fun _ _ _ _ _ => itsNil) (fun _ _ _ _ _ => (iCallT call_intA (intS g) T.n_int (by decide +kernel) (iaCons (iCmp (op_eqA hu64) (eqS g) (iIdx hu65 rfl (iN 2) (iN 4)) (iN 3)) iaNil))))) iaNil))))) iaNil)))))
theorem ok__law_tables (T : Txt K mg) : FnOk P w K mg base CX0 4 T.f__law_tables T.d__law_tables [("pen" : Str), ("many" : Str), ("count" : Str)] (spF T.gb m__law_tables) := by
  have nd := sc__law_tables.nd
  refine fnOk T.F__law_tables sc__law_tables fun cdv A outer s H E hr => ?_
  have hu0 : (A.deeper (PyProof.Rows.envOfC ("_law_tables" : Str) (defScope s__law_tables) s.heap.objs.size T.f__law_tables cdv)).units < cLine := by have := hr.un; omega
  have hu64 : (A.deeper (PyProof.Rows.envOfC ("_law_tables" : Str) (defScope s__law_tables) s.heap.objs.size T.f__law_tables cdv)).units + 64 < cLine := by have := hr.un; omega
  have hu65 : (A.deeper (PyProof.Rows.envOfC ("_law_tables" : Str) (defScope s__law_tables) s.heap.objs.size T.f__law_tables cdv)).units + 65 < cLine := by have := hr.un; omega
  have hu67 : (A.deeper (PyProof.Rows.envOfC ("_law_tables" : Str) (defScope s__law_tables) s.heap.objs.size T.f__law_tables cdv)).units + 67 < cLine := by have := hr.un; omega
  let g := T.gb
  exact (isCons (iPar2 3 4 rfl nd (ikV (iCall (E := fun _ _ _ => False) (ok__law_draw T) (hr.mono (by decide)) T.m__law_draw T.F__law_draw.kp T.b__law_draw pass0 (iaCons (iN 0) (iaCons iInt iaNil)))) (ikV (iCall (E := fun _ _ _ => False) (ok__law_shuffled T) (hr.mono (by decide)) T.m__law_shuffled T.F__law_shuffled.kp T.b__law_shuffled pass0 (iaCons (iN 0) (iaCons (iFz (nListRg1 rfl T.n_list T.n_range (iN 1))) iaNil)))))
  (isCons (iOwn 5 (nList iaNil) nd)
  (isCons (iFor rfl PassesOwn.never (iiRange1 (iaCons (iN 2) iaNil) T.n_range) (igName 6 nd)
  (isCons (iIf (iTCmp op_lt (ltS g) (iN 3) iInt)
  (isOne (iSet 7 (iCall (E := fun _ _ _ => False) (ok__law_free_rows T) (hr.mono (by decide)) T.m__law_free_rows T.F__law_free_rows.kp T.b__law_free_rows pass0 (iaCons (iN 0) (iaCons (iN 1) iaNil))) nd))
  (isOne (iIf (iTCmp (op_eqA hu64) (eqS g) (iN 3) iInt)
  (isOne (iSet 7 (iCall (E := fun _ _ _ => False) (ok__law_moving_rows T) (hr.mono (by decide)) T.m__law_moving_rows T.F__law_moving_rows.kp T.b__law_moving_rows pass0 (iaCons (iN 0) (iaCons (iN 1) iaNil))) nd))
  (isOne (iIf (iTIn hu65 rfl (iN 3) (iTup (iaCons iInt (iaCons iInt iaNil))))
  (isOne (iSet 7 (iCall (E := fun _ _ _ => False) (ok__law_stair_rows T) (hr.mono (by decide)) T.m__law_stair_rows T.F__law_stair_rows.kp T.b__law_stair_rows pass0 (iaCons (iN 0) (iaCons (iN 1) (iaCons (iN 4) iaNil)))) nd))
  (isOne (iIf (iTCmp (op_eqA hu64) (eqS g) (iN 3) iInt)
  (isOne (iSet 7 (iIfE (iTCmp op_gt (gtS g) (iN 6) iInt) (iCall (E := fun _ _ _ => False) (ok__law_exchange_rows T) (hr.mono (by decide)) T.m__law_exchange_rows T.F__law_exchange_rows.kp T.b__law_exchange_rows pass0 (iaCons (iN 0) (iaCons (iN 1) iaNil))) (iCall (E := fun _ _ _ => False) (ok__law_stair_rows T) (hr.mono (by decide)) T.m__law_stair_rows T.F__law_stair_rows.kp T.b__law_stair_rows pass0 (iaCons (iN 0) (iaCons (iN 1) (iaCons (iN 4) iaNil))))) nd))
  (isOne (iSet 7 (iIfE (iTCmp op_gt (gtS g) (iCall (E := fun _ _ _ => False) (ok__law_draw T) (hr.mono (by decide)) T.m__law_draw T.F__law_draw.kp T.b__law_draw pass0 (iaCons (iN 0) (iaCons iInt iaNil))) iInt) (iCall (E := fun _ _ _ => False) (ok__law_moving_rows T) (hr.mono (by decide)) T.m__law_moving_rows T.F__law_moving_rows.kp T.b__law_moving_rows pass0 (iaCons (iN 0) (iaCons (iN 1) iaNil))) (iCall (E := fun _ _ _ => False) (ok__law_exchange_rows T) (hr.mono (by decide)) T.m__law_exchange_rows T.F__law_exchange_rows.kp T.b__law_exchange_rows pass0 (iaCons (iN 0) (iaCons (iN 1) iaNil)))) nd)))))))))
  (isOne (iExpr (iAppend rfl (iN 5) (iaCons (iN 7) iaNil))))))
  (isCons (iIf (iTCmp op_gt (gtS g) (iN 3) iInt)
  (isCons (iPar3 6 8 9 rfl nd (ikV (iCall (E := fun _ _ _ => False) (ok__law_draw T) (hr.mono (by decide)) T.m__law_draw T.F__law_draw.kp T.b__law_draw pass0 (iaCons (iN 0) (iaCons (iN 2) iaNil)))) (ikV (iCall (E := fun _ _ _ => False) (ok__law_draw T) (hr.mono (by decide)) T.m__law_draw T.F__law_draw.kp T.b__law_draw pass0 (iaCons (iN 0) (iaCons (iN 1) iaNil)))) (ikV (iCall (E := fun _ _ _ => False) (ok__law_draw T) (hr.mono (by decide)) T.m__law_draw T.F__law_draw.kp T.b__law_draw pass0 (iaCons (iN 0) (iaCons (iN 1) iaNil)))))
  (isCons (iSet 10 (iOp op_addA (addS g) (iOp op_addA (addS g) (iCut rfl (iIdx hu65 rfl (iIdx hu65 rfl (iN 5) (iN 6)) (iN 8)) ioNone (ioSome (iN 9))) (iTup (iaCons (iOp op_addA (addS g) (iIdx hu65 rfl (iIdx hu65 rfl (iIdx hu65 rfl (iN 5) (iN 6)) (iN 8)) (iN 9)) iInt) iaNil))) (iCut rfl (iIdx hu65 rfl (iIdx hu65 rfl (iN 5) (iN 6)) (iN 8)) (ioSome (iOp op_addA (addS g) (iN 9) iInt)) ioNone)) nd)
  (isOne (iAsg (iOp op_addA (addS g) (iOp op_addA (addS g) (iCut rfl (iIdx hu65 rfl (iN 5) (iN 6)) ioNone (ioSome (iN 8))) (iTup (iaCons (iN 10) iaNil))) (iCut rfl (iIdx hu65 rfl (iN 5) (iN 6)) (ioSome (iOp op_addA (addS g) (iN 8) iInt)) ioNone)) (igSub hu65 (iN 5) (iN 6))))))
  isNil)
  (isOne (iRet (iN 5)))))))
theorem ok_is_list (T : Txt K mg) : FnOk P w K mg base CX0 1 T.f_is_list T.d_is_list [("value" : Str)] (spF T.gb m_is_list) := by
  have nd := sc_is_list.nd
  refine fnOk T.F_is_list sc_is_list fun cdv A outer s H E hr => ?_
  have hu0 : (A.deeper (PyProof.Rows.envOfC ("is_list" : Str) (defScope s_is_list) s.heap.objs.size T.f_is_list cdv)).units < cLine := by have := hr.un; omega
  have hu64 : (A.deeper (PyProof.Rows.envOfC ("is_list" : Str) (defScope s_is_list) s.heap.objs.size T.f_is_list cdv)).units + 64 < cLine := by have := hr.un; omega
  have hu65 : (A.deeper (PyProof.Rows.envOfC ("is_list" : Str) (defScope s_is_list) s.heap.objs.size T.f_is_list cdv)).units + 65 < cLine := by have := hr.un; omega
  have hu67 : (A.deeper (PyProof.Rows.envOfC ("is_list" : Str) (defScope s_is_list) s.heap.objs.size T.f_is_list cdv)).units + 67 < cLine := by have := hr.un; omega
  let g := T.gb
  exact (isOne (iRet (iCallB call_isiA (isiS g T.clsOk) T.n_isinstance (by decide +kernel) (iaCons (iN 0) (iaCons (iTup (iaCons (iTy T.n_tuple (by decide +kernel)) (iaCons (iTy T.n_list (by decide +kernel)) iaNil))) iaNil)))))
theorem ok_is_whole (T : Txt K mg) : FnOk P w K mg base CX0 1 T.f_is_whole T.d_is_whole [("value" : Str)] (spF T.gb m_is_whole) := by
  have nd := sc_is_whole.nd
  refine fnOk T.F_is_whole sc_is_whole fun cdv A outer s H E hr => ?_
  have hu0 : (A.deeper (PyProof.Rows.envOfC ("is_whole" : Str) (defScope s_is_whole) s.heap.objs.size T.f_is_whole cdv)).units < cLine := by have := hr.un; omega
  have hu64 : (A.deeper (PyProof.Rows.envOfC ("is_whole" : Str) (defScope s_is_whole) s.heap.objs.size T.f_is_whole cdv)).units + 64 < cLine := by have := hr.un; omega
  have hu65 : (A.deeper (PyProof.Rows.envOfC ("is_whole" : Str) (defScope s_is_whole) s.heap.objs.size T.f_is_whole cdv)).units + 65 < cLine := by have := hr.un; omega
  have hu67 : (A.deeper (PyProof.Rows.envOfC ("is_whole" : Str) (defScope s_is_whole) s.heap.objs.size T.f_is_whole cdv)).units + 67 < cLine := by have := hr.un; omega
  let g := T.gb
  exact (isOne (iRet (iAnd (iCallB call_isiA (isiS g T.clsOk) T.n_isinstance (by decide +kernel) (iaCons (iN 0) (iaCons (iTy T.n_int (by decide +kernel)) iaNil))) (pe_one (iNot (iCallB call_isiA (isiS g T.clsOk) T.n_isinstance (by decide +kernel) (iaCons (iN 0) (iaCons (iTy T.n_bool (by decide +kernel)) iaNil))))))))
theorem ok_is_counts (T : Txt K mg) : FnOk P w K mg base CX0 2 T.f_is_counts T.d_is_counts [("many" : Str), ("value" : Str)] (spF T.gb m_is_counts) := by
  have nd := sc_is_counts.nd
  refine fnOk T.F_is_counts sc_is_counts fun cdv A outer s H E hr => ?_
  have hu0 : (A.deeper (PyProof.Rows.envOfC ("is_counts" : Str) (defScope s_is_counts) s.heap.objs.size T.f_is_counts cdv)).units < cLine := by have := hr.un; omega
  have hu64 : (A.deeper (PyProof.Rows.envOfC ("is_counts" : Str) (defScope s_is_counts) s.heap.objs.size T.f_is_counts cdv)).units + 64 < cLine := by have := hr.un; omega
  have hu65 : (A.deeper (PyProof.Rows.envOfC ("is_counts" : Str) (defScope s_is_counts) s.heap.objs.size T.f_is_counts cdv)).units + 65 < cLine := by have := hr.un; omega
  have hu67 : (A.deeper (PyProof.Rows.envOfC ("is_counts" : Str) (defScope s_is_counts) s.heap.objs.size T.f_is_counts cdv)).units + 67 < cLine := by have := hr.un; omega
  let g := T.gb
  exact (isOne (iRet (iAnd (iCall (E := fun _ _ _ => False) (ok_is_list T) (hr.mono (by decide)) T.m_is_list T.F_is_list.kp T.b_is_list pass0 (iaCons (iN 1) iaNil)) (iAnd (iCmp (op_eqA hu64) (eqS g) (iCallB call_lenA (lenS g) T.n_len (by decide +kernel) (iaCons (iN 1) iaNil)) (iN 0)) (pe_one (iCallB (cr_all rfl) (allS g) T.n_all (by decide +kernel) (iaCons (iFz (iLc [(("item" : Str), 2)] rfl nd (iiSeq (iN 1) rfl) (blkOk_by (N := N_is_counts) (sc := defScope s_is_counts) (by decide +kernel)) (fun _ _ _ _ _ => (igName 2 nd)) (fun _ _ _ _ _ => itsNil) (fun _ _ _ _ _ => (iAnd (iCall (E := fun _ _ _ => False) (ok_is_whole T) (hr.mono (by decide)) T.m_is_whole T.F_is_whole.kp T.b_is_whole pass0 (iaCons (iN 2) iaNil)) (pe_one (iCmp op_ge (geS g) (iN 2) iInt)))))) iaNil)))))))
theorem ok_is_rows (T : Txt K mg) : FnOk P w K mg base CX0 3 T.f_is_rows T.d_is_rows [("value" : Str)] (spF T.gb m_is_rows) := by
  have nd := sc_is_rows.nd
  refine fnOk T.F_is_rows sc_is_rows fun cdv A outer s H E hr => ?_
  have hu0 : (A.deeper (PyProof.Rows.envOfC ("is_rows" : Str) (defScope s_is_rows) s.heap.objs.size T.f_is_rows cdv)).units < cLine := by have := hr.un; omega
  have hu64 : (A.deeper (PyProof.Rows.envOfC ("is_rows" : Str) (defScope s_is_rows) s.heap.objs.size T.f_is_rows cdv)).units + 64 < cLine := by have := hr.un; omega
  have hu65 : (A.deeper (PyProof.Rows.envOfC ("is_rows" : Str) (defScope s_is_rows) s.heap.objs.size T.f_is_rows cdv)).units + 65 < cLine := by have := hr.un; omega
  have hu67 : (A.deeper (PyProof.Rows.envOfC ("is_rows" : Str) (defScope s_is_rows) s.heap.objs.size T.f_is_rows cdv)).units + 67 < cLine := by have := hr.un; omega
  let g := T.gb
  exact (isOne (iRet (iAnd (iCall (E := fun _ _ _ => False) (ok_is_list T) (hr.mono (by decide)) T.m_is_list T.F_is_list.kp T.b_is_list pass0 (iaCons (iN 0) iaNil)) (iAnd (iCmp op_gt (gtS g) (iCallB call_lenA (lenS g) T.n_len (by decide +kernel) (iaCons (iN 0) iaNil)) iInt) (pe_one (iCallB (cr_all rfl) (allS g) T.n_all (by decide +kernel) (iaCons (iFz (iLc [(("row" : Str), 1)] rfl nd (iiSeq (iN 0) rfl) (blkOk_by (N := N_is_rows) (sc := defScope s_is_rows) (by decide +kernel)) (fun _ _ _ _ _ => (igName 1 nd)) (fun _ _ _ _ _ => itsNil) (fun _ _ _ _ _ => (iCall (E := fun _ _ _ => False) (ok_is_counts T) (hr.mono (by decide)) T.m_is_counts T.F_is_counts.kp T.b_is_counts pass0 (iaCons (iCallB call_lenA (lenS g) T.n_len (by decide +kernel) (iaCons (iN 0) iaNil)) (iaCons (iN 1) iaNil)))))) iaNil)))))))
theorem ok_Table_init (T : Txt K mg) : FnOk P w K mg base CX0 4 T.f_Table_init T.d_Table_init [("self" : Str), ("rows" : Str)] (spF T.gb m_Table_init) := by
  have nd := sc_Table_init.nd
  refine fnOk T.F_Table_init sc_Table_init fun cdv A outer s H E hr => ?_
  have hu0 : (A.deeper (PyProof.Rows.envOfC ("Table.__init__" : Str) (defScope s_Table_init) s.heap.objs.size T.f_Table_init cdv)).units < cLine := by have := hr.un; omega
  have hu64 : (A.deeper (PyProof.Rows.envOfC ("Table.__init__" : Str) (defScope s_Table_init) s.heap.objs.size T.f_Table_init cdv)).units + 64 < cLine := by have := hr.un; omega
  have hu65 : (A.deeper (PyProof.Rows.envOfC ("Table.__init__" : Str) (defScope s_Table_init) s.heap.objs.size T.f_Table_init cdv)).units + 65 < cLine := by have := hr.un; omega
  have hu67 : (A.deeper (PyProof.Rows.envOfC ("Table.__init__" : Str) (defScope s_Table_init) s.heap.objs.size T.f_Table_init cdv)).units + 67 < cLine := by have := hr.un; omega
  let g := T.gb
  exact (isCons (iIf (iTNot (iTV (iCall (E := fun _ _ _ => False) (ok_is_rows T) (hr.mono (by decide)) T.m_is_rows T.F_is_rows.kp T.b_is_rows pass0 (iaCons (iN 1) iaNil))))
  (isOne iNoS)
  isNil)
  (isCons (iFldSet rfl T.fld_rows (iN 0) (iCallT call_tupleA (tupleS g) T.n_tuple (by decide +kernel) (iaCons (iFz (iLc [(("row" : Str), 2)] rfl nd (iiSeq (iN 1) rfl) (blkOk_by (N := N_Table_init) (sc := defScope s_Table_init) (by decide +kernel)) (fun _ _ _ _ _ => (igName 2 nd)) (fun _ _ _ _ _ => itsNil) (fun _ _ _ _ _ => (iCallT call_tupleA (tupleS g) T.n_tuple (by decide +kernel) (iaCons (iN 2) iaNil))))) iaNil)))
  (isOne (iFldSet rfl T.fld_many (iN 0) (iCallB call_lenA (lenS g) T.n_len (by decide +kernel) (iaCons (iFld rfl (T.fld_rows) (iN 0)) iaNil))))))
theorem ok_is_name (T : Txt K mg) : FnOk P w K mg base CX0 1 T.f_is_name T.d_is_name [("value" : Str)] (spF T.gb m_is_name) := by
  have nd := sc_is_name.nd
  refine fnOk T.F_is_name sc_is_name fun cdv A outer s H E hr => ?_
  have hu0 : (A.deeper (PyProof.Rows.envOfC ("is_name" : Str) (defScope s_is_name) s.heap.objs.size T.f_is_name cdv)).units < cLine := by have := hr.un; omega
  have hu64 : (A.deeper (PyProof.Rows.envOfC ("is_name" : Str) (defScope s_is_name) s.heap.objs.size T.f_is_name cdv)).units + 64 < cLine := by have := hr.un; omega
  have hu65 : (A.deeper (PyProof.Rows.envOfC ("is_name" : Str) (defScope s_is_name) s.heap.objs.size T.f_is_name cdv)).units + 65 < cLine := by have := hr.un; omega
  have hu67 : (A.deeper (PyProof.Rows.envOfC ("is_name" : Str) (defScope s_is_name) s.heap.objs.size T.f_is_name cdv)).units + 67 < cLine := by have := hr.un; omega
  let g := T.gb
  exact (isCons (iIf ((iTOr (iTNot (iTV (iCallB call_isiA (isiS g T.clsOk) T.n_isinstance (by decide +kernel) (iaCons (iN 0) (iaCons (iTy T.n_str (by decide +kernel)) iaNil))))) (iTOr (iTNot (iTChain op_le (leS g) op_le (leS g) iInt (iCallB call_lenA (lenS g) T.n_len (by decide +kernel) (iaCons (iN 0) iaNil)) iInt)) (pw_or1 (iTIn hu65 rfl (iN 0) (iGlob (by rfl) T.c_KEPT_WORDS)))))).pt
  (isOne (iRet iBl))
  isNil)
  (isCons (iIf (iTNotIn hu65 rfl (iIdx hu65 rfl (iN 0) iInt) (iGlob (by rfl) T.c_LETTERS))
  (isOne (iRet iBl))
  isNil)
  (isOne (iRet (iCallB (cr_all rfl) (allS g) T.n_all (by decide +kernel) (iaCons (iFz (iLc [(("sign" : Str), 1)] rfl nd (iiSeq (iN 0) rfl) (blkOk_by (N := N_is_name) (sc := defScope s_is_name) (by decide +kernel)) (fun _ _ _ _ _ => (igName 1 nd)) (fun _ _ _ _ _ => itsNil) (fun _ _ _ _ _ => (iOr (iIn hu65 rfl (iN 1) (iGlob (by rfl) T.c_LETTERS)) (iOr (iIn hu65 rfl (iN 1) (iGlob (by rfl) T.c_FIGURES)) (pe_one (iCmp (op_eqA hu64) (eqS g) (iN 1) iStr))))))) iaNil))))))
theorem ok_name_new (T : Txt K mg) : FnOk P w K mg base CX0 2 T.f_name_new T.d_name_new [("name" : Str), ("seen" : Str)] (spF T.gb m_name_new) := by
  have nd := sc_name_new.nd
  refine fnOk T.F_name_new sc_name_new fun cdv A outer s H E hr => ?_
  have hu0 : (A.deeper (PyProof.Rows.envOfC ("name_new" : Str) (defScope s_name_new) s.heap.objs.size T.f_name_new cdv)).units < cLine := by have := hr.un; omega
  have hu64 : (A.deeper (PyProof.Rows.envOfC ("name_new" : Str) (defScope s_name_new) s.heap.objs.size T.f_name_new cdv)).units + 64 < cLine := by have := hr.un; omega
  have hu65 : (A.deeper (PyProof.Rows.envOfC ("name_new" : Str) (defScope s_name_new) s.heap.objs.size T.f_name_new cdv)).units + 65 < cLine := by have := hr.un; omega
  have hu67 : (A.deeper (PyProof.Rows.envOfC ("name_new" : Str) (defScope s_name_new) s.heap.objs.size T.f_name_new cdv)).units + 67 < cLine := by have := hr.un; omega
  let g := T.gb
  exact (isCons (iIf (iTNot (iTV (iCall (E := fun _ _ _ => False) (ok_is_name T) (hr.mono (by decide)) T.m_is_name T.F_is_name.kp T.b_is_name pass0 (iaCons (iN 0) iaNil))))
  (isOne iNoS)
  isNil)
  (isCons (iIf (iTIn hu65 rfl (iN 0) (iN 1))
  (isOne iNoS)
  isNil)
  (isOne (iAsg iBl (igSub hu65 (iN 1) (iN 0))))))
theorem ok_Book_init (T : Txt K mg) : FnOk P w K mg base CX0 3 T.f_Book_init T.d_Book_init [("self" : Str), ("kinds" : Str), ("rounds" : Str)] (spF T.gb m_Book_init) := by
  have nd := sc_Book_init.nd
  refine fnOk T.F_Book_init sc_Book_init fun cdv A outer s H E hr => ?_
  have hu0 : (A.deeper (PyProof.Rows.envOfC ("Book.__init__" : Str) (defScope s_Book_init) s.heap.objs.size T.f_Book_init cdv)).units < cLine := by have := hr.un; omega
  have hu64 : (A.deeper (PyProof.Rows.envOfC ("Book.__init__" : Str) (defScope s_Book_init) s.heap.objs.size T.f_Book_init cdv)).units + 64 < cLine := by have := hr.un; omega
  have hu65 : (A.deeper (PyProof.Rows.envOfC ("Book.__init__" : Str) (defScope s_Book_init) s.heap.objs.size T.f_Book_init cdv)).units + 65 < cLine := by have := hr.un; omega
  have hu67 : (A.deeper (PyProof.Rows.envOfC ("Book.__init__" : Str) (defScope s_Book_init) s.heap.objs.size T.f_Book_init cdv)).units + 67 < cLine := by have := hr.un; omega
  let g := T.gb
  exact (isCons (iIf ((iTOr (iTNot (iTV (iCall (E := fun _ _ _ => False) (ok_is_list T) (hr.mono (by decide)) T.m_is_list T.F_is_list.kp T.b_is_list pass0 (iaCons (iN 1) iaNil)))) (pw_or1 (iTCmp (op_eqA hu64) (eqS g) (iCallB call_lenA (lenS g) T.n_len (by decide +kernel) (iaCons (iN 1) iaNil)) iInt)))).pt
  (isOne iNoS)
  isNil)
  (isCons (iSh 3 inDk nd)
  (isCons (iFor rfl PassesOwn.never (iiSeq (iN 1) rfl) (igName 4 nd)
  (isOne (iExpr (iCall (E := fun _ _ _ => False) (ok_name_new T) (hr.mono (by decide)) T.m_name_new T.F_name_new.kp T.b_name_new pass0 (iaCons (iN 4) (iaCons (iN 3) iaNil))))))
  (isCons (iIf ((iTOr (iTNot (iTV (iCall (E := fun _ _ _ => False) (ok_is_list T) (hr.mono (by decide)) T.m_is_list T.F_is_list.kp T.b_is_list pass0 (iaCons (iN 2) iaNil)))) (pw_or1 (iTCmp (op_eqA hu64) (eqS g) (iCallB call_lenA (lenS g) T.n_len (by decide +kernel) (iaCons (iN 2) iaNil)) iInt)))).pt
  (isOne iNoS)
  isNil)
  (isCons (iFor rfl PassesOwn.never (iiSeq (iN 2) rfl) (igName 5 nd)
  (isCons (iIf ((iTOr (iTNot (iTV (iCall (E := fun _ _ _ => False) (ok_is_list T) (hr.mono (by decide)) T.m_is_list T.F_is_list.kp T.b_is_list pass0 (iaCons (iN 5) iaNil)))) (pw_or1 (iTCmp (op_neA hu64) (neS g) (iCallB call_lenA (lenS g) T.n_len (by decide +kernel) (iaCons (iN 5) iaNil)) iInt)))).pt
  (isOne iNoS)
  isNil)
  (isCons (iExpr (iCall (E := fun _ _ _ => False) (ok_name_new T) (hr.mono (by decide)) T.m_name_new T.F_name_new.kp T.b_name_new pass0 (iaCons (iIdx hu65 rfl (iN 5) iInt) (iaCons (iN 3) iaNil))))
  (isOne (iIf ((iTOr (iTNot (iTV (iCallB call_isiA (isiS g T.clsOk) T.n_isinstance (by decide +kernel) (iaCons (iIdx hu65 rfl (iN 5) iInt) (iaCons (iKls T.mC_Table rfl) iaNil))))) (pw_or1 (iTCmp (op_neA hu64) (neS g) (iFld rfl (T.fld_many) (iIdx hu65 rfl (iN 5) iInt)) (iCallB call_lenA (lenS g) T.n_len (by decide +kernel) (iaCons (iN 1) iaNil)))))).pt
  (isOne iNoS)
  isNil)))))
  (isCons (iFldSet rfl T.fld_kinds (iN 0) (iCallT call_tupleA (tupleS g) T.n_tuple (by decide +kernel) (iaCons (iN 1) iaNil)))
  (isCons (iFldSet rfl T.fld_names (iN 0) (iCallT call_tupleA (tupleS g) T.n_tuple (by decide +kernel) (iaCons (iFz (iLc [(("pair" : Str), 5)] rfl nd (iiSeq (iN 2) rfl) (blkOk_by (N := N_Book_init) (sc := defScope s_Book_init) (by decide +kernel)) (fun _ _ _ _ _ => (igName 5 nd)) (fun _ _ _ _ _ => itsNil) (fun _ _ _ _ _ => (iIdx hu65 rfl (iN 5) iInt)))) iaNil)))
  (isOne (iFldSet rfl T.fld_tables (iN 0) (iCallT call_tupleA (tupleS g) T.n_tuple (by decide +kernel) (iaCons (iFz (iLc [(("pair" : Str), 5)] rfl nd (iiSeq (iN 2) rfl) (blkOk_by (N := N_Book_init) (sc := defScope s_Book_init) (by decide +kernel)) (fun _ _ _ _ _ => (igName 5 nd)) (fun _ _ _ _ _ => itsNil) (fun _ _ _ _ _ => (iIdx hu65 rfl (iN 5) iInt)))) iaNil)))))))))))
theorem ok__law_book (T : Txt K mg) : FnOk P w K mg base CX0 6 T.f__law_book T.d__law_book [("pen" : Str), ("tables" : Str), ("names" : Str)] (spF T.gb m__law_book) := by
  have nd := sc__law_book.nd
  refine fnOk T.F__law_book sc__law_book fun cdv A outer s H E hr => ?_
  have hu0 : (A.deeper (PyProof.Rows.envOfC ("_law_book" : Str) (defScope s__law_book) s.heap.objs.size T.f__law_book cdv)).units < cLine := by have := hr.un; omega
  have hu64 : (A.deeper (PyProof.Rows.envOfC ("_law_book" : Str) (defScope s__law_book) s.heap.objs.size T.f__law_book cdv)).units + 64 < cLine := by have := hr.un; omega
  have hu65 : (A.deeper (PyProof.Rows.envOfC ("_law_book" : Str) (defScope s__law_book) s.heap.objs.size T.f__law_book cdv)).units + 65 < cLine := by have := hr.un; omega
  have hu67 : (A.deeper (PyProof.Rows.envOfC ("_law_book" : Str) (defScope s__law_book) s.heap.objs.size T.f__law_book cdv)).units + 67 < cLine := by have := hr.un; omega
  let g := T.gb
  exact (isCons (iSet 3 (iCallB call_lenA (lenS g) T.n_len (by decide +kernel) (iaCons (iIdx hu65 rfl (iN 1) iInt) iaNil)) nd)
  (isOne (iRet (iMake (E := fun _ _ _ => False) T.M_Book rfl (ok_Book_init T) (hr.mono (by decide)) T.mC_Book T.b_Book_init pass0 (iaCons (iCut rfl (iN 2) ioNone (ioSome (iN 3))) (iaCons (iFz (iLc [(("at" : Str), 4)] rfl nd (iiRange1 (iaCons (iCallB call_lenA (lenS g) T.n_len (by decide +kernel) (iaCons (iN 1) iaNil)) iaNil) T.n_range) (blkOk_by (N := N__law_book) (sc := defScope s__law_book) (by decide +kernel)) (fun _ _ _ _ _ => (igName 4 nd)) (fun _ _ _ _ _ => itsNil) (fun _ _ _ _ _ => (iTup (iaCons (iIdx hu65 rfl (iN 2) (iOp op_addA (addS g) (iN 3) (iN 4))) (iaCons (iMake (E := fun _ _ _ => False) T.M_Table rfl (ok_Table_init T) (hr.mono (by decide)) T.mC_Table T.b_Table_init pass0 (iaCons (iIdx hu65 rfl (iN 1) (iN 4)) iaNil)) iaNil)))))) iaNil))))))
theorem ok_supports_of (T : Txt K mg) : FnOk P w K mg base CX0 1 T.f_supports_of T.d_supports_of [("book" : Str)] (spF T.gb m_supports_of) := by
  have nd := sc_supports_of.nd
  refine fnOk T.F_supports_of sc_supports_of fun cdv A outer s H E hr => ?_
  have hu0 : (A.deeper (PyProof.Rows.envOfC ("supports_of" : Str) (defScope s_supports_of) s.heap.objs.size T.f_supports_of cdv)).units < cLine := by have := hr.un; omega
  have hu64 : (A.deeper (PyProof.Rows.envOfC ("supports_of" : Str) (defScope s_supports_of) s.heap.objs.size T.f_supports_of cdv)).units + 64 < cLine := by have := hr.un; omega
  have hu65 : (A.deeper (PyProof.Rows.envOfC ("supports_of" : Str) (defScope s_supports_of) s.heap.objs.size T.f_supports_of cdv)).units + 65 < cLine := by have := hr.un; omega
  have hu67 : (A.deeper (PyProof.Rows.envOfC ("supports_of" : Str) (defScope s_supports_of) s.heap.objs.size T.f_supports_of cdv)).units + 67 < cLine := by have := hr.un; omega
  let g := T.gb
  exact (isCons (iSet 1 (iCallB call_lenA (lenS g) T.n_len (by decide +kernel) (iaCons (iFld rfl (T.fld_kinds) (iN 0)) iaNil)) nd)
  (isOne (iRet (iFz (iLc [(("table" : Str), 4)] rfl nd (iiSeq (iFld rfl (T.fld_tables) (iN 0)) rfl) (blkOk_by (N := N_supports_of) (sc := defScope s_supports_of) (by decide +kernel)) (fun _ _ _ _ _ => (igName 4 nd)) (fun _ _ _ _ _ => itsNil) (fun _ _ _ _ _ => (iFz (iLc [(("i" : Str), 3)] rfl nd (iiRange1 (iaCons (iN 1) iaNil) T.n_range) (blk2 (N := N_supports_of) (sc := defScope s_supports_of) rfl (by decide +kernel)) (fun _ _ _ _ _ => (igName 3 nd)) (fun _ _ _ _ _ => itsNil) (fun _ _ _ _ _ => (iFz (iLc [(("j" : Str), 2)] rfl nd (iiRange1 (iaCons (iN 1) iaNil) T.n_range) (blk3 (N := N_supports_of) (sc := defScope s_supports_of) rfl (by decide +kernel)) (fun _ _ _ _ _ => (igName 2 nd)) (fun _ _ _ _ _ => (pts_one (iTCmp op_gt (gtS g) (iIdx hu65 rfl (iIdx hu65 rfl (iFld rfl (T.fld_rows) (iN 4)) (iN 3)) (iN 2)) iInt))) (fun _ _ _ _ _ => (iN 2)))))))))))))
theorem ok_Book_len (T : Txt K mg) : FnOk P w K mg base CX0 1 T.f_Book_len T.d_Book_len [("self" : Str)] (spF T.gb m_Book_len) := by
  have nd := sc_Book_len.nd
  refine fnOk T.F_Book_len sc_Book_len fun cdv A outer s H E hr => ?_
  have hu0 : (A.deeper (PyProof.Rows.envOfC ("Book.__len__" : Str) (defScope s_Book_len) s.heap.objs.size T.f_Book_len cdv)).units < cLine := by have := hr.un; omega
  have hu64 : (A.deeper (PyProof.Rows.envOfC ("Book.__len__" : Str) (defScope s_Book_len) s.heap.objs.size T.f_Book_len cdv)).units + 64 < cLine := by have := hr.un; omega
  have hu65 : (A.deeper (PyProof.Rows.envOfC ("Book.__len__" : Str) (defScope s_Book_len) s.heap.objs.size T.f_Book_len cdv)).units + 65 < cLine := by have := hr.un; omega
  have hu67 : (A.deeper (PyProof.Rows.envOfC ("Book.__len__" : Str) (defScope s_Book_len) s.heap.objs.size T.f_Book_len cdv)).units + 67 < cLine := by have := hr.un; omega
  let g := T.gb
  exact (isOne (iRet (iCallB call_lenA (lenS g) T.n_len (by decide +kernel) (iaCons (iFld rfl (T.fld_names) (iN 0)) iaNil))))
theorem ok_splits (T : Txt K mg) : FnOk P w K mg base CX0 3 T.f_splits T.d_splits [("book" : Str)] (spF T.gb m_splits) := by
  have nd := sc_splits.nd
  refine fnOk T.F_splits sc_splits fun cdv A outer s H E hr => ?_
  have hu0 : (A.deeper (PyProof.Rows.envOfC ("splits" : Str) (defScope s_splits) s.heap.objs.size T.f_splits cdv)).units < cLine := by have := hr.un; omega
  have hu64 : (A.deeper (PyProof.Rows.envOfC ("splits" : Str) (defScope s_splits) s.heap.objs.size T.f_splits cdv)).units + 64 < cLine := by have := hr.un; omega
  have hu65 : (A.deeper (PyProof.Rows.envOfC ("splits" : Str) (defScope s_splits) s.heap.objs.size T.f_splits cdv)).units + 65 < cLine := by have := hr.un; omega
  have hu67 : (A.deeper (PyProof.Rows.envOfC ("splits" : Str) (defScope s_splits) s.heap.objs.size T.f_splits cdv)).units + 67 < cLine := by have := hr.un; omega
  let g := T.gb
  exact (isCons (iOwn 1 (nList iaNil) nd)
  (isCons (iSet 2 (iCall (E := fun _ _ _ => False) (ok_supports_of T) (hr.mono (by decide)) T.m_supports_of T.F_supports_of.kp T.b_supports_of pass0 (iaCons (iN 0) iaNil)) nd)
  (isCons (iFor rfl PassesOwn.never (iiRange1 (iaCons (iLenO (E := fun _ _ _ => False) T.L_Book.1 T.L_Book.2 rfl (ok_Book_len T) T.b_Book_len (hr.mono (by decide)) pass0 T.n_len (iaCons (iN 0) iaNil)) iaNil) T.n_range) (igName 3 nd)
  (isOne (iFor rfl PassesOwn.never (iiRange1 (iaCons (iCallB call_lenA (lenS g) T.n_len (by decide +kernel) (iaCons (iFld rfl (T.fld_kinds) (iN 0)) iaNil)) iaNil) T.n_range) (igName 4 nd)
  (isOne (iFor rfl PassesOwn.never (iiSeq (iIdx hu65 rfl (iIdx hu65 rfl (iN 2) (iN 3)) (iN 4)) rfl) (igName 5 nd)
  (isOne (iFor rfl PassesOwn.never (iiSeq (iIdx hu65 rfl (iIdx hu65 rfl (iN 2) (iN 3)) (iN 4)) rfl) (igName 6 nd)
  (isOne (iIf ((iTOr (iTCmp op_lt (ltS g) (iN 5) (iN 6)) (pw_or1 ((iTAnd (iTCmp (op_eqA hu64) (eqS g) (iN 5) (iN 6)) (pw_and1 (iTCmp op_gt (gtS g) (iIdx hu65 rfl (iIdx hu65 rfl (iFld rfl (T.fld_rows) (iIdx hu65 rfl (iFld rfl (T.fld_tables) (iN 0)) (iN 3))) (iN 4)) (iN 5)) iInt)))).pt))).pt
  (isOne (iExpr (iAppend rfl (iN 1) (iaCons (iTup (iaCons (iN 3) (iaCons (iN 4) (iaCons (iN 5) (iaCons (iN 6) iaNil))))) iaNil))))
  isNil)))))))))
  (isOne (iRet (iCallT call_tupleA (tupleS g) T.n_tuple (by decide +kernel) (iaCons (iCallB (L2.cr_sortD hu67) (sortedS g) T.n_sorted (by decide +kernel) (iaCons (iN 1) iaNil)) iaNil)))))))
theorem ok_pair_steps (T : Txt K mg) : FnOk P w K mg base CX0 3 T.f_pair_steps T.d_pair_steps [("book" : Str)] (spF T.gb m_pair_steps) := by
  have nd := sc_pair_steps.nd
  refine fnOk T.F_pair_steps sc_pair_steps fun cdv A outer s H E hr => ?_
  have hu0 : (A.deeper (PyProof.Rows.envOfC ("pair_steps" : Str) (defScope s_pair_steps) s.heap.objs.size T.f_pair_steps cdv)).units < cLine := by have := hr.un; omega
  have hu64 : (A.deeper (PyProof.Rows.envOfC ("pair_steps" : Str) (defScope s_pair_steps) s.heap.objs.size T.f_pair_steps cdv)).units + 64 < cLine := by have := hr.un; omega
  have hu65 : (A.deeper (PyProof.Rows.envOfC ("pair_steps" : Str) (defScope s_pair_steps) s.heap.objs.size T.f_pair_steps cdv)).units + 65 < cLine := by have := hr.un; omega
  have hu67 : (A.deeper (PyProof.Rows.envOfC ("pair_steps" : Str) (defScope s_pair_steps) s.heap.objs.size T.f_pair_steps cdv)).units + 67 < cLine := by have := hr.un; omega
  let g := T.gb
  exact (isCons (iSet 1 (iCallB call_lenA (lenS g) T.n_len (by decide +kernel) (iaCons (iFld rfl (T.fld_kinds) (iN 0)) iaNil)) nd)
  (isCons (iSet 2 (iCall (E := fun _ _ _ => False) (ok_supports_of T) (hr.mono (by decide)) T.m_supports_of T.F_supports_of.kp T.b_supports_of pass0 (iaCons (iN 0) iaNil)) nd)
  (isCons (iOwn 3 inDt nd)
  (isCons (iFor rfl PassesOwn.never (iiRange1 (iaCons (iN 1) iaNil) T.n_range) (igName 4 nd)
  (isOne (iFor rfl PassesOwn.never (iiRange1 (iaCons (iN 1) iaNil) T.n_range) (igName 5 nd)
  (isCons (iOwn 6 (nList iaNil) nd)
  (isCons (iFor rfl PassesOwn.never (iiRange1 (iaCons (iLenO (E := fun _ _ _ => False) T.L_Book.1 T.L_Book.2 rfl (ok_Book_len T) T.b_Book_len (hr.mono (by decide)) pass0 T.n_len (iaCons (iN 0) iaNil)) iaNil) T.n_range) (igName 7 nd)
  (isCons (iSet 8 (iFld rfl (T.fld_rows) (iIdx hu65 rfl (iFld rfl (T.fld_tables) (iN 0)) (iN 7))) nd)
  (isOne (iFor rfl PassesOwn.never (iiSeq (iIdx hu65 rfl (iIdx hu65 rfl (iN 2) (iN 7)) (iN 4)) rfl) (igName 9 nd)
  (isOne (iFor rfl PassesOwn.never (iiSeq (iIdx hu65 rfl (iIdx hu65 rfl (iN 2) (iN 7)) (iN 5)) rfl) (igName 10 nd)
  (isCons (iSet 11 (iAnd (iCmp (op_eqA hu64) (eqS g) (iN 4) (iN 5)) (pe_one (iOr (iCmp (op_neA hu64) (neS g) (iN 9) (iN 10)) (pe_one (iCmp op_gt (gtS g) (iIdx hu65 rfl (iIdx hu65 rfl (iN 8) (iN 4)) (iN 9)) iInt))))) nd)
  (isOne (iExpr (iAppend rfl (iN 6) (iaCons (iTup (iaCons (iN 7) (iaCons (iTup (iaCons (iN 9) (iaCons (iN 10) iaNil))) (iaCons (iCallT call_intA (intS g) T.n_int (by decide +kernel) (iaCons (iN 11) iaNil)) iaNil)))) iaNil)))))))))))
  (isOne (iAsg (iN 6) (igSub hu65 (iN 3) (iTup (iaCons (iN 4) (iaCons (iN 5) iaNil)))))))))))
  (isOne (iRet (iN 3)))))))
theorem ok_doublings_found (T : Txt K mg) : FnOk P w K mg base CX0 4 T.f_doublings_found T.d_doublings_found [("book" : Str)] (spF T.gb m_doublings_found) := by
  have nd := sc_doublings_found.nd
  refine fnOk T.F_doublings_found sc_doublings_found fun cdv A outer s H E hr => ?_
  have hu0 : (A.deeper (PyProof.Rows.envOfC ("doublings_found" : Str) (defScope s_doublings_found) s.heap.objs.size T.f_doublings_found cdv)).units < cLine := by have := hr.un; omega
  have hu64 : (A.deeper (PyProof.Rows.envOfC ("doublings_found" : Str) (defScope s_doublings_found) s.heap.objs.size T.f_doublings_found cdv)).units + 64 < cLine := by have := hr.un; omega
  have hu65 : (A.deeper (PyProof.Rows.envOfC ("doublings_found" : Str) (defScope s_doublings_found) s.heap.objs.size T.f_doublings_found cdv)).units + 65 < cLine := by have := hr.un; omega
  have hu67 : (A.deeper (PyProof.Rows.envOfC ("doublings_found" : Str) (defScope s_doublings_found) s.heap.objs.size T.f_doublings_found cdv)).units + 67 < cLine := by have := hr.un; omega
  let g := T.gb
  exact (isCons (iSet 1 (iCall (E := fun _ _ _ => False) (ok_pair_steps T) (hr.mono (by decide)) T.m_pair_steps T.F_pair_steps.kp T.b_pair_steps pass0 (iaCons (iN 0) iaNil)) nd)
  (isCons (iOwn 2 inDk nd)
  (isCons (iFor rfl PassesOwn.never (iiRange1 (iaCons (iCallB call_lenA (lenS g) T.n_len (by decide +kernel) (iaCons (iFld rfl (T.fld_kinds) (iN 0)) iaNil)) iaNil) T.n_range) (igName 3 nd)
  (isCons (iOwn 4 (nList iaNil) nd)
  (isCons (iFor rfl PassesOwn.never (iiSeq (iIdx hu65 rfl (iN 1) (iTup (iaCons (iN 3) (iaCons (iN 3) iaNil)))) rfl) (igTup rfl rfl (igCons (igName 5 nd) (igCons (igName 6 nd) (igCons (igName 7 nd) igNil))))
  (isOne (iIf (iTCmp (op_eqA hu64) (eqS g) (iN 7) iInt)
  (isCons (iSet 8 (iGet hu65 iNoE (iTup (iaCons (iN 3) (iaCons (iN 3) iaNil)))) nd)
  (isOne (iIf (iTCmp op_notNA (isNotS g) (iN 8) iNon)
  (isOne (iExpr (iAppend rfl (iN 4) (iaCons (iOp op_addA (addS g) (iTup (iaCons (iN 5) iaNil)) (iN 8)) iaNil))))
  isNil)))
  isNil)))
  (isOne (iIf (iTCmp op_gt (gtS g) (iCallB call_lenA (lenS g) T.n_len (by decide +kernel) (iaCons (iN 4) iaNil)) iInt)
  (isOne (iAsg iNoE (igSub hu65 (iN 2) (iN 3))))
  isNil)))))
  (isOne (iRet (iN 2))))))
theorem ok_shortest_doubling (T : Txt K mg) : FnOk P w K mg base CX0 5 T.f_shortest_doubling T.d_shortest_doubling [("book" : Str)] (spF T.gb m_shortest_doubling) := by
  have nd := sc_shortest_doubling.nd
  refine fnOk T.F_shortest_doubling sc_shortest_doubling fun cdv A outer s H E hr => ?_
  have hu0 : (A.deeper (PyProof.Rows.envOfC ("shortest_doubling" : Str) (defScope s_shortest_doubling) s.heap.objs.size T.f_shortest_doubling cdv)).units < cLine := by have := hr.un; omega
  have hu64 : (A.deeper (PyProof.Rows.envOfC ("shortest_doubling" : Str) (defScope s_shortest_doubling) s.heap.objs.size T.f_shortest_doubling cdv)).units + 64 < cLine := by have := hr.un; omega
  have hu65 : (A.deeper (PyProof.Rows.envOfC ("shortest_doubling" : Str) (defScope s_shortest_doubling) s.heap.objs.size T.f_shortest_doubling cdv)).units + 65 < cLine := by have := hr.un; omega
  have hu67 : (A.deeper (PyProof.Rows.envOfC ("shortest_doubling" : Str) (defScope s_shortest_doubling) s.heap.objs.size T.f_shortest_doubling cdv)).units + 67 < cLine := by have := hr.un; omega
  let g := T.gb
  exact (isCons (iSet 1 (iCall (E := fun _ _ _ => False) (ok_doublings_found T) (hr.mono (by decide)) T.m_doublings_found T.F_doublings_found.kp T.b_doublings_found pass0 (iaCons (iN 0) iaNil)) nd)
  (isCons (iIf (iTCmp (op_eqA hu64) (eqS g) (iCallB call_lenA (lenS g) T.n_len (by decide +kernel) (iaCons (iN 1) iaNil)) iInt)
  (isOne (iRet iNon))
  isNil)
  (isCons (iSet 2 iNoE nd)
  (isOne (iRet iNoE)))))
theorem ok_doubles (T : Txt K mg) : FnOk P w K mg base CX0 6 T.f_doubles T.d_doubles [("book" : Str)] (spF T.gb m_doubles) := by
  have nd := sc_doubles.nd
  refine fnOk T.F_doubles sc_doubles fun cdv A outer s H E hr => ?_
  have hu0 : (A.deeper (PyProof.Rows.envOfC ("doubles" : Str) (defScope s_doubles) s.heap.objs.size T.f_doubles cdv)).units < cLine := by have := hr.un; omega
  have hu64 : (A.deeper (PyProof.Rows.envOfC ("doubles" : Str) (defScope s_doubles) s.heap.objs.size T.f_doubles cdv)).units + 64 < cLine := by have := hr.un; omega
  have hu65 : (A.deeper (PyProof.Rows.envOfC ("doubles" : Str) (defScope s_doubles) s.heap.objs.size T.f_doubles cdv)).units + 65 < cLine := by have := hr.un; omega
  have hu67 : (A.deeper (PyProof.Rows.envOfC ("doubles" : Str) (defScope s_doubles) s.heap.objs.size T.f_doubles cdv)).units + 67 < cLine := by have := hr.un; omega
  let g := T.gb
  exact (isOne (iRet (iCmp op_notNA (isNotS g) (iCall (E := fun _ _ _ => False) (ok_shortest_doubling T) (hr.mono (by decide)) T.m_shortest_doubling T.F_shortest_doubling.kp T.b_shortest_doubling pass0 (iaCons (iN 0) iaNil)) iNon)))
theorem ok_highest (T : Txt K mg) : FnOk P w K mg base CX0 1 T.f_highest T.d_highest [("edges" : Str)] (spF T.gb m_highest) := by
  have nd := sc_highest.nd
  refine fnOk T.F_highest sc_highest fun cdv A outer s H E hr => ?_
  have hu0 : (A.deeper (PyProof.Rows.envOfC ("highest" : Str) (defScope s_highest) s.heap.objs.size T.f_highest cdv)).units < cLine := by have := hr.un; omega
  have hu64 : (A.deeper (PyProof.Rows.envOfC ("highest" : Str) (defScope s_highest) s.heap.objs.size T.f_highest cdv)).units + 64 < cLine := by have := hr.un; omega
  have hu65 : (A.deeper (PyProof.Rows.envOfC ("highest" : Str) (defScope s_highest) s.heap.objs.size T.f_highest cdv)).units + 65 < cLine := by have := hr.un; omega
  have hu67 : (A.deeper (PyProof.Rows.envOfC ("highest" : Str) (defScope s_highest) s.heap.objs.size T.f_highest cdv)).units + 67 < cLine := by have := hr.un; omega
  let g := T.gb
  exact (isCons (iOwn 1 (iDcK true 0 [(("place" : Str), 2)] rfl nd hu0 (blkOk_by (N := N_highest) (sc := defScope s_highest) (by decide +kernel)) (fun _ _ _ _ _ => (igName 2 nd)) (fun _ _ _ _ _ => itsNil) (fun _ _ _ _ _ => (iN 2)) (fun _ _ _ _ _ => iInt)) nd)
  (isCons (iSet 3 iBl nd)
  (isCons (iWhile 2 PassesOwn.never (iTV (iN 3))
  (isCons (iSet 3 iBl nd)
  (isOne (iForK 0 rfl PassesOwn.never (igName 2 nd)
  (isCons (iSet 4 (iCallB (cr_max rfl) (max1S g) T.n_max (by decide +kernel) (iaCons (iOp op_addA (addS g) (iFz (nList (iaCons (iIdx hu65 rfl (iN 1) (iN 2)) iaNil))) (iFz (iLc [(("there" : Str), 5), (("mark" : Str), 6)] rfl nd (iiSeq (iIdx hu65 rfl (iN 0) (iN 2)) rfl) (blkOk_by (N := N_highest) (sc := defScope s_highest) (by decide +kernel)) (fun _ _ _ _ _ => (igTup rfl rfl (igCons (igName 5 nd) (igCons (igName 6 nd) igNil)))) (fun _ _ _ _ _ => itsNil) (fun _ _ _ _ _ => (iOp op_addA (addS g) (iIdx hu65 rfl (iN 1) (iN 5)) (iN 6)))))) iaNil)) nd)
  (isOne (iIf (iTCmp op_gt (gtS g) (iN 4) (iIdx hu65 rfl (iN 1) (iN 2)))
  (isCons (iAsg (iN 4) (igSub hu65 (iN 1) (iN 2)))
  (isOne (iSet 3 iBl nd)))
  isNil)))))))
  (isOne (iRet (iN 1))))))
theorem ok_frozen (T : Txt K mg) : ∀ n : Nat, FnOk P w K mg base CX0 (0 + n) T.f_frozen T.d_frozen [("value" : Str)] (spF T.gb (m_frozen n))
  | 0 => fn_none
  | n + 1 => by
    have OKrec := ok_frozen T n
    have nd := sc_frozen.nd
    refine fnOk (k := 0 + n) T.F_frozen sc_frozen fun cdv A outer s H E hr => ?_
    have hu0 : (A.deeper (PyProof.Rows.envOfC ("frozen" : Str) (defScope s_frozen) s.heap.objs.size T.f_frozen cdv)).units < cLine := by have := hr.un; omega
    have hu64 : (A.deeper (PyProof.Rows.envOfC ("frozen" : Str) (defScope s_frozen) s.heap.objs.size T.f_frozen cdv)).units + 64 < cLine := by have := hr.un; omega
    have hu65 : (A.deeper (PyProof.Rows.envOfC ("frozen" : Str) (defScope s_frozen) s.heap.objs.size T.f_frozen cdv)).units + 65 < cLine := by have := hr.un; omega
    have hu67 : (A.deeper (PyProof.Rows.envOfC ("frozen" : Str) (defScope s_frozen) s.heap.objs.size T.f_frozen cdv)).units + 67 < cLine := by have := hr.un; omega
    let g := T.gb
    exact (isCons (iIf (iTV (iCallB call_isiA (isiS g T.clsOk) T.n_isinstance (by decide +kernel) (iaCons (iN 0) (iaCons (iTup (iaCons (iTy T.n_tuple (by decide +kernel)) (iaCons (iTy T.n_list (by decide +kernel)) iaNil))) iaNil))))
  (isOne (iRet (iCallT call_tupleA (tupleS g) T.n_tuple (by decide +kernel) (iaCons (iFz (iLc [(("item" : Str), 1)] rfl nd (iiSeq (iN 0) rfl) (blkOk_by (N := N_frozen) (sc := defScope s_frozen) (by decide +kernel)) (fun _ _ _ _ _ => (igName 1 nd)) (fun _ _ _ _ _ => itsNil) (fun _ _ _ _ _ => (iCall OKrec (hr.mono (by omega)) T.m_frozen T.F_frozen.kp T.b_frozen pass0 (iaCons (iN 1) iaNil))))) iaNil))))
  isNil)
  (isOne (iRet (iN 0))))
theorem ok_Heights_init (T : Txt K mg) : FnOk P w K mg base CX0 7 T.f_Heights_init T.d_Heights_init [("self" : Str), ("rows" : Str)] (spF T.gb m_Heights_init) := by
  have nd := sc_Heights_init.nd
  refine fnOk T.F_Heights_init sc_Heights_init fun cdv A outer s H E hr => ?_
  have hu0 : (A.deeper (PyProof.Rows.envOfC ("Heights.__init__" : Str) (defScope s_Heights_init) s.heap.objs.size T.f_Heights_init cdv)).units < cLine := by have := hr.un; omega
  have hu64 : (A.deeper (PyProof.Rows.envOfC ("Heights.__init__" : Str) (defScope s_Heights_init) s.heap.objs.size T.f_Heights_init cdv)).units + 64 < cLine := by have := hr.un; omega
  have hu65 : (A.deeper (PyProof.Rows.envOfC ("Heights.__init__" : Str) (defScope s_Heights_init) s.heap.objs.size T.f_Heights_init cdv)).units + 65 < cLine := by have := hr.un; omega
  have hu67 : (A.deeper (PyProof.Rows.envOfC ("Heights.__init__" : Str) (defScope s_Heights_init) s.heap.objs.size T.f_Heights_init cdv)).units + 67 < cLine := by have := hr.un; omega
  let g := T.gb
  exact (isOne (iFldSet rfl T.fld_rows (iN 0) (iCall (E := fun _ _ _ => False) (ok_frozen T 6) (hr.mono (by decide)) T.m_frozen T.F_frozen.kp T.b_frozen pass0 (iaCons (iN 1) iaNil))))
theorem ok_growth_verdict (T : Txt K mg) : FnOk P w K mg base CX0 9 T.f_growth_verdict T.d_growth_verdict [("book" : Str)] (spF T.gb m_growth_verdict) := by
  have nd := sc_growth_verdict.nd
  refine fnOk T.F_growth_verdict sc_growth_verdict fun cdv A outer s H E hr => ?_
  have hu0 : (A.deeper (PyProof.Rows.envOfC ("growth_verdict" : Str) (defScope s_growth_verdict) s.heap.objs.size T.f_growth_verdict cdv)).units < cLine := by have := hr.un; omega
  have hu64 : (A.deeper (PyProof.Rows.envOfC ("growth_verdict" : Str) (defScope s_growth_verdict) s.heap.objs.size T.f_growth_verdict cdv)).units + 64 < cLine := by have := hr.un; omega
  have hu65 : (A.deeper (PyProof.Rows.envOfC ("growth_verdict" : Str) (defScope s_growth_verdict) s.heap.objs.size T.f_growth_verdict cdv)).units + 65 < cLine := by have := hr.un; omega
  have hu67 : (A.deeper (PyProof.Rows.envOfC ("growth_verdict" : Str) (defScope s_growth_verdict) s.heap.objs.size T.f_growth_verdict cdv)).units + 67 < cLine := by have := hr.un; omega
  let g := T.gb
  exact (isCons (iSet 1 (iCall (E := fun _ _ _ => False) (ok_shortest_doubling T) (hr.mono (by decide)) T.m_shortest_doubling T.F_shortest_doubling.kp T.b_shortest_doubling pass0 (iaCons (iN 0) iaNil)) nd)
  (isCons (iIf (iTCmp op_notNA (isNotS g) (iN 1) iNon)
  (isOne (iRet (iN 1)))
  isNil)
  (isCons (iSet 2 (iCall (E := fun _ _ _ => False) (ok_pair_steps T) (hr.mono (by decide)) T.m_pair_steps T.F_pair_steps.kp T.b_pair_steps pass0 (iaCons (iN 0) iaNil)) nd)
  (isCons (iSet 3 (iCall (E := fun _ _ _ => False) (ok_highest T) (hr.mono (by decide)) T.m_highest T.F_highest.kp T.b_highest pass0 (iaCons (iFz (iDcK true 2 [(("pair" : Str), 5)] rfl nd hu0 (blkOk_by (N := N_growth_verdict) (sc := defScope s_growth_verdict) (by decide +kernel)) (fun _ _ _ _ _ => (igName 5 nd)) (fun _ _ _ _ _ => itsNil) (fun _ _ _ _ _ => (iN 5)) (fun _ _ _ _ _ => (iFz (iLc [(("step" : Str), 4)] rfl nd (iiSeq (iIdx hu65 rfl (iN 2) (iN 5)) rfl) (blk2 (N := N_growth_verdict) (sc := defScope s_growth_verdict) rfl (by decide +kernel)) (fun _ _ _ _ _ => (igName 4 nd)) (fun _ _ _ _ _ => itsNil) (fun _ _ _ _ _ => (iTup (iaCons (iIdx hu65 rfl (iN 4) iInt) (iaCons (iIdx hu65 rfl (iN 4) iInt) iaNil))))))))) iaNil)) nd)
  (isOne (iRet (iMake (E := fun _ _ _ => False) T.M_Heights rfl (ok_Heights_init T) (hr.mono (by decide)) T.mC_Heights T.b_Heights_init pass0 (iaCons (iCallB (L2.cr_sortD hu67) (sortedS g) T.n_sorted (by decide +kernel) (iaCons (iFz (iLcK 3 [(("pair" : Str), 5)] rfl nd (blkOk_by (N := N_growth_verdict) (sc := defScope s_growth_verdict) (by decide +kernel)) (fun _ _ _ _ _ => (igName 5 nd)) (fun _ _ _ _ _ => itsNil) (fun _ _ _ _ _ => (iTup (iaCons (iN 5) (iaCons (iIdx hu65 rfl (iN 3) (iN 5)) iaNil)))))) iaNil)) iaNil))))))))
theorem ok_law (T : Txt K mg) : FnOk P w K mg base CX0 10 T.f_law T.d_law [("script" : Str)] (spF T.gb m_law) := by
  have nd := sc_law.nd
  refine fnOk T.F_law sc_law fun cdv A outer s H E hr => ?_
  have hu0 : (A.deeper (PyProof.Rows.envOfC ("law" : Str) (defScope s_law) s.heap.objs.size T.f_law cdv)).units < cLine := by have := hr.un; omega
  have hu64 : (A.deeper (PyProof.Rows.envOfC ("law" : Str) (defScope s_law) s.heap.objs.size T.f_law cdv)).units + 64 < cLine := by have := hr.un; omega
  have hu65 : (A.deeper (PyProof.Rows.envOfC ("law" : Str) (defScope s_law) s.heap.objs.size T.f_law cdv)).units + 65 < cLine := by have := hr.un; omega
  have hu67 : (A.deeper (PyProof.Rows.envOfC ("law" : Str) (defScope s_law) s.heap.objs.size T.f_law cdv)).units + 67 < cLine := by have := hr.un; omega
  let g := T.gb
  exact (isCons (iSet 1 (iCall (E := fun _ _ _ => False) (ok__law_pen T) (hr.mono (by decide)) T.m__law_pen T.F__law_pen.kp T.b__law_pen pass0 (iaCons (iN 0) iaNil)) nd)
  (isCons (iAsg (iTup (iaCons (iCall (E := fun _ _ _ => False) (ok__law_many T) (hr.mono (by decide)) T.m__law_many T.F__law_many.kp T.b__law_many pass0 (iaCons (iN 1) iaNil)) (iaCons (iOp op_addA (addS g) iInt (iCall (E := fun _ _ _ => False) (ok__law_draw T) (hr.mono (by decide)) T.m__law_draw T.F__law_draw.kp T.b__law_draw pass0 (iaCons (iN 1) (iaCons iInt iaNil)))) iaNil))) (igTup rfl rfl (igCons (igName 2 nd) (igCons (igName 3 nd) igNil))))
  (isCons (iPar2 4 5 rfl nd (ikV (iCall (E := fun _ _ _ => False) (ok__law_names T) (hr.mono (by decide)) T.m__law_names T.F__law_names.kp T.b__law_names pass0 (iaCons (iN 1) (iaCons (iOp op_addA (addS g) (iN 2) (iN 3)) iaNil)))) (ikV (iCall (E := fun _ _ _ => False) (ok__law_tables T) (hr.mono (by decide)) T.m__law_tables T.F__law_tables.kp T.b__law_tables pass0 (iaCons (iN 1) (iaCons (iN 2) (iaCons (iN 3) iaNil))))))
  (isCons (iPar2 6 7 rfl nd (ikV (iCall (E := fun _ _ _ => False) (ok__law_book T) (hr.mono (by decide)) T.m__law_book T.F__law_book.kp T.b__law_book pass0 (iaCons (iN 1) (iaCons (iN 5) (iaCons (iN 4) iaNil))))) (ikOwn (nList iaNil)))
  (isCons (iFor rfl PassesOwn.never (iiRange1 (iaCons (iN 3) iaNil) T.n_range) (igName 8 nd)
  (isOne (iFor rfl PassesOwn.never (iiRange1 (iaCons (iN 2) iaNil) T.n_range) (igName 9 nd)
  (isOne (iFor rfl PassesOwn.never (iiRange1 (iaCons (iN 2) iaNil) T.n_range) (igName 10 nd)
  (isOne (iFor rfl PassesOwn.never (iiRange2 (iaCons (iN 10) (iaCons (iN 2) iaNil)) T.n_range) (igName 11 nd)
  (isCons (iSet 12 (iIdx hu65 rfl (iIdx hu65 rfl (iN 5) (iN 8)) (iN 9)) nd)
  (isOne (iIf ((iTOr ((iTAnd (iTCmp op_lt (ltS g) (iN 10) (iN 11)) (iTAnd (iTCmp op_gt (gtS g) (iIdx hu65 rfl (iN 12) (iN 10)) iInt) (pw_and1 (iTCmp op_gt (gtS g) (iIdx hu65 rfl (iN 12) (iN 11)) iInt))))).pt (pw_or1 ((iTAnd (iTCmp (op_eqA hu64) (eqS g) (iN 10) (iN 11)) (pw_and1 (iTCmp op_gt (gtS g) (iIdx hu65 rfl (iN 12) (iN 10)) iInt)))).pt))).pt
  (isOne (iExpr (iAppend rfl (iN 7) (iaCons (iTup (iaCons (iN 8) (iaCons (iN 9) (iaCons (iN 10) (iaCons (iN 11) iaNil))))) iaNil))))
  isNil))))))))))
  (isCons (iSet 13 (iCall (E := fun _ _ _ => False) (ok_splits T) (hr.mono (by decide)) T.m_splits T.F_splits.kp T.b_splits pass0 (iaCons (iN 6) iaNil)) nd)
  (isCons (iIf ((iTOr (iTCmp (op_neA hu64) (neS g) (iN 13) (iCallT call_tupleA (tupleS g) T.n_tuple (by decide +kernel) (iaCons (iN 7) iaNil))) (iTOr (iTNot (iTV (iCallB call_isiA (isiS g T.clsOk) T.n_isinstance (by decide +kernel) (iaCons (iN 13) (iaCons (iTy T.n_tuple (by decide +kernel)) iaNil))))) (pw_or1 (iTNot (iTV (iCallB (cr_all rfl) (allS g) T.n_all (by decide +kernel) (iaCons (iFz (iLc [(("row" : Str), 12)] rfl nd (iiSeq (iN 13) rfl) (blkOk_by (N := N_law) (sc := defScope s_law) (by decide +kernel)) (fun _ _ _ _ _ => (igName 12 nd)) (fun _ _ _ _ _ => itsNil) (fun _ _ _ _ _ => (iCallB call_isiA (isiS g T.clsOk) T.n_isinstance (by decide +kernel) (iaCons (iN 12) (iaCons (iTy T.n_tuple (by decide +kernel)) iaNil)))))) iaNil)))))))).pt
  (isOne (iRet iBl))
  isNil)
  (isCons (iSet 14 (iCall (E := fun _ _ _ => False) (ok__law_book T) (hr.mono (by decide)) T.m__law_book T.F__law_book.kp T.b__law_book pass0 (iaCons (iN 1) (iaCons (iFz (iLc [(("at" : Str), 15)] rfl nd (iiRange1 (iaCons (iN 3) iaNil) T.n_range) (blkOk_by (N := N_law) (sc := defScope s_law) (by decide +kernel)) (fun _ _ _ _ _ => (igName 15 nd)) (fun _ _ _ _ _ => itsNil) (fun _ _ _ _ _ => (iCall (E := fun _ _ _ => False) (ok__law_moving_rows T) (hr.mono (by decide)) T.m__law_moving_rows T.F__law_moving_rows.kp T.b__law_moving_rows pass0 (iaCons (iN 1) (iaCons (iN 2) iaNil)))))) (iaCons (iN 4) iaNil)))) nd)
  (isCons (iIf ((iTOr (iTCmp (op_neA hu64) (neS g) (iCall (E := fun _ _ _ => False) (ok_splits T) (hr.mono (by decide)) T.m_splits T.F_splits.kp T.b_splits pass0 (iaCons (iN 14) iaNil)) (iTup iaNil)) (pw_or1 (iTV (iCall (E := fun _ _ _ => False) (ok_doubles T) (hr.mono (by decide)) T.m_doubles T.F_doubles.kp T.b_doubles pass0 (iaCons (iN 14) iaNil)))))).pt
  (isOne (iRet iBl))
  isNil)
  (isCons (iSet 16 (iCall (E := fun _ _ _ => False) (ok_growth_verdict T) (hr.mono (by decide)) T.m_growth_verdict T.F_growth_verdict.kp T.b_growth_verdict pass0 (iaCons (iN 14) iaNil)) nd)
  (isOne (iRet (iAnd (iCallB call_isiA (isiS g T.clsOk) T.n_isinstance (by decide +kernel) (iaCons (iN 16) (iaCons (iKls T.mC_Heights rfl) iaNil))) (iAnd (iCallB (cr_all rfl) (allS g) T.n_all (by decide +kernel) (iaCons (iFz (iLc [(("row" : Str), 12)] rfl nd (iiSeq (iFld rfl (T.fld_rows) (iN 16)) rfl) (blkOk_by (N := N_law) (sc := defScope s_law) (by decide +kernel)) (fun _ _ _ _ _ => (igName 12 nd)) (fun _ _ _ _ _ => itsNil) (fun _ _ _ _ _ => (iCmp (op_eqA hu64) (eqS g) (iIdx hu65 rfl (iN 12) iInt) iInt)))) iaNil)) (pe_one (iCmp (op_eqA hu64) (eqS g) (iCallB call_lenA (lenS g) T.n_len (by decide +kernel) (iaCons (iFld rfl (T.fld_rows) (iN 16)) iaNil)) (iOp op_mulA (mulS g) (iN 2) (iN 2))))))))))))))))))
end
end Z09
set_option Elab.async false
set_option linter.all false
set_option maxRecDepth 100000
set_option maxHeartbeats 8000000
namespace Z09
open PySem L2 MF
/-! # the head -/
theorem all_mk {l : PySem.W.OpenLaw} {w : World} {K : PySem.W.Frag} {h : Heap} {mg : Str → Option Value} {fa : Addr} {C_Table C_Book C_Heights f__law_pen f__law_draw f__law_pick f__law_many f__law_name f__law_names f__law_shuffled f__law_free_rows f__law_moving_rows f__law_stair_rows f__law_exchange_rows f__law_tables f_is_list f_is_whole f_is_counts f_is_rows f_Table_init f_is_name f_name_new f_Book_init f__law_book f_supports_of f_Book_len f_splits f_pair_steps f_doublings_found f_shortest_doubling f_doubles f_highest f_frozen f_Heights_init f_growth_verdict f_law : Addr} (X : K.In h) (G : h.Ns mainGlobals mg) (hfa : mg "law" = some (.ref fa))
    {od__law_pen an__law_pen : Option Addr} {sl__law_pen : Array (Option Value)} {oc__law_pen kV__law_pen dc__law_pen pm__law_pen cd__law_pen ct__law_pen : Value}
    {od__law_draw an__law_draw : Option Addr} {sl__law_draw : Array (Option Value)} {oc__law_draw kV__law_draw dc__law_draw pm__law_draw cd__law_draw ct__law_draw : Value}
    {od__law_pick an__law_pick : Option Addr} {sl__law_pick : Array (Option Value)} {oc__law_pick kV__law_pick dc__law_pick pm__law_pick cd__law_pick ct__law_pick : Value}
    {od__law_many an__law_many : Option Addr} {sl__law_many : Array (Option Value)} {oc__law_many kV__law_many dc__law_many pm__law_many cd__law_many ct__law_many : Value}
    {od__law_name an__law_name : Option Addr} {sl__law_name : Array (Option Value)} {oc__law_name kV__law_name dc__law_name pm__law_name cd__law_name ct__law_name : Value}
    {od__law_names an__law_names : Option Addr} {sl__law_names : Array (Option Value)} {oc__law_names kV__law_names dc__law_names pm__law_names cd__law_names ct__law_names : Value}
    {od__law_shuffled an__law_shuffled : Option Addr} {sl__law_shuffled : Array (Option Value)} {oc__law_shuffled kV__law_shuffled dc__law_shuffled pm__law_shuffled cd__law_shuffled ct__law_shuffled : Value}
    {od__law_free_rows an__law_free_rows : Option Addr} {sl__law_free_rows : Array (Option Value)} {oc__law_free_rows kV__law_free_rows dc__law_free_rows pm__law_free_rows cd__law_free_rows ct__law_free_rows : Value}
    {od__law_moving_rows an__law_moving_rows : Option Addr} {sl__law_moving_rows : Array (Option Value)} {oc__law_moving_rows kV__law_moving_rows dc__law_moving_rows pm__law_moving_rows cd__law_moving_rows ct__law_moving_rows : Value}
    {od__law_stair_rows an__law_stair_rows : Option Addr} {sl__law_stair_rows : Array (Option Value)} {oc__law_stair_rows kV__law_stair_rows dc__law_stair_rows pm__law_stair_rows cd__law_stair_rows ct__law_stair_rows : Value}
    {od__law_exchange_rows an__law_exchange_rows : Option Addr} {sl__law_exchange_rows : Array (Option Value)} {oc__law_exchange_rows kV__law_exchange_rows dc__law_exchange_rows pm__law_exchange_rows cd__law_exchange_rows ct__law_exchange_rows : Value}
    {od__law_tables an__law_tables : Option Addr} {sl__law_tables : Array (Option Value)} {oc__law_tables kV__law_tables dc__law_tables pm__law_tables cd__law_tables ct__law_tables : Value}
    {od_is_list an_is_list : Option Addr} {sl_is_list : Array (Option Value)} {oc_is_list kV_is_list dc_is_list pm_is_list cd_is_list ct_is_list : Value}
    {od_is_whole an_is_whole : Option Addr} {sl_is_whole : Array (Option Value)} {oc_is_whole kV_is_whole dc_is_whole pm_is_whole cd_is_whole ct_is_whole : Value}
    {od_is_counts an_is_counts : Option Addr} {sl_is_counts : Array (Option Value)} {oc_is_counts kV_is_counts dc_is_counts pm_is_counts cd_is_counts ct_is_counts : Value}
    {od_is_rows an_is_rows : Option Addr} {sl_is_rows : Array (Option Value)} {oc_is_rows kV_is_rows dc_is_rows pm_is_rows cd_is_rows ct_is_rows : Value}
    {od_Table_init an_Table_init : Option Addr} {sl_Table_init : Array (Option Value)} {oc_Table_init kV_Table_init dc_Table_init pm_Table_init cd_Table_init ct_Table_init : Value}
    {od_is_name an_is_name : Option Addr} {sl_is_name : Array (Option Value)} {oc_is_name kV_is_name dc_is_name pm_is_name cd_is_name ct_is_name : Value}
    {od_name_new an_name_new : Option Addr} {sl_name_new : Array (Option Value)} {oc_name_new kV_name_new dc_name_new pm_name_new cd_name_new ct_name_new : Value}
    {od_Book_init an_Book_init : Option Addr} {sl_Book_init : Array (Option Value)} {oc_Book_init kV_Book_init dc_Book_init pm_Book_init cd_Book_init ct_Book_init : Value}
    {od__law_book an__law_book : Option Addr} {sl__law_book : Array (Option Value)} {oc__law_book kV__law_book dc__law_book pm__law_book cd__law_book ct__law_book : Value}
    {od_supports_of an_supports_of : Option Addr} {sl_supports_of : Array (Option Value)} {oc_supports_of kV_supports_of dc_supports_of pm_supports_of cd_supports_of ct_supports_of : Value}
    {od_Book_len an_Book_len : Option Addr} {sl_Book_len : Array (Option Value)} {oc_Book_len kV_Book_len dc_Book_len pm_Book_len cd_Book_len ct_Book_len : Value}
    {od_splits an_splits : Option Addr} {sl_splits : Array (Option Value)} {oc_splits kV_splits dc_splits pm_splits cd_splits ct_splits : Value}
    {od_pair_steps an_pair_steps : Option Addr} {sl_pair_steps : Array (Option Value)} {oc_pair_steps kV_pair_steps dc_pair_steps pm_pair_steps cd_pair_steps ct_pair_steps : Value}
    {od_doublings_found an_doublings_found : Option Addr} {sl_doublings_found : Array (Option Value)} {oc_doublings_found kV_doublings_found dc_doublings_found pm_doublings_found cd_doublings_found ct_doublings_found : Value}
    {od_shortest_doubling an_shortest_doubling : Option Addr} {sl_shortest_doubling : Array (Option Value)} {oc_shortest_doubling kV_shortest_doubling dc_shortest_doubling pm_shortest_doubling cd_shortest_doubling ct_shortest_doubling : Value}
    {od_doubles an_doubles : Option Addr} {sl_doubles : Array (Option Value)} {oc_doubles kV_doubles dc_doubles pm_doubles cd_doubles ct_doubles : Value}
    {od_highest an_highest : Option Addr} {sl_highest : Array (Option Value)} {oc_highest kV_highest dc_highest pm_highest cd_highest ct_highest : Value}
    {od_frozen an_frozen : Option Addr} {sl_frozen : Array (Option Value)} {oc_frozen kV_frozen dc_frozen pm_frozen cd_frozen ct_frozen : Value}
    {od_Heights_init an_Heights_init : Option Addr} {sl_Heights_init : Array (Option Value)} {oc_Heights_init kV_Heights_init dc_Heights_init pm_Heights_init cd_Heights_init ct_Heights_init : Value}
    {od_growth_verdict an_growth_verdict : Option Addr} {sl_growth_verdict : Array (Option Value)} {oc_growth_verdict kV_growth_verdict dc_growth_verdict pm_growth_verdict cd_growth_verdict ct_growth_verdict : Value}
    {od_law an_law : Option Addr} {sl_law : Array (Option Value)} {oc_law kV_law dc_law pm_law cd_law ct_law : Value}
    {tk_LETTERS : Tok}
    {tk_FIGURES : Tok}
    {ad_KEPT_WORDS : Addr} {tk_KEPT_WORDS_0 tk_KEPT_WORDS_1 tk_KEPT_WORDS_2 : Tok} {od_KEPT_WORDS : Option Addr} {ep_KEPT_WORDS : Nat} {sl_KEPT_WORDS : Array (Option Value)}
    (aC_Table : PySem.W.nsIn K mainGlobals ("Table" : Str) = some (some (.ref C_Table)))
    (aC_Book : PySem.W.nsIn K mainGlobals ("Book" : Str) = some (some (.ref C_Book)))
    (aC_Heights : PySem.W.nsIn K mainGlobals ("Heights" : Str) = some (some (.ref C_Heights)))
    (a__law_pen : PySem.W.nsIn K mainGlobals ("_law_pen" : Str) = some (some (.ref f__law_pen)))
    (l__law_pen : K.lookup f__law_pen = some ⟨oc__law_pen, od__law_pen, .func (PySem.W.fnOf ("_law_pen" : Str) ("_law_pen" : Str) (defArgs s__law_pen) (defBody s__law_pen) (defScope s__law_pen) .none kV__law_pen dc__law_pen pm__law_pen an__law_pen cd__law_pen ct__law_pen), sl__law_pen⟩)
    (c__law_pen : PySem.W.codeIn K cd__law_pen ("_law_pen" : Str) = true)
    (k__law_pen : PySem.W.keepIn K (.ref f__law_pen) = true)
    (a__law_draw : PySem.W.nsIn K mainGlobals ("_law_draw" : Str) = some (some (.ref f__law_draw)))
    (l__law_draw : K.lookup f__law_draw = some ⟨oc__law_draw, od__law_draw, .func (PySem.W.fnOf ("_law_draw" : Str) ("_law_draw" : Str) (defArgs s__law_draw) (defBody s__law_draw) (defScope s__law_draw) .none kV__law_draw dc__law_draw pm__law_draw an__law_draw cd__law_draw ct__law_draw), sl__law_draw⟩)
    (c__law_draw : PySem.W.codeIn K cd__law_draw ("_law_draw" : Str) = true)
    (k__law_draw : PySem.W.keepIn K (.ref f__law_draw) = true)
    (a__law_pick : PySem.W.nsIn K mainGlobals ("_law_pick" : Str) = some (some (.ref f__law_pick)))
    (l__law_pick : K.lookup f__law_pick = some ⟨oc__law_pick, od__law_pick, .func (PySem.W.fnOf ("_law_pick" : Str) ("_law_pick" : Str) (defArgs s__law_pick) (defBody s__law_pick) (defScope s__law_pick) .none kV__law_pick dc__law_pick pm__law_pick an__law_pick cd__law_pick ct__law_pick), sl__law_pick⟩)
    (c__law_pick : PySem.W.codeIn K cd__law_pick ("_law_pick" : Str) = true)
    (k__law_pick : PySem.W.keepIn K (.ref f__law_pick) = true)
    (a__law_many : PySem.W.nsIn K mainGlobals ("_law_many" : Str) = some (some (.ref f__law_many)))
    (l__law_many : K.lookup f__law_many = some ⟨oc__law_many, od__law_many, .func (PySem.W.fnOf ("_law_many" : Str) ("_law_many" : Str) (defArgs s__law_many) (defBody s__law_many) (defScope s__law_many) .none kV__law_many dc__law_many pm__law_many an__law_many cd__law_many ct__law_many), sl__law_many⟩)
    (c__law_many : PySem.W.codeIn K cd__law_many ("_law_many" : Str) = true)
    (k__law_many : PySem.W.keepIn K (.ref f__law_many) = true)
    (a__law_name : PySem.W.nsIn K mainGlobals ("_law_name" : Str) = some (some (.ref f__law_name)))
    (l__law_name : K.lookup f__law_name = some ⟨oc__law_name, od__law_name, .func (PySem.W.fnOf ("_law_name" : Str) ("_law_name" : Str) (defArgs s__law_name) (defBody s__law_name) (defScope s__law_name) .none kV__law_name dc__law_name pm__law_name an__law_name cd__law_name ct__law_name), sl__law_name⟩)
    (c__law_name : PySem.W.codeIn K cd__law_name ("_law_name" : Str) = true)
    (k__law_name : PySem.W.keepIn K (.ref f__law_name) = true)
    (a__law_names : PySem.W.nsIn K mainGlobals ("_law_names" : Str) = some (some (.ref f__law_names)))
    (l__law_names : K.lookup f__law_names = some ⟨oc__law_names, od__law_names, .func (PySem.W.fnOf ("_law_names" : Str) ("_law_names" : Str) (defArgs s__law_names) (defBody s__law_names) (defScope s__law_names) .none kV__law_names dc__law_names pm__law_names an__law_names cd__law_names ct__law_names), sl__law_names⟩)
    (c__law_names : PySem.W.codeIn K cd__law_names ("_law_names" : Str) = true)
    (k__law_names : PySem.W.keepIn K (.ref f__law_names) = true)
    (a__law_shuffled : PySem.W.nsIn K mainGlobals ("_law_shuffled" : Str) = some (some (.ref f__law_shuffled)))
    (l__law_shuffled : K.lookup f__law_shuffled = some ⟨oc__law_shuffled, od__law_shuffled, .func (PySem.W.fnOf ("_law_shuffled" : Str) ("_law_shuffled" : Str) (defArgs s__law_shuffled) (defBody s__law_shuffled) (defScope s__law_shuffled) .none kV__law_shuffled dc__law_shuffled pm__law_shuffled an__law_shuffled cd__law_shuffled ct__law_shuffled), sl__law_shuffled⟩)
    (c__law_shuffled : PySem.W.codeIn K cd__law_shuffled ("_law_shuffled" : Str) = true)
    (k__law_shuffled : PySem.W.keepIn K (.ref f__law_shuffled) = true)
    (a__law_free_rows : PySem.W.nsIn K mainGlobals ("_law_free_rows" : Str) = some (some (.ref f__law_free_rows)))
    (l__law_free_rows : K.lookup f__law_free_rows = some ⟨oc__law_free_rows, od__law_free_rows, .func (PySem.W.fnOf ("_law_free_rows" : Str) ("_law_free_rows" : Str) (defArgs s__law_free_rows) (defBody s__law_free_rows) (defScope s__law_free_rows) .none kV__law_free_rows dc__law_free_rows pm__law_free_rows an__law_free_rows cd__law_free_rows ct__law_free_rows), sl__law_free_rows⟩)
    (c__law_free_rows : PySem.W.codeIn K cd__law_free_rows ("_law_free_rows" : Str) = true)
    (k__law_free_rows : PySem.W.keepIn K (.ref f__law_free_rows) = true)
    (a__law_moving_rows : PySem.W.nsIn K mainGlobals ("_law_moving_rows" : Str) = some (some (.ref f__law_moving_rows)))
    (l__law_moving_rows : K.lookup f__law_moving_rows = some ⟨oc__law_moving_rows, od__law_moving_rows, .func (PySem.W.fnOf ("_law_moving_rows" : Str) ("_law_moving_rows" : Str) (defArgs s__law_moving_rows) (defBody s__law_moving_rows) (defScope s__law_moving_rows) .none kV__law_moving_rows dc__law_moving_rows pm__law_moving_rows an__law_moving_rows cd__law_moving_rows ct__law_moving_rows), sl__law_moving_rows⟩)
    (c__law_moving_rows : PySem.W.codeIn K cd__law_moving_rows ("_law_moving_rows" : Str) = true)
    (k__law_moving_rows : PySem.W.keepIn K (.ref f__law_moving_rows) = true)
    (a__law_stair_rows : PySem.W.nsIn K mainGlobals ("_law_stair_rows" : Str) = some (some (.ref f__law_stair_rows)))
    (l__law_stair_rows : K.lookup f__law_stair_rows = some ⟨oc__law_stair_rows, od__law_stair_rows, .func (PySem.W.fnOf ("_law_stair_rows" : Str) ("_law_stair_rows" : Str) (defArgs s__law_stair_rows) (defBody s__law_stair_rows) (defScope s__law_stair_rows) .none kV__law_stair_rows dc__law_stair_rows pm__law_stair_rows an__law_stair_rows cd__law_stair_rows ct__law_stair_rows), sl__law_stair_rows⟩)
    (c__law_stair_rows : PySem.W.codeIn K cd__law_stair_rows ("_law_stair_rows" : Str) = true)
    (k__law_stair_rows : PySem.W.keepIn K (.ref f__law_stair_rows) = true)
    (a__law_exchange_rows : PySem.W.nsIn K mainGlobals ("_law_exchange_rows" : Str) = some (some (.ref f__law_exchange_rows)))
    (l__law_exchange_rows : K.lookup f__law_exchange_rows = some ⟨oc__law_exchange_rows, od__law_exchange_rows, .func (PySem.W.fnOf ("_law_exchange_rows" : Str) ("_law_exchange_rows" : Str) (defArgs s__law_exchange_rows) (defBody s__law_exchange_rows) (defScope s__law_exchange_rows) .none kV__law_exchange_rows dc__law_exchange_rows pm__law_exchange_rows an__law_exchange_rows cd__law_exchange_rows ct__law_exchange_rows), sl__law_exchange_rows⟩)
    (c__law_exchange_rows : PySem.W.codeIn K cd__law_exchange_rows ("_law_exchange_rows" : Str) = true)
    (k__law_exchange_rows : PySem.W.keepIn K (.ref f__law_exchange_rows) = true)
    (a__law_tables : PySem.W.nsIn K mainGlobals ("_law_tables" : Str) = some (some (.ref f__law_tables)))
    (l__law_tables : K.lookup f__law_tables = some ⟨oc__law_tables, od__law_tables, .func (PySem.W.fnOf ("_law_tables" : Str) ("_law_tables" : Str) (defArgs s__law_tables) (defBody s__law_tables) (defScope s__law_tables) .none kV__law_tables dc__law_tables pm__law_tables an__law_tables cd__law_tables ct__law_tables), sl__law_tables⟩)
    (c__law_tables : PySem.W.codeIn K cd__law_tables ("_law_tables" : Str) = true)
    (k__law_tables : PySem.W.keepIn K (.ref f__law_tables) = true)
    (a_is_list : PySem.W.nsIn K mainGlobals ("is_list" : Str) = some (some (.ref f_is_list)))
    (l_is_list : K.lookup f_is_list = some ⟨oc_is_list, od_is_list, .func (PySem.W.fnOf ("is_list" : Str) ("is_list" : Str) (defArgs s_is_list) (defBody s_is_list) (defScope s_is_list) .none kV_is_list dc_is_list pm_is_list an_is_list cd_is_list ct_is_list), sl_is_list⟩)
    (c_is_list : PySem.W.codeIn K cd_is_list ("is_list" : Str) = true)
    (k_is_list : PySem.W.keepIn K (.ref f_is_list) = true)
    (a_is_whole : PySem.W.nsIn K mainGlobals ("is_whole" : Str) = some (some (.ref f_is_whole)))
    (l_is_whole : K.lookup f_is_whole = some ⟨oc_is_whole, od_is_whole, .func (PySem.W.fnOf ("is_whole" : Str) ("is_whole" : Str) (defArgs s_is_whole) (defBody s_is_whole) (defScope s_is_whole) .none kV_is_whole dc_is_whole pm_is_whole an_is_whole cd_is_whole ct_is_whole), sl_is_whole⟩)
    (c_is_whole : PySem.W.codeIn K cd_is_whole ("is_whole" : Str) = true)
    (k_is_whole : PySem.W.keepIn K (.ref f_is_whole) = true)
    (a_is_counts : PySem.W.nsIn K mainGlobals ("is_counts" : Str) = some (some (.ref f_is_counts)))
    (l_is_counts : K.lookup f_is_counts = some ⟨oc_is_counts, od_is_counts, .func (PySem.W.fnOf ("is_counts" : Str) ("is_counts" : Str) (defArgs s_is_counts) (defBody s_is_counts) (defScope s_is_counts) .none kV_is_counts dc_is_counts pm_is_counts an_is_counts cd_is_counts ct_is_counts), sl_is_counts⟩)
    (c_is_counts : PySem.W.codeIn K cd_is_counts ("is_counts" : Str) = true)
    (k_is_counts : PySem.W.keepIn K (.ref f_is_counts) = true)
    (a_is_rows : PySem.W.nsIn K mainGlobals ("is_rows" : Str) = some (some (.ref f_is_rows)))
    (l_is_rows : K.lookup f_is_rows = some ⟨oc_is_rows, od_is_rows, .func (PySem.W.fnOf ("is_rows" : Str) ("is_rows" : Str) (defArgs s_is_rows) (defBody s_is_rows) (defScope s_is_rows) .none kV_is_rows dc_is_rows pm_is_rows an_is_rows cd_is_rows ct_is_rows), sl_is_rows⟩)
    (c_is_rows : PySem.W.codeIn K cd_is_rows ("is_rows" : Str) = true)
    (k_is_rows : PySem.W.keepIn K (.ref f_is_rows) = true)
    (a_Table_init : PySem.W.findIn K (.ref C_Table) ("__init__" : Str) = some (some (.ref f_Table_init)))
    (i_Table_init : PySem.W.isFn K (.ref f_Table_init) = true)
    (l_Table_init : K.lookup f_Table_init = some ⟨oc_Table_init, od_Table_init, .func (PySem.W.fnOf ("__init__" : Str) ("Table.__init__" : Str) (defArgs s_Table_init) (defBody s_Table_init) (defScope s_Table_init) .none kV_Table_init dc_Table_init pm_Table_init an_Table_init cd_Table_init ct_Table_init), sl_Table_init⟩)
    (c_Table_init : PySem.W.codeIn K cd_Table_init ("Table.__init__" : Str) = true)
    (k_Table_init : PySem.W.keepIn K (.ref f_Table_init) = true)
    (a_is_name : PySem.W.nsIn K mainGlobals ("is_name" : Str) = some (some (.ref f_is_name)))
    (l_is_name : K.lookup f_is_name = some ⟨oc_is_name, od_is_name, .func (PySem.W.fnOf ("is_name" : Str) ("is_name" : Str) (defArgs s_is_name) (defBody s_is_name) (defScope s_is_name) .none kV_is_name dc_is_name pm_is_name an_is_name cd_is_name ct_is_name), sl_is_name⟩)
    (c_is_name : PySem.W.codeIn K cd_is_name ("is_name" : Str) = true)
    (k_is_name : PySem.W.keepIn K (.ref f_is_name) = true)
    (a_name_new : PySem.W.nsIn K mainGlobals ("name_new" : Str) = some (some (.ref f_name_new)))
    (l_name_new : K.lookup f_name_new = some ⟨oc_name_new, od_name_new, .func (PySem.W.fnOf ("name_new" : Str) ("name_new" : Str) (defArgs s_name_new) (defBody s_name_new) (defScope s_name_new) .none kV_name_new dc_name_new pm_name_new an_name_new cd_name_new ct_name_new), sl_name_new⟩)
    (c_name_new : PySem.W.codeIn K cd_name_new ("name_new" : Str) = true)
    (k_name_new : PySem.W.keepIn K (.ref f_name_new) = true)
    (a_Book_init : PySem.W.findIn K (.ref C_Book) ("__init__" : Str) = some (some (.ref f_Book_init)))
    (i_Book_init : PySem.W.isFn K (.ref f_Book_init) = true)
    (l_Book_init : K.lookup f_Book_init = some ⟨oc_Book_init, od_Book_init, .func (PySem.W.fnOf ("__init__" : Str) ("Book.__init__" : Str) (defArgs s_Book_init) (defBody s_Book_init) (defScope s_Book_init) .none kV_Book_init dc_Book_init pm_Book_init an_Book_init cd_Book_init ct_Book_init), sl_Book_init⟩)
    (c_Book_init : PySem.W.codeIn K cd_Book_init ("Book.__init__" : Str) = true)
    (k_Book_init : PySem.W.keepIn K (.ref f_Book_init) = true)
    (a__law_book : PySem.W.nsIn K mainGlobals ("_law_book" : Str) = some (some (.ref f__law_book)))
    (l__law_book : K.lookup f__law_book = some ⟨oc__law_book, od__law_book, .func (PySem.W.fnOf ("_law_book" : Str) ("_law_book" : Str) (defArgs s__law_book) (defBody s__law_book) (defScope s__law_book) .none kV__law_book dc__law_book pm__law_book an__law_book cd__law_book ct__law_book), sl__law_book⟩)
    (c__law_book : PySem.W.codeIn K cd__law_book ("_law_book" : Str) = true)
    (k__law_book : PySem.W.keepIn K (.ref f__law_book) = true)
    (a_supports_of : PySem.W.nsIn K mainGlobals ("supports_of" : Str) = some (some (.ref f_supports_of)))
    (l_supports_of : K.lookup f_supports_of = some ⟨oc_supports_of, od_supports_of, .func (PySem.W.fnOf ("supports_of" : Str) ("supports_of" : Str) (defArgs s_supports_of) (defBody s_supports_of) (defScope s_supports_of) .none kV_supports_of dc_supports_of pm_supports_of an_supports_of cd_supports_of ct_supports_of), sl_supports_of⟩)
    (c_supports_of : PySem.W.codeIn K cd_supports_of ("supports_of" : Str) = true)
    (k_supports_of : PySem.W.keepIn K (.ref f_supports_of) = true)
    (a_Book_len : PySem.W.findIn K (.ref C_Book) ("__len__" : Str) = some (some (.ref f_Book_len)))
    (i_Book_len : PySem.W.isFn K (.ref f_Book_len) = true)
    (l_Book_len : K.lookup f_Book_len = some ⟨oc_Book_len, od_Book_len, .func (PySem.W.fnOf ("__len__" : Str) ("Book.__len__" : Str) (defArgs s_Book_len) (defBody s_Book_len) (defScope s_Book_len) .none kV_Book_len dc_Book_len pm_Book_len an_Book_len cd_Book_len ct_Book_len), sl_Book_len⟩)
    (c_Book_len : PySem.W.codeIn K cd_Book_len ("Book.__len__" : Str) = true)
    (k_Book_len : PySem.W.keepIn K (.ref f_Book_len) = true)
    (a_splits : PySem.W.nsIn K mainGlobals ("splits" : Str) = some (some (.ref f_splits)))
    (l_splits : K.lookup f_splits = some ⟨oc_splits, od_splits, .func (PySem.W.fnOf ("splits" : Str) ("splits" : Str) (defArgs s_splits) (defBody s_splits) (defScope s_splits) .none kV_splits dc_splits pm_splits an_splits cd_splits ct_splits), sl_splits⟩)
    (c_splits : PySem.W.codeIn K cd_splits ("splits" : Str) = true)
    (k_splits : PySem.W.keepIn K (.ref f_splits) = true)
    (a_pair_steps : PySem.W.nsIn K mainGlobals ("pair_steps" : Str) = some (some (.ref f_pair_steps)))
    (l_pair_steps : K.lookup f_pair_steps = some ⟨oc_pair_steps, od_pair_steps, .func (PySem.W.fnOf ("pair_steps" : Str) ("pair_steps" : Str) (defArgs s_pair_steps) (defBody s_pair_steps) (defScope s_pair_steps) .none kV_pair_steps dc_pair_steps pm_pair_steps an_pair_steps cd_pair_steps ct_pair_steps), sl_pair_steps⟩)
    (c_pair_steps : PySem.W.codeIn K cd_pair_steps ("pair_steps" : Str) = true)
    (k_pair_steps : PySem.W.keepIn K (.ref f_pair_steps) = true)
    (a_doublings_found : PySem.W.nsIn K mainGlobals ("doublings_found" : Str) = some (some (.ref f_doublings_found)))
    (l_doublings_found : K.lookup f_doublings_found = some ⟨oc_doublings_found, od_doublings_found, .func (PySem.W.fnOf ("doublings_found" : Str) ("doublings_found" : Str) (defArgs s_doublings_found) (defBody s_doublings_found) (defScope s_doublings_found) .none kV_doublings_found dc_doublings_found pm_doublings_found an_doublings_found cd_doublings_found ct_doublings_found), sl_doublings_found⟩)
    (c_doublings_found : PySem.W.codeIn K cd_doublings_found ("doublings_found" : Str) = true)
    (k_doublings_found : PySem.W.keepIn K (.ref f_doublings_found) = true)
    (a_shortest_doubling : PySem.W.nsIn K mainGlobals ("shortest_doubling" : Str) = some (some (.ref f_shortest_doubling)))
    (l_shortest_doubling : K.lookup f_shortest_doubling = some ⟨oc_shortest_doubling, od_shortest_doubling, .func (PySem.W.fnOf ("shortest_doubling" : Str) ("shortest_doubling" : Str) (defArgs s_shortest_doubling) (defBody s_shortest_doubling) (defScope s_shortest_doubling) .none kV_shortest_doubling dc_shortest_doubling pm_shortest_doubling an_shortest_doubling cd_shortest_doubling ct_shortest_doubling), sl_shortest_doubling⟩)
    (c_shortest_doubling : PySem.W.codeIn K cd_shortest_doubling ("shortest_doubling" : Str) = true)
    (k_shortest_doubling : PySem.W.keepIn K (.ref f_shortest_doubling) = true)
    (a_doubles : PySem.W.nsIn K mainGlobals ("doubles" : Str) = some (some (.ref f_doubles)))
    (l_doubles : K.lookup f_doubles = some ⟨oc_doubles, od_doubles, .func (PySem.W.fnOf ("doubles" : Str) ("doubles" : Str) (defArgs s_doubles) (defBody s_doubles) (defScope s_doubles) .none kV_doubles dc_doubles pm_doubles an_doubles cd_doubles ct_doubles), sl_doubles⟩)
    (c_doubles : PySem.W.codeIn K cd_doubles ("doubles" : Str) = true)
    (k_doubles : PySem.W.keepIn K (.ref f_doubles) = true)
    (a_highest : PySem.W.nsIn K mainGlobals ("highest" : Str) = some (some (.ref f_highest)))
    (l_highest : K.lookup f_highest = some ⟨oc_highest, od_highest, .func (PySem.W.fnOf ("highest" : Str) ("highest" : Str) (defArgs s_highest) (defBody s_highest) (defScope s_highest) .none kV_highest dc_highest pm_highest an_highest cd_highest ct_highest), sl_highest⟩)
    (c_highest : PySem.W.codeIn K cd_highest ("highest" : Str) = true)
    (k_highest : PySem.W.keepIn K (.ref f_highest) = true)
    (a_frozen : PySem.W.nsIn K mainGlobals ("frozen" : Str) = some (some (.ref f_frozen)))
    (l_frozen : K.lookup f_frozen = some ⟨oc_frozen, od_frozen, .func (PySem.W.fnOf ("frozen" : Str) ("frozen" : Str) (defArgs s_frozen) (defBody s_frozen) (defScope s_frozen) .none kV_frozen dc_frozen pm_frozen an_frozen cd_frozen ct_frozen), sl_frozen⟩)
    (c_frozen : PySem.W.codeIn K cd_frozen ("frozen" : Str) = true)
    (k_frozen : PySem.W.keepIn K (.ref f_frozen) = true)
    (a_Heights_init : PySem.W.findIn K (.ref C_Heights) ("__init__" : Str) = some (some (.ref f_Heights_init)))
    (i_Heights_init : PySem.W.isFn K (.ref f_Heights_init) = true)
    (l_Heights_init : K.lookup f_Heights_init = some ⟨oc_Heights_init, od_Heights_init, .func (PySem.W.fnOf ("__init__" : Str) ("Heights.__init__" : Str) (defArgs s_Heights_init) (defBody s_Heights_init) (defScope s_Heights_init) .none kV_Heights_init dc_Heights_init pm_Heights_init an_Heights_init cd_Heights_init ct_Heights_init), sl_Heights_init⟩)
    (c_Heights_init : PySem.W.codeIn K cd_Heights_init ("Heights.__init__" : Str) = true)
    (k_Heights_init : PySem.W.keepIn K (.ref f_Heights_init) = true)
    (a_growth_verdict : PySem.W.nsIn K mainGlobals ("growth_verdict" : Str) = some (some (.ref f_growth_verdict)))
    (l_growth_verdict : K.lookup f_growth_verdict = some ⟨oc_growth_verdict, od_growth_verdict, .func (PySem.W.fnOf ("growth_verdict" : Str) ("growth_verdict" : Str) (defArgs s_growth_verdict) (defBody s_growth_verdict) (defScope s_growth_verdict) .none kV_growth_verdict dc_growth_verdict pm_growth_verdict an_growth_verdict cd_growth_verdict ct_growth_verdict), sl_growth_verdict⟩)
    (c_growth_verdict : PySem.W.codeIn K cd_growth_verdict ("growth_verdict" : Str) = true)
    (k_growth_verdict : PySem.W.keepIn K (.ref f_growth_verdict) = true)
    (a_law : PySem.W.nsIn K mainGlobals ("law" : Str) = some (some (.ref f_law)))
    (l_law : K.lookup f_law = some ⟨oc_law, od_law, .func (PySem.W.fnOf ("law" : Str) ("law" : Str) (defArgs s_law) (defBody s_law) (defScope s_law) .none kV_law dc_law pm_law an_law cd_law ct_law), sl_law⟩)
    (c_law : PySem.W.codeIn K cd_law ("law" : Str) = true)
    (k_law : PySem.W.keepIn K (.ref f_law) = true)
    (pg_Table : PySem.W.plainGet K C_Table Str.empty = true)
    (hd_Table : PySem.W.hasDictIn K C_Table = true)
    (po_Table : PySem.W.plainOver K C_Table = true)
    (sa_Table : PySem.W.findIn K (.ref C_Table) "__setattr__" = some (some (.builtin "object.__setattr__")))
    (mk_Table : PySem.W.makesIn K C_Table = true)
    (kc_Table : PySem.W.keepIn K (.ref C_Table) = true)
    (na_Table_rows : PySem.W.findIn K (.ref C_Table) ("rows" : Str) = some none)
    (na_Table_many : PySem.W.findIn K (.ref C_Table) ("many" : Str) = some none)
    (na_Table_kinds : PySem.W.findIn K (.ref C_Table) ("kinds" : Str) = some none)
    (na_Table_names : PySem.W.findIn K (.ref C_Table) ("names" : Str) = some none)
    (na_Table_tables : PySem.W.findIn K (.ref C_Table) ("tables" : Str) = some none)
    (ha_Table : PySem.W.findIn K (.ref C_Table) "__class__" = some (some (.builtin "object.__class__")))
    (hm_Table : PySem.W.mroIn K C_Table (.type "object") = some true)
    (pg_Book : PySem.W.plainGet K C_Book Str.empty = true)
    (hd_Book : PySem.W.hasDictIn K C_Book = true)
    (po_Book : PySem.W.plainOver K C_Book = true)
    (sa_Book : PySem.W.findIn K (.ref C_Book) "__setattr__" = some (some (.builtin "object.__setattr__")))
    (mk_Book : PySem.W.makesIn K C_Book = true)
    (kc_Book : PySem.W.keepIn K (.ref C_Book) = true)
    (na_Book_rows : PySem.W.findIn K (.ref C_Book) ("rows" : Str) = some none)
    (na_Book_many : PySem.W.findIn K (.ref C_Book) ("many" : Str) = some none)
    (na_Book_kinds : PySem.W.findIn K (.ref C_Book) ("kinds" : Str) = some none)
    (na_Book_names : PySem.W.findIn K (.ref C_Book) ("names" : Str) = some none)
    (na_Book_tables : PySem.W.findIn K (.ref C_Book) ("tables" : Str) = some none)
    (ha_Book : PySem.W.findIn K (.ref C_Book) "__class__" = some (some (.builtin "object.__class__")))
    (hm_Book : PySem.W.mroIn K C_Book (.type "object") = some true)
    (pg_Heights : PySem.W.plainGet K C_Heights Str.empty = true)
    (hd_Heights : PySem.W.hasDictIn K C_Heights = true)
    (po_Heights : PySem.W.plainOver K C_Heights = true)
    (sa_Heights : PySem.W.findIn K (.ref C_Heights) "__setattr__" = some (some (.builtin "object.__setattr__")))
    (mk_Heights : PySem.W.makesIn K C_Heights = true)
    (kc_Heights : PySem.W.keepIn K (.ref C_Heights) = true)
    (na_Heights_rows : PySem.W.findIn K (.ref C_Heights) ("rows" : Str) = some none)
    (na_Heights_many : PySem.W.findIn K (.ref C_Heights) ("many" : Str) = some none)
    (na_Heights_kinds : PySem.W.findIn K (.ref C_Heights) ("kinds" : Str) = some none)
    (na_Heights_names : PySem.W.findIn K (.ref C_Heights) ("names" : Str) = some none)
    (na_Heights_tables : PySem.W.findIn K (.ref C_Heights) ("tables" : Str) = some none)
    (ha_Heights : PySem.W.findIn K (.ref C_Heights) "__class__" = some (some (.builtin "object.__class__")))
    (hm_Heights : PySem.W.mroIn K C_Heights (.type "object") = some true)
    (hn : PySem.W.specialIn K (.builtin "object.__class__") "__get__" = some (some (.builtin "getset_descriptor.__get__")))
    (ht : PySem.W.takesIn K (.builtin "object.__class__") = some true)
    (ct_Table_int : PySem.W.kitOne K (.ref C_Table) (.type "int") = some false)
    (ct_Table_bool : PySem.W.kitOne K (.ref C_Table) (.type "bool") = some false)
    (ct_Table_str : PySem.W.kitOne K (.ref C_Table) (.type "str") = some false)
    (ct_Table_tuple : PySem.W.kitOne K (.ref C_Table) (.type "tuple") = some false)
    (ct_Table_list : PySem.W.kitOne K (.ref C_Table) (.type "list") = some false)
    (ct_Table_dict : PySem.W.kitOne K (.ref C_Table) (.type "dict") = some false)
    (tc_Table_NoneType : PySem.W.kitOne K (.type "NoneType") (.ref C_Table) = some false)
    (tc_Table_int : PySem.W.kitOne K (.type "int") (.ref C_Table) = some false)
    (tc_Table_bool : PySem.W.kitOne K (.type "bool") (.ref C_Table) = some false)
    (tc_Table_str : PySem.W.kitOne K (.type "str") (.ref C_Table) = some false)
    (tc_Table_tuple : PySem.W.kitOne K (.type "tuple") (.ref C_Table) = some false)
    (tc_Table_list : PySem.W.kitOne K (.type "list") (.ref C_Table) = some false)
    (tc_Table_dict : PySem.W.kitOne K (.type "dict") (.ref C_Table) = some false)
    (cc_Table_Table : PySem.W.kitOne K (.ref C_Table) (.ref C_Table) = some true)
    (cc_Table_Book : PySem.W.kitOne K (.ref C_Table) (.ref C_Book) = some false)
    (cc_Table_Heights : PySem.W.kitOne K (.ref C_Table) (.ref C_Heights) = some false)
    (ct_Book_int : PySem.W.kitOne K (.ref C_Book) (.type "int") = some false)
    (ct_Book_bool : PySem.W.kitOne K (.ref C_Book) (.type "bool") = some false)
    (ct_Book_str : PySem.W.kitOne K (.ref C_Book) (.type "str") = some false)
    (ct_Book_tuple : PySem.W.kitOne K (.ref C_Book) (.type "tuple") = some false)
    (ct_Book_list : PySem.W.kitOne K (.ref C_Book) (.type "list") = some false)
    (ct_Book_dict : PySem.W.kitOne K (.ref C_Book) (.type "dict") = some false)
    (tc_Book_NoneType : PySem.W.kitOne K (.type "NoneType") (.ref C_Book) = some false)
    (tc_Book_int : PySem.W.kitOne K (.type "int") (.ref C_Book) = some false)
    (tc_Book_bool : PySem.W.kitOne K (.type "bool") (.ref C_Book) = some false)
    (tc_Book_str : PySem.W.kitOne K (.type "str") (.ref C_Book) = some false)
    (tc_Book_tuple : PySem.W.kitOne K (.type "tuple") (.ref C_Book) = some false)
    (tc_Book_list : PySem.W.kitOne K (.type "list") (.ref C_Book) = some false)
    (tc_Book_dict : PySem.W.kitOne K (.type "dict") (.ref C_Book) = some false)
    (cc_Book_Table : PySem.W.kitOne K (.ref C_Book) (.ref C_Table) = some false)
    (cc_Book_Book : PySem.W.kitOne K (.ref C_Book) (.ref C_Book) = some true)
    (cc_Book_Heights : PySem.W.kitOne K (.ref C_Book) (.ref C_Heights) = some false)
    (ct_Heights_int : PySem.W.kitOne K (.ref C_Heights) (.type "int") = some false)
    (ct_Heights_bool : PySem.W.kitOne K (.ref C_Heights) (.type "bool") = some false)
    (ct_Heights_str : PySem.W.kitOne K (.ref C_Heights) (.type "str") = some false)
    (ct_Heights_tuple : PySem.W.kitOne K (.ref C_Heights) (.type "tuple") = some false)
    (ct_Heights_list : PySem.W.kitOne K (.ref C_Heights) (.type "list") = some false)
    (ct_Heights_dict : PySem.W.kitOne K (.ref C_Heights) (.type "dict") = some false)
    (tc_Heights_NoneType : PySem.W.kitOne K (.type "NoneType") (.ref C_Heights) = some false)
    (tc_Heights_int : PySem.W.kitOne K (.type "int") (.ref C_Heights) = some false)
    (tc_Heights_bool : PySem.W.kitOne K (.type "bool") (.ref C_Heights) = some false)
    (tc_Heights_str : PySem.W.kitOne K (.type "str") (.ref C_Heights) = some false)
    (tc_Heights_tuple : PySem.W.kitOne K (.type "tuple") (.ref C_Heights) = some false)
    (tc_Heights_list : PySem.W.kitOne K (.type "list") (.ref C_Heights) = some false)
    (tc_Heights_dict : PySem.W.kitOne K (.type "dict") (.ref C_Heights) = some false)
    (cc_Heights_Table : PySem.W.kitOne K (.ref C_Heights) (.ref C_Table) = some false)
    (cc_Heights_Book : PySem.W.kitOne K (.ref C_Heights) (.ref C_Book) = some false)
    (cc_Heights_Heights : PySem.W.kitOne K (.ref C_Heights) (.ref C_Heights) = some true)
    (n_int : PySem.W.nsIn K mainGlobals ("int" : Str) = some none)
    (n_list : PySem.W.nsIn K mainGlobals ("list" : Str) = some none)
    (n_len : PySem.W.nsIn K mainGlobals ("len" : Str) = some none)
    (n_range : PySem.W.nsIn K mainGlobals ("range" : Str) = some none)
    (n_str : PySem.W.nsIn K mainGlobals ("str" : Str) = some none)
    (n_tuple : PySem.W.nsIn K mainGlobals ("tuple" : Str) = some none)
    (n_isinstance : PySem.W.nsIn K mainGlobals ("isinstance" : Str) = some none)
    (n_all : PySem.W.nsIn K mainGlobals ("all" : Str) = some none)
    (n_bool : PySem.W.nsIn K mainGlobals ("bool" : Str) = some none)
    (n_sorted : PySem.W.nsIn K mainGlobals ("sorted" : Str) = some none)
    (n_max : PySem.W.nsIn K mainGlobals ("max" : Str) = some none)
    (g_LETTERS : PySem.W.nsIn K mainGlobals ("LETTERS" : Str) = some (some (.str ("abcdefghijklmnopqrstuvwxyzABCDEFGHIJKLMNOPQRSTUVWXYZ" : Str) tk_LETTERS)))
    (g_FIGURES : PySem.W.nsIn K mainGlobals ("FIGURES" : Str) = some (some (.str ("0123456789" : Str) tk_FIGURES)))
    (g_KEPT_WORDS : PySem.W.nsIn K mainGlobals ("KEPT_WORDS" : Str) = some (some (.ref ad_KEPT_WORDS)))
    (lg_KEPT_WORDS : K.lookup ad_KEPT_WORDS = some ⟨.type "tuple", od_KEPT_WORDS, .seq #[.str ("kinds" : Str) tk_KEPT_WORDS_0, .str ("round" : Str) tk_KEPT_WORDS_1, .str ("becomes" : Str) tk_KEPT_WORDS_2] ep_KEPT_WORDS, sl_KEPT_WORDS⟩) :
    ∃ fd : FuncData, (∀ (s : Shared) (v : Value), BindsTo s fd ⟨[v], []⟩ [("script", v)]) ∧ ∀ base : Heap, K.In base → base.Ns mainGlobals mg → ∃ T : Txt K mg, FnOk l.prog w K mg base CX0 10 fa fd ["script"] (spF T.gb m_law) := by
  have e := hfa.symm.trans (PySem.W.mg_of X G a_law)
  cases e
  have F__law_pen := fun_mk (st := s__law_pen) l__law_pen c__law_pen k__law_pen
  have b__law_pen := F__law_pen.binds (ps := [("script" : Str)]) fun _ _ _ _ _ _ us hl => match us, hl with | [_], _ => rfl
  have F__law_draw := fun_mk (st := s__law_draw) l__law_draw c__law_draw k__law_draw
  have b__law_draw := F__law_draw.binds (ps := [("pen" : Str), ("many" : Str)]) fun _ _ _ _ _ _ us hl => match us, hl with | [_, _], _ => rfl
  have F__law_pick := fun_mk (st := s__law_pick) l__law_pick c__law_pick k__law_pick
  have b__law_pick := F__law_pick.binds (ps := [("pen" : Str), ("some" : Str)]) fun _ _ _ _ _ _ us hl => match us, hl with | [_, _], _ => rfl
  have F__law_many := fun_mk (st := s__law_many) l__law_many c__law_many k__law_many
  have b__law_many := F__law_many.binds (ps := [("pen" : Str)]) fun _ _ _ _ _ _ us hl => match us, hl with | [_], _ => rfl
  have F__law_name := fun_mk (st := s__law_name) l__law_name c__law_name k__law_name
  have b__law_name := F__law_name.binds (ps := [("pen" : Str)]) fun _ _ _ _ _ _ us hl => match us, hl with | [_], _ => rfl
  have F__law_names := fun_mk (st := s__law_names) l__law_names c__law_names k__law_names
  have b__law_names := F__law_names.binds (ps := [("pen" : Str), ("many" : Str)]) fun _ _ _ _ _ _ us hl => match us, hl with | [_, _], _ => rfl
  have F__law_shuffled := fun_mk (st := s__law_shuffled) l__law_shuffled c__law_shuffled k__law_shuffled
  have b__law_shuffled := F__law_shuffled.binds (ps := [("pen" : Str), ("some" : Str)]) fun _ _ _ _ _ _ us hl => match us, hl with | [_, _], _ => rfl
  have F__law_free_rows := fun_mk (st := s__law_free_rows) l__law_free_rows c__law_free_rows k__law_free_rows
  have b__law_free_rows := F__law_free_rows.binds (ps := [("pen" : Str), ("many" : Str)]) fun _ _ _ _ _ _ us hl => match us, hl with | [_, _], _ => rfl
  have F__law_moving_rows := fun_mk (st := s__law_moving_rows) l__law_moving_rows c__law_moving_rows k__law_moving_rows
  have b__law_moving_rows := F__law_moving_rows.binds (ps := [("pen" : Str), ("many" : Str)]) fun _ _ _ _ _ _ us hl => match us, hl with | [_, _], _ => rfl
  have F__law_stair_rows := fun_mk (st := s__law_stair_rows) l__law_stair_rows c__law_stair_rows k__law_stair_rows
  have b__law_stair_rows := F__law_stair_rows.binds (ps := [("pen" : Str), ("many" : Str), ("order" : Str)]) fun _ _ _ _ _ _ us hl => match us, hl with | [_, _, _], _ => rfl
  have F__law_exchange_rows := fun_mk (st := s__law_exchange_rows) l__law_exchange_rows c__law_exchange_rows k__law_exchange_rows
  have b__law_exchange_rows := F__law_exchange_rows.binds (ps := [("pen" : Str), ("many" : Str)]) fun _ _ _ _ _ _ us hl => match us, hl with | [_, _], _ => rfl
  have F__law_tables := fun_mk (st := s__law_tables) l__law_tables c__law_tables k__law_tables
  have b__law_tables := F__law_tables.binds (ps := [("pen" : Str), ("many" : Str), ("count" : Str)]) fun _ _ _ _ _ _ us hl => match us, hl with | [_, _, _], _ => rfl
  have F_is_list := fun_mk (st := s_is_list) l_is_list c_is_list k_is_list
  have b_is_list := F_is_list.binds (ps := [("value" : Str)]) fun _ _ _ _ _ _ us hl => match us, hl with | [_], _ => rfl
  have F_is_whole := fun_mk (st := s_is_whole) l_is_whole c_is_whole k_is_whole
  have b_is_whole := F_is_whole.binds (ps := [("value" : Str)]) fun _ _ _ _ _ _ us hl => match us, hl with | [_], _ => rfl
  have F_is_counts := fun_mk (st := s_is_counts) l_is_counts c_is_counts k_is_counts
  have b_is_counts := F_is_counts.binds (ps := [("many" : Str), ("value" : Str)]) fun _ _ _ _ _ _ us hl => match us, hl with | [_, _], _ => rfl
  have F_is_rows := fun_mk (st := s_is_rows) l_is_rows c_is_rows k_is_rows
  have b_is_rows := F_is_rows.binds (ps := [("value" : Str)]) fun _ _ _ _ _ _ us hl => match us, hl with | [_], _ => rfl
  have F_Table_init := fun_mk (st := s_Table_init) l_Table_init c_Table_init k_Table_init
  have b_Table_init := F_Table_init.binds (ps := [("self" : Str), ("rows" : Str)]) fun _ _ _ _ _ _ us hl => match us, hl with | [_, _], _ => rfl
  have F_is_name := fun_mk (st := s_is_name) l_is_name c_is_name k_is_name
  have b_is_name := F_is_name.binds (ps := [("value" : Str)]) fun _ _ _ _ _ _ us hl => match us, hl with | [_], _ => rfl
  have F_name_new := fun_mk (st := s_name_new) l_name_new c_name_new k_name_new
  have b_name_new := F_name_new.binds (ps := [("name" : Str), ("seen" : Str)]) fun _ _ _ _ _ _ us hl => match us, hl with | [_, _], _ => rfl
  have F_Book_init := fun_mk (st := s_Book_init) l_Book_init c_Book_init k_Book_init
  have b_Book_init := F_Book_init.binds (ps := [("self" : Str), ("kinds" : Str), ("rounds" : Str)]) fun _ _ _ _ _ _ us hl => match us, hl with | [_, _, _], _ => rfl
  have F__law_book := fun_mk (st := s__law_book) l__law_book c__law_book k__law_book
  have b__law_book := F__law_book.binds (ps := [("pen" : Str), ("tables" : Str), ("names" : Str)]) fun _ _ _ _ _ _ us hl => match us, hl with | [_, _, _], _ => rfl
  have F_supports_of := fun_mk (st := s_supports_of) l_supports_of c_supports_of k_supports_of
  have b_supports_of := F_supports_of.binds (ps := [("book" : Str)]) fun _ _ _ _ _ _ us hl => match us, hl with | [_], _ => rfl
  have F_Book_len := fun_mk (st := s_Book_len) l_Book_len c_Book_len k_Book_len
  have b_Book_len := F_Book_len.binds (ps := [("self" : Str)]) fun _ _ _ _ _ _ us hl => match us, hl with | [_], _ => rfl
  have F_splits := fun_mk (st := s_splits) l_splits c_splits k_splits
  have b_splits := F_splits.binds (ps := [("book" : Str)]) fun _ _ _ _ _ _ us hl => match us, hl with | [_], _ => rfl
  have F_pair_steps := fun_mk (st := s_pair_steps) l_pair_steps c_pair_steps k_pair_steps
  have b_pair_steps := F_pair_steps.binds (ps := [("book" : Str)]) fun _ _ _ _ _ _ us hl => match us, hl with | [_], _ => rfl
  have F_doublings_found := fun_mk (st := s_doublings_found) l_doublings_found c_doublings_found k_doublings_found
  have b_doublings_found := F_doublings_found.binds (ps := [("book" : Str)]) fun _ _ _ _ _ _ us hl => match us, hl with | [_], _ => rfl
  have F_shortest_doubling := fun_mk (st := s_shortest_doubling) l_shortest_doubling c_shortest_doubling k_shortest_doubling
  have b_shortest_doubling := F_shortest_doubling.binds (ps := [("book" : Str)]) fun _ _ _ _ _ _ us hl => match us, hl with | [_], _ => rfl
  have F_doubles := fun_mk (st := s_doubles) l_doubles c_doubles k_doubles
  have b_doubles := F_doubles.binds (ps := [("book" : Str)]) fun _ _ _ _ _ _ us hl => match us, hl with | [_], _ => rfl
  have F_highest := fun_mk (st := s_highest) l_highest c_highest k_highest
  have b_highest := F_highest.binds (ps := [("edges" : Str)]) fun _ _ _ _ _ _ us hl => match us, hl with | [_], _ => rfl
  have F_frozen := fun_mk (st := s_frozen) l_frozen c_frozen k_frozen
  have b_frozen := F_frozen.binds (ps := [("value" : Str)]) fun _ _ _ _ _ _ us hl => match us, hl with | [_], _ => rfl
  have F_Heights_init := fun_mk (st := s_Heights_init) l_Heights_init c_Heights_init k_Heights_init
  have b_Heights_init := F_Heights_init.binds (ps := [("self" : Str), ("rows" : Str)]) fun _ _ _ _ _ _ us hl => match us, hl with | [_, _], _ => rfl
  have F_growth_verdict := fun_mk (st := s_growth_verdict) l_growth_verdict c_growth_verdict k_growth_verdict
  have b_growth_verdict := F_growth_verdict.binds (ps := [("book" : Str)]) fun _ _ _ _ _ _ us hl => match us, hl with | [_], _ => rfl
  have F_law := fun_mk (st := s_law) l_law c_law k_law
  have b_law := F_law.binds (ps := [("script" : Str)]) fun _ _ _ _ _ _ us hl => match us, hl with | [_], _ => rfl
  let T : Txt K mg := { f__law_pen := _, d__law_pen := _, F__law_pen := F__law_pen, b__law_pen := b__law_pen, m__law_pen := PySem.W.mg_of X G a__law_pen, f__law_draw := _, d__law_draw := _, F__law_draw := F__law_draw, b__law_draw := b__law_draw, m__law_draw := PySem.W.mg_of X G a__law_draw, f__law_pick := _, d__law_pick := _, F__law_pick := F__law_pick, b__law_pick := b__law_pick, m__law_pick := PySem.W.mg_of X G a__law_pick, f__law_many := _, d__law_many := _, F__law_many := F__law_many, b__law_many := b__law_many, m__law_many := PySem.W.mg_of X G a__law_many, f__law_name := _, d__law_name := _, F__law_name := F__law_name, b__law_name := b__law_name, m__law_name := PySem.W.mg_of X G a__law_name, f__law_names := _, d__law_names := _, F__law_names := F__law_names, b__law_names := b__law_names, m__law_names := PySem.W.mg_of X G a__law_names, f__law_shuffled := _, d__law_shuffled := _, F__law_shuffled := F__law_shuffled, b__law_shuffled := b__law_shuffled, m__law_shuffled := PySem.W.mg_of X G a__law_shuffled, f__law_free_rows := _, d__law_free_rows := _, F__law_free_rows := F__law_free_rows, b__law_free_rows := b__law_free_rows, m__law_free_rows := PySem.W.mg_of X G a__law_free_rows, f__law_moving_rows := _, d__law_moving_rows := _, F__law_moving_rows := F__law_moving_rows, b__law_moving_rows := b__law_moving_rows, m__law_moving_rows := PySem.W.mg_of X G a__law_moving_rows, f__law_stair_rows := _, d__law_stair_rows := _, F__law_stair_rows := F__law_stair_rows, b__law_stair_rows := b__law_stair_rows, m__law_stair_rows := PySem.W.mg_of X G a__law_stair_rows, f__law_exchange_rows := _, d__law_exchange_rows := _, F__law_exchange_rows := F__law_exchange_rows, b__law_exchange_rows := b__law_exchange_rows, m__law_exchange_rows := PySem.W.mg_of X G a__law_exchange_rows, f__law_tables := _, d__law_tables := _, F__law_tables := F__law_tables, b__law_tables := b__law_tables, m__law_tables := PySem.W.mg_of X G a__law_tables, f_is_list := _, d_is_list := _, F_is_list := F_is_list, b_is_list := b_is_list, m_is_list := PySem.W.mg_of X G a_is_list, f_is_whole := _, d_is_whole := _, F_is_whole := F_is_whole, b_is_whole := b_is_whole, m_is_whole := PySem.W.mg_of X G a_is_whole, f_is_counts := _, d_is_counts := _, F_is_counts := F_is_counts, b_is_counts := b_is_counts, m_is_counts := PySem.W.mg_of X G a_is_counts, f_is_rows := _, d_is_rows := _, F_is_rows := F_is_rows, b_is_rows := b_is_rows, m_is_rows := PySem.W.mg_of X G a_is_rows, f_Table_init := _, d_Table_init := _, F_Table_init := F_Table_init, b_Table_init := b_Table_init, f_is_name := _, d_is_name := _, F_is_name := F_is_name, b_is_name := b_is_name, m_is_name := PySem.W.mg_of X G a_is_name, f_name_new := _, d_name_new := _, F_name_new := F_name_new, b_name_new := b_name_new, m_name_new := PySem.W.mg_of X G a_name_new, f_Book_init := _, d_Book_init := _, F_Book_init := F_Book_init, b_Book_init := b_Book_init, f__law_book := _, d__law_book := _, F__law_book := F__law_book, b__law_book := b__law_book, m__law_book := PySem.W.mg_of X G a__law_book, f_supports_of := _, d_supports_of := _, F_supports_of := F_supports_of, b_supports_of := b_supports_of, m_supports_of := PySem.W.mg_of X G a_supports_of, f_Book_len := _, d_Book_len := _, F_Book_len := F_Book_len, b_Book_len := b_Book_len, f_splits := _, d_splits := _, F_splits := F_splits, b_splits := b_splits, m_splits := PySem.W.mg_of X G a_splits, f_pair_steps := _, d_pair_steps := _, F_pair_steps := F_pair_steps, b_pair_steps := b_pair_steps, m_pair_steps := PySem.W.mg_of X G a_pair_steps, f_doublings_found := _, d_doublings_found := _, F_doublings_found := F_doublings_found, b_doublings_found := b_doublings_found, m_doublings_found := PySem.W.mg_of X G a_doublings_found, f_shortest_doubling := _, d_shortest_doubling := _, F_shortest_doubling := F_shortest_doubling, b_shortest_doubling := b_shortest_doubling, m_shortest_doubling := PySem.W.mg_of X G a_shortest_doubling, f_doubles := _, d_doubles := _, F_doubles := F_doubles, b_doubles := b_doubles, m_doubles := PySem.W.mg_of X G a_doubles, f_highest := _, d_highest := _, F_highest := F_highest, b_highest := b_highest, m_highest := PySem.W.mg_of X G a_highest, f_frozen := _, d_frozen := _, F_frozen := F_frozen, b_frozen := b_frozen, m_frozen := PySem.W.mg_of X G a_frozen, f_Heights_init := _, d_Heights_init := _, F_Heights_init := F_Heights_init, b_Heights_init := b_Heights_init, f_growth_verdict := _, d_growth_verdict := _, F_growth_verdict := F_growth_verdict, b_growth_verdict := b_growth_verdict, m_growth_verdict := PySem.W.mg_of X G a_growth_verdict, f_law := _, d_law := _, F_law := F_law, b_law := b_law, m_law := PySem.W.mg_of X G a_law, C_Table := C_Table, mC_Table := PySem.W.mg_of X G aC_Table, cl_Table := ⟨pg_Table, hd_Table, po_Table, sa_Table⟩, M_Table := ⟨mk_Table, a_Table_init, i_Table_init, kc_Table⟩, na_Table_rows := na_Table_rows, na_Table_many := na_Table_many, na_Table_kinds := na_Table_kinds, na_Table_names := na_Table_names, na_Table_tables := na_Table_tables, ha_Table := ha_Table, hm_Table := hm_Table, C_Book := C_Book, mC_Book := PySem.W.mg_of X G aC_Book, cl_Book := ⟨pg_Book, hd_Book, po_Book, sa_Book⟩, M_Book := ⟨mk_Book, a_Book_init, i_Book_init, kc_Book⟩, L_Book := ⟨a_Book_len, i_Book_len⟩, na_Book_rows := na_Book_rows, na_Book_many := na_Book_many, na_Book_kinds := na_Book_kinds, na_Book_names := na_Book_names, na_Book_tables := na_Book_tables, ha_Book := ha_Book, hm_Book := hm_Book, C_Heights := C_Heights, mC_Heights := PySem.W.mg_of X G aC_Heights, cl_Heights := ⟨pg_Heights, hd_Heights, po_Heights, sa_Heights⟩, M_Heights := ⟨mk_Heights, a_Heights_init, i_Heights_init, kc_Heights⟩, na_Heights_rows := na_Heights_rows, na_Heights_many := na_Heights_many, na_Heights_kinds := na_Heights_kinds, na_Heights_names := na_Heights_names, na_Heights_tables := na_Heights_tables, ha_Heights := ha_Heights, hm_Heights := hm_Heights, hn := hn, ht := ht, ct_Table_int := ct_Table_int, ct_Table_bool := ct_Table_bool, ct_Table_str := ct_Table_str, ct_Table_tuple := ct_Table_tuple, ct_Table_list := ct_Table_list, ct_Table_dict := ct_Table_dict, tc_Table_NoneType := tc_Table_NoneType, tc_Table_int := tc_Table_int, tc_Table_bool := tc_Table_bool, tc_Table_str := tc_Table_str, tc_Table_tuple := tc_Table_tuple, tc_Table_list := tc_Table_list, tc_Table_dict := tc_Table_dict, cc_Table_Table := cc_Table_Table, cc_Table_Book := cc_Table_Book, cc_Table_Heights := cc_Table_Heights, ct_Book_int := ct_Book_int, ct_Book_bool := ct_Book_bool, ct_Book_str := ct_Book_str, ct_Book_tuple := ct_Book_tuple, ct_Book_list := ct_Book_list, ct_Book_dict := ct_Book_dict, tc_Book_NoneType := tc_Book_NoneType, tc_Book_int := tc_Book_int, tc_Book_bool := tc_Book_bool, tc_Book_str := tc_Book_str, tc_Book_tuple := tc_Book_tuple, tc_Book_list := tc_Book_list, tc_Book_dict := tc_Book_dict, cc_Book_Table := cc_Book_Table, cc_Book_Book := cc_Book_Book, cc_Book_Heights := cc_Book_Heights, ct_Heights_int := ct_Heights_int, ct_Heights_bool := ct_Heights_bool, ct_Heights_str := ct_Heights_str, ct_Heights_tuple := ct_Heights_tuple, ct_Heights_list := ct_Heights_list, ct_Heights_dict := ct_Heights_dict, tc_Heights_NoneType := tc_Heights_NoneType, tc_Heights_int := tc_Heights_int, tc_Heights_bool := tc_Heights_bool, tc_Heights_str := tc_Heights_str, tc_Heights_tuple := tc_Heights_tuple, tc_Heights_list := tc_Heights_list, tc_Heights_dict := tc_Heights_dict, cc_Heights_Table := cc_Heights_Table, cc_Heights_Book := cc_Heights_Book, cc_Heights_Heights := cc_Heights_Heights, n_int := PySem.W.mg_none_of X G n_int, n_list := PySem.W.mg_none_of X G n_list, n_len := PySem.W.mg_none_of X G n_len, n_range := PySem.W.mg_none_of X G n_range, n_str := PySem.W.mg_none_of X G n_str, n_tuple := PySem.W.mg_none_of X G n_tuple, n_isinstance := PySem.W.mg_none_of X G n_isinstance, n_all := PySem.W.mg_none_of X G n_all, n_bool := PySem.W.mg_none_of X G n_bool, n_sorted := PySem.W.mg_none_of X G n_sorted, n_max := PySem.W.mg_none_of X G n_max, v_LETTERS := _, mk_LETTERS := PySem.W.mg_of X G g_LETTERS, vk_LETTERS := ⟨_, rfl⟩, v_FIGURES := _, mk_FIGURES := PySem.W.mg_of X G g_FIGURES, vk_FIGURES := ⟨_, rfl⟩, v_KEPT_WORDS := _, mk_KEPT_WORDS := PySem.W.mg_of X G g_KEPT_WORDS, a_KEPT_WORDS := ad_KEPT_WORDS, va_KEPT_WORDS := rfl, vk_KEPT_WORDS := fun H => .inr ⟨_, _, _, lg_KEPT_WORDS, rfl, rfl, (by rw [sizeLine_eq]; show 3 ≤ 16777216; decide), (.cons ⟨_, rfl⟩ (.cons ⟨_, rfl⟩ (.cons ⟨_, rfl⟩ (.nil))))⟩ }
  exact ⟨_, fun s v => .of_eq rfl, fun base _ _ => ⟨T, ok_law T⟩⟩
/-- what the law promises -/
def spTrue (K : PySem.W.Frag) : Sp := fun vs H Q _ => ∃ (a : Addr) (ns : List Int), vs = [.ref a] ∧ SqL K H a (ns.map V.int) ∧ ns.length ≤ 63 ∧ ∀ H', Q (.bl true) H'
def Plain : Prop := ∀ ns : List Int, ns.length ≤ 63 → ∃ S, m_law [.t (.scr ns)] [] = some (.t (.bl true), S)
theorem to_true {P : Program} {w : World} {K : PySem.W.Frag} {mg : Str → Option Value} {base : Heap} {k : Nat} {fa : Addr} {fd : FuncData} {T : Txt K mg} (hp : Plain) (F : FnOk P w K mg base CX0 k fa fd ["script"] (spF T.gb m_law)) : FnOk P w K mg base CX0 k fa fd ["script"] (spTrue K) :=
  F.imp fun vs H Q E ⟨a, ns, ev, hs, hl, q⟩ => by
    obtain ⟨S, hS⟩ := hp ns hl
    subst ev
    have g0 : Gr (fun b => if b = a then H a else none) H := fun b o e => by
      by_cases z : b = a
      · subst z; simpa using e
      · simp [z] at e
    have s0 : SqL K (fun b => if b = a then H a else none) a (ns.map V.int) := by
      rcases hs with (h | ⟨od, h⟩) | h
      · exact .inl (.inl (by simpa using h))
      · exact .inl (.inr ⟨od, by simpa using h⟩)
      · exact .inr h
    refine ⟨[], _, [], [], [.t (.scr ns)], _, S, ⟨⟨H, ⟨fun _ _ => rfl, fun p hp => by cases hp⟩, g0, (fun b hb => by cases hb), List.nodup_nil, rfl, fun n b d h1 _ => by simp at h1⟩⟩, .cons (.scr s0) .nil, hS, fun v H' F' ι' _ _ hv => ?_⟩
    cases hv; exact q H'
theorem walk {l : PySem.W.OpenLaw} {q : Program} {loose : List Str} {XP : (Str → Option Value) → Heap → Prop} {YP : World → Heap → Prop} {d : DefRec} {K : Params → PySem.W.Frag} (hn : l.most = some 63) (hdf : d.params.defaults = [])
    (hY : ∀ (w : World) (h : Heap), YP w h → (K w.params).In h)
    (F : ∀ (w : World) (mg : Str → Option Value) (fa : Addr) (h : Heap), (K w.params).In h → h.Ns mainGlobals mg → mg d.name = some (.ref fa) →
      ∃ fd : FuncData, (∀ (s : Shared) (u : Value), BindsTo s fd ⟨[u], []⟩ [("script", u)]) ∧ ∀ base : Heap, (K w.params).In base → base.Ns mainGlobals mg → ∃ T : Txt (K w.params) mg, FnOk l.prog w (K w.params) mg base CX0 10 fa fd ["script"] (spF T.gb m_law)) (hp : Plain) :
    PySem.W.WalkO q loose XP YP l.row.toRowW d [] (fun f vs => PySem.call f vs) :=
  L2.walk_of (n := 63) (k := 10) (x := "script") (CX := fun _ => CX0) (sp := fun w => spTrue (K w.params)) hn (by decide) hdf ⟨rfl, by decide, by decide⟩ hY
    (fun w mg fa h a b c => let ⟨fd, h1, h2⟩ := F w mg fa h a b c; ⟨fd, h1, fun base x y => let ⟨_, z⟩ := h2 base x y; to_true hp z⟩) (fun _ _ a ns hl _ hS => ⟨a, ns, rfl, hS, hl, fun _ => rfl⟩) fun _ _ _ _ _ z => z
end Z09
set_option Elab.async false
set_option linter.all false
namespace Z09
open PySem L2 MF
theorem plain : Plain := fun ns _ => law_ok ns
end Z09
set_option Elab.async false
set_option linter.all false
set_option maxRecDepth 100000
open PySem PySem.W PyProof.Rows in
set_option maxRecDepth 100000 in
set_option maxHeartbeats 0 in
theorem PySem.Challenge.cw_manyfold_k09_splits_holds : PySem.Challenge.rw_manyfold_k09_splits.Holds := by
  w_on; o_law; k_head; (case hw => w_witness2)
  k_fill
  refine Z09.walk (l := PySem.Challenge.rw_manyfold_k09_splits) rfl rfl (fun w h Y => by first | exact PySem.W.kIn_of Y | exact PySem.W.km_in_of Y) ?F Z09.plain
  case F =>
    intro w mg fa h KX G hmg
    refine' Z09.all_mk KX G hmg ?aC_Table ?aC_Book ?aC_Heights ?a__law_pen ?l__law_pen ?c__law_pen ?k__law_pen ?a__law_draw ?l__law_draw ?c__law_draw ?k__law_draw ?a__law_pick ?l__law_pick ?c__law_pick ?k__law_pick ?a__law_many ?l__law_many ?c__law_many ?k__law_many ?a__law_name ?l__law_name ?c__law_name ?k__law_name ?a__law_names ?l__law_names ?c__law_names ?k__law_names ?a__law_shuffled ?l__law_shuffled ?c__law_shuffled ?k__law_shuffled ?a__law_free_rows ?l__law_free_rows ?c__law_free_rows ?k__law_free_rows ?a__law_moving_rows ?l__law_moving_rows ?c__law_moving_rows ?k__law_moving_rows ?a__law_stair_rows ?l__law_stair_rows ?c__law_stair_rows ?k__law_stair_rows ?a__law_exchange_rows ?l__law_exchange_rows ?c__law_exchange_rows ?k__law_exchange_rows ?a__law_tables ?l__law_tables ?c__law_tables ?k__law_tables ?a_is_list ?l_is_list ?c_is_list ?k_is_list ?a_is_whole ?l_is_whole ?c_is_whole ?k_is_whole ?a_is_counts ?l_is_counts ?c_is_counts ?k_is_counts ?a_is_rows ?l_is_rows ?c_is_rows ?k_is_rows ?a_Table_init ?i_Table_init ?l_Table_init ?c_Table_init ?k_Table_init ?a_is_name ?l_is_name ?c_is_name ?k_is_name ?a_name_new ?l_name_new ?c_name_new ?k_name_new ?a_Book_init ?i_Book_init ?l_Book_init ?c_Book_init ?k_Book_init ?a__law_book ?l__law_book ?c__law_book ?k__law_book ?a_supports_of ?l_supports_of ?c_supports_of ?k_supports_of ?a_Book_len ?i_Book_len ?l_Book_len ?c_Book_len ?k_Book_len ?a_splits ?l_splits ?c_splits ?k_splits ?a_pair_steps ?l_pair_steps ?c_pair_steps ?k_pair_steps ?a_doublings_found ?l_doublings_found ?c_doublings_found ?k_doublings_found ?a_shortest_doubling ?l_shortest_doubling ?c_shortest_doubling ?k_shortest_doubling ?a_doubles ?l_doubles ?c_doubles ?k_doubles ?a_highest ?l_highest ?c_highest ?k_highest ?a_frozen ?l_frozen ?c_frozen ?k_frozen ?a_Heights_init ?i_Heights_init ?l_Heights_init ?c_Heights_init ?k_Heights_init ?a_growth_verdict ?l_growth_verdict ?c_growth_verdict ?k_growth_verdict ?a_law ?l_law ?c_law ?k_law ?pg_Table ?hd_Table ?po_Table ?sa_Table ?mk_Table ?kc_Table ?na_Table_rows ?na_Table_many ?na_Table_kinds ?na_Table_names ?na_Table_tables ?ha_Table ?hm_Table ?pg_Book ?hd_Book ?po_Book ?sa_Book ?mk_Book ?kc_Book ?na_Book_rows ?na_Book_many ?na_Book_kinds ?na_Book_names ?na_Book_tables ?ha_Book ?hm_Book ?pg_Heights ?hd_Heights ?po_Heights ?sa_Heights ?mk_Heights ?kc_Heights ?na_Heights_rows ?na_Heights_many ?na_Heights_kinds ?na_Heights_names ?na_Heights_tables ?ha_Heights ?hm_Heights ?hn ?ht ?ct_Table_int ?ct_Table_bool ?ct_Table_str ?ct_Table_tuple ?ct_Table_list ?ct_Table_dict ?tc_Table_NoneType ?tc_Table_int ?tc_Table_bool ?tc_Table_str ?tc_Table_tuple ?tc_Table_list ?tc_Table_dict ?cc_Table_Table ?cc_Table_Book ?cc_Table_Heights ?ct_Book_int ?ct_Book_bool ?ct_Book_str ?ct_Book_tuple ?ct_Book_list ?ct_Book_dict ?tc_Book_NoneType ?tc_Book_int ?tc_Book_bool ?tc_Book_str ?tc_Book_tuple ?tc_Book_list ?tc_Book_dict ?cc_Book_Table ?cc_Book_Book ?cc_Book_Heights ?ct_Heights_int ?ct_Heights_bool ?ct_Heights_str ?ct_Heights_tuple ?ct_Heights_list ?ct_Heights_dict ?tc_Heights_NoneType ?tc_Heights_int ?tc_Heights_bool ?tc_Heights_str ?tc_Heights_tuple ?tc_Heights_list ?tc_Heights_dict ?cc_Heights_Table ?cc_Heights_Book ?cc_Heights_Heights ?n_int ?n_list ?n_len ?n_range ?n_str ?n_tuple ?n_isinstance ?n_all ?n_bool ?n_sorted ?n_max ?g_LETTERS ?g_FIGURES ?g_KEPT_WORDS ?lg_KEPT_WORDS
    (case aC_Table => k_is)
    (case aC_Book => k_is)
    (case aC_Heights => k_is)
    (case a__law_pen => k_is)
    (case l__law_pen => k_is)
    (case c__law_pen => k_is)
    (case k__law_pen => k_is)
    (case a__law_draw => k_is)
    (case l__law_draw => k_is)
    (case c__law_draw => k_is)
    (case k__law_draw => k_is)
    (case a__law_pick => k_is)
    (case l__law_pick => k_is)
    (case c__law_pick => k_is)
    (case k__law_pick => k_is)
    (case a__law_many => k_is)
    (case l__law_many => k_is)
    (case c__law_many => k_is)
    (case k__law_many => k_is)
    (case a__law_name => k_is)
    (case l__law_name => k_is)
    (case c__law_name => k_is)
    (case k__law_name => k_is)
    (case a__law_names => k_is)
    (case l__law_names => k_is)
    (case c__law_names => k_is)
    (case k__law_names => k_is)
    (case a__law_shuffled => k_is)
    (case l__law_shuffled => k_is)
    (case c__law_shuffled => k_is)
    (case k__law_shuffled => k_is)
    (case a__law_free_rows => k_is)
    (case l__law_free_rows => k_is)
    (case c__law_free_rows => k_is)
    (case k__law_free_rows => k_is)
    (case a__law_moving_rows => k_is)
    (case l__law_moving_rows => k_is)
    (case c__law_moving_rows => k_is)
    (case k__law_moving_rows => k_is)
    (case a__law_stair_rows => k_is)
    (case l__law_stair_rows => k_is)
    (case c__law_stair_rows => k_is)
    (case k__law_stair_rows => k_is)
    (case a__law_exchange_rows => k_is)
    (case l__law_exchange_rows => k_is)
    (case c__law_exchange_rows => k_is)
    (case k__law_exchange_rows => k_is)
    (case a__law_tables => k_is)
    (case l__law_tables => k_is)
    (case c__law_tables => k_is)
    (case k__law_tables => k_is)
    (case a_is_list => k_is)
    (case l_is_list => k_is)
    (case c_is_list => k_is)
    (case k_is_list => k_is)
    (case a_is_whole => k_is)
    (case l_is_whole => k_is)
    (case c_is_whole => k_is)
    (case k_is_whole => k_is)
    (case a_is_counts => k_is)
    (case l_is_counts => k_is)
    (case c_is_counts => k_is)
    (case k_is_counts => k_is)
    (case a_is_rows => k_is)
    (case l_is_rows => k_is)
    (case c_is_rows => k_is)
    (case k_is_rows => k_is)
    (case a_Table_init => k_is)
    (case i_Table_init => k_is)
    (case l_Table_init => k_is)
    (case c_Table_init => k_is)
    (case k_Table_init => k_is)
    (case a_is_name => k_is)
    (case l_is_name => k_is)
    (case c_is_name => k_is)
    (case k_is_name => k_is)
    (case a_name_new => k_is)
    (case l_name_new => k_is)
    (case c_name_new => k_is)
    (case k_name_new => k_is)
    (case a_Book_init => k_is)
    (case i_Book_init => k_is)
    (case l_Book_init => k_is)
    (case c_Book_init => k_is)
    (case k_Book_init => k_is)
    (case a__law_book => k_is)
    (case l__law_book => k_is)
    (case c__law_book => k_is)
    (case k__law_book => k_is)
    (case a_supports_of => k_is)
    (case l_supports_of => k_is)
    (case c_supports_of => k_is)
    (case k_supports_of => k_is)
    (case a_Book_len => k_is)
    (case i_Book_len => k_is)
    (case l_Book_len => k_is)
    (case c_Book_len => k_is)
    (case k_Book_len => k_is)
    (case a_splits => k_is)
    (case l_splits => k_is)
    (case c_splits => k_is)
    (case k_splits => k_is)
    (case a_pair_steps => k_is)
    (case l_pair_steps => k_is)
    (case c_pair_steps => k_is)
    (case k_pair_steps => k_is)
    (case a_doublings_found => k_is)
    (case l_doublings_found => k_is)
    (case c_doublings_found => k_is)
    (case k_doublings_found => k_is)
    (case a_shortest_doubling => k_is)
    (case l_shortest_doubling => k_is)
    (case c_shortest_doubling => k_is)
    (case k_shortest_doubling => k_is)
    (case a_doubles => k_is)
    (case l_doubles => k_is)
    (case c_doubles => k_is)
    (case k_doubles => k_is)
    (case a_highest => k_is)
    (case l_highest => k_is)
    (case c_highest => k_is)
    (case k_highest => k_is)
    (case a_frozen => k_is)
    (case l_frozen => k_is)
    (case c_frozen => k_is)
    (case k_frozen => k_is)
    (case a_Heights_init => k_is)
    (case i_Heights_init => k_is)
    (case l_Heights_init => k_is)
    (case c_Heights_init => k_is)
    (case k_Heights_init => k_is)
    (case a_growth_verdict => k_is)
    (case l_growth_verdict => k_is)
    (case c_growth_verdict => k_is)
    (case k_growth_verdict => k_is)
    (case a_law => k_is)
    (case l_law => k_is)
    (case c_law => k_is)
    (case k_law => k_is)
    (case pg_Table => k_is)
    (case hd_Table => k_is)
    (case po_Table => k_is)
    (case sa_Table => k_is)
    (case mk_Table => k_is)
    (case kc_Table => k_is)
    (case na_Table_rows => k_is)
    (case na_Table_many => k_is)
    (case na_Table_kinds => k_is)
    (case na_Table_names => k_is)
    (case na_Table_tables => k_is)
    (case ha_Table => k_is)
    (case hm_Table => k_is)
    (case pg_Book => k_is)
    (case hd_Book => k_is)
    (case po_Book => k_is)
    (case sa_Book => k_is)
    (case mk_Book => k_is)
    (case kc_Book => k_is)
    (case na_Book_rows => k_is)
    (case na_Book_many => k_is)
    (case na_Book_kinds => k_is)
    (case na_Book_names => k_is)
    (case na_Book_tables => k_is)
    (case ha_Book => k_is)
    (case hm_Book => k_is)
    (case pg_Heights => k_is)
    (case hd_Heights => k_is)
    (case po_Heights => k_is)
    (case sa_Heights => k_is)
    (case mk_Heights => k_is)
    (case kc_Heights => k_is)
    (case na_Heights_rows => k_is)
    (case na_Heights_many => k_is)
    (case na_Heights_kinds => k_is)
    (case na_Heights_names => k_is)
    (case na_Heights_tables => k_is)
    (case ha_Heights => k_is)
    (case hm_Heights => k_is)
    (case hn => k_is)
    (case ht => k_is)
    (case ct_Table_int => kit_is)
    (case ct_Table_bool => kit_is)
    (case ct_Table_str => kit_is)
    (case ct_Table_tuple => kit_is)
    (case ct_Table_list => kit_is)
    (case ct_Table_dict => kit_is)
    (case tc_Table_NoneType => kit_is)
    (case tc_Table_int => kit_is)
    (case tc_Table_bool => kit_is)
    (case tc_Table_str => kit_is)
    (case tc_Table_tuple => kit_is)
    (case tc_Table_list => kit_is)
    (case tc_Table_dict => kit_is)
    (case cc_Table_Table => kit_is)
    (case cc_Table_Book => kit_is)
    (case cc_Table_Heights => kit_is)
    (case ct_Book_int => kit_is)
    (case ct_Book_bool => kit_is)
    (case ct_Book_str => kit_is)
    (case ct_Book_tuple => kit_is)
    (case ct_Book_list => kit_is)
    (case ct_Book_dict => kit_is)
    (case tc_Book_NoneType => kit_is)
    (case tc_Book_int => kit_is)
    (case tc_Book_bool => kit_is)
    (case tc_Book_str => kit_is)
    (case tc_Book_tuple => kit_is)
    (case tc_Book_list => kit_is)
    (case tc_Book_dict => kit_is)
    (case cc_Book_Table => kit_is)
    (case cc_Book_Book => kit_is)
    (case cc_Book_Heights => kit_is)
    (case ct_Heights_int => kit_is)
    (case ct_Heights_bool => kit_is)
    (case ct_Heights_str => kit_is)
    (case ct_Heights_tuple => kit_is)
    (case ct_Heights_list => kit_is)
    (case ct_Heights_dict => kit_is)
    (case tc_Heights_NoneType => kit_is)
    (case tc_Heights_int => kit_is)
    (case tc_Heights_bool => kit_is)
    (case tc_Heights_str => kit_is)
    (case tc_Heights_tuple => kit_is)
    (case tc_Heights_list => kit_is)
    (case tc_Heights_dict => kit_is)
    (case cc_Heights_Table => kit_is)
    (case cc_Heights_Book => kit_is)
    (case cc_Heights_Heights => kit_is)
    (case n_int => k_is)
    (case n_list => k_is)
    (case n_len => k_is)
    (case n_range => k_is)
    (case n_str => k_is)
    (case n_tuple => k_is)
    (case n_isinstance => k_is)
    (case n_all => k_is)
    (case n_bool => k_is)
    (case n_sorted => k_is)
    (case n_max => k_is)
    (case g_LETTERS => k_is)
    (case g_FIGURES => k_is)
    (case g_KEPT_WORDS => k_is)
    (case lg_KEPT_WORDS => k_is)
