import PyProof.Rows.All
import Wide.All
import OpenK.AllK
import Wide.FinOn
import HandS.ForMost
import HandS.Exc
import HandS.Defaults
import HandS.Wide
import HandS.Flow
import HandS.Iter
import HandS.Style
import HandS.IsInst
import HandS.SortInts
import HandS.More
import HandS.DictTup
import KE.SortData
import KE.KUnpackStar
import PyProof.ReprRoads
import HandS.Comp
import HandS.DictComp
import HandS.Words
import HandS.WordsExc
import HandS.Ends
import HandS.HeadEnd
import KE.SortLaws
import HandS.HeadHook1
import HandS.HeadHook2
import PySem.Challenge.RW_farmates_k13_fronts_go_their_own_way
import HandS.Keys
import KE.KStateDown
import HandS.Head0
import HandS.Head1
import HandS.Head2
set_option Elab.async false
set_option linter.all false
set_option maxRecDepth 100000
set_option maxHeartbeats 2000000
/-! FA: data-level layer over the hand layer: values D, their reading Rep off the frozen part F of the abstract heap, mutable cells M. -/
namespace FM
open PySem PySem.Spec L2

abbrev Frag := PySem.W.Frag
inductive D where
  | non | bl (b : Bool) | int (i : Int) | str (x : Str) | ref (a : Addr) | ty (n : String)
  | tup (xs : List D) | lst (xs : List D) | dic (kvs : List (Key × D)) | dit (kvs : List (List Key × D)) | set (ks : List Key) | scr (xs : List D)

structure Ctx where
  P : Program
  w : World
  K : Frag
abbrev cOf (X : Cx) : Ctx := ⟨X.prog, X.w, X.K⟩

/-- a tracked set of keys: the members of ks, no two alike -/
def SetHO (c : Ctx) (a : Addr) (ks : List Key) : HO := .ext fun h => ∃ S n, h.SetOf (mixKind c.P c.w) a S n ∧ n = ks.length ∧ ks.Nodup ∧ ∀ k, S k = ks.any fun j => decide (j = k)

section
variable (c : Ctx) (F : Hp)
mutual
inductive Rep : V → D → Prop
  | non : Rep .non .non
  | bl (b : Bool) : Rep (.bl b) (.bl b)
  | int (i : Int) : Rep (.int i) (.int i)
  | str (x : Str) : Rep (.str x) (.str x)
  | ref (a : Addr) : Rep (.ref a) (.ref a)
  | ty (n : String) : Rep (.ty n) (.ty n)
  | tup {a vs ds} : SqT c.K F a vs → Reps vs ds → Rep (.ref a) (.tup ds)
  | lst {a vs ds} : F a = some (.lst vs) → Reps vs ds → Rep (.ref a) (.lst ds)
  | dic {a o kvs ds} : F a = some (.frz o (.dK kvs)) → RepK kvs ds → Rep (.ref a) (.dic ds)
  | dit {a o kvs ds} : F a = some (.frz o (.dT kvs)) → RepT kvs ds → Rep (.ref a) (.dit ds)
  | set {a ks} : F a = some (SetHO c a ks) → Rep (.ref a) (.set ks)
  | scr {a vs ds} : SqL c.K F a vs → Reps vs ds → Rep (.ref a) (.scr ds)
inductive Reps : List V → List D → Prop
  | nil : Reps [] []
  | cons {v d vs ds} : Rep v d → Reps vs ds → Reps (v :: vs) (d :: ds)
inductive RepK : List (Key × V) → List (Key × D) → Prop
  | nil : RepK [] []
  | cons {k v d vs ds} : Rep v d → RepK vs ds → RepK ((k, v) :: vs) ((k, d) :: ds)
inductive RepT : List (List Key × V) → List (List Key × D) → Prop
  | nil : RepT [] []
  | cons {k v d vs ds} : Rep v d → RepT vs ds → RepT ((k, v) :: vs) ((k, d) :: ds)
end
inductive RepF : List (Str × V) → List (Str × D) → Prop
  | nil : RepF [] []
  | cons {k v d vs ds} : Rep c F v d → RepF vs ds → RepF ((k, v) :: vs) ((k, d) :: ds)
end

/-- the frozen part grows -/
def Le (F F' : Hp) : Prop := ∀ a o, F a = some o → F' a = some o
theorem Le.refl (F : Hp) : Le F F := fun _ _ h => h
theorem Le.trans {F G H : Hp} (a : Le F G) (b : Le G H) : Le F H := fun c o h => b c o (a c o h)
theorem Le.new {F : Hp} {p : Addr} {o : HO} (h : F p = none) : Le F (upd F p o) := fun a u e => by rw [upd_ne (ne_of_none e h)]; exact e

section
variable {c : Ctx} {F F' : Hp}
theorem Le.sqT {K : Frag} (e : Le F F') {a : Addr} {vs : List V} (h : SqT K F a vs) : SqT K F' a vs := by
  rcases h with (h | ⟨o, h⟩) | h
  · exact .inl (.inl (e _ _ h))
  · exact .inl (.inr ⟨o, e _ _ h⟩)
  · exact .inr h
theorem Le.sqL {K : Frag} (e : Le F F') {a : Addr} {vs : List V} (h : SqL K F a vs) : SqL K F' a vs := by
  rcases h with (h | ⟨o, h⟩) | h
  · exact .inl (.inl (e _ _ h))
  · exact .inl (.inr ⟨o, e _ _ h⟩)
  · exact .inr h
mutual
theorem Rep.mono (e : Le F F') : ∀ {d : D} {v : V}, Rep c F v d → Rep c F' v d
  | .non, _, h => by cases h; exact .non
  | .bl _, _, h => by cases h; exact .bl _
  | .int _, _, h => by cases h; exact .int _
  | .str _, _, h => by cases h; exact .str _
  | .ref _, _, h => by cases h; exact .ref _
  | .ty _, _, h => by cases h; exact .ty _
  | .tup ds, _, h => by cases h with | tup h1 h2 => exact .tup (e.sqT h1) (Reps.mono e h2)
  | .lst ds, _, h => by cases h with | lst h1 h2 => exact .lst (e _ _ h1) (Reps.mono e h2)
  | .dic ds, _, h => by cases h with | dic h1 h2 => exact .dic (e _ _ h1) (RepK.mono e h2)
  | .dit ds, _, h => by cases h with | dit h1 h2 => exact .dit (e _ _ h1) (RepT.mono e h2)
  | .set ks, _, h => by cases h with | set h1 => exact .set (e _ _ h1)
  | .scr ds, _, h => by cases h with | scr h1 h2 => exact .scr (e.sqL h1) (Reps.mono e h2)
theorem Reps.mono (e : Le F F') : ∀ {ds : List D} {vs : List V}, Reps c F vs ds → Reps c F' vs ds
  | [], _, h => by cases h; exact .nil
  | d :: ds, _, h => by cases h with | cons h1 h2 => exact .cons (Rep.mono e h1) (Reps.mono e h2)
theorem RepK.mono (e : Le F F') : ∀ {ds : List (Key × D)} {vs : List (Key × V)}, RepK c F vs ds → RepK c F' vs ds
  | [], _, h => by cases h; exact .nil
  | (k, d) :: ds, _, h => by cases h with | cons h1 h2 => exact .cons (Rep.mono e h1) (RepK.mono e h2)
theorem RepT.mono (e : Le F F') : ∀ {ds : List (List Key × D)} {vs : List (List Key × V)}, RepT c F vs ds → RepT c F' vs ds
  | [], _, h => by cases h; exact .nil
  | (k, d) :: ds, _, h => by cases h with | cons h1 h2 => exact .cons (Rep.mono e h1) (RepT.mono e h2)
end
theorem RepF.mono (e : Le F F') : ∀ {ds : List (Str × D)} {vs : List (Str × V)}, RepF c F vs ds → RepF c F' vs ds
  | [], _, h => by cases h; exact .nil
  | (k, d) :: ds, _, h => by cases h with | cons h1 h2 => exact .cons (h1.mono e) (RepF.mono e h2)
theorem Reps.length : ∀ {ds : List D} {vs : List V}, Reps c F vs ds → vs.length = ds.length
  | [], _, h => by cases h; rfl
  | d :: ds, _, h => by cases h with | cons h1 h2 => rw [List.length_cons, List.length_cons, Reps.length h2]
theorem Reps.get : ∀ {ds : List D} {vs : List V} {i : Nat} {d : D}, Reps c F vs ds → ds[i]? = some d → ∃ v, vs[i]? = some v ∧ Rep c F v d
  | [], _, _, _, _, e => by simp at e
  | d :: ds, _, 0, _, h, e => by
    cases h with | cons h1 h2 =>
    simp at e; subst e; exact ⟨_, rfl, h1⟩
  | d :: ds, _, i + 1, x, h, e => by
    cases h with | cons h1 h2 =>
    obtain ⟨v, e1, r⟩ := Reps.get (i := i) (d := x) h2 (by simpa using e)
    exact ⟨v, by simpa using e1, r⟩
theorem Reps.append : ∀ {ds es : List D} {vs us : List V}, Reps c F vs ds → Reps c F us es → Reps c F (vs ++ us) (ds ++ es)
  | [], _, _, _, h, h' => by cases h; exact h'
  | d :: ds, _, _, _, h, h' => by cases h with | cons h1 h2 => exact .cons h1 (Reps.append h2 h')
theorem Reps.set {v : V} {d : D} (r : Rep c F v d) : ∀ {ds : List D} {vs : List V} (i : Nat), Reps c F vs ds → Reps c F (vs.set i v) (ds.set i d)
  | [], _, _, h => by cases h; exact .nil
  | _ :: _, _, 0, h => by cases h with | cons _ h2 => exact .cons r h2
  | _ :: _, _, i + 1, h => by cases h with | cons h1 h2 => exact .cons h1 (Reps.set r i h2)
theorem Reps.take : ∀ {ds : List D} {vs : List V} (n : Nat), Reps c F vs ds → Reps c F (vs.take n) (ds.take n)
  | _, _, 0, _ => by rw [List.take_zero, List.take_zero]; exact .nil
  | [], _, _ + 1, h => by cases h; exact .nil
  | _ :: _, _, n + 1, h => by cases h with | cons h1 h2 => exact .cons h1 (Reps.take n h2)
theorem Reps.drop : ∀ {ds : List D} {vs : List V} (n : Nat), Reps c F vs ds → Reps c F (vs.drop n) (ds.drop n)
  | _, _, 0, h => h
  | [], _, _ + 1, h => by cases h; exact .nil
  | _ :: _, _, n + 1, h => by cases h with | cons _ h2 => exact Reps.drop n h2
theorem Reps.erase : ∀ {ds : List D} {vs : List V} (n : Nat), Reps c F vs ds → Reps c F (vs.eraseIdx n) (ds.eraseIdx n)
  | [], _, _, h => by cases h; exact .nil
  | _ :: _, _, 0, h => by cases h with | cons _ h2 => exact h2
  | _ :: _, _, i + 1, h => by cases h with | cons h1 h2 => exact .cons h1 (Reps.erase i h2)
theorem Reps.reverse : ∀ {ds : List D} {vs : List V}, Reps c F vs ds → Reps c F vs.reverse ds.reverse
  | [], _, h => by cases h; exact .nil
  | _ :: _, _, h => by
    cases h with | cons h1 h2 =>
    rw [List.reverse_cons, List.reverse_cons]
    exact (Reps.reverse h2).append (.cons h1 .nil)
/-- ints: the values themselves -/
theorem Reps.ints : ∀ {ns : List Int} {vs : List V}, Reps c F vs (ns.map D.int) → vs = ns.map V.int
  | [], _, h => by cases h; rfl
  | n :: ns, _, h => by
    cases h with | cons h1 h2 =>
    cases h1
    rw [Reps.ints h2]; rfl
theorem Reps.ofInts : ∀ (ns : List Int), Reps c F (ns.map V.int) (ns.map D.int)
  | [] => .nil
  | n :: ns => .cons (.int n) (Reps.ofInts ns)
theorem Reps.bls : ∀ {ns : List Bool} {vs : List V}, Reps c F vs (ns.map D.bl) → vs = ns.map V.bl
  | [], _, h => by cases h; rfl
  | n :: ns, _, h => by
    cases h with | cons h1 h2 =>
    cases h1
    rw [Reps.bls h2]; rfl
theorem Reps.strs : ∀ {ns : List Str} {vs : List V}, Reps c F vs (ns.map D.str) → vs = ns.map V.str
  | [], _, h => by cases h; rfl
  | n :: ns, _, h => by
    cases h with | cons h1 h2 =>
    cases h1
    rw [Reps.strs h2]; rfl
theorem Reps.ofStrs : ∀ (ns : List Str), Reps c F (ns.map V.str) (ns.map D.str)
  | [] => .nil
  | n :: ns => .cons (.str n) (Reps.ofStrs ns)
end

/-! ### mutable cells -/
inductive MO where
  | lst (xs : List D) | dic (kvs : List (Key × D)) | dit (kvs : List (List Key × D)) | ins (C : Addr) (fs : List (Str × D)) | lock (o : HO) (m : MO)
abbrev MH := Addr → Option MO
def updM (M : MH) (a : Addr) (m : MO) : MH := fun b => if b = a then some m else M b
def delM (M : MH) (a : Addr) : MH := fun b => if b = a then none else M b
theorem updM_same {M : MH} {a : Addr} {m : MO} : updM M a m a = some m := by unfold updM; rw [if_pos rfl]
theorem updM_ne {M : MH} {a b : Addr} {m : MO} (h : b ≠ a) : updM M a m b = M b := by unfold updM; rw [if_neg h]
theorem updM_updM {M : MH} {a : Addr} {m n : MO} : updM (updM M a m) a n = updM M a n := by
  funext b; unfold updM; split <;> rfl
theorem delM_same {M : MH} {a : Addr} : delM M a a = none := by unfold delM; rw [if_pos rfl]
theorem delM_ne {M : MH} {a b : Addr} (h : b ≠ a) : delM M a b = M b := by unfold delM; rw [if_neg h]
theorem delM_updM {M : MH} {a : Addr} {m : MO} (h : M a = none) : delM (updM M a m) a = M := by
  funext b; unfold delM updM; split
  · rename_i e; rw [e, h]
  · rfl
theorem updM_self {M : MH} {a : Addr} {m : MO} (h : M a = some m) : updM M a m = M := by
  funext b; unfold updM; split
  · rename_i e; rw [e, h]
  · rfl
theorem updM_comm {M : MH} {a b : Addr} {m n : MO} (h : a ≠ b) : updM (updM M a m) b n = updM (updM M b n) a m := by
  funext x; unfold updM; by_cases h1 : x = b
  · subst h1; rw [if_pos rfl, if_neg (Ne.symm h)]
    try rw [if_pos rfl]
  · rw [if_neg h1]
    by_cases h2 : x = a
    · rw [if_pos h2, if_pos h2]
    · rw [if_neg h2, if_neg h2, if_neg h1]
theorem neM {M : MH} {a b : Addr} {m : MO} (h : M a = some m) (h' : M b = none) : a ≠ b := fun e => by rw [e, h'] at h; cases h

inductive RepO (c : Ctx) (F : Hp) : HO → MO → Prop
  | lst {vs ds} : Reps c F vs ds → RepO c F (.lst vs) (.lst ds)
  | dic {vs ds} : RepK c F vs ds → RepO c F (.dK vs) (.dic ds)
  | dit {vs ds} : RepT c F vs ds → RepO c F (.dT vs) (.dit ds)
  | ins {C dx vs ds} : RepF c F vs ds → RepO c F (.ins C dx vs) (.ins C ds)
  | lock {ob o m} : RepO c F o m → RepO c F (.frz ob o) (.lock (.frz ob o) m)
theorem RepO.mono {c : Ctx} {F F' : Hp} (e : Le F F') {o : HO} {m : MO} (h : RepO c F o m) : RepO c F' o m := by
  induction h with
  | lst h => exact .lst (h.mono e)
  | dic h => exact .dic (h.mono e)
  | dit h => exact .dit (h.mono e)
  | ins h => exact .ins (h.mono e)
  | lock _ ih => exact .lock ih

/-- the abstract heap H: the frozen part F, the cells M -/
structure HS (c : Ctx) (F H : Hp) (M : MH) : Prop where
  sub : ∀ a o, F a = some o → H a = some o
  dis : ∀ a m, M a = some m → F a = none
  cel : ∀ a m, M a = some m → ∃ o, H a = some o ∧ RepO c F o m
section
variable {c : Ctx} {F F' H H' : Hp} {M M' : MH} {p : Addr} {o : HO} {m : MO}
theorem HS.fF (h : HS c F H M) (n : H p = none) : F p = none := by
  cases e : F p with
  | none => rfl
  | some o => have h' := h.sub p o e; rw [n] at h'; cases h'
theorem HS.fM (h : HS c F H M) (n : H p = none) : M p = none := by
  cases e : M p with
  | none => rfl
  | some m => obtain ⟨o', h', _⟩ := h.cel p m e; rw [n] at h'; cases h'
theorem HS.newF (h : HS c F H M) (n : H p = none) (o : HO) : Le F (upd F p o) ∧ HS c (upd F p o) (upd H p o) M := by
  have le : Le F (upd F p o) := Le.new (h.fF n)
  refine ⟨le, fun a u e => ?_, fun a m e => ?_, fun a m e => ?_⟩
  · by_cases hp : a = p
    · subst hp; rw [upd_same] at e; cases e; exact upd_same
    · rw [upd_ne hp] at e
      rw [upd_ne hp]; exact h.sub a u e
  · rw [upd_ne (neM e (h.fM n))]; exact h.dis a m e
  · obtain ⟨u, e1, r⟩ := h.cel a m e
    exact ⟨u, by rw [upd_ne (neM e (h.fM n))]; exact e1, r.mono le⟩
/-- an object that neither part tells is laid -/
theorem HS.newO (h : HS c F H M) (n : H p = none) (o : HO) : HS c F (upd H p o) M := by
  refine ⟨fun a u e => ?_, h.dis, fun a m e => ?_⟩
  · have hp : a ≠ p := ne_of_none e (h.fF n)
    rw [upd_ne hp]; exact h.sub a u e
  · obtain ⟨u, e1, r⟩ := h.cel a m e
    exact ⟨u, by rw [upd_ne (neM e (h.fM n))]; exact e1, r⟩
theorem HS.newM (h : HS c F H M) (n : H p = none) (r : RepO c F o m) : HS c F (upd H p o) (updM M p m) := by
  refine ⟨fun a u e => ?_, fun a m' e => ?_, fun a m' e => ?_⟩
  · have hp : a ≠ p := ne_of_none e (h.fF n)
    rw [upd_ne hp]; exact h.sub a u e
  · by_cases hp : a = p
    · subst hp; exact h.fF n
    · rw [updM_ne hp] at e; exact h.dis a m' e
  · by_cases hp : a = p
    · subst hp; rw [updM_same] at e; cases e; exact ⟨o, upd_same, r⟩
    · rw [updM_ne hp] at e
      obtain ⟨u, e1, r'⟩ := h.cel a m' e
      exact ⟨u, by rw [upd_ne hp]; exact e1, r'⟩
theorem HS.setM {m0 : MO} (h : HS c F H M) (hm : M p = some m0) (r : RepO c F o m) : HS c F (upd H p o) (updM M p m) := by
  refine ⟨fun a u e => ?_, fun a m' e => ?_, fun a m' e => ?_⟩
  · have hp : a ≠ p := ne_of_none e (h.dis p m0 hm)
    rw [upd_ne hp]; exact h.sub a u e
  · by_cases hp : a = p
    · subst hp; exact h.dis a m0 hm
    · rw [updM_ne hp] at e; exact h.dis a m' e
  · by_cases hp : a = p
    · subst hp; rw [updM_same] at e; cases e; exact ⟨o, upd_same, r⟩
    · rw [updM_ne hp] at e
      obtain ⟨u, e1, r'⟩ := h.cel a m' e
      exact ⟨u, by rw [upd_ne hp]; exact e1, r'⟩
/-- a cell is frozen for good -/
theorem HS.frz (h : HS c F H M) (hm : M p = some m) (ho : H p = some o) : Le F (upd F p o) ∧ HS c (upd F p o) H (delM M p) := by
  have le : Le F (upd F p o) := Le.new (h.dis p m hm)
  refine ⟨le, fun a u e => ?_, fun a m' e => ?_, fun a m' e => ?_⟩
  · by_cases hp : a = p
    · subst hp; rw [upd_same] at e; cases e; exact ho
    · rw [upd_ne hp] at e; exact h.sub a u e
  · by_cases hp : a = p
    · subst hp; rw [delM_same] at e; cases e
    · rw [delM_ne hp] at e; rw [upd_ne hp]; exact h.dis a m' e
  · by_cases hp : a = p
    · subst hp; rw [delM_same] at e; cases e
    · rw [delM_ne hp] at e
      obtain ⟨u, e1, r⟩ := h.cel a m' e
      exact ⟨u, e1, r.mono le⟩
/-- a cell is frozen for good, its object locked -/
theorem HS.frzL {od : Obj} (h : HS c F H M) (hm : M p = some m) : Le F (upd F p (.frz od o)) ∧ HS c (upd F p (.frz od o)) (upd H p (.frz od o)) (delM M p) := by
  have le : Le F (upd F p (.frz od o)) := Le.new (h.dis p m hm)
  refine ⟨le, fun a u e => ?_, fun a m' e => ?_, fun a m' e => ?_⟩
  · by_cases hp : a = p
    · subst hp; rw [upd_same] at e; cases e; exact upd_same
    · rw [upd_ne hp] at e ⊢; exact h.sub a u e
  · by_cases hp : a = p
    · subst hp; rw [delM_same] at e; cases e
    · rw [delM_ne hp] at e; rw [upd_ne hp]; exact h.dis a m' e
  · by_cases hp : a = p
    · subst hp; rw [delM_same] at e; cases e
    · rw [delM_ne hp] at e
      obtain ⟨u, e1, r⟩ := h.cel a m' e
      exact ⟨u, by rw [upd_ne hp]; exact e1, r.mono le⟩
/-- a cell is forgotten -/
theorem HS.drop (h : HS c F H M) (k : ∀ a m, M' a = some m → M a = some m) : HS c F H M' :=
  ⟨h.sub, fun a m e => h.dis a m (k a m e), fun a m e => h.cel a m (k a m e)⟩
end

/-! ### names' values -/
abbrev DSt := List (Option D)
noncomputable def slot (δ : DSt) (i : Nat) : Option D := List.rec (motive := fun _ => Nat → Option D) (fun _ => none) (fun x _ ih n => Nat.rec (motive := fun _ => Option D) x (fun m _ => ih m) n) δ i
noncomputable def put (δ : DSt) (i : Nat) (d : Option D) : DSt := List.rec (motive := fun _ => Nat → DSt) (fun _ => []) (fun x r ih n => Nat.rec (motive := fun _ => DSt) (d :: r) (fun m _ => x :: ih m) n) δ i
noncomputable def wipeD (δ : DSt) : List Nat → DSt
  | [] => δ
  | v :: vs => put (wipeD δ vs) v none
theorem slot_get : ∀ (δ : DSt) (i : Nat), slot δ i = (δ[i]?).join
  | [], _ => rfl
  | x :: r, 0 => by cases x <;> rfl
  | x :: r, n + 1 => by show slot r n = _; rw [slot_get r n]; simp
theorem put_set : ∀ (δ : DSt) (i : Nat) (d : Option D), put δ i d = δ.set i d
  | [], _, _ => rfl
  | x :: r, 0, _ => rfl
  | x :: r, n + 1, d => by show x :: put r n d = x :: r.set n d; rw [put_set r n d]
structure EnvR (c : Ctx) (F : Hp) (σ : St) (δ : DSt) : Prop where
  len : σ.length = δ.length
  at_ : ∀ i d, slot δ i = some d → ∃ v, σ[i]? = some (some v) ∧ Rep c F v d
section
variable {c : Ctx} {F F' : Hp} {σ : St} {δ : DSt}
theorem EnvR.mono (e : Le F F') (h : EnvR c F σ δ) : EnvR c F' σ δ := ⟨h.len, fun i d hi => let ⟨v, e1, r⟩ := h.at_ i d hi; ⟨v, e1, r.mono e⟩⟩
theorem slot_put_same {δ : DSt} {i : Nat} {d : Option D} {x : D} (h : slot (put δ i d) i = some x) : d = some x ∧ i < δ.length := by
  rw [slot_get, put_set] at h
  by_cases hl : i < δ.length
  · rw [List.getElem?_set_self hl] at h; exact ⟨h, hl⟩
  · rw [List.getElem?_eq_none (by simpa using hl)] at h; cases h
theorem slot_put_ne {δ : DSt} {i j : Nat} {d : Option D} (h : j ≠ i) : slot (put δ i d) j = slot δ j := by
  rw [slot_get, put_set, List.getElem?_set_ne (Ne.symm h), slot_get]
theorem EnvR.put (h : EnvR c F σ δ) (i : Nat) {v : V} {d : D} (r : Rep c F v d) : EnvR c F (σ.set i (some v)) (put δ i (some d)) := by
  refine ⟨by rw [put_set, List.length_set, List.length_set, h.len], fun j x hj => ?_⟩
  by_cases e : j = i
  · subst e
    obtain ⟨e1, hl⟩ := slot_put_same hj
    cases e1
    exact ⟨v, by rw [List.getElem?_set_self (by rw [h.len]; exact hl)], r⟩
  · rw [slot_put_ne e] at hj
    obtain ⟨u, e1, r'⟩ := h.at_ j x hj
    exact ⟨u, by rw [List.getElem?_set_ne (Ne.symm e)]; exact e1, r'⟩
theorem EnvR.unset (h : EnvR c F σ δ) (i : Nat) {o : Option V} : EnvR c F (σ.set i o) (FM.put δ i none) := by
  refine ⟨by rw [put_set, List.length_set, List.length_set, h.len], fun j x hj => ?_⟩
  by_cases e : j = i
  · subst e
    obtain ⟨e1, _⟩ := slot_put_same hj
    cases e1
  · rw [slot_put_ne e] at hj
    obtain ⟨u, e1, r'⟩ := h.at_ j x hj
    exact ⟨u, by rw [List.getElem?_set_ne (Ne.symm e)]; exact e1, r'⟩
theorem EnvR.wipe (h : EnvR c F σ δ) : ∀ vs : List Nat, EnvR c F (wipe σ vs) (wipeD δ vs)
  | [] => h
  | v :: vs => (EnvR.wipe h vs).unset v
/-- the frozen cell's name tells its data from now on -/
theorem EnvR.turn (h : EnvR c F σ δ) (i : Nat) {d e : D} (hd : slot δ i = some d) (k : ∀ v, Rep c F v d → Rep c F v e) : EnvR c F σ (FM.put δ i (some e)) := by
  refine ⟨by rw [put_set, List.length_set, h.len], fun j x hj => ?_⟩
  by_cases q : j = i
  · subst q
    obtain ⟨e1, _⟩ := slot_put_same hj
    cases e1
    obtain ⟨v, e2, r⟩ := h.at_ j d hd
    exact ⟨v, e2, k v r⟩
  · rw [slot_put_ne q] at hj
    exact h.at_ j x hj
end

/-! ### readings over data, and what they say of the hand layer's -/
abbrev DQ := D → MH → Prop
abbrev TDE := DSt → MH → DQ → Prop
abbrev TDT := DSt → MH → (Bool → MH → Prop) → Prop
abbrev TDA := DSt → MH → (List D → MH → Prop) → Prop
structure DEnds where
  nx : DSt → MH → Prop
  rt : DQ
  bk : DSt → MH → Prop
  ct : DSt → MH → Prop
abbrev TDS := DEnds → DSt → MH → Prop

def MonoE (τ : TDE) : Prop := ∀ δ M (Q Q' : DQ), (∀ d M', Q d M' → Q' d M') → τ δ M Q → τ δ M Q'
def MonoT (τ : TDT) : Prop := ∀ δ M (Q Q' : Bool → MH → Prop), (∀ d M', Q d M' → Q' d M') → τ δ M Q → τ δ M Q'
def MonoA (τ : TDA) : Prop := ∀ δ M (Q Q' : List D → MH → Prop), (∀ d M', Q d M' → Q' d M') → τ δ M Q → τ δ M Q'
structure DLe (D D' : DEnds) : Prop where
  nx : ∀ δ M, D.nx δ M → D'.nx δ M
  rt : ∀ d M, D.rt d M → D'.rt d M
  bk : ∀ δ M, D.bk δ M → D'.bk δ M
  ct : ∀ δ M, D.ct δ M → D'.ct δ M
def MonoS (τ : TDS) : Prop := ∀ D D' δ M, DLe D D' → τ D δ M → τ D' δ M

/-- what is wanted of a datum and the cells behind it, by what is wanted of a value and a heap -/
def dnE (c : Ctx) (F : Hp) (Q : VK) : DQ := fun d M' => ∀ v F' H', Le F F' → HS c F' H' M' → Rep c F' v d → Q v H'
def upE (c : Ctx) (B : Hp) (τ : TDE) : TE := fun σ H Q => ∃ F δ M, Le B F ∧ HS c F H M ∧ EnvR c F σ δ ∧ τ δ M (dnE c F Q)
def dnT (c : Ctx) (F : Hp) (Q : Bool → Hp → Prop) : Bool → MH → Prop := fun b M' => ∀ F' H', Le F F' → HS c F' H' M' → Q b H'
def upT (c : Ctx) (B : Hp) (τ : TDT) : TT := fun σ H Q => ∃ F δ M, Le B F ∧ HS c F H M ∧ EnvR c F σ δ ∧ τ δ M (dnT c F Q)
def dnA (c : Ctx) (F : Hp) (Q : List V → Hp → Prop) : List D → MH → Prop := fun ds M' => ∀ vs F' H', Le F F' → HS c F' H' M' → Reps c F' vs ds → Q vs H'
def upA (c : Ctx) (B : Hp) (τ : TDA) : TA := fun σ H Q => ∃ F δ M, Le B F ∧ HS c F H M ∧ EnvR c F σ δ ∧ τ δ M (dnA c F Q)
def dnN (c : Ctx) (F : Hp) (Q : St → Hp → Prop) : DSt → MH → Prop := fun δ M' => ∀ σ F' H', Le F F' → HS c F' H' M' → EnvR c F' σ δ → Q σ H'
def dnS (c : Ctx) (F : Hp) (D : Ends) : DEnds := ⟨dnN c F D.nx, dnE c F D.rt, dnN c F D.bk, dnN c F D.ct⟩
def upS (c : Ctx) (B : Hp) (τ : TDS) : TS := fun D σ H => ∃ F δ M, Le B F ∧ HS c F H M ∧ EnvR c F σ δ ∧ τ (dnS c F D) δ M

structure DE (X : Cx) (B : Hp) (e : Expr) (τ : TDE) : Prop where
  pe : PE X e (upE (cOf X) B τ)
  mono : MonoE τ
structure DT (X : Cx) (B : Hp) (e : Expr) (τ : TDT) : Prop where
  pt : PT X e (upT (cOf X) B τ)
  mono : MonoT τ
structure DW (X : Cx) (B : Hp) (e : Expr) (τ : TDT) : Prop where
  pw : PW X e (upT (cOf X) B τ)
  mono : MonoT τ
structure DA (X : Cx) (B : Hp) (es : List Expr) (τ : TDA) : Prop where
  pa : PA X es (upA (cOf X) B τ)
  mono : MonoA τ
structure DS (X : Cx) (B : Hp) (st : Stmt) (τ : TDS) : Prop where
  ps : PS X st (upS (cOf X) B τ)
  mono : MonoS τ
structure DSs (X : Cx) (B : Hp) (sts : List Stmt) (τ : TDS) : Prop where
  ps : PSs X sts (upS (cOf X) B τ)
  mono : MonoS τ

section
variable {c : Ctx} {B F F' : Hp} {σ : St} {H : Hp} {δ : DSt} {M : MH}
theorem dnE_le {Q : VK} (e : Le F F') : ∀ d M', dnE c F Q d M' → dnE c F' Q d M' := fun _ _ h v F2 H2 l => h v F2 H2 (e.trans l)
theorem dnN_le {Q : St → Hp → Prop} (e : Le F F') : ∀ d M', dnN c F Q d M' → dnN c F' Q d M' := fun _ _ h v F2 H2 l => h v F2 H2 (e.trans l)
theorem dnT_le {Q : Bool → Hp → Prop} (e : Le F F') : ∀ d M', dnT c F Q d M' → dnT c F' Q d M' := fun _ _ h F2 H2 l => h F2 H2 (e.trans l)
theorem dnA_le {Q : List V → Hp → Prop} (e : Le F F') : ∀ d M', dnA c F Q d M' → dnA c F' Q d M' := fun _ _ h v F2 H2 l => h v F2 H2 (e.trans l)
theorem dnS_le {D : Ends} (e : Le F F') : DLe (dnS c F D) (dnS c F' D) := ⟨dnN_le e, dnE_le e, dnN_le e, dnN_le e⟩
theorem DLe.refl (D : DEnds) : DLe D D := ⟨fun _ _ h => h, fun _ _ h => h, fun _ _ h => h, fun _ _ h => h⟩
/-- readings in a row -/
theorem upE_bind {τ : TDE} {κ : DQ} {Q : VK} (m : MonoE τ) (lb : Le B F) (hs : HS c F H M) (ev : EnvR c F σ δ) (h : τ δ M κ)
    (k : ∀ d M' v F' H', Le F F' → HS c F' H' M' → EnvR c F' σ δ → Rep c F' v d → κ d M' → Q v H') : upE c B τ σ H Q :=
  ⟨F, δ, M, lb, hs, ev, m _ _ _ _ (fun d M' q v F' H' l hs' r => k d M' v F' H' l hs' (ev.mono l) r q) h⟩
theorem upT_bind {τ : TDT} {κ : Bool → MH → Prop} {Q : Bool → Hp → Prop} (m : MonoT τ) (lb : Le B F) (hs : HS c F H M) (ev : EnvR c F σ δ) (h : τ δ M κ)
    (k : ∀ b M' F' H', Le F F' → HS c F' H' M' → EnvR c F' σ δ → κ b M' → Q b H') : upT c B τ σ H Q :=
  ⟨F, δ, M, lb, hs, ev, m _ _ _ _ (fun d M' q F' H' l hs' => k d M' F' H' l hs' (ev.mono l) q) h⟩
theorem upA_bind {τ : TDA} {κ : List D → MH → Prop} {Q : List V → Hp → Prop} (m : MonoA τ) (lb : Le B F) (hs : HS c F H M) (ev : EnvR c F σ δ) (h : τ δ M κ)
    (k : ∀ ds M' vs F' H', Le F F' → HS c F' H' M' → EnvR c F' σ δ → Reps c F' vs ds → κ ds M' → Q vs H') : upA c B τ σ H Q :=
  ⟨F, δ, M, lb, hs, ev, m _ _ _ _ (fun d M' q v F' H' l hs' r => k d M' v F' H' l hs' (ev.mono l) r q) h⟩
end

section
variable {X : Cx} {e : Expr} {st : Stmt} {sts : List Stmt}
theorem PE.imp {t t' : TE} (h : PE X e t) (k : ∀ σ H Q, t' σ H Q → t σ H Q) : PE X e t' := ⟨fun pins s σ H Q I q => h.run pins s σ H Q I (k σ H Q q)⟩
theorem PT.imp {t t' : TT} (h : PT X e t) (k : ∀ σ H Q, t' σ H Q → t σ H Q) : PT X e t' := ⟨fun pins s σ H Q I q => h.run pins s σ H Q I (k σ H Q q)⟩
theorem PW.imp {t t' : TT} (h : PW X e t) (k : ∀ σ H Q, t' σ H Q → t σ H Q) : PW X e t' := ⟨fun wh pins s σ H Q I q => h.run wh pins s σ H Q I (k σ H Q q)⟩
theorem PS.imp {t t' : TS} (h : PS X st t) (k : ∀ D σ H, t' D σ H → t D σ H) : PS X st t' := ⟨fun pins s σ H D I q => h.run pins s σ H D I (k D σ H q)⟩
theorem PSs.imp {t t' : TS} (h : PSs X sts t) (k : ∀ D σ H, t' D σ H → t D σ H) : PSs X sts t' := ⟨fun pins s σ H D I q => h.run pins s σ H D I (k D σ H q)⟩
theorem PA.imp {es : List Expr} {t t' : TA} (h : PA X es t) (k : ∀ σ H Q, t' σ H Q → t σ H Q) : PA X es t' := ⟨fun pos pins s σ H Q I q => h.run pos pins s σ H Q I (k σ H Q q)⟩
end
end FM

set_option Elab.async false
set_option linter.all false
set_option maxRecDepth 100000
set_option maxHeartbeats 2000000
/-! FB: expressions over data. -/
namespace FM
open PySem PySem.Spec L2

/-! ### small words -/
def oQ {α : Type} (o : Option α) (k : α → Prop) : Prop := match o with
  | some a => k a
  | none => False
theorem oQ_of {α : Type} {o : Option α} {k : α → Prop} {a : α} (h : o = some a) (q : k a) : oQ o k := by subst h; exact q
theorem oQ_get {α : Type} {o : Option α} {k : α → Prop} (h : oQ o k) : ∃ a, o = some a ∧ k a := by
  cases o with
  | none => exact h.elim
  | some a => exact ⟨a, rfl, h⟩
theorem oQ_mono {α : Type} {o : Option α} {k k' : α → Prop} (m : ∀ a, k a → k' a) (h : oQ o k) : oQ o k' := by
  cases o with
  | none => exact h
  | some a => exact m a h
def ifB (b : Bool) (p q : Prop) : Prop := (b = true → p) ∧ (b = false → q)
theorem ifB_t {p q : Prop} (h : p) : ifB true p q := ⟨fun _ => h, fun z => by cases z⟩
theorem ifB_f {p q : Prop} (h : q) : ifB false p q := ⟨fun z => (by cases z), fun _ => h⟩
theorem ifB_mono {b : Bool} {p q p' q' : Prop} (h1 : p → p') (h2 : q → q') (h : ifB b p q) : ifB b p' q' := ⟨fun e => h1 (h.1 e), fun e => h2 (h.2 e)⟩
theorem ifB_i {b : Bool} {p q : Prop} (h1 : b = true → p) (h2 : b = false → q) : ifB b p q := ⟨h1, h2⟩
def unlk : MO → MO
  | .lock _ m => m
  | m => m

def nth {α : Type} : List α → Nat → Option α
  | [], _ => none
  | x :: _, 0 => some x
  | _ :: r, n + 1 => nth r n
theorem nth_eq {α : Type} : ∀ (l : List α) (n : Nat), nth l n = l[n]?
  | [], _ => by simp [nth]
  | _ :: _, 0 => by simp [nth]
  | _ :: r, n + 1 => by simp [nth, nth_eq r n]
/-- where an index leads -/
def ixW (n : Nat) : Int → Option Nat
  | .ofNat k => if k < n then some k else none
  | .negSucc k => if k < n then some (n - 1 - k) else none
def ixD {α : Type} (xs : List α) : Int → Option α
  | .ofNat k => nth xs k
  | .negSucc k => if k < xs.length then nth xs (xs.length - 1 - k) else none
theorem ixD_at {α : Type} {xs : List α} {i : Int} {v : α} (h : ixD xs i = some v) : atI xs i = some v := by
  cases i with
  | ofNat k =>
    have h1 : nth xs k = some v := h
    rw [nth_eq] at h1
    exact atI_nat h1
  | negSucc k =>
    have h1 : (if k < xs.length then nth xs (xs.length - 1 - k) else none) = some v := h
    by_cases hk : k < xs.length
    · rw [if_pos hk, nth_eq] at h1
      unfold atI ixN
      rw [if_neg (by omega), if_pos (by omega)]
      have e : (Int.negSucc k + (xs.length : Int)).toNat = xs.length - 1 - k := by omega
      rw [Option.bind_some, e]; exact h1
    · rw [if_neg hk] at h1; cases h1
theorem ixD_nat {α : Type} {xs : List α} {n : Nat} {i : Int} (e : i = (n : Int)) : ixD xs i = xs[n]? := by
  subst e; show nth xs n = _; rw [nth_eq]
theorem ixD_ofNat {α : Type} {xs : List α} {i : Int} (h : 0 ≤ i) : ixD xs i = xs[i.toNat]? := ixD_nat (by omega)
theorem ixD_last {α : Type} (xs : List α) (v : α) : ixD (xs ++ [v]) (-1) = some v := by
  show (if 0 < (xs ++ [v]).length then nth (xs ++ [v]) ((xs ++ [v]).length - 1 - 0) else none) = _
  rw [if_pos (by simp), nth_eq]
  simp
def keyD : D → Option Key
  | .int i => some (.inl i)
  | .str x => some (.inr x)
  | _ => none
def keysD : List D → Option (List Key)
  | [] => some []
  | d :: ds => match keyD d, keysD ds with
    | some k, some ks => some (k :: ks)
    | _, _ => none
def keyT : D → Option (List Key)
  | .tup ds => keysD ds
  | _ => none
section
variable {κ : Type} [DecidableEq κ] {α : Type}
def valA (kvs : List (κ × α)) (k : κ) : Option α := (kvs.find? fun kv => decide (kv.1 = k)).map (·.2)
def putA (kvs : List (κ × α)) (k : κ) (v : α) : List (κ × α) :=
  if (kvs.any fun kv => decide (kv.1 = k)) then kvs.map fun kv => if kv.1 = k then (kv.1, v) else kv else kvs ++ [(k, v)]
def dropA (kvs : List (κ × α)) (k : κ) : List (κ × α) := kvs.filter fun kv => decide (kv.1 ≠ k)
end
theorem putK_eq {κ : Type} [DecidableEq κ] (kvs : List (κ × V)) (k : κ) (v : V) : putK kvs k v = putA kvs k v := rfl
theorem dropK_eq {κ : Type} [DecidableEq κ] (kvs : List (κ × V)) (k : κ) : dropK kvs k = dropA kvs k := rfl
section
variable {c : Ctx} {F : Hp}
theorem keyD_rep {d : D} {v : V} {k : Key} (h : Rep c F v d) (e : keyD d = some k) : v = kV k := by
  cases h <;> simp only [keyD] at e <;> cases e <;> rfl
theorem keysD_rep : ∀ {ds : List D} {vs : List V} {ks : List Key}, Reps c F vs ds → keysD ds = some ks → vs = ks.map kV
  | [], _, _, h, e => by cases h; cases e; rfl
  | d :: ds, _, _, h, e => by
    cases h with | cons h1 h2 =>
    unfold keysD at e
    cases e1 : keyD d with
    | none => rw [e1] at e; cases e
    | some k =>
      cases e2 : keysD ds with
      | none => rw [e1, e2] at e; cases e
      | some ks =>
        rw [e1, e2] at e; cases e
        rw [keyD_rep h1 e1, keysD_rep h2 e2]; rfl
theorem RepK.val : ∀ {ds : List (Key × D)} {vs : List (Key × V)} {k : Key} {d : D}, RepK c F vs ds → valA ds k = some d → ∃ v, valV vs k = some v ∧ Rep c F v d
  | [], _, _, _, _, e => by simp [valA] at e
  | (j, x) :: ds, _, k, d, h, e => by
    cases h with | cons h1 h2 =>
    by_cases q : j = k
    · subst q
      simp [valA] at e; subst e
      exact ⟨_, valV_pos rfl, h1⟩
    · have e' : valA ds k = some d := by simpa [valA, q] using e
      obtain ⟨v, e1, r⟩ := RepK.val h2 e'
      exact ⟨v, by rw [valV_neg q]; exact e1, r⟩
theorem RepK.val_none : ∀ {ds : List (Key × D)} {vs : List (Key × V)} {k : Key}, RepK c F vs ds → valA ds k = none → valV vs k = none
  | [], _, _, h, _ => by cases h; rfl
  | (j, x) :: ds, _, k, h, e => by
    cases h with | cons h1 h2 =>
    by_cases q : j = k
    · subst q; simp [valA] at e
    · rw [valV_neg q]; exact RepK.val_none h2 (by simpa [valA, q] using e)
theorem RepK.isSome {ds : List (Key × D)} {vs : List (Key × V)} (h : RepK c F vs ds) (k : Key) : (valV vs k).isSome = (valA ds k).isSome := by
  cases e : valA ds k with
  | none => rw [h.val_none e]; rfl
  | some d => obtain ⟨v, e1, _⟩ := h.val e; rw [e1]; rfl
theorem RepK.length : ∀ {ds : List (Key × D)} {vs : List (Key × V)}, RepK c F vs ds → vs.length = ds.length
  | [], _, h => by cases h; rfl
  | _ :: _, _, h => by cases h with | cons h1 h2 => rw [List.length_cons, List.length_cons, RepK.length h2]
theorem RepK.append : ∀ {ds es : List (Key × D)} {vs us : List (Key × V)}, RepK c F vs ds → RepK c F us es → RepK c F (vs ++ us) (ds ++ es)
  | [], _, _, _, h, h' => by cases h; exact h'
  | _ :: _, _, _, _, h, h' => by cases h with | cons h1 h2 => exact .cons h1 (RepK.append h2 h')
theorem RepK.any : ∀ {ds : List (Key × D)} {vs : List (Key × V)} (k : Key), RepK c F vs ds → (vs.any fun kv => decide (kv.1 = k)) = (ds.any fun kv => decide (kv.1 = k))
  | [], _, _, h => by cases h; rfl
  | _ :: _, _, k, h => by cases h with | cons h1 h2 => rw [List.any_cons, List.any_cons, RepK.any k h2]
theorem RepK.repl {k : Key} {v : V} {d : D} (r : Rep c F v d) : ∀ {ds : List (Key × D)} {vs : List (Key × V)}, RepK c F vs ds →
    RepK c F (vs.map fun kv => if kv.1 = k then (kv.1, v) else kv) (ds.map fun kv => if kv.1 = k then (kv.1, d) else kv)
  | [], _, h => by cases h; exact .nil
  | (j, x) :: ds, _, h => by
    cases h with | cons h1 h2 =>
    rw [List.map_cons, List.map_cons]
    by_cases q : j = k
    · rw [if_pos q, if_pos q]; exact .cons r (RepK.repl r h2)
    · rw [if_neg q, if_neg q]; exact .cons h1 (RepK.repl r h2)
theorem RepK.put {ds : List (Key × D)} {vs : List (Key × V)} (h : RepK c F vs ds) (k : Key) {v : V} {d : D} (r : Rep c F v d) : RepK c F (putA vs k v) (putA ds k d) := by
  unfold putA
  rw [h.any k]
  by_cases q : (ds.any fun kv => decide (kv.1 = k)) = true
  · rw [if_pos q, if_pos q]; exact h.repl r
  · rw [if_neg q, if_neg q]; exact h.append (.cons r .nil)
theorem RepK.drop {k : Key} : ∀ {ds : List (Key × D)} {vs : List (Key × V)}, RepK c F vs ds → RepK c F (dropA vs k) (dropA ds k)
  | [], _, h => by cases h; exact .nil
  | (j, x) :: ds, _, h => by
    cases h with | cons h1 h2 =>
    unfold dropA
    by_cases q : j = k
    · rw [List.filter_cons, List.filter_cons, if_neg (by simp [q]), if_neg (by simp [q])]; exact RepK.drop h2
    · rw [List.filter_cons, List.filter_cons, if_pos (by simp [q]), if_pos (by simp [q])]; exact .cons h1 (RepK.drop h2)
theorem RepT.val : ∀ {ds : List (List Key × D)} {vs : List (List Key × V)} {k : List Key} {d : D}, RepT c F vs ds → valA ds k = some d → ∃ v, valV vs k = some v ∧ Rep c F v d
  | [], _, _, _, _, e => by simp [valA] at e
  | (j, x) :: ds, _, k, d, h, e => by
    cases h with | cons h1 h2 =>
    by_cases q : j = k
    · subst q
      simp [valA] at e; subst e
      exact ⟨_, valV_pos rfl, h1⟩
    · have e' : valA ds k = some d := by simpa [valA, q] using e
      obtain ⟨v, e1, r⟩ := RepT.val h2 e'
      exact ⟨v, by rw [valV_neg q]; exact e1, r⟩
theorem RepF.look : ∀ {ds : List (Str × D)} {vs : List (Str × V)} {k : Str} {d : D}, RepF c F vs ds → ds.lookup k = some d → ∃ v, vs.lookup k = some v ∧ Rep c F v d
  | [], _, _, _, _, e => by simp at e
  | (j, x) :: ds, _, k, d, h, e => by
    cases h with | cons h1 h2 =>
    rw [List.lookup_cons] at e ⊢
    cases q : k == j with
    | true => rw [q] at e; cases e; exact ⟨_, rfl, h1⟩
    | false => rw [q] at e; exact RepF.look h2 e
def putFD (f : Str) (d : D) : List (Str × D) → List (Str × D)
  | [] => [(f, d)]
  | (g, x) :: r => if g = f then (g, d) :: r else (g, x) :: putFD f d r
theorem RepF.put {f : Str} {v : V} {d : D} (r : Rep c F v d) : ∀ {ds : List (Str × D)} {vs : List (Str × V)}, RepF c F vs ds → RepF c F (putF f v vs) (putFD f d ds)
  | [], _, h => by cases h; exact .cons r .nil
  | (g, x) :: ds, _, h => by
    cases h with | cons h1 h2 =>
    rw [show putF f v ((g, _) :: _) = (if g = f then (g, v) :: _ else (g, _) :: putF f v _) from rfl, show putFD f d ((g, x) :: ds) = (if g = f then (g, d) :: ds else (g, x) :: putFD f d ds) from rfl]
    by_cases q : g = f
    · rw [if_pos q, if_pos q]; exact .cons r h2
    · rw [if_neg q, if_neg q]; exact .cons h1 (RepF.put r h2)
theorem RepF.length : ∀ {ds : List (Str × D)} {vs : List (Str × V)}, RepF c F vs ds → vs.length = ds.length
  | [], _, h => by cases h; rfl
  | _ :: _, _, h => by cases h with | cons h1 h2 => rw [List.length_cons, List.length_cons, RepF.length h2]
theorem RepF.none : ∀ {ds : List (Str × D)} {vs : List (Str × V)} {k : Str}, RepF c F vs ds → ds.lookup k = none → vs.lookup k = none
  | [], _, _, h, _ => by cases h; rfl
  | (j, x) :: ds, _, k, h, e => by
    cases h with | cons h1 h2 =>
    rw [List.lookup_cons] at e ⊢
    cases q : k == j with
    | true => rw [q] at e; cases e
    | false => rw [q] at e; exact RepF.none h2 e
end

/-! ### names, constants -/
def dVar (i : Nat) : TDE := fun δ M Q => oQ (slot δ i) fun d => Q d M
def dC (d : D) : TDE := fun _ M Q => Q d M
/-- the cell that a datum names is frozen -/
def frzD (d : D) (M : MH) (Q : DQ) : Prop := match d with
  | .ref p => oQ (M p) fun m => match m with
    | .lst xs => Q (.lst xs) (delM M p)
    | .dic ks => Q (.dic ks) (delM M p)
    | .dit ks => Q (.dit ks) (delM M p)
    | _ => False
  | _ => False
def dFrz (τ : TDE) : TDE := fun δ M Q => τ δ M fun d M' => frzD d M' Q
section
variable {X : Cx} {B : Hp}
theorem de_var {i : Nat} {x : Str} {pos : Pos} (hN : X.N[i]? = some x) (hv : Vis X.env.scope x) (hd : (x == ("__debug__" : Str)) = false := by decide) (hcd : (x == ("__classdict__" : Str)) = false := by decide) : DE X B (.Name x pos) (dVar i) := by
  refine ⟨PE.imp (pe_var hN hv hd hcd) fun σ H Q h => ?_, fun δ M Q Q' k h => oQ_mono (fun d q => k d M q) h⟩
  obtain ⟨F, δ, M, lb, hs, ev, q⟩ := h
  obtain ⟨d, e, q⟩ := oQ_get q
  obtain ⟨v, e1, r⟩ := ev.at_ i d e
  exact ⟨v, e1, q v F H (Le.refl F) hs r⟩
theorem dvar (i : Nat) {x : Str} {pos : Pos} (hN : X.N[i]? = some x := by rfl) (hv : Vis X.env.scope x := by first | exact Or.inl rfl | exact Or.inr (Or.inl rfl) | exact Or.inr (Or.inr rfl)) (hd : (x == ("__debug__" : Str)) = false := by decide)
    (hcd : (x == ("__classdict__" : Str)) = false := by decide) : DE X B (.Name x pos) (dVar i) := de_var hN hv hd hcd
theorem de_c {e : Expr} {v : V} {d : D} (h : PE X e (tC v)) (r : ∀ F, Rep (cOf X) F v d) : DE X B e (dC d) :=
  ⟨PE.imp h fun σ H Q ⟨F, δ, M, lb, hs, ev, q⟩ => q v F H (Le.refl F) hs (r F), fun _ _ _ _ k h => k _ _ h⟩
theorem de_int {i j pos} : DE X B (.Constant (.int i) j pos) (dC (.int i)) := de_c pe_int fun _ => .int i
theorem de_bl {b j pos} : DE X B (.Constant (.bool b) j pos) (dC (.bl b)) := de_c pe_bl fun _ => .bl b
theorem de_non {j pos} : DE X B (.Constant .none j pos) (dC .non) := de_c pe_non fun _ => .non
theorem de_str {x j pos} : DE X B (.Constant (.str x) j pos) (dC (.str x)) := de_c pe_str fun _ => .str x
theorem de_glob {x : Str} {v : V} {u : Value} {d : D} {pos : Pos} (hg : Gl X x) (hm : X.mg x = some u) (r : RelV v u) (rd : ∀ F, Rep (cOf X) F v d) (hd : (x == ("__debug__" : Str)) = false := by decide) : DE X B (.Name x pos) (dC d) :=
  de_c (pe_glob hg hm r hd) rd
theorem de_bltn {x : Str} {v : V} {u : Value} {d : D} {pos : Pos} (hg : Gl X x) (hm : X.mg x = none) (hv : bootBuiltins x = some u) (r : RelV v u) (rd : ∀ F, Rep (cOf X) F v d) (hn : x ≠ "__name__" := by decide) (hd : (x == ("__debug__" : Str)) = false := by decide) : DE X B (.Name x pos) (dC d) :=
  de_c (pe_bltn hg hm hv r hn hd) rd
/-- behind the value a cell may be locked -/
theorem PE.locked {e : Expr} {t : TE} (h : PE X e t) : PE X e (fun σ H Q => t σ H fun v H1 => Q v H1 ∨ ∃ d u, H1 d = some u ∧ Mut (some u) ∧ ∀ od, Q v (upd H1 d (.frz od u))) := by
  refine ⟨fun pins s σ H Q I hq => ?_⟩
  refine thn (h.run pins s σ H _ I hq) fun v s1 ⟨x, H1, I1, r1, q1⟩ => ?_
  rcases q1 with q1 | ⟨d, u, hd, mu, q1⟩
  · exact ⟨x, H1, I1, r1, q1⟩
  · obtain ⟨od, I2⟩ := I1.lock hd mu
    exact ⟨x, _, I2, r1, q1 od⟩
theorem PS.locked {st : Stmt} {t : TS} (h : PS X st t) : PS X st (fun D σ H => t D σ H ∨ ∃ d u, H d = some u ∧ Mut (some u) ∧ ∀ od, t D σ (upd H d (.frz od u))) := by
  refine ⟨fun pins s σ H D I hq => ?_⟩
  rcases hq with q1 | ⟨d, u, hd, mu, q1⟩
  · exact h.run pins s σ H D I q1
  · obtain ⟨od, I2⟩ := I.lock hd mu
    exact h.run pins s σ _ D I2 (q1 od)
theorem de_frz {e : Expr} {τ : TDE} (h : DE X B e τ) : DE X B e (dFrz τ) := by
  refine ⟨PE.imp (PE.locked h.pe) fun σ H Q hq => ?_, fun δ M Q Q' k hq => h.mono _ _ _ _ (fun d M' q => ?_) hq⟩
  · obtain ⟨F, δ, M, lb, hs, ev, q⟩ := hq
    refine upE_bind h.mono lb hs ev q fun d M' v F1 H1 l hs1 ev1 r q1 => ?_
    cases d with
    | ref p =>
      cases r
      obtain ⟨m, em, q1⟩ := oQ_get q1
      obtain ⟨o, eo, ro⟩ := hs1.cel p m em
      cases m with
      | lst xs =>
        obtain ⟨l2, hs2⟩ := hs1.frz em eo
        cases ro with | lst ro =>
        exact .inl (q1 _ _ _ (l.trans l2) hs2 (.lst upd_same (ro.mono l2)))
      | dic xs =>
        cases ro with | dic ro =>
        refine .inr ⟨p, _, eo, trivial, fun od => ?_⟩
        obtain ⟨l2, hs2⟩ := hs1.frzL (od := od) (o := .dK _) em
        exact q1 _ _ _ (l.trans l2) hs2 (.dic upd_same (ro.mono l2))
      | dit xs =>
        cases ro with | dit ro =>
        refine .inr ⟨p, _, eo, trivial, fun od => ?_⟩
        obtain ⟨l2, hs2⟩ := hs1.frzL (od := od) (o := .dT _) em
        exact q1 _ _ _ (l.trans l2) hs2 (.dit upd_same (ro.mono l2))
      | _ => exact q1.elim
    | _ => exact (show False from q1).elim
  · cases d with
    | ref p =>
      refine oQ_mono (fun m q => ?_) q
      cases m <;> first | exact k _ _ q | exact q.elim
    | _ => exact q

/-! ### operations by values -/
abbrev RD := D → D → MH → DQ → Prop
def up2 (c : Ctx) (r : RD) : R2 := fun x y H Q => ∃ F M dx dy, HS c F H M ∧ Rep c F x dx ∧ Rep c F y dy ∧ r dx dy M (dnE c F Q)
def Mono2 (r : RD) : Prop := ∀ x y M (Q Q' : DQ), (∀ d M', Q d M' → Q' d M') → r x y M Q → r x y M Q'
structure DOp (X : Cx) (f : Value → Value → Sem Value) (r : RD) : Prop where
  op : OpR X f (up2 (cOf X) r)
  mono : Mono2 r
def dOp (r : RD) (τa τb : TDE) : TDE := fun δ M Q => τa δ M fun x M1 => τb δ M1 fun y M2 => r x y M2 Q
theorem mono_op {r : RD} {τa τb : TDE} (mr : Mono2 r) (ma : MonoE τa) (mb : MonoE τb) : MonoE (dOp r τa τb) := fun δ M Q Q' k h =>
  ma _ _ _ _ (fun x M1 h1 => mb _ _ _ _ (fun y M2 h2 => mr _ _ _ _ _ k h2) h1) h
theorem up_op {r : RD} {τa τb : TDE} {c : Ctx} (mr : Mono2 r) (ma : MonoE τa) (mb : MonoE τb) {σ : L2.St} {H : Hp} {Q : VK} (h : upE c B (dOp r τa τb) σ H Q) : tOp (up2 c r) (upE c B τa) (upE c B τb) σ H Q := by
  obtain ⟨F, δ, M, lb, hs, ev, q⟩ := h
  refine upE_bind ma lb hs ev q fun dx M1 x F1 H1 l1 hs1 ev1 rx q1 => ?_
  refine upE_bind mb (lb.trans l1) hs1 ev1 q1 fun dy M2 y F2 H2 l2 hs2 ev2 ry q2 => ?_
  exact ⟨F2, M2, dx, dy, hs2, rx.mono l2, ry, mr _ _ _ _ _ (dnE_le (l1.trans l2)) q2⟩
variable {a b e : Expr} {τa τb τ : TDE} {pos : Pos}
theorem de_op {op : Operator} {r : RD} (ho : DOp X (binaryOp op) r) (ha : DE X B a τa) (hb : DE X B b τb) : DE X B (.BinOp a op b pos) (dOp r τa τb) :=
  ⟨PE.imp (pe_op ho.op ha.pe hb.pe) fun _ _ _ h => up_op ho.mono ha.mono hb.mono h, mono_op ho.mono ha.mono hb.mono⟩
theorem de_cmp {op : CmpOp} {r : RD} (ho : DOp X (compareOp op) r) (ha : DE X B a τa) (hb : DE X B b τb) (hm : behindInMarks op b = false := by first | exact nomark _ | rfl) : DE X B (.Compare a [op] [b] pos) (dOp r τa τb) :=
  ⟨PE.imp (pe_cmpR ho.op ha.pe hb.pe hm) fun _ _ _ h => up_op ho.mono ha.mono hb.mono h, mono_op ho.mono ha.mono hb.mono⟩
/-- a bool as a test -/
def dB (τ : TDE) : TDT := fun δ M Q => τ δ M fun d M' => match d with
  | .bl b => Q b M'
  | _ => False
theorem mono_B {τ : TDE} (m : MonoE τ) : MonoT (dB τ) := fun δ M Q Q' k h => m _ _ _ _ (fun d M' q => by
  cases d <;> first | exact k _ _ q | exact q) h
theorem up_B {τ : TDE} {c : Ctx} (m : MonoE τ) {σ : L2.St} {H : Hp} {Q : Bool → Hp → Prop} (h : upT c B (dB τ) σ H Q) : upE c B τ σ H fun x H1 => ∃ k, x = .bl k ∧ Q k H1 := by
  obtain ⟨F, δ, M, lb, hs, ev, q⟩ := h
  refine upE_bind m lb hs ev q fun d M1 x F1 H1 l1 hs1 ev1 rx q1 => ?_
  cases d with
  | bl k => cases rx; exact ⟨k, rfl, q1 F1 H1 l1 hs1⟩
  | _ => exact (show False from q1).elim
theorem dt_cmp {op : CmpOp} {r : RD} (ho : DOp X (compareOp op) r) (ha : DE X B a τa) (hb : DE X B b τb) (hm : behindInMarks op b = false := by first | exact nomark _ | rfl) : DT X B (.Compare a [op] [b] pos) (dB (dOp r τa τb)) := by
  have mo := mono_op ho.mono ha.mono hb.mono
  refine ⟨PT.imp (pt_cmpR ho.op ha.pe hb.pe hm) fun σ H Q h => ?_, mono_B mo⟩
  have h2 := up_B mo h
  exact up_op ho.mono ha.mono hb.mono h2
theorem dt_val (h : DE X B e τ) (he : ∀ whole, isTrue e X.env whole = (do let v ← whole; standAt e.pos; holding [v] (truthy v)) := by intro _; rfl) : DT X B e (dB τ) :=
  ⟨PT.imp (pt_val h.pe he) fun σ H Q hq => up_B h.mono hq, mono_B h.mono⟩
/-- a op b op' c -/
def dChain (r r' : RD) (τa τb τc : TDE) : TDE := fun δ M Q => τa δ M fun x M1 => τb δ M1 fun y M2 => r x y M2 fun z M3 => match z with
  | .bl k => ifB k (τc δ M3 fun w M4 => r' y w M4 Q) (Q (.bl false) M3)
  | _ => False
theorem mono_chain {r r' : RD} {τa τb τc : TDE} (mr : Mono2 r) (mr' : Mono2 r') (ma : MonoE τa) (mb : MonoE τb) (mc : MonoE τc) : MonoE (dChain r r' τa τb τc) := fun δ M Q Q' k h =>
  ma _ _ _ _ (fun x M1 h1 => mb _ _ _ _ (fun y M2 h2 => mr _ _ _ _ _ (fun z M3 h3 => by
    cases z with
    | bl b => exact ifB_mono (fun h4 => mc _ _ _ _ (fun w M4 h5 => mr' _ _ _ _ _ k h5) h4) (k _ _) h3
    | _ => exact h3) h2) h1) h
theorem up_chain {r r' : RD} {τa τb τc : TDE} {c : Ctx} (mr : Mono2 r) (mr' : Mono2 r') (ma : MonoE τa) (mb : MonoE τb) (mc : MonoE τc) {σ : L2.St} {H : Hp} {Q : VK} (h : upE c B (dChain r r' τa τb τc) σ H Q) :
    tChain (up2 c r) (up2 c r') (upE c B τa) (upE c B τb) (upE c B τc) σ H Q := by
  obtain ⟨F, δ, M, lb, hs, ev, q⟩ := h
  refine upE_bind ma lb hs ev q fun dx M1 x F1 H1 l1 hs1 ev1 rx q1 => ?_
  refine upE_bind mb (lb.trans l1) hs1 ev1 q1 fun dy M2 y F2 H2 l2 hs2 ev2 ry q2 => ?_
  refine ⟨F2, M2, dx, dy, hs2, rx.mono l2, ry, mr _ _ _ _ _ (fun z M3 q3 => ?_) q2⟩
  intro zv F3 H3 l3 hs3 rz
  cases z with
  | bl k =>
    cases rz
    refine ⟨k, rfl, ?_⟩
    cases k with
    | true =>
      rw [if_pos rfl]
      refine upE_bind mc (lb.trans ((l1.trans l2).trans l3)) hs3 (ev2.mono l3) (q3.1 rfl) fun dw M4 w F4 H4 l4 hs4 ev4 rw' q4 => ?_
      exact ⟨F4, M4, dy, dw, hs4, ry.mono (l3.trans l4), rw', mr' _ _ _ _ _ (dnE_le (((l1.trans l2).trans l3).trans l4)) q4⟩
    | false =>
      rw [if_neg Bool.false_ne_true]
      exact q3.2 rfl _ _ _ ((l1.trans l2).trans l3) hs3 (.bl false)
  | _ => exact (show False from q3).elim
theorem de_chain {cc : Expr} {τc : TDE} {op op' : CmpOp} {r r' : RD} (ho : DOp X (compareOp op) r) (ho' : DOp X (compareOp op') r') (ha : DE X B a τa) (hb : DE X B b τb) (hc : DE X B cc τc) (hm : lastMarks [op, op'] [b, cc] = false := by with_unfolding_all rfl) :
    DE X B (.Compare a [op, op'] [b, cc] pos) (dChain r r' τa τb τc) :=
  ⟨PE.imp (pe_chain ho.op ho'.op ha.pe hb.pe hc.pe hm) fun _ _ _ h => up_chain ho.mono ho'.mono ha.mono hb.mono hc.mono h, mono_chain ho.mono ho'.mono ha.mono hb.mono hc.mono⟩
theorem dt_chain {cc : Expr} {τc : TDE} {op op' : CmpOp} {r r' : RD} (ho : DOp X (compareOp op) r) (ho' : DOp X (compareOp op') r') (ha : DE X B a τa) (hb : DE X B b τb) (hc : DE X B cc τc) (hm : lastMarks [op, op'] [b, cc] = false := by with_unfolding_all rfl) :
    DT X B (.Compare a [op, op'] [b, cc] pos) (dB (dChain r r' τa τb τc)) := by
  have mo := mono_chain ho.mono ho'.mono ha.mono hb.mono hc.mono
  refine ⟨PT.imp (pt_chain ho.op ho'.op ha.pe hb.pe hc.pe hm) fun σ H Q h => ?_, mono_B mo⟩
  exact up_chain ho.mono ho'.mono ha.mono hb.mono hc.mono (up_B mo h)

/-! ### and, or, not, if -/
variable {ρ ρ' : TDT} {rest : List Expr}
def dAnd (t u : TDT) : TDT := fun δ M Q => t δ M fun b M1 => ifB b (u δ M1 Q) (Q false M1)
def dOr (t u : TDT) : TDT := fun δ M Q => t δ M fun b M1 => ifB b (Q true M1) (u δ M1 Q)
def dNot (t : TDT) : TDT := fun δ M Q => t δ M fun b M1 => Q (!b) M1
theorem mono_and (m : MonoT ρ) (m' : MonoT ρ') : MonoT (dAnd ρ ρ') := fun δ M Q Q' k h => m _ _ _ _ (fun b M1 h1 => ifB_mono (m' _ _ _ _ k) (k _ _) h1) h
theorem mono_or (m : MonoT ρ) (m' : MonoT ρ') : MonoT (dOr ρ ρ') := fun δ M Q Q' k h => m _ _ _ _ (fun b M1 h1 => ifB_mono (k _ _) (m' _ _ _ _ k) h1) h
theorem mono_not (m : MonoT ρ) : MonoT (dNot ρ) := fun δ M Q Q' k h => m _ _ _ _ (fun b M1 h1 => k _ _ h1) h
theorem dw_and1 (ha : DT X B a ρ) : DW X B (.BoolOp .And [a] pos) ρ := ⟨pw_and1 ha.pt, ha.mono⟩
theorem dw_or1 (ha : DT X B a ρ) : DW X B (.BoolOp .Or [a] pos) ρ := ⟨pw_or1 ha.pt, ha.mono⟩
theorem dw_and (ha : DT X B a ρ) (hb : DW X B (.BoolOp .And (b :: rest) pos) ρ') : DW X B (.BoolOp .And (a :: b :: rest) pos) (dAnd ρ ρ') := by
  refine ⟨PW.imp (pw_and ha.pt hb.pw) fun σ H Q h => ?_, mono_and ha.mono hb.mono⟩
  obtain ⟨F, δ, M, lb, hs, ev, q⟩ := h
  refine upT_bind ha.mono lb hs ev q fun k M1 F1 H1 l1 hs1 ev1 q1 => ?_
  cases k with
  | true => rw [if_pos rfl]; exact ⟨F1, δ, M1, lb.trans l1, hs1, ev1, hb.mono _ _ _ _ (dnT_le l1) (q1.1 rfl)⟩
  | false => rw [if_neg Bool.false_ne_true]; exact q1.2 rfl F1 H1 l1 hs1
theorem dw_or (ha : DT X B a ρ) (hb : DW X B (.BoolOp .Or (b :: rest) pos) ρ') : DW X B (.BoolOp .Or (a :: b :: rest) pos) (dOr ρ ρ') := by
  refine ⟨PW.imp (pw_or ha.pt hb.pw) fun σ H Q h => ?_, mono_or ha.mono hb.mono⟩
  obtain ⟨F, δ, M, lb, hs, ev, q⟩ := h
  refine upT_bind ha.mono lb hs ev q fun k M1 F1 H1 l1 hs1 ev1 q1 => ?_
  cases k with
  | true => rw [if_pos rfl]; exact q1.1 rfl F1 H1 l1 hs1
  | false => rw [if_neg Bool.false_ne_true]; exact ⟨F1, δ, M1, lb.trans l1, hs1, ev1, hb.mono _ _ _ _ (dnT_le l1) (q1.2 rfl)⟩
theorem DW.dt (h : DW X B e ρ) : DT X B e ρ := ⟨h.pw.pt, h.mono⟩
theorem dt_not (ha : DT X B a ρ) : DT X B (.UnaryOp .Not a pos) (dNot ρ) := by
  refine ⟨PT.imp (pt_not ha.pt) fun σ H Q h => ?_, mono_not ha.mono⟩
  obtain ⟨F, δ, M, lb, hs, ev, q⟩ := h
  exact upT_bind ha.mono lb hs ev q fun k M1 F1 H1 l1 hs1 ev1 q1 => q1 F1 H1 l1 hs1
/-- .. as values -/
def dAndV (τa τb : TDE) : TDE := fun δ M Q => τa δ M fun x M1 => match x with
  | .bl k => ifB k (τb δ M1 Q) (Q (.bl false) M1)
  | _ => False
def dOrV (τa τb : TDE) : TDE := fun δ M Q => τa δ M fun x M1 => match x with
  | .bl k => ifB k (Q (.bl true) M1) (τb δ M1 Q)
  | _ => False
def dNotV (τa : TDE) : TDE := fun δ M Q => τa δ M fun x M1 => match x with
  | .bl k => Q (.bl (!k)) M1
  | _ => False
theorem mono_andV (m : MonoE τa) (m' : MonoE τb) : MonoE (dAndV τa τb) := fun δ M Q Q' k h => m _ _ _ _ (fun x M1 h1 => by
  cases x with
  | bl b => exact ifB_mono (m' _ _ _ _ k) (k _ _) h1
  | _ => exact h1) h
theorem mono_orV (m : MonoE τa) (m' : MonoE τb) : MonoE (dOrV τa τb) := fun δ M Q Q' k h => m _ _ _ _ (fun x M1 h1 => by
  cases x with
  | bl b => exact ifB_mono (k _ _) (m' _ _ _ _ k) h1
  | _ => exact h1) h
theorem mono_notV (m : MonoE τa) : MonoE (dNotV τa) := fun δ M Q Q' k h => m _ _ _ _ (fun x M1 h1 => by
  cases x with
  | bl b => exact k _ _ h1
  | _ => exact h1) h
theorem de_one {op} (h : DE X B a τ) : DE X B (.BoolOp op [a] pos) τ := ⟨pe_one h.pe, h.mono⟩
theorem de_and (ha : DE X B a τa) (hb : DE X B (.BoolOp .And (b :: rest) pos) τb) : DE X B (.BoolOp .And (a :: b :: rest) pos) (dAndV τa τb) := by
  refine ⟨PE.imp (pe_and ha.pe hb.pe) fun σ H Q h => ?_, mono_andV ha.mono hb.mono⟩
  obtain ⟨F, δ, M, lb, hs, ev, q⟩ := h
  refine upE_bind ha.mono lb hs ev q fun d M1 v F1 H1 l1 hs1 ev1 r q1 => ?_
  cases d with
  | bl k =>
    cases r
    refine ⟨k, rfl, ?_⟩
    cases k with
    | true => rw [if_pos rfl]; exact ⟨F1, δ, M1, lb.trans l1, hs1, ev1, hb.mono _ _ _ _ (dnE_le l1) (q1.1 rfl)⟩
    | false => rw [if_neg Bool.false_ne_true]; exact q1.2 rfl _ F1 H1 l1 hs1 (.bl false)
  | _ => exact (show False from q1).elim
theorem de_or (ha : DE X B a τa) (hb : DE X B (.BoolOp .Or (b :: rest) pos) τb) : DE X B (.BoolOp .Or (a :: b :: rest) pos) (dOrV τa τb) := by
  refine ⟨PE.imp (pe_or ha.pe hb.pe) fun σ H Q h => ?_, mono_orV ha.mono hb.mono⟩
  obtain ⟨F, δ, M, lb, hs, ev, q⟩ := h
  refine upE_bind ha.mono lb hs ev q fun d M1 v F1 H1 l1 hs1 ev1 r q1 => ?_
  cases d with
  | bl k =>
    cases r
    refine ⟨k, rfl, ?_⟩
    cases k with
    | true => rw [if_pos rfl]; exact q1.1 rfl _ F1 H1 l1 hs1 (.bl true)
    | false => rw [if_neg Bool.false_ne_true]; exact ⟨F1, δ, M1, lb.trans l1, hs1, ev1, hb.mono _ _ _ _ (dnE_le l1) (q1.2 rfl)⟩
  | _ => exact (show False from q1).elim
theorem de_not (ha : DE X B a τa) : DE X B (.UnaryOp .Not a pos) (dNotV τa) := by
  refine ⟨PE.imp (pe_not ha.pe) fun σ H Q h => ?_, mono_notV ha.mono⟩
  obtain ⟨F, δ, M, lb, hs, ev, q⟩ := h
  refine upE_bind ha.mono lb hs ev q fun d M1 v F1 H1 l1 hs1 ev1 r q1 => ?_
  cases d with
  | bl k => cases r; exact ⟨k, rfl, q1 _ F1 H1 l1 hs1 (.bl _)⟩
  | _ => exact (show False from q1).elim
def dIf (t : TDT) (τa τb : TDE) : TDE := fun δ M Q => t δ M fun b M1 => ifB b (τa δ M1 Q) (τb δ M1 Q)
theorem de_if {cc : Expr} (hc : DT X B cc ρ) (ha : DE X B a τa) (hb : DE X B b τb) : DE X B (.IfExp cc a b pos) (dIf ρ τa τb) := by
  refine ⟨PE.imp (pe_ifExp hc.pt ha.pe hb.pe) fun σ H Q h => ?_, fun δ M Q Q' k h => hc.mono _ _ _ _ (fun d M1 h1 => ifB_mono (ha.mono _ _ _ _ k) (hb.mono _ _ _ _ k) h1) h⟩
  obtain ⟨F, δ, M, lb, hs, ev, q⟩ := h
  refine upT_bind hc.mono lb hs ev q fun k M1 F1 H1 l1 hs1 ev1 q1 => ?_
  cases k with
  | true => rw [if_pos rfl]; exact ⟨F1, δ, M1, lb.trans l1, hs1, ev1, ha.mono _ _ _ _ (dnE_le l1) (q1.1 rfl)⟩
  | false => rw [if_neg Bool.false_ne_true]; exact ⟨F1, δ, M1, lb.trans l1, hs1, ev1, hb.mono _ _ _ _ (dnE_le l1) (q1.2 rfl)⟩

/-! ### one-place operations -/
abbrev RD1 := D → MH → DQ → Prop
def up1 (c : Ctx) (r : RD1) : V → Hp → VK → Prop := fun x H Q => ∃ F M dx, HS c F H M ∧ Rep c F x dx ∧ r dx M (dnE c F Q)
def dUn (r : RD1) (τ : TDE) : TDE := fun δ M Q => τ δ M fun x M1 => r x M1 Q
def Mono1 (r : RD1) : Prop := ∀ x M (Q Q' : DQ), (∀ d M', Q d M' → Q' d M') → r x M Q → r x M Q'
def negR : RD1 := fun d M Q => match d with
  | .int i => Q (.int (-i)) M
  | _ => False
theorem de_neg (ha : DE X B a τa) : DE X B (.UnaryOp .USub a pos) (dUn negR τa) := by
  refine ⟨PE.imp (pe_un un_neg ha.pe) fun σ H Q h => ?_, fun δ M Q Q' k h => ha.mono _ _ _ _ (fun x M1 h1 => by cases x <;> first | exact k _ _ h1 | exact h1) h⟩
  obtain ⟨F, δ, M, lb, hs, ev, q⟩ := h
  refine upE_bind ha.mono lb hs ev q fun d M1 v F1 H1 l1 hs1 ev1 r q1 => ?_
  cases d with
  | int i => cases r; exact ⟨i, rfl, q1 _ F1 H1 l1 hs1 (.int _)⟩
  | _ => exact (show False from q1).elim

/-! ### arguments -/
def dNil : TDA := fun _ M Q => Q [] M
def dCons (τ : TDE) (τs : TDA) : TDA := fun δ M Q => τ δ M fun x M1 => τs δ M1 fun xs M2 => Q (x :: xs) M2
theorem da_nil : DA X B [] dNil := ⟨PA.imp pa_nil fun σ H Q ⟨F, δ, M, lb, hs, ev, q⟩ => q [] F H (Le.refl F) hs .nil, fun _ _ _ _ k h => k _ _ h⟩
theorem da_cons {es : List Expr} {τs : TDA} (he : DE X B e τ) (hr : DA X B es τs) (hst : starEach (e :: es) X.env = (false, eval e X.env) :: starEach es X.env := by rfl) : DA X B (e :: es) (dCons τ τs) := by
  refine ⟨PA.imp (pa_cons he.pe hr.pa hst) fun σ H Q h => ?_, fun δ M Q Q' k h => he.mono _ _ _ _ (fun x M1 h1 => hr.mono _ _ _ _ (fun xs M2 h2 => k _ _ h2) h1) h⟩
  obtain ⟨F, δ, M, lb, hs, ev, q⟩ := h
  refine upE_bind he.mono lb hs ev q fun d M1 v F1 H1 l1 hs1 ev1 r q1 => ?_
  exact upA_bind hr.mono (lb.trans l1) hs1 ev1 q1 fun ds M2 vs F2 H2 l2 hs2 ev2 rs q2 => q2 _ F2 H2 (l1.trans l2) hs2 (.cons (r.mono l2) rs)

/-! ### displays -/
def dTup (τ : TDA) : TDE := fun δ M Q => τ δ M fun ds M1 => ds.length ≤ sizeLine ∧ Q (.tup ds) M1
def dLst (τ : TDA) : TDE := fun δ M Q => τ δ M fun ds M1 => ds.length ≤ sizeLine ∧ Q (.lst ds) M1
/-- a list that is a cell -/
def dLstM (τ : TDA) : TDE := fun δ M Q => τ δ M fun ds M1 => ds.length ≤ sizeLine ∧ ∀ p, M1 p = none → Q (.ref p) (updM M1 p (.lst ds))
theorem de_tup {es : List Expr} {τs : TDA} {x1} (h : DA X B es τs) : DE X B (.Tuple es x1 pos) (dTup τs) := by
  refine ⟨PE.imp (pe_tup h.pa) fun σ H Q hq => ?_, fun δ M Q Q' k hq => h.mono _ _ _ _ (fun x M1 h1 => ⟨h1.1, k _ _ h1.2⟩) hq⟩
  obtain ⟨F, δ, M, lb, hs, ev, q⟩ := hq
  refine upA_bind h.mono lb hs ev q fun ds M1 vs F1 H1 l1 hs1 ev1 rs q1 => ⟨by rw [rs.length]; exact q1.1, fun p hp => ?_⟩
  obtain ⟨l2, hs2⟩ := hs1.newF hp (.tup vs)
  exact q1.2 _ _ _ (l1.trans l2) hs2 (.tup (SqT.of upd_same) (rs.mono l2))
theorem de_lst {es : List Expr} {τs : TDA} (h : DA X B es τs) : DE X B (.List es pos) (dLst τs) := by
  refine ⟨PE.imp (pe_lst h.pa) fun σ H Q hq => ?_, fun δ M Q Q' k hq => h.mono _ _ _ _ (fun x M1 h1 => ⟨h1.1, k _ _ h1.2⟩) hq⟩
  obtain ⟨F, δ, M, lb, hs, ev, q⟩ := hq
  refine upA_bind h.mono lb hs ev q fun ds M1 vs F1 H1 l1 hs1 ev1 rs q1 => ⟨by rw [rs.length]; exact q1.1, fun p hp => ?_⟩
  obtain ⟨l2, hs2⟩ := hs1.newF hp (.lst vs)
  exact q1.2 _ _ _ (l1.trans l2) hs2 (.lst upd_same (rs.mono l2))
theorem de_lstM {es : List Expr} {τs : TDA} (h : DA X B es τs) : DE X B (.List es pos) (dLstM τs) := by
  refine ⟨PE.imp (pe_lst h.pa) fun σ H Q hq => ?_, fun δ M Q Q' k hq => h.mono _ _ _ _ (fun x M1 h1 => ⟨h1.1, fun p hp => k _ _ (h1.2 p hp)⟩) hq⟩
  obtain ⟨F, δ, M, lb, hs, ev, q⟩ := hq
  refine upA_bind h.mono lb hs ev q fun ds M1 vs F1 H1 l1 hs1 ev1 rs q1 => ⟨by rw [rs.length]; exact q1.1, fun p hp => ?_⟩
  exact q1.2 p (hs1.fM hp) _ _ _ l1 (hs1.newM hp (.lst rs)) (.ref p)
end
end FM

set_option Elab.async false
set_option linter.all false
set_option maxRecDepth 100000
set_option maxHeartbeats 2000000
/-! FC: the operators over data. -/
namespace FM
open PySem PySem.Spec L2
open PyProof.Rows hiding St

/-! ### data as the library's data -/
mutual
def pd : D → Option PyData
  | .non => some .none
  | .bl b => some (.bool b)
  | .int i => some (.int i)
  | .str x => some (.str x)
  | .tup ds => (pds ds).map .tuple
  | .lst ds => (pds ds).map .list
  | _ => none
def pds : List D → Option (List PyData)
  | [] => some []
  | d :: ds => (pd d).bind fun x => (pds ds).map fun xs => x :: xs
end
section
variable {c : Ctx} {F H : Hp} {M : MH}
theorem HS.sqT (hs : HS c F H M) {a : Addr} {vs : List V} (h : SqT c.K F a vs) : SqT c.K H a vs := by
  rcases h with (h | ⟨o, h⟩) | h
  · exact .inl (.inl (hs.sub a _ h))
  · exact .inl (.inr ⟨o, hs.sub a _ h⟩)
  · exact .inr h
theorem HS.sqL' (hs : HS c F H M) {a : Addr} {vs : List V} (h : SqL c.K F a vs) : SqL c.K H a vs := by
  rcases h with (h | ⟨o, h⟩) | h
  · exact .inl (.inl (hs.sub a _ h))
  · exact .inl (.inr ⟨o, hs.sub a _ h⟩)
  · exact .inr h
theorem HS.lst (hs : HS c F H M) {a : Addr} {vs : List V} (h : F a = some (.lst vs)) : H a = some (.lst vs) := hs.sub a _ h
theorem HS.sqL (hs : HS c F H M) {a : Addr} {vs : List V} (h : F a = some (.lst vs)) : SqL c.K H a vs := SqL.of (hs.lst h)
theorem HS.dK (hs : HS c F H M) {a : Addr} {o : Obj} {kvs : List (Key × V)} (h : F a = some (.frz o (.dK kvs))) : Rd H a (.dK kvs) := .inr ⟨o, hs.sub a _ h⟩
mutual
theorem dp_of (hs : HS c F H M) : ∀ {d : D} {v : V} {p : PyData}, Rep c F v d → pd d = some p → Dp c.K H v p
  | .non, _, _, h, e => by cases h; cases e; exact .non
  | .bl b, _, _, h, e => by cases h; cases e; exact .bl b
  | .int i, _, _, h, e => by cases h; cases e; exact .int i
  | .str x, _, _, h, e => by cases h; cases e; exact .str x
  | .ref _, _, _, _, e => by cases e
  | .ty _, _, _, _, e => by cases e
  | .tup ds, _, _, h, e => by
    cases h with | tup h1 h2 =>
    have e' : (pds ds).map PyData.tuple = some _ := e
    obtain ⟨ps, e1, e2⟩ := Option.map_eq_some_iff.mp e'
    subst e2
    exact .tup (hs.sqT h1) (dps_of hs h2 e1)
  | .lst ds, _, _, h, e => by
    cases h with | lst h1 h2 =>
    have e' : (pds ds).map PyData.list = some _ := e
    obtain ⟨ps, e1, e2⟩ := Option.map_eq_some_iff.mp e'
    subst e2
    exact .lst (hs.sqL h1) (dps_of hs h2 e1)
  | .dic _, _, _, _, e => by cases e
  | .dit _, _, _, _, e => by cases e
  | .set _, _, _, _, e => by cases e
  | .scr _, _, _, _, e => by cases e
theorem dps_of (hs : HS c F H M) : ∀ {ds : List D} {vs : List V} {ps : List PyData}, Reps c F vs ds → pds ds = some ps → DpAll c.K H vs ps
  | [], _, _, h, e => by cases h; cases e; exact .nil
  | d :: ds, _, _, h, e => by
    cases h with | cons h1 h2 =>
    have e' : ((pd d).bind fun x => (pds ds).map fun xs => x :: xs) = some _ := e
    obtain ⟨x, e1, e2⟩ := Option.bind_eq_some_iff.mp e'
    obtain ⟨xs, e3, e4⟩ := Option.map_eq_some_iff.mp e2
    subst e4
    exact .cons (dp_of hs h1 e1) (dps_of hs h2 e3)
end
/-- a list cell, as data -/
def see (M : MH) : D → D
  | .ref p => match (M p).map unlk with
    | some (.lst xs) => .lst xs
    | _ => .ref p
  | d => d
theorem HS.celL (hs : HS c F H M) {p : Addr} {xs : List D} (h : M p = some (.lst xs)) : ∃ vs, H p = some (.lst vs) ∧ Reps c F vs xs := by
  obtain ⟨o, e, r⟩ := hs.cel p _ h
  cases r with | lst r => exact ⟨_, e, r⟩
theorem HS.celLk (hs : HS c F H M) {p : Addr} {xs : List D} (h : (M p).map unlk = some (.lst xs)) : ∃ vs, SqL c.K H p vs ∧ Reps c F vs xs := by
  cases e : M p with
  | none => rw [e] at h; cases h
  | some m =>
    rw [e] at h
    have h' : unlk m = .lst xs := Option.some.inj h
    obtain ⟨o, eo, r⟩ := hs.cel p m e
    cases r with
    | lst r => have h'' : MO.lst _ = .lst xs := h'; cases h''; exact ⟨_, SqL.of eo, r⟩
    | lock r =>
      have h'' : _ = MO.lst xs := h'
      subst h''
      cases r with | lst r => exact ⟨_, .inl (.inr ⟨_, eo⟩), r⟩
    | dic _ => cases (show MO.dic _ = .lst xs from h')
    | dit _ => cases (show MO.dit _ = .lst xs from h')
    | ins _ => cases (show MO.ins _ _ = .lst xs from h')
theorem HS.celD (hs : HS c F H M) {p : Addr} {ks : List (Key × D)} (h : M p = some (.dic ks)) : ∃ vs, H p = some (.dK vs) ∧ RepK c F vs ks := by
  obtain ⟨o, e, r⟩ := hs.cel p _ h
  cases r with | dic r => exact ⟨_, e, r⟩
theorem HS.celDk (hs : HS c F H M) {p : Addr} {ks : List (Key × D)} (h : (M p).map unlk = some (.dic ks)) : ∃ vs, Rd H p (.dK vs) ∧ RepK c F vs ks := by
  cases e : M p with
  | none => rw [e] at h; cases h
  | some m =>
    rw [e] at h
    have h' : unlk m = .dic ks := Option.some.inj h
    obtain ⟨o, eo, r⟩ := hs.cel p m e
    cases r with
    | dic r => have h'' : MO.dic _ = .dic ks := h'; cases h''; exact ⟨_, .inl eo, r⟩
    | lock r =>
      have h'' : _ = MO.dic ks := h'
      subst h''
      cases r with | dic r => exact ⟨_, .inr ⟨_, eo⟩, r⟩
    | lst _ => cases (show MO.lst _ = .dic ks from h')
    | dit _ => cases (show MO.dit _ = .dic ks from h')
    | ins _ => cases (show MO.ins _ _ = .dic ks from h')
theorem HS.celT (hs : HS c F H M) {p : Addr} {ks : List (List Key × D)} (h : M p = some (.dit ks)) : ∃ vs, H p = some (.dT vs) ∧ RepT c F vs ks := by
  obtain ⟨o, e, r⟩ := hs.cel p _ h
  cases r with | dit r => exact ⟨_, e, r⟩
theorem HS.celI (hs : HS c F H M) {p C : Addr} {fs : List (Str × D)} (h : M p = some (.ins C fs)) : ∃ dx vs, H p = some (.ins C dx vs) ∧ RepF c F vs fs := by
  obtain ⟨o, e, r⟩ := hs.cel p _ h
  cases r with | ins r => exact ⟨_, _, e, r⟩
/-- what a datum may be read as: a list, whatever it is -/
theorem dp_see (hs : HS c F H M) {d : D} {v : V} {p : PyData} (h : Rep c F v d) (e : pd (see M d) = some p) : Dp c.K H v p := by
  cases d with
  | ref a =>
    cases h
    have e : pd (match (M a).map unlk with
      | some (.lst xs) => .lst xs
      | _ => .ref a) = some p := e
    cases q : (M a).map unlk with
    | none => rw [q] at e; cases e
    | some m =>
      rw [q] at e
      cases m with
      | lst xs =>
        have e' : (pds xs).map PyData.list = some p := e
        obtain ⟨ps, e1, e2⟩ := Option.map_eq_some_iff.mp e'
        subst e2
        obtain ⟨vs, sl, r⟩ := hs.celLk q
        exact .lst sl (dps_of hs r e1)
      | _ => cases e
  | _ => exact dp_of hs h e
end

section
variable {X : Cx} {B : Hp}
theorem dop_of {f : Value → Value → Sem Value} {r0 : R2} {r : RD} (h : OpR X f r0) (m : Mono2 r) (k : ∀ x y H Q, up2 (cOf X) r x y H Q → r0 x y H Q) : DOp X f r :=
  ⟨fun pins s σ H x y v u Q I rx ry q => h pins s σ H x y v u Q I rx ry (k x y H Q q), m⟩

/-! ### arithmetic -/
def addR : RD := fun x y M Q => match x, y with
  | .int i, .int j => Q (.int (i + j)) M
  | .str i, .str j => i.length + j.length ≤ sizeLine ∧ Q (.str (i ++ j)) M
  | .lst a, .lst b => a.length + b.length ≤ sizeLine ∧ Q (.lst (a ++ b)) M
  | .tup a, .tup b => a ≠ [] ∧ b ≠ [] ∧ a.length + b.length ≤ sizeLine ∧ Q (.tup (a ++ b)) M
  | _, _ => False
theorem Reps.ne {c : Ctx} {F : Hp} {vs : List V} {ds : List D} (r : Reps c F vs ds) (h : ds ≠ []) : vs ≠ [] := fun e => by
  subst e; cases r; exact h rfl
theorem dop_add : DOp X (binaryOp .Add) addR := by
  refine dop_of ((op_add (X := X)).or ((op_add_str (X := X)).or ((op_cat (X := X)).or (op_catT (X := X))))) ?_ ?_
  · intro x y M Q Q' k h
    cases x <;> cases y <;> first
      | exact h.elim
      | exact k _ _ h
      | exact ⟨h.1, k _ _ h.2⟩
      | exact ⟨h.1, h.2.1, h.2.2.1, k _ _ h.2.2.2⟩
  · rintro x y H Q ⟨F, M, dx, dy, hs, rx, ry, q⟩
    cases rx with
    | int i =>
      cases ry with
      | int j => exact .inl ⟨i, j, rfl, rfl, q _ _ _ (Le.refl F) hs (.int _)⟩
      | _ => exact (show False from q).elim
    | str i =>
      cases ry with
      | str j => exact .inr (.inl ⟨i, j, rfl, rfl, q.1, q.2 _ _ _ (Le.refl F) hs (.str _)⟩)
      | _ => exact (show False from q).elim
    | lst h1 h2 =>
      cases ry with
      | lst k1 k2 =>
        refine .inr (.inr (.inl ⟨_, _, _, _, rfl, rfl, hs.lst h1, hs.lst k1, by rw [h2.length, k2.length]; exact q.1, fun p hp => ?_⟩))
        obtain ⟨l, hs'⟩ := hs.newF hp (.lst (_ ++ _))
        exact q.2 _ _ _ l hs' (.lst upd_same ((h2.append k2).mono l))
      | _ => exact (show False from q).elim
    | tup h1 h2 =>
      cases ry with
      | tup k1 k2 =>
        obtain ⟨q1, q2, q3, q4⟩ := q
        refine .inr (.inr (.inr ⟨_, _, _, _, rfl, rfl, hs.sqT h1, hs.sqT k1, h2.ne q1, by rw [h2.length, k2.length]; exact q3, fun z => absurd z (k2.ne q2), fun _ p hp => ?_⟩))
        obtain ⟨l, hs'⟩ := hs.newF hp (.tup (_ ++ _))
        exact q4 _ _ _ l hs' (.tup (SqT.of upd_same) ((h2.append k2).mono l))
      | _ => exact (show False from q).elim
    | _ => exact (show False from q).elim
/-- two ints, under C -/
def intR (C : Int → Int → Prop) (g : Int → Int → D) : RD := fun x y M Q => match x, y with
  | .int i, .int j => C i j ∧ Q (g i j) M
  | _, _ => False
def intR0 (g : Int → Int → D) : RD := fun x y M Q => match x, y with
  | .int i, .int j => Q (g i j) M
  | _, _ => False
theorem mono_intR {C : Int → Int → Prop} {g : Int → Int → D} : Mono2 (intR C g) := by
  intro x y M Q Q' k h
  cases x <;> cases y <;> first
    | exact h.elim
    | exact ⟨h.1, k _ _ h.2⟩
theorem mono_intR0 {g : Int → Int → D} : Mono2 (intR0 g) := by
  intro x y M Q Q' k h
  cases x <;> cases y <;> first
    | exact h.elim
    | exact k _ _ h
theorem dop_int {f : Value → Value → Sem Value} {C : Int → Int → Prop} {g : Int → Int → V} {g' : Int → Int → D} (h : OpR X f (rI C g)) (hg : ∀ F i j, Rep (cOf X) F (g i j) (g' i j)) : DOp X f (intR C g') := by
  refine dop_of h mono_intR ?_
  rintro x y H Q ⟨F, M, dx, dy, hs, rx, ry, q⟩
  cases rx with
  | int i =>
    cases ry with
    | int j => exact ⟨i, j, rfl, rfl, q.1, q.2 _ _ _ (Le.refl F) hs (hg F i j)⟩
    | _ => exact (show False from q).elim
  | _ => exact (show False from q).elim
theorem dop_int0 {f : Value → Value → Sem Value} {g : Int → Int → V} {g' : Int → Int → D} (h : OpR X f (rI0 g)) (hg : ∀ F i j, Rep (cOf X) F (g i j) (g' i j)) : DOp X f (intR0 g') := by
  refine dop_of h mono_intR0 ?_
  rintro x y H Q ⟨F, M, dx, dy, hs, rx, ry, q⟩
  cases rx with
  | int i =>
    cases ry with
    | int j => exact ⟨i, j, rfl, rfl, q _ _ _ (Le.refl F) hs (hg F i j)⟩
    | _ => exact (show False from q).elim
  | _ => exact (show False from q).elim
abbrev subR : RD := intR0 fun i j => .int (i - j)
abbrev mulR : RD := intR CMul fun i j => .int (i * j)
abbrev divR : RD := intR CDivW fun i j => .int (i / j)
abbrev modR : RD := intR (fun _ j => 0 < j) fun i j => .int (i % j)
abbrev powR : RD := intR CPow fun i j => .int (i ^ j.toNat)
abbrev xorR : RD := intR0 fun i j => .int (Builtin.bitXor i j)
theorem dop_sub : DOp X (binaryOp .Sub) subR := dop_int0 op_sub fun _ _ _ => .int _
theorem dop_mul : DOp X (binaryOp .Mult) mulR := dop_int op_mul fun _ _ _ => .int _
theorem dop_div : DOp X (binaryOp .FloorDiv) divR := dop_int op_fdivW fun _ _ _ => .int _
theorem dop_mod : DOp X (binaryOp .Mod) modR := dop_int op_mod fun _ _ _ => .int _
theorem dop_pow : DOp X (binaryOp .Pow) powR := dop_int op_pow fun _ _ _ => .int _
theorem dop_xor : DOp X (binaryOp .BitXor) xorR := dop_int0 op_xor fun _ _ _ => .int _

/-! ### order -/
def cmpR (p : Int → Int → Bool) (q : List Nat → List Nat → Bool) : RD := fun x y M Q => match x, y with
  | .int i, .int j => Q (.bl (p i j)) M
  | .str i, .str j => Q (.bl (q i.cps.toList j.cps.toList)) M
  | _, _ => False
theorem mono_cmpR {p : Int → Int → Bool} {q : List Nat → List Nat → Bool} : Mono2 (cmpR p q) := by
  intro x y M Q Q' k h
  cases x <;> cases y <;> first
    | exact h.elim
    | exact k _ _ h
theorem dop_cmp {f : Value → Value → Sem Value} {p : Int → Int → Bool} {g : List Nat → List Nat → Bool} (h : OpR X f (rI0 fun i j => .bl (p i j)))
    (h' : OpR X f (fun x y H Q => ∃ i j, x = .str i ∧ y = .str j ∧ Q (.bl (g i.cps.toList j.cps.toList)) H)) : DOp X f (cmpR p g) := by
  refine dop_of (h.or h') mono_cmpR ?_
  rintro x y H Q ⟨F, M, dx, dy, hs, rx, ry, q⟩
  cases rx with
  | int i =>
    cases ry with
    | int j => exact .inl ⟨i, j, rfl, rfl, q _ _ _ (Le.refl F) hs (.bl _)⟩
    | _ => exact (show False from q).elim
  | str i =>
    cases ry with
    | str j => exact .inr ⟨i, j, rfl, rfl, q _ _ _ (Le.refl F) hs (.bl _)⟩
    | _ => exact (show False from q).elim
  | _ => exact (show False from q).elim
abbrev ltR : RD := cmpR (fun i j => decide (i < j)) fun a b => decide (a < b)
abbrev gtR : RD := cmpR (fun i j => decide (j < i)) fun a b => decide (b < a)
abbrev leR : RD := cmpR (fun i j => decide (i ≤ j)) fun a b => decide (a ≤ b)
abbrev geR : RD := cmpR (fun i j => decide (j ≤ i)) fun a b => decide (b ≤ a)
theorem dop_lt : DOp X (compareOp .Lt) ltR := dop_cmp op_lt op_lt_str
theorem dop_gt : DOp X (compareOp .Gt) gtR := dop_cmp op_gt (fun pins s σ H x y v u Q I rx ry q => op_gt_str pins s σ H x y v u Q I rx ry q)
abbrev leI : RD := intR0 fun i j => .bl (decide (i ≤ j))
abbrev geI : RD := intR0 fun i j => .bl (decide (j ≤ i))
theorem dop_le : DOp X (compareOp .LtE) leI := dop_int0 op_le fun _ _ _ => .bl _
theorem dop_ge : DOp X (compareOp .GtE) geI := dop_int0 op_ge fun _ _ _ => .bl _

/-! ### == -/
def eqG (neg : Bool) : RD := fun x y M Q => oQ (pd (see M x)) fun p => oQ (pd (see M y)) fun q => SeqAt.shaped p = true ∧ SeqAt.shaped q = true ∧ Q (.bl (if neg then !PyData.eqv p q else PyData.eqv p q)) M
def eqR (neg : Bool) : RD := fun x y M Q => match x, y with
  | .int i, .int j => Q (.bl (if neg then !decide (i = j) else decide (i = j))) M
  | .str i, .str j => Q (.bl (if neg then !decide (i = j) else decide (i = j))) M
  | .bl i, .bl j => Q (.bl (if neg then !(i == j) else i == j)) M
  | x, y => eqG neg x y M Q
theorem mono_eqG {neg : Bool} : Mono2 (eqG neg) := by
  intro x y M Q Q' k h
  exact oQ_mono (fun p h => oQ_mono (fun q h => ⟨h.1, h.2.1, k _ _ h.2.2⟩) h) h
theorem mono_eqR {neg : Bool} : Mono2 (eqR neg) := by
  intro x y M Q Q' k h
  cases x <;> cases y <;> first
    | exact k _ _ h
    | exact mono_eqG _ _ _ _ _ k h
theorem up_eqG {neg : Bool} {c : Ctx} {x y : V} {H : Hp} {Q : VK} {F : Hp} {M : MH} {dx dy : D} (hs : HS c F H M) (rx : Rep c F x dx) (ry : Rep c F y dy) (q : eqG neg dx dy M (dnE c F Q)) :
    ∃ d e, Dp c.K H x d ∧ Dp c.K H y e ∧ SeqAt.shaped d = true ∧ SeqAt.shaped e = true ∧ Q (.bl (if neg then !PyData.eqv d e else PyData.eqv d e)) H := by
  obtain ⟨p, e1, q⟩ := oQ_get q
  obtain ⟨p', e2, q1, q2, q3⟩ := oQ_get q
  exact ⟨p, p', dp_see hs rx e1, dp_see hs ry e2, q1, q2, q3 _ _ _ (Le.refl F) hs (.bl _)⟩
theorem dop_eq (hu : X.A.units + 64 < cLine) : DOp X (compareOp .Eq) (eqR false) := by
  refine dop_of ((op_eq (X := X)).or (op_eqD (X := X) hu)) mono_eqR ?_
  rintro x y H Q ⟨F, M, dx, dy, hs, rx, ry, q⟩
  have sc : ∀ {b k : Bool}, dnE (cOf X) F Q (.bl (if false = true then !b else b)) M → b = k → Q (.bl k) H := fun {b k} q e => by
    rw [if_neg Bool.false_ne_true, e] at q; exact q _ _ _ (Le.refl F) hs (.bl _)
  have gen : eqG false dx dy M (dnE (cOf X) F Q) → rEqD X.K x y H Q := fun q => by
    obtain ⟨d, e, h1, h2, h3, h4, h5⟩ := up_eqG hs rx ry q
    rw [if_neg Bool.false_ne_true] at h5
    exact ⟨d, e, h1, h2, h3, h4, h5⟩
  cases rx with
  | int i =>
    cases ry with
    | int j => exact .inl ⟨rfl, sc (k := decide (V.int i = V.int j)) q (by simp)⟩
    | _ => exact .inr (gen q)
  | str i =>
    cases ry with
    | str j => exact .inl ⟨rfl, sc (k := decide (V.str i = V.str j)) q (by simp)⟩
    | _ => exact .inr (gen q)
  | bl i =>
    cases ry with
    | bl j => exact .inl ⟨rfl, sc (k := decide (V.bl i = V.bl j)) q dec_bl.symm⟩
    | _ => exact .inr (gen q)
  | _ => cases ry <;> exact .inr (gen q)
theorem dop_ne (hu : X.A.units + 64 < cLine) : DOp X (compareOp .NotEq) (eqR true) := by
  refine dop_of ((op_ne (X := X)).or (op_neD (X := X) hu)) mono_eqR ?_
  rintro x y H Q ⟨F, M, dx, dy, hs, rx, ry, q⟩
  have sc : ∀ {b k : Bool}, dnE (cOf X) F Q (.bl (if true = true then !b else b)) M → b = k → Q (.bl (!k)) H := fun {b k} q e => by
    rw [if_pos rfl, e] at q; exact q _ _ _ (Le.refl F) hs (.bl _)
  have gen : eqG true dx dy M (dnE (cOf X) F Q) → rNeD X.K x y H Q := fun q => by
    obtain ⟨d, e, h1, h2, h3, h4, h5⟩ := up_eqG hs rx ry q
    rw [if_pos rfl] at h5
    exact ⟨d, e, h1, h2, h3, h4, h5⟩
  cases rx with
  | int i =>
    cases ry with
    | int j => exact .inl ⟨rfl, sc (k := decide (V.int i = V.int j)) q (by simp)⟩
    | _ => exact .inr (gen q)
  | str i =>
    cases ry with
    | str j => exact .inl ⟨rfl, sc (k := decide (V.str i = V.str j)) q (by simp)⟩
    | _ => exact .inr (gen q)
  | bl i =>
    cases ry with
    | bl j => exact .inl ⟨rfl, sc (k := decide (V.bl i = V.bl j)) q dec_bl.symm⟩
    | _ => exact .inr (gen q)
  | _ => cases ry <;> exact .inr (gen q)

/-! ### is None -/
def D.isNon : D → Bool
  | .non => true
  | _ => false
def isR (neg : Bool) : RD := fun x y M Q => match y with
  | .non => Q (.bl (if neg then !x.isNon else x.isNon)) M
  | _ => False
theorem isNon_rep {c : Ctx} {F : Hp} {v : V} {d : D} (r : Rep c F v d) : decide (v = .non) = d.isNon := by
  cases r <;> simp [D.isNon]
theorem mono_isR {neg : Bool} : Mono2 (isR neg) := by
  intro x y M Q Q' k h
  cases y <;> first
    | exact k _ _ h
    | exact h.elim
theorem dop_is : DOp X (compareOp .Is) (isR false) := by
  refine dop_of op_isN mono_isR ?_
  rintro x y H Q ⟨F, M, dx, dy, hs, rx, ry, q⟩
  cases ry with
  | non => exact ⟨rfl, by rw [isNon_rep rx]; exact q _ _ _ (Le.refl F) hs (.bl _)⟩
  | _ => exact (show False from q).elim
theorem dop_isnot : DOp X (compareOp .IsNot) (isR true) := by
  refine dop_of op_notN mono_isR ?_
  rintro x y H Q ⟨F, M, dx, dy, hs, rx, ry, q⟩
  cases ry with
  | non => exact ⟨rfl, by rw [isNon_rep rx]; exact q _ _ _ (Le.refl F) hs (.bl _)⟩
  | _ => exact (show False from q).elim

/-! ### in -/
def D.flat : D → Bool
  | .non => true
  | .bl _ => true
  | .int _ => true
  | .str _ => true
  | _ => false
def D.eqF : D → D → Bool
  | .non, .non => true
  | .bl a, .bl b => a == b
  | .bl a, .int b => (if a then 1 else 0) == b
  | .int a, .bl b => a == (if b then 1 else 0)
  | .int a, .int b => a == b
  | .str a, .str b => a == b
  | _, _ => false
def inD (x : D) (xs : List D) : Bool := xs.any fun y => D.eqF y x
section
variable {c : Ctx} {F : Hp}
theorem flat_rep {v : V} {d : D} (r : Rep c F v d) (h : d.flat = true) : flatV v = true := by
  cases r <;> first | rfl | cases h
theorem flats_rep : ∀ {ds : List D} {vs : List V}, Reps c F vs ds → ds.all D.flat = true → vs.all flatV = true
  | [], _, h, _ => by cases h; rfl
  | d :: ds, _, h, e => by
    cases h with | cons h1 h2 =>
    rw [List.all_cons, Bool.and_eq_true] at e
    rw [List.all_cons, flat_rep h1 e.1, flats_rep h2 e.2]; rfl
theorem eqF_rep {v u : V} {d e : D} (r : Rep c F v d) (r' : Rep c F u e) (h : d.flat = true) (h' : e.flat = true) : eqV v u = D.eqF d e := by
  cases r <;> cases r' <;> first
    | rfl
    | exact absurd h Bool.false_ne_true
    | exact absurd h' Bool.false_ne_true
theorem inD_rep {v : V} {d : D} (r : Rep c F v d) (h : d.flat = true) : ∀ {ds : List D} {vs : List V}, Reps c F vs ds → ds.all D.flat = true → inV v vs = inD d ds
  | [], _, q, _ => by cases q; rfl
  | x :: ds, _, q, e => by
    cases q with | cons h1 h2 =>
    rw [List.all_cons, Bool.and_eq_true] at e
    have ih := inD_rep r h h2 e.2
    unfold inV inD at ih ⊢
    rw [List.any_cons, List.any_cons, eqF_rep h1 r e.1 h, ih]
end
/-- one text within another -/
def occB (x z : Str) : Bool := !(Builtin.Str.occurrences z x 0 z.length 1).isEmpty
def inR (neg : Bool) : RD := fun x y M Q => match y with
  | .lst xs => x.flat = true ∧ xs.all D.flat = true ∧ Q (.bl (if neg then !inD x xs else inD x xs)) M
  | .tup xs => x.flat = true ∧ xs.all D.flat = true ∧ Q (.bl (if neg then !inD x xs else inD x xs)) M
  | .str z => match x with
    | .str w => Q (.bl (if neg then !occB w z else occB w z)) M
    | _ => False
  | .dic ks => oQ (keyD x) fun k => Q (.bl (if neg then !(valA ks k).isSome else (valA ks k).isSome)) M
  | .ref p => oQ ((M p).map unlk) fun m => match m with
    | .lst xs => x.flat = true ∧ xs.all D.flat = true ∧ Q (.bl (if neg then !inD x xs else inD x xs)) M
    | .dic ks => oQ (keyD x) fun k => Q (.bl (if neg then !(valA ks k).isSome else (valA ks k).isSome)) M
    | _ => False
  | _ => False
theorem mono_inR {neg : Bool} : Mono2 (inR neg) := by
  intro x y M Q Q' k h
  cases y with
  | lst xs => exact ⟨h.1, h.2.1, k _ _ h.2.2⟩
  | tup xs => exact ⟨h.1, h.2.1, k _ _ h.2.2⟩
  | str z => cases x <;> first | exact k _ _ h | exact h.elim
  | dic ks => exact oQ_mono (fun _ h => k _ _ h) h
  | ref p =>
    refine oQ_mono (fun m h => ?_) h
    cases m with
    | lst xs => exact ⟨h.1, h.2.1, k _ _ h.2.2⟩
    | dic ks => exact oQ_mono (fun _ h => k _ _ h) h
    | _ => exact h.elim
  | _ => exact h.elim
/-- in, not in of a dict, by values -/
theorem op_in_dict (hu : X.A.units + 1 < cLine) : OpR X (compareOp .In) (fun x y H Q => ∃ a o, y = .ref a ∧ DGet H a x o ∧ Q (.bl o.isSome) H) := by
  rintro pins s σ H x y v u Q I rx ry ⟨a, o, rfl, g, q⟩
  cases ry
  exact d_in hu I g rx fun s' I' => ⟨.bl _, H, I', rfl, q⟩
theorem op_notin_dict (hu : X.A.units + 1 < cLine) : OpR X (compareOp .NotIn) (fun x y H Q => ∃ a o, y = .ref a ∧ DGet H a x o ∧ Q (.bl (!o.isSome)) H) := by
  rintro pins s σ H x y v u Q I rx ry ⟨a, o, rfl, g, q⟩
  cases ry
  exact d_notIn hu I g rx fun s' I' => ⟨.bl _, H, I', rfl, q⟩
theorem dop_in (hu : X.A.units + 1 < cLine) : DOp X (compareOp .In) (inR false) := by
  refine dop_of ((op_in_seq (X := X)).or ((op_in_str (X := X)).or (op_in_dict hu))) mono_inR ?_
  rintro x y H Q ⟨F, M, dx, dy, hs, rx, ry, q⟩
  have fin : ∀ {b b' : Bool}, dnE (cOf X) F Q (.bl (if false = true then !b else b)) M → b = b' → Q (.bl b') H := fun {b b'} q e => by
    rw [if_neg Bool.false_ne_true, e] at q; exact q _ _ _ (Le.refl F) hs (.bl _)
  have sq : ∀ {a vs ds}, y = .ref a → (SqL X.K H a vs ∨ SqT X.K H a vs) → Reps (cOf X) F vs ds → dx.flat = true → ds.all D.flat = true → dnE (cOf X) F Q (.bl (if false = true then !inD dx ds else inD dx ds)) M → rIn X.K false x y H Q := fun {a vs ds} e sl r f1 f2 q =>
    ⟨a, vs, e, sl, flat_rep rx f1, flats_rep r f2, by rw [if_neg Bool.false_ne_true]; exact fin q (inD_rep rx f1 r f2).symm⟩
  have dk : ∀ {a vs ds}, y = .ref a → Rd H a (.dK vs) → RepK (cOf X) F vs ds → oQ (keyD dx) (fun k => dnE (cOf X) F Q (.bl (if false = true then !(valA ds k).isSome else (valA ds k).isSome)) M) → ∃ a o, y = .ref a ∧ DGet H a x o ∧ Q (.bl o.isSome) H := fun {a vs ds} e rd r q => by
    obtain ⟨k, ek, q⟩ := oQ_get q
    exact ⟨a, valV vs k, e, .inl ⟨vs, k, rd, keyD_rep rx ek, rfl⟩, fin q (r.isSome k).symm⟩
  cases ry with
  | lst h1 h2 => exact .inl (sq rfl (.inl (hs.sqL h1)) h2 q.1 q.2.1 q.2.2)
  | tup h1 h2 => exact .inl (sq rfl (.inr (hs.sqT h1)) h2 q.1 q.2.1 q.2.2)
  | str z =>
    cases rx with
    | str w => exact .inr (.inl ⟨w, z, rfl, rfl, fin q rfl⟩)
    | _ => exact (show False from q).elim
  | dic h1 h2 => exact .inr (.inr (dk rfl (hs.dK h1) h2 q))
  | ref p =>
    obtain ⟨m, em, q⟩ := oQ_get q
    cases m with
    | lst xs => obtain ⟨vs, sl, r⟩ := hs.celLk em; exact .inl (sq rfl (.inl sl) r q.1 q.2.1 q.2.2)
    | dic ks => obtain ⟨vs, rd, r⟩ := hs.celDk em; exact .inr (.inr (dk rfl rd r q))
    | _ => exact (show False from q).elim
  | _ => exact (show False from q).elim
theorem dop_notin (hu : X.A.units + 1 < cLine) : DOp X (compareOp .NotIn) (inR true) := by
  refine dop_of ((op_notIn_seq (X := X)).or ((op_notin_str (X := X)).or (op_notin_dict hu))) mono_inR ?_
  rintro x y H Q ⟨F, M, dx, dy, hs, rx, ry, q⟩
  have fin : ∀ {b b' : Bool}, dnE (cOf X) F Q (.bl (if true = true then !b else b)) M → b = b' → Q (.bl (!b')) H := fun {b b'} q e => by
    rw [if_pos rfl, e] at q; exact q _ _ _ (Le.refl F) hs (.bl _)
  have sq : ∀ {a vs ds}, y = .ref a → (SqL X.K H a vs ∨ SqT X.K H a vs) → Reps (cOf X) F vs ds → dx.flat = true → ds.all D.flat = true → dnE (cOf X) F Q (.bl (if true = true then !inD dx ds else inD dx ds)) M → rIn X.K true x y H Q := fun {a vs ds} e sl r f1 f2 q =>
    ⟨a, vs, e, sl, flat_rep rx f1, flats_rep r f2, by rw [if_pos rfl]; exact fin q (inD_rep rx f1 r f2).symm⟩
  have dk : ∀ {a vs ds}, y = .ref a → Rd H a (.dK vs) → RepK (cOf X) F vs ds → oQ (keyD dx) (fun k => dnE (cOf X) F Q (.bl (if true = true then !(valA ds k).isSome else (valA ds k).isSome)) M) → ∃ a o, y = .ref a ∧ DGet H a x o ∧ Q (.bl (!o.isSome)) H := fun {a vs ds} e rd r q => by
    obtain ⟨k, ek, q⟩ := oQ_get q
    exact ⟨a, valV vs k, e, .inl ⟨vs, k, rd, keyD_rep rx ek, rfl⟩, fin q (r.isSome k).symm⟩
  cases ry with
  | lst h1 h2 => exact .inl (sq rfl (.inl (hs.sqL h1)) h2 q.1 q.2.1 q.2.2)
  | tup h1 h2 => exact .inl (sq rfl (.inr (hs.sqT h1)) h2 q.1 q.2.1 q.2.2)
  | str z =>
    cases rx with
    | str w => exact .inr (.inl ⟨w, z, rfl, rfl, fin q rfl⟩)
    | _ => exact (show False from q).elim
  | dic h1 h2 => exact .inr (.inr (dk rfl (hs.dK h1) h2 q))
  | ref p =>
    obtain ⟨m, em, q⟩ := oQ_get q
    cases m with
    | lst xs => obtain ⟨vs, sl, r⟩ := hs.celLk em; exact .inl (sq rfl (.inl sl) r q.1 q.2.1 q.2.2)
    | dic ks => obtain ⟨vs, rd, r⟩ := hs.celDk em; exact .inr (.inr (dk rfl rd r q))
    | _ => exact (show False from q).elim
  | _ => exact (show False from q).elim

/-! ### subscripts -/
def ixR : RD := fun x y M Q => match x with
  | .lst xs => match y with
    | .int i => oQ (ixD xs i) fun d => Q d M
    | _ => False
  | .tup xs => match y with
    | .int i => oQ (ixD xs i) fun d => Q d M
    | _ => False
  | .str z => match y with
    | .int i => z.length ≤ sizeLine ∧ oQ (ixD z.cps.toList i) fun ch => Q (.str ⟨#[ch]⟩) M
    | _ => False
  | .dic ks => oQ (keyD y) fun k => oQ (valA ks k) fun d => Q d M
  | .ref p => oQ ((M p).map unlk) fun m => match m with
    | .lst xs => (match y with
      | .int i => oQ (ixD xs i) fun d => Q d M
      | _ => False)
    | .dic ks => oQ (keyD y) fun k => oQ (valA ks k) fun d => Q d M
    | _ => False
  | .dit ks => oQ (keyT y) fun k => oQ (valA ks k) fun d => Q d M
  | _ => False
theorem mono_ixR : Mono2 ixR := by
  intro x y M Q Q' k h
  cases x with
  | lst xs => cases y <;> first | exact oQ_mono (fun _ h => k _ _ h) h | exact h.elim
  | tup xs => cases y <;> first | exact oQ_mono (fun _ h => k _ _ h) h | exact h.elim
  | str z => cases y <;> first | exact ⟨h.1, oQ_mono (fun _ h => k _ _ h) h.2⟩ | exact h.elim
  | dic ks => exact oQ_mono (fun _ h => oQ_mono (fun _ h => k _ _ h) h) h
  | dit ks => exact oQ_mono (fun _ h => oQ_mono (fun _ h => k _ _ h) h) h
  | ref p =>
    refine oQ_mono (fun m h => ?_) h
    cases m with
    | lst xs => cases y <;> first | exact oQ_mono (fun _ h => k _ _ h) h | exact h.elim
    | dic ks => exact oQ_mono (fun _ h => oQ_mono (fun _ h => k _ _ h) h) h
    | _ => exact h.elim
  | _ => exact h.elim
theorem ix_dict (hu : X.A.units + 1 < cLine) : IxR X (fun x y H Q => ∃ a v, x = .ref a ∧ DGet H a y (some v) ∧ Q v H) := by
  rintro value slice pins s σ H x y v u Q I rx ry ⟨a, z, rfl, g, q⟩ hs
  cases rx
  have hT := dict_typeIs I g
  unfold subscriptTail
  refine wpAny_bind ?_
  rw [getitemInPython_of_ne hT.not_modules]
  refine wpAny_bind (wpAny_specialOf hT PySem.F.slot_dict_getitem.lookup ?_)
  have fin : wpAny (model X.prog X.w) X.A (subscripted slice false (.ref a) u) (fun r s₃ => wpAny (model X.prog X.w) X.A (letTemporaryGo value (.ref a) r >>= fun _ => pure r) (EP X pins σ Q) X.xe s₃) X.xe s := by
    rw [hs]
    exact wpAny_operating (d_getItem hu I g ry fun w' s3 I3 rw' => wpAny_bind (wpAny_letTemporaryGo (wpAny_pure ⟨z, H, I3, rw', q⟩)))
  first
    | exact wpAny_pure (wpAny_bind fin)
    | exact wpAny_bind (wpAny_pure (wpAny_bind fin))
    | exact wpAny_bind fin
theorem keyT_rep {c : Ctx} {F : Hp} {v : V} {d : D} {k : List Key} (h : Rep c F v d) (e : keyT d = some k) : ∃ a, v = .ref a ∧ SqT c.K F a (k.map kV) := by
  cases h with
  | tup h1 h2 => have e' := keysD_rep h2 e; subst e'; exact ⟨_, rfl, h1⟩
  | _ => cases e
theorem dix (hu : X.A.units + 1 < cLine) : IxR X (up2 (cOf X) (fun x y M Q => match x with
    | .dit _ => False
    | _ => ixR x y M Q)) := by
  intro value slice pins s σ H x y v u Q I rx ry hq hsl
  obtain ⟨F, M, dx, dy, hs, r1, r2, q⟩ := hq
  have fin : ∀ {z d}, Rep (cOf X) F z d → dnE (cOf X) F Q d M → Q z H := fun {z d} r q => q _ _ _ (Le.refl F) hs r
  have lt : ∀ {a vs ds i}, x = .ref a → y = .int i → (SqL X.K H a vs ∨ SqT X.K H a vs) → Reps (cOf X) F vs ds → oQ (ixD ds i) (fun d => dnE (cOf X) F Q d M) → wpAny (model X.prog X.w) X.A (subscriptTail value slice v u) (EP X pins σ Q) X.xe s := fun {a vs ds i} e e' sl r q => by
    obtain ⟨d, ed, q⟩ := oQ_get q
    have ea : ∃ z, atI vs i = some z ∧ Rep (cOf X) F z d := by
      obtain ⟨j, h1, h2, h3, h4, h5⟩ := atI_get (ixD_at ed)
      obtain ⟨z, hz, rz⟩ := r.get h2
      refine ⟨z, ?_, rz⟩
      have hn : ixN vs.length i = some j := by
        rw [r.length]
        cases e3 : ixN ds.length i with
        | none => have := ixD_at ed; unfold atI at this; rw [e3] at this; cases this
        | some j' => have h6 := (ixN_seq e3).1; rw [h1] at h6; rw [Option.some.inj h6]
      unfold atI; rw [hn]; exact hz
    obtain ⟨z, ez, rz⟩ := ea
    rcases sl with sl | sl
    · exact ix_list value slice pins s σ H x y v u Q I rx ry ⟨a, vs, i, z, e, e', sl, ez, fin rz q⟩ hsl
    · exact ix_tup value slice pins s σ H x y v u Q I rx ry ⟨a, vs, i, z, e, e', sl, ez, fin rz q⟩ hsl
  have dk : ∀ {a vs ds}, x = .ref a → Rd H a (.dK vs) → RepK (cOf X) F vs ds → oQ (keyD dy) (fun k => oQ (valA ds k) fun d => dnE (cOf X) F Q d M) → wpAny (model X.prog X.w) X.A (subscriptTail value slice v u) (EP X pins σ Q) X.xe s := fun {a vs ds} e rd r q => by
    obtain ⟨k, ek, q⟩ := oQ_get q
    obtain ⟨d, ed, q⟩ := oQ_get q
    obtain ⟨z, ez, rz⟩ := r.val ed
    exact ix_dict hu value slice pins s σ H x y v u Q I rx ry ⟨a, z, e, .inl ⟨vs, k, rd, keyD_rep r2 ek, ez.symm⟩, fin rz q⟩ hsl
  cases r1 with
  | lst h1 h2 =>
    cases r2 with
    | int i => exact lt rfl rfl (.inl (hs.sqL h1)) h2 q
    | _ => exact (show False from q).elim
  | tup h1 h2 =>
    cases r2 with
    | int i => exact lt rfl rfl (.inr (hs.sqT h1)) h2 q
    | _ => exact (show False from q).elim
  | str z =>
    cases r2 with
    | int i =>
      obtain ⟨q1, q2⟩ := q
      obtain ⟨ch, ec, q2⟩ := oQ_get q2
      exact ix_str value slice pins s σ H _ _ v u Q I rx ry ⟨z, i, ch, rfl, rfl, q1, ixD_at ec, fin (.str _) q2⟩ hsl
    | _ => exact (show False from q).elim
  | dic h1 h2 => exact dk rfl (hs.dK h1) h2 q
  | ref p =>
    obtain ⟨m, em, q⟩ := oQ_get q
    cases m with
    | lst xs =>
      obtain ⟨vs, sl, r⟩ := hs.celLk em
      cases r2 with
      | int i => exact lt rfl rfl (.inl sl) r q
      | _ => exact (show False from q).elim
    | dic ks => obtain ⟨vs, rd, r⟩ := hs.celDk em; exact dk rfl rd r q
    | _ => exact (show False from q).elim
  | _ => exact (show False from q).elim
/-- a[b]; a dict with tuple keys is read by de_ixT -/
def ixR' : RD := fun x y M Q => match x with
  | .dit _ => False
  | _ => ixR x y M Q
theorem mono_ixR' : Mono2 ixR' := by
  intro x y M Q Q' k h
  cases x with
  | dit _ => exact h.elim
  | lst xs => exact mono_ixR (.lst xs) _ _ _ _ k h
  | tup xs => exact mono_ixR (.tup xs) _ _ _ _ k h
  | str xs => exact mono_ixR (.str xs) _ _ _ _ k h
  | dic xs => exact mono_ixR (.dic xs) _ _ _ _ k h
  | ref xs => exact mono_ixR (.ref xs) _ _ _ _ k h
  | _ => exact (show False from h).elim
variable {a b : Expr} {τa τb : TDE} {pos : Pos}
theorem de_ix (hu : X.A.units + 1 < cLine) (ha : DE X B a τa) (hb : DE X B b τb) (hs : PlainIx b := by intro _ _; rfl) : DE X B (.Subscript a b pos) (dOp ixR' τa τb) :=
  ⟨PE.imp (pe_ix (dix hu) ha.pe hb.pe hs) fun _ _ _ h => up_op mono_ixR' ha.mono hb.mono h, mono_op mono_ixR' ha.mono hb.mono⟩
end
end FM

set_option Elab.async false
set_option linter.all false
set_option maxRecDepth 100000
set_option maxHeartbeats 2000000
/-! FD: slices, fields, calls, statements, loops over data. -/
namespace FM
open PySem PySem.Spec L2
open PyProof.Rows hiding St
section
variable {X : Cx} {B : Hp} {a b e : Expr} {τ τa τb : TDE} {pos : Pos}

/-! ### slices -/
abbrev TDO := DSt → MH → (Option Int → MH → Prop) → Prop
def MonoO (τ : TDO) : Prop := ∀ δ M (Q Q' : Option Int → MH → Prop), (∀ d M', Q d M' → Q' d M') → τ δ M Q → τ δ M Q'
def dnO (c : Ctx) (F : Hp) (Q : Option Int → Hp → Prop) : Option Int → MH → Prop := fun b M' => ∀ F' H', Le F F' → HS c F' H' M' → Q b H'
def upO (c : Ctx) (B : Hp) (τ : TDO) : TO := fun σ H Q => ∃ F δ M, Le B F ∧ HS c F H M ∧ EnvR c F σ δ ∧ τ δ M (dnO c F Q)
structure DO (X : Cx) (B : Hp) (e : Option Expr) (τ : TDO) : Prop where
  po : PO X e (upO (cOf X) B τ)
  mono : MonoO τ
theorem PO.imp {e : Option Expr} {t t' : TO} (h : PO X e t) (k : ∀ σ H Q, t' σ H Q → t σ H Q) : PO X e t' := ⟨fun pins s σ H Q I q => h.run pins s σ H Q I (k σ H Q q)⟩
def dNoP : TDO := fun _ M Q => Q none M
def dPart (τ : TDE) : TDO := fun δ M Q => τ δ M fun d M1 => match d with
  | .int i => Q (some i) M1
  | _ => False
theorem do_none : DO X B none dNoP := ⟨PO.imp po_none fun σ H Q ⟨F, δ, M, lb, hs, ev, q⟩ => q F H (Le.refl F) hs, fun _ _ _ _ k h => k _ _ h⟩
theorem do_some (h : DE X B e τ) : DO X B (some e) (dPart τ) := by
  refine ⟨PO.imp (po_some h.pe) fun σ H Q hq => ?_, fun δ M Q Q' k hq => h.mono _ _ _ _ (fun d M1 q => by cases d <;> first | exact k _ _ q | exact q) hq⟩
  obtain ⟨F, δ, M, lb, hs, ev, q⟩ := hq
  refine upE_bind h.mono lb hs ev q fun d M1 v F1 H1 l1 hs1 ev1 r q1 => ?_
  cases d with
  | int i => cases r; exact ⟨i, rfl, q1 F1 H1 l1 hs1⟩
  | _ => exact (show False from q1).elim
/-- the items of xs[lo:hi] -/
def cutA {α : Type} (xs : List α) (lo hi : Option Int) : List α := (xs.drop (HT.sIx xs.length 0 lo)).take (HT.sIx xs.length xs.length hi - HT.sIx xs.length 0 lo)
theorem Reps.cut {c : Ctx} {F : Hp} {vs : List V} {ds : List D} (r : Reps c F vs ds) (lo hi : Option Int) : Reps c F (cutV vs lo hi) (cutA ds lo hi) := by
  unfold cutV cutA
  rw [r.length]
  exact (r.drop _).take _
/-- a slice by values; a tuple's is not the whole of it -/
def slR (x : D) (lo hi : Option Int) (M : MH) (Q : DQ) : Prop := match x with
  | .lst xs => Q (.lst (cutA xs lo hi)) M
  | .scr xs => Q (.lst (cutA xs lo hi)) M
  | .str z => z.length ≤ sizeLine ∧ Q (.str (cutS z lo hi)) M
  | .tup xs => (HT.sIx xs.length 0 lo = 0 ∧ HT.sIx xs.length xs.length hi = xs.length → False) ∧ Q (.tup (cutA xs lo hi)) M
  | .ref p => oQ ((M p).map unlk) fun m => match m with
    | .lst xs => Q (.lst (cutA xs lo hi)) M
    | _ => False
  | _ => False
def dSl (τ : TDE) (τl τh : TDO) : TDE := fun δ M Q => τ δ M fun x M1 => τl δ M1 fun l M2 => τh δ M2 fun u M3 => slR x l u M3 Q
theorem mono_slR {x : D} {lo hi : Option Int} {M : MH} {Q Q' : DQ} (k : ∀ d M', Q d M' → Q' d M') (h : slR x lo hi M Q) : slR x lo hi M Q' := by
  cases x with
  | lst xs => exact k _ _ h
  | scr xs => exact k _ _ h
  | str z => exact ⟨h.1, k _ _ h.2⟩
  | tup xs => exact ⟨h.1, k _ _ h.2⟩
  | ref p => exact oQ_mono (fun m h => by cases m <;> first | exact k _ _ h | exact h) h
  | _ => exact h
theorem de_sl {lo hi : Option Expr} {τl τh : TDO} {p2 : Pos} (he : DE X B e τ) (hl : DO X B lo τl) (hu : DO X B hi τh) : DE X B (.Subscript e (.Slice lo hi none p2) pos) (dSl τ τl τh) := by
  refine ⟨PE.imp (pe_slice ((sl_list (X := X)).or ((sl_str (X := X)).or (sl_tup (X := X)))) he.pe hl.po hu.po) fun σ H Q h => ?_, fun δ M Q Q' k h => he.mono _ _ _ _ (fun x M1 h1 => hl.mono _ _ _ _ (fun l M2 h2 => hu.mono _ _ _ _ (fun u M3 h3 => mono_slR k h3) h2) h1) h⟩
  obtain ⟨F, δ, M, lb, hs, ev, q⟩ := h
  refine upE_bind he.mono lb hs ev q fun x M1 v F1 H1 l1 hs1 ev1 r q1 => ?_
  refine ⟨F1, δ, M1, lb.trans l1, hs1, ev1, hl.mono _ _ _ _ (fun lo M2 q2 => ?_) q1⟩
  intro F2 H2 l2 hs2
  refine ⟨F2, δ, M2, lb.trans (l1.trans l2), hs2, ev1.mono l2, hu.mono _ _ _ _ (fun hi M3 q3 => ?_) q2⟩
  intro F3 H3 l3 hs3
  have r := (r.mono l2).mono l3
  have l := (l1.trans l2).trans l3
  have ls : ∀ {p vs ds}, v = V.ref p → SqL X.K H3 p vs → Reps (cOf X) F3 vs ds → dnE (cOf X) F Q (.lst (cutA ds lo hi)) M3 → rSlL X.K v lo hi H3 Q := fun {p vs ds} e sl rr q => by
    refine ⟨p, vs, e, sl, fun n hn => ?_⟩
    obtain ⟨l4, hs4⟩ := hs3.newF hn (.lst (cutV vs lo hi))
    exact q _ _ _ (l.trans l4) hs4 (.lst upd_same ((rr.cut lo hi).mono l4))
  cases r with
  | lst h1 h2 => exact .inl (ls rfl (hs3.sqL h1) h2 q3)
  | scr h1 h2 => exact .inl (ls rfl (hs3.sqL' h1) h2 q3)
  | str z => exact .inr (.inl ⟨z, rfl, q3.1, q3.2 _ _ _ l hs3 (.str _)⟩)
  | tup h1 h2 =>
    refine .inr (.inr ⟨_, _, rfl, hs3.sqT h1, by rw [h2.length]; exact q3.1, fun n hn => ?_⟩)
    obtain ⟨l4, hs4⟩ := hs3.newF hn (.tup (cutV _ lo hi))
    exact q3.2 _ _ _ (l.trans l4) hs4 (.tup (SqT.of upd_same) ((h2.cut lo hi).mono l4))
  | ref p =>
    obtain ⟨m, em, q3⟩ := oQ_get q3
    cases m with
    | lst xs => obtain ⟨vs, sl, rr⟩ := hs3.celLk em; exact .inl (ls rfl sl rr q3)
    | _ => exact (show False from q3).elim
  | _ => exact (show False from q3).elim

/-! ### fields -/
def dFld (C : Addr) (f : Str) (τ : TDE) : TDE := fun δ M Q => τ δ M fun x M1 => ∃ p fs d, x = .ref p ∧ M1 p = some (.ins C fs) ∧ fs.lookup f = some d ∧ Q d M1
theorem de_fld {C : Addr} {f : Str} (cl : Cls X.K C) (na : NoAttr X.K C f) (he : DE X B e τ) (hb : attributeBase e f X.env (eval e X.env) = eval e X.env := by rfl) : DE X B (.Attribute e f pos) (dFld C f τ) := by
  refine ⟨PE.imp (pe_fld he.pe hb) fun σ H Q h => ?_, fun δ M Q Q' k h => he.mono _ _ _ _ (fun x M1 ⟨p, fs, d, h1, h2, h3, h4⟩ => ⟨p, fs, d, h1, h2, h3, k _ _ h4⟩) h⟩
  obtain ⟨F, δ, M, lb, hs, ev, q⟩ := h
  refine upE_bind he.mono lb hs ev q fun x M1 v F1 H1 l1 hs1 ev1 r ⟨p, fs, d, e1, e2, e3, q1⟩ => ?_
  subst e1
  cases r
  obtain ⟨dx, vs, eh, rf⟩ := hs1.celI e2
  obtain ⟨u, eu, ru⟩ := rf.look e3
  exact ⟨p, C, dx, vs, u, rfl, eh, cl, na, eu, q1 u F1 H1 l1 hs1 ru⟩

/-! ### calls of built-ins -/
abbrev RDC := List D → MH → DQ → Prop
def upC (c : Ctx) (r : RDC) : List V → Hp → VK → Prop := fun vs H Q => ∃ F M ds, HS c F H M ∧ Reps c F vs ds ∧ r ds M (dnE c F Q)
def MonoC (r : RDC) : Prop := ∀ ds M (Q Q' : DQ), (∀ d M', Q d M' → Q' d M') → r ds M Q → r ds M Q'
structure DC (X : Cx) (f : Value) (r : RDC) : Prop where
  cr : CallR X f (upC (cOf X) r)
  mono : MonoC r
def dCB (r : RDC) (τs : TDA) : TDE := fun δ M Q => τs δ M fun ds M1 => r ds M1 Q
theorem mono_CB {r : RDC} {τs : TDA} (m : MonoC r) (ma : MonoA τs) : MonoE (dCB r τs) := fun δ M Q Q' k h => ma _ _ _ _ (fun ds M1 h1 => m _ _ _ _ k h1) h
theorem up_CB {r : RDC} {τs : TDA} {c : Ctx} (m : MonoC r) (ma : MonoA τs) {σ : L2.St} {H : Hp} {Q : VK} (h : upE c B (dCB r τs) σ H Q) : tCB (upC c r) (upA c B τs) σ H Q := by
  obtain ⟨F, δ, M, lb, hs, ev, q⟩ := h
  exact upA_bind ma lb hs ev q fun ds M1 vs F1 H1 l1 hs1 ev1 rs q1 => ⟨F1, M1, ds, hs1, rs, m _ _ _ _ (dnE_le l1) q1⟩
variable {es : List Expr} {τs : TDA} {x : Str} {p : Pos} {bid T : String} {r : RDC}
theorem de_callB (hc : DC X (.builtin bid) r) (hg : Gl X x) (hm : X.mg x = none) (hv : bootBuiltins x = some (.builtin bid)) (ha : DA X B (e :: es) τs) (hn : x ≠ "__name__" := by decide) (hdb : (x == ("__debug__" : Str)) = false := by decide)
    (he : starEach (e :: es) X.env = (false, eval e X.env) :: starEach es X.env := by rfl) (hpl : (backTo pos (starEach es X.env)).any (·.1) = false := by rfl) : DE X B (.Call (.Name x p) (e :: es) [] pos) (dCB r τs) :=
  ⟨PE.imp (pe_callB hc.cr hg hm hv ha.pa hn hdb he hpl) fun _ _ _ h => up_CB hc.mono ha.mono h, mono_CB hc.mono ha.mono⟩
theorem de_callTy (hc : DC X (.type T) r) (hg : Gl X x) (hm : X.mg x = none) (hv : bootBuiltins x = some (.type T)) (ha : DA X B (e :: es) τs) (hn : x ≠ "__name__" := by decide) (hdb : (x == ("__debug__" : Str)) = false := by decide)
    (he : starEach (e :: es) X.env = (false, eval e X.env) :: starEach es X.env := by rfl) (hpl : (backTo pos (starEach es X.env)).any (·.1) = false := by rfl) : DE X B (.Call (.Name x p) (e :: es) [] pos) (dCB r τs) :=
  ⟨PE.imp (pe_callTy hc.cr hg hm hv ha.pa hn hdb he hpl) fun _ _ _ h => up_CB hc.mono ha.mono h, mono_CB hc.mono ha.mono⟩
theorem dc_of {f : Value} {r0 : List V → Hp → VK → Prop} {r : RDC} (h : CallR X f r0) (m : MonoC r) (k : ∀ vs H Q, upC (cOf X) r vs H Q → r0 vs H Q) : DC X f r :=
  ⟨fun pins s σ H xs us Q I rr q => h pins s σ H xs us Q I rr (k xs H Q q), m⟩
/-- two rules for one call -/
theorem callR_or {f : Value} {r r' : List V → Hp → VK → Prop} (h : CallR X f r) (h' : CallR X f r') : CallR X f (fun xs H Q => r xs H Q ∨ r' xs H Q) := by
  intro pins s σ H xs us Q I rr q
  rcases q with q | q
  · exact h pins s σ H xs us Q I rr q
  · exact h' pins s σ H xs us Q I rr q

/-! len -/
theorem call_lenDk : CallR X (.builtin "len") (fun xs H Q => ∃ a kvs, xs = [V.ref a] ∧ Rd H a (.dK kvs) ∧ Q (.int kvs.length) H) := by
  intro pins s σ H xs us Q I r h
  obtain ⟨a, kvs, rfl, ha, q⟩ := h
  obtain ⟨u, rfl, ru⟩ := vals1 r
  cases ru
  exact d_len I ha fun t s' I' => ⟨.int kvs.length, H, I', ⟨t, rfl⟩, q⟩
def lenR : RDC := fun ds M Q => match ds with
  | [.lst xs] => Q (.int xs.length) M
  | [.tup xs] => Q (.int xs.length) M
  | [.str z] => z.length ≤ sizeLine ∧ Q (.int z.length) M
  | [.dic ks] => Q (.int ks.length) M
  | [.ref p] => oQ ((M p).map unlk) fun m => match m with
    | .lst xs => Q (.int xs.length) M
    | .dic ks => Q (.int ks.length) M
    | _ => False
  | _ => False
theorem mono_lenR : MonoC lenR := by
  intro ds M Q Q' k h
  match ds, h with
  | [.lst xs], h => exact k _ _ h
  | [.tup xs], h => exact k _ _ h
  | [.str z], h => exact ⟨h.1, k _ _ h.2⟩
  | [.dic ks], h => exact k _ _ h
  | [.ref p], h => exact oQ_mono (fun m h => by cases m <;> first | exact k _ _ h | exact h) h
theorem dc_len : DC X (.builtin "len") lenR := by
  refine dc_of (callR_or call_len call_lenDk) mono_lenR ?_
  rintro vs H Q ⟨F, M, ds, hs, rs, q⟩
  have fin : ∀ {n : Nat}, dnE (cOf X) F Q (.int n) M → Q (.int n) H := fun q => q _ _ _ (Le.refl F) hs (.int _)
  match ds, rs, q with
  | [.lst xs], .cons r .nil, q => cases r with | lst h1 h2 => exact .inl ⟨_, _, rfl, .inl ⟨_, hs.sqL h1, rfl⟩, by rw [h2.length]; exact fin q⟩
  | [.tup xs], .cons r .nil, q => cases r with | tup h1 h2 => exact .inl ⟨_, _, rfl, .inr ⟨_, hs.sqT h1, rfl⟩, by rw [h2.length]; exact fin q⟩
  | [.str z], .cons r .nil, q => cases r; exact .inl ⟨_, _, rfl, ⟨q.1, rfl⟩, fin q.2⟩
  | [.dic ks], .cons r .nil, q => cases r with | dic h1 h2 => exact .inr ⟨_, _, rfl, hs.dK h1, by rw [h2.length]; exact fin q⟩
  | [.ref p], .cons r .nil, q =>
    cases r
    obtain ⟨m, em, q⟩ := oQ_get q
    cases m with
    | lst xs => obtain ⟨vs, sl, rr⟩ := hs.celLk em; exact .inl ⟨_, _, rfl, .inl ⟨_, sl, rfl⟩, by rw [rr.length]; exact fin q⟩
    | dic ks => obtain ⟨vs, rd, rr⟩ := hs.celDk em; exact .inr ⟨_, _, rfl, rd, by rw [rr.length]; exact fin q⟩
    | _ => exact (show False from q).elim

/-! max, min of two ints -/
def maxR : RDC := fun ds M Q => match ds with
  | [.int i, .int j] => Q (.int (if j > i then j else i)) M
  | _ => False
def minR : RDC := fun ds M Q => match ds with
  | [.int i, .int j] => Q (.int (if j < i then j else i)) M
  | _ => False
theorem mono_maxR : MonoC maxR := by
  intro ds M Q Q' k h
  match ds, h with
  | [.int i, .int j], h => exact k _ _ h
theorem mono_minR : MonoC minR := by
  intro ds M Q Q' k h
  match ds, h with
  | [.int i, .int j], h => exact k _ _ h
theorem dc_max (hc : X.calm = true) : DC X (.builtin "max") maxR := by
  refine dc_of (call_max2 hc) mono_maxR ?_
  rintro vs H Q ⟨F, M, ds, hs, rs, q⟩
  match ds, rs, q with
  | [.int i, .int j], .cons r1 (.cons r2 .nil), q => cases r1; cases r2; exact ⟨i, j, rfl, q _ _ _ (Le.refl F) hs (.int _)⟩
theorem dc_min (hc : X.calm = true) : DC X (.builtin "min") minR := by
  refine dc_of (call_min2 hc) mono_minR ?_
  rintro vs H Q ⟨F, M, ds, hs, rs, q⟩
  match ds, rs, q with
  | [.int i, .int j], .cons r1 (.cons r2 .nil), q => cases r1; cases r2; exact ⟨i, j, rfl, q _ _ _ (Le.refl F) hs (.int _)⟩

/-! any, all of bools; sum, max, min of a list of ints -/
def asBl : List D → Option (List Bool)
  | [] => some []
  | .bl b :: r => (asBl r).map fun l => b :: l
  | _ :: _ => none
theorem asBl_eq : ∀ {ds : List D} {bs : List Bool}, asBl ds = some bs → ds = bs.map D.bl
  | [], _, h => by cases h; rfl
  | .bl b :: r, _, h => by
    have h' : (asBl r).map (fun l => b :: l) = some _ := h
    obtain ⟨l, e1, e2⟩ := Option.map_eq_some_iff.mp h'
    subst e2
    rw [asBl_eq e1]; rfl
theorem asBl_map (bs : List Bool) : asBl (bs.map D.bl) = some bs := by
  induction bs with
  | nil => rfl
  | cons b r ih => show (asBl (r.map D.bl)).map _ = _; rw [ih]; rfl
def asIn : List D → Option (List Int)
  | [] => some []
  | .int b :: r => (asIn r).map fun l => b :: l
  | _ :: _ => none
theorem asIn_eq : ∀ {ds : List D} {bs : List Int}, asIn ds = some bs → ds = bs.map D.int
  | [], _, h => by cases h; rfl
  | .int b :: r, _, h => by
    have h' : (asIn r).map (fun l => b :: l) = some _ := h
    obtain ⟨l, e1, e2⟩ := Option.map_eq_some_iff.mp h'
    subst e2
    rw [asIn_eq e1]; rfl
theorem asIn_map (bs : List Int) : asIn (bs.map D.int) = some bs := by
  induction bs with
  | nil => rfl
  | cons b r ih => show (asIn (r.map D.int)).map _ = _; rw [ih]; rfl
def asStr : List D → Option (List Str)
  | [] => some []
  | .str b :: r => (asStr r).map fun l => b :: l
  | _ :: _ => none
theorem asStr_eq : ∀ {ds : List D} {bs : List Str}, asStr ds = some bs → ds = bs.map D.str
  | [], _, h => by cases h; rfl
  | .str b :: r, _, h => by
    have h' : (asStr r).map (fun l => b :: l) = some _ := h
    obtain ⟨l, e1, e2⟩ := Option.map_eq_some_iff.mp h'
    subst e2
    rw [asStr_eq e1]; rfl
theorem asStr_map (bs : List Str) : asStr (bs.map D.str) = some bs := by
  induction bs with
  | nil => rfl
  | cons b r ih => show (asStr (r.map D.str)).map _ = _; rw [ih]; rfl
/-- a list, frozen or a cell, read -/
def seeL (M : MH) : D → Option (List D)
  | .lst xs => some xs
  | .ref p => match (M p).map unlk with
    | some (.lst xs) => some xs
    | _ => none
  | _ => none
theorem seeL_rep {c : Ctx} {F H : Hp} {M : MH} (hs : HS c F H M) {v : V} {d : D} {xs : List D} (r : Rep c F v d) (h : seeL M d = some xs) : ∃ a vs, v = .ref a ∧ SqL c.K H a vs ∧ Reps c F vs xs := by
  cases r with
  | lst h1 h2 => cases h; exact ⟨_, _, rfl, hs.sqL h1, h2⟩
  | ref p =>
    have h : (match (M p).map unlk with
      | some (.lst xs) => some xs
      | _ => none) = some xs := h
    cases e : (M p).map unlk with
    | none => rw [e] at h; cases h
    | some m =>
      rw [e] at h
      cases m with
      | lst ys => cases h; obtain ⟨vs, sl, rr⟩ := hs.celLk e; exact ⟨_, _, rfl, sl, rr⟩
      | _ => cases h
  | _ => cases h
def one (k : D → MH → DQ → Prop) : RDC := fun ds M Q => match ds with
  | [d] => k d M Q
  | _ => False
def anyR : RDC := one fun d M Q => oQ (seeL M d) fun xs => oQ (asBl xs) fun bs => Q (.bl (bs.any id)) M
def allR : RDC := one fun d M Q => oQ (seeL M d) fun xs => oQ (asBl xs) fun bs => Q (.bl (bs.all id)) M
def sumR : RDC := one fun d M Q => oQ (seeL M d) fun xs => oQ (asIn xs) fun ns => Q (.int ns.sum) M
def maxLR : RDC := one fun d M Q => oQ (seeL M d) fun xs => oQ (asIn xs) fun ns => 0 < ns.length ∧ ∀ m, m ∈ ns → (∀ y, y ∈ ns → y ≤ m) → Q (.int m) M
def minLR : RDC := one fun d M Q => oQ (seeL M d) fun xs => oQ (asIn xs) fun ns => 0 < ns.length ∧ ∀ m, m ∈ ns → (∀ y, y ∈ ns → m ≤ y) → Q (.int m) M
theorem mono_one {k : D → MH → DQ → Prop} (h : ∀ d M (Q Q' : DQ), (∀ d M', Q d M' → Q' d M') → k d M Q → k d M Q') : MonoC (one k) := by
  intro ds M Q Q' kk q
  match ds, q with
  | [d], q => exact h d M Q Q' kk q
theorem one_get {k : D → MH → DQ → Prop} {c : Ctx} {F : Hp} {vs : List V} {ds : List D} {M : MH} {Q : DQ} (rs : Reps c F vs ds) (q : one k ds M Q) : ∃ v d, vs = [v] ∧ ds = [d] ∧ Rep c F v d ∧ k d M Q := by
  match ds, rs, q with
  | [d], .cons r .nil, q => exact ⟨_, d, rfl, rfl, r, q⟩
theorem dc_any (hc : X.calm = true) : DC X (.builtin "any") anyR := by
  refine dc_of (cr_any hc) (mono_one fun d M Q Q' k h => oQ_mono (fun _ h => oQ_mono (fun _ h => k _ _ h) h) h) ?_
  rintro vs H Q ⟨F, M, ds, hs, rs, q⟩
  obtain ⟨v, d, rfl, rfl, r, q⟩ := one_get rs q
  obtain ⟨xs, e1, q⟩ := oQ_get q
  obtain ⟨bs, e2, q⟩ := oQ_get q
  obtain ⟨a, us, rfl, sl, rr⟩ := seeL_rep hs r e1
  rw [asBl_eq e2] at rr
  exact ⟨a, bs, rfl, by rw [← rr.bls]; exact sl, q _ _ _ (Le.refl F) hs (.bl _)⟩
theorem dc_all (hc : X.calm = true) : DC X (.builtin "all") allR := by
  refine dc_of (cr_all hc) (mono_one fun d M Q Q' k h => oQ_mono (fun _ h => oQ_mono (fun _ h => k _ _ h) h) h) ?_
  rintro vs H Q ⟨F, M, ds, hs, rs, q⟩
  obtain ⟨v, d, rfl, rfl, r, q⟩ := one_get rs q
  obtain ⟨xs, e1, q⟩ := oQ_get q
  obtain ⟨bs, e2, q⟩ := oQ_get q
  obtain ⟨a, us, rfl, sl, rr⟩ := seeL_rep hs r e1
  rw [asBl_eq e2] at rr
  exact ⟨a, bs, rfl, by rw [← rr.bls]; exact sl, q _ _ _ (Le.refl F) hs (.bl _)⟩
end
end FM

set_option Elab.async false
set_option linter.all false
set_option maxRecDepth 100000
set_option maxHeartbeats 2000000
/-! FE: calls of defs, methods, classes; statements; loops, over data. -/
namespace FM
open PySem PySem.Spec L2
open PyProof.Rows hiding St

/-! ### promises over data -/
/-- what is wanted of an exception: its class, its fields -/
abbrev DX := Addr → List (Str × D) → MH → Prop
abbrev SpD := List D → MH → DQ → DX → Prop
def dnX (c : Ctx) (F : Hp) (E : XK) : DX := fun C fs M' => ∀ F' H' d vfs, Le F F' → HS c F' H' M' → H' d = some (.xd vfs) → RepF c F' vfs fs → E (.ref C) (some d) H'
theorem dnX_le {c : Ctx} {F F' : Hp} {E : XK} (l : Le F F') : ∀ C fs M, dnX c F E C fs M → dnX c F' E C fs M := fun _ _ _ h F2 H2 d vfs l2 => h F2 H2 d vfs (l.trans l2)
def upSp (c : Ctx) (sp : SpD) : Sp := fun vs H Q E => ∃ F M ds, HS c F H M ∧ Reps c F vs ds ∧ sp ds M (dnE c F Q) (dnX c F E)
def MonoSp (sp : SpD) : Prop := ∀ ds M (Q Q' : DQ) (E E' : DX), (∀ d M', Q d M' → Q' d M') → (∀ C fs M', E C fs M' → E' C fs M') → sp ds M Q E → sp ds M Q' E'
/-- f(..) -/
def dCall (sp : SpD) (dds : List D) (E : DX) (τs : TDA) : TDE := fun δ M Q => τs δ M fun ds M1 => sp (ds ++ dds) M1 Q E
/-- o.m(..) of an instance of the class at C -/
def dMeth (C : Addr) (m : Str) (sp : SpD) (dds : List D) (E : DX) (τ : TDE) (τs : TDA) : TDE := fun δ M Q => τ δ M fun x M1 => ∃ p fs, x = .ref p ∧ M1 p = some (.ins C fs) ∧ fs.lookup m = none ∧ τs δ M1 fun ds M2 => sp (.ref p :: (ds ++ dds)) M2 Q E
/-- C(..) -/
def dMake (C : Addr) (sp : SpD) (dds : List D) (E : DX) (τs : TDA) : TDE := fun δ M Q => τs δ M fun ds M1 => ∀ p, M1 p = none → sp (.ref p :: (ds ++ dds)) (updM M1 p (.ins C [])) (fun d M2 => d = .non ∧ Q (.ref p) M2) E
section
variable {X : Cx} {B : Hp} {CX : CXT} {k : Nat} {f C : Addr} {fd : FuncData} {ps : List Str} {sp : SpD} {dvs : List V} {dds : List D} {ds : List Value} {E : XK} {x m : Str} {p pos apos : Pos} {e o : Expr} {es : List Expr} {τ : TDE} {τs : TDA}
theorem mono_call {E : DX} (ms : MonoSp sp) (ma : MonoA τs) : MonoE (dCall sp dds E τs) := fun δ M Q Q' k h => ma _ _ _ _ (fun ds M1 h1 => ms _ _ _ _ _ _ k (fun _ _ _ z => z) h1) h
theorem up_call {c : Ctx} (ms : MonoSp sp) (ma : MonoA τs) (hdd : ∀ F, Reps c F dvs dds) {σ : L2.St} {H : Hp} {Q : VK} (h : upE c B (dCall sp dds (dnX c B E) τs) σ H Q) : tCall (upSp c sp) dvs E (upA c B τs) σ H Q := by
  obtain ⟨F, δ, M, lb, hs, ev, q⟩ := h
  exact upA_bind ma lb hs ev q fun ds M1 vs F1 H1 l1 hs1 ev1 rs q1 => ⟨F1, M1, ds ++ dds, hs1, rs.append (hdd F1), ms _ _ _ _ _ _ (dnE_le l1) (dnX_le (lb.trans l1)) q1⟩
theorem de_call (F : FnOk X.prog X.w X.K X.mg X.base CX k f fd ps (upSp (cOf X) sp)) (ms : MonoSp sp) (hr : Room k X.A) (hg : Gl X x) (hm : X.mg x = some (.ref f)) (hk : PySem.W.keepIn X.K (.ref f) = true) (hb : Binds X.K fd ps ds) (hd : Vals dvs ds) (hdd : ∀ F, Reps (cOf X) F dvs dds) (hx : Passes CX X E)
    (ha : DA X B (e :: es) τs) (hdb : (x == ("__debug__" : Str)) = false := by decide) (he : starEach (e :: es) X.env = (false, eval e X.env) :: starEach es X.env := by rfl) (hpl : (backTo pos (starEach es X.env)).any (·.1) = false := by rfl) :
    DE X B (.Call (.Name x p) (e :: es) [] pos) (dCall sp dds (dnX (cOf X) B E) τs) :=
  ⟨PE.imp (pe_call F hr hg hm hk hb hd hx ha.pa hdb he hpl) fun _ _ _ h => up_call ms ha.mono hdd h, mono_call ms ha.mono⟩
theorem de_call0 (F : FnOk X.prog X.w X.K X.mg X.base CX k f fd ps (upSp (cOf X) sp)) (ms : MonoSp sp) (hr : Room k X.A) (hg : Gl X x) (hm : X.mg x = some (.ref f)) (hk : PySem.W.keepIn X.K (.ref f) = true) (hb : Binds X.K fd ps ds) (hd : Vals dvs ds) (hdd : ∀ F, Reps (cOf X) F dvs dds) (hx : Passes CX X E)
    (hdb : (x == ("__debug__" : Str)) = false := by decide) : DE X B (.Call (.Name x p) [] [] pos) (dCall sp dds (dnX (cOf X) B E) dNil) := by
  refine ⟨PE.imp (pe_call0 F hr hg hm hk hb hd hx hdb) fun σ H Q h => ?_, mono_call ms (fun _ _ _ _ k h => k _ _ h)⟩
  obtain ⟨F1, δ, M, lb, hs, ev, q⟩ := h
  exact ⟨F1, M, dds, hs, hdd F1, ms _ _ _ _ _ _ (fun _ _ z => z) (dnX_le lb) q⟩
theorem mono_meth {E : DX} (ms : MonoSp sp) (m1 : MonoE τ) (ma : MonoA τs) : MonoE (dMeth C m sp dds E τ τs) := fun δ M Q Q' k h =>
  m1 _ _ _ _ (fun x M1 ⟨p, fs, h1, h2, h3, h4⟩ => ⟨p, fs, h1, h2, h3, ma _ _ _ _ (fun ds M2 h5 => ms _ _ _ _ _ _ k (fun _ _ _ z => z) h5) h4⟩) h
theorem up_meth {c : Ctx} (ms : MonoSp sp) (m1 : MonoE τ) (ma : MonoA τs) (hdd : ∀ F, Reps c F dvs dds) {σ : L2.St} {H : Hp} {Q : VK} (h : upE c B (dMeth C m sp dds (dnX c B E) τ τs) σ H Q) : tMeth C m (upSp c sp) dvs E (upE c B τ) (upA c B τs) σ H Q := by
  obtain ⟨F, δ, M, lb, hs, ev, q⟩ := h
  refine upE_bind m1 lb hs ev q fun x M1 v F1 H1 l1 hs1 ev1 r ⟨p, fs, e1, e2, e3, q1⟩ => ?_
  subst e1
  cases r
  obtain ⟨dx, vs, eh, rf⟩ := hs1.celI e2
  refine ⟨p, dx, vs, rfl, eh, rf.none e3, ?_⟩
  exact upA_bind ma (lb.trans l1) hs1 ev1 q1 fun ds M2 vs F2 H2 l2 hs2 ev2 rs q2 => ⟨F2, M2, .ref p :: (ds ++ dds), hs2, .cons (.ref p) (rs.append (hdd F2)), ms _ _ _ _ _ _ (dnE_le (l1.trans l2)) (dnX_le (lb.trans (l1.trans l2))) q2⟩
theorem de_meth {pl : Sem Bool} (he : DE X B o τ) (c : Cls X.K C) (hm : Meth X.K C m f) (F : FnOk X.prog X.w X.K X.mg X.base CX k f fd ps (upSp (cOf X) sp)) (ms : MonoSp sp) (hr : Room k X.A) (hb : Binds X.K fd ps ds) (hd : Vals dvs ds) (hdd : ∀ F, Reps (cOf X) F dvs dds) (hx : Passes CX X E) (ha : DA X B (e :: es) τs)
    (hst : starEach (e :: es) X.env = (false, eval e X.env) :: starEach es X.env := by rfl) (hpl : (backTo pos (starEach es X.env)).any (·.1) = false := by rfl)
    (ht : eval (.Call (.Attribute o m apos) (e :: es) [] pos) X.env = (do
      let ov ← eval o X.env
      standAt apos.atName
      let (f, first) ← holding [ov] (getMethod ov m pl)
      callWith pos f first (backTo pos (starEach (e :: es) X.env)) (backToKw pos (keywordEach [] X.env))) := by rfl) :
    DE X B (.Call (.Attribute o m apos) (e :: es) [] pos) (dMeth C m sp dds (dnX (cOf X) B E) τ τs) :=
  ⟨PE.imp (pe_meth he.pe c hm F hr hb hd hx ha.pa hst hpl ht) fun _ _ _ h => up_meth ms he.mono ha.mono hdd h, mono_meth ms he.mono ha.mono⟩
theorem de_meth0 {pl : Sem Bool} (he : DE X B o τ) (c : Cls X.K C) (hm : Meth X.K C m f) (F : FnOk X.prog X.w X.K X.mg X.base CX k f fd ps (upSp (cOf X) sp)) (ms : MonoSp sp) (hr : Room k X.A) (hb : Binds X.K fd ps ds) (hd : Vals dvs ds) (hdd : ∀ F, Reps (cOf X) F dvs dds) (hx : Passes CX X E)
    (ht : eval (.Call (.Attribute o m apos) [] [] pos) X.env = (do
      let ov ← eval o X.env
      standAt apos.atName
      let (f, first) ← holding [ov] (getMethod ov m pl)
      callWith pos f first (backTo pos (starEach [] X.env)) (backToKw pos (keywordEach [] X.env))) := by rfl) :
    DE X B (.Call (.Attribute o m apos) [] [] pos) (dMeth C m sp dds (dnX (cOf X) B E) τ dNil) := by
  have mn : MonoA dNil := fun _ _ _ _ k h => k _ _ h
  refine ⟨PE.imp (pe_meth0 he.pe c hm F hr hb hd hx ht) fun σ H Q h => ?_, mono_meth ms he.mono mn⟩
  obtain ⟨F, δ, M, lb, hs, ev, q⟩ := h
  refine upE_bind he.mono lb hs ev q fun x M1 v F1 H1 l1 hs1 ev1 r ⟨p, fs, e1, e2, e3, q1⟩ => ?_
  subst e1
  cases r
  obtain ⟨dx, vs, eh, rf⟩ := hs1.celI e2
  exact ⟨p, dx, vs, rfl, eh, rf.none e3, F1, M1, .ref p :: dds, hs1, .cons (.ref p) (hdd F1), ms _ _ _ _ _ _ (dnE_le l1) (dnX_le (lb.trans l1)) q1⟩
theorem mono_make {E : DX} (ms : MonoSp sp) (ma : MonoA τs) : MonoE (dMake C sp dds E τs) := fun δ M Q Q' k h =>
  ma _ _ _ _ (fun ds M1 h1 p hp => ms _ _ _ _ _ _ (fun d M2 q => ⟨q.1, k _ _ q.2⟩) (fun _ _ _ z => z) (h1 p hp)) h
theorem de_make (M : Mk X.K C f) (F : FnOk X.prog X.w X.K X.mg X.base CX k f fd ps (upSp (cOf X) sp)) (ms : MonoSp sp) (hr : Room (k + 1) X.A) (hg : Gl X x) (hm : X.mg x = some (.ref C)) (hb : Binds X.K fd ps ds) (hd : Vals dvs ds) (hdd : ∀ F, Reps (cOf X) F dvs dds) (hx : Passes CX X E)
    (ha : DA X B (e :: es) τs) (hdb : (x == ("__debug__" : Str)) = false := by decide) (he : starEach (e :: es) X.env = (false, eval e X.env) :: starEach es X.env := by rfl) (hpl : (backTo pos (starEach es X.env)).any (·.1) = false := by rfl) :
    DE X B (.Call (.Name x p) (e :: es) [] pos) (dMake C sp dds (dnX (cOf X) B E) τs) := by
  refine ⟨PE.imp (pe_make M F hr hg hm hb hd hx ha.pa hdb he hpl) fun σ H Q h => ?_, mono_make ms ha.mono⟩
  obtain ⟨F, δ, M, lb, hs, ev, q⟩ := h
  refine upA_bind ha.mono lb hs ev q fun ds M1 vs F1 H1 l1 hs1 ev1 rs q1 => fun x dx hx hdx hne => ?_
  have hs2 := hs1.newO hdx (.own x)
  have hx2 : upd H1 dx (.own x) x = none := by rw [upd_ne (Ne.symm hne)]; exact hx
  have hs3 := hs2.newM hx2 (m := .ins C []) (.ins (dx := dx) .nil)
  refine ⟨F1, _, .ref x :: (ds ++ dds), hs3, .cons (.ref x) (rs.append (hdd F1)), ms _ _ _ _ _ _ (fun d M2 q => ?_) (dnX_le (lb.trans l1)) (q1 x (hs1.fM hx))⟩
  intro v F2 H2 l2 hs4 r
  obtain ⟨q1, q2⟩ := q
  subst q1
  cases r
  exact ⟨rfl, q2 _ _ _ (l1.trans l2) hs4 (.ref x)⟩
theorem de_make0 (M : Mk X.K C f) (F : FnOk X.prog X.w X.K X.mg X.base CX k f fd ps (upSp (cOf X) sp)) (ms : MonoSp sp) (hr : Room (k + 1) X.A) (hg : Gl X x) (hm : X.mg x = some (.ref C)) (hb : Binds X.K fd ps ds) (hd : Vals dvs ds) (hdd : ∀ F, Reps (cOf X) F dvs dds) (hx : Passes CX X E)
    (hdb : (x == ("__debug__" : Str)) = false := by decide) : DE X B (.Call (.Name x p) [] [] pos) (dMake C sp dds (dnX (cOf X) B E) dNil) := by
  refine ⟨PE.imp (pe_make0 M F hr hg hm hb hd hx hdb) fun σ H Q h => ?_, mono_make ms (fun _ _ _ _ k h => k _ _ h)⟩
  obtain ⟨F, δ, M, lb, hs, ev, q⟩ := h
  intro x dx hx hdx hne
  have hs2 := hs.newO hdx (.own x)
  have hx2 : upd H dx (.own x) x = none := by rw [upd_ne (Ne.symm hne)]; exact hx
  have hs3 := hs2.newM hx2 (m := .ins C []) (.ins (dx := dx) .nil)
  refine ⟨F, _, .ref x :: dds, hs3, .cons (.ref x) (hdd F), ms _ _ _ _ _ _ (fun d M2 q => ?_) (dnX_le lb) (q x (hs.fM hx))⟩
  intro v F2 H2 l2 hs4 r
  obtain ⟨q1, q2⟩ := q
  subst q1
  cases r
  exact ⟨rfl, q2 _ _ _ l2 hs4 (.ref x)⟩
end

/-! ### methods of lists -/
abbrev RDM := D → List D → MH → DQ → Prop
def upM (c : Ctx) (r : RDM) : V → List V → Hp → VK → Prop := fun v vs H Q => ∃ F M d ds, HS c F H M ∧ Rep c F v d ∧ Reps c F vs ds ∧ r d ds M (dnE c F Q)
def MonoM (r : RDM) : Prop := ∀ d ds M (Q Q' : DQ), (∀ d M', Q d M' → Q' d M') → r d ds M Q → r d ds M Q'
/-- the receiver is of the type: a list cell or a frozen list; a dict; a text -/
def tyD (T : String) (d : D) (M : MH) : Prop := match d with
  | .lst _ => T = "list"
  | .tup _ => T = "tuple"
  | .str _ => T = "str"
  | .ref p => T = "list" ∧ ∃ xs, (M p).map unlk = some (.lst xs)
  | _ => False
def dBM (T : String) (r : RDM) (τ : TDE) (τs : TDA) : TDE := fun δ M Q => τ δ M fun d M1 => tyD T d M1 ∧ τs δ M1 fun ds M2 => r d ds M2 Q
section
variable {X : Cx} {B : Hp} {T name bid : String} {o e : Expr} {es : List Expr} {τ : TDE} {τs : TDA} {apos pos : Pos} {r : RDM}
end

/-! ### statements -/
def dNx : TDS := fun D δ M => D.nx δ M
def dSeq (t u : TDS) : TDS := fun D δ M => t { D with nx := u D } δ M
def dBrk : TDS := fun D δ M => D.bk δ M
def dCnt : TDS := fun D δ M => D.ct δ M
def dDrop (τ : TDE) : TDS := fun D δ M => τ δ M fun _ M1 => D.nx δ M1
def dRet (τ : TDE) : TDS := fun D δ M => τ δ M D.rt
def dRetN : TDS := fun D _ M => D.rt .non M
def dIfS (ρ : TDT) (t u : TDS) : TDS := fun D δ M => ρ δ M fun b M1 => ifB b (t D δ M1) (u D δ M1)
def dNev : TDS := fun _ _ _ => False
/-- ghost: from here on the cell that the i-th name holds is frozen data -/
def dFrzS (i : Nat) (t : TDS) : TDS := fun D δ M => oQ (slot δ i) fun d => match d with
  | .ref p => oQ (M p) fun m => (match m with
    | .lst xs => t D (put δ i (some (.lst xs))) (delM M p)
    | .dic ks => t D (put δ i (some (.dic ks))) (delM M p)
    | .dit ks => t D (put δ i (some (.dit ks))) (delM M p)
    | _ => False)
  | _ => False
section
variable {X : Cx} {B : Hp} {st : Stmt} {rest : List Stmt} {t u : TDS} {e : Expr} {τ : TDE} {ρ : TDT} {pos : Pos}
theorem mono_seq (m1 : MonoS t) (m2 : MonoS u) : MonoS (dSeq t u) := fun D D' δ M l h => m1 { D with nx := u D } _ _ _ ⟨fun δ M h => m2 D D' _ _ l h, l.rt, l.bk, l.ct⟩ h
theorem dss_nil : DSs X B [] dNx := ⟨PSs.imp pss_nil fun D σ H ⟨F, δ, M, lb, hs, ev, q⟩ => q σ F H (Le.refl F) hs ev, fun _ _ _ _ l h => l.nx _ _ h⟩
theorem dss_cons (h1 : DS X B st t) (h2 : DSs X B rest u) : DSs X B (st :: rest) (dSeq t u) := by
  refine ⟨PSs.imp (pss_cons h1.ps h2.ps) fun D σ H h => ?_, mono_seq h1.mono h2.mono⟩
  obtain ⟨F, δ, M, lb, hs, ev, q⟩ := h
  refine ⟨F, δ, M, lb, hs, ev, h1.mono { dnS (cOf X) F D with nx := u (dnS (cOf X) F D) } _ _ _ ⟨fun δ' M' q' σ' F' H' l hs' ev' => ?_, fun _ _ z => z, fun _ _ z => z, fun _ _ z => z⟩ q⟩
  exact ⟨F', δ', M', lb.trans l, hs', ev', h2.mono _ _ _ _ (dnS_le l) q'⟩
theorem dss_one (h1 : DS X B st t) : DSs X B [st] t := ⟨PSs.imp (pss_one h1.ps) fun _ _ _ h => h, h1.mono⟩
theorem ds_pass : DS X B (.Pass pos) dNx := ⟨PS.imp ps_pass fun D σ H ⟨F, δ, M, lb, hs, ev, q⟩ => q σ F H (Le.refl F) hs ev, fun _ _ _ _ l h => l.nx _ _ h⟩
theorem ds_break : DS X B (.Break pos) dBrk := ⟨PS.imp ps_break fun D σ H ⟨F, δ, M, lb, hs, ev, q⟩ => q σ F H (Le.refl F) hs ev, fun _ _ _ _ l h => l.bk _ _ h⟩
theorem ds_continue : DS X B (.Continue pos) dCnt := ⟨PS.imp ps_continue fun D σ H ⟨F, δ, M, lb, hs, ev, q⟩ => q σ F H (Le.refl F) hs ev, fun _ _ _ _ l h => l.ct _ _ h⟩
theorem ds_doc {x j p2} : DS X B (.Expr (.Constant (.str x) j p2) pos) dNx := ⟨PS.imp ps_doc fun D σ H ⟨F, δ, M, lb, hs, ev, q⟩ => q σ F H (Le.refl F) hs ev, fun _ _ _ _ l h => l.nx _ _ h⟩
theorem ds_expr (he : DE X B e τ) (hs : swapsWith e none pos.line X.env = pure false := by rfl) : DS X B (.Expr e pos) (dDrop τ) := by
  refine ⟨PS.imp (ps_expr he.pe hs) fun D σ H h => ?_, fun D D' δ M l h => he.mono _ _ _ _ (fun _ _ q => l.nx _ _ q) h⟩
  obtain ⟨F, δ, M, lb, hs, ev, q⟩ := h
  exact upE_bind he.mono lb hs ev q fun d M1 v F1 H1 l1 hs1 ev1 r q1 => q1 σ F1 H1 l1 hs1 ev1
theorem ds_ret (he : DE X B e τ) : DS X B (.Return (some e) pos) (dRet τ) := by
  refine ⟨PS.imp (ps_ret he.pe) fun D σ H h => ?_, fun D D' δ M l h => he.mono _ _ _ _ (fun _ _ q => l.rt _ _ q) h⟩
  obtain ⟨F, δ, M, lb, hs, ev, q⟩ := h
  exact upE_bind he.mono lb hs ev q fun d M1 v F1 H1 l1 hs1 ev1 r q1 => q1 v F1 H1 l1 hs1 r
theorem ds_retN : DS X B (.Return none pos) dRetN := ⟨PS.imp ps_retN fun D σ H ⟨F, δ, M, lb, hs, ev, q⟩ => q .non F H (Le.refl F) hs .non, fun _ _ _ _ l h => l.rt _ _ h⟩
theorem ds_if {c : Expr} {a b : List Stmt} (hc : DT X B c ρ) (ha : DSs X B a t) (hb : DSs X B b u) : DS X B (.If c a b pos) (dIfS ρ t u) := by
  refine ⟨PS.imp (ps_if hc.pt ha.ps hb.ps) fun D σ H h => ?_, fun D D' δ M l h => hc.mono _ _ _ _ (fun _ _ q => ifB_mono (ha.mono _ _ _ _ l) (hb.mono _ _ _ _ l) q) h⟩
  obtain ⟨F, δ, M, lb, hs, ev, q⟩ := h
  refine upT_bind hc.mono lb hs ev q fun k M1 F1 H1 l1 hs1 ev1 q1 => ?_
  cases k with
  | true => rw [if_pos rfl]; exact ⟨F1, δ, M1, lb.trans l1, hs1, ev1, ha.mono _ _ _ _ (dnS_le l1) (q1.1 rfl)⟩
  | false => rw [if_neg Bool.false_ne_true]; exact ⟨F1, δ, M1, lb.trans l1, hs1, ev1, hb.mono _ _ _ _ (dnS_le l1) (q1.2 rfl)⟩
theorem ds_never : DS X B st dNev := ⟨PS.imp ps_never fun D σ H ⟨F, δ, M, lb, hs, ev, q⟩ => q, fun _ _ _ _ _ h => h⟩
theorem dss_never {sts : List Stmt} : DSs X B sts dNev := ⟨PSs.imp pss_never fun D σ H ⟨F, δ, M, lb, hs, ev, q⟩ => q, fun _ _ _ _ _ h => h⟩
theorem ds_frz (i : Nat) (h : DS X B st t) : DS X B st (dFrzS i t) := by
  refine ⟨PS.imp (PS.locked h.ps) fun D σ H hq => ?_, fun D D' δ M l hq => oQ_mono (fun d q => ?_) hq⟩
  · obtain ⟨F, δ, M, lb, hs, ev, q⟩ := hq
    obtain ⟨d, ed, q⟩ := oQ_get q
    cases d with
    | ref p =>
      obtain ⟨m, em, q⟩ := oQ_get q
      obtain ⟨o, eo, ro⟩ := hs.cel p m em
      cases m with
      | lst xs =>
        obtain ⟨l2, hs2⟩ := hs.frz em eo
        cases ro with | lst ro =>
        exact .inl ⟨_, _, _, lb.trans l2, hs2, (ev.mono l2).turn i ed (fun v r => by cases r; exact .lst upd_same (ro.mono l2)), h.mono _ _ _ _ (dnS_le l2) q⟩
      | dic xs =>
        cases ro with | dic ro =>
        refine .inr ⟨p, _, eo, trivial, fun od => ?_⟩
        obtain ⟨l2, hs2⟩ := hs.frzL (od := od) (o := .dK _) em
        exact ⟨_, _, _, lb.trans l2, hs2, (ev.mono l2).turn i ed (fun v r => by cases r; exact .dic upd_same (ro.mono l2)), h.mono _ _ _ _ (dnS_le l2) q⟩
      | dit xs =>
        cases ro with | dit ro =>
        refine .inr ⟨p, _, eo, trivial, fun od => ?_⟩
        obtain ⟨l2, hs2⟩ := hs.frzL (od := od) (o := .dT _) em
        exact ⟨_, _, _, lb.trans l2, hs2, (ev.mono l2).turn i ed (fun v r => by cases r; exact .dit upd_same (ro.mono l2)), h.mono _ _ _ _ (dnS_le l2) q⟩
      | _ => exact (show False from q).elim
    | _ => exact (show False from q).elim
  · cases d with
    | ref p => exact oQ_mono (fun m q => by cases m <;> first | exact h.mono _ _ _ _ l q | exact q) q
    | _ => exact q

/-! ### targets -/
abbrev TDG := D → DSt → MH → (DSt → MH → Prop) → Prop
abbrev TDGs := List D → DSt → MH → (DSt → MH → Prop) → Prop
def upG (c : Ctx) (B : Hp) (g : TDG) : TG := fun v σ H Q => ∃ F δ M d, Le B F ∧ HS c F H M ∧ EnvR c F σ δ ∧ Rep c F v d ∧ g d δ M (dnN c F Q)
def upGs (c : Ctx) (B : Hp) (g : TDGs) : TGs := fun vs σ H Q => ∃ F δ M ds, Le B F ∧ HS c F H M ∧ EnvR c F σ δ ∧ Reps c F vs ds ∧ g ds δ M (dnN c F Q)
structure DG (X : Cx) (B : Hp) (tg : Expr) (g : TDG) : Prop where
  pg : PG X tg (upG (cOf X) B g)
  mono : ∀ d δ M (Q Q' : DSt → MH → Prop), (∀ δ M, Q δ M → Q' δ M) → g d δ M Q → g d δ M Q'
structure DGs (X : Cx) (B : Hp) (ts : List Expr) (g : TDGs) : Prop where
  pg : PGs X ts (upGs (cOf X) B g)
  mono : ∀ d δ M (Q Q' : DSt → MH → Prop), (∀ δ M, Q δ M → Q' δ M) → g d δ M Q → g d δ M Q'
theorem PG.imp {tg : Expr} {t t' : TG} (h : PG X tg t) (k : ∀ v σ H Q, t' v σ H Q → t v σ H Q) : PG X tg t' := ⟨fun pins s σ H v u Q I r q => h.run pins s σ H v u Q I r (k v σ H Q q)⟩
theorem PGs.imp {tg : List Expr} {t t' : TGs} (h : PGs X tg t) (k : ∀ v σ H Q, t' v σ H Q → t v σ H Q) : PGs X tg t' := ⟨fun pins s σ H v u Q I r q => h.run pins s σ H v u Q I r (k v σ H Q q)⟩
def dgN (i : Nat) : TDG := fun d δ M Q => Q (put δ i (some d)) M
def dgNil : TDGs := fun ds δ M Q => match ds with
  | [] => Q δ M
  | _ => False
def dgCons (t : TDG) (u : TDGs) : TDGs := fun ds δ M Q => match ds with
  | d :: r => t d δ M fun δ' M' => u r δ' M' Q
  | _ => False
def dgTup (n : Nat) (t : TDGs) : TDG := fun d δ M Q => match d with
  | .tup ds => ds.length = n ∧ t ds δ M Q
  | _ => False
theorem dg_name {i : Nat} {x : Str} (hN : X.N.Nodup) (hi : X.N[i]? = some x) (hx : Loc X.env.scope x) (hf : X.fn x = true ∨ X.env.scope.names.lookup x = some .local := by first | exact .inl rfl | exact .inr rfl | assumption) : DG X B (.Name x pos) (dgN i) :=
  ⟨PG.imp (pg_name hN hi hx hf) fun v σ H Q ⟨F, δ, M, d, lb, hs, ev, r, q⟩ => q _ F H (Le.refl F) hs (ev.put i r), fun _ _ _ _ _ k h => k _ _ h⟩
theorem dgs_nil : DGs X B [] dgNil := by
  refine ⟨PGs.imp pgs_nil fun vs σ H Q ⟨F, δ, M, ds, lb, hs, ev, rs, q⟩ => ?_, fun ds _ _ _ _ k h => by cases ds <;> first | exact k _ _ h | exact h⟩
  cases rs with
  | nil => exact ⟨rfl, q _ F H (Le.refl F) hs ev⟩
  | cons _ _ => exact (show False from q).elim
theorem dgs_cons {tg : Expr} {ts : List Expr} {t : TDG} {u : TDGs} (h1 : DG X B tg t) (h2 : DGs X B ts u) (hs : (assignEach (tg :: ts) X.env).map (·.2) = assign tg X.env :: (assignEach ts X.env).map (·.2) := by rfl) : DGs X B (tg :: ts) (dgCons t u) := by
  refine ⟨PGs.imp (pgs_cons h1.pg h2.pg hs) fun vs σ H Q ⟨F, δ, M, ds, lb, hs, ev, rs, q⟩ => ?_, fun ds _ _ _ _ k h => by
    cases ds with
    | nil => exact h
    | cons d r => exact h1.mono _ _ _ _ _ (fun _ _ q => h2.mono _ _ _ _ _ k q) h⟩
  cases rs with
  | nil => exact (show False from q).elim
  | cons r rr =>
    refine ⟨_, _, rfl, F, δ, M, _, lb, hs, ev, r, h1.mono _ _ _ _ _ (fun δ' M' q' => ?_) q⟩
    intro σ' F' H' l hs' ev'
    exact ⟨F', δ', M', _, lb.trans l, hs', ev', rr.mono l, h2.mono _ _ _ _ _ (dnN_le l) q'⟩
theorem dg_tup {es : List Expr} {k : Nat} {t : TDGs} {n : Nat} (hc : X.calm = true) (h : DGs X B es t) (hn : (assignEach es X.env).length = n := by rfl) (hst : (assignEach es X.env).findIdx? (·.1) = none := by rfl) : DG X B (.Tuple es k pos) (dgTup n t) := by
  refine ⟨PG.imp (pg_tup hc h.pg hn hst) fun v σ H Q ⟨F, δ, M, d, lb, hs, ev, r, q⟩ => ?_, fun d _ _ _ _ k q => by
    cases d with
    | tup ds => exact ⟨q.1, h.mono _ _ _ _ _ k q.2⟩
    | _ => exact q⟩
  cases r with
  | tup h1 h2 => exact ⟨_, _, rfl, hs.sqT h1, by rw [h2.length]; exact q.1, F, δ, M, _, lb, hs, ev, h2, q.2⟩
  | _ => exact (show False from q).elim
/-- target = value -/
def dAsg (τ : TDE) (g : TDG) : TDS := fun D δ M => τ δ M fun d M1 => g d δ M1 D.nx
def dSet (i : Nat) (τ : TDE) : TDS := fun D δ M => τ δ M fun d M1 => D.nx (put δ i (some d)) M1
theorem ds_asg {tg : Expr} {g : TDG} (he : DE X B e τ) (hg : DG X B tg g) (hs : swapsWithSole [tg] e pos.line X.env = pure false := by rfl) (hw : swappedStores [tg] e X.env = pure none := by rfl)
    (h1 : (assignEach [tg] X.env).map (·.2) = [assign tg X.env] := by rfl) : DS X B (.Assign [tg] e pos) (dAsg τ g) := by
  refine ⟨PS.imp (ps_asg he.pe hg.pg hs hw h1) fun D σ H h => ?_, fun D D' δ M l h => he.mono _ _ _ _ (fun _ _ q => hg.mono _ _ _ _ _ l.nx q) h⟩
  obtain ⟨F, δ, M, lb, hs, ev, q⟩ := h
  exact upE_bind he.mono lb hs ev q fun d M1 v F1 H1 l1 hs1 ev1 r q1 => ⟨F1, δ, M1, d, lb.trans l1, hs1, ev1, r, hg.mono _ _ _ _ _ (dnN_le l1) q1⟩
theorem ds_set {i : Nat} {x : Str} {pos' : Pos} (hN : X.N.Nodup) (hi : X.N[i]? = some x) (hx : Loc X.env.scope x) (he : DE X B e τ) (hs : swapsWith e (some (.Name x pos')) pos.line X.env = pure false := by rfl) (hf : X.fn x = true ∨ X.env.scope.names.lookup x = some .local := by first | exact .inl rfl | exact .inr rfl | assumption) :
    DS X B (.Assign [.Name x pos'] e pos) (dSet i τ) := by
  refine ⟨PS.imp (ps_set hN hi hx he.pe hs hf) fun D σ H h => ?_, fun D D' δ M l h => he.mono _ _ _ _ (fun _ _ q => l.nx _ _ q) h⟩
  obtain ⟨F, δ, M, lb, hs, ev, q⟩ := h
  exact upE_bind he.mono lb hs ev q fun d M1 v F1 H1 l1 hs1 ev1 r q1 => q1 _ F1 H1 l1 hs1 (ev1.put i r)
/-- a, b = x, y -/
def dPar (i j : Nat) (τs : TDA) : TDS := fun D δ M => τs δ M fun ds M1 => match ds with
  | [d, e] => D.nx (put (put δ i (some d)) j (some e)) M1
  | _ => False
theorem ds_par {i j : Nat} {x y : Str} {a b : Expr} {τs : TDA} {px py pt : Pos} {kt k2 pt2} (hc : X.calm = true) (hN : X.N.Nodup) (hi : X.N[i]? = some x) (hj : X.N[j]? = some y) (hij : i ≠ j)
    (hx : X.env.scope.names.lookup x = some .local) (hy : X.env.scope.names.lookup y = some .local) (ha : DA X B [a, b] τs)
    (hw : swappedStores [.Tuple [.Name x px, .Name y py] kt pt] (.Tuple [a, b] k2 pt2) X.env = pure (some [x, y]))
    (hs : swapsWithSole [.Tuple [.Name x px, .Name y py] kt pt] (.Tuple [a, b] k2 pt2) pos.line X.env = pure false := by rfl) :
    DS X B (.Assign [.Tuple [.Name x px, .Name y py] kt pt] (.Tuple [a, b] k2 pt2) pos) (dPar i j τs) := by
  refine ⟨PS.imp (ps_par hc hN hi hj hij hx hy ha.pa hw hs) fun D σ H h => ?_, fun D D' δ M l h => ha.mono _ _ _ _ (fun ds _ q => ?_) h⟩
  · obtain ⟨F, δ, M, lb, hs, ev, q⟩ := h
    refine upA_bind ha.mono lb hs ev q fun ds M1 vs F1 H1 l1 hs1 ev1 rs q1 => ?_
    match ds, rs, q1 with
    | [d, e], .cons r1 (.cons r2 .nil), q1 => exact ⟨_, _, rfl, q1 _ F1 H1 l1 hs1 ((ev1.put i r1).put j r2)⟩
  · match ds, q with
    | [d, e], q => exact l.nx _ _ q
def dPar3 (i j l : Nat) (τs : TDA) : TDS := fun D δ M => τs δ M fun ds M1 => match ds with
  | [d, e, f] => D.nx (put (put (put δ i (some d)) j (some e)) l (some f)) M1
  | _ => False
end
end FM

set_option Elab.async false
set_option linter.all false
set_option maxRecDepth 100000
set_option maxHeartbeats 2000000
/-! FF: more built-ins; stores; methods of built-in types. -/
namespace FM
open PySem PySem.Spec L2
open PyProof.Rows hiding St

section
variable {X : Cx} {B : Hp}
/-! ### sum, max, min -/
theorem mono_sumR : MonoC sumR := mono_one fun d M Q Q' k h => oQ_mono (fun _ h => oQ_mono (fun _ h => k _ _ h) h) h
theorem dc_sum (hc : X.calm = true) : DC X (.builtin "sum") sumR := by
  refine dc_of (cr_sum hc) mono_sumR ?_
  rintro vs H Q ⟨F, M, ds, hs, rs, q⟩
  obtain ⟨v, d, rfl, rfl, r, q⟩ := one_get rs q
  obtain ⟨xs, e1, q⟩ := oQ_get q
  obtain ⟨bs, e2, q⟩ := oQ_get q
  obtain ⟨a, us, rfl, sl, rr⟩ := seeL_rep hs r e1
  rw [asIn_eq e2] at rr
  exact ⟨a, bs, rfl, by rw [← rr.ints]; exact sl, q _ _ _ (Le.refl F) hs (.int _)⟩
/-- two ints, or a list of ints -/
def maxA2 (a b : D) (M : MH) (Q : DQ) : Prop := match a, b with
  | .int i, .int j => Q (.int (if j > i then j else i)) M
  | _, _ => False
def maxA : RDC := fun ds M Q => match ds with
  | [d] => oQ (seeL M d) fun xs => oQ (asIn xs) fun ns => 0 < ns.length ∧ ∀ m, m ∈ ns → (∀ y, y ∈ ns → y ≤ m) → Q (.int m) M
  | [a, b] => maxA2 a b M Q
  | _ => False
def minA2 (a b : D) (M : MH) (Q : DQ) : Prop := match a, b with
  | .int i, .int j => Q (.int (if j < i then j else i)) M
  | _, _ => False
def minA : RDC := fun ds M Q => match ds with
  | [d] => oQ (seeL M d) fun xs => oQ (asIn xs) fun ns => 0 < ns.length ∧ ∀ m, m ∈ ns → (∀ y, y ∈ ns → m ≤ y) → Q (.int m) M
  | [a, b] => minA2 a b M Q
  | _ => False
theorem mono_maxA : MonoC maxA := by
  intro ds M Q Q' k h
  match ds, h with
  | [a, b], h => cases a <;> first | exact h.elim | (cases b <;> first | exact h.elim | exact k _ _ h)
  | [d], h => exact oQ_mono (fun _ h => oQ_mono (fun _ h => ⟨h.1, fun m a b => k _ _ (h.2 m a b)⟩) h) h
theorem mono_minA : MonoC minA := by
  intro ds M Q Q' k h
  match ds, h with
  | [a, b], h => cases a <;> first | exact h.elim | (cases b <;> first | exact h.elim | exact k _ _ h)
  | [d], h => exact oQ_mono (fun _ h => oQ_mono (fun _ h => ⟨h.1, fun m a b => k _ _ (h.2 m a b)⟩) h) h
theorem dc_maxA (hc : X.calm = true) : DC X (.builtin "max") maxA := by
  refine dc_of (callR_or (call_max2 hc) (cr_max hc)) mono_maxA ?_
  rintro vs H Q ⟨F, M, ds, hs, rs, q⟩
  match ds, rs, q with
  | [a, b], .cons r1 (.cons r2 .nil), q =>
    cases a <;> first
      | exact (show False from q).elim
      | (cases b <;> first | exact (show False from q).elim | (cases r1; cases r2; exact .inl ⟨_, _, rfl, q _ _ _ (Le.refl F) hs (.int _)⟩))
  | [d], .cons r .nil, q =>
    obtain ⟨xs, e1, q⟩ := oQ_get q
    obtain ⟨bs, e2, q⟩ := oQ_get q
    obtain ⟨a, us, rfl, sl, rr⟩ := seeL_rep hs r e1
    rw [asIn_eq e2] at rr
    exact .inr ⟨a, bs, rfl, by rw [← rr.ints]; exact sl, q.1, fun m h1 h2 => q.2 m h1 h2 _ _ _ (Le.refl F) hs (.int _)⟩
theorem dc_minA (hc : X.calm = true) : DC X (.builtin "min") minA := by
  refine dc_of (callR_or (call_min2 hc) (cr_min hc)) mono_minA ?_
  rintro vs H Q ⟨F, M, ds, hs, rs, q⟩
  match ds, rs, q with
  | [a, b], .cons r1 (.cons r2 .nil), q =>
    cases a <;> first
      | exact (show False from q).elim
      | (cases b <;> first | exact (show False from q).elim | (cases r1; cases r2; exact .inl ⟨_, _, rfl, q _ _ _ (Le.refl F) hs (.int _)⟩))
  | [d], .cons r .nil, q =>
    obtain ⟨xs, e1, q⟩ := oQ_get q
    obtain ⟨bs, e2, q⟩ := oQ_get q
    obtain ⟨a, us, rfl, sl, rr⟩ := seeL_rep hs r e1
    rw [asIn_eq e2] at rr
    exact .inr ⟨a, bs, rfl, by rw [← rr.ints]; exact sl, q.1, fun m h1 h2 => q.2 m h1 h2 _ _ _ (Le.refl F) hs (.int _)⟩

/-! ### list(x), tuple(x), dict(x) -/
/-- a list or a tuple, read -/
def seeS (M : MH) : D → Option (List D)
  | .tup xs => some xs
  | d => seeL M d
theorem seeS_rep {c : Ctx} {F H : Hp} {M : MH} (hs : HS c F H M) {v : V} {d : D} {xs : List D} (r : Rep c F v d) (h : seeS M d = some xs) : ∃ a vs, v = .ref a ∧ (SqL c.K H a vs ∨ SqT c.K H a vs) ∧ Reps c F vs xs := by
  cases d with
  | tup ys => cases h; cases r with | tup h1 h2 => exact ⟨_, _, rfl, .inr (hs.sqT h1), h2⟩
  | _ => obtain ⟨a, vs, e1, e2, e3⟩ := seeL_rep hs r h; exact ⟨a, vs, e1, .inl e2, e3⟩
def seeD (M : MH) : D → Option (List (Key × D))
  | .dic ks => some ks
  | .ref p => match (M p).map unlk with
    | some (.dic ks) => some ks
    | _ => none
  | _ => none
theorem seeD_rep {c : Ctx} {F H : Hp} {M : MH} (hs : HS c F H M) {v : V} {d : D} {xs : List (Key × D)} (r : Rep c F v d) (h : seeD M d = some xs) : ∃ a vs, v = .ref a ∧ Rd H a (.dK vs) ∧ RepK c F vs xs := by
  cases r with
  | dic h1 h2 => cases h; exact ⟨_, _, rfl, hs.dK h1, h2⟩
  | ref p =>
    have h : (match (M p).map unlk with
      | some (.dic xs) => some xs
      | _ => none) = some xs := h
    cases e : (M p).map unlk with
    | none => rw [e] at h; cases h
    | some m =>
      rw [e] at h
      cases m with
      | dic ys => cases h; obtain ⟨vs, sl, rr⟩ := hs.celDk e; exact ⟨_, _, rfl, sl, rr⟩
      | _ => cases h
  | _ => cases h
def kD : Key → D
  | .inl i => .int i
  | .inr x => .str x
theorem Reps.keys {c : Ctx} {F : Hp} : ∀ {ks : List (Key × D)} {vs : List (Key × V)}, RepK c F vs ks → Reps c F (vs.map fun kv => kV kv.1) (ks.map fun kv => kD kv.1)
  | [], _, h => by cases h; exact .nil
  | (k, d) :: ks, _, h => by
    cases h with | cons h1 h2 =>
    refine .cons ?_ (Reps.keys h2)
    cases k with
    | inl i => exact .int i
    | inr x => exact .str x
/-- list(x): frozen, or a cell -/
def listR : RDC := one fun d M Q => (oQ (seeS M d) fun xs => Q (.lst xs) M)
def listRM : RDC := one fun d M Q => (oQ (seeS M d) fun xs => ∀ p, M p = none → Q (.ref p) (updM M p (.lst xs)))
def listRD : RDC := one fun d M Q => (oQ (seeD M d) fun xs => Q (.lst (xs.map fun kv => kD kv.1)) M)
theorem dc_list : DC X (.type "list") listR := by
  refine dc_of call_list_of (mono_one fun d M Q Q' k h => oQ_mono (fun _ h => k _ _ h) h) ?_
  rintro vs H Q ⟨F, M, ds, hs, rs, q⟩
  obtain ⟨v, d, rfl, rfl, r, q⟩ := one_get rs q
  obtain ⟨xs, e1, q⟩ := oQ_get q
  obtain ⟨a, us, rfl, sl, rr⟩ := seeS_rep hs r e1
  refine ⟨a, us, rfl, sl, fun l hl => ?_⟩
  obtain ⟨l2, hs2⟩ := hs.newF hl (.lst us)
  exact q _ _ _ l2 hs2 (.lst upd_same (rr.mono l2))
theorem dc_listM : DC X (.type "list") listRM := by
  refine dc_of call_list_of (mono_one fun d M Q Q' k h => oQ_mono (fun _ h p hp => k _ _ (h p hp)) h) ?_
  rintro vs H Q ⟨F, M, ds, hs, rs, q⟩
  obtain ⟨v, d, rfl, rfl, r, q⟩ := one_get rs q
  obtain ⟨xs, e1, q⟩ := oQ_get q
  obtain ⟨a, us, rfl, sl, rr⟩ := seeS_rep hs r e1
  exact ⟨a, us, rfl, sl, fun l hl => q l (hs.fM hl) _ _ _ (Le.refl F) (hs.newM hl (.lst rr)) (.ref l)⟩
theorem dc_listD (hc : X.calm = true) : DC X (.type "list") listRD := by
  refine dc_of (call_listD hc) (mono_one fun d M Q Q' k h => oQ_mono (fun _ h => k _ _ h) h) ?_
  rintro vs H Q ⟨F, M, ds, hs, rs, q⟩
  obtain ⟨v, d, rfl, rfl, r, q⟩ := one_get rs q
  obtain ⟨xs, e1, q⟩ := oQ_get q
  obtain ⟨a, us, rfl, sl, rr⟩ := seeD_rep hs r e1
  refine ⟨a, us, rfl, sl, fun l hl => ?_⟩
  obtain ⟨l2, hs2⟩ := hs.newF hl (.lst (us.map fun kv => kV kv.1))
  exact q _ _ _ l2 hs2 (.lst upd_same ((Reps.keys rr).mono l2))
def tupR : RDC := one fun d M Q => (oQ (seeS M d) fun xs => Q (.tup xs) M)
theorem dc_tuple : DC X (.type "tuple") tupR := by
  refine dc_of call_tuple_of (mono_one fun d M Q Q' k h => oQ_mono (fun _ h => k _ _ h) h) ?_
  rintro vs H Q ⟨F, M, ds, hs, rs, q⟩
  obtain ⟨v, d, rfl, rfl, r, q⟩ := one_get rs q
  obtain ⟨xs, e1, q⟩ := oQ_get q
  have key : (∃ ys, d = .tup ys) ∨ seeS M d = seeL M d := by cases d <;> first | exact .inl ⟨_, rfl⟩ | exact .inr rfl
  rcases key with ⟨ys, rfl⟩ | e2
  · cases e1
    cases r with
    | tup h1 h2 => exact ⟨_, _, rfl, .inr ⟨hs.sqT h1, q _ _ _ (Le.refl F) hs (.tup h1 h2)⟩⟩
  · rw [e2] at e1
    obtain ⟨a, us, rfl, sl, rr⟩ := seeL_rep hs r e1
    refine ⟨a, us, rfl, .inl ⟨sl, fun l hl => ?_⟩⟩
    obtain ⟨l2, hs2⟩ := hs.newF hl (.tup us)
    exact q _ _ _ l2 hs2 (.tup (SqT.of upd_same) (rr.mono l2))
/-- dict(d): a cell -/
def dictRM : RDC := one fun d M Q => (oQ (seeD M d) fun xs => ∀ p, M p = none → Q (.ref p) (updM M p (.dic xs)))
theorem dc_dict : DC X (.type "dict") dictRM := by
  refine dc_of call_dictD (mono_one fun d M Q Q' k h => oQ_mono (fun _ h p hp => k _ _ (h p hp)) h) ?_
  rintro vs H Q ⟨F, M, ds, hs, rs, q⟩
  obtain ⟨v, d, rfl, rfl, r, q⟩ := one_get rs q
  obtain ⟨xs, e1, q⟩ := oQ_get q
  obtain ⟨a, us, rfl, sl, rr⟩ := seeD_rep hs r e1
  exact ⟨a, us, rfl, sl, fun l hl => q l (hs.fM hl) _ _ _ (Le.refl F) (hs.newM hl (.dic rr)) (.ref l)⟩

/-! ### sorted -/
def intKs : List (Key × D) → Option (List Int)
  | [] => some []
  | (.inl i, _) :: r => (intKs r).map fun l => i :: l
  | _ :: _ => none
theorem intKs_eq : ∀ {ks : List (Key × D)} {ns : List Int}, intKs ks = some ns → ks.map (·.1) = ns.map Sum.inl
  | [], _, h => by cases h; rfl
  | (.inl i, d) :: r, _, h => by
    have h' : (intKs r).map (fun l => i :: l) = some _ := h
    obtain ⟨l, e1, e2⟩ := Option.map_eq_some_iff.mp h'
    subst e2
    rw [List.map_cons, intKs_eq e1]; rfl
theorem RepK.keysEq {c : Ctx} {F : Hp} : ∀ {ks : List (Key × D)} {vs : List (Key × V)}, RepK c F vs ks → vs.map (·.1) = ks.map (·.1)
  | [], _, h => by cases h; rfl
  | (k, d) :: ks, _, h => by cases h with | cons h1 h2 => rw [List.map_cons, List.map_cons, RepK.keysEq h2]
/-- sorted(xs) of ints; sorted(d) of a dict's int keys; the answer frozen -/
def sortR : RDC := one fun d M Q => (match seeD M d with
  | some ks => oQ (intKs ks) fun ns => ns.length < 64 ∧ ∀ ns' : List Int, ns'.Perm ns → ns'.Pairwise (· ≤ ·) → Q (.lst (ns'.map D.int)) M
  | none => oQ (seeL M d) fun xs => oQ (asIn xs) fun ns => ∀ ns' : List Int, ns'.Perm ns → ns'.Pairwise (· ≤ ·) → Q (.lst (ns'.map D.int)) M)
theorem dc_sorted (hc : X.calm = true) : DC X (.builtin "sorted") sortR := by
  refine dc_of (callR_or cr_sortedI (call_sortedDI hc)) (mono_one fun d M Q Q' k h => ?_) ?_
  · cases e : seeD M d with
    | some ks => rw [e] at h; exact oQ_mono (fun _ h => ⟨h.1, fun n a b => k _ _ (h.2 n a b)⟩) h
    | none => rw [e] at h; exact oQ_mono (fun _ h => oQ_mono (fun _ h n a b => k _ _ (h n a b)) h) h
  rintro vs H Q ⟨F, M, ds, hs, rs, q⟩
  obtain ⟨v, d, rfl, rfl, r, q⟩ := one_get rs q
  have fin : ∀ {ns' : List Int} {p : Addr}, H p = none → dnE (cOf X) F Q (.lst (ns'.map D.int)) M → Q (.ref p) (upd H p (.lst (ns'.map V.int))) := fun {ns' p} hp q => by
    obtain ⟨l2, hs2⟩ := hs.newF hp (.lst (ns'.map V.int))
    exact q _ _ _ l2 hs2 (.lst upd_same (Reps.ofInts ns'))
  cases e : seeD M d with
  | some ks =>
    rw [e] at q
    obtain ⟨ns, e1, q1, q2⟩ := oQ_get q
    obtain ⟨a, us, rfl, sl, rr⟩ := seeD_rep hs r e
    exact .inr ⟨a, us, ns, rfl, sl, by rw [rr.keysEq]; exact intKs_eq e1, q1, fun ys p h1 h2 h3 => fin h3 (q2 ys h1 h2)⟩
  | none =>
    rw [e] at q
    obtain ⟨xs, e1, q⟩ := oQ_get q
    obtain ⟨ns, e2, q⟩ := oQ_get q
    obtain ⟨a, us, rfl, sl, rr⟩ := seeL_rep hs r e1
    rw [asIn_eq e2] at rr
    exact .inl ⟨a, ns, rfl, by rw [← rr.ints]; exact sl, fun ys p h1 h2 h3 => fin h3 (q ys h1 h2)⟩

/-! ### isinstance, built-in types -/
/-- the type of a datum -/
def tyName (M : MH) : D → Option String
  | .non => some "NoneType"
  | .bl _ => some "bool"
  | .int _ => some "int"
  | .str _ => some "str"
  | .tup _ => some "tuple"
  | .lst _ => some "list"
  | .dic _ => some "dict"
  | .ref p => match (M p).map unlk with
    | some (.lst _) => some "list"
    | some (.dic _) => some "dict"
    | _ => none
  | _ => none
theorem sqL_ty {K : Frag} {H : Hp} {a : Addr} {xs : List V} (h : SqL K H a xs) : TyX K H (.ref a) (.type "list") := by
  rcases h with (h | ⟨o, h⟩) | ⟨o, its, n, h1, h2, _⟩
  · exact .base (.lst h)
  · exact .base (.frz h)
  · exact .kList h1 h2
theorem sqT_ty {K : Frag} {H : Hp} {a : Addr} {xs : List V} (h : SqT K H a xs) : TyX K H (.ref a) (.type "tuple") := by
  rcases h with (h | ⟨o, h⟩) | ⟨o, h⟩
  · exact .base (.tup h)
  · exact .fTuple h
  · obtain ⟨its, n, h1, h2, _⟩ := h
    exact .kTuple h1 h2
theorem rd_ty {K : Frag} {H : Hp} {a : Addr} {kvs : List (Key × V)} (h : Rd H a (.dK kvs)) : TyX K H (.ref a) (.type "dict") := by
  rcases h with h | ⟨o, h⟩
  · exact .base (.dK h)
  · exact .fDict h
theorem tyName_ok {c : Ctx} {F H : Hp} {M : MH} (hs : HS c F H M) {v : V} {d : D} {T : String} (r : Rep c F v d) (h : tyName M d = some T) : TyX c.K H v (.type T) := by
  cases r with
  | non => cases h; exact .base .non
  | bl b => cases h; exact .base (.bl b)
  | int b => cases h; exact .base (.int b)
  | str b => cases h; exact .base (.str b)
  | tup h1 h2 => cases h; exact sqT_ty (hs.sqT h1)
  | lst h1 h2 => cases h; exact sqL_ty (hs.sqL h1)
  | dic h1 h2 => cases h; exact rd_ty (hs.dK h1)
  | ref p =>
    have h : (match (M p).map unlk with
    | some (.lst _) => some "list"
    | some (.dic _) => some "dict"
    | _ => none) = some T := h
    cases e : (M p).map unlk with
    | none => rw [e] at h; cases h
    | some m =>
      rw [e] at h
      cases m with
      | lst ys => cases h; obtain ⟨vs, sl, rr⟩ := hs.celLk e; exact sqL_ty sl
      | dic ys => cases h; obtain ⟨vs, sl, rr⟩ := hs.celDk e; exact rd_ty sl
      | _ => cases h
  | _ => cases h
/-- isinstance(x, T) -/
def isiB (a b : String) : Bool := match a, b with
  | "bool", "int" => true
  | a, b => a == b
def isiR : RDC := fun ds M Q => match ds with
  | [d, .ty n] => oQ (tyName M d) fun T => oQ (kitB T n) fun b => Q (.bl b) M
  | _ => False
theorem mono_isiR : MonoC isiR := by
  intro ds M Q Q' k h
  match ds, h with
  | [d, .ty n], h => exact oQ_mono (fun _ h => oQ_mono (fun _ h => k _ _ h) h) h
theorem dc_isi : DC X (.builtin "isinstance") isiR := by
  refine dc_of call_isi mono_isiR ?_
  rintro vs H Q ⟨F, M, ds, hs, rs, q⟩
  match ds, rs, q with
  | [d, .ty n], .cons r1 (.cons r2 .nil), q =>
    cases r2
    obtain ⟨T, e1, q⟩ := oQ_get q
    obtain ⟨b, e2, q⟩ := oQ_get q
    exact ⟨_, _, _, _, b, rfl, .ty n, tyName_ok hs r1 e1, kit_ty e2, q _ _ _ (Le.refl F) hs (.bl b)⟩

/-! ### repr of data -/
def reprR : RDC := one fun d M Q => (oQ (pd (see M d)) fun p => (∃ xs, p = .list xs ∨ p = .tuple xs) ∧ p.showable = true ∧ p.hasDict = false ∧ p.depth ≤ 64 ∧ p.shown.length ≤ sizeLine ∧ Q (.str p.shown) M)
theorem call_reprD (hg : X.A.guards = some []) (hu : X.A.units + 66 < cLine) : CallR X (.builtin "repr") (fun xs H Q => ∃ a p, xs = [.ref a] ∧ Dp X.K H (.ref a) p ∧ p.showable = true ∧ p.hasDict = false ∧ p.depth ≤ 64 ∧ p.shown.length ≤ sizeLine ∧ Q (.str p.shown) H) := by
  intro pins s σ H xs us Q I r h
  obtain ⟨a, p, rfl, dp, h1, h2, h3, h4, q⟩ := h
  obtain ⟨u, rfl, rx⟩ := vals1 r
  obtain ⟨as, rd⟩ := Dp.reads I p _ _ dp rx
  cases rx
  exact repr_of_reads' rd h1 (fun z => by rw [h2] at z; cases z) hg (by omega) (fun _ _ e => e) (fun h' u tk hk => ⟨.str p.shown, H, I.kept hk, ⟨_, rfl⟩, q⟩) h4

theorem dp_ref {K : Frag} {H : Hp} {v : V} {p : PyData} (h : Dp K H v p) (hx : ∃ xs, p = .list xs ∨ p = .tuple xs) : ∃ a, v = .ref a := by
  obtain ⟨xs, rfl | rfl⟩ := hx
  · cases h; exact ⟨_, rfl⟩
  · cases h; exact ⟨_, rfl⟩
theorem dc_repr (hg : X.A.guards = some []) (hu : X.A.units + 66 < cLine) : DC X (.builtin "repr") reprR := by
  refine dc_of (call_reprD hg hu) (mono_one fun d M Q Q' k h => oQ_mono (fun _ h => ⟨h.1, h.2.1, h.2.2.1, h.2.2.2.1, h.2.2.2.2.1, k _ _ h.2.2.2.2.2⟩) h) ?_
  rintro vs H Q ⟨F, M, ds, hs, rs, q⟩
  obtain ⟨v, d, rfl, rfl, r, q⟩ := one_get rs q
  obtain ⟨p, e1, q0, q1, q2, q3, q4, q5⟩ := oQ_get q
  have dp := dp_see hs r e1
  obtain ⟨a, rfl⟩ := dp_ref dp q0
  exact ⟨a, p, rfl, dp, q1, q2, q3, q4, q5 _ _ _ (Le.refl F) hs (.str _)⟩

/-! ### stores -/
/-- o[i] = d -/
def setR (o i d : D) (M : MH) (Q : MH → Prop) : Prop := match o with
  | .ref p => oQ (M p) fun m => match m with
    | .lst xs => (match i with
      | .int k => oQ (ixW xs.length k) fun j => Q (updM M p (.lst (xs.set j d)))
      | _ => False)
    | .dic ks => oQ (keyD i) fun k => ks.length < sizeLine ∧ Q (updM M p (.dic (putA ks k d)))
    | _ => False
  | _ => False
theorem setR_mono {o i d : D} {M : MH} {Q Q' : MH → Prop} (k : ∀ M, Q M → Q' M) (h : setR o i d M Q) : setR o i d M Q' := by
  cases o with
  | ref p =>
    refine oQ_mono (fun m h => ?_) h
    cases m with
    | lst xs =>
      cases i with
      | int j => exact oQ_mono (fun _ h => k _ h) h
      | _ => exact h
    | dic ks => exact oQ_mono (fun _ h => ⟨h.1, k _ h.2⟩) h
    | _ => exact h
  | _ => exact h
def rSetD : V → V → V → Hp → (Hp → Prop) → Prop := fun o y v H Q => ∃ a H', o = .ref a ∧ DPut H a y v H' ∧ Q H'
theorem set_dict (hu : X.A.units + 1 < cLine) : PSet X rSetD := by
  intro pins s σ H o i v ov iv u Q I ro ri rv h
  obtain ⟨a, H', rfl, g, q⟩ := h
  cases ro
  exact d_setItem hu I g ri rv fun s' I' => ⟨H', I', q⟩
theorem pset_or {t t' : TSet} (h : PSet X t) (h' : PSet X t') : PSet X (fun o i v H Q => t o i v H Q ∨ t' o i v H Q) := by
  intro pins s σ H o i v ov iv u Q I ro ri rv q
  rcases q with q | q
  · exact h pins s σ H o i v ov iv u Q I ro ri rv q
  · exact h' pins s σ H o i v ov iv u Q I ro ri rv q
theorem ixW_N {n : Nat} {i : Int} {j : Nat} (h : ixW n i = some j) : ixN n i = some j := by
  unfold ixN
  cases i with
  | ofNat k =>
    have h : (if k < n then some k else none) = some j := h
    by_cases hk : k < n
    · rw [if_pos hk] at h; cases h
      rw [if_pos (by exact Int.natCast_nonneg _), if_pos (by exact Int.ofNat_lt.mpr hk)]; rfl
    · rw [if_neg hk] at h; cases h
  | negSucc k =>
    have h : (if k < n then some (n - 1 - k) else none) = some j := h
    by_cases hk : k < n
    · rw [if_pos hk] at h; cases h
      rw [if_neg (by omega), if_pos (by omega)]
      congr 1; omega
    · rw [if_neg hk] at h; cases h
/-- what a store leaves, to the hand layer -/
theorem up_setR {F H : Hp} {M : MH} {o i v : V} {od iD d : D} {Q : MH → Prop} {Q' : Hp → Prop} (hs : HS (cOf X) F H M) (ro : Rep (cOf X) F o od) (ri : Rep (cOf X) F i iD) (rv : Rep (cOf X) F v d) (q : setR od iD d M Q)
    (k : ∀ H' M', HS (cOf X) F H' M' → Q M' → Q' H') : rSetL o i v H Q' ∨ rSetD o i v H Q' := by
  cases ro with
  | ref p =>
    obtain ⟨m, em, q⟩ := oQ_get q
    cases m with
    | lst xs =>
      cases ri with
      | int j =>
        obtain ⟨n, en, q⟩ := oQ_get q
        obtain ⟨vs, eh, rr⟩ := hs.celL em
        refine .inl ⟨p, vs, j, n, rfl, rfl, eh, by rw [rr.length]; exact ixW_N en, k _ _ (hs.setM em (.lst (rr.set rv n))) q⟩
      | _ => exact (show False from q).elim
    | dic ks =>
      obtain ⟨kk, en, q1, q2⟩ := oQ_get q
      obtain ⟨vs, eh, rr⟩ := hs.celD em
      rw [keyD_rep ri en]
      exact .inr ⟨p, _, rfl, .inl ⟨vs, kk, eh, rfl, by rw [rr.length]; exact q1, rfl⟩, k _ _ (hs.setM em (.dic (by rw [putK_eq]; exact rr.put kk rv))) q2⟩
    | _ => exact (show False from q).elim
  | _ => exact (show False from q).elim
def dgSub (τo τi : TDE) : TDG := fun d δ M Q => τo δ M fun o M1 => τi δ M1 fun i M2 => setR o i d M2 (Q δ)
theorem dg_sub {o i : Expr} {τo τi : TDE} {pos : Pos} (hu : X.A.units + 1 < cLine) (ho : DE X B o τo) (hi : DE X B i τi) (ha : ∀ v, assign (.Subscript o i pos) X.env v = (do
      let ov ← holding [v] (eval o X.env)
      let iv ← holding [v, ov] (eval i X.env)
      standAt pos
      holding [v, ov, iv] (setItem ov iv v)
      release [v, ov, iv] []) := by intro _; rfl) : DG X B (.Subscript o i pos) (dgSub τo τi) := by
  refine ⟨PG.imp (pg_sub ho.pe hi.pe (pset_or set_list (set_dict hu)) ha) fun v σ H Q ⟨F, δ, M, d, lb, hs, ev, r, q⟩ => ?_, fun d δ M Q Q' k h => ho.mono _ _ _ _ (fun o M1 h1 => hi.mono _ _ _ _ (fun i M2 h2 => setR_mono (k δ) h2) h1) h⟩
  refine upE_bind ho.mono lb hs ev q fun od M1 o F1 H1 l1 hs1 ev1 ro q1 => ?_
  refine upE_bind hi.mono (lb.trans l1) hs1 ev1 q1 fun iD M2 i F2 H2 l2 hs2 ev2 ri q2 => ?_
  exact up_setR hs2 (ro.mono l2) ri (r.mono (l1.trans l2)) q2 fun H' M' hs' q => q σ F2 H' (l1.trans l2) hs' ev2

/-- an attribute as a target -/
def gAttr (K : Frag) (to : TE) (f : Str) : TG := fun v σ H Q => to σ H fun x H1 => ∃ a C dx fs, x = .ref a ∧ H1 a = some (.ins C dx fs) ∧ Cls K C ∧ NoAttr K C f ∧ fs.length < 1000 ∧ Q σ (upd H1 a (.ins C dx (putF f v fs)))
theorem pg_attr {o : Expr} {to : TE} {f : Str} {pos : Pos} (ho : PE X o to) : PG X (.Attribute o f pos) (gAttr X.K to f) := by
  refine ⟨fun pins s σ H v u Q I r h => ?_⟩
  rw [arm_assign_Attribute]
  refine wpAny_bind (wpAny_holding (thn (ho.run pins s σ H _ I h) fun ov s1 ⟨x, H1, I1, rx, a, C, dx, fs, ex, ea, c, n, l, q⟩ => ?_))
  subst ex
  obtain rfl : ov = Value.ref a := rx
  refine wpAny_bind (wpAny_standAt (wpAny_bind (wpAny_holding (setattr_ok I1 ea c n l r fun s3 I3 => ?_))))
  exact wpAny_release ⟨σ, _, I3, q⟩
def dgAttr (C : Addr) (f : Str) (τo : TDE) : TDG := fun d δ M Q => τo δ M fun o M1 => ∃ p fs, o = .ref p ∧ M1 p = some (.ins C fs) ∧ fs.length < 1000 ∧ Q δ (updM M1 p (.ins C (putFD f d fs)))
theorem dg_attr {C : Addr} {o : Expr} {τo : TDE} {f : Str} {pos : Pos} (cl : Cls X.K C) (na : NoAttr X.K C f) (ho : DE X B o τo) : DG X B (.Attribute o f pos) (dgAttr C f τo) := by
  refine ⟨PG.imp (pg_attr ho.pe) fun v σ H Q ⟨F, δ, M, d, lb, hs, ev, r, q⟩ => ?_, fun d δ M Q Q' k h => ho.mono _ _ _ _ (fun o M1 ⟨p, fs, h1, h2, h3, h4⟩ => ⟨p, fs, h1, h2, h3, k _ _ h4⟩) h⟩
  refine upE_bind ho.mono lb hs ev q fun od M1 o F1 H1 l1 hs1 ev1 ro ⟨p, fs, e1, e2, e3, q1⟩ => ?_
  subst e1
  cases ro
  obtain ⟨dx, vs, eh, rf⟩ := hs1.celI e2
  exact ⟨p, C, dx, vs, rfl, eh, cl, na, by rw [rf.length]; exact e3, q1 σ F1 _ l1 (hs1.setM e2 (.ins (rf.put (r.mono l1)))) ev1⟩
/-- o.f = e -/
def dFldS (C : Addr) (f : Str) (τo τ : TDE) : TDS := fun D δ M => τ δ M fun d M1 => τo δ M1 fun o M2 => ∃ p fs, o = .ref p ∧ M2 p = some (.ins C fs) ∧ fs.length < 1000 ∧ D.nx δ (updM M2 p (.ins C (putFD f d fs)))
theorem ds_fld {C : Addr} {o e : Expr} {τo τ : TDE} {f : Str} {pos pos' : Pos} (cl : Cls X.K C) (na : NoAttr X.K C f) (ho : DE X B o τo) (he : DE X B e τ) (hs : swapsWith e (some (.Attribute o f pos')) pos.line X.env = pure false := by rfl) :
    DS X B (.Assign [.Attribute o f pos'] e pos) (dFldS C f τo τ) := by
  refine ⟨PS.imp (ps_fld ho.pe he.pe hs) fun D σ H ⟨F, δ, M, lb, hs, ev, q⟩ => ?_, fun D D' δ M k h => he.mono _ _ _ _ (fun d M1 h => ho.mono _ _ _ _ (fun o M1 ⟨p, fs, h1, h2, h3, h4⟩ => ⟨p, fs, h1, h2, h3, k.nx _ _ h4⟩) h) h⟩
  refine upE_bind he.mono lb hs ev q fun d M0 v F0 H0 l0 hs0 ev0 r q0 => ?_
  refine upE_bind ho.mono (lb.trans l0) hs0 ev0 q0 fun od M1 o F1 H1 l1 hs1 ev1 ro ⟨p, fs, e1, e2, e3, q1⟩ => ?_
  subst e1
  cases ro
  obtain ⟨dx, vs, eh, rf⟩ := hs1.celI e2
  exact ⟨p, C, dx, vs, rfl, eh, cl, na, by rw [rf.length]; exact e3, q1 σ F1 _ (l0.trans l1) (hs1.setM e2 (.ins (rf.put (r.mono l1)))) ev1⟩
/-- del o[i] of a dict -/
def dDel (τo τi : TDE) : TDS := fun D δ M => τo δ M fun o M1 => τi δ M1 fun i M2 => ∃ p ks k, o = .ref p ∧ M2 p = some (.dic ks) ∧ keyD i = some k ∧ (valA ks k).isSome = true ∧ D.nx δ (updM M2 p (.dic (dropA ks k)))
theorem ds_del {o i : Expr} {τo τi : TDE} {pos tpos : Pos} (ho : DE X B o τo) (hi : DE X B i τi) : DS X B (.Delete [.Subscript o i tpos] pos) (dDel τo τi) := by
  refine ⟨PS.imp (ps_ddel ho.pe hi.pe) fun D σ H ⟨F, δ, M, lb, hs, ev, q⟩ => ?_, fun D D' δ M k h => ho.mono _ _ _ _ (fun d M1 h => hi.mono _ _ _ _ (fun o M1 ⟨p, fs, kk, h1, h2, h3, h4, h5⟩ => ⟨p, fs, kk, h1, h2, h3, h4, k.nx _ _ h5⟩) h) h⟩
  refine upE_bind ho.mono lb hs ev q fun d M0 v F0 H0 l0 hs0 ev0 r q0 => ?_
  refine upE_bind hi.mono (lb.trans l0) hs0 ev0 q0 fun iD M1 i F1 H1 l1 hs1 ev1 ri ⟨p, ks, k, e1, e2, e3, e4, q1⟩ => ?_
  subst e1
  cases r
  obtain ⟨vs, eh, rf⟩ := hs1.celD e2
  exact ⟨p, vs, k, rfl, eh, keyD_rep ri e3, by rw [rf.isSome]; exact e4, q1 σ F1 _ (l0.trans l1) (hs1.setM e2 (.dic (by rw [dropK_eq]; exact rf.drop))) ev1⟩

/-! ### methods of built-in types -/
def tyC (T : String) (d : D) (M : MH) : Prop := match d with
  | .str _ => T = "str"
  | .ref p => oQ (M p) fun m => match m with
    | .lst _ => T = "list"
    | .dic _ => T = "dict"
    | _ => False
  | _ => False
theorem tyC_ok {c : Ctx} {F H : Hp} {M : MH} (hs : HS c F H M) {v : V} {d : D} {T : String} (r : Rep c F v d) (h : tyC T d M) : tyV c.K T v H := by
  cases r with
  | str z => exact h
  | ref p =>
    obtain ⟨m, em, h⟩ := oQ_get h
    cases m with
    | lst xs => obtain ⟨vs, e, _⟩ := hs.celL em; exact .inl ⟨h, vs, SqL.of e⟩
    | dic xs => obtain ⟨vs, e, _⟩ := hs.celD em; exact .inr (.inr (.inl ⟨h, .inl ⟨vs, e⟩⟩))
    | _ => exact (show False from h).elim
  | _ => exact (show False from h).elim
structure DM (X : Cx) (i : String) (r : RDM) : Prop where
  mt : MtR X i (upM (cOf X) r)
  mono : MonoM r
theorem dm_of {i : String} {r0 : V → List V → Hp → VK → Prop} {r : RDM} (h : MtR X i r0) (m : MonoM r) (k : ∀ v vs H Q, upM (cOf X) r v vs H Q → r0 v vs H Q) : DM X i r :=
  ⟨fun pins s σ H x xs v us Q I rx rr q => h pins s σ H x xs v us Q I rx rr (k x xs H Q q), m⟩
def dM (T : String) (r : RDM) (τ : TDE) (τs : TDA) : TDE := fun δ M Q => τ δ M fun d M1 => tyC T d M1 ∧ τs δ M1 fun ds M2 => r d ds M2 Q
def dM0 (T : String) (r : RDM) (τ : TDE) : TDE := fun δ M Q => τ δ M fun d M1 => tyC T d M1 ∧ r d [] M1 Q
section
variable {T i : String} {name : Str} {o e : Expr} {es : List Expr} {τ : TDE} {τs : TDA} {apos cpos : Pos} {r : RDM}
theorem de_m0 (pa : PlainAttrs T) (slot : Slot T name i) (hty : typeOf (.builtin i) = pure (.type "method_descriptor")) (hm : DM X i r) (ho : DE X B o τ)
    (hbase : attributeBase o name X.env (eval o X.env) = eval o X.env := by rfl) (hline : (apos.endLine == cpos.line) = true := by rfl) : DE X B (.Call (.Attribute o name apos) [] [] cpos) (dM0 T r τ) := by
  refine ⟨PE.imp (pe_bm0 pa slot hty hm.mt ho.pe hbase hline) fun σ H Q ⟨F, δ, M, lb, hs, ev, q⟩ => ?_, fun δ M Q Q' k h => ho.mono _ _ _ _ (fun d M1 h => ⟨h.1, hm.mono _ _ _ _ _ k h.2⟩) h⟩
  refine upE_bind ho.mono lb hs ev q fun d M1 v F1 H1 l1 hs1 ev1 rv ⟨q1, q2⟩ => ?_
  exact ⟨tyC_ok hs1 rv q1, F1, M1, d, [], hs1, rv, .nil, hm.mono _ _ _ _ _ (dnE_le l1) q2⟩
theorem de_m (pa : PlainAttrs T) (slot : Slot T name i) (hty : typeOf (.builtin i) = pure (.type "method_descriptor")) (hm : DM X i r) (ho : DE X B o τ) (ha : DA X B (e :: es) τs)
    (hbase : attributeBase o name X.env (eval o X.env) = eval o X.env := by rfl)
    (hfew : ((backTo cpos (starEach (e :: es) X.env)).all (fun x => !x.1) && (backToKw cpos (keywordEach [] X.env)).all (fun x => x.1.isSome)
      && decide ((e :: es).length + ([] : List Keyword).length + (if ([] : List Keyword).isEmpty then 0 else 1) < 30)) = true := by rfl)
    (hline : (apos.endLine == cpos.line) = true := by rfl) (hst : starEach (e :: es) X.env = (false, eval e X.env) :: starEach es X.env := by rfl) (hplain : (backTo cpos (starEach es X.env)).any (·.1) = false := by rfl) :
    DE X B (.Call (.Attribute o name apos) (e :: es) [] cpos) (dM T r τ τs) := by
  refine ⟨PE.imp (pe_bm pa slot hty hm.mt ho.pe ha.pa hbase hfew hline hst hplain) fun σ H Q ⟨F, δ, M, lb, hs, ev, q⟩ => ?_, fun δ M Q Q' k h => ho.mono _ _ _ _ (fun d M1 h => ⟨h.1, ha.mono _ _ _ _ (fun ds M2 h2 => hm.mono _ _ _ _ _ k h2) h.2⟩) h⟩
  refine upE_bind ho.mono lb hs ev q fun d M1 v F1 H1 l1 hs1 ev1 rv ⟨q1, q2⟩ => ?_
  refine ⟨tyC_ok hs1 rv q1, ?_⟩
  exact upA_bind ha.mono (lb.trans l1) hs1 ev1 q2 fun ds M2 vs F2 H2 l2 hs2 ev2 rs q3 => ⟨F2, M2, d, ds, hs2, rv.mono l2, rs, hm.mono _ _ _ _ _ (dnE_le (l1.trans l2)) q3⟩
end
/-- the receiver a list cell, one argument or none -/
def onL (k : Addr → List D → List D → MH → DQ → Prop) : RDM := fun d ds M Q => match d with
  | .ref p => oQ (M p) fun m => match m with
    | .lst xs => k p xs ds M Q
    | _ => False
  | _ => False
theorem mono_onL {k : Addr → List D → List D → MH → DQ → Prop} (h : ∀ p xs ds M (Q Q' : DQ), (∀ d M', Q d M' → Q' d M') → k p xs ds M Q → k p xs ds M Q') : MonoM (onL k) := by
  intro d ds M Q Q' kk q
  cases d with
  | ref p => exact oQ_mono (fun m q => by cases m <;> first | exact h _ _ _ _ _ _ kk q | exact q) q
  | _ => exact q
theorem onL_get {k : Addr → List D → List D → MH → DQ → Prop} {c : Ctx} {F H : Hp} {v : V} {d : D} {ds : List D} {M : MH} {Q : DQ} (hs : HS c F H M) (r : Rep c F v d) (q : onL k d ds M Q) :
    ∃ p xs vs, v = .ref p ∧ M p = some (.lst xs) ∧ H p = some (.lst vs) ∧ Reps c F vs xs ∧ k p xs ds M Q := by
  cases r with
  | ref p =>
    obtain ⟨m, em, q⟩ := oQ_get q
    cases m with
    | lst xs => obtain ⟨vs, e, rr⟩ := hs.celL em; exact ⟨p, xs, vs, rfl, em, e, rr, q⟩
    | _ => exact (show False from q).elim
  | _ => exact (show False from q).elim
def appendR : RDM := onL fun p xs ds M Q => match ds with
  | [d] => xs.length < sizeLine ∧ Q .non (updM M p (.lst (xs ++ [d])))
  | _ => False
def popR : RDM := onL fun p xs ds M Q => match ds with
  | [] => oQ (xs[xs.length - 1]?) fun y => Q y (updM M p (.lst xs.dropLast))
  | [.int i] => -(2 ^ 63) ≤ i ∧ i < 2 ^ 63 ∧ oQ (ixW xs.length i) fun k => oQ (nth xs k) fun y => Q y (updM M p (.lst (xs.eraseIdx k)))
  | _ => False
theorem dm_append : DM X "list.append" appendR := by
  refine dm_of (mt_append (X := X)) (mono_onL fun p xs ds M Q Q' k h => ?_) ?_
  · match ds, h with
    | [d], h => exact ⟨h.1, k _ _ h.2⟩
  · rintro v vs H Q ⟨F, M, d, ds, hs, r, rs, q⟩
    obtain ⟨p, xs, us, rfl, em, eh, rr, q⟩ := onL_get hs r q
    match ds, rs, q with
    | [y], .cons ry .nil, q => exact ⟨p, us, _, rfl, rfl, eh, by rw [rr.length]; exact q.1, q.2 _ _ _ (Le.refl F) (hs.setM em (.lst (rr.append (.cons ry .nil)))) .non⟩
theorem mtr_or {i : String} {r r' : V → List V → Hp → VK → Prop} (h : MtR X i r) (h' : MtR X i r') : MtR X i (fun v vs H Q => r v vs H Q ∨ r' v vs H Q) := by
  intro pins s σ H x xs v us Q I rx rr q
  rcases q with q | q
  · exact h pins s σ H x xs v us Q I rx rr q
  · exact h' pins s σ H x xs v us Q I rx rr q
theorem Reps.dropLast {c : Ctx} {F : Hp} {vs : List V} {ds : List D} (r : Reps c F vs ds) : Reps c F vs.dropLast ds.dropLast := by
  rw [List.dropLast_eq_take, List.dropLast_eq_take, r.length]; exact r.take _
theorem dm_pop : DM X "list.pop" popR := by
  refine dm_of (mtr_or (mt_pop (X := X)) (mt_popAt (X := X))) (mono_onL fun p xs ds M Q Q' k h => ?_) ?_
  · match ds, h with
    | [], h => exact oQ_mono (fun _ h => k _ _ h) h
    | [.int i], h => exact ⟨h.1, h.2.1, oQ_mono (fun _ h => oQ_mono (fun _ h => k _ _ h) h) h.2.2⟩
  · rintro v vs H Q ⟨F, M, d, ds, hs, r, rs, q⟩
    obtain ⟨p, xs, us, rfl, em, eh, rr, q⟩ := onL_get hs r q
    match ds, rs, q with
    | [], .nil, q =>
      obtain ⟨y, e1, q⟩ := oQ_get q
      obtain ⟨yv, e2, ry⟩ := rr.get e1
      exact .inl ⟨p, us, yv, rfl, rfl, eh, by rw [rr.length]; exact e2, q _ _ _ (Le.refl F) (hs.setM em (.lst rr.dropLast)) ry⟩
    | [.int i], .cons ri .nil, q =>
      cases ri
      obtain ⟨b1, b2, q⟩ := q
      obtain ⟨k, e0, q⟩ := oQ_get q
      obtain ⟨y, e1, q⟩ := oQ_get q
      rw [nth_eq] at e1
      obtain ⟨yv, e2, ry⟩ := rr.get e1
      have hn := ixW_N e0
      obtain ⟨h1, h2, h3, h4⟩ := ixN_seq hn
      exact .inr ⟨p, us, i, k, yv, rfl, rfl, eh, b1, b2, by rw [rr.length]; exact h1, e2, q _ _ _ (Le.refl F) (hs.setM em (.lst (rr.erase k))) ry⟩
end
end FM

set_option Elab.async false
set_option linter.all false
set_option maxRecDepth 100000
set_option maxHeartbeats 2000000
/-! FG: iterators, loops, comprehensions over data. -/
namespace FM
open PySem PySem.Spec L2
open PyProof.Rows hiding St

/-! ### iterators -/
abbrev TDI := DSt → MH → (List D → (MH → Prop) → MH → Prop) → Prop
/-- J yields the items xs, as long as K holds of the cells -/
def ItD (c : Ctx) (F : Hp) (J : It) (xs : List D) (K : MH → Prop) : Prop := ∀ F' H' M', Le F F' → HS c F' H' M' → K M' → ∀ i,
  (xs.length ≤ i → J.stop i H') ∧ ∀ x, xs[i]? = some x → J.go i H' ∧ ∀ v H2, J.yld i H' v H2 → ∃ F2, Le F' F2 ∧ HS c F2 H2 M' ∧ Rep c F2 v x
def dnI (c : Ctx) (F : Hp) (R : It → Hp → Prop) : List D → (MH → Prop) → MH → Prop := fun xs K M' => ∀ J F' H', Le F F' → HS c F' H' M' → ItD c F' J xs K → R J H'
def upI (c : Ctx) (B : Hp) (ι : TDI) : TI := fun σ H R => ∃ F δ M, Le B F ∧ HS c F H M ∧ EnvR c F σ δ ∧ ι δ M (dnI c F R)
def MonoI (ι : TDI) : Prop := ∀ δ M (R R' : List D → (MH → Prop) → MH → Prop), (∀ xs K M', R xs K M' → R' xs K M') → ι δ M R → ι δ M R'
structure DI (X : Cx) (B : Hp) (tg iter : Expr) (ι : TDI) : Prop where
  pi : PI X tg iter (upI (cOf X) B ι)
  mono : MonoI ι
theorem PI.imp {X : Cx} {tg iter : Expr} {w w' : TI} (h : PI X tg iter w) (k : ∀ σ H R, w' σ H R → w σ H R) : PI X tg iter w' := ⟨fun pins s σ H R I q => h.run pins s σ H R I (k σ H R q)⟩
theorem dnI_le {c : Ctx} {F F' : Hp} {R : It → Hp → Prop} (e : Le F F') : ∀ xs K M', dnI c F R xs K M' → dnI c F' R xs K M' := fun _ _ _ h J F2 H2 l => h J F2 H2 (e.trans l)
section
variable {X : Cx} {B : Hp} {tg e : Expr} {τ : TDE} {τs : TDA}
/-- e of any kind that is iterated as it stands -/
def iAny (K : Frag) (tl : TE) : TI := fun σ H R => tl σ H fun x H1 => (∃ a, x = .ref a ∧ (∃ xs, SqL K H1 a xs) ∧ R (Itl K a) H1) ∨ (∃ a, x = .ref a ∧ (∃ xs, SqT K H1 a xs) ∧ R (Itt K a) H1) ∨
  (∃ d kvs o, x = .ref d ∧ H1 d = some (.frz o (.dK kvs)) ∧ R (Itk d o kvs) H1)
theorem pi_any {l : Expr} {tl : TE} (hl : PE X l tl) : PI X tg l (iAny X.K tl) := by
  refine ⟨fun pins s σ H R I h => ?_⟩
  refine thn (hl.run pins s σ H _ I h) fun v s1 ⟨x, H1, I1, r1, q1⟩ => ?_
  rcases q1 with ⟨a, e, ⟨xs, hq⟩, q⟩ | ⟨a, e, ⟨xs, hq⟩, q⟩ | ⟨d, kvs, o, e, hd, q⟩
  · subst e
    cases r1
    obtain ⟨its, rv, p, hz⟩ := I1.list hq
    refine wpAny_pyIter_list p.isList ?_
    refine ⟨s1.heap.objs.size, [s1.heap.objs.size], _, _, H1, rfl, I1.kept (t' := s1.toks) fun b o e => Heap.get?_push_of_some _ e, turn_list a _, ⟨_, Heap.get?_push_size _ rfl, rfl, rfl⟩, fun b hb => ?_, q⟩
    have e : b = s1.heap.objs.size := by simpa using hb
    subst e
    exact I1.fpOk (Nat.le_refl _) (I1.hok.fresh (Nat.le_refl _))
  · subst e
    cases r1
    obtain ⟨its, rv, p, hz⟩ := I1.tuple hq
    refine wpAny_pyIter_tuple (show s1.heap.IsTuple a its.toArray from p) ?_
    refine ⟨s1.heap.objs.size, [s1.heap.objs.size], _, _, H1, rfl, I1.kept (t' := s1.toks) fun b o e => Heap.get?_push_of_some _ e, turn_tuple a _, ⟨_, Heap.get?_push_size _ rfl, rfl, rfl⟩, fun b hb => ?_, q⟩
    have e : b = s1.heap.objs.size := by simpa using hb
    subst e
    exact I1.fpOk (Nat.le_refl _) (I1.hok.fresh (Nat.le_refl _))
  · subst e
    cases r1
    obtain ⟨hs, hgd, hx, es, ep, vs, hdt, hsz, kv, hm⟩ := I1.frzK hd
    refine iter_keys hs hgd hx hdt (pi_one (tk := s1.toks) I1 _ (turn_keys _ hdt) ⟨_, Heap.get?_push_size _ rfl, rfl, ?_⟩ q)
    rw [hsz] <;> rfl
theorem RepK.getE {c : Ctx} {F : Hp} : ∀ {ds : List (Key × D)} {vs : List (Key × V)} {i : Nat} {k : Key} {d : D}, RepK c F vs ds → ds[i]? = some (k, d) → ∃ v, vs[i]? = some (k, v) ∧ Rep c F v d
  | [], _, _, _, _, _, e => by simp at e
  | (k0, d0) :: ds, _, 0, _, _, h, e => by
    cases h with | cons h1 h2 =>
    simp at e; obtain ⟨rfl, rfl⟩ := e; exact ⟨_, rfl, h1⟩
  | (k0, d0) :: ds, _, i + 1, k, d, h, e => by
    cases h with | cons h1 h2 =>
    obtain ⟨v, e1, r⟩ := RepK.getE (i := i) h2 (by simpa using e)
    exact ⟨v, by simpa using e1, r⟩
theorem kD_rep {c : Ctx} {F : Hp} : ∀ k : Key, Rep c F (kV k) (kD k)
  | .inl i => .int i
  | .inr x => .str x
/-- what a locked dict's cell tells -/
theorem HS.celK {c : Ctx} {F H : Hp} {M : MH} (hs : HS c F H M) {p : Addr} {u : HO} {ks : List (Key × D)} (h : M p = some (.lock u (.dic ks))) : ∃ o vs, u = .frz o (.dK vs) ∧ H p = some (.frz o (.dK vs)) ∧ RepK c F vs ks := by
  obtain ⟨o, e, r⟩ := hs.cel p _ h
  cases r with | lock r => cases r with | dic r => exact ⟨_, _, rfl, e, r⟩
/-- an iterable as it stands: list, tuple, dict (its keys); a cell is not to change -/
def dIAny (τ : TDE) : TDI := fun δ M R => τ δ M fun d M1 => match d with
  | .lst xs => R xs (fun _ => True) M1
  | .tup xs => R xs (fun _ => True) M1
  | .dic ks => R (ks.map fun kv => kD kv.1) (fun _ => True) M1
  | .ref p => oQ (M1 p) fun m => match m with
    | .lst xs => R xs (fun M' => M' p = some (.lst xs)) M1
    | .lock u (.dic ks) => R (ks.map fun kv => kD kv.1) (fun M' => M' p = some (.lock u (.dic ks))) M1
    | _ => False
  | _ => False
theorem itd_keys {c : Ctx} {F : Hp} {d : Addr} {o : Obj} {kvs : List (Key × V)} {ks : List (Key × D)} {K : MH → Prop} (rk : RepK c F kvs ks) (hk : ∀ F' H' M', Le F F' → HS c F' H' M' → K M' → H' d = some (.frz o (.dK kvs))) : ItD c F (Itk d o kvs) (ks.map fun kv => kD kv.1) K := by
  intro F' H' M' l hs k i
  have e := hk F' H' M' l hs k
  refine ⟨fun hi => ⟨e, by rw [rk.length]; simpa using hi⟩, fun x hx => ?_⟩
  rw [List.getElem?_map] at hx
  obtain ⟨⟨k', d'⟩, h1, h2⟩ := Option.map_eq_some_iff.mp hx
  obtain ⟨v', h3, h4⟩ := rk.getE h1
  refine ⟨⟨e, (List.getElem?_eq_some_iff.mp h3).1⟩, fun v H2 ⟨hH, k2, v2, h5, h6⟩ => ?_⟩
  subst hH
  rw [h3] at h5
  cases h5
  subst h6
  subst h2
  exact ⟨F', Le.refl _, hs, kD_rep _⟩
theorem itd_items {c : Ctx} {F : Hp} {d : Addr} {o : Obj} {kvs : List (Key × V)} {ks : List (Key × D)} {K : MH → Prop} (rk : RepK c F kvs ks) (hk : ∀ F' H' M', Le F F' → HS c F' H' M' → K M' → H' d = some (.frz o (.dK kvs))) : ItD c F (Iti d o kvs) (ks.map fun kv => .tup [kD kv.1, kv.2]) K := by
  intro F' H' M' l hs k i
  have e := hk F' H' M' l hs k
  refine ⟨fun hi => ⟨e, by rw [rk.length]; simpa using hi⟩, fun x hx => ?_⟩
  rw [List.getElem?_map] at hx
  obtain ⟨⟨k', d'⟩, h1, h2⟩ := Option.map_eq_some_iff.mp hx
  obtain ⟨v', h3, h4⟩ := rk.getE h1
  refine ⟨⟨e, (List.getElem?_eq_some_iff.mp h3).1⟩, fun v H2 ⟨T, k2, v2, h5, h6, h7, h8⟩ => ?_⟩
  subst h8 h6
  rw [h3] at h5
  cases h5
  subst h2
  obtain ⟨l2, hs2⟩ := hs.newF h7 (.tup [kV k', v'])
  exact ⟨_, l2, hs2, .tup (SqT.of upd_same) (.cons (kD_rep _) (.cons ((h4.mono l).mono l2) .nil))⟩
theorem di_any (he : DE X B e τ) : DI X B tg e (dIAny τ) := by
  refine ⟨PI.imp (pi_any he.pe) fun σ H R ⟨F, δ, M, lb, hs, ev, q⟩ => ?_, fun δ M R R' k h => he.mono _ _ _ _ (fun d M1 h => ?_) h⟩
  · refine upE_bind he.mono lb hs ev q fun d M1 v F1 H1 l1 hs1 ev1 r q1 => ?_
    cases r with
    | lst h1 h2 =>
      refine .inl ⟨_, rfl, ⟨_, hs1.sqL h1⟩, q1 _ F1 H1 l1 hs1 fun F' H' M' l hs' k i => ⟨fun hi => ⟨_, hs'.sqL (l _ _ h1), by rw [h2.length]; exact hi⟩, fun x hx => ?_⟩⟩
      obtain ⟨v, e1, rv⟩ := h2.get hx
      exact ⟨⟨_, v, hs'.sqL (l _ _ h1), e1⟩, fun u H2 ⟨e, y⟩ => by
        subst e
        have := y _ (hs'.sqL (l _ _ h1))
        rw [e1] at this; cases this
        exact ⟨F', Le.refl _, hs', rv.mono l⟩⟩
    | tup h1 h2 =>
      refine .inr (.inl ⟨_, rfl, ⟨_, hs1.sqT h1⟩, q1 _ F1 H1 l1 hs1 fun F' H' M' l hs' k i => ⟨fun hi => ⟨_, hs'.sqT (l.sqT h1), by rw [h2.length]; exact hi⟩, fun x hx => ?_⟩⟩)
      obtain ⟨v, e1, rv⟩ := h2.get hx
      exact ⟨⟨_, v, hs'.sqT (l.sqT h1), e1⟩, fun u H2 ⟨e, y⟩ => by
        subst e
        have := y _ (hs'.sqT (l.sqT h1))
        rw [e1] at this; cases this
        exact ⟨F', Le.refl _, hs', rv.mono l⟩⟩
    | dic h1 h2 =>
      exact .inr (.inr ⟨_, _, _, rfl, hs1.sub _ _ h1, q1 _ F1 H1 l1 hs1 (itd_keys h2 fun F' H' M' l hs' _ => hs'.sub _ _ (l _ _ h1))⟩)
    | ref p =>
      obtain ⟨m, em, q1⟩ := oQ_get q1
      cases m with
      | lst xs =>
        obtain ⟨vs, sl, rr⟩ := hs1.celL em
        refine .inl ⟨_, rfl, ⟨_, SqL.of sl⟩, q1 _ F1 H1 l1 hs1 fun F' H' M' l hs' k i => ?_⟩
        obtain ⟨us, sl', rr'⟩ := hs'.celL k
        refine ⟨fun hi => ⟨_, SqL.of sl', by rw [rr'.length]; exact hi⟩, fun x hx => ?_⟩
        obtain ⟨v, e1, rv⟩ := rr'.get hx
        exact ⟨⟨_, v, SqL.of sl', e1⟩, fun u H2 ⟨e, y⟩ => by
          subst e
          have := y _ (SqL.of sl')
          rw [e1] at this; cases this
          exact ⟨F', Le.refl _, hs', rv⟩⟩
      | lock u m =>
        cases m with
        | dic ks =>
          obtain ⟨o, vs, eu, eh, rr⟩ := hs1.celK em
          subst eu
          exact .inr (.inr ⟨_, _, _, rfl, eh, q1 _ F1 H1 l1 hs1 (itd_keys rr fun F' H' M' l hs' k => by obtain ⟨o2, vs2, e2, e3, _⟩ := hs'.celK k; rw [e2]; exact e3)⟩)
        | _ => exact (show False from q1).elim
      | _ => exact (show False from q1).elim
    | _ => exact (show False from q1).elim
  · cases d with
    | lst xs => exact k _ _ _ h
    | tup xs => exact k _ _ _ h
    | dic xs => exact k _ _ _ h
    | ref p =>
      refine oQ_mono (fun m h => ?_) h
      cases m with
      | lst xs => exact k _ _ _ h
      | lock u m => cases m <;> first | exact k _ _ _ h | exact h
      | _ => exact h
    | _ => exact h
/-- d.items() of a frozen dict, or of a cell under a lock -/
def dIItems (τ : TDE) : TDI := fun δ M R => τ δ M fun d M1 => match d with
  | .dic ks => R (ks.map fun kv => .tup [kD kv.1, kv.2]) (fun _ => True) M1
  | .ref p => oQ (M1 p) fun m => match m with
    | .lock u (.dic ks) => R (ks.map fun kv => .tup [kD kv.1, kv.2]) (fun M' => M' p = some (.lock u (.dic ks))) M1
    | _ => False
  | _ => False
theorem di_items {elts : List Expr} {kk : Nat} {tpos apos cpos : Pos} (he : DE X B e τ) (hbase : attributeBase e "items" X.env (eval e X.env) = eval e X.env := by rfl) (hline : (apos.endLine == cpos.line) = true := by rfl) :
    DI X B (.Tuple elts kk tpos) (.Call (.Attribute e "items" apos) [] [] cpos) (dIItems τ) := by
  refine ⟨PI.imp (pi_items he.pe hbase hline) fun σ H R ⟨F, δ, M, lb, hs, ev, q⟩ => ?_, fun δ M R R' k h => he.mono _ _ _ _ (fun d M1 h => by
    cases d <;> first
      | exact k _ _ _ h
      | exact oQ_mono (fun m h => by
          cases m with
          | lock u m => cases m <;> first | exact k _ _ _ h | exact h
          | _ => exact h) h
      | exact h) h⟩
  refine upE_bind he.mono lb hs ev q fun d M1 v F1 H1 l1 hs1 ev1 r q1 => ?_
  cases r with
  | dic h1 h2 => exact ⟨_, _, _, rfl, hs1.sub _ _ h1, q1 _ F1 H1 l1 hs1 (itd_items h2 fun F' H' M' l hs' _ => hs'.sub _ _ (l _ _ h1))⟩
  | ref p =>
    obtain ⟨m, em, q1⟩ := oQ_get q1
    cases m with
    | lock u m =>
      cases m with
      | dic ks =>
        obtain ⟨o, vs, eu, eh, rr⟩ := hs1.celK em
        subst eu
        exact ⟨_, _, _, rfl, eh, q1 _ F1 H1 l1 hs1 (itd_items rr fun F' H' M' l hs' k => by obtain ⟨o2, vs2, e2, e3, _⟩ := hs'.celK k; rw [e2]; exact e3)⟩
      | _ => exact (show False from q1).elim
    | _ => exact (show False from q1).elim
  | _ => exact (show False from q1).elim
/-- ranges -/
def dIRng1 (τs : TDA) : TDI := fun δ M R => τs δ M fun ds M1 => match ds with
  | [.int j] => -(2 ^ 62) ≤ j ∧ j < 2 ^ 62 ∧ R ((List.range j.toNat).map fun i => .int (i : Nat)) (fun _ => True) M1
  | _ => False
def dIRng2 (τs : TDA) : TDI := fun δ M R => τs δ M fun ds M1 => match ds with
  | [.int i, .int j] => (-(2 ^ 62) ≤ i ∧ i < 2 ^ 62 ∧ -(2 ^ 62) ≤ j ∧ j < 2 ^ 62) ∧ R ((List.range (j - i).toNat).map fun k => .int (i + (k : Nat))) (fun _ => True) M1
  | _ => False
theorem itd_range {c : Ctx} {F : Hp} {lo : Int} {n : Nat} {K : MH → Prop} : ItD c F (Itr lo n) ((List.range n).map fun k => .int (lo + (k : Nat))) K := by
  intro F' H' M' l hs k i
  refine ⟨fun hi => show n ≤ i by simpa using hi, fun x hx => ?_⟩
  rw [List.getElem?_map] at hx
  obtain ⟨j, h1, h2⟩ := Option.map_eq_some_iff.mp hx
  obtain ⟨h3, h4⟩ := List.getElem?_eq_some_iff.mp h1
  rw [List.getElem_range] at h4
  rw [List.length_range] at h3
  refine ⟨h3, fun v H2 ⟨hH, e⟩ => ?_⟩
  subst hH e h2 h4
  exact ⟨F', Le.refl _, hs, .int _⟩
theorem di_range1 {a : Expr} {p pos : Pos} (hg : Gl X "range") (hm : X.mg "range" = none) (ha : DA X B [a] τs) (hs : starEach [a] X.env = [(false, eval a X.env)] := by rfl) : DI X B tg (.Call (.Name "range" p) [a] [] pos) (dIRng1 τs) := by
  refine ⟨PI.imp (pi_range1 hg hm ha.pa hs) fun σ H R ⟨F, δ, M, lb, hs, ev, q⟩ => ?_, fun δ M R R' k h => ha.mono _ _ _ _ (fun ds M1 h => ?_) h⟩
  · refine upA_bind ha.mono lb hs ev q fun ds M1 vs F1 H1 l1 hs1 ev1 rs q1 => ?_
    match ds, rs, q1 with
    | [.int j], .cons r .nil, q1 =>
      cases r
      refine ⟨j, rfl, q1.1, q1.2.1, q1.2.2 _ F1 H1 l1 hs1 ?_⟩
      have := itd_range (c := cOf X) (F := F1) (lo := 0) (n := j.toNat) (K := fun _ => True)
      simpa using this
  · match ds, h with
    | [.int j], h => exact ⟨h.1, h.2.1, k _ _ _ h.2.2⟩
theorem di_range2 {a b : Expr} {p pos : Pos} (hg : Gl X "range") (hm : X.mg "range" = none) (ha : DA X B [a, b] τs) (hs : starEach [a, b] X.env = [(false, eval a X.env), (false, eval b X.env)] := by rfl) (hs2 : starEach [b] X.env = [(false, eval b X.env)] := by rfl) :
    DI X B tg (.Call (.Name "range" p) [a, b] [] pos) (dIRng2 τs) := by
  refine ⟨PI.imp (pi_range2 hg hm ha.pa hs hs2) fun σ H R ⟨F, δ, M, lb, hs, ev, q⟩ => ?_, fun δ M R R' k h => ha.mono _ _ _ _ (fun ds M1 h => ?_) h⟩
  · refine upA_bind ha.mono lb hs ev q fun ds M1 vs F1 H1 l1 hs1 ev1 rs q1 => ?_
    match ds, rs, q1 with
    | [.int i, .int j], .cons r (.cons r2 .nil), q1 =>
      cases r; cases r2
      exact ⟨i, j, rfl, q1.1, q1.2 _ F1 H1 l1 hs1 itd_range⟩
  · match ds, h with
    | [.int i, .int j], h => exact ⟨h.1, k _ _ _ h.2⟩
/-- enumerate of a list, frozen or a cell that stays -/
def dIEnum (τs : TDA) : TDI := fun δ M R => τs δ M fun ds M1 => match ds with
  | [.lst xs] => R (xs.zipIdx.map fun p => .tup [.int (p.2 : Nat), p.1]) (fun _ => True) M1
  | _ => False
theorem di_enum {elts : List Expr} {kk : Nat} {p pos tpos : Pos} (hg : Gl X "enumerate") (hm : X.mg "enumerate" = none) (ha : DA X B [e] τs) (hs : starEach [e] X.env = [(false, eval e X.env)] := by rfl) :
    DI X B (.Tuple elts kk tpos) (.Call (.Name "enumerate" p) [e] [] pos) (dIEnum τs) := by
  refine ⟨PI.imp (pi_enum hg hm ha.pa hs) fun σ H R ⟨F, δ, M, lb, hs, ev, q⟩ => ?_, fun δ M R R' k h => ha.mono _ _ _ _ (fun ds M1 h => ?_) h⟩
  · refine upA_bind ha.mono lb hs ev q fun ds M1 vs F1 H1 l1 hs1 ev1 rs q1 => ?_
    match ds, rs, q1 with
    | [.lst xs], .cons r .nil, q1 =>
      cases r with | lst h1 h2 =>
      refine ⟨_, _, rfl, hs1.sqL h1, q1 _ F1 H1 l1 hs1 fun F' H' M' l hs' k i => ⟨fun hi => ⟨_, hs'.sqL (l _ _ h1), by rw [h2.length]; simpa using hi⟩, fun x hx => ?_⟩⟩
      rw [List.getElem?_map] at hx
      obtain ⟨⟨d, j⟩, e1, e2⟩ := Option.map_eq_some_iff.mp hx
      subst e2
      rw [List.getElem?_zipIdx] at e1
      obtain ⟨d', e3, e4⟩ := Option.map_eq_some_iff.mp e1
      cases e4
      obtain ⟨v, e5, rv⟩ := h2.get e3
      refine ⟨⟨_, v, hs'.sqL (l _ _ h1), e5⟩, fun u H2 ⟨T, y, hu, hn, hH, y2⟩ => ?_⟩
      subst hu hH
      have := y2 _ (hs'.sqL (l _ _ h1))
      rw [e5] at this; cases this
      obtain ⟨l2, hs2⟩ := hs'.newF hn (.tup [.int ((i : Nat) : Int), v])
      refine ⟨_, l2, hs2, .tup (SqT.of upd_same) (.cons ?_ (.cons ((rv.mono l).mono l2) .nil))⟩
      rw [Nat.zero_add]
      exact .int _
  · match ds, h with
    | [.lst xs], h => exact k _ _ _ h
end

/-! ### for, while -/
theorem MonoT.go {τ : TDT} {Q Q' : Bool → MH → Prop} {δ : DSt} {M : MH} (m : MonoT τ) (q : τ δ M Q) (k : ∀ d M', Q d M' → Q' d M') : τ δ M Q' := m δ M Q Q' k q
theorem MonoS.go {τ : TDS} {D D' : DEnds} {δ : DSt} {M : MH} (m : MonoS τ) (q : τ D δ M) (l : DLe D D') : τ D' δ M := m D D' δ M l q
def ForGo (D : DEnds) (g : TDG) (tb : TDS) (K : MH → Prop) : List FM.D → DSt → MH → Prop
  | [], δ, M => D.nx δ M
  | x :: xs, δ, M => g x δ M fun δ2 M2 => tb { D with nx := fun δ' M' => K M' ∧ ForGo D g tb K xs δ' M', ct := fun δ' M' => K M' ∧ ForGo D g tb K xs δ' M', bk := D.nx } δ2 M2
def dFor (ι : TDI) (g : TDG) (tb : TDS) : TDS := fun D δ M => ι δ M fun xs K M1 => K M1 ∧ ForGo D g tb K xs δ M1
def MonoG (g : TDG) : Prop := ∀ d δ M (Q Q' : DSt → MH → Prop), (∀ δ M, Q δ M → Q' δ M) → g d δ M Q → g d δ M Q'
theorem ForGo_mono {D D' : DEnds} {g : TDG} {tb : TDS} {K : MH → Prop} (mg : MonoG g) (mb : MonoS tb) (l : DLe D D') : ∀ (xs : List FM.D) (δ : DSt) (M : MH), ForGo D g tb K xs δ M → ForGo D' g tb K xs δ M
  | [], _, _, h => l.nx _ _ h
  | x :: xs, δ, M, h => by
    have h : g x δ M fun δ2 M2 => tb { D with nx := fun δ' M' => K M' ∧ ForGo D g tb K xs δ' M', ct := fun δ' M' => K M' ∧ ForGo D g tb K xs δ' M', bk := D.nx } δ2 M2 := h
    refine mg _ _ _ _ _ (fun δ2 M2 q => ?_) h
    refine mb _ _ _ _ ⟨?_, ?_, ?_, ?_⟩ q
    · exact fun _ _ z => ⟨z.1, ForGo_mono mg mb l xs _ _ z.2⟩
    · exact l.rt
    · exact l.nx
    · exact fun _ _ z => ⟨z.1, ForGo_mono mg mb l xs _ _ z.2⟩
def dWhile (ρ : TDT) (tb : TDS) : TDS := fun D δ M => ∃ W : Nat → DSt → MH → Prop, (∃ m, W m δ M) ∧ ∀ m δ M, W m δ M →
  ρ δ M fun b M1 => ifB b (tb { D with nx := fun δ' M' => ∃ m', m' < m ∧ W m' δ' M', ct := fun δ' M' => ∃ m', m' < m ∧ W m' δ' M', bk := D.nx } δ M1) (D.nx δ M1)
section
variable {X : Cx} {B : Hp} {tg iter : Expr} {ι : TDI} {g : TDG} {tb : TDS} {ρ : TDT} {pos : Pos} {body : List Stmt}
theorem ds_for (hp : PassesOwn (model X.prog X.w) X.A X.env X.xe) (hc : X.calm = true) (hi : DI X B tg iter ι) (hg : DG X B tg g) (hb : DSs X B body tb)
    (hs : ∀ x, foldedSetIterable iter X.env x = pure x := by intro _; rfl) : DS X B (.For tg iter body [] pos) (dFor ι g tb) := by
  refine ⟨PS.imp (ps_for hp hc hi.pi hg.pg hb.ps hs) fun D σ H ⟨F, δ, M, lb, hs, ev, q⟩ => ?_, fun D D' δ M l h => hi.mono _ _ _ _ (fun xs K M' h => ⟨h.1, ForGo_mono hg.mono hb.mono l _ _ _ h.2⟩) h⟩
  refine ⟨F, δ, M, lb, hs, ev, hi.mono _ _ _ _ (fun xs K M1 ⟨k1, q1⟩ => ?_) q⟩
  intro J F1 H1 l1 hs1 it
  refine ⟨fun i m σ' H' => m = xs.length - i ∧ i ≤ xs.length ∧ ∃ F' δ' M', Le F1 F' ∧ HS (cOf X) F' H' M' ∧ EnvR (cOf X) F' σ' δ' ∧ K M' ∧ ForGo (dnS (cOf X) F1 D) g tb K (xs.drop i) δ' M',
    ⟨xs.length, by simp, Nat.zero_le _, F1, δ, M1, Le.refl _, hs1, ev.mono l1, k1, ForGo_mono hg.mono hb.mono (dnS_le l1) _ _ _ q1⟩, ?_⟩
  rintro i m σ' H' ⟨rfl, hi', F', δ', M', l', hs', ev', k', go⟩
  obtain ⟨stop, step⟩ := it F' H' M' l' hs' k' i
  by_cases hlt : i < xs.length
  · right
    obtain ⟨g1, g2⟩ := step xs[i] (List.getElem?_eq_getElem hlt)
    refine ⟨g1, fun σ2 H2 => ∃ F2 δ2 M2, Le F1 F2 ∧ HS (cOf X) F2 H2 M2 ∧ EnvR (cOf X) F2 σ2 δ2 ∧ K M2 ∧ ForGo (dnS (cOf X) F1 D) g tb K (xs.drop (i + 1)) δ2 M2, fun σ2 H2 h => ⟨xs.length - (i + 1), by omega, rfl, hlt, h⟩, fun x H2 y => ?_⟩
    obtain ⟨F2, l2, hs2, rx⟩ := g2 x H2 y
    rw [List.drop_eq_getElem_cons hlt] at go
    refine ⟨F2, δ', M', _, lb.trans (l1.trans (l'.trans l2)), hs2, ev'.mono l2, rx, hg.mono _ _ _ _ _ (fun δ3 M3 q3 => ?_) go⟩
    intro σ3 F3 H3 l3 hs3 ev3
    have lf := l'.trans (l2.trans l3)
    have low : DLe (dnS (cOf X) F1 D) (dnS (cOf X) F3 D) := dnS_le lf
    refine ⟨F3, δ3, M3, (lb.trans l1).trans lf, hs3, ev3, hb.mono.go q3 ⟨fun δ4 M4 z => ?_, low.rt, low.nx, fun δ4 M4 z => ?_⟩⟩
    · exact fun σ4 F4 H4 l4 hs4 ev4 => ⟨F4, δ4, M4, lf.trans l4, hs4, ev4, z.1, z.2⟩
    · exact fun σ4 F4 H4 l4 hs4 ev4 => ⟨F4, δ4, M4, lf.trans l4, hs4, ev4, z.1, z.2⟩
  · left
    have e : i = xs.length := by omega
    subst e
    rw [List.drop_length] at go
    exact ⟨stop (Nat.le_refl _), go σ' F' H' l' hs' ev'⟩
theorem ds_while {c : Expr} (hp : PassesOwn (model X.prog X.w) X.A X.env X.xe) (hc : DT X B c ρ) (hb : DSs X B body tb) : DS X B (.While c body [] pos) (dWhile ρ tb) := by
  refine ⟨PS.imp (ps_while hp hc.pt hb.ps) fun D σ H ⟨F, δ, M, lb, hs, ev, W, ⟨m0, w0⟩, turn⟩ => ?_, fun D D' δ M l ⟨W, w0, turn⟩ => ⟨W, w0, fun m δ M w => ?_⟩⟩
  rotate_left
  · refine hc.mono _ _ _ _ (fun b M1 h => ?_) (turn m δ M w)
    refine ifB_mono (fun q => ?_) (l.nx _ _) h
    refine hb.mono _ _ _ _ ⟨?_, ?_, ?_, ?_⟩ q
    · exact fun _ _ z => z
    · exact l.rt
    · exact l.nx
    · exact fun _ _ z => z
  refine ⟨fun m σ' H' => ∃ F' δ' M', Le F F' ∧ HS (cOf X) F' H' M' ∧ EnvR (cOf X) F' σ' δ' ∧ W m δ' M', ⟨m0, F, δ, M, Le.refl _, hs, ev, w0⟩, ?_⟩
  rintro m σ' H' ⟨F', δ', M', l', hs', ev', w'⟩
  refine upT_bind hc.mono (lb.trans l') hs' ev' (turn m δ' M' w') fun b M1 F1 H1 l1 hs1 ev1 q1 => ?_
  cases b with
  | true =>
    rw [if_pos rfl]
    refine ⟨fun σ2 H2 => ∃ m', m' < m ∧ ∃ F2 δ2 M2, Le F F2 ∧ HS (cOf X) F2 H2 M2 ∧ EnvR (cOf X) F2 σ2 δ2 ∧ W m' δ2 M2, fun σ2 H2 ⟨m', hm, h⟩ => ⟨m', hm, h⟩, ?_⟩
    have low : DLe (dnS (cOf X) F D) (dnS (cOf X) F1 D) := dnS_le (l'.trans l1)
    refine ⟨F1, δ', M1, lb.trans (l'.trans l1), hs1, ev1, hb.mono.go (q1.1 rfl) ⟨fun δ4 M4 z => ?_, low.rt, low.nx, fun δ4 M4 z => ?_⟩⟩
    · obtain ⟨m', hm, w⟩ := z
      exact fun σ4 F4 H4 l4 hs4 ev4 => ⟨m', hm, F4, δ4, M4, (l'.trans l1).trans l4, hs4, ev4, w⟩
    · obtain ⟨m', hm, w⟩ := z
      exact fun σ4 F4 H4 l4 hs4 ev4 => ⟨m', hm, F4, δ4, M4, (l'.trans l1).trans l4, hs4, ev4, w⟩
  | false => rw [if_neg Bool.false_ne_true]; exact q1.2 rfl σ' F1 H1 (l'.trans l1) hs1 ev1
/-- the statement runs while a dict's cell is locked -/
def dLk (t : TDS) : TDS := fun D δ M => ∃ p ks, M p = some (.dic ks) ∧ ∀ u, t ⟨fun δ' M' => M' p = some (.lock u (.dic ks)) ∧ D.nx δ' (updM M' p (.dic ks)), fun d M' => M' p = some (.lock u (.dic ks)) ∧ D.rt d (updM M' p (.dic ks)),
  fun δ' M' => M' p = some (.lock u (.dic ks)) ∧ D.bk δ' (updM M' p (.dic ks)), fun δ' M' => M' p = some (.lock u (.dic ks)) ∧ D.ct δ' (updM M' p (.dic ks))⟩ δ (updM M p (.lock u (.dic ks)))
theorem ds_lk {st : Stmt} {t : TDS} (h : DS X B st t) : DS X B st (dLk t) := by
  refine ⟨PS.imp (ps_lock h.ps) fun D σ H ⟨F, δ, M, lb, hs, ev, p, ks, em, q⟩ => ?_, fun D D' δ M l ⟨p, ks, em, q⟩ => ⟨p, ks, em, fun u => ?_⟩⟩
  · obtain ⟨vs, eh, rr⟩ := hs.celD em
    refine ⟨p, _, eh, trivial, fun od => ?_⟩
    have hs2 : HS (cOf X) F (upd H p (.frz od (.dK vs))) (updM M p (.lock (.frz od (.dK vs)) (.dic ks))) := hs.setM em (.lock (.dic rr))
    have back : ∀ {F' H' M'}, Le F F' → HS (cOf X) F' H' M' → M' p = some (.lock (.frz od (.dK vs)) (.dic ks)) → H' p = some (.frz od (.dK vs)) ∧ HS (cOf X) F' (upd H' p (.dK vs)) (updM M' p (.dic ks)) := fun {F' H' M'} l hs' e => by
      obtain ⟨o2, vs2, e2, e3, r3⟩ := hs'.celK e
      cases e2
      exact ⟨e3, hs'.setM e (.dic r3)⟩
    refine ⟨F, δ, _, lb, hs2, ev, h.mono.go (q _) ⟨?_, ?_, ?_, ?_⟩⟩
    · exact fun δ' M' ⟨z1, z2⟩ σ' F' H' l hs' ev' => ⟨(back l hs' z1).1, z2 σ' F' _ l (back l hs' z1).2 ev'⟩
    · exact fun d M' ⟨z1, z2⟩ v F' H' l hs' r => ⟨(back l hs' z1).1, z2 v F' _ l (back l hs' z1).2 r⟩
    · exact fun δ' M' ⟨z1, z2⟩ σ' F' H' l hs' ev' => ⟨(back l hs' z1).1, z2 σ' F' _ l (back l hs' z1).2 ev'⟩
    · exact fun δ' M' ⟨z1, z2⟩ σ' F' H' l hs' ev' => ⟨(back l hs' z1).1, z2 σ' F' _ l (back l hs' z1).2 ev'⟩
  · refine h.mono.go (q u) ⟨?_, ?_, ?_, ?_⟩
    · exact fun _ _ z => ⟨z.1, l.nx _ _ z.2⟩
    · exact fun _ _ z => ⟨z.1, l.rt _ _ z.2⟩
    · exact fun _ _ z => ⟨z.1, l.bk _ _ z.2⟩
    · exact fun _ _ z => ⟨z.1, l.ct _ _ z.2⟩
end
end FM

set_option Elab.async false
set_option linter.all false
set_option maxRecDepth 100000
set_option maxHeartbeats 2000000
/-! FH: comprehensions over data. -/
namespace FM
open PySem PySem.Spec L2
open PyProof.Rows hiding St

/-! ### a block's target: nothing but the own slots changes -/
def dnNv (c : Ctx) (F : Hp) (σ : St) (vs : List Nat) (Q : St → Hp → Prop) : DSt → MH → Prop := fun δ' M' => ∀ σ' F' H', Le F F' → HS c F' H' M' → EnvR c F' σ' δ' → wipe σ' vs = wipe σ vs → Q σ' H'
def upGv (c : Ctx) (B : Hp) (vs : List Nat) (g : TDG) : TG := fun v σ H Q => ∃ F δ M d, Le B F ∧ HS c F H M ∧ EnvR c F σ δ ∧ Rep c F v d ∧ g d δ M (dnNv c F σ vs Q)
def upGsv (c : Ctx) (B : Hp) (vs : List Nat) (g : TDGs) : TGs := fun us σ H Q => ∃ F δ M ds, Le B F ∧ HS c F H M ∧ EnvR c F σ δ ∧ Reps c F us ds ∧ g ds δ M (dnNv c F σ vs Q)
structure DGv (X : Cx) (B : Hp) (vs : List Nat) (tg : Expr) (g : TDG) : Prop where
  pg : PG X tg (upGv (cOf X) B vs g)
  mono : MonoG g
structure DGsv (X : Cx) (B : Hp) (vs : List Nat) (ts : List Expr) (g : TDGs) : Prop where
  pg : PGs X ts (upGsv (cOf X) B vs g)
  mono : ∀ d δ M (Q Q' : DSt → MH → Prop), (∀ δ M, Q δ M → Q' δ M) → g d δ M Q → g d δ M Q'
theorem wipe_at {i : Nat} : ∀ (σ : St) (vs : List Nat), i ∈ vs → ∀ o, wipe (σ.set i o) vs = wipe σ vs
  | σ, v :: vs, h, o => by
    show (wipe (σ.set i o) vs).set v none = (wipe σ vs).set v none
    rcases List.mem_cons.mp h with e | h
    · subst e
      clear h
      induction vs with
      | nil => show (σ.set i o).set i none = σ.set i none; rw [List.set_set]
      | cons w vs ih =>
        show ((wipe (σ.set i o) vs).set w none).set i none = ((wipe σ vs).set w none).set i none
        by_cases e : w = i
        · subst e; rw [List.set_set, List.set_set]; exact ih
        · rw [List.set_comm _ _ e, ih, List.set_comm _ _ e]
    · rw [wipe_at σ vs h o]
theorem wipe_twice : ∀ (σ : St) (vs : List Nat), wipe (wipe σ vs) vs = wipe σ vs := fun σ vs => by
  have key : ∀ (ws : List Nat) (σ : St), (∀ i ∈ ws, i ∈ vs) → wipe (wipe σ ws) vs = wipe σ vs := by
    intro ws
    induction ws with
    | nil => intro σ _; rfl
    | cons w ws ih =>
      intro σ h
      show wipe ((wipe σ ws).set w none) vs = _
      rw [wipe_at _ vs (h w (List.mem_cons_self ..)), ih σ fun i hi => h i (List.mem_cons_of_mem _ hi)]
  exact key vs σ fun _ h => h
section
variable {X : Cx} {B : Hp} {vs : List Nat} {pos : Pos}
theorem dgv_name {i : Nat} {x : Str} (hN : X.N.Nodup) (hi : X.N[i]? = some x) (hx : Loc X.env.scope x) (hv : i ∈ vs) (hf : X.fn x = true ∨ X.env.scope.names.lookup x = some .local := by first | exact .inl rfl | exact .inr rfl | assumption) : DGv X B vs (.Name x pos) (dgN i) :=
  ⟨PG.imp (pg_name hN hi hx hf) fun v σ H Q ⟨F, δ, M, d, lb, hs, ev, r, q⟩ => q _ F H (Le.refl F) hs (ev.put i r) (wipe_at σ vs hv _), fun _ _ _ _ _ k h => k _ _ h⟩
theorem dgsv_nil : DGsv X B vs [] dgNil := by
  refine ⟨PGs.imp pgs_nil fun us σ H Q ⟨F, δ, M, ds, lb, hs, ev, rs, q⟩ => ?_, fun ds _ _ _ _ k h => by cases ds <;> first | exact k _ _ h | exact h⟩
  cases rs with
  | nil => exact ⟨rfl, q _ F H (Le.refl F) hs ev rfl⟩
  | cons _ _ => exact (show False from q).elim
theorem dgsv_cons {tg : Expr} {ts : List Expr} {t : TDG} {u : TDGs} (h1 : DGv X B vs tg t) (h2 : DGsv X B vs ts u) (hs : (assignEach (tg :: ts) X.env).map (·.2) = assign tg X.env :: (assignEach ts X.env).map (·.2) := by rfl) : DGsv X B vs (tg :: ts) (dgCons t u) := by
  refine ⟨PGs.imp (pgs_cons h1.pg h2.pg hs) fun us σ H Q ⟨F, δ, M, ds, lb, hs, ev, rs, q⟩ => ?_, fun ds _ _ _ _ k h => by
    cases ds with
    | nil => exact h
    | cons d r => exact h1.mono _ _ _ _ _ (fun _ _ q => h2.mono _ _ _ _ _ k q) h⟩
  cases rs with
  | nil => exact (show False from q).elim
  | cons r rr =>
    refine ⟨_, _, rfl, F, δ, M, _, lb, hs, ev, r, h1.mono _ _ _ _ _ (fun δ' M' q' => ?_) q⟩
    intro σ' F' H' l hs' ev' hw
    exact ⟨F', δ', M', _, lb.trans l, hs', ev', rr.mono l, h2.mono _ _ _ _ _ (fun δ2 M2 q2 σ2 F2 H2 l2 hs2 ev2 w2 => q2 σ2 F2 H2 (l.trans l2) hs2 ev2 (w2.trans hw)) q'⟩
theorem dgv_tup {es : List Expr} {k : Nat} {t : TDGs} {n : Nat} (hc : X.calm = true) (h : DGsv X B vs es t) (hn : (assignEach es X.env).length = n := by rfl) (hst : (assignEach es X.env).findIdx? (·.1) = none := by rfl) : DGv X B vs (.Tuple es k pos) (dgTup n t) := by
  refine ⟨PG.imp (pg_tup hc h.pg hn hst) fun v σ H Q ⟨F, δ, M, d, lb, hs, ev, r, q⟩ => ?_, fun d _ _ _ _ k q => by
    cases d with
    | tup ds => exact ⟨q.1, h.mono _ _ _ _ _ k q.2⟩
    | _ => exact q⟩
  cases r with
  | tup h1 h2 => exact ⟨_, _, rfl, hs.sqT h1, by rw [h2.length]; exact q.1, F, δ, M, _, lb, hs, ev, h2, q.2⟩
  | _ => exact (show False from q).elim
end

/-! ### tests -/
structure DTs (X : Cx) (B : Hp) (ifs : List Expr) (ρ : TDT) : Prop where
  pt : PTs X ifs (upT (cOf X) B ρ)
  mono : MonoT ρ
def dYes : TDT := fun _ M Q => Q true M
section
variable {X : Cx} {B : Hp}
theorem PTs.imp {ifs : List Expr} {t t' : TT} (h : PTs X ifs t) (k : ∀ σ H Q, t' σ H Q → t σ H Q) : PTs X ifs t' := ⟨fun pins s σ H Q I q => h.run pins s σ H Q I (k σ H Q q)⟩
theorem dts_nil : DTs X B [] dYes := ⟨PTs.imp pts_nil fun σ H Q ⟨F, δ, M, lb, hs, ev, q⟩ => q F H (Le.refl F) hs, fun _ _ _ _ k h => k _ _ h⟩
theorem dts_one {c : Expr} {ρ : TDT} (h : DT X B c ρ) : DTs X B [c] ρ := ⟨pts_one h.pt, h.mono⟩
end

/-! ### list comprehensions -/
/-- a turn: the item's answer, or none -/
def LcTurn (g : TDG) (tt : TDT) (te : TDE) (vs : List Nat) (δ : DSt) (x : D) (M : MH) (Q : Option D → MH → Prop) : Prop :=
  g x (wipeD δ vs) M fun δ2 M2 => tt δ2 M2 fun b M3 => ifB b (te δ2 M3 fun y M4 => Q (some y) M4) (Q none M3)
def LcGo (g : TDG) (tt : TDT) (te : TDE) (vs : List Nat) (δ : DSt) (p : Addr) (K : MH → Prop) (Q : List D → MH → Prop) : List D → List D → MH → Prop
  | [], acc, M => Q acc M
  | x :: xs, acc, M => LcTurn g tt te vs δ x M fun o M4 => match o with
    | some y => M4 p = some (.lst acc) ∧ acc.length < sizeLine ∧ K (updM M4 p (.lst (acc ++ [y]))) ∧ LcGo g tt te vs δ p K Q xs (acc ++ [y]) (updM M4 p (.lst (acc ++ [y])))
    | none => K M4 ∧ LcGo g tt te vs δ p K Q xs acc M4
def dLcG (ι : TDI) (g : TDG) (tt : TDT) (te : TDE) (vs : List Nat) (fin : Addr → List D → MH → DQ → Prop) : TDE := fun δ M Q => ι δ M fun xs K M1 => ∀ p, M1 p = none → K (updM M1 p (.lst [])) ∧ LcGo g tt te vs δ p K (fun acc M' => fin p acc M' Q) xs [] (updM M1 p (.lst []))
def finF (p : Addr) (acc : List D) (M' : MH) (Q : DQ) : Prop := M' p = some (.lst acc) ∧ Q (.lst acc) (delM M' p)
def finM (p : Addr) (acc : List D) (M' : MH) (Q : DQ) : Prop := Q (.ref p) M'
/-- frozen -/
abbrev dLc (ι : TDI) (g : TDG) (tt : TDT) (te : TDE) (vs : List Nat) : TDE := dLcG ι g tt te vs finF
/-- a cell -/
abbrev dLcM (ι : TDI) (g : TDG) (tt : TDT) (te : TDE) (vs : List Nat) : TDE := dLcG ι g tt te vs finM
section
variable {g : TDG} {tt : TDT} {te : TDE} {vs : List Nat} {δ : DSt}
theorem LcTurn_mono (mg : MonoG g) (mt : MonoT tt) (me : MonoE te) {x : D} {M : MH} {Q Q' : Option D → MH → Prop} (k : ∀ o M, Q o M → Q' o M) (h : LcTurn g tt te vs δ x M Q) : LcTurn g tt te vs δ x M Q' :=
  mg _ _ _ _ _ (fun _ _ q => mt _ _ _ _ (fun _ _ q => ifB_mono (fun q => me _ _ _ _ (fun _ _ q => k _ _ q) q) (k _ _) q) q) h
theorem LcGo_mono (mg : MonoG g) (mt : MonoT tt) (me : MonoE te) {p : Addr} {K : MH → Prop} {Q Q' : List D → MH → Prop} (k : ∀ acc M, Q acc M → Q' acc M) : ∀ (xs acc : List D) (M : MH), LcGo g tt te vs δ p K Q xs acc M → LcGo g tt te vs δ p K Q' xs acc M
  | [], _, _, h => k _ _ h
  | x :: xs, acc, M, h => by
    refine LcTurn_mono mg mt me (fun o M q => ?_) h
    cases o with
    | some y => exact ⟨q.1, q.2.1, q.2.2.1, LcGo_mono mg mt me k xs _ _ q.2.2.2⟩
    | none => exact ⟨q.1, LcGo_mono mg mt me k xs _ _ q.2⟩
end
section
variable {X : Cx} {B : Hp} {elt tg iter : Expr} {ifs : List Expr} {scope : Scope} {own : List (Str × Nat)} {pos : Pos} {ι : TDI} {g : TDG} {tt : TDT} {te : TDE} {fin : Addr → List D → MH → DQ → Prop}
/-- the readings' step -/
theorem up_lc {c : Ctx} (mi : MonoI ι) (mg : MonoG g) (mt : MonoT tt) (me : MonoE te)
    (hfin : ∀ {F H M p acc Q}, HS c F H M → fin p acc M (dnE c F Q) → Q (.ref p) H) (mfin : ∀ p acc M (Q Q' : DQ), (∀ d M, Q d M → Q' d M) → fin p acc M Q → fin p acc M Q')
    {vs : List Nat} {σ : St} {H : Hp} {Q : VK} (h : upE c B (dLcG ι g tt te vs fin) σ H Q) :
    tLc (upI c B ι) (upGv c B vs g) (upT c B tt) (upE c B te) vs σ H Q := by
  obtain ⟨F, δ, M, lb, hs, ev, q⟩ := h
  refine ⟨F, δ, M, lb, hs, ev, mi _ _ _ _ (fun xs K M1 q1 => ?_) q⟩
  intro J F1 H1 l1 hs1 it p hp
  obtain ⟨k1, q1⟩ := q1 p (hs1.fM hp)
  have hs2 := hs1.newM hp (m := .lst []) (.lst .nil)
  refine ⟨fun i m H' => m = xs.length - i ∧ i ≤ xs.length ∧ ∃ F' acc M', Le F1 F' ∧ HS c F' H' M' ∧ K M' ∧ LcGo g tt te vs δ p K (fun acc M' => fin p acc M' (dnE c F1 Q)) (xs.drop i) acc M',
    ⟨xs.length, by simp, Nat.zero_le _, F1, [], _, Le.refl _, hs2, k1, LcGo_mono mg mt me (fun acc M' q => mfin _ _ _ _ _ (dnE_le l1) q) _ _ _ q1⟩, ?_⟩
  rintro i m H' ⟨rfl, hi', F', acc, M', l', hs', k', go⟩
  obtain ⟨stop, step⟩ := it F' H' M' l' hs' k' i
  by_cases hlt : i < xs.length
  · right
    obtain ⟨g1, g2⟩ := step xs[i] (List.getElem?_eq_getElem hlt)
    refine ⟨g1, fun H2 => ∃ F2 acc M2, Le F1 F2 ∧ HS c F2 H2 M2 ∧ K M2 ∧ LcGo g tt te vs δ p K (fun acc M' => fin p acc M' (dnE c F1 Q)) (xs.drop (i + 1)) acc M2, fun H2 h => ⟨xs.length - (i + 1), by omega, rfl, hlt, h⟩, fun x H2 y => ?_⟩
    obtain ⟨F2, l2, hs2, rx⟩ := g2 x H2 y
    rw [List.drop_eq_getElem_cons hlt] at go
    have lf := l'.trans l2
    refine ⟨F2, wipeD δ vs, M', _, lb.trans (l1.trans lf), hs2, (ev.mono (l1.trans lf)).wipe vs, rx, mg _ _ _ _ _ (fun δ3 M3 q3 => ?_) go⟩
    intro σ3 F3 H3 l3 hs3 ev3 w3
    rw [wipe_twice] at w3
    refine ⟨w3, ?_⟩
    refine upT_bind mt (lb.trans (l1.trans (lf.trans l3))) hs3 ev3 q3 fun b M4 F4 H4 l4 hs4 ev4 q4 => ?_
    cases b with
    | true =>
      rw [if_pos rfl]
      refine upE_bind me (lb.trans (l1.trans (lf.trans (l3.trans l4)))) hs4 ev4 (q4.1 rfl) fun y M5 v F5 H5 l5 hs5 ev5 ry ⟨e5, z5, k5, go5⟩ => ?_
      obtain ⟨us, eu, ru⟩ := hs5.celL e5
      exact ⟨us, eu, by rw [ru.length]; exact z5, F5, acc ++ [y], _, lf.trans (l3.trans (l4.trans l5)), hs5.setM e5 (.lst (ru.append (.cons ry .nil))), k5, go5⟩
    | false =>
      rw [if_neg Bool.false_ne_true]
      obtain ⟨k5, go5⟩ := q4.2 rfl
      exact ⟨F4, acc, M4, lf.trans (l3.trans l4), hs4, k5, go5⟩
  · left
    have e : i = xs.length := by omega
    subst e
    rw [List.drop_length] at go
    exact ⟨stop (Nat.le_refl _), hfin hs' (mfin _ _ _ _ _ (dnE_le l') go)⟩
theorem mono_lc (mi : MonoI ι) (mg : MonoG g) (mt : MonoT tt) (me : MonoE te) (mfin : ∀ p acc M (Q Q' : DQ), (∀ d M, Q d M → Q' d M) → fin p acc M Q → fin p acc M Q') {vs : List Nat} : MonoE (dLcG ι g tt te vs fin) := fun δ M Q Q' k h =>
  mi _ _ _ _ (fun xs K M1 q p hp => ⟨(q p hp).1, LcGo_mono mg mt me (fun acc M' q => mfin _ _ _ _ _ k q) _ _ _ (q p hp).2⟩) h
theorem fin_F {c : Ctx} {F H M p acc Q} (hs : HS c F H M) (h : finF p acc M (dnE c F Q)) : Q (.ref p) H := by
  obtain ⟨us, eu, ru⟩ := hs.celL h.1
  obtain ⟨l, hs2⟩ := hs.frz h.1 eu
  exact h.2 _ _ _ l hs2 (.lst upd_same (ru.mono l))
theorem fin_M {c : Ctx} {F H M p acc Q} (hs : HS c F H M) (h : finM p acc M (dnE c F Q)) : Q (.ref p) H := h _ _ _ (Le.refl F) hs (.ref p)
theorem mono_finF : ∀ p acc M (Q Q' : DQ), (∀ d M, Q d M → Q' d M) → finF p acc M Q → finF p acc M Q' := fun _ _ _ _ _ k h => ⟨h.1, k _ _ h.2⟩
theorem mono_finM : ∀ p acc M (Q Q' : DQ), (∀ d M, Q d M → Q' d M) → finM p acc M Q → finM p acc M Q' := fun _ _ _ _ _ k h => k _ _ h
abbrev Blk (X : Cx) (scope : Scope) (s : Shared) (H : Hp) (C : Addr) (cl : List (Str × Addr)) (fp : List Addr) : Cx := X.blk s H scope (compEnvC scope cl C X.env) fp
theorem de_lcG (hfin : ∀ {F H M p acc Q}, HS (cOf X) F H M → fin p acc M (dnE (cOf X) F Q) → Q (.ref p) H) (mfin : ∀ p acc M (Q Q' : DQ), (∀ d M, Q d M → Q' d M) → fin p acc M Q → fin p acc M Q')
    (hc : X.calm = true) (hN : X.N.Nodup) (hi : DI X B tg iter ι) (ok : BlkOk X.N X.env.scope scope own)
    (hg : ∀ s H C cl fp, DGv (Blk X scope s H C cl fp) B (own.map (·.2)) tg g) (ht : ∀ s H C cl fp, DTs (Blk X scope s H C cl fp) B ifs tt) (he : ∀ s H C cl fp, DE (Blk X scope s H C cl fp) B elt te)
    (hs : ∀ x, foldedSetIterable iter X.env x = pure x := by intro _; rfl) : DE X B (.ListComp elt [⟨tg, iter, ifs, 0⟩] scope pos) (dLcG ι g tt te (own.map (·.2)) fin) := by
  have mg := (hg {} (fun _ => none) 0 [] []).mono
  have mt := (ht {} (fun _ => none) 0 [] []).mono
  have me := (he {} (fun _ => none) 0 [] []).mono
  exact ⟨PE.imp (pe_lc hc hN hi.pi ok (fun s H C cl fp => (hg s H C cl fp).pg) (fun s H C cl fp => (ht s H C cl fp).pt) (fun s H C cl fp => (he s H C cl fp).pe) hs) fun σ H Q h => up_lc hi.mono mg mt me hfin mfin h, mono_lc hi.mono mg mt me mfin⟩
theorem de_lc (hc : X.calm = true) (hN : X.N.Nodup) (hi : DI X B tg iter ι) (ok : BlkOk X.N X.env.scope scope own)
    (hg : ∀ s H C cl fp, DGv (Blk X scope s H C cl fp) B (own.map (·.2)) tg g) (ht : ∀ s H C cl fp, DTs (Blk X scope s H C cl fp) B ifs tt) (he : ∀ s H C cl fp, DE (Blk X scope s H C cl fp) B elt te)
    (hs : ∀ x, foldedSetIterable iter X.env x = pure x := by intro _; rfl) : DE X B (.ListComp elt [⟨tg, iter, ifs, 0⟩] scope pos) (dLc ι g tt te (own.map (·.2))) := de_lcG fin_F mono_finF hc hN hi ok hg ht he hs
theorem de_lcM (hc : X.calm = true) (hN : X.N.Nodup) (hi : DI X B tg iter ι) (ok : BlkOk X.N X.env.scope scope own)
    (hg : ∀ s H C cl fp, DGv (Blk X scope s H C cl fp) B (own.map (·.2)) tg g) (ht : ∀ s H C cl fp, DTs (Blk X scope s H C cl fp) B ifs tt) (he : ∀ s H C cl fp, DE (Blk X scope s H C cl fp) B elt te)
    (hs : ∀ x, foldedSetIterable iter X.env x = pure x := by intro _; rfl) : DE X B (.ListComp elt [⟨tg, iter, ifs, 0⟩] scope pos) (dLcM ι g tt te (own.map (·.2))) := de_lcG fin_M mono_finM hc hN hi ok hg ht he hs
/-- name = [..] -/
theorem ds_setLcG (hfin : ∀ {F H M p acc Q}, HS (cOf X) F H M → fin p acc M (dnE (cOf X) F Q) → Q (.ref p) H) (mfin : ∀ p acc M (Q Q' : DQ), (∀ d M, Q d M → Q' d M) → fin p acc M Q → fin p acc M Q')
    {i : Nat} {y : Str} {py spos : Pos} (hc : X.calm = true) (hN : X.N.Nodup) (hy : X.N[i]? = some y) (hyl : X.env.scope.names.lookup y = some .local)
    (hsw : swapsWith (.ListComp elt [⟨tg, iter, ifs, 0⟩] scope pos) (some (.Name y py)) spos.line X.env = pure true) (hi : DI X B tg iter ι) (ok : BlkOk X.N X.env.scope scope own)
    (hg : ∀ s H C cl fp, DGv (Blk X scope s H C cl fp) B (own.map (·.2)) tg g) (ht : ∀ s H C cl fp, DTs (Blk X scope s H C cl fp) B ifs tt) (he : ∀ s H C cl fp, DE (Blk X scope s H C cl fp) B elt te)
    (hs : ∀ x, foldedSetIterable iter X.env x = pure x := by intro _; rfl) : DS X B (.Assign [.Name y py] (.ListComp elt [⟨tg, iter, ifs, 0⟩] scope pos) spos) (dSet i (dLcG ι g tt te (own.map (·.2)) fin)) := by
  have mg := (hg {} (fun _ => none) 0 [] []).mono
  have mt := (ht {} (fun _ => none) 0 [] []).mono
  have me := (he {} (fun _ => none) 0 [] []).mono
  have mo : MonoE (dLcG ι g tt te (own.map (·.2)) fin) := mono_lc hi.mono mg mt me mfin
  refine ⟨PS.imp (ps_setLc (g := upGv (cOf X) B (own.map (·.2)) g) (tt := upT (cOf X) B tt) (te := upE (cOf X) B te) hc hN hy hyl hsw hi.pi ok (fun s H C cl fp => (hg s H C cl fp).pg) (fun s H C cl fp => (ht s H C cl fp).pt) (fun s H C cl fp => (he s H C cl fp).pe) hs) fun D σ H h => ?_, fun D D' δ M l h => mo _ _ _ _ (fun _ _ q => l.nx _ _ q) h⟩
  refine up_lc hi.mono mg mt me hfin mfin ?_
  obtain ⟨F, δ, M, lb, hs, ev, q⟩ := h
  exact upE_bind mo lb hs ev q fun d M1 v F1 H1 l1 hs1 ev1 r q1 => q1 _ F1 H1 l1 hs1 (ev1.put i r)
end
/-! ### dict comprehensions: a cell -/
def DcTurn (g : TDG) (tt : TDT) (tk tv : TDE) (vs : List Nat) (δ : DSt) (x : D) (M : MH) (Q : Option (Key × D) → MH → Prop) : Prop :=
  g x (wipeD δ vs) M fun δ2 M2 => tt δ2 M2 fun b M3 => ifB b (tk δ2 M3 fun y M4 => tv δ2 M4 fun z M5 => oQ (keyD y) fun k => Q (some (k, z)) M5) (Q none M3)
def DcGo (g : TDG) (tt : TDT) (tk tv : TDE) (vs : List Nat) (δ : DSt) (p : Addr) (K : MH → Prop) (Q : List (Key × D) → MH → Prop) : List D → List (Key × D) → MH → Prop
  | [], acc, M => Q acc M
  | x :: xs, acc, M => DcTurn g tt tk tv vs δ x M fun o M4 => match o with
    | some y => M4 p = some (.dic acc) ∧ acc.length < sizeLine ∧ K (updM M4 p (.dic (putA acc y.1 y.2))) ∧ DcGo g tt tk tv vs δ p K Q xs (putA acc y.1 y.2) (updM M4 p (.dic (putA acc y.1 y.2)))
    | none => K M4 ∧ DcGo g tt tk tv vs δ p K Q xs acc M4
def dDcM (ι : TDI) (g : TDG) (tt : TDT) (tk tv : TDE) (vs : List Nat) : TDE := fun δ M Q => ι δ M fun xs K M1 => ∀ p, M1 p = none → K (updM M1 p (.dic [])) ∧ DcGo g tt tk tv vs δ p K (fun _ M' => Q (.ref p) M') xs [] (updM M1 p (.dic []))
section
variable {g : TDG} {tt : TDT} {tk tv : TDE} {vs : List Nat} {δ : DSt}
theorem DcTurn_mono (mg : MonoG g) (mt : MonoT tt) (mk : MonoE tk) (mv : MonoE tv) {x : D} {M : MH} {Q Q' : Option (Key × D) → MH → Prop} (k : ∀ o M, Q o M → Q' o M) (h : DcTurn g tt tk tv vs δ x M Q) : DcTurn g tt tk tv vs δ x M Q' :=
  mg _ _ _ _ _ (fun _ _ q => mt _ _ _ _ (fun _ _ q => ifB_mono (fun q => mk _ _ _ _ (fun _ _ q => mv _ _ _ _ (fun _ _ q => oQ_mono (fun _ q => k _ _ q) q) q) q) (k _ _) q) q) h
theorem DcGo_mono (mg : MonoG g) (mt : MonoT tt) (mk : MonoE tk) (mv : MonoE tv) {p : Addr} {K : MH → Prop} {Q Q' : List (Key × D) → MH → Prop} (k : ∀ acc M, Q acc M → Q' acc M) : ∀ (xs : List D) (acc : List (Key × D)) (M : MH), DcGo g tt tk tv vs δ p K Q xs acc M → DcGo g tt tk tv vs δ p K Q' xs acc M
  | [], _, _, h => k _ _ h
  | x :: xs, acc, M, h => by
    refine DcTurn_mono mg mt mk mv (fun o M q => ?_) h
    cases o with
    | some y => exact ⟨q.1, q.2.1, q.2.2.1, DcGo_mono mg mt mk mv k xs _ _ q.2.2.2⟩
    | none => exact ⟨q.1, DcGo_mono mg mt mk mv k xs _ _ q.2⟩
end
section
variable {X : Cx} {B : Hp} {kx vx tg iter : Expr} {ifs : List Expr} {scope : Scope} {own : List (Str × Nat)} {pos : Pos} {ι : TDI} {g : TDG} {tt : TDT} {tk tv : TDE}
theorem up_dc {c : Ctx} (mi : MonoI ι) (mg : MonoG g) (mt : MonoT tt) (mk : MonoE tk) (mv : MonoE tv) {vs : List Nat} {σ : St} {H : Hp} {Q : VK} (h : upE c B (dDcM ι g tt tk tv vs) σ H Q) :
    tDc (upI c B ι) (upGv c B vs g) (upT c B tt) (upE c B tk) (upE c B tv) vs σ H Q := by
  obtain ⟨F, δ, M, lb, hs, ev, q⟩ := h
  refine ⟨F, δ, M, lb, hs, ev, mi _ _ _ _ (fun xs K M1 q1 => ?_) q⟩
  intro J F1 H1 l1 hs1 it p hp
  obtain ⟨k1, q1⟩ := q1 p (hs1.fM hp)
  have hs2 := hs1.newM hp (m := .dic []) (.dic .nil)
  refine ⟨fun i m H' => m = xs.length - i ∧ i ≤ xs.length ∧ ∃ F' acc M', Le F1 F' ∧ HS c F' H' M' ∧ K M' ∧ DcGo g tt tk tv vs δ p K (fun _ M' => dnE c F1 Q (.ref p) M') (xs.drop i) acc M',
    ⟨xs.length, by simp, Nat.zero_le _, F1, [], _, Le.refl _, hs2, k1, DcGo_mono mg mt mk mv (fun acc M' q => dnE_le l1 _ _ q) _ _ _ q1⟩, ?_⟩
  rintro i m H' ⟨rfl, hi', F', acc, M', l', hs', k', go⟩
  obtain ⟨stop, step⟩ := it F' H' M' l' hs' k' i
  by_cases hlt : i < xs.length
  · right
    obtain ⟨g1, g2⟩ := step xs[i] (List.getElem?_eq_getElem hlt)
    refine ⟨g1, fun H2 => ∃ F2 acc M2, Le F1 F2 ∧ HS c F2 H2 M2 ∧ K M2 ∧ DcGo g tt tk tv vs δ p K (fun _ M' => dnE c F1 Q (.ref p) M') (xs.drop (i + 1)) acc M2, fun H2 h => ⟨xs.length - (i + 1), by omega, rfl, hlt, h⟩, fun x H2 y => ?_⟩
    obtain ⟨F2, l2, hs2, rx⟩ := g2 x H2 y
    rw [List.drop_eq_getElem_cons hlt] at go
    have lf := l'.trans l2
    refine ⟨F2, wipeD δ vs, M', _, lb.trans (l1.trans lf), hs2, (ev.mono (l1.trans lf)).wipe vs, rx, mg _ _ _ _ _ (fun δ3 M3 q3 => ?_) go⟩
    intro σ3 F3 H3 l3 hs3 ev3 w3
    rw [wipe_twice] at w3
    refine ⟨w3, ?_⟩
    refine upT_bind mt (lb.trans (l1.trans (lf.trans l3))) hs3 ev3 q3 fun b M4 F4 H4 l4 hs4 ev4 q4 => ?_
    cases b with
    | true =>
      rw [if_pos rfl]
      have l34 := lf.trans (l3.trans l4)
      refine upE_bind mk (lb.trans (l1.trans l34)) hs4 ev4 (q4.1 rfl) fun y M5 v F5 H5 l5 hs5 ev5 ry q5 => ?_
      refine upE_bind mv (lb.trans (l1.trans (l34.trans l5))) hs5 ev5 q5 fun z M6 w F6 H6 l6 hs6 ev6 rz q6 => ?_
      obtain ⟨k, ek, e5, z5, k5, go5⟩ := oQ_get q6
      obtain ⟨us, eu, ru⟩ := hs6.celD e5
      exact ⟨us, k, keyD_rep ry ek, eu, by rw [ru.length]; exact z5, F6, _, _, l34.trans (l5.trans l6), hs6.setM e5 (.dic (by rw [putK_eq]; exact ru.put k rz)), k5, go5⟩
    | false =>
      rw [if_neg Bool.false_ne_true]
      obtain ⟨k5, go5⟩ := q4.2 rfl
      exact ⟨F4, acc, M4, lf.trans (l3.trans l4), hs4, k5, go5⟩
  · left
    have e : i = xs.length := by omega
    subst e
    rw [List.drop_length] at go
    exact ⟨stop (Nat.le_refl _), go _ _ _ l' hs' (.ref p)⟩
theorem de_dcM (hc : X.calm = true) (hN : X.N.Nodup) (hi : DI X B tg iter ι) (ok : BlkOk X.N X.env.scope scope own)
    (hg : ∀ s H C cl fp, DGv (Blk X scope s H C cl fp) B (own.map (·.2)) tg g) (ht : ∀ s H C cl fp, DTs (Blk X scope s H C cl fp) B ifs tt) (hk : ∀ s H C cl fp, DE (Blk X scope s H C cl fp) B kx tk) (he : ∀ s H C cl fp, DE (Blk X scope s H C cl fp) B vx tv)
    (hs : ∀ x, foldedSetIterable iter X.env x = pure x := by intro _; rfl) : DE X B (.DictComp kx vx [⟨tg, iter, ifs, 0⟩] scope pos) (dDcM ι g tt tk tv (own.map (·.2))) := by
  have mg := (hg {} (fun _ => none) 0 [] []).mono
  have mt := (ht {} (fun _ => none) 0 [] []).mono
  have mk := (hk {} (fun _ => none) 0 [] []).mono
  have mv := (he {} (fun _ => none) 0 [] []).mono
  exact ⟨PE.imp (pe_dc hc hN hi.pi ok (fun s H C cl fp => (hg s H C cl fp).pg) (fun s H C cl fp => (ht s H C cl fp).pt) (fun s H C cl fp => (hk s H C cl fp).pe) (fun s H C cl fp => (he s H C cl fp).pe) hs) fun σ H Q h => up_dc hi.mono mg mt mk mv h,
    fun δ M Q Q' k h => hi.mono _ _ _ _ (fun xs K M1 q p hp => ⟨(q p hp).1, DcGo_mono mg mt mk mv (fun acc M' q => k _ _ q) _ _ _ (q p hp).2⟩) h⟩
end
/-! ### what a plain comprehension makes -/
/-- what holds of the cells of M holds of those of M' -/
def MLe (M M' : MH) : Prop := ∀ a m, M a = some m → M' a = some m
theorem MLe.refl (M : MH) : MLe M M := fun _ _ h => h
theorem MLe.trans {A B C : MH} (h : MLe A B) (k : MLe B C) : MLe A C := fun a m e => k a m (h a m e)
theorem MLe.new {M : MH} {p : Addr} {m : MO} (h : M p = none) : MLe M (updM M p m) := fun a m' e => by rw [updM_ne (neM e h)]; exact e
theorem filterMap_len {α β : Type} (f : α → Option β) : ∀ (xs : List α), (xs.filterMap f).length ≤ xs.length
  | [] => Nat.le_refl _
  | x :: xs => by
    rw [List.filterMap_cons]
    cases f x with
    | none => exact Nat.le_succ_of_le (filterMap_len f xs)
    | some y => exact Nat.succ_le_succ (filterMap_len f xs)
theorem lc_pure {g : TDG} {tt : TDT} {te : TDE} {vs : List Nat} {δ : DSt} (mg : MonoG g) (mt : MonoT tt) (me : MonoE te) (f : D → Option D) {p : Addr} {K : MH → Prop} {Q : List D → MH → Prop} {M1 : MH} (hp : M1 p = none) (hK : ∀ acc, K (updM M1 p (.lst acc))) :
    ∀ (xs acc : List D), (∀ x ∈ xs, ∀ M0, MLe M1 M0 → LcTurn g tt te vs δ x M0 fun o M' => o = f x ∧ M' = M0) → acc.length + xs.length ≤ sizeLine → Q (acc ++ xs.filterMap f) (updM M1 p (.lst (acc ++ xs.filterMap f))) →
    LcGo g tt te vs δ p K Q xs acc (updM M1 p (.lst acc))
  | [], acc, _, _, q => by
    have q : Q (acc ++ []) (updM M1 p (.lst (acc ++ []))) := q
    rw [List.append_nil] at q; exact q
  | x :: xs, acc, hb, hl, q => by
    refine LcTurn_mono mg mt me (fun o M' ⟨e1, e2⟩ => ?_) (hb x (List.mem_cons_self ..) _ (MLe.new hp))
    subst e2
    rw [List.filterMap_cons] at q
    rw [List.length_cons] at hl
    cases o with
    | some y =>
      rw [← e1] at q
      refine ⟨updM_same, by omega, by rw [updM_updM]; exact hK _, ?_⟩
      rw [updM_updM]
      refine lc_pure mg mt me f hp hK xs _ (fun x hx => hb x (List.mem_cons_of_mem _ hx)) (by rw [List.length_append, List.length_singleton]; omega) ?_
      rw [List.append_assoc]; exact q
    | none =>
      rw [← e1] at q
      exact ⟨hK _, lc_pure mg mt me f hp hK xs _ (fun x hx => hb x (List.mem_cons_of_mem _ hx)) (by omega) q⟩
end FM

set_option Elab.async false
set_option linter.all false
set_option maxRecDepth 100000
set_option maxHeartbeats 2000000
/-! FI: defs keep promises over data. -/
namespace FM
open PySem PySem.Spec L2
open PyProof.Rows hiding St

noncomputable def blanks (n : Nat) : DSt := Nat.rec (motive := fun _ => DSt) [] (fun _ r => none :: r) n
noncomputable def startD (n : Nat) (ds : List D) : DSt := List.rec (motive := fun _ => Nat → DSt) (fun n => blanks n) (fun d _ ih n => some d :: ih (n - 1)) ds n
theorem blanks_eq : ∀ n, blanks n = List.replicate n none
  | 0 => rfl
  | n + 1 => by show none :: blanks n = _; rw [blanks_eq n]; rfl
theorem startD_eq : ∀ (ds : List D) (n : Nat), startD n ds = ds.map some ++ List.replicate (n - ds.length) none
  | [], n => by show blanks n = _; rw [blanks_eq]; simp
  | d :: ds, n => by show some d :: startD (n - 1) ds = _; rw [startD_eq ds]; simp [Nat.sub_sub, Nat.add_comm]
theorem envR_start {c : Ctx} {F : Hp} {N : List Str} {vs : List V} {ds : List D} (r : Reps c F vs ds) : EnvR c F (L2.start N vs) (startD N.length ds) := by
  have hl := r.length
  rw [startD_eq]
  refine ⟨by simp [L2.start, hl], fun i d h => ?_⟩
  rw [slot_get] at h
  unfold L2.start
  by_cases hi : i < ds.length
  · rw [List.getElem?_append_left (by simpa using hi), List.getElem?_map] at h
    cases e : ds[i]? with
    | none => rw [e] at h; cases h
    | some x =>
      rw [e] at h
      have h : some x = some d := h
      cases h
      obtain ⟨v, e1, rv⟩ := r.get e
      exact ⟨v, by rw [List.getElem?_append_left (by simp; omega), List.getElem?_map, e1]; rfl, rv⟩
  · rw [List.getElem?_append_right (by simpa using hi), List.getElem?_replicate] at h
    split at h <;> cases h
/-- the ends of a def's body -/
abbrev fnEnds (Q : DQ) : DEnds := ⟨fun _ M' => Q .non M', Q, fun _ _ => False, fun _ _ => False⟩
/-- a wish that more cells don't hurt -/
def Down (Q : DQ) : Prop := ∀ d M1 M2, MLe M1 M2 → Q d M1 → Q d M2
theorem down_dnE {c : Ctx} {F : Hp} {Q : VK} : Down (dnE c F Q) := fun d M1 M2 k h v F' H' l hs r => h v F' H' l (hs.drop k) r
/-- the body's reading meets the promise -/
def Meets (τ : DX → TDS) (n : Nat) (sp : SpD) : Prop := ∀ ds M Q E, Down Q → sp ds M Q E → τ E (fnEnds Q) (startD n ds) M
def SpLen (sp : SpD) (n : Nat) : Prop := ∀ ds M Q E, sp ds M Q E → ds.length = n
section
variable {P : Program} {w : World} {K : Frag} {mg : Str → Option Value} {base : Heap} {x qual : Str} {params : Arguments} {body : List Stmt} {scope : Scope} {dvs : List V} {kws : List (Str × V)} {f : Addr} {fd : FuncData} {N ps : List Str} {k : Nat} {sp : SpD} {CX : CXT}
theorem body_up {X : Cx} {τ : DX → TDS} {n : Nat} {vs : List V} {H : Hp} {Q : VK} {E : XK} (hN : X.N.length = n) (D : ∀ B, DSs X B body (τ (dnX (cOf X) B E))) (m : Meets τ n sp) (h : upSp (cOf X) sp vs H Q E) :
    ∃ t, PSs X body t ∧ t { nx := fun _ H' => Q .non H', rt := Q } (L2.start X.N vs) H := by
  obtain ⟨F, M, ds, hs, rs, q⟩ := h
  refine ⟨_, (D F).ps, F, _, M, Le.refl _, hs, envR_start rs, ?_⟩
  rw [hN]
  refine (D F).mono.go (m ds M _ _ down_dnE q) ⟨?_, ?_, ?_, ?_⟩
  · exact fun δ M' z σ' F' H' l hs' ev' => z _ _ _ l hs' .non
  · exact fun _ _ z => z
  · exact fun _ _ z => z.elim
  · exact fun _ _ z => z.elim
theorem len_up {c : Ctx} (hl : SpLen sp ps.length) : ∀ vs H Q E, upSp c sp vs H Q E → vs.length = ps.length := fun vs H Q E ⟨F, M, ds, hs, rs, q⟩ => by rw [rs.length]; exact hl _ _ _ _ q
/-- a def that lets nothing out -/
theorem fn_ok (F : FunD K x qual params body scope dvs kws f fd) (S : FnScope N ps scope) (hl : SpLen sp ps.length) {τ : DX → TDS}
    (hb : ∀ (cdv : Value) (A : Around) (outer : List Env) (s : Shared) (H : Hp) (E : XK) (B : Hp), Room k (A.deeper (envOfC qual scope s.heap.objs.size f cdv)) → DSs (cxOf CX0 P w K mg base N qual scope f cdv A outer s H E).nox B body (τ (dnX ⟨P, w, K⟩ B E)))
    (hm : Meets τ N.length sp) : FnOk P w K mg base CX0 (k + 1) f fd ps (upSp ⟨P, w, K⟩ sp) := by
  refine F.ok S (len_up hl) fun cdv A outer s H vs Q E hr h => ?_
  obtain ⟨t, h1, h2⟩ := body_up (X := (cxOf CX0 P w K mg base N qual scope f cdv A outer s H E).nox) rfl (fun B => hb cdv A outer s H E B hr) hm h
  exact ⟨t, h1.nox, h2⟩
/-- a def that may raise -/
theorem fn_okX (F : FunD K x qual params body scope dvs kws f fd) (S : FnScope N ps scope) (hl : SpLen sp ps.length) {τ : DX → TDS}
    (hb : ∀ (cdv : Value) (A : Around) (outer : List Env) (s : Shared) (H : Hp) (E : XK) (B : Hp), Room k (A.deeper (envOfC qual scope s.heap.objs.size f cdv)) → DSs (cxOf CX P w K mg base N qual scope f cdv A outer s H E) B body (τ (dnX ⟨P, w, K⟩ B E)))
    (hm : Meets τ N.length sp) : FnOk P w K mg base CX (k + 1) f fd ps (upSp ⟨P, w, K⟩ sp) := by
  refine F.ok S (len_up hl) fun cdv A outer s H vs Q E hr h => ?_
  exact body_up (X := cxOf CX P w K mg base N qual scope f cdv A outer s H E) rfl (fun B => hb cdv A outer s H E B hr) hm h
end

/-! ### small forms more -/
section
variable {X : Cx} {B : Hp} {pos : Pos}
/-- {}: a cell -/
def dNewDic : TDE := fun _ M Q => ∀ p, M p = none → Q (.ref p) (updM M p (.dic []))
theorem de_newDic : DE X B (.Dict [] [] pos) dNewDic := ⟨PE.imp pe_dnewK fun σ H Q ⟨F, δ, M, lb, hs, ev, q⟩ p hp => q p (hs.fM hp) _ _ _ (Le.refl F) (hs.newM hp (.dic .nil)) (.ref p), fun _ _ _ _ k h p hp => k _ _ (h p hp)⟩
theorem ds_par3 {i j l : Nat} {x y z : Str} {a b c : Expr} {τs : TDA} {px py pz pt : Pos} {kt k2 pt2} (hc : X.calm = true) (hN : X.N.Nodup) (hi : X.N[i]? = some x) (hj : X.N[j]? = some y) (hl : X.N[l]? = some z) (hij : i ≠ j) (hil : i ≠ l) (hjl : j ≠ l)
    (hx : X.env.scope.names.lookup x = some .local) (hy : X.env.scope.names.lookup y = some .local) (hz : X.env.scope.names.lookup z = some .local) (ha : DA X B [a, b, c] τs)
    (hw : swappedStores [.Tuple [.Name x px, .Name y py, .Name z pz] kt pt] (.Tuple [a, b, c] k2 pt2) X.env = pure (some [x, y, z]))
    (hs : swapsWithSole [.Tuple [.Name x px, .Name y py, .Name z pz] kt pt] (.Tuple [a, b, c] k2 pt2) pos.line X.env = pure false := by rfl) :
    DS X B (.Assign [.Tuple [.Name x px, .Name y py, .Name z pz] kt pt] (.Tuple [a, b, c] k2 pt2) pos) (dPar3 i j l τs) := by
  refine ⟨PS.imp (ps_par3 hc hN hi hj hl hij hil hjl hx hy hz ha.pa hw hs) fun D σ H h => ?_, fun D D' δ M k h => ha.mono _ _ _ _ (fun ds _ q => ?_) h⟩
  · obtain ⟨F, δ, M, lb, hs, ev, q⟩ := h
    refine upA_bind ha.mono lb hs ev q fun ds M1 vs F1 H1 l1 hs1 ev1 rs q1 => ?_
    match ds, rs, q1 with
    | [d, e, f], .cons r1 (.cons r2 (.cons r3 .nil)), q1 => exact ⟨_, _, _, rfl, q1 _ F1 H1 l1 hs1 (((ev1.put i r1).put j r2).put l r3)⟩
  · match ds, q with
    | [d, e, f], q => exact k.nx _ _ q
/-! ### word, *rest = a tuple -/
section
open PySem.W
variable {prog : Program} {w : World} {A : Around} {E : Value → Shared → Prop} {s : Shared}
theorem star_tup {l : Addr} {items : Array Value} {n i : Nat} {Q : List Value → Shared → Prop} (hl : IsTup s.heap l items) (hh : A.handled = none) (hi : i < n) (hn : n ≤ items.size + 1) (hz : items.size ≤ 16384)
    (h : ∀ (h' : Heap) (tk : Nat), (∀ b o, s.heap.get? b = some o → h'.get? b = some o) → Q (items.toList.take i ++ [.ref h'.objs.size] ++ (items.toList.drop i).drop (items.size + 1 - n)) { s with heap := h'.push { cls := .type "list", data := .seq ((items.toList.drop i).take (items.size + 1 - n)).toArray }, toks := tk }) :
    wpAny (model prog w) A (unpackItems (.ref l) n (some i)) Q E s := by
  have hlt : l ≠ s.heap.objs.size := by obtain ⟨o, ho, _⟩ := hl; exact Nat.ne_of_lt (Heap.lt_size ho)
  unfold unpackItems
  refine wpAny_bind ?_
  unfold notIterableAtAll
  refine wpAny_bind (wpAny_specialOf hl.typeIs slot_tuple_iter.lookup ?_)
  refine wpAny_pure ?_
  simp only [Bool.false_eq_true, if_false]
  refine wpAny_bind (wpAny_holding (iter_tuple hl ?_))
  refine wpAny_bind (wpAny_holding (draw_tuple hlt i 0 _ _ ⟨_, Heap.get?_push_size _ rfl, rfl, rfl⟩ (hl.push _) (by omega) fun h₁ hit₁ hs₁ => ?_))
  have hl₁ : IsTup h₁ l items := (hl.push _).extBut hs₁.extBut hlt
  rw [Nat.zero_add] at hit₁
  obtain ⟨oi, hoi, _⟩ := id hit₁
  obtain ⟨ol, hol, _⟩ := id hl₁
  rw [List.drop_zero]
  have hfl : (items.toList.take i).length = i := by rw [List.length_take, Array.length_toList]; omega
  rw [if_neg (show ¬ ((items.toList.take i).length < i) by rw [hfl]; omega)]
  refine wpAny_bind (wpAny_holding (kun_collect (s := { s with heap := h₁ }) (T := "tuple_iterator") (.inr (.inr (.inr rfl))) (Walks.tuple (A := A.in1) hh s.heap.objs.size l hlt items) (fun j u st => st.1.typeIs) (k := i) (by omega) ⟨hit₁, hl₁⟩ (Heap.lt_size hoi) (Heap.lt_size hol) (fun h₂ tk hk => ?_) (by rw [sizeLine_eq]; omega)))
  have hrl : (items.toList.drop i).length = items.size - i := by rw [List.length_drop, Array.length_toList]
  have hmid : (items.toList.drop i).length - (n - 1 - i) = items.size + 1 - n := by rw [hrl]; omega
  show wpAny _ _ (if (items.toList.drop i).length < n - 1 - i then _ else _) _ _ _
  rw [if_neg (by rw [hrl]; omega)]
  show wpAny _ _ (newList ((items.toList.drop i).take ((items.toList.drop i).length - (n - 1 - i))) >>= fun d => pure (items.toList.take i ++ [d] ++ (items.toList.drop i).drop ((items.toList.drop i).length - (n - 1 - i)))) _ _ _
  rw [hmid]
  have he : Heap.ExtBut s.heap.objs.size s.heap h₂ := fun b o hb e => hk b o hb (hs₁.extBut b o hb (Heap.get?_push_of_some _ e))
  refine wpAny_bind (wpAny_newList (wpAny_pure (h h₂ tk (fun b o e => he b o (Nat.ne_of_lt (Heap.lt_size e)) e))) (by rw [List.length_take, hrl, sizeLine_eq]; omega))
end
def gStar (K : Frag) (n i : Nat) (t : TGs) : TG := fun v σ H Q => ∃ a xs, v = .ref a ∧ SqT K H a xs ∧ i < n ∧ n ≤ xs.length + 1 ∧ xs.length ≤ 16384 ∧ ∀ p, H p = none → t (xs.take i ++ [.ref p] ++ (xs.drop i).drop (xs.length + 1 - n)) σ (upd H p (.lst ((xs.drop i).take (xs.length + 1 - n)))) Q
theorem pg_star {es : List Expr} {k n i : Nat} {t : TGs} (hc : X.calm = true) (h : PGs X es t) (hn : (assignEach es X.env).length = n) (hst : (assignEach es X.env).findIdx? (·.1) = some i) : PG X (.Tuple es k pos) (gStar X.K n i t) := by
  refine ⟨fun pins s σ H v u Q I r ⟨a, xs, ev, hq, h1, h2, h3, q⟩ => ?_⟩
  subst ev
  cases r
  obtain ⟨its, rv, ht, hz⟩ := I.tuple hq
  have hl := rv.length
  rw [arm_assign_Tuple]
  refine wpAny_bind (wpAny_standAt ?_)
  unfold unpack
  rw [hn, hst]
  refine wpAny_bind (wpAny_holding (star_tup (show IsTup s.heap a its.toArray from ht) (I.ok.hd hc) h1 (by simpa [← hl] using h2) (by simpa [← hl] using h3) fun h' tk kp => ?_))
  have I1 : Inv X pins σ H { s with heap := h', toks := tk } := I.kept kp
  have hz2 : ((its.drop i).take (its.length + 1 - n)).length ≤ sizeLine := by rw [List.length_take, List.length_drop, sizeLine_eq]; omega
  have I2 := I1.lnew (t' := tk) ((rv.drop i).take (its.length + 1 - n)) (by rw [List.length_take, List.length_drop, sizeLine_eq]; omega)
  have hp : H h'.objs.size = none := I1.fresh
  have e1 : its.toArray.toList = its := by simp
  have e2 : its.toArray.size = its.length := by simp
  rw [e1, e2]
  refine h.run pins _ σ _ _ _ Q I2 ?_ (by rw [← hl]; exact q _ hp)
  rw [hl]
  have one : Vals [V.ref h'.objs.size] [Value.ref h'.objs.size] := .cons (show RelV (.ref h'.objs.size) (.ref h'.objs.size) from rfl) .nil
  exact ((rv.take i).append one).append ((rv.drop i).drop _)
def dgStar (n i : Nat) (t : TDGs) : TDG := fun d δ M Q => match d with
  | .tup xs => i < n ∧ n ≤ xs.length + 1 ∧ xs.length ≤ 16384 ∧ t (xs.take i ++ [.lst ((xs.drop i).take (xs.length + 1 - n))] ++ (xs.drop i).drop (xs.length + 1 - n)) δ M Q
  | _ => False
theorem dg_star {es : List Expr} {k n i : Nat} {t : TDGs} (hc : X.calm = true) (h : DGs X B es t) (hn : (assignEach es X.env).length = n := by rfl) (hst : (assignEach es X.env).findIdx? (·.1) = some i := by rfl) : DG X B (.Tuple es k pos) (dgStar n i t) := by
  refine ⟨PG.imp (pg_star hc h.pg hn hst) fun v σ H Q ⟨F, δ, M, d, lb, hs, ev, r, q⟩ => ?_, fun d _ _ _ _ k q => by
    cases d with
    | tup ds => exact ⟨q.1, q.2.1, q.2.2.1, h.mono _ _ _ _ _ k q.2.2.2⟩
    | _ => exact q⟩
  cases r with
  | tup h1 h2 =>
    refine ⟨_, _, rfl, hs.sqT h1, q.1, by rw [h2.length]; exact q.2.1, by rw [h2.length]; exact q.2.2.1, fun p hp => ?_⟩
    rw [h2.length]
    obtain ⟨l, hs2⟩ := hs.newF hp (.lst ((List.drop i _).take (_ + 1 - n)))
    refine ⟨_, δ, M, _, lb.trans l, hs2, ev.mono l, ?_, h.mono _ _ _ _ _ (dnN_le l) q.2.2.2⟩
    have h3 := h2.mono l
    exact ((h3.take i).append (.cons (.lst upd_same ((h3.drop i).take _)) .nil)).append ((h3.drop i).drop _)
  | _ => exact (show False from q).elim
theorem mono_par3 {i j l : Nat} {τs : TDA} (ma : MonoA τs) : MonoS (dPar3 i j l τs) := fun D D' δ M k h => ma _ _ _ _ (fun ds _ q => by
  match ds, q with
  | [d, e, f], q => exact k.nx _ _ q) h
end
end FM

set_option Elab.async false
set_option linter.all false
set_option maxRecDepth 100000
set_option maxHeartbeats 2000000
/-! FJ: sorted(d.items()), int keys. -/
namespace FM
open PySem PySem.Spec L2
open PyProof.Rows hiding St

mutual
theorem reads_at {h : Heap} : ∀ {v : Value} {d : PyData} {as : List Addr}, Reads h v d as → ∀ a ∈ as, ∃ o, h.get? a = some o
  | _, _, _, .none => fun a ha => by cases ha
  | _, _, _, .bool _ => fun a ha => by cases ha
  | _, _, _, .int _ _ => fun a ha => by cases ha
  | _, _, _, .str _ _ => fun a ha => by cases ha
  | _, _, _, .list h1 h2 h3 h4 => fun a ha => by
    rcases List.mem_cons.mp ha with e | ha
    · subst e; exact ⟨_, h1⟩
    · exact readsAll_at h4 a ha
  | _, _, _, .tuple h1 h2 h3 h4 => fun a ha => readsAll_at h4 a ha
  | _, _, _, .dict h1 h2 h3 h4 h5 => fun a ha => by
    rcases List.mem_append.mp ha with ha | ha
    · rcases List.mem_cons.mp ha with e | ha
      · subst e; exact ⟨_, h1⟩
      · exact readsAll_at h4 a ha
    · exact readsAll_at h5 a ha
theorem readsAll_at {h : Heap} : ∀ {vs : List Value} {ds : List PyData} {as : List Addr}, ReadsAll h vs ds as → ∀ a ∈ as, ∃ o, h.get? a = some o
  | _, _, _, .nil => fun a ha => by cases ha
  | _, _, _, .cons h1 h2 => fun a ha => by
    rcases List.mem_append.mp ha with ha | ha
    · exact reads_at h1 a ha
    · exact readsAll_at h2 a ha
end
/-- the entries: a pair's address, its key, its value as data -/
abbrev Ent := Addr × Int × V × PyData
def encE (e : Ent) : PyData := .tuple [.int e.2.1, e.2.2.2]
theorem pairs_at {P : Program} {w : World} : ∀ {es : List DictEntry} {vs : List (Key × Value)}, Pairs (mixKind P w) es vs → es.length = vs.length ∧ ∀ {j : Nat} {k : Key} {u : Value}, vs[j]? = some (k, u) → ∃ e, es[j]? = some e ∧ keyIs k e.key = true ∧ e.val = u
  | _, _, .nil => ⟨rfl, fun h => by simp at h⟩
  | _, _, .cons h1 h2 t => by
    obtain ⟨l, ih⟩ := pairs_at t
    refine ⟨congrArg Nat.succ l, fun {j k u} h => ?_⟩
    cases j with
    | zero => simp at h; subst h; exact ⟨_, rfl, h1, h2⟩
    | succ j => obtain ⟨e, a, b, c⟩ := ih (j := j) (by simpa using h); exact ⟨e, by simpa using a, b, c⟩
section
variable {X : Cx}
def tItemsV (td : TE) : TE := fun σ H Q => td σ H fun x H1 => ∃ d kvs, x = .ref d ∧ Rd H1 d (.dK kvs) ∧ ∀ p, H1 p = none → Q (.ref p) (upd H1 p (L2.DX.itemsO p d))
theorem pe_itemsV {e : Expr} {td : TE} {apos cpos : Pos} (he : PE X e td) (hbase : attributeBase e "items" X.env (eval e X.env) = eval e X.env := by rfl) (hline : (apos.endLine == cpos.line) = true := by rfl) :
    PE X (.Call (.Attribute e "items" apos) [] [] cpos) (tItemsV td) := by
  refine ⟨fun pins s σ H Q I h => ?_⟩
  refine wpAny_Call_method (T := "dict") (id := "dict.items") hbase rfl hline F.plainAttrs_dict F.slot_dict_items F.type_dict_items (thn (he.run pins s σ H _ I h) fun u s1 ⟨x, H1, I1, rx, d, kvs, ex, hd, q⟩ => ?_)
  subst ex
  obtain rfl : u = Value.ref d := rx
  obtain ⟨z, hs, vs, kv, dd⟩ := dk_rd I1.hok hd
  refine ⟨dd.typeIs, dd.mapOf.noDict, ?_⟩
  have fin : EP X pins σ Q (.ref s1.heap.objs.size) { s1 with heap := s1.heap.push { cls := .type "dict_items", data := .fields #[.ref d] } } :=
    ⟨.ref s1.heap.objs.size, _, I1.laid (t' := s1.toks) (fun b u e => Heap.get?_push_of_some _ e) (Nat.le_refl _) (L2.DX.itemsO_ok (Heap.get?_push_size _ rfl)), rfl, q _ (I1.hok.fresh (Nat.le_refl _))⟩
  show wpAny _ _ (callWith cpos (.builtin "dict.items") [.ref d] [] []) _ X.xe s1
  exact method_meetsIn F.slot_dict_items F.entry_dict_items rfl (PySem.evalArgs_none ⟨rfl, dd.typeIs, F.args_dict_items_1 _, _, meets_dict_items (mixKind X.prog X.w) d hs, ⟨vs, dd⟩, fin⟩)
/-- xs the entries in the dict's order: key, value, the value as data -/
def rSortIK (K : Frag) : List V → Hp → VK → Prop := fun vs H Q => ∃ (p a : Addr) (xs : List (Int × V × PyData)), vs = [.ref p] ∧ H p = some (L2.DX.itemsO p a) ∧ Rd H a (.dK (xs.map fun x => (Sum.inl x.1, x.2.1))) ∧ (∀ x ∈ xs, Dp K H x.2.1 x.2.2) ∧
  (∀ x ∈ xs, ∀ y ∈ xs, PySem.W.alike x.2.2 y.2.2 = true) ∧ (∀ x ∈ xs, x.2.2.depth ≤ 32) ∧
  ∀ (H' : Hp) (l : Addr) (ys : List Ent), (∀ b o, H b = some o → H' b = some o) → H l = none → (∀ y ∈ ys, H y.1 = none) → (ys.map (·.2)).Perm xs → (ys.map (·.2)).Pairwise (fun x y => x.1 ≤ y.1) → H' l = some (.lst (ys.map fun y => .ref y.1)) → (∀ y ∈ ys, H' y.1 = some (.tup [.int y.2.1, y.2.2.1])) → Q (.ref l) H'
theorem lt_of_sorted {a b : Ent} (h : PySem.W.dataLe false encE a b = true) (hal : PySem.W.alike a.2.2.2 b.2.2.2 = true) (hal' : PySem.W.alike b.2.2.2 a.2.2.2 = true) : a.2.1 ≤ b.2.1 := by
  rw [PySem.W.dataLe_eq] at h
  have h : (!PySem.W.dataLt (encE b) (encE a)) = true := h
  rw [Bool.not_eq_true'] at h
  by_cases hlt : b.2.1 < a.2.1
  · have e := PySem.W.dataLt_pair (x := .int b.2.1) (x' := .int a.2.1) (y := b.2.2.2) (y' := a.2.2.2) rfl hal'
    rw [show encE b = .tuple [.int b.2.1, b.2.2.2] from rfl, show encE a = .tuple [.int a.2.1, a.2.2.2] from rfl, e] at h
    have ne : PyData.eqv (.int b.2.1) (.int a.2.1) = false := by
      show (b.2.1 == a.2.1) = false
      exact beq_eq_false_iff_ne.mpr (by omega)
    rw [ne] at h
    simp only [Bool.false_eq_true, if_false] at h
    rw [PySem.W.dataLt_int] at h
    exact absurd hlt (of_decide_eq_false h)
  · omega
theorem cr_sortIK (hc : X.calm = true) (hu : X.A.units + 64 < cLine) : CallR X (.builtin "sorted") (rSortIK X.K) := by
  intro pins s σ H xs us Q I r h
  obtain ⟨p, a, ks, rfl, hp, ha, hd, hal, hdep, q⟩ := h
  obtain rfl := Vals.ref1 r
  have view : s.heap.IsItemsView p a := (show ObjOk X.prog X.w H s.heap p (L2.DX.itemsO p a) from I.hok p _ hp).1
  obtain ⟨z, hsy, vs, kv, o, es, ep, ho, hx, hdat, hks, hpr, hn⟩ := dk_rd I.hok ha
  obtain ⟨l2, ent⟩ := pairs_at hpr
  rw [Array.length_toList] at l2
  have l1 : (ks.map fun x => ((Sum.inl x.1 : Key), x.2.1)).length = vs.length := Paired.length kv
  have l1' : ks.length = vs.length := by rw [← l1, List.length_map]
  have hh : X.A.handled = none := I.ok.hd hc
  have hz : ks.length ≤ sizeLine := by rw [← List.length_map (f := fun x : Int × V × PyData => ((Sum.inl x.1 : Key), x.2.1))]; exact z
  refine DT.sortedI (es := es) (ep := ep) hh view ⟨o, ho, hx, hdat⟩ (by omega) fun h' tk as hk hlt hl hG => ?_
  have lak : as.length = ks.length := by omega
  have nd : as.Nodup := List.Pairwise.imp (fun h => Nat.ne_of_lt h) hG.rise
  -- the pairs that were made
  have pr : ∀ (j : Nat) (b : Addr), as[j]? = some b → ∃ (x : Int × V × PyData) (t : Tok) (u : Value), ks[j]? = some x ∧ RelV x.2.1 u ∧ h'.get? b = some { cls := .type "tuple", data := .seq #[Value.int x.1 t, u] } := by
    intro j b hj
    obtain ⟨en, he, hg⟩ := hG.pairs j b hj
    have hjl : j < ks.length := by rw [← lak]; exact (List.getElem?_eq_some_iff.mp hj).1
    obtain ⟨x, hx'⟩ : ∃ x, ks[j]? = some x := ⟨ks[j], List.getElem?_eq_getElem hjl⟩
    obtain ⟨u, hu', ru⟩ := kv_get kv (i := j) (k := Sum.inl x.1) (v := x.2.1) (by rw [List.getElem?_map, hx']; rfl)
    obtain ⟨e', e1, e2, e3⟩ := ent hu'
    rw [Array.getElem?_toList] at e1
    rw [he] at e1; cases e1
    obtain ⟨t, ek⟩ : ∃ t, en.key = Value.int x.1 t := relV_key e2
    exact ⟨x, t, u, hx', ru, by rw [hg, ek, e3]⟩
  have bsz : (as.zip ks).length = ks.length := by rw [List.length_zip, lak, Nat.min_self]
  have bsat : ∀ e ∈ as.zip ks, ∃ (j : Nat), as[j]? = some e.1 ∧ ks[j]? = some e.2 := fun e he => by
    obtain ⟨j, hj⟩ := List.mem_iff_getElem?.mp he
    exact ⟨j, List.getElem?_zip_eq_some.mp hj⟩
  have inks : ∀ e ∈ as.zip ks, e.2 ∈ ks := fun e he => let ⟨j, _, h2⟩ := bsat e he; List.mem_of_getElem? h2
  -- the heap of the sort
  have hob : (h'.push { cls := .type "list", data := .seq (as.map Value.ref).toArray }).get? h'.objs.size = some (PyProof.Rows.seqObj "list" (as.map Value.ref).toArray 0) := Heap.get?_push_size _ rfl
  generalize hh2 : h'.push { cls := .type "list", data := .seq (as.map Value.ref).toArray } = h2 at hob ⊢
  have ka : ∀ b o, h'.get? b = some o → h2.get? b = some o := fun b o e => by rw [← hh2]; exact Heap.get?_push_of_some _ e
  have ne0 : ∀ b o, h'.get? b = some o → b ≠ h'.objs.size := fun b o e => Nat.ne_of_lt (Heap.lt_size e)
  have EI : PySem.W.EachIs (fun (v : Value) (e : Ent) => v = .ref e.1 ∧ e ∈ as.zip ks) (as.map Value.ref) (as.zip ks) := by
    refine PySem.W.EachIs.of_zip (by rw [List.length_map, bsz, lak]) fun pp hpp => ?_
    obtain ⟨j, hj⟩ := List.mem_iff_getElem?.mp hpp
    obtain ⟨h1, h2⟩ := List.getElem?_zip_eq_some.mp hj
    obtain ⟨h3, h4⟩ := List.getElem?_zip_eq_some.mp h2
    rw [List.getElem?_map, h3] at h1
    exact ⟨(Option.some.inj h1).symm, List.mem_of_getElem? h2⟩
  have rd : ∀ e ∈ as.zip ks, ∃ rs, Reads h' (.ref e.1) (encE e) rs := fun e he => by
    obtain ⟨j, h1, h2⟩ := bsat e he
    obtain ⟨x, t, u, hx', ru, hg⟩ := pr j _ h1
    rw [h2] at hx'; cases hx'
    have dp := hd _ (List.mem_of_getElem? h2)
    obtain ⟨rs, rr⟩ := Dp.reads I e.2.2.2 _ _ dp ru
    have rr' : Reads h' u e.2.2.2 rs := PyProof.Rows.Reads.keeps (fun b o e => hk b o e) rr
    exact ⟨_, .tuple hg rfl rfl (.cons (.int _ _) (.cons rr' .nil))⟩
  have er : PySem.W.EachIs (fun (v : Value) (e : Ent) => ∃ rs, Reads h2 v (encE e) rs ∧ h'.objs.size ∉ rs) (as.map Value.ref) (as.zip ks) := EI.mono fun v e ⟨h1, he⟩ => by
    subst h1
    obtain ⟨rs, rr⟩ := rd e he
    refine ⟨rs, PyProof.Rows.Reads.keeps ka rr, fun hm => ?_⟩
    obtain ⟨o', e'⟩ := reads_at rr _ hm
    exact ne0 _ _ e' rfl
  have alk : PySem.W.AllAlike ((as.zip ks).map encE) := by
    intro d hd1 d' hd2
    obtain ⟨e1, m1, rfl⟩ := List.mem_map.mp hd1
    obtain ⟨e2, m2, rfl⟩ := List.mem_map.mp hd2
    show (PySem.W.alike (.int e1.2.1) (.int e2.2.1) && (PySem.W.alike e1.2.2.2 e2.2.2.2 && PySem.W.alikeAll [] [])) = true
    rw [hal _ (inks e1 m1) _ (inks e2 m2)]
    rfl
  have srt : PySem.W.Sortable ((as.zip ks).map encE) := .inl fun d hd1 => by
    obtain ⟨e1, m1, rfl⟩ := List.mem_map.mp hd1
    exact ⟨_, _, rfl⟩
  have dep : ∀ e, e ∈ as.zip ks → X.A.in1.units + 1 + (encE e).depth < cLine := fun e he => by
    have := hdep _ (inks e he)
    show X.A.units + 1 + 1 + (encE e).depth < cLine
    have e1 : (encE e).depth ≤ 33 + 1 := by
      show PyData.depth (.tuple [.int e.2.1, e.2.2.2]) ≤ _
      simp only [PyData.depth, PyData.depthAll]
      omega
    omega
  refine PySem.W.list_sort_data (s := { s with heap := h2, toks := tk }) (R := fun (v : Value) (e : Ent) => v = .ref e.1 ∧ e ∈ as.zip ks) (enc := encE) hob EI er alk srt (by rw [bsz]; exact hz) dep fun out o1 o2 => ?_
  · -- behind the sort
    show EP X pins σ Q (.ref h'.objs.size) { s with heap := sortedHeap h2 h'.objs.size (as.map Value.ref) out.toArray, toks := tk }
    have perm : ((as.zip ks).mergeSort (PySem.W.dataLe false encE)).Perm (as.zip ks) := List.mergeSort_perm ..
    generalize hys : (as.zip ks).mergeSort (PySem.W.dataLe false encE) = ys at o2 perm
    have sorted : (ys.map (·.2)).Pairwise (fun x y => x.1 ≤ y.1) := by
      rw [List.pairwise_map]
      have sp := PySem.W.sort_pairwise (PySem.W.sortLe_total _ _ _) (as.zip ks) (le := PySem.W.dataLe false encE)
      rw [hys] at sp
      exact List.Pairwise.imp_of_mem (fun {x y} hx hy h => lt_of_sorted h (hal _ (inks x (perm.mem_iff.mp hx)) _ (inks y (perm.mem_iff.mp hy))) (hal _ (inks y (perm.mem_iff.mp hy)) _ (inks x (perm.mem_iff.mp hx)))) sp
    have hout : out = ys.map fun y => Value.ref y.1 := by
      clear hys sorted perm o1
      induction o2 with
      | nil => rfl
      | cons h t ih => rw [h.1, ih]; rfl
    have kF : ∀ b o, b ≠ h'.objs.size → h2.get? b = some o → (sortedHeap h2 h'.objs.size (as.map Value.ref) out.toArray).get? b = some o := fun b o hb e => (PyProof.Rows.sortedHeap_old hb (Heap.lt_size e)).trans e
    have kS : ∀ b o, s.heap.get? b = some o → (sortedHeap h2 h'.objs.size (as.map Value.ref) out.toArray).get? b = some o := fun b o e => kF b o (ne0 _ _ (hk b o e)) (ka b o (hk b o e))
    obtain ⟨eF, heF⟩ := PyProof.Rows.sortedHeap_at (vs := as.map Value.ref) (out := out.toArray) hob
    have I1 : Inv X pins σ H { s with heap := sortedHeap h2 h'.objs.size (as.map Value.ref) out.toArray, toks := tk } := I.kept (t' := tk) kS
    have hn0 : H h'.objs.size = none := I.hok.fresh (Nat.le_of_lt hlt)
    have hlen : (ys.map fun y => V.ref y.1).length ≤ sizeLine := by rw [List.length_map, perm.length_eq, bsz]; exact hz
    have rv : Vals (ys.map fun y => V.ref y.1) out.toArray.toList := by
      rw [hout]
      have all : ∀ zs : List Ent, Vals (zs.map fun y => V.ref y.1) (zs.map fun y => Value.ref y.1) := fun zs => by
        induction zs with
        | nil => exact .nil
        | cons y r ih => exact .cons (show RelV (.ref y.1) (.ref y.1) from rfl) ih
      exact all ys
    have I2 : Inv X pins σ (upd H h'.objs.size (.lst (ys.map fun y => V.ref y.1))) { s with heap := sortedHeap h2 h'.objs.size (as.map Value.ref) out.toArray, toks := tk } :=
      I1.take (h' := sortedHeap h2 h'.objs.size (as.map Value.ref) out.toArray) (t' := tk) (fun b ob _ e => e) (I.fpOk (Nat.le_of_lt hlt) hn0) ⟨hlen, out.toArray.toList, eF, rv, heF⟩
    obtain ⟨H2, I3, g, qt⟩ := L2.DX.takeT (P := fun b us => ∃ (j : Nat) (x : Int × V × PyData), as[j]? = some b ∧ ks[j]? = some x ∧ us = [.int x.1, x.2.1]) I as _ I2 nd fun b hb => by
      obtain ⟨j, hj⟩ := List.mem_iff_getElem?.mp hb
      obtain ⟨x, t, u, hx', ru, hg⟩ := pr j b hj
      have hbl : s.heap.objs.size ≤ b := Nat.le_of_lt (hG.above b hb)
      refine ⟨hbl, ?_, [.int x.1, x.2.1], ⟨j, x, hj, hx', rfl⟩, fun H3 => ⟨(by rw [sizeLine_eq]; show 2 ≤ 16777216; omega), [Value.int x.1 t, u], .cons ⟨t, rfl⟩ (.cons ru .nil), ⟨_, kF _ _ (ne0 _ _ hg) (ka _ _ hg), rfl, 0, rfl⟩⟩⟩
      rw [upd_ne (ne0 _ _ hg)]
      exact I.hok.fresh hbl
    have gr : ∀ b o, H b = some o → H2 b = some o := fun b o e => g b o (by rw [upd_ne (ne_of_none e hn0)]; exact e)
    have pk : (ys.map (·.2)).Perm ks := by
      have e := perm.map (·.2)
      rw [List.map_snd_zip (by rw [lak]; exact Nat.le_refl _)] at e
      exact e
    refine ⟨.ref h'.objs.size, H2, I3, rfl, q H2 h'.objs.size ys gr hn0 (fun y hy => ?_) pk sorted (g _ _ upd_same) fun y hy => ?_⟩
    · obtain ⟨j, j1, j2⟩ := bsat y (perm.mem_iff.mp hy)
      exact I.hok.fresh (Nat.le_of_lt (hG.above _ (List.mem_of_getElem? j1)))
    obtain ⟨j, j1, j2⟩ := bsat y (perm.mem_iff.mp hy)
    obtain ⟨us, ⟨i, x, i1, i2, e3⟩, hH⟩ := qt y.1 (List.mem_of_getElem? j1)
    have eij : i = j := (List.getElem?_inj (List.getElem?_eq_some_iff.mp i1).1 nd).mp (i1.trans j1.symm)
    subst eij
    rw [j2] at i2; cases i2
    rw [e3] at hH
    exact hH
/-! over data -/
def pairsOf : List (Key × D) → Option (List (Int × D × PyData))
  | [] => some []
  | (.inl i, d) :: r => (pd d).bind fun x => (pairsOf r).map fun l => (i, d, x) :: l
  | _ :: _ => none
def kvsOf (ps : List (Int × D × PyData)) : List (Key × D) := ps.map fun x => (Sum.inl x.1, x.2.1)
/-- sorted(d.items()), int keys, the values' data alike -/
def sortItR (d : D) (M : MH) (Q : DQ) : Prop := oQ (seeD M d) fun ks => oQ (pairsOf ks) fun ps => (∀ x ∈ ps, ∀ y ∈ ps, PySem.W.alike x.2.2 y.2.2 = true) ∧ (∀ x ∈ ps, x.2.2.depth ≤ 32) ∧
  ∀ qs : List (Int × D × PyData), qs.Perm ps → qs.Pairwise (fun x y => x.1 ≤ y.1) → Q (.lst (qs.map fun x => .tup [.int x.1, x.2.1])) M
theorem pairsOf_eq : ∀ {ks : List (Key × D)} {ps : List (Int × D × PyData)}, pairsOf ks = some ps → ks = kvsOf ps ∧ ∀ x ∈ ps, pd x.2.1 = some x.2.2
  | [], _, h => by cases h; exact ⟨rfl, fun _ h => by cases h⟩
  | (.inl i, d) :: r, _, h => by
    have h : ((pd d).bind fun x => (pairsOf r).map fun l => (i, d, x) :: l) = some _ := h
    obtain ⟨x, e1, e2⟩ := Option.bind_eq_some_iff.mp h
    obtain ⟨l, e3, e4⟩ := Option.map_eq_some_iff.mp e2
    subst e4
    obtain ⟨a, b⟩ := pairsOf_eq e3
    refine ⟨by rw [a]; rfl, fun y hy => ?_⟩
    rcases List.mem_cons.mp hy with e | hy
    · subst e; exact e1
    · exact b y hy
/-- a triple list of values beside the data -/
theorem RepK.trip {c : Ctx} {F : Hp} : ∀ {ps : List (Int × D × PyData)} {vs : List (Key × V)}, RepK c F vs (kvsOf ps) → ∃ xs : List (Int × V × PyData), vs = xs.map (fun x => (Sum.inl x.1, x.2.1)) ∧ xs.length = ps.length ∧ ∀ (j : Nat) x, xs[j]? = some x → ∃ p, ps[j]? = some p ∧ p.1 = x.1 ∧ p.2.2 = x.2.2 ∧ Rep c F x.2.1 p.2.1
  | [], _, h => by cases h; exact ⟨[], rfl, rfl, fun j x h => by simp at h⟩
  | (i, d, pp) :: r, _, h => by
    cases h with | cons h1 h2 =>
    obtain ⟨xs, e1, e2, e3⟩ := RepK.trip (ps := r) h2
    refine ⟨(i, _, pp) :: xs, by rw [e1]; rfl, congrArg Nat.succ e2, fun j x hx => ?_⟩
    cases j with
    | zero => simp at hx; subst hx; exact ⟨_, rfl, rfl, rfl, h1⟩
    | succ j => simpa using e3 j x (by simpa using hx)
def dSortIt (τ : TDE) : TDE := fun δ M Q => τ δ M fun d M1 => sortItR d M1 Q
theorem mono_sortItR {d : D} {M : MH} {Q Q' : DQ} (k : ∀ d M, Q d M → Q' d M) (h : sortItR d M Q) : sortItR d M Q' := oQ_mono (fun _ h => oQ_mono (fun _ h => ⟨h.1, h.2.1, fun qs a b => k _ _ (h.2.2 qs a b)⟩) h) h
theorem de_sortIt {B : Hp} {e : Expr} {τ : TDE} {p pos apos cpos : Pos} (hc : X.calm = true) (hu : X.A.units + 64 < cLine) (hg : Gl X "sorted") (hm : X.mg "sorted" = none) (he : DE X B e τ)
    (hbase : attributeBase e "items" X.env (eval e X.env) = eval e X.env := by rfl) (hline : (apos.endLine == cpos.line) = true := by rfl)
    (hst : starEach [.Call (.Attribute e "items" apos) [] [] cpos] X.env = (false, eval (.Call (.Attribute e "items" apos) [] [] cpos) X.env) :: starEach [] X.env := by rfl) (hpl : (backTo pos (starEach [] X.env)).any (·.1) = false := by rfl) :
    DE X B (.Call (.Name "sorted" p) [.Call (.Attribute e "items" apos) [] [] cpos] [] pos) (dSortIt τ) := by
  refine ⟨PE.imp (pe_callB (cr_sortIK hc hu) hg hm boot_sorted (pa_cons (pe_itemsV he.pe hbase hline) pa_nil hst) (by decide) (by decide) hst hpl) fun σ H Q ⟨F, δ, M, lb, hs, ev, q⟩ => ?_, fun δ M Q Q' k h => he.mono _ _ _ _ (fun d M1 h => mono_sortItR k h) h⟩
  refine upE_bind he.mono lb hs ev q fun d M1 v F1 H1 l1 hs1 ev1 r q1 => ?_
  obtain ⟨ks, e1, q1⟩ := oQ_get q1
  obtain ⟨ps, e2, c1, c2, c3⟩ := oQ_get q1
  obtain ⟨a, vs, rfl, rd, rk⟩ := seeD_rep hs1 r e1
  obtain ⟨e3, e4⟩ := pairsOf_eq e2
  subst e3
  obtain ⟨xs, rfl, lx, hx⟩ := RepK.trip rk
  refine ⟨a, _, rfl, rd, fun p hp => ?_⟩
  have ne : ∀ b o, H1 b = some o → b ≠ p := fun b o e => ne_of_none e hp
  have rd2 : Rd (upd H1 p (L2.DX.itemsO p a)) a (.dK (xs.map fun x => (Sum.inl x.1, x.2.1))) := by
    rcases rd with e | ⟨o, e⟩
    · exact .inl (by rw [upd_ne (ne _ _ e)]; exact e)
    · exact .inr ⟨o, by rw [upd_ne (ne _ _ e)]; exact e⟩
  have hs2 : HS (cOf X) F1 (upd H1 p (L2.DX.itemsO p a)) M1 := hs1.newO hp _
  have mem : ∀ x ∈ xs, ∃ y ∈ ps, y.1 = x.1 ∧ y.2.2 = x.2.2 ∧ Rep (cOf X) F1 x.2.1 y.2.1 := fun x hxx => by
    obtain ⟨j, hj⟩ := List.mem_iff_getElem?.mp hxx
    obtain ⟨y, h1, h2, h3, h4⟩ := hx j x hj
    exact ⟨y, List.mem_of_getElem? h1, h2, h3, h4⟩
  refine ⟨p, a, xs, rfl, upd_same, rd2, fun x hxx => ?_, fun x hxx y hyy => ?_, fun x hxx => ?_, fun H' l ys gr nl ny pm so hl hy => ?_⟩
  · obtain ⟨y, h1, h2, h3, h4⟩ := mem x hxx
    exact dp_of hs2 h4 (by rw [← h3]; exact e4 y h1)
  · obtain ⟨y1, a1, a2, a3, a4⟩ := mem x hxx
    obtain ⟨y2, b1, b2, b3, b4⟩ := mem y hyy
    rw [← a3, ← b3]; exact c1 _ a1 _ b1
  · obtain ⟨y1, a1, a2, a3, a4⟩ := mem x hxx
    rw [← a3]; exact c2 _ a1
  · -- the data in the sorted order
    have lz : (xs.zip ps).map Prod.fst = xs := List.map_fst_zip (by omega)
    have lz2 : (xs.zip ps).map Prod.snd = ps := List.map_snd_zip (by omega)
    obtain ⟨zs, pz, ez⟩ := perm_lift Prod.fst pm (xs.zip ps) lz
    have zr : ∀ z ∈ zs, z.2.1 = z.1.1 ∧ Rep (cOf X) F1 z.1.2.1 z.2.2.1 := fun z hz => by
      obtain ⟨j, hj⟩ := List.mem_iff_getElem?.mp (pz.mem_iff.mp hz)
      obtain ⟨h1, h2⟩ := List.getElem?_zip_eq_some.mp hj
      obtain ⟨y, h3, h4, h5, h6⟩ := hx j _ h1
      rw [h2] at h3; cases h3
      exact ⟨h4, h6⟩
    have pq : (zs.map Prod.snd).Perm ps := by
      have := pz.map Prod.snd
      rw [lz2] at this; exact this
    have sq : (zs.map Prod.snd).Pairwise (fun x y => x.1 ≤ y.1) := by
      rw [← ez, List.pairwise_map] at so
      rw [List.pairwise_map]
      exact List.Pairwise.imp_of_mem (fun {x y} hx hy h => by rw [(zr x hx).1, (zr y hy).1]; exact h) so
    -- the frozen part as it is now
    let Hv := upd H1 p (L2.DX.itemsO p a)
    let Fn : Hp := fun b => if Hv b = none then H' b else F1 b
    have fnOld : ∀ {b o}, Hv b = some o → Fn b = F1 b := fun {b o} e => by
      show (if Hv b = none then H' b else F1 b) = F1 b
      rw [if_neg (by rw [e]; simp)]
    have fnNew : ∀ {b}, Hv b = none → Fn b = H' b := fun {b} e => by
      show (if Hv b = none then H' b else F1 b) = H' b
      rw [if_pos e]
    have le : Le F1 Fn := fun b o e => by rw [fnOld (hs2.sub b o e)]; exact e
    have hs3 : HS (cOf X) Fn H' M1 := by
      refine ⟨fun b o e => ?_, fun b m e => ?_, fun b m e => ?_⟩
      · cases q : Hv b with
        | none => rw [fnNew q] at e; exact e
        | some u => rw [fnOld q] at e; exact gr b o (hs2.sub b o e)
      · obtain ⟨u, e1, _⟩ := hs2.cel b m e
        rw [fnOld e1]; exact hs2.dis b m e
      · obtain ⟨u, e1, ru⟩ := hs2.cel b m e
        exact ⟨u, gr b u e1, ru.mono le⟩
    have reps : ∀ (ws : List ((Int × V × PyData) × (Int × D × PyData))) (us : List Ent), us.map (·.2) = ws.map Prod.fst → (∀ z ∈ ws, z.2.1 = z.1.1 ∧ Rep (cOf X) F1 z.1.2.1 z.2.2.1) → (∀ y ∈ us, Fn y.1 = some (.tup [.int y.2.1, y.2.2.1])) →
        Reps (cOf X) Fn (us.map fun y => V.ref y.1) ((ws.map Prod.snd).map fun x => .tup [.int x.1, x.2.1]) := by
      intro ws
      induction ws with
      | nil =>
        intro us e _ _
        have : us = [] := List.map_eq_nil_iff.mp e
        subst this; exact .nil
      | cons z ws ih =>
        intro us e h1 h2
        cases us with
        | nil => simp at e
        | cons y us =>
          simp only [List.map_cons, List.cons.injEq] at e
          obtain ⟨e5, e6⟩ := e
          obtain ⟨g1, g2⟩ := h1 z (List.mem_cons_self ..)
          refine .cons (.tup (SqT.of (h2 y (List.mem_cons_self ..))) (.cons ?_ (.cons ?_ .nil))) (ih us e6 (fun z hz => h1 z (List.mem_cons_of_mem _ hz)) fun y hy => h2 y (List.mem_cons_of_mem _ hy))
          · rw [g1, ← e5]; exact .int _
          · rw [← e5] at g2; exact g2.mono le
    have fin := c3 (zs.map Prod.snd) pq sq
    refine fin _ Fn H' (l1.trans le) hs3 (.lst (vs := ys.map fun y => V.ref y.1) (by rw [fnNew nl]; exact hl) (reps zs ys ez.symm zr fun y hyy => ?_))
    rw [fnNew (ny y hyy)]; exact hy y hyy
end
end FM

set_option Elab.async false
set_option linter.all false
set_option maxRecDepth 100000
set_option maxHeartbeats 2000000
/-! FK: the law's own def, called by the claim's caller (whose guards are known: repr). -/
namespace FM
open PySem PySem.Spec L2
open PyProof.Rows hiding St

/-- a def's promise where the claim's caller calls -/
structure FnOkG (P : Program) (w : World) (K : Frag) (mg : Str → Option Value) (base : Heap) (CX : CXT) (f : Addr) (fd : FuncData) (ps : List Str) (sp : Sp) : Prop where
  run : ∀ (outer : List Env) (s : Shared) (H : Hp) (args : Args) (us : List Value) (vs : List V) (Q : VK) (E : XK), Env0 P w K mg base callerA outer s H → BindsTo s fd args (ps.zip us) → Vals vs us → sp vs H Q E →
    codeAny (model P w) callerA (.call (.ref f) args) (CR CX outer P w H s Q E) s
section
variable {P : Program} {w : World} {K : Frag} {mg : Str → Option Value} {base : Heap} {x qual : Str} {params : Arguments} {body : List Stmt} {scope : Scope} {dvs : List V} {kws : List (Str × V)} {f : Addr} {fd : FuncData} {N ps : List Str} {k : Nat} {CX : CXT}
theorem funD_okG {sp : Sp} (F : FunD K x qual params body scope dvs kws f fd) (S : FnScope N ps scope) (hr : Room (k + 1) callerA) (len : ∀ vs H Q E, sp vs H Q E → vs.length = ps.length)
    (hbody : ∀ (cdv : Value) (outer : List Env) (s : Shared) (H : Hp) (vs : List V) (Q : VK) (E : XK), Room k (callerA.deeper (envOfC qual scope s.heap.objs.size f cdv)) → sp vs H Q E →
      ∃ t, PSs (cxOf CX P w K mg base N qual scope f cdv callerA outer s H E) body t ∧ t { nx := fun _ H' => Q .non H', rt := Q } (L2.start N vs) H) : FnOkG P w K mg base CX f fd ps sp := by
  obtain ⟨oc, od, dV, kV, doc, pm, an, cdv, ct, osl, rfl, lk, hcd, _, _⟩ := F.ex
  refine ⟨fun outer s H args us vs Q E e0 hb r hsp => ?_⟩
  have KX : K.In s.heap := e0.mod.kin.keeps fun b o e => (e0.bs b o e).1
  have lim : s.heap.NoLimit := e0.mod.nolimit.keeps fun b o e => (e0.bs b o e).1
  refine codeAny_call_function hr.depth (KX _ _ lk) rfl S.co S.gen rfl (PySem.W.codeRec_of KX hcd) (hb _ _ _ _ ?_)
  refine wpAny_newFunctionEnv_cells S.kind (fun p hp => ?_) fun env he s1 x => ?_
  · rcases S.par p.1 (List.of_mem_zip hp).1 with q | q
    · exact .inl q
    · exact .inr ⟨q, PySem.W.cellsFrom_some _ _ _ (.inl q)⟩
  subst he
  refine ⟨lim.keeps x.toInCall.keep, codeAny_func ?_⟩
  obtain ⟨t, ht, hq⟩ := hbody cdv outer s H vs Q E (hr.deeper _) hsp
  have I : Inv (cxOf CX P w K mg base N qual scope f cdv callerA outer s H E) [] (L2.start N vs) H s1 := inv_start S hr.hd e0 (len _ _ _ _ hsp) r x
  refine wpAny_mono (ht.run [] s1 (L2.start N vs) H _ I hq) (fun fl s' hs => ?_) fun e s' hs => hs
  cases fl with
  | ret u => obtain ⟨v, σ', H', J, rv, q⟩ := hs; exact ⟨v, H', J.os, J.bare, J.base, J.hok, rv, q⟩
  | next => obtain ⟨σ', H', J, q⟩ := hs; exact ⟨.non, H', J.os, J.bare, J.base, J.hok, rfl, q⟩
  | brk => obtain ⟨_, _, _, q⟩ := hs; exact False.elim q
  | cont => obtain ⟨_, _, _, q⟩ := hs; exact False.elim q
theorem fn_okG {sp : SpD} (F : FunD K x qual params body scope dvs kws f fd) (S : FnScope N ps scope) (hr : Room (k + 1) callerA) (hl : SpLen sp ps.length) {τ : DX → TDS}
    (hb : ∀ (cdv : Value) (outer : List Env) (s : Shared) (H : Hp) (E : XK) (B : Hp), Room k (callerA.deeper (envOfC qual scope s.heap.objs.size f cdv)) → DSs (cxOf CX0 P w K mg base N qual scope f cdv callerA outer s H E).nox B body (τ (dnX ⟨P, w, K⟩ B E)))
    (hm : Meets τ N.length sp) : FnOkG P w K mg base CX0 f fd ps (upSp ⟨P, w, K⟩ sp) := by
  refine funD_okG F S hr (len_up hl) fun cdv outer s H vs Q E hr h => ?_
  obtain ⟨t, h1, h2⟩ := body_up (X := (cxOf CX0 P w K mg base N qual scope f cdv callerA outer s H E).nox) rfl (fun B => hb cdv outer s H E B hr) hm h
  exact ⟨t, h1.nox, h2⟩
end
/-- the law's call, from the promise -/
theorem law_callG {P : Program} {w : World} {K : Frag} {mg mb : Str → Option Value} {CX : CXT} {fa a : Addr} {fd : FuncData} {x : Str} {sp : Sp} {s₁ : Shared} {vs : List Value} {ns : List Int}
    (KX : K.In s₁.heap) (hns : s₁.heap.Ns mainGlobals mg) (hb : s₁.heap.Ns builtinsNs mb) (hbb : ∀ x : Str, x ≠ "__name__" → mb x = bootBuiltins x) (hlim : s₁.heap.NoLimit) (hg : s₁.gens = #[])
    (ha : s₁.heap.get? a = some { cls := .type "list", data := .seq vs.toArray }) (hi : IntsAre vs ns) (hl : ns.length ≤ sizeLine)
    (F : ∀ base : Heap, K.In base → base.Ns mainGlobals mg → FnOkG P w K mg base CX fa fd [x] sp) (hbind : ∀ (s : Shared) (u : Value), BindsTo s fd ⟨[u], []⟩ [(x, u)])
    (hsp : ∀ H : Hp, Only H → SqL K H a (ns.map V.int) → sp [.ref a] H (fun v _ => v = .bl true) fun _ _ _ => False)
    (hCX : ∀ H e s', CX [] H s₁ (fun _ _ _ => False) e s' → False) :
    codeAny (model P w) callerA (.call (.ref fa) ⟨[.ref a], []⟩) (fun r s' => r = .ok (.ret (.bool true)) ∧ OldK s₁.heap s'.heap ∧ s'.os = s₁.os ∧ AllBare s'.gens) s₁ := by
  have rv := vals_ints hi
  have lenV := hi.length
  have core : ∀ H : Hp, Only H → SqL K H a (ns.map V.int) → HOk P w H s₁.heap → (∀ b, H b ≠ none → b = a) → (H a ≠ none → K.lookup a = none) →
      codeAny (model P w) callerA (.call (.ref fa) ⟨[.ref a], []⟩) (fun r s' => r = .ok (.ret (.bool true)) ∧ OldK s₁.heap s'.heap ∧ s'.os = s₁.os ∧ AllBare s'.gens) s₁ := by
    intro H hO hS hok hA hK
    have here : ∀ {b : Addr} {o : Obj}, s₁.heap.get? b = some o → H b = none → (hidT s₁.heap H).get? b = some o := fun e n => hidT_get e n
    have apart : ∀ {b : Addr} {o : Obj}, s₁.heap.get? b = some o → (∀ it n, o.data ≠ .seq it n) → H b = none := fun {b o} e d => by
      cases q : H b with
      | none => rfl
      | some u =>
        have e' : b = a := hA b (by rw [q]; simp)
        subst e'
        rw [ha] at e; cases e
        exact absurd rfl (d _ _)
    have nsK : ∀ {b : Addr} {m : Str → Option Value}, s₁.heap.Ns b m → (hidT s₁.heap H).Ns b m := fun {b m} ⟨o, es, ep, e, d, r⟩ => ⟨o, es, ep, here e (apart e fun it n z => by rw [d] at z; cases z), d, r⟩
    have hKb : K.In (hidT s₁.heap H) := fun b o e => here (KX b o e) (by
      cases q : H b with
      | none => rfl
      | some u =>
        have e' : b = a := hA b (by rw [q]; simp)
        subst e'
        rw [hK (by rw [q]; simp)] at e; cases e)
    have hM : Mod K mg (hidT s₁.heap H) := ⟨hKb, nsK hns, ⟨mb, nsK hb, hbb⟩, let ⟨mc, h1, h2⟩ := hlim; ⟨mc, nsK h1, h2⟩⟩
    have e0 : Env0 P w K mg (hidT s₁.heap H) callerA [] s₁ H := ⟨rfl, hM, fun b o e => of_hidT e, Nat.le_of_eq (hidT_size _ _), trivial, fun b hb => absurd (show b ∈ ([] : List Addr) from hb) (by simp), hok, .of_eq hg⟩
    refine codeAny_mono ((F _ hKb (nsK hns)).run [] s₁ H ⟨[.ref a], []⟩ [.ref a] [.ref a] _ _ e0 (hbind s₁ (.ref a)) (.cons rfl .nil) (hsp H hO hS)) fun r s' h => ?_
    cases r with
    | error e => exact (hCX H e s' h).elim
    | ok fl =>
      cases fl with
      | next => exact False.elim h
      | brk => exact False.elim h
      | cont => exact False.elim h
      | ret u =>
        obtain ⟨v, H', os, bare, un, hok', r', q⟩ := h
        have q' : v = .bl true := q
        subst q'
        obtain rfl : u = Value.bool true := r'
        refine ⟨rfl, OldK.of_keep fun b o e => ?_, os, bare⟩
        rcases hO b with z | ⟨ob, xs, z⟩
        · exact un.keep b o e z (by intro z; exact absurd (show b ∈ ([] : List Addr) from z) (by simp)) (by simp)
        · obtain ⟨e1, _⟩ := hok b _ z
          obtain ⟨e2, _⟩ := hok' b _ (un.frzs b ob _ z)
          rw [e] at e1; cases e1
          exact e2
  cases hk : K.lookup a with
  | some o =>
    have e := KX a o hk
    rw [ha] at e
    cases e
    exact core (fun _ => none) (fun _ => .inl rfl) (.inr ⟨_, vs.toArray, _, hk, rfl, rfl, rfl, by rw [List.size_toArray, lenV]; exact hl, by simpa using rv⟩) (fun b u z => by have z' : (none : Option HO) = some u := z; cases z') (fun b z => absurd rfl z) fun z => absurd rfl z
  | none =>
    have at_ : ∀ b u, (if b = a then some (HO.frz { cls := .type "list", data := .seq vs.toArray } (.lst (ns.map V.int))) else none) = some u → b = a ∧ u = .frz { cls := .type "list", data := .seq vs.toArray } (.lst (ns.map V.int)) := fun b u z => by
      by_cases hb : b = a
      · rw [if_pos hb] at z; cases z; exact ⟨hb, rfl⟩
      · rw [if_neg hb] at z; cases z
    refine core (fun b => if b = a then some (.frz { cls := .type "list", data := .seq vs.toArray } (.lst (ns.map V.int))) else none) (fun b => ?_) (.inl (.inr ⟨{ cls := .type "list", data := .seq vs.toArray }, if_pos rfl⟩)) (fun b u z => ?_) (fun b z => ?_) fun _ => hk
    · by_cases hb : b = a
      · exact .inr ⟨_, _, if_pos hb⟩
      · exact .inl (if_neg hb)
    · obtain ⟨hb, rfl⟩ := at_ b u z
      subst hb
      exact ⟨ha, by rw [List.length_map]; exact hl, vs, _, rv, ha⟩
    · by_cases hb : b = a
      · exact hb
      · exact absurd (if_neg hb) z
/-- the head's goal -/
theorem walk_ofG {l : PySem.W.OpenLaw} {n : Nat} {q : Program} {loose : List Str} {XP : (Str → Option Value) → Heap → Prop} {YP : World → Heap → Prop} {d : DefRec} {CX : CXT} {x : Str}
    (hn : l.most = some n) (hn2 : n ≤ sizeLine) (hdf : d.params.defaults = [])
    (F : ∀ (w : World) (mg : Str → Option Value) (fa : Addr) (h : Heap), YP w h → h.Ns mainGlobals mg → mg d.name = some (.ref fa) →
      ∃ (K : Frag) (fd : FuncData) (sp : Sp), K.In h ∧ (∀ (s : Shared) (u : Value), BindsTo s fd ⟨[u], []⟩ [(x, u)]) ∧
        (∀ (H : Hp) (a : Addr) (ns : List Int), ns.length ≤ n → Only H → SqL K H a (ns.map V.int) → sp [.ref a] H (fun v _ => v = .bl true) fun _ _ _ => False) ∧
        ∀ base : Heap, K.In base → base.Ns mainGlobals mg → FnOkG l.prog w K mg base CX fa fd [x] sp)
    (hCX : ∀ (H : Hp) (s : Shared) (e : Value) (s' : Shared), CX [] H s (fun _ _ _ => False) e s' → False) :
    PySem.W.WalkO q loose XP YP l.row.toRowW d [] (fun f vs => PySem.call f vs) := by
  refine Att.attach_call hn hdf fun w s₀ s₁ mg mb fa o pm cd doc a vs ns G Y ho hd hcd hmg hobj hints hlen hg => ?_
  obtain ⟨K, fd, sp, KX, hb, hsp, hF⟩ := F w mg fa _ Y G.T.g hmg
  exact law_callG KX G.T.g G.T.b G.T.builtins G.T.nolimit hg hobj hints (Nat.le_trans hlen hn2) hF hb (fun H hO hS => hsp H a ns hlen hO hS) fun H e s' => hCX H s₁ e s'
/-- the script as data: Only H, and the frozen part that tells it -/
theorem script_up {c : Ctx} {H : Hp} {a : Addr} {ns : List Int} {sp : SpD} (hO : Only H) (hS : SqL c.K H a (ns.map V.int)) (h : sp [.scr (ns.map D.int)] (fun _ => none) (fun d _ => d = .bl true) (fun _ _ _ => False)) (ms : MonoSp sp) :
    upSp c sp [.ref a] H (fun v _ => v = .bl true) fun _ _ _ => False := by
  refine ⟨H, fun _ => none, [.scr (ns.map D.int)], ⟨fun _ _ e => e, fun a m e => (nomatch e), fun a m e => (nomatch e)⟩, .cons (.scr hS (Reps.ofInts ns)) .nil, ms _ _ _ _ _ _ (fun d M' e => ?_) (fun _ _ _ z => z.elim) h⟩
  subst e
  intro v F' H' l hs' r
  cases r
  rfl
end FM

set_option Elab.async false
set_option linter.all false
set_option maxRecDepth 100000
set_option maxHeartbeats 2000000
/-! FL: defs, methods, classes by name; the facts of the head. -/
namespace FM
open PySem PySem.Spec L2
open PyProof.Rows hiding St

/-! ### a promise that answers one wish -/
abbrev SpR := List D → MH → (D → MH → Prop) → Prop
def spOf (r : SpR) : SpD := fun ds M Q _ => ∃ R, r ds M R ∧ ∀ d M', R d M' → Q d M'
theorem mono_spOf (r : SpR) : MonoSp (spOf r) := fun ds M Q Q' E E' k _ ⟨R, h, z⟩ => ⟨R, h, fun d M' q => k _ _ (z _ _ q)⟩

/-! ### d.pop(k), d.pop(k, x) of a cell, the key there -/
def dpopR : RDM := fun d ds M Q => match d with
  | .ref p => oQ (M p) fun m => match m with
    | .dic ks => (match ds with
      | [i] => oQ (keyD i) fun k => oQ (valA ks k) fun v => Q v (updM M p (.dic (dropA ks k)))
      | _ => False)
    | _ => False
  | _ => False
theorem mt_dpop {X : Cx} : MtR X "dict.pop" (fun x xs H Q => ∃ a kvs k v, x = .ref a ∧ xs = [kV k] ∧ H a = some (.dK kvs) ∧ valV kvs k = some v ∧ Q v (upd H a (.dK (dropK kvs k)))) := by
  intro pins s σ H x xs v us Q I rx rxs h
  obtain ⟨a, kvs, k, y, rfl, rfl, ha, hv, q⟩ := h
  cases rx
  obtain ⟨u, rfl, ru⟩ := vals1 rxs
  exact d_pop I ha ru hv (.inl rfl) fun w' s' I' rw' => ⟨y, _, I', rw', q⟩
theorem dm_dpop {X : Cx} : DM X "dict.pop" dpopR := by
  refine dm_of mt_dpop (fun d ds M Q Q' k h => ?_) ?_
  · cases d with
    | ref p =>
      refine oQ_mono (fun m h => ?_) h
      cases m with
      | dic ks => match ds, h with
        | [i], h => exact oQ_mono (fun _ h => oQ_mono (fun _ h => k _ _ h) h) h
      | _ => exact h
    | _ => exact h
  · rintro v vs H Q ⟨F, M, d, ds, hs, r, rs, q⟩
    cases r with
    | ref p =>
      obtain ⟨m, em, q⟩ := oQ_get q
      cases m with
      | dic ks =>
        match ds, rs, q with
        | [i], .cons ri .nil, q =>
          obtain ⟨k, ek, q⟩ := oQ_get q
          obtain ⟨y, ey, q⟩ := oQ_get q
          obtain ⟨us, eh, rr⟩ := hs.celD em
          obtain ⟨yv, e1, ry⟩ := rr.val ey
          exact ⟨p, us, k, yv, rfl, by rw [keyD_rep ri ek], eh, e1, q _ _ _ (Le.refl F) (hs.setM em (.dic (by rw [dropK_eq]; exact rr.drop))) ry⟩
      | _ => exact (show False from q).elim
    | _ => exact (show False from q).elim

theorem dgs_star {X : Cx} {B : Hp} {tg : Expr} {ts : List Expr} {g : TDGs} {p : Pos} (h : DGs X B (tg :: ts) g) (e : (assignEach (.Starred tg p :: ts) X.env).map (·.2) = (assignEach (tg :: ts) X.env).map (·.2) := by rfl) : DGs X B (.Starred tg p :: ts) g :=
  ⟨⟨fun pins s σ H vs us Q I r q => by rw [e]; exact h.pg.run pins s σ H vs us Q I r q⟩, h.mono⟩
theorem andF {p q : Prop} (h : q) : (false = true → p) ∧ (false = false → q) := ⟨fun z => (nomatch z), fun _ => h⟩
theorem andT {p q : Prop} (h : p) : (true = true → p) ∧ (true = false → q) := ⟨fun _ => h, fun z => (nomatch z)⟩
theorem sz {n : Nat} (h : n < 1000) : n ≤ sizeLine := by rw [sizeLine_eq]; omega
theorem tyC_l {p : Addr} {M : MH} {xs : List D} (h : M p = some (.lst xs)) : tyC "list" (.ref p) M := oQ_of h rfl
theorem tyC_d {p : Addr} {M : MH} {xs : List (Key × D)} (h : M p = some (.dic xs)) : tyC "dict" (.ref p) M := oQ_of h rfl
theorem room66 {k : Nat} {A : Around} (hr : Room k A) : A.units + 66 < cLine := by have := hr.un; omega
/-! ### facts -/
structure Wd (fa : List He.Fa) (fn : List He.DefD) (K : Frag) (mg : Str → Option Value) : Prop where
  h : ∃ h : Heap, K.In h ∧ h.Ns mainGlobals mg
  c : He.SaysD fa fn K
section
variable {fa : List He.Fa} {fn : List He.DefD} {K : Frag} {mg : Str → Option Value}
theorem Wd.glo (W : Wd fa fn K mg) (i : Nat) {x : Str} (e : fa[i]? = some (.glo x) := by rfl) : mg x = some (.ref (He.ga K x)) := let ⟨_, a, b⟩ := W.h; He.glo_ok a b (W.c.fact i e)
theorem Wd.free (W : Wd fa fn K mg) (i : Nat) {x : Str} (e : fa[i]? = some (.free x) := by rfl) : mg x = none := let ⟨_, a, b⟩ := W.h; He.free_ok a b (W.c.fact i e)
theorem Wd.int (W : Wd fa fn K mg) (i : Nat) {x : Str} {j : Int} (e : fa[i]? = some (.int x j) := by rfl) : ∃ t, mg x = some (.int j t) := let ⟨_, a, b⟩ := W.h; He.int_ok a b (W.c.fact i e)
theorem Wd.cls (W : Wd fa fn K mg) (i : Nat) {x : Str} (e : fa[i]? = some (.cls x) := by rfl) : Cls K (He.ga K x) := He.cls_ok (W.c.fact i e)
theorem Wd.noat (W : Wd fa fn K mg) (i : Nat) {x f : Str} (e : fa[i]? = some (.noat x f) := by rfl) : NoAttr K (He.ga K x) f := He.noat_ok (W.c.fact i e)
theorem Wd.meth (W : Wd fa fn K mg) (i : Nat) {x m : Str} (e : fa[i]? = some (.meth x m) := by rfl) : Meth K (He.ga K x) m (He.ma K (He.ga K x) m) := He.meth_ok (W.c.fact i e)
theorem Wd.mkr (W : Wd fa fn K mg) (i : Nat) {x : Str} (e : fa[i]? = some (.mkr x) := by rfl) : Mk K (He.ga K x) (He.ma K (He.ga K x) "__init__") := He.mkr_ok (W.c.fact i e)
end

/-! ### callees by name -/
section
variable {P : Program} {w : World} {K : Frag} {mg : Str → Option Value} {base : Heap}
structure Cal (P : Program) (w : World) (K : Frag) (mg : Str → Option Value) (base : Heap) (k : Nat) (x : Str) (sp : SpD) : Prop where
  ex : ∃ (f : Addr) (fd : FuncData) (ps : List Str), FnOk P w K mg base CX0 k f fd ps (upSp ⟨P, w, K⟩ sp) ∧ mg x = some (.ref f) ∧ PySem.W.keepIn K (.ref f) = true ∧ Binds K fd ps []
  mono : MonoSp sp
structure Met (P : Program) (w : World) (K : Frag) (mg : Str → Option Value) (base : Heap) (k : Nat) (C : Addr) (m : Str) (sp : SpD) : Prop where
  ex : ∃ (f : Addr) (fd : FuncData) (ps : List Str), FnOk P w K mg base CX0 k f fd ps (upSp ⟨P, w, K⟩ sp) ∧ Meth K C m f ∧ Binds K fd ps []
  cls : Cls K C
  mono : MonoSp sp
structure Mak (P : Program) (w : World) (K : Frag) (mg : Str → Option Value) (base : Heap) (k : Nat) (x : Str) (C : Addr) (sp : SpD) : Prop where
  ex : ∃ (f : Addr) (fd : FuncData) (ps : List Str), FnOk P w K mg base CX0 k f fd ps (upSp ⟨P, w, K⟩ sp) ∧ mg x = some (.ref C) ∧ Mk K C f ∧ Binds K fd ps []
  mono : MonoSp sp
end
section
variable {X : Cx} {B : Hp} {k : Nat} {C : Addr} {sp : SpD} {E : XK} {x m : Str} {p pos apos : Pos} {e o : Expr} {es : List Expr} {τ : TDE} {τs : TDA}
theorem de_callC (c : Cal X.prog X.w X.K X.mg X.base k x sp) (hr : Room k X.A) (hg : Gl X x) (ha : DA X B (e :: es) τs)
    (hdb : (x == ("__debug__" : Str)) = false := by decide) (he : starEach (e :: es) X.env = (false, eval e X.env) :: starEach es X.env := by rfl) (hpl : (backTo pos (starEach es X.env)).any (·.1) = false := by rfl) :
    DE X B (.Call (.Name x p) (e :: es) [] pos) (dCall sp [] (dnX (cOf X) B E) τs) := by
  obtain ⟨f, fd, ps, F, hm, hk, hb⟩ := c.ex
  exact de_call F c.mono hr hg hm hk hb .nil (fun _ => .nil) pass0 ha hdb he hpl
theorem de_callC0 (c : Cal X.prog X.w X.K X.mg X.base k x sp) (hr : Room k X.A) (hg : Gl X x) (hdb : (x == ("__debug__" : Str)) = false := by decide) :
    DE X B (.Call (.Name x p) [] [] pos) (dCall sp [] (dnX (cOf X) B E) dNil) := by
  obtain ⟨f, fd, ps, F, hm, hk, hb⟩ := c.ex
  exact de_call0 F c.mono hr hg hm hk hb .nil (fun _ => .nil) pass0 hdb
theorem de_methC {pl : Sem Bool} (he : DE X B o τ) (c : Met X.prog X.w X.K X.mg X.base k C m sp) (hr : Room k X.A) (ha : DA X B (e :: es) τs)
    (hst : starEach (e :: es) X.env = (false, eval e X.env) :: starEach es X.env := by rfl) (hpl : (backTo pos (starEach es X.env)).any (·.1) = false := by rfl)
    (ht : eval (.Call (.Attribute o m apos) (e :: es) [] pos) X.env = (do
      let ov ← eval o X.env
      standAt apos.atName
      let (f, first) ← holding [ov] (getMethod ov m pl)
      callWith pos f first (backTo pos (starEach (e :: es) X.env)) (backToKw pos (keywordEach [] X.env))) := by rfl) :
    DE X B (.Call (.Attribute o m apos) (e :: es) [] pos) (dMeth C m sp [] (dnX (cOf X) B E) τ τs) := by
  obtain ⟨f, fd, ps, F, hm, hb⟩ := c.ex
  exact de_meth he c.cls hm F c.mono hr hb .nil (fun _ => .nil) pass0 ha hst hpl ht
theorem de_methC0 {pl : Sem Bool} (he : DE X B o τ) (c : Met X.prog X.w X.K X.mg X.base k C m sp) (hr : Room k X.A)
    (ht : eval (.Call (.Attribute o m apos) [] [] pos) X.env = (do
      let ov ← eval o X.env
      standAt apos.atName
      let (f, first) ← holding [ov] (getMethod ov m pl)
      callWith pos f first (backTo pos (starEach [] X.env)) (backToKw pos (keywordEach [] X.env))) := by rfl) :
    DE X B (.Call (.Attribute o m apos) [] [] pos) (dMeth C m sp [] (dnX (cOf X) B E) τ dNil) := by
  obtain ⟨f, fd, ps, F, hm, hb⟩ := c.ex
  exact de_meth0 he c.cls hm F c.mono hr hb .nil (fun _ => .nil) pass0 ht
theorem de_makeC (c : Mak X.prog X.w X.K X.mg X.base k x C sp) (hr : Room (k + 1) X.A) (hg : Gl X x) (ha : DA X B (e :: es) τs)
    (hdb : (x == ("__debug__" : Str)) = false := by decide) (he : starEach (e :: es) X.env = (false, eval e X.env) :: starEach es X.env := by rfl) (hpl : (backTo pos (starEach es X.env)).any (·.1) = false := by rfl) :
    DE X B (.Call (.Name x p) (e :: es) [] pos) (dMake C sp [] (dnX (cOf X) B E) τs) := by
  obtain ⟨f, fd, ps, F, hm, mk, hb⟩ := c.ex
  exact de_make mk F c.mono hr hg hm hb .nil (fun _ => .nil) pass0 ha hdb he hpl
theorem de_makeC0 (c : Mak X.prog X.w X.K X.mg X.base k x C sp) (hr : Room (k + 1) X.A) (hg : Gl X x) (hdb : (x == ("__debug__" : Str)) = false := by decide) :
    DE X B (.Call (.Name x p) [] [] pos) (dMake C sp [] (dnX (cOf X) B E) dNil) := by
  obtain ⟨f, fd, ps, F, hm, mk, hb⟩ := c.ex
  exact de_make0 mk F c.mono hr hg hm hb .nil (fun _ => .nil) pass0 hdb
/-- a constant of the module -/
theorem de_gint {i : Int} (hg : Gl X x) (hm : ∃ t, X.mg x = some (.int i t)) (hd : (x == ("__debug__" : Str)) = false := by decide) : DE X B (.Name x p) (dC (.int i)) := by
  obtain ⟨t, e⟩ := hm
  exact de_glob (v := .int i) hg e ⟨t, rfl⟩ (fun _ => .int i) hd
/-- a built-in type's name -/
theorem de_ty {T : String} (hg : Gl X x) (hm : X.mg x = none) (hv : bootBuiltins x = some (.type T)) (hn : x ≠ "__name__" := by decide) (hd : (x == ("__debug__" : Str)) = false := by decide) : DE X B (.Name x p) (dC (.ty T)) :=
  de_bltn (v := .ty T) hg hm hv rfl (fun _ => .ty T) hn hd
end
section
variable {P : Program} {w : World} {K : Frag} {mg : Str → Option Value} {base : Heap} {fa : List He.Fa} {fn : List He.DefD} {d : He.DefD} {N ps : List Str} {k : Nat} {sp : SpD} {x m : Str} {C : Addr}
/-- the promise of a def by its datum -/
theorem fn_okD (W : Wd fa fn K mg) (i : Nat) (e : fn[i]? = some d) (S : FnScope N ps d.scope) (hl : SpLen sp ps.length) {τ : DX → TDS}
    (hb : ∀ (cdv : Value) (A : Around) (outer : List Env) (s : Shared) (H : Hp) (E : XK) (B : Hp), Room k (A.deeper (envOfC d.qual d.scope s.heap.objs.size (He.fAd K d.at_) cdv)) → DSs (cxOf CX0 P w K mg base N d.qual d.scope (He.fAd K d.at_) cdv A outer s H E).nox B d.body (τ (dnX ⟨P, w, K⟩ B E)))
    (hm : Meets τ N.length sp) : ∃ fd, FnOk P w K mg base CX0 (k + 1) (He.fAd K d.at_) fd ps (upSp ⟨P, w, K⟩ sp) ∧ FunD K d.name d.qual d.params d.body d.scope (d.dvs K) (d.kws K) (He.fAd K d.at_) fd := by
  obtain ⟨fd, F⟩ := W.c.def_ i e
  exact ⟨fd, fn_ok F S hl hb hm, F⟩
end
end FM

set_option Elab.async false
set_option linter.all false
set_option maxRecDepth 100000
set_option maxHeartbeats 4000000
namespace K13
open PySem PySem.Spec L2 FM
open PyProof.Rows hiding St

def top (i : Nat) : Stmt := PySem.Challenge.pw_farmates_k13_fronts_go_their_own_way.main.body.getD i (.Pass ⟨0, 0, 0, 0⟩)
def cb (i j : Nat) : Stmt := match top i with
  | .ClassDef _ _ _ b _ _ _ _ _ _ _ => b.getD j (.Pass ⟨0, 0, 0, 0⟩)
  | _ => .Pass ⟨0, 0, 0, 0⟩
abbrev st_law_open : Stmt := top 25
def d_law_open : He.DefD := ⟨("_law_open", none), "_law_open", "_law_open", defArgs st_law_open, defBody st_law_open, defScope st_law_open, [], []⟩
theorem sc_law_open : FnScope ["_law_script", "_law_seed", "_law_cell"] ["_law_script"] (defScope st_law_open) := ⟨rfl, rfl, rfl, by decide +kernel, rfl, by decide +kernel, by decide +kernel⟩
abbrev st_law_pull : Stmt := top 26
def d_law_pull : He.DefD := ⟨("_law_pull", none), "_law_pull", "_law_pull", defArgs st_law_pull, defBody st_law_pull, defScope st_law_pull, [], []⟩
theorem sc_law_pull : FnScope ["_law_draw", "_law_cap", "_law_cell", "_law_got", "_law_seed"] ["_law_draw", "_law_cap"] (defScope st_law_pull) := ⟨rfl, rfl, rfl, by decide +kernel, rfl, by decide +kernel, by decide +kernel⟩
abbrev st_law_mating : Stmt := top 30
def d_law_mating : He.DefD := ⟨("_law_mating", none), "_law_mating", "_law_mating", defArgs st_law_mating, defBody st_law_mating, defScope st_law_mating, [], []⟩
theorem sc_law_mating : FnScope ["_law_draw", "_law_length", "_law_many", "_law_room"] ["_law_draw", "_law_length"] (defScope st_law_mating) := ⟨rfl, rfl, rfl, by decide +kernel, rfl, by decide +kernel, by decide +kernel⟩
abbrev st_law_road : Stmt := top 31
def d_law_road : He.DefD := ⟨("_law_road", none), "_law_road", "_law_road", defArgs st_law_road, defBody st_law_road, defScope st_law_road, [], []⟩
theorem sc_law_road : FnScope ["_law_draw", "_law_longest", "_law_cap", "_law_length", "_law_k"] ["_law_draw", "_law_longest", "_law_cap"] (defScope st_law_road) := ⟨rfl, rfl, rfl, by decide +kernel, rfl, by decide +kernel, by decide +kernel⟩
abbrev st_law_first : Stmt := top 32
def d_law_first : He.DefD := ⟨("_law_first", none), "_law_first", "_law_first", defArgs st_law_first, defBody st_law_first, defScope st_law_first, [], []⟩
theorem sc_law_first : FnScope ["_law_mating_here", "_law_one", "_law_other", "_law_many", "_law_flips"] ["_law_mating_here"] (defScope st_law_first) := ⟨rfl, rfl, rfl, by decide +kernel, rfl, by decide +kernel, by decide +kernel⟩
abbrev st_law_begun : Stmt := top 39
def d_law_begun : He.DefD := ⟨("_law_begun", none), "_law_begun", "_law_begun", defArgs st_law_begun, defBody st_law_begun, defScope st_law_begun, [], []⟩
theorem sc_law_begun : FnScope ["_law_length", "_law_matings", "_law_rows", "_law_at"] ["_law_length", "_law_matings"] (defScope st_law_begun) := ⟨rfl, rfl, rfl, by decide +kernel, rfl, by decide +kernel, by decide +kernel⟩
abbrev st_law_reach : Stmt := top 34
def d_law_reach : He.DefD := ⟨("_law_reach", none), "_law_reach", "_law_reach", defArgs st_law_reach, defBody st_law_reach, defScope st_law_reach, [], []⟩
theorem sc_law_reach : FnScope ["_law_state", "_law_but", "_law_at", "_law_row"] ["_law_state", "_law_but"] (defScope st_law_reach) := ⟨rfl, rfl, rfl, by decide +kernel, rfl, by decide +kernel, by decide +kernel⟩
abbrev st_law_less : Stmt := top 41
def d_law_less : He.DefD := ⟨("_law_less", none), "_law_less", "_law_less", defArgs st_law_less, defBody st_law_less, defScope st_law_less, [], []⟩
theorem sc_law_less : FnScope ["_law_draw", "_law_room"] ["_law_draw", "_law_room"] (defScope st_law_less) := ⟨rfl, rfl, rfl, by decide +kernel, rfl, by decide +kernel, by decide +kernel⟩
abbrev st_law_any : Stmt := top 27
def d_law_any : He.DefD := ⟨("_law_any", none), "_law_any", "_law_any", defArgs st_law_any, defBody st_law_any, defScope st_law_any, [], []⟩
theorem sc_law_any : FnScope ["_law_draw", "_law_some"] ["_law_draw", "_law_some"] (defScope st_law_any) := ⟨rfl, rfl, rfl, by decide +kernel, rfl, by decide +kernel, by decide +kernel⟩
abbrev st_law_shuffled : Stmt := top 28
def d_law_shuffled : He.DefD := ⟨("_law_shuffled", none), "_law_shuffled", "_law_shuffled", defArgs st_law_shuffled, defBody st_law_shuffled, defScope st_law_shuffled, [], []⟩
theorem sc_law_shuffled : FnScope ["_law_draw", "_law_some", "_law_left", "_law_found", "_law_turn"] ["_law_draw", "_law_some"] (defScope st_law_shuffled) := ⟨rfl, rfl, rfl, by decide +kernel, rfl, by decide +kernel, by decide +kernel⟩
abbrev st_law_wise : Stmt := top 42
def d_law_wise : He.DefD := ⟨("_law_wise", none), "_law_wise", "_law_wise", defArgs st_law_wise, defBody st_law_wise, defScope st_law_wise, [], []⟩
theorem sc_law_wise : FnScope ["_law_draw", "_law_state", "_law_top", "_law_rows", "_law_laid", "_law_at", "_law_one", "_law_other", "_law_many", "_law_flips", "_law_reach_here", "_law_ended", "_law_long_one", "_law_by", "_law_low"] ["_law_draw", "_law_state"] (defScope st_law_wise) := ⟨rfl, rfl, rfl, by decide +kernel, rfl, by decide +kernel, by decide +kernel⟩
abbrev st_law_leads : Stmt := top 33
def d_law_leads : He.DefD := ⟨("_law_leads", none), "_law_leads", "_law_leads", defArgs st_law_leads, defBody st_law_leads, defScope st_law_leads, [], []⟩
theorem sc_law_leads : FnScope ["_law_mating_here", "_law_one", "_law_other", "_law_many", "_law_flips"] ["_law_mating_here"] (defScope st_law_leads) := ⟨rfl, rfl, rfl, by decide +kernel, rfl, by decide +kernel, by decide +kernel⟩
abbrev st_law_lead : Stmt := top 36
def d_law_lead : He.DefD := ⟨("_law_lead", none), "_law_lead", "_law_lead", defArgs st_law_lead, defBody st_law_lead, defScope st_law_lead, [], []⟩
theorem sc_law_lead : FnScope ["_law_row", "_law_side", "_law_way", "_law_begin", "_law_ends"] ["_law_row", "_law_side", "_law_way"] (defScope st_law_lead) := ⟨rfl, rfl, rfl, by decide +kernel, rfl, by decide +kernel, by decide +kernel⟩
abbrev st_law_made_more : Stmt := top 38
def d_law_made_more : He.DefD := ⟨("_law_made_more", none), "_law_made_more", "_law_made_more", defArgs st_law_made_more, defBody st_law_made_more, defScope st_law_made_more, [], []⟩
theorem sc_law_made_more : FnScope ["_law_state", "_law_rows", "_law_move", "_law_top", "_law_kept", "_law_laid", "_law_one", "_law_other", "_law_many", "_law_flips", "_law_both", "_law_left"] ["_law_state", "_law_rows", "_law_move"] (defScope st_law_made_more) := ⟨rfl, rfl, rfl, by decide +kernel, rfl, by decide +kernel, by decide +kernel⟩
abbrev st_law_made : Stmt := top 37
def d_law_made : He.DefD := ⟨("_law_made", none), "_law_made", "_law_made", defArgs st_law_made, defBody st_law_made, defScope st_law_made, [], []⟩
theorem sc_law_made : FnScope ["_law_state", "_law_move", "_law_top", "_law_rows", "_law_laid", "_law_one", "_law_other", "_law_many", "_law_flips", "_law_found", "_law_half", "_law_number"] ["_law_state", "_law_move"] (defScope st_law_made) := ⟨rfl, rfl, rfl, by decide +kernel, rfl, by decide +kernel, by decide +kernel⟩
abbrev st_law_some_moves : Stmt := top 43
def d_law_some_moves : He.DefD := ⟨("_law_some_moves", none), "_law_some_moves", "_law_some_moves", defArgs st_law_some_moves, defBody st_law_some_moves, defScope st_law_some_moves, [], []⟩
theorem sc_law_some_moves : FnScope ["_law_draw", "_law_length", "_law_matings", "_law_cap", "_law_state", "_law_found", "_law_turn"] ["_law_draw", "_law_length", "_law_matings", "_law_cap"] (defScope st_law_some_moves) := ⟨rfl, rfl, rfl, by decide +kernel, rfl, by decide +kernel, by decide +kernel⟩
abbrev st_need_length : Stmt := top 10
def d_need_length : He.DefD := ⟨("need_length", none), "need_length", "need_length", defArgs st_need_length, defBody st_need_length, defScope st_need_length, [], []⟩
theorem sc_need_length : FnScope ["number"] ["number"] (defScope st_need_length) := ⟨rfl, rfl, rfl, by decide +kernel, rfl, by decide +kernel, by decide +kernel⟩
abbrev st_is_mating : Stmt := top 11
def d_is_mating : He.DefD := ⟨("is_mating", none), "is_mating", "is_mating", defArgs st_is_mating, defBody st_is_mating, defScope st_is_mating, [], []⟩
theorem sc_is_mating : FnScope ["length", "mating", "one", "other", "many", "turned", "number"] ["length", "mating"] (defScope st_is_mating) := ⟨rfl, rfl, rfl, by decide +kernel, rfl, by decide +kernel, by decide +kernel⟩
abbrev st_need_matings : Stmt := top 16
def d_need_matings : He.DefD := ⟨("need_matings", none), "need_matings", "need_matings", defArgs st_need_matings, defBody st_need_matings, defScope st_need_matings, [], []⟩
theorem sc_need_matings : FnScope ["length", "matings", "mating"] ["length", "matings"] (defScope st_need_matings) := ⟨rfl, rfl, rfl, by decide +kernel, rfl, by decide +kernel, by decide +kernel⟩
abbrev st_back : Stmt := top 13
def d_back : He.DefD := ⟨("back", none), "back", "back", defArgs st_back, defBody st_back, defScope st_back, [], []⟩
theorem sc_back : FnScope ["mating", "one", "other", "many", "turned"] ["mating"] (defScope st_back) := ⟨rfl, rfl, rfl, by decide +kernel, rfl, by decide +kernel, by decide +kernel⟩
abbrev st_normal : Stmt := top 14
def d_normal : He.DefD := ⟨("normal", none), "normal", "normal", defArgs st_normal, defBody st_normal, defScope st_normal, [], []⟩
theorem sc_normal : FnScope ["mating"] ["mating"] (defScope st_normal) := ⟨rfl, rfl, rfl, by decide +kernel, rfl, by decide +kernel, by decide +kernel⟩
abbrev st_Front_begin : Stmt := cb 23 1
def d_Front_begin : He.DefD := ⟨("Front", some "begin"), "begin", "Front.begin", defArgs st_Front_begin, defBody st_Front_begin, defScope st_Front_begin, [], []⟩
theorem sc_Front_begin : FnScope ["self", "length", "matings", "at", "mating"] ["self", "length", "matings"] (defScope st_Front_begin) := ⟨rfl, rfl, rfl, by decide +kernel, rfl, by decide +kernel, by decide +kernel⟩
abbrev st_Front___init__ : Stmt := cb 23 0
def d_Front___init__ : He.DefD := ⟨("Front", some "__init__"), "__init__", "Front.__init__", defArgs st_Front___init__, defBody st_Front___init__, defScope st_Front___init__, [], []⟩
theorem sc_Front___init__ : FnScope ["self", "length", "matings"] ["self", "length", "matings"] (defScope st_Front___init__) := ⟨rfl, rfl, rfl, by decide +kernel, rfl, by decide +kernel, by decide +kernel⟩
abbrev st_Front_reach : Stmt := cb 23 6
def d_Front_reach : He.DefD := ⟨("Front", some "reach"), "reach", "Front.reach", defArgs st_Front_reach, defBody st_Front_reach, defScope st_Front_reach, [], []⟩
theorem sc_Front_reach : FnScope ["self", "but", "found", "at", "mating"] ["self", "but"] (defScope st_Front_reach) := ⟨rfl, rfl, rfl, by decide +kernel, rfl, by decide +kernel, by decide +kernel⟩
abbrev st_Front_make_bare : Stmt := cb 23 9
def d_Front_make_bare : He.DefD := ⟨("Front", some "make_bare"), "make_bare", "Front.make_bare", defArgs st_Front_make_bare, defBody st_Front_make_bare, defScope st_Front_make_bare, [], []⟩
theorem sc_Front_make_bare : FnScope ["self", "place"] ["self", "place"] (defScope st_Front_make_bare) := ⟨rfl, rfl, rfl, by decide +kernel, rfl, by decide +kernel, by decide +kernel⟩
abbrev st_Front_put : Stmt := cb 23 7
def d_Front_put : He.DefD := ⟨("Front", some "put"), "put", "Front.put", defArgs st_Front_put, defBody st_Front_put, defScope st_Front_put, [], []⟩
theorem sc_Front_put : FnScope ["self", "at", "mating"] ["self", "at", "mating"] (defScope st_Front_put) := ⟨rfl, rfl, rfl, by decide +kernel, rfl, by decide +kernel, by decide +kernel⟩
abbrev st_Front_make_idle : Stmt := cb 23 10
def d_Front_make_idle : He.DefD := ⟨("Front", some "make_idle"), "make_idle", "Front.make_idle", defArgs st_Front_make_idle, defBody st_Front_make_idle, defScope st_Front_make_idle, [], []⟩
theorem sc_Front_make_idle : FnScope ["self", "at", "one", "other", "many", "turned"] ["self", "at"] (defScope st_Front_make_idle) := ⟨rfl, rfl, rfl, by decide +kernel, rfl, by decide +kernel, by decide +kernel⟩
abbrev st_overlaps : Stmt := top 17
def d_overlaps : He.DefD := ⟨("overlaps", none), "overlaps", "overlaps", defArgs st_overlaps, defBody st_overlaps, defScope st_overlaps, [], []⟩
theorem sc_overlaps : FnScope ["mating"] ["mating"] (defScope st_overlaps) := ⟨rfl, rfl, rfl, by decide +kernel, rfl, by decide +kernel, by decide +kernel⟩
abbrev st_halved : Stmt := top 18
def d_halved : He.DefD := ⟨("halved", none), "halved", "halved", defArgs st_halved, defBody st_halved, defScope st_halved, [], []⟩
theorem sc_halved : FnScope ["mating", "one", "other", "many", "turned", "half"] ["mating"] (defScope st_halved) := ⟨rfl, rfl, rfl, by decide +kernel, rfl, by decide +kernel, by decide +kernel⟩
abbrev st_Front_make_half : Stmt := cb 23 11
def d_Front_make_half : He.DefD := ⟨("Front", some "make_half"), "make_half", "Front.make_half", defArgs st_Front_make_half, defBody st_Front_make_half, defScope st_Front_make_half, [], []⟩
theorem sc_Front_make_half : FnScope ["self", "at", "mating"] ["self", "at"] (defScope st_Front_make_half) := ⟨rfl, rfl, rfl, by decide +kernel, rfl, by decide +kernel, by decide +kernel⟩
abbrev st_leads : Stmt := top 21
def d_leads : He.DefD := ⟨("leads", none), "leads", "leads", defArgs st_leads, defBody st_leads, defScope st_leads, [], []⟩
theorem sc_leads : FnScope ["mating"] ["mating"] (defScope st_leads) := ⟨rfl, rfl, rfl, by decide +kernel, rfl, by decide +kernel, by decide +kernel⟩
abbrev st_led_down : Stmt := top 22
def d_led_down : He.DefD := ⟨("led_down", none), "led_down", "led_down", defArgs st_led_down, defBody st_led_down, defScope st_led_down, [], []⟩
theorem sc_led_down : FnScope ["mating", "at", "many", "one", "other", "wide", "turned"] ["mating", "at", "many"] (defScope st_led_down) := ⟨rfl, rfl, rfl, by decide +kernel, rfl, by decide +kernel, by decide +kernel⟩
abbrev st_Front_make_led : Stmt := cb 23 13
def d_Front_make_led : He.DefD := ⟨("Front", some "make_led"), "make_led", "Front.make_led", defArgs st_Front_make_led, defBody st_Front_make_led, defScope st_Front_make_led, [], []⟩
theorem sc_Front_make_led : FnScope ["self", "at", "side", "by", "mating", "leader", "begins"] ["self", "at", "side", "by"] (defScope st_Front_make_led) := ⟨rfl, rfl, rfl, by decide +kernel, rfl, by decide +kernel, by decide +kernel⟩
abbrev st_Front_make_fold : Stmt := cb 23 14
def d_Front_make_fold : He.DefD := ⟨("Front", some "make_fold"), "make_fold", "Front.make_fold", defArgs st_Front_make_fold, defBody st_Front_make_fold, defScope st_Front_make_fold, [], []⟩
theorem sc_Front_make_fold : FnScope ["self", "at", "place", "one", "other", "many", "turned", "left"] ["self", "at", "place"] (defScope st_Front_make_fold) := ⟨rfl, rfl, rfl, by decide +kernel, rfl, by decide +kernel, by decide +kernel⟩
abbrev st_Front_make : Stmt := cb 23 8
def d_Front_make : He.DefD := ⟨("Front", some "make"), "make", "Front.make", defArgs st_Front_make, defBody st_Front_make, defScope st_Front_make, [], []⟩
theorem sc_Front_make : FnScope ["self", "move", "word", "numbers", "good", "number"] ["self", "move"] (defScope st_Front_make) := ⟨rfl, rfl, rfl, by decide +kernel, rfl, by decide +kernel, by decide +kernel⟩
abbrev st_Front_twin : Stmt := cb 23 15
def d_Front_twin : He.DefD := ⟨("Front", some "twin"), "twin", "Front.twin", defArgs st_Front_twin, defBody st_Front_twin, defScope st_Front_twin, [], []⟩
theorem sc_Front_twin : FnScope ["self", "found"] ["self"] (defScope st_Front_twin) := ⟨rfl, rfl, rfl, by decide +kernel, rfl, by decide +kernel, by decide +kernel⟩
abbrev st_Front_left : Stmt := cb 23 3
def d_Front_left : He.DefD := ⟨("Front", some "left"), "left", "Front.left", defArgs st_Front_left, defBody st_Front_left, defScope st_Front_left, [], []⟩
theorem sc_Front_left : FnScope ["self", "at"] ["self"] (defScope st_Front_left) := ⟨rfl, rfl, rfl, by decide +kernel, rfl, by decide +kernel, by decide +kernel⟩
abbrev st_Front_led_on : Stmt := cb 23 5
def d_Front_led_on : He.DefD := ⟨("Front", some "led_on"), "led_on", "Front.led_on", defArgs st_Front_led_on, defBody st_Front_led_on, defScope st_Front_led_on, [], []⟩
theorem sc_Front_led_on : FnScope ["self"] ["self"] (defScope st_Front_led_on) := ⟨rfl, rfl, rfl, by decide +kernel, rfl, by decide +kernel, by decide +kernel⟩
abbrev st_law_like : Stmt := top 29
def d_law_like : He.DefD := ⟨("_law_like", none), "_law_like", "_law_like", defArgs st_law_like, defBody st_law_like, defScope st_law_like, [], []⟩
theorem sc_law_like : FnScope ["_law_found", "_law_due", "_law_j"] ["_law_found", "_law_due"] (defScope st_law_like) := ⟨rfl, rfl, rfl, by decide +kernel, rfl, by decide +kernel, by decide +kernel⟩
abbrev st_Front_top : Stmt := cb 23 2
def d_Front_top : He.DefD := ⟨("Front", some "top"), "top", "Front.top", defArgs st_Front_top, defBody st_Front_top, defScope st_Front_top, [], []⟩
theorem sc_Front_top : FnScope ["self"] ["self"] (defScope st_Front_top) := ⟨rfl, rfl, rfl, by decide +kernel, rfl, by decide +kernel, by decide +kernel⟩
abbrev st_law_stands : Stmt := top 40
def d_law_stands : He.DefD := ⟨("_law_stands", none), "_law_stands", "_law_stands", defArgs st_law_stands, defBody st_law_stands, defScope st_law_stands, [], []⟩
theorem sc_law_stands : FnScope ["_law_front", "_law_state", "_law_due", "_law_at"] ["_law_front", "_law_state"] (defScope st_law_stands) := ⟨rfl, rfl, rfl, by decide +kernel, rfl, by decide +kernel, by decide +kernel⟩
abbrev st_law : Stmt := top 44
def d_law : He.DefD := ⟨("law", none), "law", "law", defArgs st_law, defBody st_law, defScope st_law, [], []⟩
theorem sc_law : FnScope ["_law_script", "_law_draw", "_law_length", "_law_matings", "_law_moves", "_law_state", "_law_front", "_law_move", "_law_pair", "_law_states", "_law_told", "_law_text", "_law_turn", "_law_which"] ["_law_script"] (defScope st_law) := ⟨rfl, rfl, rfl, by decide +kernel, rfl, by decide +kernel, by decide +kernel⟩
def fn : List He.DefD := [d_law_open, d_law_pull, d_law_mating, d_law_road, d_law_first, d_law_begun, d_law_reach, d_law_less, d_law_any, d_law_shuffled, d_law_wise, d_law_leads, d_law_lead, d_law_made_more, d_law_made, d_law_some_moves, d_need_length, d_is_mating, d_need_matings, d_back, d_normal, d_Front_begin, d_Front___init__, d_Front_reach, d_Front_make_bare, d_Front_put, d_Front_make_idle, d_overlaps, d_halved, d_Front_make_half, d_leads, d_led_down, d_Front_make_led, d_Front_make_fold, d_Front_make, d_Front_twin, d_Front_left, d_Front_led_on, d_law_like, d_Front_top, d_law_stands, d_law]
def fa : List He.Fa := [.free "list", .free "len", .free "min", .free "range", .free "max", .free "sorted", .free "dict", .free "bool", .free "isinstance", .free "any", .int "FAR" 1000000000000000000, .int "MOST" 24, .cls "Front", .noat "Front" "height", .free "enumerate", .free "tuple", .noat "Front" "standing", .noat "Front" "laid", .free "int", .free "str", .free "all", .free "repr", .glo "_law_open", .glo "_law_pull", .glo "_law_mating", .glo "_law_road", .glo "_law_first", .glo "_law_begun", .glo "_law_reach", .glo "_law_less", .glo "_law_any", .glo "_law_shuffled", .glo "_law_wise", .glo "_law_leads", .glo "_law_lead", .glo "_law_made_more", .glo "_law_made", .glo "_law_some_moves", .glo "need_length", .glo "is_mating", .glo "need_matings", .glo "back", .glo "normal", .meth "Front" "begin", .meth "Front" "__init__", .mkr "Front", .glo "Front", .meth "Front" "reach", .meth "Front" "make_bare", .meth "Front" "put", .meth "Front" "make_idle", .glo "overlaps", .glo "halved", .meth "Front" "make_half", .glo "leads", .glo "led_down", .meth "Front" "make_led", .meth "Front" "make_fold", .meth "Front" "make", .meth "Front" "twin", .meth "Front" "left", .meth "Front" "led_on", .glo "_law_like", .meth "Front" "top", .glo "_law_stands", .glo "law"]
section
variable {P : Program} {w : World} {K : Frag} {mg : Str → Option Value} {base : Heap}
def t_law_open_2  (E : FM.DX) : TDS := (dRet (dLstM (dCons (dCB listR (dCons (dSl (dVar 0) dNoP (dPart (dC (.int 63)))) dNil)) (dCons (dC (.int 0)) (dCons (dC (.int 0)) (dCons (dVar 1) dNil))))))
def t_law_open  (E : FM.DX) : TDS := (dSeq (dSet 1 (dC (.int 9134)))
  (dSeq (dFor (dIAny (dSl (dVar 0) dNoP (dPart (dC (.int 63))))) (dgN 2) (dSet 1 (dOp modR (dOp addR (dOp addR (dOp mulR (dVar 1) (dC (.int 69621))) (dOp modR (dVar 2) (dC (.int 2147483587)))) (dC (.int 11))) (dC (.int 2147483629)))))
  (t_law_open_2 E)))
theorem ok_law_open (W : Wd fa fn K mg) {sp : SpD}   (ms : MonoSp sp) (hl : SpLen sp 1) (hm : Meets (t_law_open ) 3 sp) : Cal P w K mg base 1 "_law_open" sp := by
  obtain ⟨fd, G, F⟩ := fn_okD (P := P) (w := w) (base := base) (k := 0) (ps := ["_law_script"]) (d := d_law_open) W 0 rfl sc_law_open hl (τ := t_law_open ) (fun cdv A outer s H E B hr =>
    (dss_cons (ds_set (i := 1) sc_law_open.nd rfl (by first | exact .inl rfl | exact .inr rfl) de_int)
    (dss_cons (ds_for PassesOwn.never rfl (di_any (de_sl (dvar 0) do_none (do_some de_int))) (dg_name sc_law_open.nd rfl (by first | exact .inl rfl | exact .inr rfl)) (dss_one (ds_set (i := 1) sc_law_open.nd rfl (by first | exact .inl rfl | exact .inr rfl) (de_op dop_mod (de_op dop_add (de_op dop_add (de_op dop_mul (dvar 1) de_int) (de_op dop_mod (dvar 2) de_int)) de_int) de_int))))
    (dss_one (ds_ret (de_lstM (da_cons (de_callTy dc_list (by exact rfl) (W.free 0) boot_list (da_cons (de_sl (dvar 0) do_none (do_some de_int)) da_nil)) (da_cons de_int (da_cons de_int (da_cons (dvar 1) da_nil)))))))))) hm
  exact ⟨⟨_, fd, _, G, W.glo 22, F.kp, (FunD.bindsN F fun _ _ _ _ _ _ us hl => match us, hl with | [_], _ => rfl)⟩, ms⟩
def t_law_pull_5  (E : FM.DX) : TDS := (dRet (dOp modR (dOp addR (dOp divR (dOp powR (dOp ixR' (dVar 0) (dC (.int 3))) (dC (.int 3))) (dC (.int 17))) (dOp ixR' (dVar 0) (dC (.int 3)))) (dVar 1)))
def t_law_pull_2  (E : FM.DX) : TDS := (dSeq (dSet 4 (dOp ixR' (dVar 0) (dC (.int 3))))
  (dSeq (dAsg (dOp modR (dOp addR (dOp addR (dOp mulR (dOp modR (dOp mulR (dVar 4) (dVar 4)) (dC (.int 2147483647))) (dC (.int 3))) (dOp mulR (dVar 4) (dC (.int 45991)))) (dC (.int 746773))) (dC (.int 2147483629))) (dgSub (dVar 0) (dC (.int 3))))
  (dSeq (dIfS (dB (dOp ltR (dVar 1) (dOp powR (dC (.int 10)) (dC (.int 8))))) (dRet (dOp modR (dOp addR (dOp divR (dOp ixR' (dVar 0) (dC (.int 3))) (dC (.int 61))) (dOp mulR (dOp modR (dOp ixR' (dVar 0) (dC (.int 3))) (dC (.int 6151))) (dC (.int 29)))) (dVar 1))) dNx)
  (t_law_pull_5 E))))
def t_law_pull_1  (E : FM.DX) : TDS := (dSeq (dIfS (dB (dOp geI (dOp ixR' (dVar 0) (dC (.int 2))) (dVar 1))) (dSeq (dSet 3 (dOp modR (dOp ixR' (dVar 0) (dC (.int 2))) (dVar 1)))
  (dSeq (dAsg (dOp divR (dOp ixR' (dVar 0) (dC (.int 2))) (dVar 1)) (dgSub (dVar 0) (dC (.int 2))))
  (dRet (dVar 3)))) dNx)
  (t_law_pull_2 E))
def t_law_pull  (E : FM.DX) : TDS := (dSeq (dIfS (dAnd (dB (dOp ltR (dOp ixR' (dVar 0) (dC (.int 2))) (dVar 1))) (dB (dOp ltR (dOp ixR' (dVar 0) (dC (.int 1))) (dCB lenR (dCons (dOp ixR' (dVar 0) (dC (.int 0))) dNil))))) (dSeq (dSet 2 (dOp ixR' (dOp ixR' (dVar 0) (dC (.int 0))) (dOp ixR' (dVar 0) (dC (.int 1)))))
  (dSeq (dAsg (dOp addR (dOp ixR' (dVar 0) (dC (.int 1))) (dC (.int 1))) (dgSub (dVar 0) (dC (.int 1))))
  (dSeq (dAsg (dC (.int 0)) (dgSub (dVar 0) (dC (.int 2))))
  (dIfS (dB (dOp geI (dVar 2) (dOp powR (dC (.int 10)) (dC (.int 18))))) (dAsg (dVar 2) (dgSub (dVar 0) (dC (.int 2)))) (dAsg (dOp modR (dOp addR (dOp addR (dOp mulR (dOp ixR' (dVar 0) (dC (.int 3))) (dC (.int 39373))) (dOp mulR (dOp modR (dVar 2) (dC (.int 2147483647))) (dC (.int 48271)))) (dC (.int 31))) (dC (.int 2147483629))) (dgSub (dVar 0) (dC (.int 3)))))))) dNx)
  (t_law_pull_1 E))
theorem ok_law_pull (W : Wd fa fn K mg) {sp : SpD}   (ms : MonoSp sp) (hl : SpLen sp 2) (hm : Meets (t_law_pull ) 5 sp) : Cal P w K mg base 1 "_law_pull" sp := by
  obtain ⟨fd, G, F⟩ := fn_okD (P := P) (w := w) (base := base) (k := 0) (ps := ["_law_draw", "_law_cap"]) (d := d_law_pull) W 1 rfl sc_law_pull hl (τ := t_law_pull ) (fun cdv A outer s H E B hr =>
    (dss_cons (ds_if (DW.dt (dw_and (dt_cmp dop_lt (de_ix (hu_of hr) (dvar 0) de_int) (dvar 1)) (dw_and1 (dt_cmp dop_lt (de_ix (hu_of hr) (dvar 0) de_int) (de_callB (dc_len) (by exact rfl) (W.free 1) boot_len (da_cons (de_ix (hu_of hr) (dvar 0) de_int) da_nil)))))) (dss_cons (ds_set (i := 2) sc_law_pull.nd rfl (by first | exact .inl rfl | exact .inr rfl) (de_ix (hu_of hr) (de_ix (hu_of hr) (dvar 0) de_int) (de_ix (hu_of hr) (dvar 0) de_int)))
    (dss_cons (ds_asg (de_op dop_add (de_ix (hu_of hr) (dvar 0) de_int) de_int) (dg_sub (hu_of hr) (dvar 0) de_int))
    (dss_cons (ds_asg de_int (dg_sub (hu_of hr) (dvar 0) de_int))
    (dss_one (ds_if (dt_cmp dop_ge (dvar 2) (de_op dop_pow de_int de_int)) (dss_one (ds_asg (dvar 2) (dg_sub (hu_of hr) (dvar 0) de_int))) (dss_one (ds_asg (de_op dop_mod (de_op dop_add (de_op dop_add (de_op dop_mul (de_ix (hu_of hr) (dvar 0) de_int) de_int) (de_op dop_mul (de_op dop_mod (dvar 2) de_int) de_int)) de_int) de_int) (dg_sub (hu_of hr) (dvar 0) de_int)))))))) dss_nil)
    (dss_cons (ds_if (dt_cmp dop_ge (de_ix (hu_of hr) (dvar 0) de_int) (dvar 1)) (dss_cons (ds_set (i := 3) sc_law_pull.nd rfl (by first | exact .inl rfl | exact .inr rfl) (de_op dop_mod (de_ix (hu_of hr) (dvar 0) de_int) (dvar 1)))
    (dss_cons (ds_asg (de_op dop_div (de_ix (hu_of hr) (dvar 0) de_int) (dvar 1)) (dg_sub (hu_of hr) (dvar 0) de_int))
    (dss_one (ds_ret (dvar 3))))) dss_nil)
    (dss_cons (ds_set (i := 4) sc_law_pull.nd rfl (by first | exact .inl rfl | exact .inr rfl) (de_ix (hu_of hr) (dvar 0) de_int))
    (dss_cons (ds_asg (de_op dop_mod (de_op dop_add (de_op dop_add (de_op dop_mul (de_op dop_mod (de_op dop_mul (dvar 4) (dvar 4)) de_int) de_int) (de_op dop_mul (dvar 4) de_int)) de_int) de_int) (dg_sub (hu_of hr) (dvar 0) de_int))
    (dss_cons (ds_if (dt_cmp dop_lt (dvar 1) (de_op dop_pow de_int de_int)) (dss_one (ds_ret (de_op dop_mod (de_op dop_add (de_op dop_div (de_ix (hu_of hr) (dvar 0) de_int) de_int) (de_op dop_mul (de_op dop_mod (de_ix (hu_of hr) (dvar 0) de_int) de_int) de_int)) (dvar 1)))) dss_nil)
    (dss_one (ds_ret (de_op dop_mod (de_op dop_add (de_op dop_div (de_op dop_pow (de_ix (hu_of hr) (dvar 0) de_int) de_int) de_int) (de_ix (hu_of hr) (dvar 0) de_int)) (dvar 1)))))))))) hm
  exact ⟨⟨_, fd, _, G, W.glo 23, F.kp, (FunD.bindsN F fun _ _ _ _ _ _ us hl => match us, hl with | [_, _], _ => rfl)⟩, ms⟩
def t_law_mating_2 (sp_law_pull : SpD) (E : FM.DX) : TDS := (dSeq (dSet 3 (dOp addR (dOp subR (dVar 1) (dVar 2)) (dC (.int 1))))
  (dRet (dTup (dCons (dCall sp_law_pull [] E (dCons (dVar 0) (dCons (dVar 3) dNil))) (dCons (dCall sp_law_pull [] E (dCons (dVar 0) (dCons (dVar 3) dNil))) (dCons (dVar 2) (dCons (dCall sp_law_pull [] E (dCons (dVar 0) (dCons (dC (.int 2)) dNil))) dNil)))))))
def t_law_mating (sp_law_pull : SpD) (E : FM.DX) : TDS := (dSeq (dSet 2 (dOp addR (dC (.int 1)) (dCall sp_law_pull [] E (dCons (dVar 0) (dCons (dVar 1) dNil)))))
  (dSeq (dIfS (dB (dOp (eqR false) (dCall sp_law_pull [] E (dCons (dVar 0) (dCons (dC (.int 2)) dNil))) (dC (.int 0)))) (dSet 2 (dOp addR (dC (.int 1)) (dCall sp_law_pull [] E (dCons (dVar 0) (dCons (dCB minA (dCons (dVar 2) (dCons (dC (.int 5)) dNil))) dNil))))) dNx)
  (t_law_mating_2 sp_law_pull E)))
theorem ok_law_mating (W : Wd fa fn K mg) {sp : SpD} {sp_law_pull : SpD} (c_law_pull : Cal P w K mg base 1 "_law_pull" sp_law_pull) (ms : MonoSp sp) (hl : SpLen sp 2) (hm : Meets (t_law_mating sp_law_pull) 4 sp) : Cal P w K mg base 2 "_law_mating" sp := by
  obtain ⟨fd, G, F⟩ := fn_okD (P := P) (w := w) (base := base) (k := 1) (ps := ["_law_draw", "_law_length"]) (d := d_law_mating) W 2 rfl sc_law_mating hl (τ := t_law_mating sp_law_pull) (fun cdv A outer s H E B hr =>
    (dss_cons (ds_set (i := 2) sc_law_mating.nd rfl (by first | exact .inl rfl | exact .inr rfl) (de_op dop_add de_int (de_callC c_law_pull (hr.mono (by decide)) (by exact rfl) (da_cons (dvar 0) (da_cons (dvar 1) da_nil)))))
    (dss_cons (ds_if (dt_cmp (dop_eq hr.units) (de_callC c_law_pull (hr.mono (by decide)) (by exact rfl) (da_cons (dvar 0) (da_cons de_int da_nil))) de_int) (dss_one (ds_set (i := 2) sc_law_mating.nd rfl (by first | exact .inl rfl | exact .inr rfl) (de_op dop_add de_int (de_callC c_law_pull (hr.mono (by decide)) (by exact rfl) (da_cons (dvar 0) (da_cons (de_callB (dc_minA rfl) (by exact rfl) (W.free 2) boot_min (da_cons (dvar 2) (da_cons de_int da_nil))) da_nil)))))) dss_nil)
    (dss_cons (ds_set (i := 3) sc_law_mating.nd rfl (by first | exact .inl rfl | exact .inr rfl) (de_op dop_add (de_op dop_sub (dvar 1) (dvar 2)) de_int))
    (dss_one (ds_ret (de_tup (da_cons (de_callC c_law_pull (hr.mono (by decide)) (by exact rfl) (da_cons (dvar 0) (da_cons (dvar 3) da_nil))) (da_cons (de_callC c_law_pull (hr.mono (by decide)) (by exact rfl) (da_cons (dvar 0) (da_cons (dvar 3) da_nil))) (da_cons (dvar 2) (da_cons (de_callC c_law_pull (hr.mono (by decide)) (by exact rfl) (da_cons (dvar 0) (da_cons de_int da_nil))) da_nil))))))))))) hm
  exact ⟨⟨_, fd, _, G, W.glo 24, F.kp, (FunD.bindsN F fun _ _ _ _ _ _ us hl => match us, hl with | [_, _], _ => rfl)⟩, ms⟩
def t_law_road (sp_law_pull : SpD) (sp_law_mating : SpD) (E : FM.DX) : TDS := (dSeq (dSet 3 (dOp addR (dC (.int 1)) (dCall sp_law_pull [] E (dCons (dVar 0) (dCons (dVar 1) dNil)))))
  (dRet (dTup (dCons (dVar 3) (dCons (dLc (dIRng1 (dCons (dCall sp_law_pull [] E (dCons (dVar 0) (dCons (dOp addR (dVar 2) (dC (.int 1))) dNil))) dNil)) (dgN 4) dYes (dCall sp_law_mating [] E (dCons (dVar 0) (dCons (dVar 3) dNil))) [4]) dNil)))))
theorem ok_law_road (W : Wd fa fn K mg) {sp : SpD} {sp_law_pull : SpD} {sp_law_mating : SpD} (c_law_pull : Cal P w K mg base 1 "_law_pull" sp_law_pull) (c_law_mating : Cal P w K mg base 2 "_law_mating" sp_law_mating) (ms : MonoSp sp) (hl : SpLen sp 3) (hm : Meets (t_law_road sp_law_pull sp_law_mating) 5 sp) : Cal P w K mg base 3 "_law_road" sp := by
  obtain ⟨fd, G, F⟩ := fn_okD (P := P) (w := w) (base := base) (k := 2) (ps := ["_law_draw", "_law_longest", "_law_cap"]) (d := d_law_road) W 3 rfl sc_law_road hl (τ := t_law_road sp_law_pull sp_law_mating) (fun cdv A outer s H E B hr =>
    (dss_cons (ds_set (i := 3) sc_law_road.nd rfl (by first | exact .inl rfl | exact .inr rfl) (de_op dop_add de_int (de_callC c_law_pull (hr.mono (by decide)) (by exact rfl) (da_cons (dvar 0) (da_cons (dvar 1) da_nil)))))
    (dss_one (ds_ret (de_tup (da_cons (dvar 3) (da_cons (de_lc rfl sc_law_road.nd (di_range1 (by exact rfl) (W.free 3) (da_cons (de_callC c_law_pull (hr.mono (by decide)) (by exact rfl) (da_cons (dvar 0) (da_cons (de_op dop_add (dvar 2) de_int) da_nil))) da_nil)) (blkOk_by (own := [(("_law_k" : Str), 4)]) rfl) (fun s H C cl fp => (dgv_name sc_law_road.nd rfl (by first | exact .inl rfl | exact .inr rfl) (by decide))) (fun s H C cl fp => dts_nil) (fun s H C cl fp => (de_callC c_law_mating (hr.mono (by decide)) (by exact rfl) (da_cons (dvar 0) (da_cons (dvar 3) da_nil))))) da_nil))))))) hm
  exact ⟨⟨_, fd, _, G, W.glo 25, F.kp, (FunD.bindsN F fun _ _ _ _ _ _ us hl => match us, hl with | [_, _, _], _ => rfl)⟩, ms⟩
def t_law_first  (E : FM.DX) : TDS := (dSeq (dAsg (dVar 0) (dgTup 4 (dgCons (dgN 1) (dgCons (dgN 2) (dgCons (dgN 3) (dgCons (dgN 4) dgNil))))))
  (dRet (dTup (dCons (dCB minA (dCons (dVar 1) (dCons (dVar 2) dNil))) (dCons (dCB maxA (dCons (dVar 1) (dCons (dVar 2) dNil))) (dCons (dVar 3) (dCons (dVar 4) dNil)))))))
theorem ok_law_first (W : Wd fa fn K mg) {sp : SpD}   (ms : MonoSp sp) (hl : SpLen sp 1) (hm : Meets (t_law_first ) 5 sp) : Cal P w K mg base 1 "_law_first" sp := by
  obtain ⟨fd, G, F⟩ := fn_okD (P := P) (w := w) (base := base) (k := 0) (ps := ["_law_mating_here"]) (d := d_law_first) W 4 rfl sc_law_first hl (τ := t_law_first ) (fun cdv A outer s H E B hr =>
    (dss_cons (ds_asg (dvar 0) (dg_tup rfl (dgs_cons (dg_name sc_law_first.nd rfl (by first | exact .inl rfl | exact .inr rfl)) (dgs_cons (dg_name sc_law_first.nd rfl (by first | exact .inl rfl | exact .inr rfl)) (dgs_cons (dg_name sc_law_first.nd rfl (by first | exact .inl rfl | exact .inr rfl)) (dgs_cons (dg_name sc_law_first.nd rfl (by first | exact .inl rfl | exact .inr rfl)) dgs_nil))))))
    (dss_one (ds_ret (de_tup (da_cons (de_callB (dc_minA rfl) (by exact rfl) (W.free 2) boot_min (da_cons (dvar 1) (da_cons (dvar 2) da_nil))) (da_cons (de_callB (dc_maxA rfl) (by exact rfl) (W.free 4) boot_max (da_cons (dvar 1) (da_cons (dvar 2) da_nil))) (da_cons (dvar 3) (da_cons (dvar 4) da_nil))))))))) hm
  exact ⟨⟨_, fd, _, G, W.glo 26, F.kp, (FunD.bindsN F fun _ _ _ _ _ _ us hl => match us, hl with | [_], _ => rfl)⟩, ms⟩
def t_law_begun_2 (sp_law_first : SpD) (E : FM.DX) : TDS := (dRet (dTup (dCons (dVar 0) (dCons (dFrz (dVar 2)) (dCons (dLst dNil) dNil)))))
def t_law_begun (sp_law_first : SpD) (E : FM.DX) : TDS := (dSeq (dSet 2 dNewDic)
  (dSeq (dFor (dIRng1 (dCons (dCB lenR (dCons (dVar 1) dNil)) dNil)) (dgN 3) (dAsg (dCall sp_law_first [] E (dCons (dOp ixR' (dVar 1) (dVar 3)) dNil)) (dgSub (dVar 2) (dVar 3))))
  (t_law_begun_2 sp_law_first E)))
theorem ok_law_begun (W : Wd fa fn K mg) {sp : SpD} {sp_law_first : SpD} (c_law_first : Cal P w K mg base 1 "_law_first" sp_law_first) (ms : MonoSp sp) (hl : SpLen sp 2) (hm : Meets (t_law_begun sp_law_first) 4 sp) : Cal P w K mg base 2 "_law_begun" sp := by
  obtain ⟨fd, G, F⟩ := fn_okD (P := P) (w := w) (base := base) (k := 1) (ps := ["_law_length", "_law_matings"]) (d := d_law_begun) W 5 rfl sc_law_begun hl (τ := t_law_begun sp_law_first) (fun cdv A outer s H E B hr =>
    (dss_cons (ds_set (i := 2) sc_law_begun.nd rfl (by first | exact .inl rfl | exact .inr rfl) de_newDic)
    (dss_cons (ds_for PassesOwn.never rfl (di_range1 (by exact rfl) (W.free 3) (da_cons (de_callB (dc_len) (by exact rfl) (W.free 1) boot_len (da_cons (dvar 1) da_nil)) da_nil)) (dg_name sc_law_begun.nd rfl (by first | exact .inl rfl | exact .inr rfl)) (dss_one (ds_asg (de_callC c_law_first (hr.mono (by decide)) (by exact rfl) (da_cons (de_ix (hu_of hr) (dvar 1) (dvar 3)) da_nil)) (dg_sub (hu_of hr) (dvar 2) (dvar 3)))))
    (dss_one (ds_ret (de_tup (da_cons (dvar 0) (da_cons (de_frz (dvar 2)) (da_cons (de_lst da_nil) da_nil))))))))) hm
  exact ⟨⟨_, fd, _, G, W.glo 27, F.kp, (FunD.bindsN F fun _ _ _ _ _ _ us hl => match us, hl with | [_, _], _ => rfl)⟩, ms⟩
def t_law_reach  (E : FM.DX) : TDS := (dRet (dCB maxA (dCons (dOp addR (dLst (dCons (dC (.int 0)) dNil)) (dLc (dIAny (dSortIt (dOp ixR' (dVar 0) (dC (.int 1))))) (dgTup 2 (dgCons (dgN 2) (dgCons (dgN 3) dgNil))) (dB (dOp (eqR true) (dVar 2) (dVar 1))) (dOp addR (dOp ixR' (dVar 3) (dC (.int 1))) (dOp ixR' (dVar 3) (dC (.int 2)))) [2, 3])) dNil)))
theorem ok_law_reach (W : Wd fa fn K mg) {sp : SpD}   (ms : MonoSp sp) (hl : SpLen sp 2) (hm : Meets (t_law_reach ) 4 sp) : Cal P w K mg base 1 "_law_reach" sp := by
  obtain ⟨fd, G, F⟩ := fn_okD (P := P) (w := w) (base := base) (k := 0) (ps := ["_law_state", "_law_but"]) (d := d_law_reach) W 6 rfl sc_law_reach hl (τ := t_law_reach ) (fun cdv A outer s H E B hr =>
    (dss_one (ds_ret (de_callB (dc_maxA rfl) (by exact rfl) (W.free 4) boot_max (da_cons (de_op dop_add (de_lst (da_cons de_int da_nil)) (de_lc rfl sc_law_reach.nd (di_any (de_sortIt rfl hr.units (by exact rfl) (W.free 5) (de_ix (hu_of hr) (dvar 0) de_int))) (blkOk_by (own := [(("_law_at" : Str), 2), (("_law_row" : Str), 3)]) rfl) (fun s H C cl fp => (dgv_tup rfl (dgsv_cons (dgv_name sc_law_reach.nd rfl (by first | exact .inl rfl | exact .inr rfl) (by decide)) (dgsv_cons (dgv_name sc_law_reach.nd rfl (by first | exact .inl rfl | exact .inr rfl) (by decide)) dgsv_nil)))) (fun s H C cl fp => (dts_one (dt_cmp (dop_ne hr.units) (dvar 2) (dvar 1)))) (fun s H C cl fp => (de_op dop_add (de_ix (hu_of hr) (dvar 3) de_int) (de_ix (hu_of hr) (dvar 3) de_int))))) da_nil))))) hm
  exact ⟨⟨_, fd, _, G, W.glo 28, F.kp, (FunD.bindsN F fun _ _ _ _ _ _ us hl => match us, hl with | [_, _], _ => rfl)⟩, ms⟩
def t_law_less (sp_law_pull : SpD) (E : FM.DX) : TDS := (dRet (dIf (dB (dOp ltR (dVar 1) (dC (.int 60)))) (dCall sp_law_pull [] E (dCons (dVar 0) (dCons (dVar 1) dNil))) (dC (.int 0))))
theorem ok_law_less (W : Wd fa fn K mg) {sp : SpD} {sp_law_pull : SpD} (c_law_pull : Cal P w K mg base 1 "_law_pull" sp_law_pull) (ms : MonoSp sp) (hl : SpLen sp 2) (hm : Meets (t_law_less sp_law_pull) 2 sp) : Cal P w K mg base 2 "_law_less" sp := by
  obtain ⟨fd, G, F⟩ := fn_okD (P := P) (w := w) (base := base) (k := 1) (ps := ["_law_draw", "_law_room"]) (d := d_law_less) W 7 rfl sc_law_less hl (τ := t_law_less sp_law_pull) (fun cdv A outer s H E B hr =>
    (dss_one (ds_ret (de_if (dt_cmp dop_lt (dvar 1) de_int) (de_callC c_law_pull (hr.mono (by decide)) (by exact rfl) (da_cons (dvar 0) (da_cons (dvar 1) da_nil))) de_int)))) hm
  exact ⟨⟨_, fd, _, G, W.glo 29, F.kp, (FunD.bindsN F fun _ _ _ _ _ _ us hl => match us, hl with | [_, _], _ => rfl)⟩, ms⟩
def t_law_any (sp_law_pull : SpD) (E : FM.DX) : TDS := (dRet (dOp ixR' (dVar 1) (dCall sp_law_pull [] E (dCons (dVar 0) (dCons (dCB lenR (dCons (dVar 1) dNil)) dNil)))))
theorem ok_law_any (W : Wd fa fn K mg) {sp : SpD} {sp_law_pull : SpD} (c_law_pull : Cal P w K mg base 1 "_law_pull" sp_law_pull) (ms : MonoSp sp) (hl : SpLen sp 2) (hm : Meets (t_law_any sp_law_pull) 2 sp) : Cal P w K mg base 2 "_law_any" sp := by
  obtain ⟨fd, G, F⟩ := fn_okD (P := P) (w := w) (base := base) (k := 1) (ps := ["_law_draw", "_law_some"]) (d := d_law_any) W 8 rfl sc_law_any hl (τ := t_law_any sp_law_pull) (fun cdv A outer s H E B hr =>
    (dss_one (ds_ret (de_ix (hu_of hr) (dvar 1) (de_callC c_law_pull (hr.mono (by decide)) (by exact rfl) (da_cons (dvar 0) (da_cons (de_callB (dc_len) (by exact rfl) (W.free 1) boot_len (da_cons (dvar 1) da_nil)) da_nil))))))) hm
  exact ⟨⟨_, fd, _, G, W.glo 30, F.kp, (FunD.bindsN F fun _ _ _ _ _ _ us hl => match us, hl with | [_, _], _ => rfl)⟩, ms⟩
def t_law_shuffled_3 (sp_law_pull : SpD) (E : FM.DX) : TDS := (dRet (dFrz (dVar 3)))
def t_law_shuffled (sp_law_pull : SpD) (E : FM.DX) : TDS := (dSeq (dSet 2 (dCB listRM (dCons (dVar 1) dNil)))
  (dSeq (dSet 3 (dLstM dNil))
  (dSeq (dFor (dIRng1 (dCons (dCB lenR (dCons (dVar 1) dNil)) dNil)) (dgN 4) (dDrop (dM "list" appendR (dVar 3) (dCons (dM "list" popR (dVar 2) (dCons (dCall sp_law_pull [] E (dCons (dVar 0) (dCons (dCB lenR (dCons (dVar 2) dNil)) dNil))) dNil)) dNil))))
  (t_law_shuffled_3 sp_law_pull E))))
theorem ok_law_shuffled (W : Wd fa fn K mg) {sp : SpD} {sp_law_pull : SpD} (c_law_pull : Cal P w K mg base 1 "_law_pull" sp_law_pull) (ms : MonoSp sp) (hl : SpLen sp 2) (hm : Meets (t_law_shuffled sp_law_pull) 5 sp) : Cal P w K mg base 2 "_law_shuffled" sp := by
  obtain ⟨fd, G, F⟩ := fn_okD (P := P) (w := w) (base := base) (k := 1) (ps := ["_law_draw", "_law_some"]) (d := d_law_shuffled) W 9 rfl sc_law_shuffled hl (τ := t_law_shuffled sp_law_pull) (fun cdv A outer s H E B hr =>
    (dss_cons (ds_set (i := 2) sc_law_shuffled.nd rfl (by first | exact .inl rfl | exact .inr rfl) (de_callTy dc_listM (by exact rfl) (W.free 0) boot_list (da_cons (dvar 1) da_nil)))
    (dss_cons (ds_set (i := 3) sc_law_shuffled.nd rfl (by first | exact .inl rfl | exact .inr rfl) (de_lstM da_nil))
    (dss_cons (ds_for PassesOwn.never rfl (di_range1 (by exact rfl) (W.free 3) (da_cons (de_callB (dc_len) (by exact rfl) (W.free 1) boot_len (da_cons (dvar 1) da_nil)) da_nil)) (dg_name sc_law_shuffled.nd rfl (by first | exact .inl rfl | exact .inr rfl)) (dss_one (ds_expr (de_m PySem.F.plainAttrs_list PySem.F.slot_list_append PySem.F.type_list_append dm_append (dvar 3) (da_cons (de_m PySem.F.plainAttrs_list PySem.F.slot_list_pop PySem.F.type_list_pop dm_pop (dvar 2) (da_cons (de_callC c_law_pull (hr.mono (by decide)) (by exact rfl) (da_cons (dvar 0) (da_cons (de_callB (dc_len) (by exact rfl) (W.free 1) boot_len (da_cons (dvar 2) da_nil)) da_nil))) da_nil)) da_nil)))))
    (dss_one (ds_ret (de_frz (dvar 3)))))))) hm
  exact ⟨⟨_, fd, _, G, W.glo 31, F.kp, (FunD.bindsN F fun _ _ _ _ _ _ us hl => match us, hl with | [_, _], _ => rfl)⟩, ms⟩
def t_law_wise_8 (sp_law_reach : SpD) (sp_law_less : SpD) (sp_law_any : SpD) (sp_law_shuffled : SpD) (E : FM.DX) : TDS := (dSeq (dSet 14 (dCB maxA (dCons (dOp ixR' (dOp ixR' (dVar 3) (dVar 13)) (dC (.int 1))) (dCons (dCall sp_law_reach [] E (dCons (dVar 1) (dCons (dVar 13) dNil))) dNil))))
  (dRet (dTup (dCons (dC (.str "fold")) (dCons (dVar 13) (dCons (dOp addR (dVar 14) (dCall sp_law_less [] E (dCons (dVar 0) (dCons (dOp subR (dVar 2) (dVar 14)) dNil)))) dNil))))))
def t_law_wise_4 (sp_law_reach : SpD) (sp_law_less : SpD) (sp_law_any : SpD) (sp_law_shuffled : SpD) (E : FM.DX) : TDS := (dSeq (dSet 11 (dLc (dIAny (dCB sortR (dCons (dVar 3) dNil))) (dgN 5) (dB (dOp (eqR false) (dOp addR (dOp ixR' (dOp ixR' (dVar 3) (dVar 5)) (dC (.int 1))) (dOp ixR' (dOp ixR' (dVar 3) (dVar 5)) (dC (.int 2)))) (dVar 2))) (dVar 5) [5]))
  (dSeq (dSet 12 (dCB maxA (dCons (dLc (dIAny (dVar 11)) (dgN 5) dYes (dOp ixR' (dOp ixR' (dVar 3) (dVar 5)) (dC (.int 2))) [5]) dNil)))
  (dSeq (dSet 13 (dCall sp_law_any [] E (dCons (dVar 0) (dCons (dLc (dIAny (dVar 11)) (dgN 5) (dB (dOp (eqR false) (dOp ixR' (dOp ixR' (dVar 3) (dVar 5)) (dC (.int 2))) (dVar 12))) (dVar 5) [5]) dNil))))
  (dSeq (dFor (dIAny (dCall sp_law_shuffled [] E (dCons (dVar 0) (dCons (dCB sortR (dCons (dVar 3) dNil)) dNil)))) (dgN 5) (dIfS (dAnd (dB (dOp (eqR true) (dVar 5) (dVar 13))) (dB (dOp geI (dOp ixR' (dOp ixR' (dVar 3) (dVar 5)) (dC (.int 1))) (dOp ixR' (dOp ixR' (dVar 3) (dVar 13)) (dC (.int 1)))))) (dRet (dTup (dCons (dC (.str "lead")) (dCons (dVar 5) (dCons (dC (.int 1)) (dCons (dVar 13) dNil)))))) dNx))
  (t_law_wise_8 sp_law_reach sp_law_less sp_law_any sp_law_shuffled E)))))
def t_law_wise_2 (sp_law_reach : SpD) (sp_law_less : SpD) (sp_law_any : SpD) (sp_law_shuffled : SpD) (E : FM.DX) : TDS := (dSeq (dSet 10 (dCall sp_law_reach [] E (dCons (dVar 1) (dCons (dC .non) dNil))))
  (dSeq (dIfS (dB (dOp ltR (dVar 10) (dVar 2))) (dRet (dTup (dCons (dC (.str "bare")) (dCons (dOp addR (dVar 10) (dCall sp_law_less [] E (dCons (dVar 0) (dCons (dOp subR (dVar 2) (dVar 10)) dNil)))) dNil)))) dNx)
  (t_law_wise_4 sp_law_reach sp_law_less sp_law_any sp_law_shuffled E)))
def t_law_wise (sp_law_reach : SpD) (sp_law_less : SpD) (sp_law_any : SpD) (sp_law_shuffled : SpD) (E : FM.DX) : TDS := (dSeq (dAsg (dVar 1) (dgTup 3 (dgCons (dgN 2) (dgCons (dgN 3) (dgCons (dgN 4) dgNil)))))
  (dSeq (dFor (dIAny (dCB sortR (dCons (dVar 3) dNil))) (dgN 5) (dSeq (dAsg (dOp ixR' (dVar 3) (dVar 5)) (dgTup 4 (dgCons (dgN 6) (dgCons (dgN 7) (dgCons (dgN 8) (dgCons (dgN 9) dgNil))))))
  (dSeq (dIfS (dAnd (dB (dOp (eqR false) (dVar 9) (dC (.int 0)))) (dB (dOp (eqR false) (dVar 6) (dVar 7)))) (dRet (dTup (dCons (dC (.str "idle")) (dCons (dVar 5) dNil)))) dNx)
  (dIfS (dAnd (dB (dOp (eqR false) (dVar 9) (dC (.int 1)))) (dB (dOp ltR (dVar 7) (dOp addR (dVar 6) (dVar 8))))) (dRet (dTup (dCons (dC (.str "halve")) (dCons (dVar 5) dNil)))) dNx))))
  (t_law_wise_2 sp_law_reach sp_law_less sp_law_any sp_law_shuffled E)))
theorem ok_law_wise (W : Wd fa fn K mg) {sp : SpD} {sp_law_reach : SpD} {sp_law_less : SpD} {sp_law_any : SpD} {sp_law_shuffled : SpD} (c_law_reach : Cal P w K mg base 1 "_law_reach" sp_law_reach) (c_law_less : Cal P w K mg base 2 "_law_less" sp_law_less) (c_law_any : Cal P w K mg base 2 "_law_any" sp_law_any) (c_law_shuffled : Cal P w K mg base 2 "_law_shuffled" sp_law_shuffled) (ms : MonoSp sp) (hl : SpLen sp 2) (hm : Meets (t_law_wise sp_law_reach sp_law_less sp_law_any sp_law_shuffled) 15 sp) : Cal P w K mg base 3 "_law_wise" sp := by
  obtain ⟨fd, G, F⟩ := fn_okD (P := P) (w := w) (base := base) (k := 2) (ps := ["_law_draw", "_law_state"]) (d := d_law_wise) W 10 rfl sc_law_wise hl (τ := t_law_wise sp_law_reach sp_law_less sp_law_any sp_law_shuffled) (fun cdv A outer s H E B hr =>
    (dss_cons (ds_asg (dvar 1) (dg_tup rfl (dgs_cons (dg_name sc_law_wise.nd rfl (by first | exact .inl rfl | exact .inr rfl)) (dgs_cons (dg_name sc_law_wise.nd rfl (by first | exact .inl rfl | exact .inr rfl)) (dgs_cons (dg_name sc_law_wise.nd rfl (by first | exact .inl rfl | exact .inr rfl)) dgs_nil)))))
    (dss_cons (ds_for PassesOwn.never rfl (di_any (de_callB (dc_sorted rfl) (by exact rfl) (W.free 5) boot_sorted (da_cons (dvar 3) da_nil))) (dg_name sc_law_wise.nd rfl (by first | exact .inl rfl | exact .inr rfl)) (dss_cons (ds_asg (de_ix (hu_of hr) (dvar 3) (dvar 5)) (dg_tup rfl (dgs_cons (dg_name sc_law_wise.nd rfl (by first | exact .inl rfl | exact .inr rfl)) (dgs_cons (dg_name sc_law_wise.nd rfl (by first | exact .inl rfl | exact .inr rfl)) (dgs_cons (dg_name sc_law_wise.nd rfl (by first | exact .inl rfl | exact .inr rfl)) (dgs_cons (dg_name sc_law_wise.nd rfl (by first | exact .inl rfl | exact .inr rfl)) dgs_nil))))))
    (dss_cons (ds_if (DW.dt (dw_and (dt_cmp (dop_eq hr.units) (dvar 9) de_int) (dw_and1 (dt_cmp (dop_eq hr.units) (dvar 6) (dvar 7))))) (dss_one (ds_ret (de_tup (da_cons de_str (da_cons (dvar 5) da_nil))))) dss_nil)
    (dss_one (ds_if (DW.dt (dw_and (dt_cmp (dop_eq hr.units) (dvar 9) de_int) (dw_and1 (dt_cmp dop_lt (dvar 7) (de_op dop_add (dvar 6) (dvar 8)))))) (dss_one (ds_ret (de_tup (da_cons de_str (da_cons (dvar 5) da_nil))))) dss_nil)))))
    (dss_cons (ds_set (i := 10) sc_law_wise.nd rfl (by first | exact .inl rfl | exact .inr rfl) (de_callC c_law_reach (hr.mono (by decide)) (by exact rfl) (da_cons (dvar 1) (da_cons de_non da_nil))))
    (dss_cons (ds_if (dt_cmp dop_lt (dvar 10) (dvar 2)) (dss_one (ds_ret (de_tup (da_cons de_str (da_cons (de_op dop_add (dvar 10) (de_callC c_law_less (hr.mono (by decide)) (by exact rfl) (da_cons (dvar 0) (da_cons (de_op dop_sub (dvar 2) (dvar 10)) da_nil)))) da_nil))))) dss_nil)
    (dss_cons (ds_setLcG fin_F mono_finF rfl sc_law_wise.nd rfl rfl rfl (di_any (de_callB (dc_sorted rfl) (by exact rfl) (W.free 5) boot_sorted (da_cons (dvar 3) da_nil))) (blkOk_by (own := [(("_law_at" : Str), 5)]) rfl) (fun s H C cl fp => (dgv_name sc_law_wise.nd rfl (by first | exact .inl rfl | exact .inr rfl) (by decide))) (fun s H C cl fp => (dts_one (dt_cmp (dop_eq hr.units) (de_op dop_add (de_ix (hu_of hr) (de_ix (hu_of hr) (dvar 3) (dvar 5)) de_int) (de_ix (hu_of hr) (de_ix (hu_of hr) (dvar 3) (dvar 5)) de_int)) (dvar 2)))) (fun s H C cl fp => (dvar 5)))
    (dss_cons (ds_set (i := 12) sc_law_wise.nd rfl (by first | exact .inl rfl | exact .inr rfl) (de_callB (dc_maxA rfl) (by exact rfl) (W.free 4) boot_max (da_cons (de_lc rfl sc_law_wise.nd (di_any (dvar 11)) (blkOk_by (own := [(("_law_at" : Str), 5)]) rfl) (fun s H C cl fp => (dgv_name sc_law_wise.nd rfl (by first | exact .inl rfl | exact .inr rfl) (by decide))) (fun s H C cl fp => dts_nil) (fun s H C cl fp => (de_ix (hu_of hr) (de_ix (hu_of hr) (dvar 3) (dvar 5)) de_int))) da_nil)))
    (dss_cons (ds_set (i := 13) sc_law_wise.nd rfl (by first | exact .inl rfl | exact .inr rfl) (de_callC c_law_any (hr.mono (by decide)) (by exact rfl) (da_cons (dvar 0) (da_cons (de_lc rfl sc_law_wise.nd (di_any (dvar 11)) (blkOk_by (own := [(("_law_at" : Str), 5)]) rfl) (fun s H C cl fp => (dgv_name sc_law_wise.nd rfl (by first | exact .inl rfl | exact .inr rfl) (by decide))) (fun s H C cl fp => (dts_one (dt_cmp (dop_eq hr.units) (de_ix (hu_of hr) (de_ix (hu_of hr) (dvar 3) (dvar 5)) de_int) (dvar 12)))) (fun s H C cl fp => (dvar 5))) da_nil))))
    (dss_cons (ds_for PassesOwn.never rfl (di_any (de_callC c_law_shuffled (hr.mono (by decide)) (by exact rfl) (da_cons (dvar 0) (da_cons (de_callB (dc_sorted rfl) (by exact rfl) (W.free 5) boot_sorted (da_cons (dvar 3) da_nil)) da_nil)))) (dg_name sc_law_wise.nd rfl (by first | exact .inl rfl | exact .inr rfl)) (dss_one (ds_if (DW.dt (dw_and (dt_cmp (dop_ne hr.units) (dvar 5) (dvar 13)) (dw_and1 (dt_cmp dop_ge (de_ix (hu_of hr) (de_ix (hu_of hr) (dvar 3) (dvar 5)) de_int) (de_ix (hu_of hr) (de_ix (hu_of hr) (dvar 3) (dvar 13)) de_int))))) (dss_one (ds_ret (de_tup (da_cons de_str (da_cons (dvar 5) (da_cons de_int (da_cons (dvar 13) da_nil))))))) dss_nil)))
    (dss_cons (ds_set (i := 14) sc_law_wise.nd rfl (by first | exact .inl rfl | exact .inr rfl) (de_callB (dc_maxA rfl) (by exact rfl) (W.free 4) boot_max (da_cons (de_ix (hu_of hr) (de_ix (hu_of hr) (dvar 3) (dvar 13)) de_int) (da_cons (de_callC c_law_reach (hr.mono (by decide)) (by exact rfl) (da_cons (dvar 1) (da_cons (dvar 13) da_nil))) da_nil))))
    (dss_one (ds_ret (de_tup (da_cons de_str (da_cons (dvar 13) (da_cons (de_op dop_add (dvar 14) (de_callC c_law_less (hr.mono (by decide)) (by exact rfl) (da_cons (dvar 0) (da_cons (de_op dop_sub (dvar 2) (dvar 14)) da_nil)))) da_nil)))))))))))))))) hm
  exact ⟨⟨_, fd, _, G, W.glo 32, F.kp, (FunD.bindsN F fun _ _ _ _ _ _ us hl => match us, hl with | [_, _], _ => rfl)⟩, ms⟩
def t_law_leads  (E : FM.DX) : TDS := (dSeq (dAsg (dVar 0) (dgTup 4 (dgCons (dgN 1) (dgCons (dgN 2) (dgCons (dgN 3) (dgCons (dgN 4) dgNil))))))
  (dRet (dIf (dB (dOp (eqR false) (dVar 4) (dC (.int 1)))) (dOp leI (dOp addR (dVar 1) (dVar 3)) (dVar 2)) (dOp ltR (dVar 1) (dVar 2)))))
theorem ok_law_leads (W : Wd fa fn K mg) {sp : SpD}   (ms : MonoSp sp) (hl : SpLen sp 1) (hm : Meets (t_law_leads ) 5 sp) : Cal P w K mg base 1 "_law_leads" sp := by
  obtain ⟨fd, G, F⟩ := fn_okD (P := P) (w := w) (base := base) (k := 0) (ps := ["_law_mating_here"]) (d := d_law_leads) W 11 rfl sc_law_leads hl (τ := t_law_leads ) (fun cdv A outer s H E B hr =>
    (dss_cons (ds_asg (dvar 0) (dg_tup rfl (dgs_cons (dg_name sc_law_leads.nd rfl (by first | exact .inl rfl | exact .inr rfl)) (dgs_cons (dg_name sc_law_leads.nd rfl (by first | exact .inl rfl | exact .inr rfl)) (dgs_cons (dg_name sc_law_leads.nd rfl (by first | exact .inl rfl | exact .inr rfl)) (dgs_cons (dg_name sc_law_leads.nd rfl (by first | exact .inl rfl | exact .inr rfl)) dgs_nil))))))
    (dss_one (ds_ret (de_if (dt_cmp (dop_eq hr.units) (dvar 4) de_int) (de_cmp dop_le (de_op dop_add (dvar 1) (dvar 3)) (dvar 2)) (de_cmp dop_lt (dvar 1) (dvar 2))))))) hm
  exact ⟨⟨_, fd, _, G, W.glo 33, F.kp, (FunD.bindsN F fun _ _ _ _ _ _ us hl => match us, hl with | [_], _ => rfl)⟩, ms⟩
def t_law_lead_3 (sp_law_first : SpD) (E : FM.DX) : TDS := (dSeq (dSet 4 (dIf (dB (dOp (eqR false) (dVar 1) (dC (.int 0)))) (dLst (dCons (dVar 3) (dCons (dOp ixR' (dVar 0) (dC (.int 1))) dNil))) (dLst (dCons (dOp ixR' (dVar 0) (dC (.int 0))) (dCons (dVar 3) dNil)))))
  (dRet (dCall sp_law_first [] E (dCons (dTup (dCons (dOp ixR' (dVar 4) (dC (.int 0))) (dCons (dOp ixR' (dVar 4) (dC (.int 1))) (dCons (dOp ixR' (dVar 0) (dC (.int 2))) (dCons (dOp modR (dOp addR (dOp ixR' (dVar 0) (dC (.int 3))) (dOp ixR' (dVar 2) (dC (.int 3)))) (dC (.int 2))) dNil))))) dNil))))
def t_law_lead_2 (sp_law_first : SpD) (E : FM.DX) : TDS := (dSeq (dIfS (dB (dOp (eqR false) (dOp ixR' (dVar 2) (dC (.int 3))) (dC (.int 1)))) (dSet 3 (dOp subR (dOp subR (dOp addR (dOp addR (dOp ixR' (dVar 2) (dC (.int 0))) (dOp ixR' (dVar 2) (dC (.int 1)))) (dOp ixR' (dVar 2) (dC (.int 2)))) (dVar 3)) (dOp ixR' (dVar 0) (dC (.int 2))))) (dSet 3 (dOp addR (dOp ixR' (dVar 2) (dC (.int 0))) (dOp modR (dOp subR (dVar 3) (dOp ixR' (dVar 2) (dC (.int 0)))) (dOp subR (dOp ixR' (dVar 2) (dC (.int 1))) (dOp ixR' (dVar 2) (dC (.int 0))))))))
  (t_law_lead_3 sp_law_first E))
def t_law_lead (sp_law_first : SpD) (E : FM.DX) : TDS := (dSeq (dSet 3 (dOp ixR' (dVar 0) (dVar 1)))
  (dSeq (dIfS (dOr (dB (dOp ltR (dVar 3) (dOp ixR' (dVar 2) (dC (.int 1))))) (dB (dOp gtR (dOp addR (dVar 3) (dOp ixR' (dVar 0) (dC (.int 2)))) (dOp addR (dOp ixR' (dVar 2) (dC (.int 1))) (dOp ixR' (dVar 2) (dC (.int 2))))))) (dRet (dC .non)) dNx)
  (t_law_lead_2 sp_law_first E)))
theorem ok_law_lead (W : Wd fa fn K mg) {sp : SpD} {sp_law_first : SpD} (c_law_first : Cal P w K mg base 1 "_law_first" sp_law_first) (ms : MonoSp sp) (hl : SpLen sp 3) (hm : Meets (t_law_lead sp_law_first) 5 sp) : Cal P w K mg base 2 "_law_lead" sp := by
  obtain ⟨fd, G, F⟩ := fn_okD (P := P) (w := w) (base := base) (k := 1) (ps := ["_law_row", "_law_side", "_law_way"]) (d := d_law_lead) W 12 rfl sc_law_lead hl (τ := t_law_lead sp_law_first) (fun cdv A outer s H E B hr =>
    (dss_cons (ds_set (i := 3) sc_law_lead.nd rfl (by first | exact .inl rfl | exact .inr rfl) (de_ix (hu_of hr) (dvar 0) (dvar 1)))
    (dss_cons (ds_if (DW.dt (dw_or (dt_cmp dop_lt (dvar 3) (de_ix (hu_of hr) (dvar 2) de_int)) (dw_or1 (dt_cmp dop_gt (de_op dop_add (dvar 3) (de_ix (hu_of hr) (dvar 0) de_int)) (de_op dop_add (de_ix (hu_of hr) (dvar 2) de_int) (de_ix (hu_of hr) (dvar 2) de_int)))))) (dss_one (ds_ret de_non)) dss_nil)
    (dss_cons (ds_if (dt_cmp (dop_eq hr.units) (de_ix (hu_of hr) (dvar 2) de_int) de_int) (dss_one (ds_set (i := 3) sc_law_lead.nd rfl (by first | exact .inl rfl | exact .inr rfl) (de_op dop_sub (de_op dop_sub (de_op dop_add (de_op dop_add (de_ix (hu_of hr) (dvar 2) de_int) (de_ix (hu_of hr) (dvar 2) de_int)) (de_ix (hu_of hr) (dvar 2) de_int)) (dvar 3)) (de_ix (hu_of hr) (dvar 0) de_int)))) (dss_one (ds_set (i := 3) sc_law_lead.nd rfl (by first | exact .inl rfl | exact .inr rfl) (de_op dop_add (de_ix (hu_of hr) (dvar 2) de_int) (de_op dop_mod (de_op dop_sub (dvar 3) (de_ix (hu_of hr) (dvar 2) de_int)) (de_op dop_sub (de_ix (hu_of hr) (dvar 2) de_int) (de_ix (hu_of hr) (dvar 2) de_int)))))))
    (dss_cons (ds_set (i := 4) sc_law_lead.nd rfl (by first | exact .inl rfl | exact .inr rfl) (de_if (dt_cmp (dop_eq hr.units) (dvar 1) de_int) (de_lst (da_cons (dvar 3) (da_cons (de_ix (hu_of hr) (dvar 0) de_int) da_nil))) (de_lst (da_cons (de_ix (hu_of hr) (dvar 0) de_int) (da_cons (dvar 3) da_nil)))))
    (dss_one (ds_ret (de_callC c_law_first (hr.mono (by decide)) (by exact rfl) (da_cons (de_tup (da_cons (de_ix (hu_of hr) (dvar 4) de_int) (da_cons (de_ix (hu_of hr) (dvar 4) de_int) (da_cons (de_ix (hu_of hr) (dvar 0) de_int) (da_cons (de_op dop_mod (de_op dop_add (de_ix (hu_of hr) (dvar 0) de_int) (de_ix (hu_of hr) (dvar 2) de_int)) de_int) da_nil))))) da_nil))))))))) hm
  exact ⟨⟨_, fd, _, G, W.glo 34, F.kp, (FunD.bindsN F fun _ _ _ _ _ _ us hl => match us, hl with | [_, _, _], _ => rfl)⟩, ms⟩
def t_law_made_more_9 (sp_law_leads : SpD) (sp_law_lead : SpD) (sp_law_reach : SpD) (E : FM.DX) : TDS := (dRet (dTup (dCons (dOp ixR' (dVar 2) (dC (.int 2))) (dCons (dFrz (dVar 1)) (dCons (dOp addR (dVar 5) (dLst (dCons (dTup (dCons (dC (.str "fold")) (dCons (dOp ixR' (dVar 2) (dC (.int 2))) (dCons (dVar 3) (dCons (dVar 6) (dCons (dIf (dB (dOp (eqR false) (dVar 9) (dC (.int 1)))) (dC (.int 0)) (dOp subR (dVar 7) (dVar 6))) (dCons (dVar 9) dNil))))))) dNil))) dNil)))))
def t_law_made_more_6 (sp_law_leads : SpD) (sp_law_lead : SpD) (sp_law_reach : SpD) (E : FM.DX) : TDS := (dSeq (dSet 11 (dOp subR (dOp ixR' (dVar 2) (dC (.int 2))) (dVar 7)))
  (dSeq (dAsg (dTup (dCons (dIf (dB (dOp (eqR false) (dVar 9) (dC (.int 1)))) (dOp subR (dOp addR (dVar 6) (dVar 8)) (dVar 11)) (dVar 6)) (dCons (dVar 7) (dCons (dVar 11) (dCons (dVar 9) dNil))))) (dgSub (dVar 1) (dOp ixR' (dVar 2) (dC (.int 1)))))
  (dSeq (dIfS (dB (dOp (eqR false) (dVar 11) (dC (.int 0)))) (dDrop (dM "dict" dpopR (dVar 1) (dCons (dOp ixR' (dVar 2) (dC (.int 1))) dNil))) dNx)
  (t_law_made_more_9 sp_law_leads sp_law_lead sp_law_reach E))))
def t_law_made_more_5 (sp_law_leads : SpD) (sp_law_lead : SpD) (sp_law_reach : SpD) (E : FM.DX) : TDS := (dSeq (dIfS (dB (dOp gtR (dCall sp_law_reach [] E (dCons (dVar 0) (dCons (dOp ixR' (dVar 2) (dC (.int 1))) dNil))) (dOp ixR' (dVar 2) (dC (.int 2))))) (dRet (dC .non)) dNx)
  (t_law_made_more_6 sp_law_leads sp_law_lead sp_law_reach E))
def t_law_made_more_4 (sp_law_leads : SpD) (sp_law_lead : SpD) (sp_law_reach : SpD) (E : FM.DX) : TDS := (dSeq (dIfS (dOr (dNot (dB (dCall sp_law_leads [] E (dCons (dOp ixR' (dVar 1) (dOp ixR' (dVar 2) (dC (.int 1)))) dNil)))) (dOr (dB (dOp (eqR true) (dOp addR (dVar 7) (dVar 8)) (dVar 3))) (dNot (dB (dChain leI ltR (dVar 7) (dOp ixR' (dVar 2) (dC (.int 2))) (dVar 3)))))) (dRet (dC .non)) dNx)
  (t_law_made_more_5 sp_law_leads sp_law_lead sp_law_reach E))
def t_law_made_more_3 (sp_law_leads : SpD) (sp_law_lead : SpD) (sp_law_reach : SpD) (E : FM.DX) : TDS := (dSeq (dIfS (dB (dOp (eqR false) (dOp ixR' (dVar 2) (dC (.int 0))) (dC (.str "lead")))) (dSeq (dIfS (dOr (dB (dOp (inR true) (dOp ixR' (dVar 2) (dC (.int 2))) (dTup (dCons (dC (.int 0)) (dCons (dC (.int 1)) dNil))))) (dOr (dB (dOp (inR true) (dOp ixR' (dVar 2) (dC (.int 3))) (dVar 1))) (dOr (dB (dOp (eqR false) (dOp ixR' (dVar 2) (dC (.int 3))) (dOp ixR' (dVar 2) (dC (.int 1))))) (dNot (dB (dCall sp_law_leads [] E (dCons (dOp ixR' (dVar 1) (dOp ixR' (dVar 2) (dC (.int 3)))) dNil))))))) (dRet (dC .non)) dNx)
  (dSeq (dAsg (dCall sp_law_lead [] E (dCons (dOp ixR' (dVar 1) (dOp ixR' (dVar 2) (dC (.int 1)))) (dCons (dOp ixR' (dVar 2) (dC (.int 2))) (dCons (dOp ixR' (dVar 1) (dOp ixR' (dVar 2) (dC (.int 3)))) dNil)))) (dgSub (dVar 1) (dOp ixR' (dVar 2) (dC (.int 1)))))
  (dRet (dIf (dB (dOp (isR false) (dOp ixR' (dVar 1) (dOp ixR' (dVar 2) (dC (.int 1)))) (dC .non))) (dC .non) (dTup (dCons (dVar 3) (dCons (dFrz (dVar 1)) (dCons (dVar 5) dNil)))))))) dNx)
  (t_law_made_more_4 sp_law_leads sp_law_lead sp_law_reach E))
def t_law_made_more (sp_law_leads : SpD) (sp_law_lead : SpD) (sp_law_reach : SpD) (E : FM.DX) : TDS := (dSeq (dAsg (dVar 0) (dgTup 3 (dgCons (dgN 3) (dgCons (dgN 4) (dgCons (dgN 5) dgNil)))))
  (dSeq (dAsg (dOp ixR' (dVar 1) (dOp ixR' (dVar 2) (dC (.int 1)))) (dgTup 4 (dgCons (dgN 6) (dgCons (dgN 7) (dgCons (dgN 8) (dgCons (dgN 9) dgNil))))))
  (dSeq (dIfS (dB (dOp (eqR false) (dOp ixR' (dVar 2) (dC (.int 0))) (dC (.str "merge")))) (dSeq (dSet 10 (dC .non))
  (dSeq (dIfS (dAnd (dB (dOp (eqR true) (dOp ixR' (dVar 2) (dC (.int 2))) (dOp ixR' (dVar 2) (dC (.int 1))))) (dB (dOp (inR false) (dOp ixR' (dVar 2) (dC (.int 2))) (dVar 1)))) dNev dNx)
  (dSeq (dIfS (dB (dOp (isR false) (dVar 10) (dC .non))) (dRet (dC .non)) dNx)
  (dSeq (dAsg (dVar 10) (dgSub (dVar 1) (dOp ixR' (dVar 2) (dC (.int 1)))))
  (dSeq (dDrop (dM "dict" dpopR (dVar 1) (dCons (dOp ixR' (dVar 2) (dC (.int 2))) dNil)))
  (dRet (dTup (dCons (dVar 3) (dCons (dFrz (dVar 1)) (dCons (dVar 5) dNil)))))))))) dNx)
  (t_law_made_more_3 sp_law_leads sp_law_lead sp_law_reach E))))
theorem ok_law_made_more (W : Wd fa fn K mg) {sp : SpD} {sp_law_leads : SpD} {sp_law_lead : SpD} {sp_law_reach : SpD} (c_law_leads : Cal P w K mg base 1 "_law_leads" sp_law_leads) (c_law_lead : Cal P w K mg base 2 "_law_lead" sp_law_lead) (c_law_reach : Cal P w K mg base 1 "_law_reach" sp_law_reach) (ms : MonoSp sp) (hl : SpLen sp 3) (hm : Meets (t_law_made_more sp_law_leads sp_law_lead sp_law_reach) 12 sp) : Cal P w K mg base 3 "_law_made_more" sp := by
  obtain ⟨fd, G, F⟩ := fn_okD (P := P) (w := w) (base := base) (k := 2) (ps := ["_law_state", "_law_rows", "_law_move"]) (d := d_law_made_more) W 13 rfl sc_law_made_more hl (τ := t_law_made_more sp_law_leads sp_law_lead sp_law_reach) (fun cdv A outer s H E B hr =>
    (dss_cons (ds_asg (dvar 0) (dg_tup rfl (dgs_cons (dg_name sc_law_made_more.nd rfl (by first | exact .inl rfl | exact .inr rfl)) (dgs_cons (dg_name sc_law_made_more.nd rfl (by first | exact .inl rfl | exact .inr rfl)) (dgs_cons (dg_name sc_law_made_more.nd rfl (by first | exact .inl rfl | exact .inr rfl)) dgs_nil)))))
    (dss_cons (ds_asg (de_ix (hu_of hr) (dvar 1) (de_ix (hu_of hr) (dvar 2) de_int)) (dg_tup rfl (dgs_cons (dg_name sc_law_made_more.nd rfl (by first | exact .inl rfl | exact .inr rfl)) (dgs_cons (dg_name sc_law_made_more.nd rfl (by first | exact .inl rfl | exact .inr rfl)) (dgs_cons (dg_name sc_law_made_more.nd rfl (by first | exact .inl rfl | exact .inr rfl)) (dgs_cons (dg_name sc_law_made_more.nd rfl (by first | exact .inl rfl | exact .inr rfl)) dgs_nil))))))
    (dss_cons (ds_if (dt_cmp (dop_eq hr.units) (de_ix (hu_of hr) (dvar 2) de_int) de_str) (dss_cons (ds_set (i := 10) sc_law_made_more.nd rfl (by first | exact .inl rfl | exact .inr rfl) de_non)
    (dss_cons (ds_if (DW.dt (dw_and (dt_cmp (dop_ne hr.units) (de_ix (hu_of hr) (dvar 2) de_int) (de_ix (hu_of hr) (dvar 2) de_int)) (dw_and1 (dt_cmp (dop_in (hu_of hr)) (de_ix (hu_of hr) (dvar 2) de_int) (dvar 1))))) (dss_one ds_never) dss_nil)
    (dss_cons (ds_if (dt_cmp dop_is (dvar 10) de_non) (dss_one (ds_ret de_non)) dss_nil)
    (dss_cons (ds_asg (dvar 10) (dg_sub (hu_of hr) (dvar 1) (de_ix (hu_of hr) (dvar 2) de_int)))
    (dss_cons (ds_expr (de_m PySem.F.plainAttrs_dict PySem.F.slot_dict_pop PySem.F.type_dict_pop dm_dpop (dvar 1) (da_cons (de_ix (hu_of hr) (dvar 2) de_int) da_nil)))
    (dss_one (ds_ret (de_tup (da_cons (dvar 3) (da_cons (de_frz (dvar 1)) (da_cons (dvar 5) da_nil))))))))))) dss_nil)
    (dss_cons (ds_if (dt_cmp (dop_eq hr.units) (de_ix (hu_of hr) (dvar 2) de_int) de_str) (dss_cons (ds_if (DW.dt (dw_or (dt_cmp (dop_notin (hu_of hr)) (de_ix (hu_of hr) (dvar 2) de_int) (de_tup (da_cons de_int (da_cons de_int da_nil)))) (dw_or (dt_cmp (dop_notin (hu_of hr)) (de_ix (hu_of hr) (dvar 2) de_int) (dvar 1)) (dw_or (dt_cmp (dop_eq hr.units) (de_ix (hu_of hr) (dvar 2) de_int) (de_ix (hu_of hr) (dvar 2) de_int)) (dw_or1 (dt_not (dt_val (de_callC c_law_leads (hr.mono (by decide)) (by exact rfl) (da_cons (de_ix (hu_of hr) (dvar 1) (de_ix (hu_of hr) (dvar 2) de_int)) da_nil))))))))) (dss_one (ds_ret de_non)) dss_nil)
    (dss_cons (ds_asg (de_callC c_law_lead (hr.mono (by decide)) (by exact rfl) (da_cons (de_ix (hu_of hr) (dvar 1) (de_ix (hu_of hr) (dvar 2) de_int)) (da_cons (de_ix (hu_of hr) (dvar 2) de_int) (da_cons (de_ix (hu_of hr) (dvar 1) (de_ix (hu_of hr) (dvar 2) de_int)) da_nil)))) (dg_sub (hu_of hr) (dvar 1) (de_ix (hu_of hr) (dvar 2) de_int)))
    (dss_one (ds_ret (de_if (dt_cmp dop_is (de_ix (hu_of hr) (dvar 1) (de_ix (hu_of hr) (dvar 2) de_int)) de_non) de_non (de_tup (da_cons (dvar 3) (da_cons (de_frz (dvar 1)) (da_cons (dvar 5) da_nil))))))))) dss_nil)
    (dss_cons (ds_if (DW.dt (dw_or (dt_not (dt_val (de_callC c_law_leads (hr.mono (by decide)) (by exact rfl) (da_cons (de_ix (hu_of hr) (dvar 1) (de_ix (hu_of hr) (dvar 2) de_int)) da_nil)))) (dw_or (dt_cmp (dop_ne hr.units) (de_op dop_add (dvar 7) (dvar 8)) (dvar 3)) (dw_or1 (dt_not (dt_chain dop_le dop_lt (dvar 7) (de_ix (hu_of hr) (dvar 2) de_int) (dvar 3))))))) (dss_one (ds_ret de_non)) dss_nil)
    (dss_cons (ds_if (dt_cmp dop_gt (de_callC c_law_reach (hr.mono (by decide)) (by exact rfl) (da_cons (dvar 0) (da_cons (de_ix (hu_of hr) (dvar 2) de_int) da_nil))) (de_ix (hu_of hr) (dvar 2) de_int)) (dss_one (ds_ret de_non)) dss_nil)
    (dss_cons (ds_set (i := 11) sc_law_made_more.nd rfl (by first | exact .inl rfl | exact .inr rfl) (de_op dop_sub (de_ix (hu_of hr) (dvar 2) de_int) (dvar 7)))
    (dss_cons (ds_asg (de_tup (da_cons (de_if (dt_cmp (dop_eq hr.units) (dvar 9) de_int) (de_op dop_sub (de_op dop_add (dvar 6) (dvar 8)) (dvar 11)) (dvar 6)) (da_cons (dvar 7) (da_cons (dvar 11) (da_cons (dvar 9) da_nil))))) (dg_sub (hu_of hr) (dvar 1) (de_ix (hu_of hr) (dvar 2) de_int)))
    (dss_cons (ds_if (dt_cmp (dop_eq hr.units) (dvar 11) de_int) (dss_one (ds_expr (de_m PySem.F.plainAttrs_dict PySem.F.slot_dict_pop PySem.F.type_dict_pop dm_dpop (dvar 1) (da_cons (de_ix (hu_of hr) (dvar 2) de_int) da_nil)))) dss_nil)
    (dss_one (ds_ret (de_tup (da_cons (de_ix (hu_of hr) (dvar 2) de_int) (da_cons (de_frz (dvar 1)) (da_cons (de_op dop_add (dvar 5) (de_lst (da_cons (de_tup (da_cons de_str (da_cons (de_ix (hu_of hr) (dvar 2) de_int) (da_cons (dvar 3) (da_cons (dvar 6) (da_cons (de_if (dt_cmp (dop_eq hr.units) (dvar 9) de_int) de_int (de_op dop_sub (dvar 7) (dvar 6))) (da_cons (dvar 9) da_nil))))))) da_nil))) da_nil)))))))))))))))) hm
  exact ⟨⟨_, fd, _, G, W.glo 35, F.kp, (FunD.bindsN F fun _ _ _ _ _ _ us hl => match us, hl with | [_, _, _], _ => rfl)⟩, ms⟩
def t_law_made_10 (sp_law_reach : SpD) (sp_law_made_more : SpD) (E : FM.DX) : TDS := (dRet (dVar 9))
def t_law_made_9 (sp_law_reach : SpD) (sp_law_made_more : SpD) (E : FM.DX) : TDS := (dSeq (dIfS (dB (dOp (inR false) (dOp ixR' (dVar 1) (dC (.int 0))) (dTup (dCons (dC (.str "merge")) (dCons (dC (.str "lead")) (dCons (dC (.str "fold")) dNil)))))) (dSet 9 (dCall sp_law_made_more [] E (dCons (dVar 0) (dCons (dVar 3) (dCons (dVar 1) dNil))))) dNx)
  (t_law_made_10 sp_law_reach sp_law_made_more E))
def t_law_made_8 (sp_law_reach : SpD) (sp_law_made_more : SpD) (E : FM.DX) : TDS := (dSeq (dIfS (dAnd (dB (dOp (eqR false) (dOp ixR' (dVar 1) (dC (.int 0))) (dC (.str "halve")))) (dAnd (dB (dOp (eqR false) (dVar 8) (dC (.int 1)))) (dB (dOp ltR (dVar 6) (dOp addR (dVar 5) (dVar 7)))))) (dSeq (dSet 10 (dOp divR (dOp subR (dOp addR (dVar 6) (dVar 7)) (dVar 5)) (dC (.int 2))))
  (dSeq (dAsg (dTup (dCons (dVar 5) (dCons (dOp subR (dOp addR (dVar 6) (dVar 7)) (dVar 10)) (dCons (dVar 10) (dCons (dC (.int 1)) dNil))))) (dgSub (dVar 3) (dOp ixR' (dVar 1) (dC (.int 1)))))
  (dSeq (dIfS (dB (dOp (eqR false) (dVar 10) (dC (.int 0)))) (dDrop (dM "dict" dpopR (dVar 3) (dCons (dOp ixR' (dVar 1) (dC (.int 1))) dNil))) dNx)
  (dSet 9 (dTup (dCons (dVar 2) (dCons (dFrz (dVar 3)) (dCons (dVar 4) dNil)))))))) dNx)
  (t_law_made_9 sp_law_reach sp_law_made_more E))
def t_law_made_5 (sp_law_reach : SpD) (sp_law_made_more : SpD) (E : FM.DX) : TDS := (dSeq (dAsg (dOp ixR' (dVar 3) (dOp ixR' (dVar 1) (dC (.int 1)))) (dgTup 4 (dgCons (dgN 5) (dgCons (dgN 6) (dgCons (dgN 7) (dgCons (dgN 8) dgNil))))))
  (dSeq (dSet 9 (dC .non))
  (dSeq (dIfS (dAnd (dB (dOp (eqR false) (dOp ixR' (dVar 1) (dC (.int 0))) (dC (.str "idle")))) (dAnd (dB (dOp (eqR false) (dVar 8) (dC (.int 0)))) (dB (dOp (eqR false) (dVar 5) (dVar 6))))) (dSeq (dDrop (dM "dict" dpopR (dVar 3) (dCons (dOp ixR' (dVar 1) (dC (.int 1))) dNil)))
  (dSet 9 (dTup (dCons (dVar 2) (dCons (dFrz (dVar 3)) (dCons (dVar 4) dNil)))))) dNx)
  (t_law_made_8 sp_law_reach sp_law_made_more E))))
def t_law_made_4 (sp_law_reach : SpD) (sp_law_made_more : SpD) (E : FM.DX) : TDS := (dSeq (dIfS (dB (dOp (inR true) (dOp ixR' (dVar 1) (dC (.int 1))) (dVar 3))) (dRet (dC .non)) dNx)
  (t_law_made_5 sp_law_reach sp_law_made_more E))
def t_law_made_3 (sp_law_reach : SpD) (sp_law_made_more : SpD) (E : FM.DX) : TDS := (dSeq (dIfS (dB (dOp (eqR false) (dOp ixR' (dVar 1) (dC (.int 0))) (dC (.str "bare")))) (dSeq (dIfS (dNot (dB (dChain leI ltR (dCall sp_law_reach [] E (dCons (dVar 0) (dCons (dC .non) dNil))) (dOp ixR' (dVar 1) (dC (.int 1))) (dVar 2)))) (dRet (dC .non)) dNx)
  (dRet (dTup (dCons (dOp ixR' (dVar 1) (dC (.int 1))) (dCons (dFrz (dVar 3)) (dCons (dOp addR (dVar 4) (dLst (dCons (dTup (dCons (dC (.str "bare")) (dCons (dOp ixR' (dVar 1) (dC (.int 1))) (dCons (dVar 2) dNil)))) dNil))) dNil)))))) dNx)
  (t_law_made_4 sp_law_reach sp_law_made_more E))
def t_law_made (sp_law_reach : SpD) (sp_law_made_more : SpD) (E : FM.DX) : TDS := (dSeq (dAsg (dVar 0) (dgTup 3 (dgCons (dgN 2) (dgCons (dgN 3) (dgCons (dgN 4) dgNil)))))
  (dSeq (dSet 3 (dCB dictRM (dCons (dVar 3) dNil)))
  (dSeq (dIfS (dB (dCB anyR (dCons (dLc (dIAny (dSl (dVar 1) (dPart (dC (.int 1))) dNoP)) (dgN 11) dYes (dCB isiR (dCons (dVar 11) (dCons (dC (.ty "bool")) dNil))) [11]) dNil))) (dRet (dC .non)) dNx)
  (t_law_made_3 sp_law_reach sp_law_made_more E))))
theorem ok_law_made (W : Wd fa fn K mg) {sp : SpD} {sp_law_reach : SpD} {sp_law_made_more : SpD} (c_law_reach : Cal P w K mg base 1 "_law_reach" sp_law_reach) (c_law_made_more : Cal P w K mg base 3 "_law_made_more" sp_law_made_more) (ms : MonoSp sp) (hl : SpLen sp 2) (hm : Meets (t_law_made sp_law_reach sp_law_made_more) 12 sp) : Cal P w K mg base 4 "_law_made" sp := by
  obtain ⟨fd, G, F⟩ := fn_okD (P := P) (w := w) (base := base) (k := 3) (ps := ["_law_state", "_law_move"]) (d := d_law_made) W 14 rfl sc_law_made hl (τ := t_law_made sp_law_reach sp_law_made_more) (fun cdv A outer s H E B hr =>
    (dss_cons (ds_asg (dvar 0) (dg_tup rfl (dgs_cons (dg_name sc_law_made.nd rfl (by first | exact .inl rfl | exact .inr rfl)) (dgs_cons (dg_name sc_law_made.nd rfl (by first | exact .inl rfl | exact .inr rfl)) (dgs_cons (dg_name sc_law_made.nd rfl (by first | exact .inl rfl | exact .inr rfl)) dgs_nil)))))
    (dss_cons (ds_set (i := 3) sc_law_made.nd rfl (by first | exact .inl rfl | exact .inr rfl) (de_callTy dc_dict (by exact rfl) (W.free 6) boot_dict (da_cons (dvar 3) da_nil)))
    (dss_cons (ds_if (dt_val (de_callB (dc_any rfl) (by exact rfl) (W.free 9) boot_any (da_cons (de_lc rfl sc_law_made.nd (di_any (de_sl (dvar 1) (do_some de_int) do_none)) (blkOk_by (own := [(("_law_number" : Str), 11)]) rfl) (fun s H C cl fp => (dgv_name sc_law_made.nd rfl (by first | exact .inl rfl | exact .inr rfl) (by decide))) (fun s H C cl fp => dts_nil) (fun s H C cl fp => (de_callB (dc_isi) (by exact rfl) (W.free 8) boot_isinstance (da_cons (dvar 11) (da_cons (de_ty (by exact rfl) (W.free 7) boot_bool) da_nil))))) da_nil))) (dss_one (ds_ret de_non)) dss_nil)
    (dss_cons (ds_if (dt_cmp (dop_eq hr.units) (de_ix (hu_of hr) (dvar 1) de_int) de_str) (dss_cons (ds_if (dt_not (dt_chain dop_le dop_lt (de_callC c_law_reach (hr.mono (by decide)) (by exact rfl) (da_cons (dvar 0) (da_cons de_non da_nil))) (de_ix (hu_of hr) (dvar 1) de_int) (dvar 2))) (dss_one (ds_ret de_non)) dss_nil)
    (dss_one (ds_ret (de_tup (da_cons (de_ix (hu_of hr) (dvar 1) de_int) (da_cons (de_frz (dvar 3)) (da_cons (de_op dop_add (dvar 4) (de_lst (da_cons (de_tup (da_cons de_str (da_cons (de_ix (hu_of hr) (dvar 1) de_int) (da_cons (dvar 2) da_nil)))) da_nil))) da_nil))))))) dss_nil)
    (dss_cons (ds_if (dt_cmp (dop_notin (hu_of hr)) (de_ix (hu_of hr) (dvar 1) de_int) (dvar 3)) (dss_one (ds_ret de_non)) dss_nil)
    (dss_cons (ds_asg (de_ix (hu_of hr) (dvar 3) (de_ix (hu_of hr) (dvar 1) de_int)) (dg_tup rfl (dgs_cons (dg_name sc_law_made.nd rfl (by first | exact .inl rfl | exact .inr rfl)) (dgs_cons (dg_name sc_law_made.nd rfl (by first | exact .inl rfl | exact .inr rfl)) (dgs_cons (dg_name sc_law_made.nd rfl (by first | exact .inl rfl | exact .inr rfl)) (dgs_cons (dg_name sc_law_made.nd rfl (by first | exact .inl rfl | exact .inr rfl)) dgs_nil))))))
    (dss_cons (ds_set (i := 9) sc_law_made.nd rfl (by first | exact .inl rfl | exact .inr rfl) de_non)
    (dss_cons (ds_if (DW.dt (dw_and (dt_cmp (dop_eq hr.units) (de_ix (hu_of hr) (dvar 1) de_int) de_str) (dw_and (dt_cmp (dop_eq hr.units) (dvar 8) de_int) (dw_and1 (dt_cmp (dop_eq hr.units) (dvar 5) (dvar 6)))))) (dss_cons (ds_expr (de_m PySem.F.plainAttrs_dict PySem.F.slot_dict_pop PySem.F.type_dict_pop dm_dpop (dvar 3) (da_cons (de_ix (hu_of hr) (dvar 1) de_int) da_nil)))
    (dss_one (ds_set (i := 9) sc_law_made.nd rfl (by first | exact .inl rfl | exact .inr rfl) (de_tup (da_cons (dvar 2) (da_cons (de_frz (dvar 3)) (da_cons (dvar 4) da_nil))))))) dss_nil)
    (dss_cons (ds_if (DW.dt (dw_and (dt_cmp (dop_eq hr.units) (de_ix (hu_of hr) (dvar 1) de_int) de_str) (dw_and (dt_cmp (dop_eq hr.units) (dvar 8) de_int) (dw_and1 (dt_cmp dop_lt (dvar 6) (de_op dop_add (dvar 5) (dvar 7))))))) (dss_cons (ds_set (i := 10) sc_law_made.nd rfl (by first | exact .inl rfl | exact .inr rfl) (de_op dop_div (de_op dop_sub (de_op dop_add (dvar 6) (dvar 7)) (dvar 5)) de_int))
    (dss_cons (ds_asg (de_tup (da_cons (dvar 5) (da_cons (de_op dop_sub (de_op dop_add (dvar 6) (dvar 7)) (dvar 10)) (da_cons (dvar 10) (da_cons de_int da_nil))))) (dg_sub (hu_of hr) (dvar 3) (de_ix (hu_of hr) (dvar 1) de_int)))
    (dss_cons (ds_if (dt_cmp (dop_eq hr.units) (dvar 10) de_int) (dss_one (ds_expr (de_m PySem.F.plainAttrs_dict PySem.F.slot_dict_pop PySem.F.type_dict_pop dm_dpop (dvar 3) (da_cons (de_ix (hu_of hr) (dvar 1) de_int) da_nil)))) dss_nil)
    (dss_one (ds_set (i := 9) sc_law_made.nd rfl (by first | exact .inl rfl | exact .inr rfl) (de_tup (da_cons (dvar 2) (da_cons (de_frz (dvar 3)) (da_cons (dvar 4) da_nil))))))))) dss_nil)
    (dss_cons (ds_if (dt_cmp (dop_in (hu_of hr)) (de_ix (hu_of hr) (dvar 1) de_int) (de_tup (da_cons de_str (da_cons de_str (da_cons de_str da_nil))))) (dss_one (ds_set (i := 9) sc_law_made.nd rfl (by first | exact .inl rfl | exact .inr rfl) (de_callC c_law_made_more (hr.mono (by decide)) (by exact rfl) (da_cons (dvar 0) (da_cons (dvar 3) (da_cons (dvar 1) da_nil)))))) dss_nil)
    (dss_one (ds_ret (dvar 9)))))))))))))) hm
  exact ⟨⟨_, fd, _, G, W.glo 36, F.kp, (FunD.bindsN F fun _ _ _ _ _ _ us hl => match us, hl with | [_, _], _ => rfl)⟩, ms⟩
def t_law_some_moves_3 (sp_law_begun : SpD) (sp_law_wise : SpD) (sp_law_made : SpD) (E : FM.DX) : TDS := (dRet (dTup (dCons (dFrz (dVar 5)) (dCons (dVar 4) dNil))))
def t_law_some_moves (sp_law_begun : SpD) (sp_law_wise : SpD) (sp_law_made : SpD) (E : FM.DX) : TDS := (dSeq (dSet 4 (dCall sp_law_begun [] E (dCons (dVar 1) (dCons (dVar 2) dNil))))
  (dSeq (dSet 5 (dLstM dNil))
  (dSeq (dFor (dIRng1 (dCons (dVar 3) dNil)) (dgN 6) (dIfS (dB (dOp gtR (dOp ixR' (dVar 4) (dC (.int 0))) (dC (.int 0)))) (dSeq (dDrop (dM "list" appendR (dVar 5) (dCons (dCall sp_law_wise [] E (dCons (dVar 0) (dCons (dVar 4) dNil))) dNil)))
  (dSet 4 (dCall sp_law_made [] E (dCons (dVar 4) (dCons (dOp ixR' (dVar 5) (dUn negR (dC (.int 1)))) dNil))))) dNx))
  (t_law_some_moves_3 sp_law_begun sp_law_wise sp_law_made E))))
theorem ok_law_some_moves (W : Wd fa fn K mg) {sp : SpD} {sp_law_begun : SpD} {sp_law_wise : SpD} {sp_law_made : SpD} (c_law_begun : Cal P w K mg base 2 "_law_begun" sp_law_begun) (c_law_wise : Cal P w K mg base 3 "_law_wise" sp_law_wise) (c_law_made : Cal P w K mg base 4 "_law_made" sp_law_made) (ms : MonoSp sp) (hl : SpLen sp 4) (hm : Meets (t_law_some_moves sp_law_begun sp_law_wise sp_law_made) 7 sp) : Cal P w K mg base 5 "_law_some_moves" sp := by
  obtain ⟨fd, G, F⟩ := fn_okD (P := P) (w := w) (base := base) (k := 4) (ps := ["_law_draw", "_law_length", "_law_matings", "_law_cap"]) (d := d_law_some_moves) W 15 rfl sc_law_some_moves hl (τ := t_law_some_moves sp_law_begun sp_law_wise sp_law_made) (fun cdv A outer s H E B hr =>
    (dss_cons (ds_set (i := 4) sc_law_some_moves.nd rfl (by first | exact .inl rfl | exact .inr rfl) (de_callC c_law_begun (hr.mono (by decide)) (by exact rfl) (da_cons (dvar 1) (da_cons (dvar 2) da_nil))))
    (dss_cons (ds_set (i := 5) sc_law_some_moves.nd rfl (by first | exact .inl rfl | exact .inr rfl) (de_lstM da_nil))
    (dss_cons (ds_for PassesOwn.never rfl (di_range1 (by exact rfl) (W.free 3) (da_cons (dvar 3) da_nil)) (dg_name sc_law_some_moves.nd rfl (by first | exact .inl rfl | exact .inr rfl)) (dss_one (ds_if (dt_cmp dop_gt (de_ix (hu_of hr) (dvar 4) de_int) de_int) (dss_cons (ds_expr (de_m PySem.F.plainAttrs_list PySem.F.slot_list_append PySem.F.type_list_append dm_append (dvar 5) (da_cons (de_callC c_law_wise (hr.mono (by decide)) (by exact rfl) (da_cons (dvar 0) (da_cons (dvar 4) da_nil))) da_nil)))
    (dss_one (ds_set (i := 4) sc_law_some_moves.nd rfl (by first | exact .inl rfl | exact .inr rfl) (de_callC c_law_made (hr.mono (by decide)) (by exact rfl) (da_cons (dvar 4) (da_cons (de_ix (hu_of hr) (dvar 5) (de_neg de_int)) da_nil)))))) dss_nil)))
    (dss_one (ds_ret (de_tup (da_cons (de_frz (dvar 5)) (da_cons (dvar 4) da_nil))))))))) hm
  exact ⟨⟨_, fd, _, G, W.glo 37, F.kp, (FunD.bindsN F fun _ _ _ _ _ _ us hl => match us, hl with | [_, _, _, _], _ => rfl)⟩, ms⟩
def t_need_length  (E : FM.DX) : TDS := (dIfS (dOr (dB (dCB isiR (dCons (dVar 0) (dCons (dC (.ty "bool")) dNil)))) (dNot (dB (dChain leI leI (dC (.int 0)) (dVar 0) (dC (.int 1000000000000000000)))))) dNev dNx)
theorem ok_need_length (W : Wd fa fn K mg) {sp : SpD}   (ms : MonoSp sp) (hl : SpLen sp 1) (hm : Meets (t_need_length ) 1 sp) : Cal P w K mg base 1 "need_length" sp := by
  obtain ⟨fd, G, F⟩ := fn_okD (P := P) (w := w) (base := base) (k := 0) (ps := ["number"]) (d := d_need_length) W 16 rfl sc_need_length hl (τ := t_need_length ) (fun cdv A outer s H E B hr =>
    (dss_one (ds_if (DW.dt (dw_or (dt_val (de_callB (dc_isi) (by exact rfl) (W.free 8) boot_isinstance (da_cons (dvar 0) (da_cons (de_ty (by exact rfl) (W.free 7) boot_bool) da_nil)))) (dw_or1 (dt_not (dt_chain dop_le dop_le de_int (dvar 0) (de_gint (by exact rfl) (W.int 10))))))) (dss_one ds_never) dss_nil))) hm
  exact ⟨⟨_, fd, _, G, W.glo 38, F.kp, (FunD.bindsN F fun _ _ _ _ _ _ us hl => match us, hl with | [_], _ => rfl)⟩, ms⟩
def t_is_mating_3  (E : FM.DX) : TDS := (dRet (dAndV (dOp geI (dCB minA (dCons (dVar 2) (dCons (dVar 3) dNil))) (dC (.int 0))) (dOp leI (dOp addR (dCB maxA (dCons (dVar 2) (dCons (dVar 3) dNil))) (dVar 4)) (dVar 0))))
def t_is_mating_1  (E : FM.DX) : TDS := (dSeq (dAsg (dVar 1) (dgTup 4 (dgCons (dgN 2) (dgCons (dgN 3) (dgCons (dgN 4) (dgCons (dgN 5) dgNil))))))
  (dSeq (dIfS (dOr (dB (dOp ltR (dVar 4) (dC (.int 1)))) (dB (dOp (inR true) (dVar 5) (dTup (dCons (dC (.int 0)) (dCons (dC (.int 1)) dNil)))))) (dRet (dC (.bl false))) dNx)
  (t_is_mating_3 E)))
def t_is_mating  (E : FM.DX) : TDS := (dSeq (dIfS (dB (dCB anyR (dCons (dLc (dIAny (dVar 1)) (dgN 6) dYes (dCB isiR (dCons (dVar 6) (dCons (dC (.ty "bool")) dNil))) [6]) dNil))) (dRet (dC (.bl false))) dNx)
  (t_is_mating_1 E))
theorem ok_is_mating (W : Wd fa fn K mg) {sp : SpD}   (ms : MonoSp sp) (hl : SpLen sp 2) (hm : Meets (t_is_mating ) 7 sp) : Cal P w K mg base 1 "is_mating" sp := by
  obtain ⟨fd, G, F⟩ := fn_okD (P := P) (w := w) (base := base) (k := 0) (ps := ["length", "mating"]) (d := d_is_mating) W 17 rfl sc_is_mating hl (τ := t_is_mating ) (fun cdv A outer s H E B hr =>
    (dss_cons (ds_if (dt_val (de_callB (dc_any rfl) (by exact rfl) (W.free 9) boot_any (da_cons (de_lc rfl sc_is_mating.nd (di_any (dvar 1)) (blkOk_by (own := [(("number" : Str), 6)]) rfl) (fun s H C cl fp => (dgv_name sc_is_mating.nd rfl (by first | exact .inl rfl | exact .inr rfl) (by decide))) (fun s H C cl fp => dts_nil) (fun s H C cl fp => (de_callB (dc_isi) (by exact rfl) (W.free 8) boot_isinstance (da_cons (dvar 6) (da_cons (de_ty (by exact rfl) (W.free 7) boot_bool) da_nil))))) da_nil))) (dss_one (ds_ret de_bl)) dss_nil)
    (dss_cons (ds_asg (dvar 1) (dg_tup rfl (dgs_cons (dg_name sc_is_mating.nd rfl (by first | exact .inl rfl | exact .inr rfl)) (dgs_cons (dg_name sc_is_mating.nd rfl (by first | exact .inl rfl | exact .inr rfl)) (dgs_cons (dg_name sc_is_mating.nd rfl (by first | exact .inl rfl | exact .inr rfl)) (dgs_cons (dg_name sc_is_mating.nd rfl (by first | exact .inl rfl | exact .inr rfl)) dgs_nil))))))
    (dss_cons (ds_if (DW.dt (dw_or (dt_cmp dop_lt (dvar 4) de_int) (dw_or1 (dt_cmp (dop_notin (hu_of hr)) (dvar 5) (de_tup (da_cons de_int (da_cons de_int da_nil))))))) (dss_one (ds_ret de_bl)) dss_nil)
    (dss_one (ds_ret (de_and (de_cmp dop_ge (de_callB (dc_minA rfl) (by exact rfl) (W.free 2) boot_min (da_cons (dvar 2) (da_cons (dvar 3) da_nil))) de_int) (de_one (de_cmp dop_le (de_op dop_add (de_callB (dc_maxA rfl) (by exact rfl) (W.free 4) boot_max (da_cons (dvar 2) (da_cons (dvar 3) da_nil))) (dvar 4)) (dvar 0)))))))))) hm
  exact ⟨⟨_, fd, _, G, W.glo 39, F.kp, (FunD.bindsN F fun _ _ _ _ _ _ us hl => match us, hl with | [_, _], _ => rfl)⟩, ms⟩
def t_need_matings_2 (sp_need_length : SpD) (sp_is_mating : SpD) (E : FM.DX) : TDS := (dIfS (dB (dOp gtR (dCB lenR (dCons (dVar 1) dNil)) (dC (.int 24)))) dNev dNx)
def t_need_matings (sp_need_length : SpD) (sp_is_mating : SpD) (E : FM.DX) : TDS := (dSeq (dDrop (dCall sp_need_length [] E (dCons (dVar 0) dNil)))
  (dSeq (dFor (dIAny (dVar 1)) (dgN 2) (dIfS (dNot (dB (dCall sp_is_mating [] E (dCons (dVar 0) (dCons (dVar 2) dNil))))) dNev dNx))
  (t_need_matings_2 sp_need_length sp_is_mating E)))
theorem ok_need_matings (W : Wd fa fn K mg) {sp : SpD} {sp_need_length : SpD} {sp_is_mating : SpD} (c_need_length : Cal P w K mg base 1 "need_length" sp_need_length) (c_is_mating : Cal P w K mg base 1 "is_mating" sp_is_mating) (ms : MonoSp sp) (hl : SpLen sp 2) (hm : Meets (t_need_matings sp_need_length sp_is_mating) 3 sp) : Cal P w K mg base 2 "need_matings" sp := by
  obtain ⟨fd, G, F⟩ := fn_okD (P := P) (w := w) (base := base) (k := 1) (ps := ["length", "matings"]) (d := d_need_matings) W 18 rfl sc_need_matings hl (τ := t_need_matings sp_need_length sp_is_mating) (fun cdv A outer s H E B hr =>
    (dss_cons (ds_expr (de_callC c_need_length (hr.mono (by decide)) (by exact rfl) (da_cons (dvar 0) da_nil)))
    (dss_cons (ds_for PassesOwn.never rfl (di_any (dvar 1)) (dg_name sc_need_matings.nd rfl (by first | exact .inl rfl | exact .inr rfl)) (dss_one (ds_if (dt_not (dt_val (de_callC c_is_mating (hr.mono (by decide)) (by exact rfl) (da_cons (dvar 0) (da_cons (dvar 2) da_nil))))) (dss_one ds_never) dss_nil)))
    (dss_one (ds_if (dt_cmp dop_gt (de_callB (dc_len) (by exact rfl) (W.free 1) boot_len (da_cons (dvar 1) da_nil)) (de_gint (by exact rfl) (W.int 11))) (dss_one ds_never) dss_nil))))) hm
  exact ⟨⟨_, fd, _, G, W.glo 40, F.kp, (FunD.bindsN F fun _ _ _ _ _ _ us hl => match us, hl with | [_, _], _ => rfl)⟩, ms⟩
def t_back  (E : FM.DX) : TDS := (dSeq (dAsg (dVar 0) (dgTup 4 (dgCons (dgN 1) (dgCons (dgN 2) (dgCons (dgN 3) (dgCons (dgN 4) dgNil))))))
  (dRet (dTup (dCons (dVar 2) (dCons (dVar 1) (dCons (dVar 3) (dCons (dVar 4) dNil)))))))
theorem ok_back (W : Wd fa fn K mg) {sp : SpD}   (ms : MonoSp sp) (hl : SpLen sp 1) (hm : Meets (t_back ) 5 sp) : Cal P w K mg base 1 "back" sp := by
  obtain ⟨fd, G, F⟩ := fn_okD (P := P) (w := w) (base := base) (k := 0) (ps := ["mating"]) (d := d_back) W 19 rfl sc_back hl (τ := t_back ) (fun cdv A outer s H E B hr =>
    (dss_cons (ds_asg (dvar 0) (dg_tup rfl (dgs_cons (dg_name sc_back.nd rfl (by first | exact .inl rfl | exact .inr rfl)) (dgs_cons (dg_name sc_back.nd rfl (by first | exact .inl rfl | exact .inr rfl)) (dgs_cons (dg_name sc_back.nd rfl (by first | exact .inl rfl | exact .inr rfl)) (dgs_cons (dg_name sc_back.nd rfl (by first | exact .inl rfl | exact .inr rfl)) dgs_nil))))))
    (dss_one (ds_ret (de_tup (da_cons (dvar 2) (da_cons (dvar 1) (da_cons (dvar 3) (da_cons (dvar 4) da_nil))))))))) hm
  exact ⟨⟨_, fd, _, G, W.glo 41, F.kp, (FunD.bindsN F fun _ _ _ _ _ _ us hl => match us, hl with | [_], _ => rfl)⟩, ms⟩
def t_normal (sp_back : SpD) (E : FM.DX) : TDS := (dRet (dIf (dB (dOp leI (dOp ixR' (dVar 0) (dC (.int 0))) (dOp ixR' (dVar 0) (dC (.int 1))))) (dVar 0) (dCall sp_back [] E (dCons (dVar 0) dNil))))
theorem ok_normal (W : Wd fa fn K mg) {sp : SpD} {sp_back : SpD} (c_back : Cal P w K mg base 1 "back" sp_back) (ms : MonoSp sp) (hl : SpLen sp 1) (hm : Meets (t_normal sp_back) 1 sp) : Cal P w K mg base 2 "normal" sp := by
  obtain ⟨fd, G, F⟩ := fn_okD (P := P) (w := w) (base := base) (k := 1) (ps := ["mating"]) (d := d_normal) W 20 rfl sc_normal hl (τ := t_normal sp_back) (fun cdv A outer s H E B hr =>
    (dss_one (ds_ret (de_if (dt_cmp dop_le (de_ix (hu_of hr) (dvar 0) de_int) (de_ix (hu_of hr) (dvar 0) de_int)) (dvar 0) (de_callC c_back (hr.mono (by decide)) (by exact rfl) (da_cons (dvar 0) da_nil)))))) hm
  exact ⟨⟨_, fd, _, G, W.glo 42, F.kp, (FunD.bindsN F fun _ _ _ _ _ _ us hl => match us, hl with | [_], _ => rfl)⟩, ms⟩
def t_Front_begin (CFront : Addr) (sp_normal : SpD) (E : FM.DX) : TDS := (dSeq (dFldS CFront "height" (dVar 0) (dVar 1))
  (dSeq (dFldS CFront "standing" (dVar 0) (dDcM (dIEnum (dCons (dVar 2) dNil)) (dgTup 2 (dgCons (dgN 3) (dgCons (dgN 4) dgNil))) dYes (dVar 3) (dCall sp_normal [] E (dCons (dCB tupR (dCons (dVar 4) dNil)) dNil)) [3, 4]))
  (dFldS CFront "laid" (dVar 0) (dLstM dNil))))
theorem ok_Front_begin (W : Wd fa fn K mg) {sp : SpD} {sp_normal : SpD} (c_normal : Cal P w K mg base 2 "normal" sp_normal) (ms : MonoSp sp) (hl : SpLen sp 3) (hm : Meets (t_Front_begin (He.ga K "Front") sp_normal) 5 sp) : Met P w K mg base 3 (He.ga K "Front") "begin" sp := by
  obtain ⟨fd, G, F⟩ := fn_okD (P := P) (w := w) (base := base) (k := 2) (ps := ["self", "length", "matings"]) (d := d_Front_begin) W 21 rfl sc_Front_begin hl (τ := t_Front_begin (He.ga K "Front") sp_normal) (fun cdv A outer s H E B hr =>
    (dss_cons (ds_fld (W.cls 12) (W.noat 13) (dvar 0) (dvar 1))
    (dss_cons (ds_fld (W.cls 12) (W.noat 16) (dvar 0) (de_dcM rfl sc_Front_begin.nd (di_enum (by exact rfl) (W.free 14) (da_cons (dvar 2) da_nil)) (blkOk_by (own := [(("at" : Str), 3), (("mating" : Str), 4)]) rfl) (fun s H C cl fp => (dgv_tup rfl (dgsv_cons (dgv_name sc_Front_begin.nd rfl (by first | exact .inl rfl | exact .inr rfl) (by decide)) (dgsv_cons (dgv_name sc_Front_begin.nd rfl (by first | exact .inl rfl | exact .inr rfl) (by decide)) dgsv_nil)))) (fun s H C cl fp => dts_nil) (fun s H C cl fp => (dvar 3)) (fun s H C cl fp => (de_callC c_normal (hr.mono (by decide)) (by exact rfl) (da_cons (de_callTy dc_tuple (by exact rfl) (W.free 15) boot_tuple (da_cons (dvar 4) da_nil)) da_nil)))))
    (dss_one (ds_fld (W.cls 12) (W.noat 17) (dvar 0) (de_lstM da_nil)))))) hm
  exact ⟨⟨_, fd, _, G, W.meth 43, (FunD.bindsN F fun _ _ _ _ _ _ us hl => match us, hl with | [_, _, _], _ => rfl)⟩, W.cls 12, ms⟩
def t_Front___init__ (CFront : Addr) (sp_need_matings : SpD) (sp_Front_begin : SpD) (E : FM.DX) : TDS := (dSeq (dDrop (dCall sp_need_matings [] E (dCons (dVar 1) (dCons (dVar 2) dNil))))
  (dDrop (dMeth CFront "begin" sp_Front_begin [] E (dVar 0) (dCons (dVar 1) (dCons (dVar 2) dNil)))))
theorem ok_Front___init__ (W : Wd fa fn K mg) {sp : SpD} {sp_need_matings : SpD} {sp_Front_begin : SpD} (c_need_matings : Cal P w K mg base 2 "need_matings" sp_need_matings) (c_Front_begin : Met P w K mg base 3 (He.ga K "Front") "begin" sp_Front_begin) (ms : MonoSp sp) (hl : SpLen sp 3) (hm : Meets (t_Front___init__ (He.ga K "Front") sp_need_matings sp_Front_begin) 3 sp) : Mak P w K mg base 4 "Front" (He.ga K "Front") sp := by
  obtain ⟨fd, G, F⟩ := fn_okD (P := P) (w := w) (base := base) (k := 3) (ps := ["self", "length", "matings"]) (d := d_Front___init__) W 22 rfl sc_Front___init__ hl (τ := t_Front___init__ (He.ga K "Front") sp_need_matings sp_Front_begin) (fun cdv A outer s H E B hr =>
    (dss_cons (ds_expr (de_callC c_need_matings (hr.mono (by decide)) (by exact rfl) (da_cons (dvar 1) (da_cons (dvar 2) da_nil))))
    (dss_one (ds_expr (de_methC (dvar 0) c_Front_begin (hr.mono (by decide)) (da_cons (dvar 1) (da_cons (dvar 2) da_nil))))))) hm
  exact ⟨⟨_, fd, _, G, W.glo 46, W.mkr 45, (FunD.bindsN F fun _ _ _ _ _ _ us hl => match us, hl with | [_, _, _], _ => rfl)⟩, ms⟩
def t_Front_reach_2 (CFront : Addr) (E : FM.DX) : TDS := (dRet (dVar 2))
def t_Front_reach (CFront : Addr) (E : FM.DX) : TDS := (dSeq (dSet 2 (dC (.int 0)))
  (dSeq (dLk (dFor (dIItems (dFld CFront "standing" (dVar 0))) (dgTup 2 (dgCons (dgN 3) (dgCons (dgN 4) dgNil))) (dIfS (dB (dOp (eqR true) (dVar 3) (dVar 1))) (dSet 2 (dCB maxA (dCons (dVar 2) (dCons (dOp addR (dOp ixR' (dVar 4) (dC (.int 1))) (dOp ixR' (dVar 4) (dC (.int 2)))) dNil)))) dNx)))
  (t_Front_reach_2 CFront E)))
theorem ok_Front_reach (W : Wd fa fn K mg) {sp : SpD}   (ms : MonoSp sp) (hl : SpLen sp 2) (hm : Meets (t_Front_reach (He.ga K "Front")) 5 sp) : Met P w K mg base 1 (He.ga K "Front") "reach" sp := by
  obtain ⟨fd, G, F⟩ := fn_okD (P := P) (w := w) (base := base) (k := 0) (ps := ["self", "but"]) (d := d_Front_reach) W 23 rfl sc_Front_reach hl (τ := t_Front_reach (He.ga K "Front")) (fun cdv A outer s H E B hr =>
    (dss_cons (ds_set (i := 2) sc_Front_reach.nd rfl (by first | exact .inl rfl | exact .inr rfl) de_int)
    (dss_cons (ds_lk (ds_for PassesOwn.never rfl (di_items (de_fld (W.cls 12) (W.noat 16) (dvar 0))) (dg_tup rfl (dgs_cons (dg_name sc_Front_reach.nd rfl (by first | exact .inl rfl | exact .inr rfl)) (dgs_cons (dg_name sc_Front_reach.nd rfl (by first | exact .inl rfl | exact .inr rfl)) dgs_nil))) (dss_one (ds_if (dt_cmp (dop_ne hr.units) (dvar 3) (dvar 1)) (dss_one (ds_set (i := 2) sc_Front_reach.nd rfl (by first | exact .inl rfl | exact .inr rfl) (de_callB (dc_maxA rfl) (by exact rfl) (W.free 4) boot_max (da_cons (dvar 2) (da_cons (de_op dop_add (de_ix (hu_of hr) (dvar 4) de_int) (de_ix (hu_of hr) (dvar 4) de_int)) da_nil))))) dss_nil))))
    (dss_one (ds_ret (dvar 2)))))) hm
  exact ⟨⟨_, fd, _, G, W.meth 47, (FunD.bindsN F fun _ _ _ _ _ _ us hl => match us, hl with | [_, _], _ => rfl)⟩, W.cls 12, ms⟩
def t_Front_make_bare_1 (CFront : Addr) (sp_Front_reach : SpD) (E : FM.DX) : TDS := (dSeq (dDrop (dM "list" appendR (dFld CFront "laid" (dVar 0)) (dCons (dTup (dCons (dC (.str "bare")) (dCons (dVar 1) (dCons (dFld CFront "height" (dVar 0)) dNil)))) dNil)))
  (dSeq (dFldS CFront "height" (dVar 0) (dVar 1))
  (dRet (dC (.bl true)))))
def t_Front_make_bare (CFront : Addr) (sp_Front_reach : SpD) (E : FM.DX) : TDS := (dSeq (dIfS (dNot (dB (dChain leI ltR (dMeth CFront "reach" sp_Front_reach [] E (dVar 0) (dCons (dC .non) dNil)) (dVar 1) (dFld CFront "height" (dVar 0))))) (dRet (dC (.bl false))) dNx)
  (t_Front_make_bare_1 CFront sp_Front_reach E))
theorem ok_Front_make_bare (W : Wd fa fn K mg) {sp : SpD} {sp_Front_reach : SpD} (c_Front_reach : Met P w K mg base 1 (He.ga K "Front") "reach" sp_Front_reach) (ms : MonoSp sp) (hl : SpLen sp 2) (hm : Meets (t_Front_make_bare (He.ga K "Front") sp_Front_reach) 2 sp) : Met P w K mg base 2 (He.ga K "Front") "make_bare" sp := by
  obtain ⟨fd, G, F⟩ := fn_okD (P := P) (w := w) (base := base) (k := 1) (ps := ["self", "place"]) (d := d_Front_make_bare) W 24 rfl sc_Front_make_bare hl (τ := t_Front_make_bare (He.ga K "Front") sp_Front_reach) (fun cdv A outer s H E B hr =>
    (dss_cons (ds_if (dt_not (dt_chain dop_le dop_lt (de_methC (dvar 0) c_Front_reach (hr.mono (by decide)) (da_cons de_non da_nil)) (dvar 1) (de_fld (W.cls 12) (W.noat 13) (dvar 0)))) (dss_one (ds_ret de_bl)) dss_nil)
    (dss_cons (ds_expr (de_m PySem.F.plainAttrs_list PySem.F.slot_list_append PySem.F.type_list_append dm_append (de_fld (W.cls 12) (W.noat 17) (dvar 0)) (da_cons (de_tup (da_cons de_str (da_cons (dvar 1) (da_cons (de_fld (W.cls 12) (W.noat 13) (dvar 0)) da_nil)))) da_nil)))
    (dss_cons (ds_fld (W.cls 12) (W.noat 13) (dvar 0) (dvar 1))
    (dss_one (ds_ret de_bl)))))) hm
  exact ⟨⟨_, fd, _, G, W.meth 48, (FunD.bindsN F fun _ _ _ _ _ _ us hl => match us, hl with | [_, _], _ => rfl)⟩, W.cls 12, ms⟩
def t_Front_put (CFront : Addr) (sp_normal : SpD) (E : FM.DX) : TDS := (dIfS (dB (dOp (isR false) (dVar 2) (dC .non))) (dDel (dFld CFront "standing" (dVar 0)) (dVar 1)) (dAsg (dCall sp_normal [] E (dCons (dVar 2) dNil)) (dgSub (dFld CFront "standing" (dVar 0)) (dVar 1))))
theorem ok_Front_put (W : Wd fa fn K mg) {sp : SpD} {sp_normal : SpD} (c_normal : Cal P w K mg base 2 "normal" sp_normal) (ms : MonoSp sp) (hl : SpLen sp 3) (hm : Meets (t_Front_put (He.ga K "Front") sp_normal) 3 sp) : Met P w K mg base 3 (He.ga K "Front") "put" sp := by
  obtain ⟨fd, G, F⟩ := fn_okD (P := P) (w := w) (base := base) (k := 2) (ps := ["self", "at", "mating"]) (d := d_Front_put) W 25 rfl sc_Front_put hl (τ := t_Front_put (He.ga K "Front") sp_normal) (fun cdv A outer s H E B hr =>
    (dss_one (ds_if (dt_cmp dop_is (dvar 2) de_non) (dss_one (ds_del (de_fld (W.cls 12) (W.noat 16) (dvar 0)) (dvar 1))) (dss_one (ds_asg (de_callC c_normal (hr.mono (by decide)) (by exact rfl) (da_cons (dvar 2) da_nil)) (dg_sub (hu_of hr) (de_fld (W.cls 12) (W.noat 16) (dvar 0)) (dvar 1))))))) hm
  exact ⟨⟨_, fd, _, G, W.meth 49, (FunD.bindsN F fun _ _ _ _ _ _ us hl => match us, hl with | [_, _, _], _ => rfl)⟩, W.cls 12, ms⟩
def t_Front_make_idle_2 (CFront : Addr) (sp_Front_put : SpD) (E : FM.DX) : TDS := (dSeq (dDrop (dMeth CFront "put" sp_Front_put [] E (dVar 0) (dCons (dVar 1) (dCons (dC .non) dNil))))
  (dRet (dC (.bl true))))
def t_Front_make_idle (CFront : Addr) (sp_Front_put : SpD) (E : FM.DX) : TDS := (dSeq (dAsg (dOp ixR' (dFld CFront "standing" (dVar 0)) (dVar 1)) (dgTup 4 (dgCons (dgN 2) (dgCons (dgN 3) (dgCons (dgN 4) (dgCons (dgN 5) dgNil))))))
  (dSeq (dIfS (dOr (dB (dOp (eqR false) (dVar 5) (dC (.int 1)))) (dB (dOp (eqR true) (dVar 2) (dVar 3)))) (dRet (dC (.bl false))) dNx)
  (t_Front_make_idle_2 CFront sp_Front_put E)))
theorem ok_Front_make_idle (W : Wd fa fn K mg) {sp : SpD} {sp_Front_put : SpD} (c_Front_put : Met P w K mg base 3 (He.ga K "Front") "put" sp_Front_put) (ms : MonoSp sp) (hl : SpLen sp 2) (hm : Meets (t_Front_make_idle (He.ga K "Front") sp_Front_put) 6 sp) : Met P w K mg base 4 (He.ga K "Front") "make_idle" sp := by
  obtain ⟨fd, G, F⟩ := fn_okD (P := P) (w := w) (base := base) (k := 3) (ps := ["self", "at"]) (d := d_Front_make_idle) W 26 rfl sc_Front_make_idle hl (τ := t_Front_make_idle (He.ga K "Front") sp_Front_put) (fun cdv A outer s H E B hr =>
    (dss_cons (ds_asg (de_ix (hu_of hr) (de_fld (W.cls 12) (W.noat 16) (dvar 0)) (dvar 1)) (dg_tup rfl (dgs_cons (dg_name sc_Front_make_idle.nd rfl (by first | exact .inl rfl | exact .inr rfl)) (dgs_cons (dg_name sc_Front_make_idle.nd rfl (by first | exact .inl rfl | exact .inr rfl)) (dgs_cons (dg_name sc_Front_make_idle.nd rfl (by first | exact .inl rfl | exact .inr rfl)) (dgs_cons (dg_name sc_Front_make_idle.nd rfl (by first | exact .inl rfl | exact .inr rfl)) dgs_nil))))))
    (dss_cons (ds_if (DW.dt (dw_or (dt_cmp (dop_eq hr.units) (dvar 5) de_int) (dw_or1 (dt_cmp (dop_ne hr.units) (dvar 2) (dvar 3))))) (dss_one (ds_ret de_bl)) dss_nil)
    (dss_cons (ds_expr (de_methC (dvar 0) c_Front_put (hr.mono (by decide)) (da_cons (dvar 1) (da_cons de_non da_nil))))
    (dss_one (ds_ret de_bl)))))) hm
  exact ⟨⟨_, fd, _, G, W.meth 50, (FunD.bindsN F fun _ _ _ _ _ _ us hl => match us, hl with | [_, _], _ => rfl)⟩, W.cls 12, ms⟩
def t_overlaps  (E : FM.DX) : TDS := (dRet (dOp ltR (dOp ixR' (dVar 0) (dC (.int 1))) (dOp addR (dOp ixR' (dVar 0) (dC (.int 0))) (dOp ixR' (dVar 0) (dC (.int 2))))))
theorem ok_overlaps (W : Wd fa fn K mg) {sp : SpD}   (ms : MonoSp sp) (hl : SpLen sp 1) (hm : Meets (t_overlaps ) 1 sp) : Cal P w K mg base 1 "overlaps" sp := by
  obtain ⟨fd, G, F⟩ := fn_okD (P := P) (w := w) (base := base) (k := 0) (ps := ["mating"]) (d := d_overlaps) W 27 rfl sc_overlaps hl (τ := t_overlaps ) (fun cdv A outer s H E B hr =>
    (dss_one (ds_ret (de_cmp dop_lt (de_ix (hu_of hr) (dvar 0) de_int) (de_op dop_add (de_ix (hu_of hr) (dvar 0) de_int) (de_ix (hu_of hr) (dvar 0) de_int)))))) hm
  exact ⟨⟨_, fd, _, G, W.glo 51, F.kp, (FunD.bindsN F fun _ _ _ _ _ _ us hl => match us, hl with | [_], _ => rfl)⟩, ms⟩
def t_halved  (E : FM.DX) : TDS := (dSeq (dAsg (dVar 0) (dgTup 4 (dgCons (dgN 1) (dgCons (dgN 2) (dgCons (dgN 3) (dgCons (dgN 4) dgNil))))))
  (dSeq (dSet 5 (dOp divR (dOp subR (dOp addR (dVar 2) (dVar 3)) (dVar 1)) (dC (.int 2))))
  (dRet (dIf (dB (dOp (eqR false) (dVar 5) (dC (.int 0)))) (dC .non) (dTup (dCons (dVar 1) (dCons (dOp subR (dOp addR (dVar 2) (dVar 3)) (dVar 5)) (dCons (dVar 5) (dCons (dC (.int 1)) dNil)))))))))
theorem ok_halved (W : Wd fa fn K mg) {sp : SpD}   (ms : MonoSp sp) (hl : SpLen sp 1) (hm : Meets (t_halved ) 6 sp) : Cal P w K mg base 1 "halved" sp := by
  obtain ⟨fd, G, F⟩ := fn_okD (P := P) (w := w) (base := base) (k := 0) (ps := ["mating"]) (d := d_halved) W 28 rfl sc_halved hl (τ := t_halved ) (fun cdv A outer s H E B hr =>
    (dss_cons (ds_asg (dvar 0) (dg_tup rfl (dgs_cons (dg_name sc_halved.nd rfl (by first | exact .inl rfl | exact .inr rfl)) (dgs_cons (dg_name sc_halved.nd rfl (by first | exact .inl rfl | exact .inr rfl)) (dgs_cons (dg_name sc_halved.nd rfl (by first | exact .inl rfl | exact .inr rfl)) (dgs_cons (dg_name sc_halved.nd rfl (by first | exact .inl rfl | exact .inr rfl)) dgs_nil))))))
    (dss_cons (ds_set (i := 5) sc_halved.nd rfl (by first | exact .inl rfl | exact .inr rfl) (de_op dop_div (de_op dop_sub (de_op dop_add (dvar 2) (dvar 3)) (dvar 1)) de_int))
    (dss_one (ds_ret (de_if (dt_cmp (dop_eq hr.units) (dvar 5) de_int) de_non (de_tup (da_cons (dvar 1) (da_cons (de_op dop_sub (de_op dop_add (dvar 2) (dvar 3)) (dvar 5)) (da_cons (dvar 5) (da_cons de_int da_nil))))))))))) hm
  exact ⟨⟨_, fd, _, G, W.glo 52, F.kp, (FunD.bindsN F fun _ _ _ _ _ _ us hl => match us, hl with | [_], _ => rfl)⟩, ms⟩
def t_Front_make_half_2 (CFront : Addr) (sp_overlaps : SpD) (sp_halved : SpD) (sp_Front_put : SpD) (E : FM.DX) : TDS := (dSeq (dDrop (dMeth CFront "put" sp_Front_put [] E (dVar 0) (dCons (dVar 1) (dCons (dCall sp_halved [] E (dCons (dVar 2) dNil)) dNil))))
  (dRet (dC (.bl true))))
def t_Front_make_half (CFront : Addr) (sp_overlaps : SpD) (sp_halved : SpD) (sp_Front_put : SpD) (E : FM.DX) : TDS := (dSeq (dSet 2 (dOp ixR' (dFld CFront "standing" (dVar 0)) (dVar 1)))
  (dSeq (dIfS (dOr (dB (dOp (eqR false) (dOp ixR' (dVar 2) (dC (.int 3))) (dC (.int 0)))) (dNot (dB (dCall sp_overlaps [] E (dCons (dVar 2) dNil))))) (dRet (dC (.bl false))) dNx)
  (t_Front_make_half_2 CFront sp_overlaps sp_halved sp_Front_put E)))
theorem ok_Front_make_half (W : Wd fa fn K mg) {sp : SpD} {sp_overlaps : SpD} {sp_halved : SpD} {sp_Front_put : SpD} (c_overlaps : Cal P w K mg base 1 "overlaps" sp_overlaps) (c_halved : Cal P w K mg base 1 "halved" sp_halved) (c_Front_put : Met P w K mg base 3 (He.ga K "Front") "put" sp_Front_put) (ms : MonoSp sp) (hl : SpLen sp 2) (hm : Meets (t_Front_make_half (He.ga K "Front") sp_overlaps sp_halved sp_Front_put) 3 sp) : Met P w K mg base 4 (He.ga K "Front") "make_half" sp := by
  obtain ⟨fd, G, F⟩ := fn_okD (P := P) (w := w) (base := base) (k := 3) (ps := ["self", "at"]) (d := d_Front_make_half) W 29 rfl sc_Front_make_half hl (τ := t_Front_make_half (He.ga K "Front") sp_overlaps sp_halved sp_Front_put) (fun cdv A outer s H E B hr =>
    (dss_cons (ds_set (i := 2) sc_Front_make_half.nd rfl (by first | exact .inl rfl | exact .inr rfl) (de_ix (hu_of hr) (de_fld (W.cls 12) (W.noat 16) (dvar 0)) (dvar 1)))
    (dss_cons (ds_if (DW.dt (dw_or (dt_cmp (dop_eq hr.units) (de_ix (hu_of hr) (dvar 2) de_int) de_int) (dw_or1 (dt_not (dt_val (de_callC c_overlaps (hr.mono (by decide)) (by exact rfl) (da_cons (dvar 2) da_nil))))))) (dss_one (ds_ret de_bl)) dss_nil)
    (dss_cons (ds_expr (de_methC (dvar 0) c_Front_put (hr.mono (by decide)) (da_cons (dvar 1) (da_cons (de_callC c_halved (hr.mono (by decide)) (by exact rfl) (da_cons (dvar 2) da_nil)) da_nil))))
    (dss_one (ds_ret de_bl)))))) hm
  exact ⟨⟨_, fd, _, G, W.meth 53, (FunD.bindsN F fun _ _ _ _ _ _ us hl => match us, hl with | [_, _], _ => rfl)⟩, W.cls 12, ms⟩
def t_leads_1 (sp_overlaps : SpD) (E : FM.DX) : TDS := (dRet (dOp ltR (dOp ixR' (dVar 0) (dC (.int 0))) (dOp ixR' (dVar 0) (dC (.int 1)))))
def t_leads (sp_overlaps : SpD) (E : FM.DX) : TDS := (dSeq (dIfS (dB (dOp (eqR false) (dOp ixR' (dVar 0) (dC (.int 3))) (dC (.int 1)))) (dRet (dNotV (dCall sp_overlaps [] E (dCons (dVar 0) dNil)))) dNx)
  (t_leads_1 sp_overlaps E))
theorem ok_leads (W : Wd fa fn K mg) {sp : SpD} {sp_overlaps : SpD} (c_overlaps : Cal P w K mg base 1 "overlaps" sp_overlaps) (ms : MonoSp sp) (hl : SpLen sp 1) (hm : Meets (t_leads sp_overlaps) 1 sp) : Cal P w K mg base 2 "leads" sp := by
  obtain ⟨fd, G, F⟩ := fn_okD (P := P) (w := w) (base := base) (k := 1) (ps := ["mating"]) (d := d_leads) W 30 rfl sc_leads hl (τ := t_leads sp_overlaps) (fun cdv A outer s H E B hr =>
    (dss_cons (ds_if (dt_cmp (dop_eq hr.units) (de_ix (hu_of hr) (dvar 0) de_int) de_int) (dss_one (ds_ret (de_not (de_callC c_overlaps (hr.mono (by decide)) (by exact rfl) (da_cons (dvar 0) da_nil))))) dss_nil)
    (dss_one (ds_ret (de_cmp dop_lt (de_ix (hu_of hr) (dvar 0) de_int) (de_ix (hu_of hr) (dvar 0) de_int)))))) hm
  exact ⟨⟨_, fd, _, G, W.glo 54, F.kp, (FunD.bindsN F fun _ _ _ _ _ _ us hl => match us, hl with | [_], _ => rfl)⟩, ms⟩
def t_led_down_2  (E : FM.DX) : TDS := (dRet (dOp addR (dVar 3) (dOp modR (dOp subR (dVar 1) (dVar 3)) (dOp subR (dVar 4) (dVar 3)))))
def t_led_down  (E : FM.DX) : TDS := (dSeq (dAsg (dVar 0) (dgTup 4 (dgCons (dgN 3) (dgCons (dgN 4) (dgCons (dgN 5) (dgCons (dgN 6) dgNil))))))
  (dSeq (dIfS (dB (dOp (eqR false) (dVar 6) (dC (.int 1)))) (dRet (dOp subR (dOp subR (dOp addR (dOp addR (dVar 3) (dVar 4)) (dVar 5)) (dVar 1)) (dVar 2))) dNx)
  (t_led_down_2 E)))
theorem ok_led_down (W : Wd fa fn K mg) {sp : SpD}   (ms : MonoSp sp) (hl : SpLen sp 3) (hm : Meets (t_led_down ) 7 sp) : Cal P w K mg base 1 "led_down" sp := by
  obtain ⟨fd, G, F⟩ := fn_okD (P := P) (w := w) (base := base) (k := 0) (ps := ["mating", "at", "many"]) (d := d_led_down) W 31 rfl sc_led_down hl (τ := t_led_down ) (fun cdv A outer s H E B hr =>
    (dss_cons (ds_asg (dvar 0) (dg_tup rfl (dgs_cons (dg_name sc_led_down.nd rfl (by first | exact .inl rfl | exact .inr rfl)) (dgs_cons (dg_name sc_led_down.nd rfl (by first | exact .inl rfl | exact .inr rfl)) (dgs_cons (dg_name sc_led_down.nd rfl (by first | exact .inl rfl | exact .inr rfl)) (dgs_cons (dg_name sc_led_down.nd rfl (by first | exact .inl rfl | exact .inr rfl)) dgs_nil))))))
    (dss_cons (ds_if (dt_cmp (dop_eq hr.units) (dvar 6) de_int) (dss_one (ds_ret (de_op dop_sub (de_op dop_sub (de_op dop_add (de_op dop_add (dvar 3) (dvar 4)) (dvar 5)) (dvar 1)) (dvar 2)))) dss_nil)
    (dss_one (ds_ret (de_op dop_add (dvar 3) (de_op dop_mod (de_op dop_sub (dvar 1) (dvar 3)) (de_op dop_sub (dvar 4) (dvar 3))))))))) hm
  exact ⟨⟨_, fd, _, G, W.glo 55, F.kp, (FunD.bindsN F fun _ _ _ _ _ _ us hl => match us, hl with | [_, _, _], _ => rfl)⟩, ms⟩
def t_Front_make_led_3 (CFront : Addr) (sp_leads : SpD) (sp_led_down : SpD) (sp_Front_put : SpD) (E : FM.DX) : TDS := (dSeq (dSet 6 (dLstM (dCons (dOp ixR' (dVar 4) (dC (.int 0))) (dCons (dOp ixR' (dVar 4) (dC (.int 1))) dNil))))
  (dSeq (dAsg (dCall sp_led_down [] E (dCons (dVar 5) (dCons (dOp ixR' (dVar 4) (dVar 2)) (dCons (dOp ixR' (dVar 4) (dC (.int 2))) dNil)))) (dgSub (dVar 6) (dVar 2)))
  (dSeq (dDrop (dMeth CFront "put" sp_Front_put [] E (dVar 0) (dCons (dVar 1) (dCons (dTup (dCons (dOp ixR' (dVar 6) (dC (.int 0))) (dCons (dOp ixR' (dVar 6) (dC (.int 1))) (dCons (dOp ixR' (dVar 4) (dC (.int 2))) (dCons (dOp xorR (dOp ixR' (dVar 4) (dC (.int 3))) (dOp ixR' (dVar 5) (dC (.int 3)))) dNil))))) dNil))))
  (dRet (dC (.bl true))))))
def t_Front_make_led_1 (CFront : Addr) (sp_leads : SpD) (sp_led_down : SpD) (sp_Front_put : SpD) (E : FM.DX) : TDS := (dSeq (dPar 4 5 (dCons (dOp ixR' (dFld CFront "standing" (dVar 0)) (dVar 1)) (dCons (dOp ixR' (dFld CFront "standing" (dVar 0)) (dVar 3)) dNil)))
  (dSeq (dIfS (dOr (dB (dOp ltR (dOp ixR' (dVar 4) (dVar 2)) (dOp ixR' (dVar 5) (dC (.int 1))))) (dB (dOp gtR (dOp addR (dOp ixR' (dVar 4) (dVar 2)) (dOp ixR' (dVar 4) (dC (.int 2)))) (dOp addR (dOp ixR' (dVar 5) (dC (.int 1))) (dOp ixR' (dVar 5) (dC (.int 2))))))) (dRet (dC (.bl false))) dNx)
  (t_Front_make_led_3 CFront sp_leads sp_led_down sp_Front_put E)))
def t_Front_make_led (CFront : Addr) (sp_leads : SpD) (sp_led_down : SpD) (sp_Front_put : SpD) (E : FM.DX) : TDS := (dSeq (dIfS (dOr (dB (dOp (eqR false) (dVar 1) (dVar 3))) (dOr (dB (dOp (inR true) (dVar 3) (dFld CFront "standing" (dVar 0)))) (dOr (dB (dOp (inR true) (dVar 2) (dTup (dCons (dC (.int 0)) (dCons (dC (.int 1)) dNil))))) (dNot (dB (dCall sp_leads [] E (dCons (dOp ixR' (dFld CFront "standing" (dVar 0)) (dVar 3)) dNil))))))) (dRet (dC (.bl false))) dNx)
  (t_Front_make_led_1 CFront sp_leads sp_led_down sp_Front_put E))
theorem ok_Front_make_led (W : Wd fa fn K mg) {sp : SpD} {sp_leads : SpD} {sp_led_down : SpD} {sp_Front_put : SpD} (c_leads : Cal P w K mg base 2 "leads" sp_leads) (c_led_down : Cal P w K mg base 1 "led_down" sp_led_down) (c_Front_put : Met P w K mg base 3 (He.ga K "Front") "put" sp_Front_put) (ms : MonoSp sp) (hl : SpLen sp 4) (hm : Meets (t_Front_make_led (He.ga K "Front") sp_leads sp_led_down sp_Front_put) 7 sp) : Met P w K mg base 4 (He.ga K "Front") "make_led" sp := by
  obtain ⟨fd, G, F⟩ := fn_okD (P := P) (w := w) (base := base) (k := 3) (ps := ["self", "at", "side", "by"]) (d := d_Front_make_led) W 32 rfl sc_Front_make_led hl (τ := t_Front_make_led (He.ga K "Front") sp_leads sp_led_down sp_Front_put) (fun cdv A outer s H E B hr =>
    (dss_cons (ds_if (DW.dt (dw_or (dt_cmp (dop_eq hr.units) (dvar 1) (dvar 3)) (dw_or (dt_cmp (dop_notin (hu_of hr)) (dvar 3) (de_fld (W.cls 12) (W.noat 16) (dvar 0))) (dw_or (dt_cmp (dop_notin (hu_of hr)) (dvar 2) (de_tup (da_cons de_int (da_cons de_int da_nil)))) (dw_or1 (dt_not (dt_val (de_callC c_leads (hr.mono (by decide)) (by exact rfl) (da_cons (de_ix (hu_of hr) (de_fld (W.cls 12) (W.noat 16) (dvar 0)) (dvar 3)) da_nil))))))))) (dss_one (ds_ret de_bl)) dss_nil)
    (dss_cons (ds_par rfl sc_Front_make_led.nd rfl rfl (by decide) rfl rfl (da_cons (de_ix (hu_of hr) (de_fld (W.cls 12) (W.noat 16) (dvar 0)) (dvar 1)) (da_cons (de_ix (hu_of hr) (de_fld (W.cls 12) (W.noat 16) (dvar 0)) (dvar 3)) da_nil)) rfl)
    (dss_cons (ds_if (DW.dt (dw_or (dt_cmp dop_lt (de_ix (hu_of hr) (dvar 4) (dvar 2)) (de_ix (hu_of hr) (dvar 5) de_int)) (dw_or1 (dt_cmp dop_gt (de_op dop_add (de_ix (hu_of hr) (dvar 4) (dvar 2)) (de_ix (hu_of hr) (dvar 4) de_int)) (de_op dop_add (de_ix (hu_of hr) (dvar 5) de_int) (de_ix (hu_of hr) (dvar 5) de_int)))))) (dss_one (ds_ret de_bl)) dss_nil)
    (dss_cons (ds_set (i := 6) sc_Front_make_led.nd rfl (by first | exact .inl rfl | exact .inr rfl) (de_lstM (da_cons (de_ix (hu_of hr) (dvar 4) de_int) (da_cons (de_ix (hu_of hr) (dvar 4) de_int) da_nil))))
    (dss_cons (ds_asg (de_callC c_led_down (hr.mono (by decide)) (by exact rfl) (da_cons (dvar 5) (da_cons (de_ix (hu_of hr) (dvar 4) (dvar 2)) (da_cons (de_ix (hu_of hr) (dvar 4) de_int) da_nil)))) (dg_sub (hu_of hr) (dvar 6) (dvar 2)))
    (dss_cons (ds_expr (de_methC (dvar 0) c_Front_put (hr.mono (by decide)) (da_cons (dvar 1) (da_cons (de_tup (da_cons (de_ix (hu_of hr) (dvar 6) de_int) (da_cons (de_ix (hu_of hr) (dvar 6) de_int) (da_cons (de_ix (hu_of hr) (dvar 4) de_int) (da_cons (de_op dop_xor (de_ix (hu_of hr) (dvar 4) de_int) (de_ix (hu_of hr) (dvar 5) de_int)) da_nil))))) da_nil))))
    (dss_one (ds_ret de_bl))))))))) hm
  exact ⟨⟨_, fd, _, G, W.meth 56, (FunD.bindsN F fun _ _ _ _ _ _ us hl => match us, hl with | [_, _, _, _], _ => rfl)⟩, W.cls 12, ms⟩
def t_Front_make_fold_6 (CFront : Addr) (sp_leads : SpD) (sp_Front_reach : SpD) (sp_Front_put : SpD) (E : FM.DX) : TDS := (dSeq (dFldS CFront "height" (dVar 0) (dVar 2))
  (dRet (dC (.bl true))))
def t_Front_make_fold_3 (CFront : Addr) (sp_leads : SpD) (sp_Front_reach : SpD) (sp_Front_put : SpD) (E : FM.DX) : TDS := (dSeq (dSet 7 (dOp subR (dVar 2) (dVar 4)))
  (dSeq (dDrop (dM "list" appendR (dFld CFront "laid" (dVar 0)) (dCons (dTup (dCons (dC (.str "fold")) (dCons (dVar 2) (dCons (dFld CFront "height" (dVar 0)) (dCons (dVar 3) (dCons (dIf (dB (dOp (eqR false) (dVar 6) (dC (.int 1)))) (dC (.int 0)) (dOp subR (dVar 4) (dVar 3))) (dCons (dVar 6) dNil))))))) dNil)))
  (dSeq (dIfS (dB (dOp (eqR false) (dVar 7) (dC (.int 0)))) (dDrop (dMeth CFront "put" sp_Front_put [] E (dVar 0) (dCons (dVar 1) (dCons (dC .non) dNil)))) (dDrop (dMeth CFront "put" sp_Front_put [] E (dVar 0) (dCons (dVar 1) (dCons (dTup (dCons (dOp addR (dVar 3) (dOp mulR (dOp subR (dVar 5) (dVar 7)) (dVar 6))) (dCons (dVar 4) (dCons (dVar 7) (dCons (dVar 6) dNil))))) dNil)))))
  (t_Front_make_fold_6 CFront sp_leads sp_Front_reach sp_Front_put E))))
def t_Front_make_fold_2 (CFront : Addr) (sp_leads : SpD) (sp_Front_reach : SpD) (sp_Front_put : SpD) (E : FM.DX) : TDS := (dSeq (dIfS (dOr (dNot (dB (dChain leI ltR (dVar 4) (dVar 2) (dFld CFront "height" (dVar 0))))) (dB (dOp gtR (dMeth CFront "reach" sp_Front_reach [] E (dVar 0) (dCons (dVar 1) dNil)) (dVar 2)))) (dRet (dC (.bl false))) dNx)
  (t_Front_make_fold_3 CFront sp_leads sp_Front_reach sp_Front_put E))
def t_Front_make_fold (CFront : Addr) (sp_leads : SpD) (sp_Front_reach : SpD) (sp_Front_put : SpD) (E : FM.DX) : TDS := (dSeq (dAsg (dOp ixR' (dFld CFront "standing" (dVar 0)) (dVar 1)) (dgTup 4 (dgCons (dgN 3) (dgCons (dgN 4) (dgCons (dgN 5) (dgCons (dgN 6) dgNil))))))
  (dSeq (dIfS (dOr (dNot (dB (dCall sp_leads [] E (dCons (dOp ixR' (dFld CFront "standing" (dVar 0)) (dVar 1)) dNil)))) (dB (dOp (eqR true) (dOp addR (dVar 4) (dVar 5)) (dFld CFront "height" (dVar 0))))) (dRet (dC (.bl false))) dNx)
  (t_Front_make_fold_2 CFront sp_leads sp_Front_reach sp_Front_put E)))
theorem ok_Front_make_fold (W : Wd fa fn K mg) {sp : SpD} {sp_leads : SpD} {sp_Front_reach : SpD} {sp_Front_put : SpD} (c_leads : Cal P w K mg base 2 "leads" sp_leads) (c_Front_reach : Met P w K mg base 1 (He.ga K "Front") "reach" sp_Front_reach) (c_Front_put : Met P w K mg base 3 (He.ga K "Front") "put" sp_Front_put) (ms : MonoSp sp) (hl : SpLen sp 3) (hm : Meets (t_Front_make_fold (He.ga K "Front") sp_leads sp_Front_reach sp_Front_put) 8 sp) : Met P w K mg base 4 (He.ga K "Front") "make_fold" sp := by
  obtain ⟨fd, G, F⟩ := fn_okD (P := P) (w := w) (base := base) (k := 3) (ps := ["self", "at", "place"]) (d := d_Front_make_fold) W 33 rfl sc_Front_make_fold hl (τ := t_Front_make_fold (He.ga K "Front") sp_leads sp_Front_reach sp_Front_put) (fun cdv A outer s H E B hr =>
    (dss_cons (ds_asg (de_ix (hu_of hr) (de_fld (W.cls 12) (W.noat 16) (dvar 0)) (dvar 1)) (dg_tup rfl (dgs_cons (dg_name sc_Front_make_fold.nd rfl (by first | exact .inl rfl | exact .inr rfl)) (dgs_cons (dg_name sc_Front_make_fold.nd rfl (by first | exact .inl rfl | exact .inr rfl)) (dgs_cons (dg_name sc_Front_make_fold.nd rfl (by first | exact .inl rfl | exact .inr rfl)) (dgs_cons (dg_name sc_Front_make_fold.nd rfl (by first | exact .inl rfl | exact .inr rfl)) dgs_nil))))))
    (dss_cons (ds_if (DW.dt (dw_or (dt_not (dt_val (de_callC c_leads (hr.mono (by decide)) (by exact rfl) (da_cons (de_ix (hu_of hr) (de_fld (W.cls 12) (W.noat 16) (dvar 0)) (dvar 1)) da_nil)))) (dw_or1 (dt_cmp (dop_ne hr.units) (de_op dop_add (dvar 4) (dvar 5)) (de_fld (W.cls 12) (W.noat 13) (dvar 0)))))) (dss_one (ds_ret de_bl)) dss_nil)
    (dss_cons (ds_if (DW.dt (dw_or (dt_not (dt_chain dop_le dop_lt (dvar 4) (dvar 2) (de_fld (W.cls 12) (W.noat 13) (dvar 0)))) (dw_or1 (dt_cmp dop_gt (de_methC (dvar 0) c_Front_reach (hr.mono (by decide)) (da_cons (dvar 1) da_nil)) (dvar 2))))) (dss_one (ds_ret de_bl)) dss_nil)
    (dss_cons (ds_set (i := 7) sc_Front_make_fold.nd rfl (by first | exact .inl rfl | exact .inr rfl) (de_op dop_sub (dvar 2) (dvar 4)))
    (dss_cons (ds_expr (de_m PySem.F.plainAttrs_list PySem.F.slot_list_append PySem.F.type_list_append dm_append (de_fld (W.cls 12) (W.noat 17) (dvar 0)) (da_cons (de_tup (da_cons de_str (da_cons (dvar 2) (da_cons (de_fld (W.cls 12) (W.noat 13) (dvar 0)) (da_cons (dvar 3) (da_cons (de_if (dt_cmp (dop_eq hr.units) (dvar 6) de_int) de_int (de_op dop_sub (dvar 4) (dvar 3))) (da_cons (dvar 6) da_nil))))))) da_nil)))
    (dss_cons (ds_if (dt_cmp (dop_eq hr.units) (dvar 7) de_int) (dss_one (ds_expr (de_methC (dvar 0) c_Front_put (hr.mono (by decide)) (da_cons (dvar 1) (da_cons de_non da_nil))))) (dss_one (ds_expr (de_methC (dvar 0) c_Front_put (hr.mono (by decide)) (da_cons (dvar 1) (da_cons (de_tup (da_cons (de_op dop_add (dvar 3) (de_op dop_mul (de_op dop_sub (dvar 5) (dvar 7)) (dvar 6))) (da_cons (dvar 4) (da_cons (dvar 7) (da_cons (dvar 6) da_nil))))) da_nil))))))
    (dss_cons (ds_fld (W.cls 12) (W.noat 13) (dvar 0) (dvar 2))
    (dss_one (ds_ret de_bl)))))))))) hm
  exact ⟨⟨_, fd, _, G, W.meth 57, (FunD.bindsN F fun _ _ _ _ _ _ us hl => match us, hl with | [_, _, _], _ => rfl)⟩, W.cls 12, ms⟩
def t_Front_make_3 (CFront : Addr) (sp_Front_make_bare : SpD) (sp_Front_make_idle : SpD) (sp_Front_make_half : SpD) (sp_Front_make_led : SpD) (sp_Front_make_fold : SpD) (E : FM.DX) : TDS := (dIfS (dNot (dB (dVar 4))) dNev dNx)
def t_Front_make_2 (CFront : Addr) (sp_Front_make_bare : SpD) (sp_Front_make_idle : SpD) (sp_Front_make_half : SpD) (sp_Front_make_led : SpD) (sp_Front_make_fold : SpD) (E : FM.DX) : TDS := (dSeq (dIfS (dB (dOp (eqR false) (dVar 2) (dC (.str "bare")))) (dSet 4 (dMeth CFront "make_bare" sp_Front_make_bare [] E (dVar 0) (dCons (dOp ixR' (dVar 3) (dC (.int 0))) dNil))) (dIfS (dB (dOp (inR true) (dOp ixR' (dVar 3) (dC (.int 0))) (dFld CFront "standing" (dVar 0)))) (dSet 4 (dC (.bl false))) (dIfS (dB (dOp (eqR false) (dVar 2) (dC (.str "idle")))) (dSet 4 (dMeth CFront "make_idle" sp_Front_make_idle [] E (dVar 0) (dCons (dOp ixR' (dVar 3) (dC (.int 0))) dNil))) (dIfS (dB (dOp (eqR false) (dVar 2) (dC (.str "halve")))) (dSet 4 (dMeth CFront "make_half" sp_Front_make_half [] E (dVar 0) (dCons (dOp ixR' (dVar 3) (dC (.int 0))) dNil))) (dIfS (dB (dOp (eqR false) (dVar 2) (dC (.str "merge")))) dNev (dIfS (dB (dOp (eqR false) (dVar 2) (dC (.str "lead")))) (dSet 4 (dMeth CFront "make_led" sp_Front_make_led [] E (dVar 0) (dCons (dOp ixR' (dVar 3) (dC (.int 0))) (dCons (dOp ixR' (dVar 3) (dC (.int 1))) (dCons (dOp ixR' (dVar 3) (dC (.int 2))) dNil))))) (dSet 4 (dMeth CFront "make_fold" sp_Front_make_fold [] E (dVar 0) (dCons (dOp ixR' (dVar 3) (dC (.int 0))) (dCons (dOp ixR' (dVar 3) (dC (.int 1))) dNil))))))))))
  (t_Front_make_3 CFront sp_Front_make_bare sp_Front_make_idle sp_Front_make_half sp_Front_make_led sp_Front_make_fold E))
def t_Front_make (CFront : Addr) (sp_Front_make_bare : SpD) (sp_Front_make_idle : SpD) (sp_Front_make_half : SpD) (sp_Front_make_led : SpD) (sp_Front_make_fold : SpD) (E : FM.DX) : TDS := (dSeq (dAsg (dVar 1) (dgStar 2 1 (dgCons (dgN 2) (dgCons (dgN 3) dgNil))))
  (dSeq (dIfS (dB (dCB anyR (dCons (dLc (dIAny (dVar 3)) (dgN 5) dYes (dCB isiR (dCons (dVar 5) (dCons (dC (.ty "bool")) dNil))) [5]) dNil))) dNev dNx)
  (t_Front_make_2 CFront sp_Front_make_bare sp_Front_make_idle sp_Front_make_half sp_Front_make_led sp_Front_make_fold E)))
theorem ok_Front_make (W : Wd fa fn K mg) {sp : SpD} {sp_Front_make_bare : SpD} {sp_Front_make_idle : SpD} {sp_Front_make_half : SpD} {sp_Front_make_led : SpD} {sp_Front_make_fold : SpD} (c_Front_make_bare : Met P w K mg base 2 (He.ga K "Front") "make_bare" sp_Front_make_bare) (c_Front_make_idle : Met P w K mg base 4 (He.ga K "Front") "make_idle" sp_Front_make_idle) (c_Front_make_half : Met P w K mg base 4 (He.ga K "Front") "make_half" sp_Front_make_half) (c_Front_make_led : Met P w K mg base 4 (He.ga K "Front") "make_led" sp_Front_make_led) (c_Front_make_fold : Met P w K mg base 4 (He.ga K "Front") "make_fold" sp_Front_make_fold) (ms : MonoSp sp) (hl : SpLen sp 2) (hm : Meets (t_Front_make (He.ga K "Front") sp_Front_make_bare sp_Front_make_idle sp_Front_make_half sp_Front_make_led sp_Front_make_fold) 6 sp) : Met P w K mg base 5 (He.ga K "Front") "make" sp := by
  obtain ⟨fd, G, F⟩ := fn_okD (P := P) (w := w) (base := base) (k := 4) (ps := ["self", "move"]) (d := d_Front_make) W 34 rfl sc_Front_make hl (τ := t_Front_make (He.ga K "Front") sp_Front_make_bare sp_Front_make_idle sp_Front_make_half sp_Front_make_led sp_Front_make_fold) (fun cdv A outer s H E B hr =>
    (dss_cons (ds_asg (dvar 1) (dg_star rfl (dgs_cons (dg_name sc_Front_make.nd rfl (by first | exact .inl rfl | exact .inr rfl)) (dgs_star (dgs_cons (dg_name sc_Front_make.nd rfl (by first | exact .inl rfl | exact .inr rfl)) dgs_nil)))))
    (dss_cons (ds_if (dt_val (de_callB (dc_any rfl) (by exact rfl) (W.free 9) boot_any (da_cons (de_lc rfl sc_Front_make.nd (di_any (dvar 3)) (blkOk_by (own := [(("number" : Str), 5)]) rfl) (fun s H C cl fp => (dgv_name sc_Front_make.nd rfl (by first | exact .inl rfl | exact .inr rfl) (by decide))) (fun s H C cl fp => dts_nil) (fun s H C cl fp => (de_callB (dc_isi) (by exact rfl) (W.free 8) boot_isinstance (da_cons (dvar 5) (da_cons (de_ty (by exact rfl) (W.free 7) boot_bool) da_nil))))) da_nil))) (dss_one ds_never) dss_nil)
    (dss_cons (ds_if (dt_cmp (dop_eq hr.units) (dvar 2) de_str) (dss_one (ds_set (i := 4) sc_Front_make.nd rfl (by first | exact .inl rfl | exact .inr rfl) (de_methC (dvar 0) c_Front_make_bare (hr.mono (by decide)) (da_cons (de_ix (hu_of hr) (dvar 3) de_int) da_nil)))) (dss_one (ds_if (dt_cmp (dop_notin (hu_of hr)) (de_ix (hu_of hr) (dvar 3) de_int) (de_fld (W.cls 12) (W.noat 16) (dvar 0))) (dss_one (ds_set (i := 4) sc_Front_make.nd rfl (by first | exact .inl rfl | exact .inr rfl) de_bl)) (dss_one (ds_if (dt_cmp (dop_eq hr.units) (dvar 2) de_str) (dss_one (ds_set (i := 4) sc_Front_make.nd rfl (by first | exact .inl rfl | exact .inr rfl) (de_methC (dvar 0) c_Front_make_idle (hr.mono (by decide)) (da_cons (de_ix (hu_of hr) (dvar 3) de_int) da_nil)))) (dss_one (ds_if (dt_cmp (dop_eq hr.units) (dvar 2) de_str) (dss_one (ds_set (i := 4) sc_Front_make.nd rfl (by first | exact .inl rfl | exact .inr rfl) (de_methC (dvar 0) c_Front_make_half (hr.mono (by decide)) (da_cons (de_ix (hu_of hr) (dvar 3) de_int) da_nil)))) (dss_one (ds_if (dt_cmp (dop_eq hr.units) (dvar 2) de_str) (dss_one ds_never) (dss_one (ds_if (dt_cmp (dop_eq hr.units) (dvar 2) de_str) (dss_one (ds_set (i := 4) sc_Front_make.nd rfl (by first | exact .inl rfl | exact .inr rfl) (de_methC (dvar 0) c_Front_make_led (hr.mono (by decide)) (da_cons (de_ix (hu_of hr) (dvar 3) de_int) (da_cons (de_ix (hu_of hr) (dvar 3) de_int) (da_cons (de_ix (hu_of hr) (dvar 3) de_int) da_nil)))))) (dss_one (ds_set (i := 4) sc_Front_make.nd rfl (by first | exact .inl rfl | exact .inr rfl) (de_methC (dvar 0) c_Front_make_fold (hr.mono (by decide)) (da_cons (de_ix (hu_of hr) (dvar 3) de_int) (da_cons (de_ix (hu_of hr) (dvar 3) de_int) da_nil))))))))))))))))
    (dss_one (ds_if (dt_not (dt_val (dvar 4))) (dss_one ds_never) dss_nil)))))) hm
  exact ⟨⟨_, fd, _, G, W.meth 58, (FunD.bindsN F fun _ _ _ _ _ _ us hl => match us, hl with | [_, _], _ => rfl)⟩, W.cls 12, ms⟩
def t_Front_twin (CFront : Addr) (sp_Front : SpD) (E : FM.DX) : TDS := (dSeq (dSet 1 (dMake CFront sp_Front [] E (dCons (dC (.int 0)) (dCons (dLst dNil) dNil))))
  (dSeq (dAsg (dTup (dCons (dFld CFront "height" (dVar 0)) (dCons (dCB dictRM (dCons (dFld CFront "standing" (dVar 0)) dNil)) (dCons (dCB listRM (dCons (dFld CFront "laid" (dVar 0)) dNil)) dNil)))) (dgTup 3 (dgCons (dgAttr CFront "height" (dVar 1)) (dgCons (dgAttr CFront "standing" (dVar 1)) (dgCons (dgAttr CFront "laid" (dVar 1)) dgNil)))))
  (dRet (dVar 1))))
theorem ok_Front_twin (W : Wd fa fn K mg) {sp : SpD} {sp_Front : SpD} (c_Front : Mak P w K mg base 4 "Front" (He.ga K "Front") sp_Front) (ms : MonoSp sp) (hl : SpLen sp 1) (hm : Meets (t_Front_twin (He.ga K "Front") sp_Front) 2 sp) : Met P w K mg base 6 (He.ga K "Front") "twin" sp := by
  obtain ⟨fd, G, F⟩ := fn_okD (P := P) (w := w) (base := base) (k := 5) (ps := ["self"]) (d := d_Front_twin) W 35 rfl sc_Front_twin hl (τ := t_Front_twin (He.ga K "Front") sp_Front) (fun cdv A outer s H E B hr =>
    (dss_cons (ds_set (i := 1) sc_Front_twin.nd rfl (by first | exact .inl rfl | exact .inr rfl) (de_makeC c_Front (hr.mono (by decide)) (by exact rfl) (da_cons de_int (da_cons (de_lst da_nil) da_nil))))
    (dss_cons (ds_asg (de_tup (da_cons (de_fld (W.cls 12) (W.noat 13) (dvar 0)) (da_cons (de_callTy dc_dict (by exact rfl) (W.free 6) boot_dict (da_cons (de_fld (W.cls 12) (W.noat 16) (dvar 0)) da_nil)) (da_cons (de_callTy dc_listM (by exact rfl) (W.free 0) boot_list (da_cons (de_fld (W.cls 12) (W.noat 17) (dvar 0)) da_nil)) da_nil)))) (dg_tup rfl (dgs_cons (dg_attr (W.cls 12) (W.noat 13) (dvar 1)) (dgs_cons (dg_attr (W.cls 12) (W.noat 16) (dvar 1)) (dgs_cons (dg_attr (W.cls 12) (W.noat 17) (dvar 1)) dgs_nil)))))
    (dss_one (ds_ret (dvar 1)))))) hm
  exact ⟨⟨_, fd, _, G, W.meth 59, (FunD.bindsN F fun _ _ _ _ _ _ us hl => match us, hl with | [_], _ => rfl)⟩, W.cls 12, ms⟩
def t_Front_left (CFront : Addr) (E : FM.DX) : TDS := (dRet (dLc (dIAny (dCB sortR (dCons (dFld CFront "standing" (dVar 0)) dNil))) (dgN 1) dYes (dTup (dCons (dVar 1) (dCons (dOp ixR' (dFld CFront "standing" (dVar 0)) (dVar 1)) dNil))) [1]))
theorem ok_Front_left (W : Wd fa fn K mg) {sp : SpD}   (ms : MonoSp sp) (hl : SpLen sp 1) (hm : Meets (t_Front_left (He.ga K "Front")) 2 sp) : Met P w K mg base 1 (He.ga K "Front") "left" sp := by
  obtain ⟨fd, G, F⟩ := fn_okD (P := P) (w := w) (base := base) (k := 0) (ps := ["self"]) (d := d_Front_left) W 36 rfl sc_Front_left hl (τ := t_Front_left (He.ga K "Front")) (fun cdv A outer s H E B hr =>
    (dss_one (ds_ret (de_lc rfl sc_Front_left.nd (di_any (de_callB (dc_sorted rfl) (by exact rfl) (W.free 5) boot_sorted (da_cons (de_fld (W.cls 12) (W.noat 16) (dvar 0)) da_nil))) (blkOk_by (own := [(("at" : Str), 1)]) rfl) (fun s H C cl fp => (dgv_name sc_Front_left.nd rfl (by first | exact .inl rfl | exact .inr rfl) (by decide))) (fun s H C cl fp => dts_nil) (fun s H C cl fp => (de_tup (da_cons (dvar 1) (da_cons (de_ix (hu_of hr) (de_fld (W.cls 12) (W.noat 16) (dvar 0)) (dvar 1)) da_nil)))))))) hm
  exact ⟨⟨_, fd, _, G, W.meth 60, (FunD.bindsN F fun _ _ _ _ _ _ us hl => match us, hl with | [_], _ => rfl)⟩, W.cls 12, ms⟩
def t_Front_led_on (CFront : Addr) (E : FM.DX) : TDS := (dRet (dCB listR (dCons (dFld CFront "laid" (dVar 0)) dNil)))
theorem ok_Front_led_on (W : Wd fa fn K mg) {sp : SpD}   (ms : MonoSp sp) (hl : SpLen sp 1) (hm : Meets (t_Front_led_on (He.ga K "Front")) 1 sp) : Met P w K mg base 1 (He.ga K "Front") "led_on" sp := by
  obtain ⟨fd, G, F⟩ := fn_okD (P := P) (w := w) (base := base) (k := 0) (ps := ["self"]) (d := d_Front_led_on) W 37 rfl sc_Front_led_on hl (τ := t_Front_led_on (He.ga K "Front")) (fun cdv A outer s H E B hr =>
    (dss_one (ds_ret (de_callTy dc_list (by exact rfl) (W.free 0) boot_list (da_cons (de_fld (W.cls 12) (W.noat 17) (dvar 0)) da_nil))))) hm
  exact ⟨⟨_, fd, _, G, W.meth 61, (FunD.bindsN F fun _ _ _ _ _ _ us hl => match us, hl with | [_], _ => rfl)⟩, W.cls 12, ms⟩
def t_law_like_6 (sp_law_like : SpD) (E : FM.DX) : TDS := (dRet (dCB allR (dCons (dLc (dIRng1 (dCons (dCB lenR (dCons (dVar 1) dNil)) dNil)) (dgN 2) dYes (dCall sp_law_like [] E (dCons (dOp ixR' (dVar 0) (dVar 2)) (dCons (dOp ixR' (dVar 1) (dVar 2)) dNil))) [2]) dNil)))
def t_law_like_5 (sp_law_like : SpD) (E : FM.DX) : TDS := (dSeq (dIfS (dB (dOp (eqR true) (dCB lenR (dCons (dVar 0) dNil)) (dCB lenR (dCons (dVar 1) dNil)))) (dRet (dC (.bl false))) dNx)
  (t_law_like_6 sp_law_like E))
def t_law_like_4 (sp_law_like : SpD) (E : FM.DX) : TDS := (dSeq (dIfS (dOr (dB (dOp (eqR true) (dCB isiR (dCons (dVar 1) (dCons (dC (.ty "tuple")) dNil))) (dCB isiR (dCons (dVar 0) (dCons (dC (.ty "tuple")) dNil))))) (dB (dOp (eqR true) (dCB isiR (dCons (dVar 1) (dCons (dC (.ty "list")) dNil))) (dCB isiR (dCons (dVar 0) (dCons (dC (.ty "list")) dNil)))))) (dRet (dC (.bl false))) dNx)
  (t_law_like_5 sp_law_like E))
def t_law_like_3 (sp_law_like : SpD) (E : FM.DX) : TDS := (dSeq (dIfS (dB (dCB isiR (dCons (dVar 1) (dCons (dC (.ty "str")) dNil)))) (dRet (dAndV (dCB isiR (dCons (dVar 0) (dCons (dC (.ty "str")) dNil))) (dOp (eqR false) (dVar 0) (dVar 1)))) dNx)
  (t_law_like_4 sp_law_like E))
def t_law_like_2 (sp_law_like : SpD) (E : FM.DX) : TDS := (dSeq (dIfS (dB (dCB isiR (dCons (dVar 1) (dCons (dC (.ty "int")) dNil)))) (dRet (dAndV (dCB isiR (dCons (dVar 0) (dCons (dC (.ty "int")) dNil))) (dAndV (dNotV (dCB isiR (dCons (dVar 0) (dCons (dC (.ty "bool")) dNil)))) (dOp (eqR false) (dVar 0) (dVar 1))))) dNx)
  (t_law_like_3 sp_law_like E))
def t_law_like_1 (sp_law_like : SpD) (E : FM.DX) : TDS := (dSeq (dIfS (dB (dCB isiR (dCons (dVar 1) (dCons (dC (.ty "bool")) dNil)))) (dRet (dAndV (dCB isiR (dCons (dVar 0) (dCons (dC (.ty "bool")) dNil))) (dOp (eqR false) (dVar 0) (dVar 1)))) dNx)
  (t_law_like_2 sp_law_like E))
def t_law_like (sp_law_like : SpD) (E : FM.DX) : TDS := (dSeq (dIfS (dB (dOp (isR false) (dVar 1) (dC .non))) (dRet (dOp (isR false) (dVar 0) (dC .non))) dNx)
  (t_law_like_1 sp_law_like E))
theorem ok_law_like (W : Wd fa fn K mg) {kk : Nat} {sp : SpD} {sp_law_like : SpD} (c_law_like : Cal P w K mg base kk "_law_like" sp_law_like) (ms : MonoSp sp) (hl : SpLen sp 2) (hm : Meets (t_law_like sp_law_like) 3 sp) : Cal P w K mg base (kk + 1) "_law_like" sp := by
  obtain ⟨fd, G, F⟩ := fn_okD (P := P) (w := w) (base := base) (k := kk) (ps := ["_law_found", "_law_due"]) (d := d_law_like) W 38 rfl sc_law_like hl (τ := t_law_like sp_law_like) (fun cdv A outer s H E B hr =>
    (dss_cons (ds_if (dt_cmp dop_is (dvar 1) de_non) (dss_one (ds_ret (de_cmp dop_is (dvar 0) de_non))) dss_nil)
    (dss_cons (ds_if (dt_val (de_callB (dc_isi) (by exact rfl) (W.free 8) boot_isinstance (da_cons (dvar 1) (da_cons (de_ty (by exact rfl) (W.free 7) boot_bool) da_nil)))) (dss_one (ds_ret (de_and (de_callB (dc_isi) (by exact rfl) (W.free 8) boot_isinstance (da_cons (dvar 0) (da_cons (de_ty (by exact rfl) (W.free 7) boot_bool) da_nil))) (de_one (de_cmp (dop_eq hr.units) (dvar 0) (dvar 1)))))) dss_nil)
    (dss_cons (ds_if (dt_val (de_callB (dc_isi) (by exact rfl) (W.free 8) boot_isinstance (da_cons (dvar 1) (da_cons (de_ty (by exact rfl) (W.free 18) boot_int) da_nil)))) (dss_one (ds_ret (de_and (de_callB (dc_isi) (by exact rfl) (W.free 8) boot_isinstance (da_cons (dvar 0) (da_cons (de_ty (by exact rfl) (W.free 18) boot_int) da_nil))) (de_and (de_not (de_callB (dc_isi) (by exact rfl) (W.free 8) boot_isinstance (da_cons (dvar 0) (da_cons (de_ty (by exact rfl) (W.free 7) boot_bool) da_nil)))) (de_one (de_cmp (dop_eq hr.units) (dvar 0) (dvar 1))))))) dss_nil)
    (dss_cons (ds_if (dt_val (de_callB (dc_isi) (by exact rfl) (W.free 8) boot_isinstance (da_cons (dvar 1) (da_cons (de_ty (by exact rfl) (W.free 19) boot_str) da_nil)))) (dss_one (ds_ret (de_and (de_callB (dc_isi) (by exact rfl) (W.free 8) boot_isinstance (da_cons (dvar 0) (da_cons (de_ty (by exact rfl) (W.free 19) boot_str) da_nil))) (de_one (de_cmp (dop_eq hr.units) (dvar 0) (dvar 1)))))) dss_nil)
    (dss_cons (ds_if (DW.dt (dw_or (dt_cmp (dop_ne hr.units) (de_callB (dc_isi) (by exact rfl) (W.free 8) boot_isinstance (da_cons (dvar 1) (da_cons (de_ty (by exact rfl) (W.free 15) boot_tuple) da_nil))) (de_callB (dc_isi) (by exact rfl) (W.free 8) boot_isinstance (da_cons (dvar 0) (da_cons (de_ty (by exact rfl) (W.free 15) boot_tuple) da_nil)))) (dw_or1 (dt_cmp (dop_ne hr.units) (de_callB (dc_isi) (by exact rfl) (W.free 8) boot_isinstance (da_cons (dvar 1) (da_cons (de_ty (by exact rfl) (W.free 0) boot_list) da_nil))) (de_callB (dc_isi) (by exact rfl) (W.free 8) boot_isinstance (da_cons (dvar 0) (da_cons (de_ty (by exact rfl) (W.free 0) boot_list) da_nil))))))) (dss_one (ds_ret de_bl)) dss_nil)
    (dss_cons (ds_if (dt_cmp (dop_ne hr.units) (de_callB (dc_len) (by exact rfl) (W.free 1) boot_len (da_cons (dvar 0) da_nil)) (de_callB (dc_len) (by exact rfl) (W.free 1) boot_len (da_cons (dvar 1) da_nil))) (dss_one (ds_ret de_bl)) dss_nil)
    (dss_one (ds_ret (de_callB (dc_all rfl) (by exact rfl) (W.free 20) boot_all (da_cons (de_lc rfl sc_law_like.nd (di_range1 (by exact rfl) (W.free 3) (da_cons (de_callB (dc_len) (by exact rfl) (W.free 1) boot_len (da_cons (dvar 1) da_nil)) da_nil)) (blkOk_by (own := [(("_law_j" : Str), 2)]) rfl) (fun s H C cl fp => (dgv_name sc_law_like.nd rfl (by first | exact .inl rfl | exact .inr rfl) (by decide))) (fun s H C cl fp => dts_nil) (fun s H C cl fp => (de_callC c_law_like hr (by exact rfl) (da_cons (de_ix (hu_of hr) (dvar 0) (dvar 2)) (da_cons (de_ix (hu_of hr) (dvar 1) (dvar 2)) da_nil))))) da_nil))))))))))) hm
  exact ⟨⟨_, fd, _, G, W.glo 62, F.kp, (FunD.bindsN F fun _ _ _ _ _ _ us hl => match us, hl with | [_, _], _ => rfl)⟩, ms⟩
def t_Front_top (CFront : Addr) (E : FM.DX) : TDS := (dRet (dFld CFront "height" (dVar 0)))
theorem ok_Front_top (W : Wd fa fn K mg) {sp : SpD}   (ms : MonoSp sp) (hl : SpLen sp 1) (hm : Meets (t_Front_top (He.ga K "Front")) 1 sp) : Met P w K mg base 1 (He.ga K "Front") "top" sp := by
  obtain ⟨fd, G, F⟩ := fn_okD (P := P) (w := w) (base := base) (k := 0) (ps := ["self"]) (d := d_Front_top) W 39 rfl sc_Front_top hl (τ := t_Front_top (He.ga K "Front")) (fun cdv A outer s H E B hr =>
    (dss_one (ds_ret (de_fld (W.cls 12) (W.noat 13) (dvar 0))))) hm
  exact ⟨⟨_, fd, _, G, W.meth 63, (FunD.bindsN F fun _ _ _ _ _ _ us hl => match us, hl with | [_], _ => rfl)⟩, W.cls 12, ms⟩
def t_law_stands (CFront : Addr) (sp_Front_led_on : SpD) (sp_Front_left : SpD) (sp_Front_top : SpD) (sp_law_like : SpD) (E : FM.DX) : TDS := (dSeq (dSet 2 (dLc (dIAny (dCB sortR (dCons (dOp ixR' (dVar 1) (dC (.int 1))) dNil))) (dgN 3) dYes (dTup (dCons (dVar 3) (dCons (dOp ixR' (dOp ixR' (dVar 1) (dC (.int 1))) (dVar 3)) dNil))) [3]))
  (dRet (dCall sp_law_like [] E (dCons (dLst (dCons (dMeth CFront "top" sp_Front_top [] E (dVar 0) dNil) (dCons (dMeth CFront "left" sp_Front_left [] E (dVar 0) dNil) (dCons (dMeth CFront "led_on" sp_Front_led_on [] E (dVar 0) dNil) dNil)))) (dCons (dLst (dCons (dOp ixR' (dVar 1) (dC (.int 0))) (dCons (dVar 2) (dCons (dOp ixR' (dVar 1) (dC (.int 2))) dNil)))) dNil)))))
theorem ok_law_stands (W : Wd fa fn K mg) {sp : SpD} {sp_Front_led_on : SpD} {sp_Front_left : SpD} {sp_Front_top : SpD} {sp_law_like : SpD} (c_Front_led_on : Met P w K mg base 1 (He.ga K "Front") "led_on" sp_Front_led_on) (c_Front_left : Met P w K mg base 1 (He.ga K "Front") "left" sp_Front_left) (c_Front_top : Met P w K mg base 1 (He.ga K "Front") "top" sp_Front_top) (c_law_like : Cal P w K mg base 5 "_law_like" sp_law_like) (ms : MonoSp sp) (hl : SpLen sp 2) (hm : Meets (t_law_stands (He.ga K "Front") sp_Front_led_on sp_Front_left sp_Front_top sp_law_like) 4 sp) : Cal P w K mg base 6 "_law_stands" sp := by
  obtain ⟨fd, G, F⟩ := fn_okD (P := P) (w := w) (base := base) (k := 5) (ps := ["_law_front", "_law_state"]) (d := d_law_stands) W 40 rfl sc_law_stands hl (τ := t_law_stands (He.ga K "Front") sp_Front_led_on sp_Front_left sp_Front_top sp_law_like) (fun cdv A outer s H E B hr =>
    (dss_cons (ds_setLcG fin_F mono_finF rfl sc_law_stands.nd rfl rfl rfl (di_any (de_callB (dc_sorted rfl) (by exact rfl) (W.free 5) boot_sorted (da_cons (de_ix (hu_of hr) (dvar 1) de_int) da_nil))) (blkOk_by (own := [(("_law_at" : Str), 3)]) rfl) (fun s H C cl fp => (dgv_name sc_law_stands.nd rfl (by first | exact .inl rfl | exact .inr rfl) (by decide))) (fun s H C cl fp => dts_nil) (fun s H C cl fp => (de_tup (da_cons (dvar 3) (da_cons (de_ix (hu_of hr) (de_ix (hu_of hr) (dvar 1) de_int) (dvar 3)) da_nil)))))
    (dss_one (ds_ret (de_callC c_law_like (hr.mono (by decide)) (by exact rfl) (da_cons (de_lst (da_cons (de_methC0 (dvar 0) c_Front_top (hr.mono (by decide))) (da_cons (de_methC0 (dvar 0) c_Front_left (hr.mono (by decide))) (da_cons (de_methC0 (dvar 0) c_Front_led_on (hr.mono (by decide))) da_nil)))) (da_cons (de_lst (da_cons (de_ix (hu_of hr) (dvar 1) de_int) (da_cons (dvar 2) (da_cons (de_ix (hu_of hr) (dvar 1) de_int) da_nil)))) da_nil))))))) hm
  exact ⟨⟨_, fd, _, G, W.glo 64, F.kp, (FunD.bindsN F fun _ _ _ _ _ _ us hl => match us, hl with | [_, _], _ => rfl)⟩, ms⟩
--LAW
def t_law_9 (CFront : Addr) (sp_law_open : SpD) (sp_law_road : SpD) (sp_law_pull : SpD) (sp_law_some_moves : SpD) (sp_Front : SpD) (sp_Front_make : SpD) (sp_Front_twin : SpD) (sp_Front_led_on : SpD) (sp_Front_left : SpD) (sp_law_wise : SpD) (sp_law_made : SpD) (sp_law_stands : SpD) (E : FM.DX) : TDS := (dRet (dOp (eqR false) (dCB reprR (dCons (dVar 10) dNil)) (dVar 11)))
def t_law_5 (CFront : Addr) (sp_law_open : SpD) (sp_law_road : SpD) (sp_law_pull : SpD) (sp_law_some_moves : SpD) (sp_Front : SpD) (sp_Front_make : SpD) (sp_Front_twin : SpD) (sp_Front_led_on : SpD) (sp_Front_left : SpD) (sp_law_wise : SpD) (sp_law_made : SpD) (sp_law_stands : SpD) (E : FM.DX) : TDS := (dSeq (dPar 8 9 (dCons (dLst (dCons (dVar 6) (dCons (dMeth CFront "twin" sp_Front_twin [] E (dVar 6) dNil) dNil))) (dCons (dLstM (dCons (dVar 5) (dCons (dVar 5) dNil))) dNil)))
  (dSeq (dSet 10 (dLst (dCons (dMeth CFront "left" sp_Front_left [] E (dVar 6) dNil) (dCons (dMeth CFront "led_on" sp_Front_led_on [] E (dVar 6) dNil) (dCons (dMeth CFront "left" sp_Front_left [] E (dOp ixR' (dVar 8) (dC (.int 1))) dNil) (dCons (dMeth CFront "led_on" sp_Front_led_on [] E (dOp ixR' (dVar 8) (dC (.int 1))) dNil) dNil))))))
  (dSeq (dSet 11 (dCB reprR (dCons (dVar 10) dNil)))
  (dSeq (dFor (dIRng1 (dCons (dC (.int 12)) dNil)) (dgN 12) (dSeq (dSet 13 (dCall sp_law_pull [] E (dCons (dVar 1) (dCons (dC (.int 2)) dNil))))
  (dSeq (dIfS (dB (dOp gtR (dOp ixR' (dOp ixR' (dVar 9) (dVar 13)) (dC (.int 0))) (dC (.int 0)))) (dSeq (dSet 7 (dCall sp_law_wise [] E (dCons (dVar 1) (dCons (dOp ixR' (dVar 9) (dVar 13)) dNil))))
  (dSeq (dDrop (dMeth CFront "make" sp_Front_make [] E (dOp ixR' (dVar 8) (dVar 13)) (dCons (dVar 7) dNil)))
  (dAsg (dCall sp_law_made [] E (dCons (dOp ixR' (dVar 9) (dVar 13)) (dCons (dVar 7) dNil))) (dgSub (dVar 9) (dVar 13))))) dNx)
  (dIfS (dOr (dNot (dB (dCall sp_law_stands [] E (dCons (dOp ixR' (dVar 8) (dC (.int 0))) (dCons (dOp ixR' (dVar 9) (dC (.int 0))) dNil))))) (dNot (dB (dCall sp_law_stands [] E (dCons (dOp ixR' (dVar 8) (dC (.int 1))) (dCons (dOp ixR' (dVar 9) (dC (.int 1))) dNil)))))) (dRet (dC (.bl false))) dNx))))
  (t_law_9 CFront sp_law_open sp_law_road sp_law_pull sp_law_some_moves sp_Front sp_Front_make sp_Front_twin sp_Front_led_on sp_Front_left sp_law_wise sp_law_made sp_law_stands E)))))
def t_law (CFront : Addr) (sp_law_open : SpD) (sp_law_road : SpD) (sp_law_pull : SpD) (sp_law_some_moves : SpD) (sp_Front : SpD) (sp_Front_make : SpD) (sp_Front_twin : SpD) (sp_Front_led_on : SpD) (sp_Front_left : SpD) (sp_law_wise : SpD) (sp_law_made : SpD) (sp_law_stands : SpD) (E : FM.DX) : TDS := (dSeq (dSet 1 (dCall sp_law_open [] E (dCons (dVar 0) dNil)))
  (dSeq (dAsg (dCall sp_law_road [] E (dCons (dVar 1) (dCons (dC (.int 30)) (dCons (dC (.int 5)) dNil)))) (dgTup 2 (dgCons (dgN 2) (dgCons (dgN 3) dgNil))))
  (dSeq (dAsg (dCall sp_law_some_moves [] E (dCons (dVar 1) (dCons (dVar 2) (dCons (dVar 3) (dCons (dCall sp_law_pull [] E (dCons (dVar 1) (dCons (dC (.int 13)) dNil))) dNil))))) (dgTup 2 (dgCons (dgN 4) (dgCons (dgN 5) dgNil))))
  (dSeq (dSet 6 (dMake CFront sp_Front [] E (dCons (dVar 2) (dCons (dVar 3) dNil))))
  (dSeq (dFor (dIAny (dVar 4)) (dgN 7) (dDrop (dMeth CFront "make" sp_Front_make [] E (dVar 6) (dCons (dVar 7) dNil))))
  (t_law_5 CFront sp_law_open sp_law_road sp_law_pull sp_law_some_moves sp_Front sp_Front_make sp_Front_twin sp_Front_led_on sp_Front_left sp_law_wise sp_law_made sp_law_stands E))))))
theorem ok_law (W : Wd fa fn K mg) {fd : FuncData} (F : FunD K d_law.name d_law.qual d_law.params d_law.body d_law.scope (d_law.dvs K) (d_law.kws K) (He.fAd K d_law.at_) fd) {sp : SpD} {sp_law_open : SpD} {sp_law_road : SpD} {sp_law_pull : SpD} {sp_law_some_moves : SpD} {sp_Front : SpD} {sp_Front_make : SpD} {sp_Front_twin : SpD} {sp_Front_led_on : SpD} {sp_Front_left : SpD} {sp_law_wise : SpD} {sp_law_made : SpD} {sp_law_stands : SpD} (c_law_open : Cal P w K mg base 1 "_law_open" sp_law_open) (c_law_road : Cal P w K mg base 3 "_law_road" sp_law_road) (c_law_pull : Cal P w K mg base 1 "_law_pull" sp_law_pull) (c_law_some_moves : Cal P w K mg base 5 "_law_some_moves" sp_law_some_moves) (c_Front : Mak P w K mg base 4 "Front" (He.ga K "Front") sp_Front) (c_Front_make : Met P w K mg base 5 (He.ga K "Front") "make" sp_Front_make) (c_Front_twin : Met P w K mg base 6 (He.ga K "Front") "twin" sp_Front_twin) (c_Front_led_on : Met P w K mg base 1 (He.ga K "Front") "led_on" sp_Front_led_on) (c_Front_left : Met P w K mg base 1 (He.ga K "Front") "left" sp_Front_left) (c_law_wise : Cal P w K mg base 3 "_law_wise" sp_law_wise) (c_law_made : Cal P w K mg base 4 "_law_made" sp_law_made) (c_law_stands : Cal P w K mg base 6 "_law_stands" sp_law_stands) (hl : SpLen sp 1) (hm : Meets (t_law (He.ga K "Front") sp_law_open sp_law_road sp_law_pull sp_law_some_moves sp_Front sp_Front_make sp_Front_twin sp_Front_led_on sp_Front_left sp_law_wise sp_law_made sp_law_stands) 14 sp) (hR : Room 7 callerA) : FnOkG P w K mg base CX0 (He.fAd K d_law.at_) fd ["_law_script"] (upSp ⟨P, w, K⟩ sp) ∧ ∀ (s : Shared) (u : Value), BindsTo s fd ⟨[u], []⟩ [("_law_script", u)] := by
  refine ⟨fn_okG F sc_law hR hl (τ := t_law (He.ga K "Front") sp_law_open sp_law_road sp_law_pull sp_law_some_moves sp_Front sp_Front_make sp_Front_twin sp_Front_led_on sp_Front_left sp_law_wise sp_law_made sp_law_stands) (fun cdv outer s H E B hr => ?_) hm, fun s u => (FunD.bindsA (ps := ["_law_script"]) F fun _ _ _ _ _ _ us hl => match us, hl with | [_], _ => rfl) s [u] rfl⟩
  exact (dss_cons (ds_set (i := 1) sc_law.nd rfl (by first | exact .inl rfl | exact .inr rfl) (de_callC c_law_open (hr.mono (by decide)) (by exact rfl) (da_cons (dvar 0) da_nil)))
    (dss_cons (ds_asg (de_callC c_law_road (hr.mono (by decide)) (by exact rfl) (da_cons (dvar 1) (da_cons de_int (da_cons de_int da_nil)))) (dg_tup rfl (dgs_cons (dg_name sc_law.nd rfl (by first | exact .inl rfl | exact .inr rfl)) (dgs_cons (dg_name sc_law.nd rfl (by first | exact .inl rfl | exact .inr rfl)) dgs_nil))))
    (dss_cons (ds_asg (de_callC c_law_some_moves (hr.mono (by decide)) (by exact rfl) (da_cons (dvar 1) (da_cons (dvar 2) (da_cons (dvar 3) (da_cons (de_callC c_law_pull (hr.mono (by decide)) (by exact rfl) (da_cons (dvar 1) (da_cons de_int da_nil))) da_nil))))) (dg_tup rfl (dgs_cons (dg_name sc_law.nd rfl (by first | exact .inl rfl | exact .inr rfl)) (dgs_cons (dg_name sc_law.nd rfl (by first | exact .inl rfl | exact .inr rfl)) dgs_nil))))
    (dss_cons (ds_set (i := 6) sc_law.nd rfl (by first | exact .inl rfl | exact .inr rfl) (de_makeC c_Front (hr.mono (by decide)) (by exact rfl) (da_cons (dvar 2) (da_cons (dvar 3) da_nil))))
    (dss_cons (ds_for PassesOwn.never rfl (di_any (dvar 4)) (dg_name sc_law.nd rfl (by first | exact .inl rfl | exact .inr rfl)) (dss_one (ds_expr (de_methC (dvar 6) c_Front_make (hr.mono (by decide)) (da_cons (dvar 7) da_nil)))))
    (dss_cons (ds_par rfl sc_law.nd rfl rfl (by decide) rfl rfl (da_cons (de_lst (da_cons (dvar 6) (da_cons (de_methC0 (dvar 6) c_Front_twin (hr.mono (by decide))) da_nil))) (da_cons (de_lstM (da_cons (dvar 5) (da_cons (dvar 5) da_nil))) da_nil)) rfl)
    (dss_cons (ds_set (i := 10) sc_law.nd rfl (by first | exact .inl rfl | exact .inr rfl) (de_lst (da_cons (de_methC0 (dvar 6) c_Front_left (hr.mono (by decide))) (da_cons (de_methC0 (dvar 6) c_Front_led_on (hr.mono (by decide))) (da_cons (de_methC0 (de_ix (hu_of hr) (dvar 8) de_int) c_Front_left (hr.mono (by decide))) (da_cons (de_methC0 (de_ix (hu_of hr) (dvar 8) de_int) c_Front_led_on (hr.mono (by decide))) da_nil))))))
    (dss_cons (ds_set (i := 11) sc_law.nd rfl (by first | exact .inl rfl | exact .inr rfl) (de_callB (dc_repr rfl (room66 hr)) (by exact rfl) (W.free 21) boot_repr (da_cons (dvar 10) da_nil)))
    (dss_cons (ds_for PassesOwn.never rfl (di_range1 (by exact rfl) (W.free 3) (da_cons de_int da_nil)) (dg_name sc_law.nd rfl (by first | exact .inl rfl | exact .inr rfl)) (dss_cons (ds_set (i := 13) sc_law.nd rfl (by first | exact .inl rfl | exact .inr rfl) (de_callC c_law_pull (hr.mono (by decide)) (by exact rfl) (da_cons (dvar 1) (da_cons de_int da_nil))))
    (dss_cons (ds_if (dt_cmp dop_gt (de_ix (hu_of hr) (de_ix (hu_of hr) (dvar 9) (dvar 13)) de_int) de_int) (dss_cons (ds_set (i := 7) sc_law.nd rfl (by first | exact .inl rfl | exact .inr rfl) (de_callC c_law_wise (hr.mono (by decide)) (by exact rfl) (da_cons (dvar 1) (da_cons (de_ix (hu_of hr) (dvar 9) (dvar 13)) da_nil))))
    (dss_cons (ds_expr (de_methC (de_ix (hu_of hr) (dvar 8) (dvar 13)) c_Front_make (hr.mono (by decide)) (da_cons (dvar 7) da_nil)))
    (dss_one (ds_asg (de_callC c_law_made (hr.mono (by decide)) (by exact rfl) (da_cons (de_ix (hu_of hr) (dvar 9) (dvar 13)) (da_cons (dvar 7) da_nil))) (dg_sub (hu_of hr) (dvar 9) (dvar 13)))))) dss_nil)
    (dss_one (ds_if (DW.dt (dw_or (dt_not (dt_val (de_callC c_law_stands (hr.mono (by decide)) (by exact rfl) (da_cons (de_ix (hu_of hr) (dvar 8) de_int) (da_cons (de_ix (hu_of hr) (dvar 9) de_int) da_nil))))) (dw_or1 (dt_not (dt_val (de_callC c_law_stands (hr.mono (by decide)) (by exact rfl) (da_cons (de_ix (hu_of hr) (dvar 8) de_int) (da_cons (de_ix (hu_of hr) (dvar 9) de_int) da_nil)))))))) (dss_one (ds_ret de_bl)) dss_nil)))))
    (dss_one (ds_ret (de_cmp (dop_eq hr.units) (de_callB (dc_repr rfl (room66 hr)) (by exact rfl) (W.free 21) boot_repr (da_cons (dvar 10) da_nil)) (dvar 11)))))))))))))
end
end K13

set_option Elab.async false
set_option linter.all false
set_option maxRecDepth 100000
set_option maxHeartbeats 4000000
namespace K13
open PySem PySem.Spec L2 FM
open PyProof.Rows hiding St

theorem dt {p : Prop} [Decidable p] (h : decide p = true) : p := of_decide_eq_true h
theorem df {p : Prop} [Decidable p] (h : decide p = false) : ¬ p := of_decide_eq_false h
abbrev dr (xs : List Int) (i a s : Int) : MO := .lst [.lst (xs.map D.int), .int i, .int a, .int s]
/-- a draw's cell -/
def DrawM (m : MO) : Prop := ∃ (xs : List Int) (i a s : Int), m = dr xs i a s ∧ 0 ≤ i ∧ 0 ≤ s ∧ s < 2147483629
def r_pull : SpR := fun ds M R => ∃ p m cap, ds = [.ref p, .int cap] ∧ M p = some m ∧ DrawM m ∧ 0 < cap ∧ cap < 2 ^ 63 ∧ R = fun d M' => ∃ n m', d = .int n ∧ 0 ≤ n ∧ n < cap ∧ DrawM m' ∧ M' = updM M p m'
theorem log9 {j : Int} (h0 : 0 < j) (h : j < 2 ^ 63) : CDivW 0 j := ⟨h0, by
  have : j.natAbs.log2 < 63 := (Nat.log2_lt (by omega)).mpr (by omega)
  omega⟩
theorem m_pull : Meets t_law_pull 5 (spOf r_pull) := by
  rintro ds M Q E dn ⟨R, ⟨p, m, cap, rfl, hM, ⟨xs, i, a, s, rfl, hi, hs0, hs1⟩, h0, h1, rfl⟩, hQ⟩
  have fin : ∀ xs i a s x, (0 : Int) ≤ i → 0 ≤ s → s < 2147483629 → Q (.int (x % cap)) (updM M p (dr xs i a s)) := fun xs i a s x h2 h3 h4 => hQ _ _ ⟨_, _, rfl, Int.emod_nonneg _ (by omega), Int.emod_lt_of_pos _ h0, ⟨xs, i, a, s, rfl, h2, h3, h4⟩, rfl⟩
  -- the step of the seed
  have rest : ∀ (c : Option D) xs i a s M', M' p = some (dr xs i a s) → 0 ≤ i → 0 ≤ s → s < 2147483629 → (∀ l, updM M' p l = updM M p l) → t_law_pull_1 E (fnEnds Q) [some (.ref p), some (.int cap), c, none, none] M' := by
    intro c xs i a s M' hM' hi hs0 hs1 hu
    ((conv => whnf); (repeat ((first | rw [hM'] | (refine andF ?_) | (refine andT ?_)); (conv => whnf))))
    refine ⟨fun hb => ?_, fun hb => ?_⟩
    · ((conv => whnf); (repeat ((first | rw [hM'] | (refine andF ?_) | (refine andT ?_)); (conv => whnf))))
      refine ⟨h0, ?_⟩
      ((conv => whnf); (repeat ((first | rw [hM'] | (refine andF ?_) | (refine andT ?_)); (conv => whnf))))
      refine ⟨log9 h0 h1, ?_⟩
      ((conv => whnf); (repeat ((first | rw [hM'] | (refine andF ?_) | (refine andT ?_)); (conv => whnf))))
      rw [hu]
      exact fin xs i _ s a hi hs0 hs1
    · ((conv => whnf); (repeat ((first | rw [hM'] | (refine andF ?_) | (refine andT ?_)); (conv => whnf))))
      have b1 : s * s % 2147483647 < 2147483647 := Int.emod_lt_of_pos _ (by decide)
      have b2 : 0 ≤ s * s % 2147483647 := Int.emod_nonneg _ (by decide)
      ((conv => whnf); (repeat ((first | rw [hM'] | rw [updM_same] | (refine andF ?_) | (refine andT ?_) | (refine And.intro (by first | exact rfl | exact Or.inr ⟨by decide, by decide⟩ | exact Or.inl ⟨by omega, by omega⟩ | exact ⟨by decide, by decide, by decide⟩ | exact ⟨by decide, by decide⟩ | decide | omega | assumption | (apply sz; simp; done) | exact tyC_l updM_same | exact tyC_l (by assumption) | exact tyC_d updM_same | exact tyC_d (by assumption)) ?_)); (conv => whnf))))
      have b3 := Int.emod_nonneg (s * s % 2147483647 * 3 + s * 45991 + 746773) (show (2147483629 : Int) ≠ 0 by decide)
      have b4 := Int.emod_lt_of_pos (s * s % 2147483647 * 3 + s * 45991 + 746773) (show (0 : Int) < 2147483629 by decide)
      refine ⟨fun hb => ?_, fun hb => ?_⟩
      · ((conv => whnf); (repeat ((first | rw [updM_same] | (refine andF ?_) | (refine andT ?_) | (refine And.intro (by first | exact rfl | exact Or.inr ⟨by decide, by decide⟩ | exact Or.inl ⟨by omega, by omega⟩ | exact ⟨by decide, by decide, by decide⟩ | exact ⟨by decide, by decide⟩ | decide | omega | assumption | (apply sz; simp; done) | exact tyC_l updM_same | exact tyC_l (by assumption) | exact tyC_d updM_same | exact tyC_d (by assumption)) ?_)); (conv => whnf))))
        rw [hu]
        exact fin xs i a _ _ hi b3 b4
      · ((conv => whnf); (repeat ((first | rw [updM_same] | (refine andF ?_) | (refine andT ?_) | (refine And.intro (by first | exact rfl | exact Or.inr ⟨by decide, by decide⟩ | exact Or.inl ⟨by omega, by omega⟩ | exact ⟨by decide, by decide, by decide⟩ | exact ⟨by decide, by decide⟩ | decide | omega | assumption | (apply sz; simp; done) | exact tyC_l updM_same | exact tyC_l (by assumption) | exact tyC_d updM_same | exact tyC_d (by assumption)) ?_)); (conv => whnf))))
        refine ⟨⟨by decide, by decide, by omega⟩, ?_⟩
        ((conv => whnf); (repeat ((first | rw [updM_same] | (refine andF ?_) | (refine andT ?_) | (refine And.intro (by first | exact rfl | exact Or.inr ⟨by decide, by decide⟩ | exact Or.inl ⟨by omega, by omega⟩ | exact ⟨by decide, by decide, by decide⟩ | exact ⟨by decide, by decide⟩ | decide | omega | assumption | (apply sz; simp; done) | exact tyC_l updM_same | exact tyC_l (by assumption) | exact tyC_d updM_same | exact tyC_d (by assumption)) ?_)); (conv => whnf))))
        rw [hu]
        exact fin xs i a _ _ hi b3 b4
  unfold t_law_pull; obtain ⟨T, hT⟩ : ∃ T, T = t_law_pull_1 E := ⟨_, rfl⟩; rw [← hT] at rest ⊢
  ((conv => whnf); (repeat ((first | rw [hM] | (refine andF ?_) | (refine andT ?_) | (refine And.intro (by first | exact rfl | exact Or.inr ⟨by decide, by decide⟩ | exact Or.inl ⟨by omega, by omega⟩ | exact ⟨by decide, by decide, by decide⟩ | exact ⟨by decide, by decide⟩ | decide | omega | assumption | (apply sz; simp; done) | exact tyC_l updM_same | exact tyC_l (by assumption) | exact tyC_d updM_same | exact tyC_d (by assumption)) ?_)); (conv => whnf))))
  refine ⟨fun hb => ?_, fun hb => ?_⟩
  · ((conv => whnf); (repeat ((first | rw [hM] | (refine andF ?_) | (refine andT ?_) | (refine And.intro (by first | exact rfl | exact Or.inr ⟨by decide, by decide⟩ | exact Or.inl ⟨by omega, by omega⟩ | exact ⟨by decide, by decide, by decide⟩ | exact ⟨by decide, by decide⟩ | decide | omega | assumption | (apply sz; simp; done) | exact tyC_l updM_same | exact tyC_l (by assumption) | exact tyC_d updM_same | exact tyC_d (by assumption)) ?_)); (conv => whnf))))
    refine ⟨fun hb2 => ?_, fun hb2 => ?_⟩
    · have hb2 : i < ((xs.map D.int).length : Nat) := dt hb2
      rw [List.length_map] at hb2
      have hx : ixD (xs.map D.int) i = some (.int (xs[i.toNat]'(by omega))) := by
        rw [ixD_ofNat hi, List.getElem?_map, List.getElem?_eq_getElem (by omega)]; rfl
      generalize xs[i.toNat]'(by omega) = c at hx
      ((conv => whnf); (repeat ((first | rw [hM] | rw [hx] | rw [updM_same] | (refine andF ?_) | (refine andT ?_) | (refine And.intro (by first | exact rfl | exact Or.inr ⟨by decide, by decide⟩ | exact Or.inl ⟨by omega, by omega⟩ | exact ⟨by decide, by decide, by decide⟩ | exact ⟨by decide, by decide⟩ | decide | omega | assumption | (apply sz; simp; done) | exact tyC_l updM_same | exact tyC_l (by assumption) | exact tyC_d updM_same | exact tyC_d (by assumption)) ?_)); (conv => whnf))))
      refine ⟨fun hb3 => ?_, fun hb3 => ?_⟩
      · ((conv => whnf); (repeat ((first | rw [hM] | rw [updM_same] | (refine andF ?_) | (refine andT ?_) | (refine And.intro (by first | exact rfl | exact Or.inr ⟨by decide, by decide⟩ | exact Or.inl ⟨by omega, by omega⟩ | exact ⟨by decide, by decide, by decide⟩ | exact ⟨by decide, by decide⟩ | decide | omega | assumption | (apply sz; simp; done) | exact tyC_l updM_same | exact tyC_l (by assumption) | exact tyC_d updM_same | exact tyC_d (by assumption)) ?_)); (conv => whnf))))
        exact rest _ xs (i + 1) c s _ updM_same (by omega) hs0 hs1 fun l => by simp only [updM_updM]
      · ((conv => whnf); (repeat ((first | rw [hM] | rw [updM_same] | (refine andF ?_) | (refine andT ?_) | (refine And.intro (by first | exact rfl | exact Or.inr ⟨by decide, by decide⟩ | exact Or.inl ⟨by omega, by omega⟩ | exact ⟨by decide, by decide, by decide⟩ | exact ⟨by decide, by decide⟩ | decide | omega | assumption | (apply sz; simp; done) | exact tyC_l updM_same | exact tyC_l (by assumption) | exact tyC_d updM_same | exact tyC_d (by assumption)) ?_)); (conv => whnf))))
        have b3 := Int.emod_nonneg (s * 39373 + c % 2147483647 * 48271 + 31) (show (2147483629 : Int) ≠ 0 by decide)
        have b4 := Int.emod_lt_of_pos (s * 39373 + c % 2147483647 * 48271 + 31) (show (0 : Int) < 2147483629 by decide)
        exact rest _ xs (i + 1) 0 _ _ updM_same (by omega) b3 b4 fun l => by simp only [updM_updM]
    · ((conv => whnf); (repeat ((first | rw [hM] | (refine andF ?_) | (refine andT ?_) | (refine And.intro (by first | exact rfl | exact Or.inr ⟨by decide, by decide⟩ | exact Or.inl ⟨by omega, by omega⟩ | exact ⟨by decide, by decide, by decide⟩ | exact ⟨by decide, by decide⟩ | decide | omega | assumption | (apply sz; simp; done) | exact tyC_l updM_same | exact tyC_l (by assumption) | exact tyC_d updM_same | exact tyC_d (by assumption)) ?_)); (conv => whnf))))
      exact rest _ xs i a s M hM hi hs0 hs1 fun _ => rfl
  · ((conv => whnf); (repeat ((first | rw [hM] | (refine andF ?_) | (refine andT ?_) | (refine And.intro (by first | exact rfl | exact Or.inr ⟨by decide, by decide⟩ | exact Or.inl ⟨by omega, by omega⟩ | exact ⟨by decide, by decide, by decide⟩ | exact ⟨by decide, by decide⟩ | decide | omega | assumption | (apply sz; simp; done) | exact tyC_l updM_same | exact tyC_l (by assumption) | exact tyC_d updM_same | exact tyC_d (by assumption)) ?_)); (conv => whnf))))
    exact rest _ xs i a s M hM hi hs0 hs1 fun _ => rfl
end K13

set_option Elab.async false
set_option linter.all false
set_option maxRecDepth 100000
set_option maxHeartbeats 4000000
namespace K13
open PySem PySem.Spec L2 FM
open PyProof.Rows hiding St

theorem call_pull {p : Addr} {m : MO} {cap : Int} {M : MH} {K : D → MH → Prop} (hM : M p = some m) (hm : DrawM m) (h0 : 0 < cap) (h1 : cap < 2 ^ 63) (k : ∀ n m', 0 ≤ n → n < cap → DrawM m' → K (.int n) (updM M p m')) :
    ∃ R, r_pull [.ref p, .int cap] M R ∧ ∀ d M', R d M' → K d M' :=
  ⟨_, ⟨p, m, cap, rfl, hM, hm, h0, h1, rfl⟩, fun d M' ⟨n, m', e1, h2, h3, h4, e2⟩ => by subst e1 e2; exact k n m' h2 h3 h4⟩
/-! any -/
def r_any : SpR := fun ds M R => ∃ (p : Addr) (m : MO) (ns : List Int), ds = [.ref p, .lst (ns.map D.int)] ∧ M p = some m ∧ DrawM m ∧ 0 < ns.length ∧ ns.length < 2 ^ 62 ∧ R = fun d M' => ∃ n m', d = .int n ∧ n ∈ ns ∧ DrawM m' ∧ M' = updM M p m'
theorem nth_int {ns : List Int} {n : Int} (h0 : 0 ≤ n) (h : n < ns.length) : ∃ x, x ∈ ns ∧ ixD (ns.map D.int) n = some (.int x) := by
  refine ⟨ns[n.toNat]'(by omega), List.getElem_mem _, ?_⟩
  rw [ixD_ofNat h0, List.getElem?_map, List.getElem?_eq_getElem (by omega)]; rfl
theorem m_any : Meets (t_law_any (spOf r_pull)) 2 (spOf r_any) := by
  rintro ds M Q E dn ⟨R, ⟨p, m, ns, rfl, hM, hm, h0, h1, rfl⟩, hQ⟩
  ((conv => whnf); (repeat ((first | rw [hM] | (refine andF ?_) | (refine andT ?_) | (refine And.intro (by first | exact rfl | exact Or.inr ⟨by decide, by decide⟩ | exact Or.inl ⟨by omega, by omega⟩ | exact ⟨by decide, by decide, by decide⟩ | exact ⟨by decide, by decide⟩ | decide | omega | assumption | (apply sz; simp; done) | exact tyC_l updM_same | exact tyC_l (by assumption) | exact tyC_d updM_same | exact tyC_d (by assumption)) ?_)); (conv => whnf))))
  refine call_pull hM hm (by rw [List.length_map]; omega) (by rw [List.length_map]; omega) fun n m' a b hm' => ?_
  rw [List.length_map] at b
  obtain ⟨x, hx, ex⟩ := nth_int a b
  ((conv => whnf); (repeat ((first | rw [ex] | (refine andF ?_) | (refine andT ?_) | (refine And.intro (by first | exact rfl | exact Or.inr ⟨by decide, by decide⟩ | exact Or.inl ⟨by omega, by omega⟩ | exact ⟨by decide, by decide, by decide⟩ | exact ⟨by decide, by decide⟩ | decide | omega | assumption | (apply sz; simp; done) | exact tyC_l updM_same | exact tyC_l (by assumption) | exact tyC_d updM_same | exact tyC_d (by assumption)) ?_)); (conv => whnf))))
  exact hQ _ _ ⟨x, m', rfl, hx, hm', rfl⟩
/-! less -/
def r_less : SpR := fun ds M R => ∃ p m cap, ds = [.ref p, .int cap] ∧ M p = some m ∧ DrawM m ∧ 0 < cap ∧ cap < 60 ∧ R = fun d M' => ∃ n m', d = .int n ∧ 0 ≤ n ∧ n < cap ∧ DrawM m' ∧ M' = updM M p m'
theorem m_less : Meets (t_law_less (spOf r_pull)) 2 (spOf r_less) := by
  rintro ds M Q E dn ⟨R, ⟨p, m, cap, rfl, hM, hm, h0, h1, rfl⟩, hQ⟩
  ((conv => whnf); (repeat ((first | rw [hM] | (refine andF ?_) | (refine andT ?_) | (refine And.intro (by first | exact rfl | exact Or.inr ⟨by decide, by decide⟩ | exact Or.inl ⟨by omega, by omega⟩ | exact ⟨by decide, by decide, by decide⟩ | exact ⟨by decide, by decide⟩ | decide | omega | assumption | (apply sz; simp; done) | exact tyC_l updM_same | exact tyC_l (by assumption) | exact tyC_d updM_same | exact tyC_d (by assumption)) ?_)); (conv => whnf))))
  refine ⟨fun hb => ?_, fun hb => absurd h1 (df hb)⟩
  ((conv => whnf); (repeat ((first | rw [hM] | (refine andF ?_) | (refine andT ?_) | (refine And.intro (by first | exact rfl | exact Or.inr ⟨by decide, by decide⟩ | exact Or.inl ⟨by omega, by omega⟩ | exact ⟨by decide, by decide, by decide⟩ | exact ⟨by decide, by decide⟩ | decide | omega | assumption | (apply sz; simp; done) | exact tyC_l updM_same | exact tyC_l (by assumption) | exact tyC_d updM_same | exact tyC_d (by assumption)) ?_)); (conv => whnf))))
  exact call_pull hM hm h0 (by omega) fun n m' a b hm' => hQ _ _ ⟨n, m', rfl, a, b, hm', rfl⟩
/-! rows -/
structure Row where
  o : Int
  t : Int
  m : Int
  f : Int
abbrev rowD (r : Row) : D := .tup [.int r.o, .int r.t, .int r.m, .int r.f]
/-- a row within a length -/
structure RowIn (n : Int) (r : Row) : Prop where
  o0 : 0 ≤ r.o
  t0 : 0 ≤ r.t
  m1 : 1 ≤ r.m
  f01 : r.f = 0 ∨ r.f = 1
  oe : r.o + r.m ≤ n
  te : r.t + r.m ≤ n
def r_mating : SpR := fun ds M R => ∃ p m n, ds = [.ref p, .int n] ∧ M p = some m ∧ DrawM m ∧ 1 ≤ n ∧ n ≤ 1000 ∧ R = fun d M' => ∃ r m', d = rowD r ∧ RowIn n r ∧ DrawM m' ∧ M' = updM M p m'
theorem m_mating : Meets (t_law_mating (spOf r_pull)) 4 (spOf r_mating) := by
  rintro ds M Q E dn ⟨R, ⟨p, m, n, rfl, hM, hm, h0, h1, rfl⟩, hQ⟩
  have rest : ∀ (k : Int) m', DrawM m' → 1 ≤ k → k ≤ n → t_law_mating_2 (spOf r_pull) E (fnEnds Q) [some (.ref p), some (.int n), some (.int k), none] (updM M p m') := by
    intro k m1 hm1 hk1 hk2
    ((conv => whnf); (repeat ((first | rw [updM_same] | (refine andF ?_) | (refine andT ?_) | (refine And.intro (by first | exact rfl | exact Or.inr ⟨by decide, by decide⟩ | exact Or.inl ⟨by omega, by omega⟩ | exact ⟨by decide, by decide, by decide⟩ | exact ⟨by decide, by decide⟩ | decide | omega | assumption | (apply sz; simp; done) | exact tyC_l updM_same | exact tyC_l (by assumption) | exact tyC_d updM_same | exact tyC_d (by assumption)) ?_)); (conv => whnf))))
    refine call_pull updM_same hm1 (by omega) (by omega) fun a m2 a0 a1 hm2 => ?_
    ((conv => whnf); (repeat ((first | rw [updM_same] | (refine andF ?_) | (refine andT ?_) | (refine And.intro (by first | exact rfl | exact Or.inr ⟨by decide, by decide⟩ | exact Or.inl ⟨by omega, by omega⟩ | exact ⟨by decide, by decide, by decide⟩ | exact ⟨by decide, by decide⟩ | decide | omega | assumption | (apply sz; simp; done) | exact tyC_l updM_same | exact tyC_l (by assumption) | exact tyC_d updM_same | exact tyC_d (by assumption)) ?_)); (conv => whnf))))
    refine call_pull updM_same hm2 (by omega) (by omega) fun b m3 b0 b1 hm3 => ?_
    ((conv => whnf); (repeat ((first | rw [updM_same] | (refine andF ?_) | (refine andT ?_) | (refine And.intro (by first | exact rfl | exact Or.inr ⟨by decide, by decide⟩ | exact Or.inl ⟨by omega, by omega⟩ | exact ⟨by decide, by decide, by decide⟩ | exact ⟨by decide, by decide⟩ | decide | omega | assumption | (apply sz; simp; done) | exact tyC_l updM_same | exact tyC_l (by assumption) | exact tyC_d updM_same | exact tyC_d (by assumption)) ?_)); (conv => whnf))))
    refine call_pull updM_same hm3 (by omega) (by omega) fun c m4 c0 c1 hm4 => ?_
    ((conv => whnf); (repeat ((first | rw [updM_same] | (refine andF ?_) | (refine andT ?_) | (refine And.intro (by first | exact rfl | exact Or.inr ⟨by decide, by decide⟩ | exact Or.inl ⟨by omega, by omega⟩ | exact ⟨by decide, by decide, by decide⟩ | exact ⟨by decide, by decide⟩ | decide | omega | assumption | (apply sz; simp; done) | exact tyC_l updM_same | exact tyC_l (by assumption) | exact tyC_d updM_same | exact tyC_d (by assumption)) ?_)); (conv => whnf))))
    simp only [updM_updM]
    exact hQ _ _ ⟨⟨a, b, k, c⟩, m4, rfl, ⟨a0, b0, hk1, by show c = 0 ∨ c = 1; omega, by show a + k ≤ n; omega, by show b + k ≤ n; omega⟩, hm4, rfl⟩
  unfold t_law_mating; obtain ⟨T, hT⟩ : ∃ T, T = t_law_mating_2 (spOf r_pull) E := ⟨_, rfl⟩; rw [← hT] at rest ⊢
  ((conv => whnf); (repeat ((first | rw [hM] | (refine andF ?_) | (refine andT ?_) | (refine And.intro (by first | exact rfl | exact Or.inr ⟨by decide, by decide⟩ | exact Or.inl ⟨by omega, by omega⟩ | exact ⟨by decide, by decide, by decide⟩ | exact ⟨by decide, by decide⟩ | decide | omega | assumption | (apply sz; simp; done) | exact tyC_l updM_same | exact tyC_l (by assumption) | exact tyC_d updM_same | exact tyC_d (by assumption)) ?_)); (conv => whnf))))
  refine call_pull hM hm (by omega) (by omega) fun a m1 a0 a1 hm1 => ?_
  ((conv => whnf); (repeat ((first | rw [updM_same] | (refine andF ?_) | (refine andT ?_) | (refine And.intro (by first | exact rfl | exact Or.inr ⟨by decide, by decide⟩ | exact Or.inl ⟨by omega, by omega⟩ | exact ⟨by decide, by decide, by decide⟩ | exact ⟨by decide, by decide⟩ | decide | omega | assumption | (apply sz; simp; done) | exact tyC_l updM_same | exact tyC_l (by assumption) | exact tyC_d updM_same | exact tyC_d (by assumption)) ?_)); (conv => whnf))))
  refine call_pull updM_same hm1 (by omega) (by omega) fun b m2 b0 b1 hm2 => ?_
  ((conv => whnf); (repeat ((first | rw [updM_same] | (refine andF ?_) | (refine andT ?_) | (refine And.intro (by first | exact rfl | exact Or.inr ⟨by decide, by decide⟩ | exact Or.inl ⟨by omega, by omega⟩ | exact ⟨by decide, by decide, by decide⟩ | exact ⟨by decide, by decide⟩ | decide | omega | assumption | (apply sz; simp; done) | exact tyC_l updM_same | exact tyC_l (by assumption) | exact tyC_d updM_same | exact tyC_d (by assumption)) ?_)); (conv => whnf))))
  refine ⟨fun hb => ?_, fun hb => ?_⟩
  · ((conv => whnf); (repeat ((first | rw [updM_same] | (refine andF ?_) | (refine andT ?_) | (refine And.intro (by first | exact rfl | exact Or.inr ⟨by decide, by decide⟩ | exact Or.inl ⟨by omega, by omega⟩ | exact ⟨by decide, by decide, by decide⟩ | exact ⟨by decide, by decide⟩ | decide | omega | assumption | (apply sz; simp; done) | exact tyC_l updM_same | exact tyC_l (by assumption) | exact tyC_d updM_same | exact tyC_d (by assumption)) ?_)); (conv => whnf))))
    have z : (0 : Int) < (if (5 : Int) < 1 + a then 5 else 1 + a) ∧ (if (5 : Int) < 1 + a then 5 else 1 + a) ≤ 1 + a := by split <;> omega
    refine call_pull updM_same hm2 z.1 (by omega) fun c m3 c0 c1 hm3 => ?_
    ((conv => whnf); (repeat ((first | rw [updM_same] | (refine andF ?_) | (refine andT ?_) | (refine And.intro (by first | exact rfl | exact Or.inr ⟨by decide, by decide⟩ | exact Or.inl ⟨by omega, by omega⟩ | exact ⟨by decide, by decide, by decide⟩ | exact ⟨by decide, by decide⟩ | decide | omega | assumption | (apply sz; simp; done) | exact tyC_l updM_same | exact tyC_l (by assumption) | exact tyC_d updM_same | exact tyC_d (by assumption)) ?_)); (conv => whnf))))
    simp only [updM_updM]
    exact rest (1 + c) m3 hm3 (by omega) (by omega)
  · ((conv => whnf); (repeat ((first | rw [updM_same] | (refine andF ?_) | (refine andT ?_) | (refine And.intro (by first | exact rfl | exact Or.inr ⟨by decide, by decide⟩ | exact Or.inl ⟨by omega, by omega⟩ | exact ⟨by decide, by decide, by decide⟩ | exact ⟨by decide, by decide⟩ | decide | omega | assumption | (apply sz; simp; done) | exact tyC_l updM_same | exact tyC_l (by assumption) | exact tyC_d updM_same | exact tyC_d (by assumption)) ?_)); (conv => whnf))))
    simp only [updM_updM]
    exact rest (1 + a) m2 hm2 (by omega) (by omega)
end K13

set_option Elab.async false
set_option linter.all false
set_option maxRecDepth 100000
set_option maxHeartbeats 4000000
namespace K13
open PySem PySem.Spec L2 FM
open PyProof.Rows hiding St

/-! comprehensions, by what a turn makes -/
theorem updM_swap {M : MH} {p q : Addr} {m : MO} {a b : MO} (h : p ≠ q) : updM (updM (updM M p m) q a) p b = updM (updM M p b) q a := by
  rw [updM_comm h, updM_updM, updM_comm (Ne.symm h)]
theorem lc_eff {g : TDG} {tt : TDT} {te : TDE} {vs : List Nat} {δ : DSt} {I : MO → Prop} {P : D → Prop} {p q : Addr} {M : MH} {K : MH → Prop} {Q : List D → MH → Prop} (hK : ∀ M, K M) : ∀ (xs acc : List D) (m : MO),
    (∀ x ∈ xs, ∀ m acc, I m → ∀ k : Option D → MH → Prop, (∀ y m', P y → I m' → k (some y) (updM (updM M p m') q (.lst acc))) → LcTurn g tt te vs δ x (updM (updM M p m) q (.lst acc)) k) →
    I m → acc.length + xs.length ≤ sizeLine → (∀ y ∈ acc, P y) → (∀ acc' m', I m' → acc'.length = acc.length + xs.length → (∀ y ∈ acc', P y) → Q acc' (updM (updM M p m') q (.lst acc'))) →
    LcGo g tt te vs δ q K Q xs acc (updM (updM M p m) q (.lst acc))
  | [], acc, m, _, hm, _, ha, fin => fin acc m hm rfl ha
  | x :: xs, acc, m, turn, hm, hl, ha, fin => by
    refine turn x (List.mem_cons_self ..) m acc hm _ fun y m' hy hm' => ?_
    rw [List.length_cons] at hl
    refine ⟨updM_same, by omega, hK _, ?_⟩
    rw [updM_updM]
    refine lc_eff hK xs (acc ++ [y]) m' (fun x hx => turn x (List.mem_cons_of_mem _ hx)) hm' (by rw [List.length_append, List.length_singleton]; omega) (fun z hz => ?_) fun acc' m2 h1 h2 h3 => fin acc' m2 h1 (by rw [h2, List.length_append, List.length_singleton, List.length_cons]; omega) h3
    rcases List.mem_append.mp hz with hz | hz
    · exact ha z hz
    · rw [List.mem_singleton.mp hz]; exact hy
/-- a plain comprehension: what each turn answers, the cells as they are -/
theorem lc_pureK {g : TDG} {tt : TDT} {te : TDE} {vs : List Nat} {δ : DSt} (f : D → Option D) {p : Addr} {K : MH → Prop} {Q : List D → MH → Prop} {M1 : MH} (hp : M1 p = none) (hK : ∀ acc, K (updM M1 p (.lst acc))) :
    ∀ (xs acc : List D), (∀ x ∈ xs, ∀ M0, MLe M1 M0 → ∀ k : Option D → MH → Prop, k (f x) M0 → LcTurn g tt te vs δ x M0 k) → acc.length + xs.length ≤ sizeLine → Q (acc ++ xs.filterMap f) (updM M1 p (.lst (acc ++ xs.filterMap f))) →
    LcGo g tt te vs δ p K Q xs acc (updM M1 p (.lst acc))
  | [], acc, _, _, q => by
    have q : Q (acc ++ []) (updM M1 p (.lst (acc ++ []))) := q
    rw [List.append_nil] at q; exact q
  | x :: xs, acc, hb, hl, q => by
    refine hb x (List.mem_cons_self ..) _ (MLe.new hp) _ ?_
    rw [List.filterMap_cons] at q
    rw [List.length_cons] at hl
    cases e : f x with
    | some y =>
      rw [e] at q
      refine ⟨updM_same, by omega, by rw [updM_updM]; exact hK _, ?_⟩
      rw [updM_updM]
      refine lc_pureK f hp hK xs _ (fun x hx => hb x (List.mem_cons_of_mem _ hx)) (by rw [List.length_append, List.length_singleton]; omega) ?_
      rw [List.append_assoc]; exact q
    | none =>
      rw [e] at q
      exact ⟨hK _, lc_pureK f hp hK xs _ (fun x hx => hb x (List.mem_cons_of_mem _ hx)) (by omega) q⟩
/-- the whole of it: a frozen list -/
theorem lc_all {g : TDG} {tt : TDT} {te : TDE} {vs : List Nat} {δ : DSt} (f : D → Option D) {K : MH → Prop} {Q : DQ} {M1 : MH} (hK : ∀ p acc, M1 p = none → K (updM M1 p (.lst acc))) (xs : List D)
    (hb : ∀ x ∈ xs, ∀ M0, MLe M1 M0 → ∀ k : Option D → MH → Prop, k (f x) M0 → LcTurn g tt te vs δ x M0 k) (hl : xs.length ≤ sizeLine) (q : Q (.lst (xs.filterMap f)) M1) :
    ∀ p, M1 p = none → K (updM M1 p (.lst [])) ∧ LcGo g tt te vs δ p K (fun acc M' => finF p acc M' Q) xs [] (updM M1 p (.lst [])) := fun p hp =>
  ⟨hK p [] hp, lc_pureK f hp (fun acc => hK p acc hp) xs [] hb (by simpa using hl) ⟨updM_same, by rw [delM_updM hp]; simpa using q⟩⟩
theorem fm_map {α β : Type} (f : α → β) : ∀ xs : List α, xs.filterMap (fun x => some (f x)) = xs.map f
  | [] => rfl
  | x :: xs => by rw [List.filterMap_cons, List.map_cons, fm_map f xs]

/-! road -/
def r_road : SpR := fun ds M R => ∃ p m n c, ds = [.ref p, .int n, .int c] ∧ M p = some m ∧ DrawM m ∧ 1 ≤ n ∧ n ≤ 1000 ∧ 0 ≤ c ∧ c ≤ 100 ∧ R = fun d M' => ∃ k rs m', d = .tup [.int k, .lst (List.map rowD rs)] ∧ 1 ≤ k ∧ k ≤ n ∧ (rs.length : Int) ≤ c ∧ (∀ r ∈ rs, RowIn k r) ∧ DrawM m' ∧ M' = updM M p m'
theorem rows_of {n : Int} : ∀ (acc : List D), (∀ y ∈ acc, ∃ r, y = rowD r ∧ RowIn n r) → ∃ rs : List Row, acc = rs.map rowD ∧ rs.length = acc.length ∧ ∀ r ∈ rs, RowIn n r
  | [], _ => ⟨[], rfl, rfl, fun _ h => by cases h⟩
  | y :: acc, h => by
    obtain ⟨r, e, hr⟩ := h y (List.mem_cons_self ..)
    obtain ⟨rs, e1, e2, e3⟩ := rows_of acc fun y hy => h y (List.mem_cons_of_mem _ hy)
    refine ⟨r :: rs, by rw [e, e1]; rfl, by simp [e2], fun x hx => ?_⟩
    rcases List.mem_cons.mp hx with z | z
    · rw [z]; exact hr
    · exact e3 x z
theorem call_mating {p : Addr} {m : MO} {n : Int} {M : MH} {K : D → MH → Prop} (hM : M p = some m) (hm : DrawM m) (h0 : 1 ≤ n) (h1 : n ≤ 1000) (k : ∀ r m', RowIn n r → DrawM m' → K (rowD r) (updM M p m')) :
    ∃ R, r_mating [.ref p, .int n] M R ∧ ∀ d M', R d M' → K d M' :=
  ⟨_, ⟨p, m, n, rfl, hM, hm, h0, h1, rfl⟩, fun d M' ⟨r, m', e1, h2, h3, e2⟩ => by subst e1 e2; exact k r m' h2 h3⟩
theorem m_road : Meets (t_law_road (spOf r_pull) (spOf r_mating)) 5 (spOf r_road) := by
  rintro ds M Q E dn ⟨R, ⟨p, m, n, c, rfl, hM, hm, h0, h1, h2, h3, rfl⟩, hQ⟩
  ((conv => whnf); (repeat ((first | rw [hM] | (refine andF ?_) | (refine andT ?_) | (refine And.intro (by first | exact rfl | exact Or.inr ⟨by decide, by decide⟩ | exact Or.inl ⟨by omega, by omega⟩ | exact ⟨by decide, by decide, by decide⟩ | exact ⟨by decide, by decide⟩ | decide | omega | assumption | (apply sz; simp; done) | exact tyC_l updM_same | exact tyC_l (by assumption) | exact tyC_d updM_same | exact tyC_d (by assumption)) ?_)); (conv => whnf))))
  refine call_pull hM hm (by omega) (by omega) fun a m1 a0 a1 hm1 => ?_
  ((conv => whnf); (repeat ((first | rw [updM_same] | (refine andF ?_) | (refine andT ?_) | (refine And.intro (by first | exact rfl | exact Or.inr ⟨by decide, by decide⟩ | exact Or.inl ⟨by omega, by omega⟩ | exact ⟨by decide, by decide, by decide⟩ | exact ⟨by decide, by decide⟩ | decide | omega | assumption | (apply sz; simp; done) | exact tyC_l updM_same | exact tyC_l (by assumption) | exact tyC_d updM_same | exact tyC_d (by assumption)) ?_)); (conv => whnf))))
  refine call_pull updM_same hm1 (by omega) (by omega) fun b m2 b0 b1 hm2 => ?_
  ((conv => whnf); (repeat ((first | rw [updM_same] | (refine andF ?_) | (refine andT ?_) | (refine And.intro (by first | exact rfl | exact Or.inr ⟨by decide, by decide⟩ | exact Or.inl ⟨by omega, by omega⟩ | exact ⟨by decide, by decide, by decide⟩ | exact ⟨by decide, by decide⟩ | decide | omega | assumption | (apply sz; simp; done) | exact tyC_l updM_same | exact tyC_l (by assumption) | exact tyC_d updM_same | exact tyC_d (by assumption)) ?_)); (conv => whnf))))
  intro q hq
  refine ⟨trivial, ?_⟩
  rw [updM_updM] at hq ⊢
  have hpq : p ≠ q := fun z => by subst z; rw [updM_same] at hq; cases hq
  refine lc_eff (M := M) (I := DrawM) (P := fun y => ∃ r, y = rowD r ∧ RowIn (1 + a) r) (fun _ => trivial) _ [] m2 (fun x hx m acc hm k hk => ?_) hm2 ?_ (fun _ h => by cases h) fun acc m3 hm3 hl hP => ?_
  · ((conv => whnf); (repeat ((first | rw [hM] | (refine andF ?_) | (refine andT ?_) | (refine And.intro (by first | exact rfl | exact Or.inr ⟨by decide, by decide⟩ | exact Or.inl ⟨by omega, by omega⟩ | exact ⟨by decide, by decide, by decide⟩ | exact ⟨by decide, by decide⟩ | decide | omega | assumption | (apply sz; simp; done) | exact tyC_l updM_same | exact tyC_l (by assumption) | exact tyC_d updM_same | exact tyC_d (by assumption)) ?_)); (conv => whnf))))
    refine call_mating (by rw [updM_ne hpq]; exact updM_same) hm (by omega) (by omega) fun r m' hr hm' => ?_
    ((conv => whnf); (repeat ((first | rw [hM] | (refine andF ?_) | (refine andT ?_) | (refine And.intro (by first | exact rfl | exact Or.inr ⟨by decide, by decide⟩ | exact Or.inl ⟨by omega, by omega⟩ | exact ⟨by decide, by decide, by decide⟩ | exact ⟨by decide, by decide⟩ | decide | omega | assumption | (apply sz; simp; done) | exact tyC_l updM_same | exact tyC_l (by assumption) | exact tyC_d updM_same | exact tyC_d (by assumption)) ?_)); (conv => whnf))))
    rw [updM_swap hpq]
    exact hk _ m' ⟨r, rfl, hr⟩ hm'
  · rw [List.length_nil, List.length_map, List.length_range, sizeLine_eq]; omega
  · obtain ⟨rs, e1, e2, e3⟩ := rows_of acc hP
    subst e1
    refine ⟨updM_same, ?_⟩
    have hd : updM M p m3 q = none := by rw [updM_ne (Ne.symm hpq)]; rw [updM_ne (Ne.symm hpq)] at hq; exact hq
    rw [delM_updM hd]
    ((conv => whnf); (repeat ((first | rw [hM] | (refine andF ?_) | (refine andT ?_) | (refine And.intro (by first | exact rfl | exact Or.inr ⟨by decide, by decide⟩ | exact Or.inl ⟨by omega, by omega⟩ | exact ⟨by decide, by decide, by decide⟩ | exact ⟨by decide, by decide⟩ | decide | omega | assumption | (apply sz; simp; done) | exact tyC_l updM_same | exact tyC_l (by assumption) | exact tyC_d updM_same | exact tyC_d (by assumption)) ?_)); (conv => whnf))))
    refine hQ _ _ ⟨1 + a, rs, m3, rfl, by omega, by omega, ?_, e3, hm3, rfl⟩
    rw [e2, hl, List.length_nil, List.length_map, List.length_range]; omega
end K13

set_option Elab.async false
set_option linter.all false
set_option maxRecDepth 100000
set_option maxHeartbeats 4000000
namespace K13
open PySem PySem.Spec L2 FM
open PyProof.Rows hiding St

theorem for_ind {D : DEnds} {g : TDG} {tb : TDS} {K : MH → Prop} (Inv : List FM.D → DSt → MH → Prop) (step : ∀ x r δ M, Inv (x :: r) δ M → ∀ k : DSt → MH → Prop, (∀ δ' M', K M' ∧ Inv r δ' M' → k δ' M') → g x δ M fun δ2 M2 => tb { D with nx := k, ct := k, bk := D.nx } δ2 M2)
    (fin : ∀ δ M, Inv [] δ M → D.nx δ M) : ∀ xs δ M, Inv xs δ M → ForGo D g tb K xs δ M
  | [], δ, M, h => fin δ M h
  | x :: xs, δ, M, h => step x xs δ M h _ fun δ' M' ⟨h1, h2⟩ => ⟨h1, for_ind Inv step fin xs δ' M' h2⟩
/-! shuffled -/
def r_shuffled : SpR := fun ds M R => ∃ (p : Addr) (m : MO) (ns : List Int), ds = [.ref p, .lst (ns.map D.int)] ∧ M p = some m ∧ DrawM m ∧ ns.length ≤ 1000 ∧ R = fun d M' => ∃ (ns' : List Int) (m' : MO), d = .lst (ns'.map D.int) ∧ ns'.Perm ns ∧ DrawM m' ∧ M' = updM M p m'
theorem erase_perm : ∀ (ls : List Int) (k : Nat) (x : Int), ls[k]? = some x → (x :: ls.eraseIdx k).Perm ls
  | y :: l, 0, x, h => by simp at h; subst h; exact .refl _
  | y :: l, k + 1, x, h => (List.Perm.swap y x _).trans ((erase_perm l k x (by simpa using h)).cons y)
theorem map_eraseIdx (f : Int → D) : ∀ (ls : List Int) (k : Nat), (ls.map f).eraseIdx k = (ls.eraseIdx k).map f
  | [], _ => rfl
  | _ :: _, 0 => rfl
  | x :: l, k + 1 => by rw [List.map_cons, List.eraseIdx_cons_succ, List.eraseIdx_cons_succ, List.map_cons, map_eraseIdx f l k]
theorem m_shuffled : Meets (t_law_shuffled (spOf r_pull)) 5 (spOf r_shuffled) := by
  rintro ds M Q E dn ⟨R, ⟨p, m, ns, rfl, hM, hm, hl, rfl⟩, hQ⟩
  have rest : ∀ (a b : Addr) (t : Option D) (m' : MO) (fs : List Int), M a = none → M b = none → a ≠ b → DrawM m' → fs.Perm ns → t_law_shuffled_3 (spOf r_pull) E (fnEnds Q) [some (.ref p), some (.lst (ns.map D.int)), some (.ref a), some (.ref b), t] (updM (updM (updM M p m') a (.lst [])) b (.lst (fs.map D.int))) := by
    intro a b t m' fs ha hb hab hm' hp
    ((conv => whnf); (repeat ((first | rw [updM_same] | (refine andF ?_) | (refine andT ?_) | (refine And.intro (by first | exact rfl | exact Or.inr ⟨by decide, by decide⟩ | exact Or.inl ⟨by omega, by omega⟩ | exact ⟨by decide, by decide, by decide⟩ | exact ⟨by decide, by decide⟩ | decide | omega | assumption | (apply sz; simp; done) | exact tyC_l updM_same | exact tyC_l (by assumption) | exact tyC_d updM_same | exact tyC_d (by assumption)) ?_)); (conv => whnf))))
    have hap : a ≠ p := fun z => by rw [z, hM] at ha; cases ha
    rw [delM_updM (by rw [updM_ne (Ne.symm hab), updM_ne (fun z => by rw [z, hM] at hb; cases hb)]; exact hb)]
    refine dn _ _ _ (MLe.new (by rw [updM_ne hap]; exact ha)) (hQ _ _ ⟨fs, m', rfl, hp, hm', rfl⟩)
  unfold t_law_shuffled; obtain ⟨T, hT⟩ : ∃ T, T = t_law_shuffled_3 (spOf r_pull) E := ⟨_, rfl⟩; rw [← hT] at rest ⊢
  ((conv => whnf); (repeat ((first | rw [hM] | (refine andF ?_) | (refine andT ?_) | (refine And.intro (by first | exact rfl | exact Or.inr ⟨by decide, by decide⟩ | exact Or.inl ⟨by omega, by omega⟩ | exact ⟨by decide, by decide, by decide⟩ | exact ⟨by decide, by decide⟩ | decide | omega | assumption | (apply sz; simp; done) | exact tyC_l updM_same | exact tyC_l (by assumption) | exact tyC_d updM_same | exact tyC_d (by assumption)) ?_)); (conv => whnf))))
  intro a ha
  ((conv => whnf); (repeat ((first | rw [hM] | (refine andF ?_) | (refine andT ?_) | (refine And.intro (by first | exact rfl | exact Or.inr ⟨by decide, by decide⟩ | exact Or.inl ⟨by omega, by omega⟩ | exact ⟨by decide, by decide, by decide⟩ | exact ⟨by decide, by decide⟩ | decide | omega | assumption | (apply sz; simp; done) | exact tyC_l updM_same | exact tyC_l (by assumption) | exact tyC_d updM_same | exact tyC_d (by assumption)) ?_)); (conv => whnf))))
  intro b hb
  have hab : a ≠ b := fun z => by subst z; rw [updM_same] at hb; cases hb
  have hb' : M b = none := by rw [updM_ne (Ne.symm hab)] at hb; exact hb
  have hap : a ≠ p := fun z => by rw [z, hM] at ha; cases ha
  have hbp : b ≠ p := fun z => by rw [z, hM] at hb'; cases hb'
  ((conv => whnf); (repeat ((first | rw [hM] | (refine andF ?_) | (refine andT ?_) | (refine And.intro (by first | exact rfl | exact Or.inr ⟨by decide, by decide⟩ | exact Or.inl ⟨by omega, by omega⟩ | exact ⟨by decide, by decide, by decide⟩ | exact ⟨by decide, by decide⟩ | decide | omega | assumption | (apply sz; simp; done) | exact tyC_l updM_same | exact tyC_l (by assumption) | exact tyC_d updM_same | exact tyC_d (by assumption)) ?_)); (conv => whnf))))
  refine ⟨by rw [List.length_map]; omega, trivial, for_ind (fun r δ M' => ∃ (m' : MO) (ls fs : List Int) (t : Option D), δ = [some (.ref p), some (.lst (ns.map D.int)), some (.ref a), some (.ref b), t] ∧ M' = updM (updM (updM M p m') a (.lst (ls.map D.int))) b (.lst (fs.map D.int)) ∧ DrawM m' ∧ (fs ++ ls).Perm ns ∧ ls.length = r.length)
    ?_ ?_ _ _ _ ⟨m, ns, [], none, rfl, ?_, hm, .refl _, ?_⟩⟩
  · rintro x r δ M' ⟨m', ls, fs, t, rfl, rfl, hm', hp, hlen⟩ k hk
    rw [List.length_cons] at hlen
    ((conv => whnf); (repeat ((first | rw [updM_same] | rw [(updM_ne hab)] | rw [(updM_ne (Ne.symm hap))] | rw [(updM_ne (Ne.symm hbp))] | (refine andF ?_) | (refine andT ?_) | (refine And.intro (by first | exact rfl | exact Or.inr ⟨by decide, by decide⟩ | exact Or.inl ⟨by omega, by omega⟩ | exact ⟨by decide, by decide, by decide⟩ | exact ⟨by decide, by decide⟩ | decide | omega | assumption | (apply sz; simp; done) | exact tyC_l updM_same | exact tyC_l (by assumption) | exact tyC_d updM_same | exact tyC_d (by assumption)) ?_)); (conv => whnf))))
    have hls : ls.length ≤ 1000 := by have := hp.length_eq; rw [List.length_append] at this; omega
    ((conv => whnf); (repeat ((first | (refine andF ?_) | (refine andT ?_) | (refine And.intro (by first | exact rfl | exact Or.inr ⟨by decide, by decide⟩ | exact Or.inl ⟨by omega, by omega⟩ | exact ⟨by decide, by decide, by decide⟩ | exact ⟨by decide, by decide⟩ | decide | omega | assumption | (apply sz; simp; done) | exact tyC_l updM_same | exact tyC_l (by assumption) | exact tyC_d updM_same | exact tyC_d (by assumption)) ?_)); (conv => whnf))))
    refine ⟨tyC_l (by rw [updM_ne hab]; exact updM_same), ?_⟩
    ((conv => whnf); (repeat ((first | rw [updM_same] | rw [(updM_ne hab)] | rw [(updM_ne (Ne.symm hap))] | rw [(updM_ne (Ne.symm hbp))] | (refine andF ?_) | (refine andT ?_) | (refine And.intro (by first | exact rfl | exact Or.inr ⟨by decide, by decide⟩ | exact Or.inl ⟨by omega, by omega⟩ | exact ⟨by decide, by decide, by decide⟩ | exact ⟨by decide, by decide⟩ | decide | omega | assumption | (apply sz; simp; done) | exact tyC_l updM_same | exact tyC_l (by assumption) | exact tyC_d updM_same | exact tyC_d (by assumption)) ?_)); (conv => whnf))))
    refine call_pull (by rw [updM_ne (Ne.symm hbp), updM_ne (Ne.symm hap)]; exact updM_same) hm' (by rw [List.length_map]; omega) (by rw [List.length_map]; omega) fun n m2 n0 n1 hm2 => ?_
    rw [List.length_map] at n1
    have ex : updM (updM (updM (updM M p m') a (.lst (ls.map D.int))) b (.lst (fs.map D.int))) p m2 = updM (updM (updM M p m2) a (.lst (ls.map D.int))) b (.lst (fs.map D.int)) := by
      rw [updM_comm hbp, updM_comm hap, updM_updM]
    rw [ex]
    have hx : ixW (ls.map D.int).length n = some n.toNat := by
      obtain ⟨j, rfl⟩ := Int.eq_ofNat_of_zero_le n0
      show (if j < (ls.map D.int).length then some j else none) = some j
      rw [if_pos (by rw [List.length_map]; omega)]
    have hy : nth (ls.map D.int) n.toNat = some (.int (ls[n.toNat]'(by omega))) := by
      rw [nth_eq, List.getElem?_map, List.getElem?_eq_getElem (by omega)]; rfl
    have hz : ls[n.toNat]? = some (ls[n.toNat]'(by omega)) := List.getElem?_eq_getElem (by omega)
    generalize ls[n.toNat]'(by omega) = y at hy hz
    have hfs : (fs.map D.int).length < sizeLine := by have := hp.length_eq; rw [List.length_append] at this; rw [List.length_map, sizeLine_eq]; omega
    ((conv => whnf); (repeat ((first | rw [updM_same] | rw [(updM_ne hab)] | rw [(updM_ne (Ne.symm hap))] | rw [(updM_ne (Ne.symm hbp))] | rw [(updM_ne (Ne.symm hab))] | rw [hx] | rw [hy] | (refine andF ?_) | (refine andT ?_) | (refine And.intro (by first | exact rfl | exact Or.inr ⟨by decide, by decide⟩ | exact Or.inl ⟨by omega, by omega⟩ | exact ⟨by decide, by decide, by decide⟩ | exact ⟨by decide, by decide⟩ | decide | omega | assumption | (apply sz; simp; done) | exact tyC_l updM_same | exact tyC_l (by assumption) | exact tyC_d updM_same | exact tyC_d (by assumption)) ?_)); (conv => whnf))))
    refine hk _ _ ⟨trivial, m2, ls.eraseIdx n.toNat, fs ++ [y], some x, rfl, ?_, hm2, ?_, ?_⟩
    · rw [updM_comm (Ne.symm hab), updM_updM, updM_updM, map_eraseIdx, List.map_append]; rfl
    · rw [List.append_assoc]
      exact ((erase_perm ls _ y hz).append_left fs).trans hp
    · rw [List.length_eraseIdx_of_lt (by omega)]; omega
  · rintro δ M' ⟨m', ls, fs, t, rfl, rfl, hm', hp, hlen⟩
    have : ls = [] := List.length_eq_zero_iff.mp hlen
    subst this
    rw [List.append_nil] at hp
    exact rest a b t m' fs ha hb' hab hm' hp
  · rw [updM_self hM]; rfl
  · rw [List.length_map, List.length_range, List.length_map]; omega
end K13

set_option Elab.async false
set_option linter.all false
set_option maxRecDepth 100000
set_option maxHeartbeats 4000000
namespace K13
open PySem PySem.Spec L2 FM
open PyProof.Rows hiding St

/-! ### rows of a state -/
abbrev kvR (L : List (Int × Row)) : List (Key × D) := L.map fun x => (Sum.inl x.1, rowD x.2)
structure S13 where
  top : Int
  L : List (Int × Row)
  laid : List D
abbrev stD (S : S13) : D := .tup [.int S.top, .dic (kvR S.L), .lst S.laid]
def fstR (r : Row) : Row := ⟨if r.t < r.o then r.t else r.o, if r.t > r.o then r.t else r.o, r.m, r.f⟩
/-! first -/
def r_first : SpR := fun ds M R => ∃ r, ds = [rowD r] ∧ R = fun d M' => d = rowD (fstR r) ∧ M' = M
theorem m_first : Meets t_law_first 5 (spOf r_first) := by
  rintro ds M Q E dn ⟨R, ⟨r, rfl, rfl⟩, hQ⟩
  ((conv => whnf); (repeat ((first | (refine andF ?_) | (refine andT ?_) | (refine And.intro (by first | exact rfl | exact Or.inr ⟨by decide, by decide⟩ | exact Or.inl ⟨by omega, by omega⟩ | exact ⟨by decide, by decide, by decide⟩ | exact ⟨by decide, by decide⟩ | decide | omega | assumption | (apply sz; simp; done) | exact tyC_l updM_same | exact tyC_l (by assumption) | exact tyC_d updM_same | exact tyC_d (by assumption)) ?_)); (conv => whnf))))
  exact hQ _ _ ⟨rfl, rfl⟩
theorem call_first {r : Row} {M : MH} {K : D → MH → Prop} (k : K (rowD (fstR r)) M) : ∃ R, r_first [rowD r] M R ∧ ∀ d M', R d M' → K d M' :=
  ⟨_, ⟨r, rfl, rfl⟩, fun d M' ⟨e1, e2⟩ => by subst e1 e2; exact k⟩
/-! leads -/
def leadsB (r : Row) : Bool := if r.f = 1 then decide (r.o + r.m ≤ r.t) else decide (r.o < r.t)
def r_leads : SpR := fun ds M R => ∃ r, ds = [rowD r] ∧ R = fun d M' => d = .bl (leadsB r) ∧ M' = M
theorem m_leads : Meets t_law_leads 5 (spOf r_leads) := by
  rintro ds M Q E dn ⟨R, ⟨r, rfl, rfl⟩, hQ⟩
  ((conv => whnf); (repeat ((first | (refine andF ?_) | (refine andT ?_) | (refine And.intro (by first | exact rfl | exact Or.inr ⟨by decide, by decide⟩ | exact Or.inl ⟨by omega, by omega⟩ | exact ⟨by decide, by decide, by decide⟩ | exact ⟨by decide, by decide⟩ | decide | omega | assumption | (apply sz; simp; done) | exact tyC_l updM_same | exact tyC_l (by assumption) | exact tyC_d updM_same | exact tyC_d (by assumption)) ?_)); (conv => whnf))))
  refine ⟨fun hb => ?_, fun hb => ?_⟩
  · ((conv => whnf); (repeat ((first | (refine andF ?_) | (refine andT ?_) | (refine And.intro (by first | exact rfl | exact Or.inr ⟨by decide, by decide⟩ | exact Or.inl ⟨by omega, by omega⟩ | exact ⟨by decide, by decide, by decide⟩ | exact ⟨by decide, by decide⟩ | decide | omega | assumption | (apply sz; simp; done) | exact tyC_l updM_same | exact tyC_l (by assumption) | exact tyC_d updM_same | exact tyC_d (by assumption)) ?_)); (conv => whnf))))
    have hb : r.f = 1 := dt hb
    exact hQ _ _ ⟨by unfold leadsB; rw [if_pos hb], rfl⟩
  · ((conv => whnf); (repeat ((first | (refine andF ?_) | (refine andT ?_) | (refine And.intro (by first | exact rfl | exact Or.inr ⟨by decide, by decide⟩ | exact Or.inl ⟨by omega, by omega⟩ | exact ⟨by decide, by decide, by decide⟩ | exact ⟨by decide, by decide⟩ | decide | omega | assumption | (apply sz; simp; done) | exact tyC_l updM_same | exact tyC_l (by assumption) | exact tyC_d updM_same | exact tyC_d (by assumption)) ?_)); (conv => whnf))))
    have hb : ¬ r.f = 1 := df hb
    exact hQ _ _ ⟨by unfold leadsB; rw [if_neg hb], rfl⟩
theorem call_leads {r : Row} {M : MH} {K : D → MH → Prop} (k : K (.bl (leadsB r)) M) : ∃ R, r_leads [rowD r] M R ∧ ∀ d M', R d M' → K d M' :=
  ⟨_, ⟨r, rfl, rfl⟩, fun d M' ⟨e1, e2⟩ => by subst e1 e2; exact k⟩
/-! lead, at the upper end -/
def ledAt (r l : Row) : Int := if l.f = 1 then l.o + l.t + l.m - r.t - r.m else l.o + (r.t - l.o) % (l.t - l.o)
def ledR (r l : Row) : Row := fstR ⟨r.o, ledAt r l, r.m, (r.f + l.f) % 2⟩
def r_lead : SpR := fun ds M R => ∃ r l, ds = [rowD r, .int 1, rowD l] ∧ l.t ≤ r.t ∧ r.t + r.m ≤ l.t + l.m ∧ (l.f = 1 ∨ l.o < l.t) ∧ R = fun d M' => d = rowD (ledR r l) ∧ M' = M
theorem m_lead : Meets (t_law_lead (spOf r_first)) 5 (spOf r_lead) := by
  rintro ds M Q E dn ⟨R, ⟨r, l, rfl, h1, h2, h3, rfl⟩, hQ⟩
  have rest : ∀ b, b = ledAt r l → t_law_lead_3 (spOf r_first) E (fnEnds Q) [some (rowD r), some (.int 1), some (rowD l), some (.int b), none] M := by
    intro b hb
    ((conv => whnf); (repeat ((first | (refine andF ?_) | (refine andT ?_) | (refine And.intro (by first | exact rfl | exact Or.inr ⟨by decide, by decide⟩ | exact Or.inl ⟨by omega, by omega⟩ | exact ⟨by decide, by decide, by decide⟩ | exact ⟨by decide, by decide⟩ | decide | omega | assumption | (apply sz; simp; done) | exact tyC_l updM_same | exact tyC_l (by assumption) | exact tyC_d updM_same | exact tyC_d (by assumption)) ?_)); (conv => whnf))))
    refine call_first (r := ⟨r.o, b, r.m, (r.f + l.f) % 2⟩) ?_
    exact hQ _ _ ⟨by rw [hb]; rfl, rfl⟩
  have rest2 : t_law_lead_2 (spOf r_first) E (fnEnds Q) [some (rowD r), some (.int 1), some (rowD l), some (.int r.t), none] M := by
    unfold t_law_lead_2; obtain ⟨T, hT⟩ : ∃ T, T = t_law_lead_3 (spOf r_first) E := ⟨_, rfl⟩; rw [← hT] at rest ⊢
    ((conv => whnf); (repeat ((first | (refine andF ?_) | (refine andT ?_) | (refine And.intro (by first | exact rfl | exact Or.inr ⟨by decide, by decide⟩ | exact Or.inl ⟨by omega, by omega⟩ | exact ⟨by decide, by decide, by decide⟩ | exact ⟨by decide, by decide⟩ | decide | omega | assumption | (apply sz; simp; done) | exact tyC_l updM_same | exact tyC_l (by assumption) | exact tyC_d updM_same | exact tyC_d (by assumption)) ?_)); (conv => whnf))))
    refine ⟨fun hb => ?_, fun hb => ?_⟩
    · have hb : l.f = 1 := dt hb
      ((conv => whnf); (repeat ((first | (refine andF ?_) | (refine andT ?_) | (refine And.intro (by first | exact rfl | exact Or.inr ⟨by decide, by decide⟩ | exact Or.inl ⟨by omega, by omega⟩ | exact ⟨by decide, by decide, by decide⟩ | exact ⟨by decide, by decide⟩ | decide | omega | assumption | (apply sz; simp; done) | exact tyC_l updM_same | exact tyC_l (by assumption) | exact tyC_d updM_same | exact tyC_d (by assumption)) ?_)); (conv => whnf))))
      exact rest _ (by unfold ledAt; rw [if_pos hb])
    · have hb : ¬ l.f = 1 := df hb
      ((conv => whnf); (repeat ((first | (refine andF ?_) | (refine andT ?_) | (refine And.intro (by first | exact rfl | exact Or.inr ⟨by decide, by decide⟩ | exact Or.inl ⟨by omega, by omega⟩ | exact ⟨by decide, by decide, by decide⟩ | exact ⟨by decide, by decide⟩ | decide | omega | assumption | (apply sz; simp; done) | exact tyC_l updM_same | exact tyC_l (by assumption) | exact tyC_d updM_same | exact tyC_d (by assumption)) ?_)); (conv => whnf))))
      exact rest _ (by unfold ledAt; rw [if_neg hb])
  clear rest
  unfold t_law_lead; obtain ⟨T, hT⟩ : ∃ T, T = t_law_lead_2 (spOf r_first) E := ⟨_, rfl⟩; rw [← hT] at rest2 ⊢
  ((conv => whnf); (repeat ((first | (refine andF ?_) | (refine andT ?_) | (refine And.intro (by first | exact rfl | exact Or.inr ⟨by decide, by decide⟩ | exact Or.inl ⟨by omega, by omega⟩ | exact ⟨by decide, by decide, by decide⟩ | exact ⟨by decide, by decide⟩ | decide | omega | assumption | (apply sz; simp; done) | exact tyC_l updM_same | exact tyC_l (by assumption) | exact tyC_d updM_same | exact tyC_d (by assumption)) ?_)); (conv => whnf))))
  refine ⟨fun hb => ?_, fun hb => ?_⟩
  · have hb : r.t < l.t := dt hb
    omega
  · ((conv => whnf); (repeat ((first | (refine andF ?_) | (refine andT ?_) | (refine And.intro (by first | exact rfl | exact Or.inr ⟨by decide, by decide⟩ | exact Or.inl ⟨by omega, by omega⟩ | exact ⟨by decide, by decide, by decide⟩ | exact ⟨by decide, by decide⟩ | decide | omega | assumption | (apply sz; simp; done) | exact tyC_l updM_same | exact tyC_l (by assumption) | exact tyC_d updM_same | exact tyC_d (by assumption)) ?_)); (conv => whnf))))
    refine ⟨fun hb => ?_, fun hb => ?_⟩
    · have hb : l.t + l.m < r.t + r.m := dt hb
      omega
    · ((conv => whnf); (repeat ((first | (refine andF ?_) | (refine andT ?_) | (refine And.intro (by first | exact rfl | exact Or.inr ⟨by decide, by decide⟩ | exact Or.inl ⟨by omega, by omega⟩ | exact ⟨by decide, by decide, by decide⟩ | exact ⟨by decide, by decide⟩ | decide | omega | assumption | (apply sz; simp; done) | exact tyC_l updM_same | exact tyC_l (by assumption) | exact tyC_d updM_same | exact tyC_d (by assumption)) ?_)); (conv => whnf))))
      exact rest2
/-! begun -/
theorem for_rng {D : DEnds} {g : TDG} {tb : TDS} {K : MH → Prop} {n : Nat} {f : Nat → FM.D} (Inv : Nat → DSt → MH → Prop) (step : ∀ i δ M, i < n → Inv i δ M → ∀ k : DSt → MH → Prop, (∀ δ' M', K M' ∧ Inv (i + 1) δ' M' → k δ' M') → g (f i) δ M fun δ2 M2 => tb { D with nx := k, ct := k, bk := D.nx } δ2 M2)
    (fin : ∀ δ M, Inv n δ M → D.nx δ M) (δ : DSt) (M : MH) (h : Inv 0 δ M) : ForGo D g tb K ((List.range n).map f) δ M := by
  refine for_ind (fun r δ M => ∃ i, r = ((List.range n).drop i).map f ∧ i ≤ n ∧ Inv i δ M) ?_ ?_ _ _ _ ⟨0, rfl, Nat.zero_le _, h⟩
  · rintro x r δ M ⟨i, e, hi, h⟩ k hk
    have hlt : i < n := by
      rcases Nat.lt_or_ge i n with z | z
      · exact z
      · rw [List.drop_of_length_le (by rw [List.length_range]; exact z)] at e; cases e
    rw [List.drop_eq_getElem_cons (by rw [List.length_range]; exact hlt), List.map_cons, List.getElem_range] at e
    injection e with e1 e2
    subst e1 e2
    exact step i δ M hlt h k fun δ' M' ⟨a, b⟩ => hk δ' M' ⟨a, i + 1, rfl, hlt, b⟩
  · rintro δ M ⟨i, e, hi, h⟩
    have : i = n := by
      rcases Nat.lt_or_ge i n with z | z
      · rw [List.drop_eq_getElem_cons (by rw [List.length_range]; exact z)] at e; cases e
      · omega
    subst this
    exact fin δ M h
def idx : Nat → List Row → List (Int × Row)
  | _, [] => []
  | i, r :: rs => ((i : Int), fstR r) :: idx (i + 1) rs
theorem idx_append : ∀ (i : Nat) (a b : List Row), idx i (a ++ b) = idx i a ++ idx (i + a.length) b
  | i, [], b => rfl
  | i, r :: a, b => by
    show ((i : Int), fstR r) :: idx (i + 1) (a ++ b) = ((i : Int), fstR r) :: (idx (i + 1) a ++ idx (i + (a.length + 1)) b)
    rw [idx_append (i + 1) a b, show i + 1 + a.length = i + (a.length + 1) by omega]
theorem idx_keys : ∀ (i : Nat) (a : List Row) (x : Int × Row), x ∈ idx i a → (i : Int) ≤ x.1 ∧ x.1 < (i + a.length : Nat)
  | i, r :: a, x, h => by
    rcases List.mem_cons.mp h with e | h
    · subst e; simp only [List.length_cons]; omega
    · have := idx_keys (i + 1) a x h; simp only [List.length_cons]; omega
theorem putA_new {κ α : Type} [DecidableEq κ] {L : List (κ × α)} {k : κ} {v : α} (h : ∀ x ∈ L, x.1 ≠ k) : putA L k v = L ++ [(k, v)] := by
  unfold putA
  rw [if_neg]
  rw [Bool.not_eq_true]
  rw [List.any_eq_false]
  intro x hx e
  exact h x hx (of_decide_eq_true e)
theorem idx_length : ∀ (i : Nat) (a : List Row), (idx i a).length = a.length
  | _, [] => rfl
  | i, r :: a => congrArg Nat.succ (idx_length (i + 1) a)
def begunS (n : Int) (rs : List Row) : S13 := ⟨n, idx 0 rs, []⟩
def r_begun : SpR := fun ds M R => ∃ (n : Int) (rs : List Row), ds = [.int n, .lst (rs.map rowD)] ∧ rs.length ≤ 100 ∧ R = fun d M' => d = stD (begunS n rs) ∧ M' = M
theorem m_begun : Meets (t_law_begun (spOf r_first)) 4 (spOf r_begun) := by
  rintro ds M Q E dn ⟨R, ⟨n, rs, rfl, hl, rfl⟩, hQ⟩
  have rest : ∀ (a : Addr) (t : Option D), M a = none → t_law_begun_2 (spOf r_first) E (fnEnds Q) [some (.int n), some (.lst (rs.map rowD)), some (.ref a), t] (updM M a (.dic (kvR (idx 0 rs)))) := by
    intro a t ha
    ((conv => whnf); (repeat ((first | rw [updM_same] | (refine andF ?_) | (refine andT ?_) | (refine And.intro (by first | exact rfl | exact Or.inr ⟨by decide, by decide⟩ | exact Or.inl ⟨by omega, by omega⟩ | exact ⟨by decide, by decide, by decide⟩ | exact ⟨by decide, by decide⟩ | decide | omega | assumption | (apply sz; simp; done) | exact tyC_l updM_same | exact tyC_l (by assumption) | exact tyC_d updM_same | exact tyC_d (by assumption)) ?_)); (conv => whnf))))
    rw [delM_updM ha]
    exact hQ _ _ ⟨rfl, rfl⟩
  unfold t_law_begun; obtain ⟨T, hT⟩ : ∃ T, T = t_law_begun_2 (spOf r_first) E := ⟨_, rfl⟩; rw [← hT] at rest ⊢
  ((conv => whnf); (repeat ((first | (refine andF ?_) | (refine andT ?_) | (refine And.intro (by first | exact rfl | exact Or.inr ⟨by decide, by decide⟩ | exact Or.inl ⟨by omega, by omega⟩ | exact ⟨by decide, by decide, by decide⟩ | exact ⟨by decide, by decide⟩ | decide | omega | assumption | (apply sz; simp; done) | exact tyC_l updM_same | exact tyC_l (by assumption) | exact tyC_d updM_same | exact tyC_d (by assumption)) ?_)); (conv => whnf))))
  intro a ha
  ((conv => whnf); (repeat ((first | (refine andF ?_) | (refine andT ?_) | (refine And.intro (by first | exact rfl | exact Or.inr ⟨by decide, by decide⟩ | exact Or.inl ⟨by omega, by omega⟩ | exact ⟨by decide, by decide, by decide⟩ | exact ⟨by decide, by decide⟩ | decide | omega | assumption | (apply sz; simp; done) | exact tyC_l updM_same | exact tyC_l (by assumption) | exact tyC_d updM_same | exact tyC_d (by assumption)) ?_)); (conv => whnf))))
  refine ⟨by rw [List.length_map]; omega, trivial, ?_⟩
  rw [List.length_map, Int.toNat_natCast]
  refine for_rng (fun i δ M' => ∃ t, δ = [some (.int n), some (.lst (rs.map rowD)), some (.ref a), t] ∧ M' = updM M a (.dic (kvR (idx 0 (rs.take i))))) ?_ ?_ _ _ ⟨none, rfl, rfl⟩
  · rintro i δ M' hi ⟨t, rfl, rfl⟩ k hk
    have hx : ixD (rs.map rowD) (i : Int) = some (rowD rs[i]) := by
      rw [ixD_nat rfl, List.getElem?_map, List.getElem?_eq_getElem hi]; rfl
    ((conv => whnf); (repeat ((first | rw [hx] | (refine andF ?_) | (refine andT ?_) | (refine And.intro (by first | exact rfl | exact Or.inr ⟨by decide, by decide⟩ | exact Or.inl ⟨by omega, by omega⟩ | exact ⟨by decide, by decide, by decide⟩ | exact ⟨by decide, by decide⟩ | decide | omega | assumption | (apply sz; simp; done) | exact tyC_l updM_same | exact tyC_l (by assumption) | exact tyC_d updM_same | exact tyC_d (by assumption)) ?_)); (conv => whnf))))
    refine call_first ?_
    have hlen : (kvR (idx 0 (rs.take i))).length < sizeLine := by
      rw [List.length_map, idx_length, List.length_take, sizeLine_eq]; omega
    ((conv => whnf); (repeat ((first | rw [updM_same] | (refine andF ?_) | (refine andT ?_) | (refine And.intro (by first | exact rfl | exact Or.inr ⟨by decide, by decide⟩ | exact Or.inl ⟨by omega, by omega⟩ | exact ⟨by decide, by decide, by decide⟩ | exact ⟨by decide, by decide⟩ | decide | omega | assumption | (apply sz; simp; done) | exact tyC_l updM_same | exact tyC_l (by assumption) | exact tyC_d updM_same | exact tyC_d (by assumption)) ?_)); (conv => whnf))))
    refine hk _ _ ⟨trivial, some (.int (i : Nat)), rfl, ?_⟩
    rw [updM_updM, putA_new (fun x hx e => ?_)]
    · rw [List.take_succ_eq_append_getElem hi, idx_append, Nat.zero_add, List.length_take, Nat.min_eq_left (by omega)]
      show _ = updM M a (.dic (List.map _ (_ ++ [((i : Int), fstR rs[i])])))
      rw [List.map_append]; rfl
    · obtain ⟨y, hy, rfl⟩ := List.mem_map.mp hx
      have := idx_keys 0 _ y hy
      rw [List.length_take] at this
      have e : y.1 = (i : Int) := by injection e
      omega
  · rintro δ M' ⟨t, rfl, rfl⟩
    rw [List.take_length]
    exact rest a t ha
end K13

set_option Elab.async false
set_option linter.all false
set_option maxRecDepth 100000
set_option maxHeartbeats 4000000
namespace K13
open PySem PySem.Spec L2 FM
open PyProof.Rows hiding St

theorem lc_allT {g : TDG} {tt : TDT} {te : TDE} {vs : List Nat} {δ : DSt} (f : D → Option D) {Q : DQ} {M1 : MH} (xs : List D)
    (hb : ∀ x ∈ xs, ∀ M0, MLe M1 M0 → ∀ k : Option D → MH → Prop, k (f x) M0 → LcTurn g tt te vs δ x M0 k) (hl : xs.length ≤ sizeLine) (q : Q (.lst (xs.filterMap f)) M1) :
    ∀ p, M1 p = none → True ∧ LcGo g tt te vs δ p (fun _ => True) (fun acc M' => finF p acc M' Q) xs [] (updM M1 p (.lst [])) := lc_all (K := fun _ => True) f (fun _ _ _ => trivial) xs hb hl q
/-! reach -/
def IsReach (L : List (Int × Row)) (but : Option Int) (n : Int) : Prop := 0 ≤ n ∧ (∀ x ∈ L, some x.1 ≠ but → x.2.t + x.2.m ≤ n) ∧ (n = 0 ∨ ∃ x ∈ L, some x.1 ≠ but ∧ n = x.2.t + x.2.m)
theorem IsReach.uniq {L : List (Int × Row)} {but : Option Int} {n m : Int} (h : IsReach L but n) (k : IsReach L but m) : n = m := by
  obtain ⟨a1, a2, a3⟩ := h
  obtain ⟨b1, b2, b3⟩ := k
  have h1 : n ≤ m := by
    rcases a3 with e | ⟨x, hx, hb, e⟩
    · omega
    · have := b2 x hx hb; omega
  have h2 : m ≤ n := by
    rcases b3 with e | ⟨x, hx, hb, e⟩
    · omega
    · have := a2 x hx hb; omega
  omega
def butD : Option Int → D
  | none => .non
  | some i => .int i
abbrev rowP (r : Row) : PyData := .tuple [.int r.o, .int r.t, .int r.m, .int r.f]
theorem pairs_kvR : ∀ L : List (Int × Row), pairsOf (kvR L) = some (L.map fun x => (x.1, rowD x.2, rowP x.2))
  | [] => rfl
  | x :: L => by
    show ((pd (rowD x.2)).bind fun y => (pairsOf (kvR L)).map fun l => (x.1, rowD x.2, y) :: l) = _
    rw [pairs_kvR L]; rfl
theorem asIn_some (ns : List Int) : asIn (ns.map D.int) = some ns := asIn_map ns
/-- sorted(d.items()) of rows -/
theorem rows_alike (L : List (Int × Row)) : ∀ x ∈ L.map (fun x => (x.1, rowD x.2, rowP x.2)), ∀ y ∈ L.map (fun x => (x.1, rowD x.2, rowP x.2)), PySem.W.alike x.2.2 y.2.2 = true := fun x hx y hy => by
  obtain ⟨a, _, rfl⟩ := List.mem_map.mp hx
  obtain ⟨b, _, rfl⟩ := List.mem_map.mp hy
  rfl
theorem rows_depth (L : List (Int × Row)) : ∀ x ∈ L.map (fun x => (x.1, rowD x.2, rowP x.2)), x.2.2.depth ≤ 32 := fun x hx => by
  obtain ⟨a, _, rfl⟩ := List.mem_map.mp hx
  simp only [PyData.depth, PyData.depthAll]; omega
theorem rows_perm {L : List (Int × Row)} {qs : List (Int × D × PyData)} (pm : qs.Perm (L.map (fun x => (x.1, rowD x.2, rowP x.2)))) (so : qs.Pairwise (fun x y => x.1 ≤ y.1)) :
    ∃ L' : List (Int × Row), L'.Perm L ∧ L'.Pairwise (fun x y => x.1 ≤ y.1) ∧ qs.map (fun x => D.tup [.int x.1, x.2.1]) = L'.map fun x => .tup [.int x.1, rowD x.2] := by
  obtain ⟨L', p1, e1⟩ := perm_lift (fun x : Int × Row => (x.1, rowD x.2, rowP x.2)) pm L rfl
  subst e1
  rw [List.pairwise_map] at so
  exact ⟨L', p1, so, by rw [List.map_map]; rfl⟩
def r_reach : SpR := fun ds M R => ∃ S b, ds = [stD S, butD b] ∧ S.L.length ≤ 1000 ∧ R = fun d M' => ∃ n, d = .int n ∧ IsReach S.L b n ∧ M' = M
def reachF (b : Option Int) : D → Option D
  | .tup [.int k, .tup [_, .int t, .int m, _]] => if some k = b then none else some (.int (t + m))
  | _ => none
theorem reach_fm (b : Option Int) : ∀ L : List (Int × Row), (L.map fun x => D.tup [.int x.1, rowD x.2]).filterMap (reachF b) = ((L.filter fun x => decide (some x.1 ≠ b)).map fun x => x.2.t + x.2.m).map D.int
  | [] => rfl
  | x :: L => by
    rw [List.map_cons, List.filterMap_cons, List.filter_cons]
    have e : reachF b (.tup [.int x.1, rowD x.2]) = if some x.1 = b then none else some (.int (x.2.t + x.2.m)) := rfl
    rw [e]
    by_cases h : some x.1 = b
    · rw [if_pos h, if_neg (by simp [h])]; exact reach_fm b L
    · rw [if_neg h, if_pos (by simp [h]), List.map_cons, List.map_cons, reach_fm b L]
theorem m_reach : Meets t_law_reach 4 (spOf r_reach) := by
  rintro ds M Q E dn ⟨R, ⟨S, b, rfl, hl, rfl⟩, hQ⟩
  ((conv => whnf); (repeat ((first | rw [(pairs_kvR S.L)] | (refine andF ?_) | (refine andT ?_) | (refine And.intro (by first | exact rfl | exact Or.inr ⟨by decide, by decide⟩ | exact Or.inl ⟨by omega, by omega⟩ | exact ⟨by decide, by decide, by decide⟩ | exact ⟨by decide, by decide⟩ | decide | omega | assumption | (apply sz; simp; done) | exact tyC_l updM_same | exact tyC_l (by assumption) | exact tyC_d updM_same | exact tyC_d (by assumption)) ?_)); (conv => whnf))))
  refine ⟨rows_alike _, rows_depth _, fun qs pm so => ?_⟩
  obtain ⟨L', pm, so, eq⟩ := rows_perm pm so
  rw [eq]
  ((conv => whnf); (repeat ((first | (refine andF ?_) | (refine andT ?_) | (refine And.intro (by first | exact rfl | exact Or.inr ⟨by decide, by decide⟩ | exact Or.inl ⟨by omega, by omega⟩ | exact ⟨by decide, by decide, by decide⟩ | exact ⟨by decide, by decide⟩ | decide | omega | assumption | (apply sz; simp; done) | exact tyC_l updM_same | exact tyC_l (by assumption) | exact tyC_d updM_same | exact tyC_d (by assumption)) ?_)); (conv => whnf))))
  refine lc_allT (reachF b) _ ?_ ?_ ?_
  · intro x hx M0 hM0 k hk
    obtain ⟨y, hy, rfl⟩ := List.mem_map.mp hx
    have hk : k (if some y.1 = b then none else some (.int (y.2.t + y.2.m))) M0 := hk
    cases b with
    | none =>
      ((conv => whnf); (repeat ((first | (refine andF ?_) | (refine andT ?_) | (refine And.intro (by first | exact rfl | exact Or.inr ⟨by decide, by decide⟩ | exact Or.inl ⟨by omega, by omega⟩ | exact ⟨by decide, by decide, by decide⟩ | exact ⟨by decide, by decide⟩ | decide | omega | assumption | (apply sz; simp; done) | exact tyC_l updM_same | exact tyC_l (by assumption) | exact tyC_d updM_same | exact tyC_d (by assumption)) ?_)); (conv => whnf))))
      exact hk
    | some i =>
      ((conv => whnf); (repeat ((first | (refine andF ?_) | (refine andT ?_) | (refine And.intro (by first | exact rfl | exact Or.inr ⟨by decide, by decide⟩ | exact Or.inl ⟨by omega, by omega⟩ | exact ⟨by decide, by decide, by decide⟩ | exact ⟨by decide, by decide⟩ | decide | omega | assumption | (apply sz; simp; done) | exact tyC_l updM_same | exact tyC_l (by assumption) | exact tyC_d updM_same | exact tyC_d (by assumption)) ?_)); (conv => whnf))))
      refine ⟨fun hb => ?_, fun hb => ?_⟩
      · have hb : (!decide (y.1 = i)) = true := hb
        have hne : ¬ y.1 = i := by simpa using hb
        ((conv => whnf); (repeat ((first | (refine andF ?_) | (refine andT ?_) | (refine And.intro (by first | exact rfl | exact Or.inr ⟨by decide, by decide⟩ | exact Or.inl ⟨by omega, by omega⟩ | exact ⟨by decide, by decide, by decide⟩ | exact ⟨by decide, by decide⟩ | decide | omega | assumption | (apply sz; simp; done) | exact tyC_l updM_same | exact tyC_l (by assumption) | exact tyC_d updM_same | exact tyC_d (by assumption)) ?_)); (conv => whnf))))
        rw [if_neg (fun z => hne (Option.some.inj z))] at hk
        exact hk
      · have hb : (!decide (y.1 = i)) = false := hb
        have he : y.1 = i := by simpa using hb
        rw [if_pos (by rw [he])] at hk
        exact hk
  · rw [List.length_map, pm.length_eq, sizeLine_eq]; omega
  · rw [reach_fm]
    ((conv => whnf); (repeat ((first | (refine andF ?_) | (refine andT ?_) | (refine And.intro (by first | exact rfl | exact Or.inr ⟨by decide, by decide⟩ | exact Or.inl ⟨by omega, by omega⟩ | exact ⟨by decide, by decide, by decide⟩ | exact ⟨by decide, by decide⟩ | decide | omega | assumption | (apply sz; simp; done) | exact tyC_l updM_same | exact tyC_l (by assumption) | exact tyC_d updM_same | exact tyC_d (by assumption)) ?_)); (conv => whnf))))
    refine ⟨by rw [List.length_map, List.length_map]; show 1 + _ ≤ _; have := List.length_filter_le (fun x : Int × Row => decide (some x.1 ≠ b)) L'; have := pm.length_eq; rw [sizeLine_eq]; omega, ?_⟩
    ((conv => whnf); (repeat ((first | (refine andF ?_) | (refine andT ?_) | (refine And.intro (by first | exact rfl | exact Or.inr ⟨by decide, by decide⟩ | exact Or.inl ⟨by omega, by omega⟩ | exact ⟨by decide, by decide, by decide⟩ | exact ⟨by decide, by decide⟩ | decide | omega | assumption | (apply sz; simp; done) | exact tyC_l updM_same | exact tyC_l (by assumption) | exact tyC_d updM_same | exact tyC_d (by assumption)) ?_)); (conv => whnf))))
    have e : asIn ([D.int 0] ++ List.map D.int (List.map (fun x => x.2.t + x.2.m) (List.filter (fun x : Int × Row => decide (some x.1 ≠ b)) L'))) = some (0 :: List.map (fun x => x.2.t + x.2.m) (List.filter (fun x : Int × Row => decide (some x.1 ≠ b)) L')) := asIn_map (0 :: _)
    rw [e]
    refine ⟨Nat.succ_pos _, fun m hm hmax => hQ _ _ ⟨m, rfl, ⟨hmax 0 (List.mem_cons_self ..), fun x hx hb => hmax _ (List.mem_cons_of_mem _ ?_), ?_⟩, rfl⟩⟩
    · exact List.mem_map.mpr ⟨x, List.mem_filter.mpr ⟨pm.mem_iff.mpr hx, by simpa using hb⟩, rfl⟩
    · rcases List.mem_cons.mp hm with z | z
      · exact .inl z
      · obtain ⟨x, hx, e2⟩ := List.mem_map.mp z
        obtain ⟨h1, h2⟩ := List.mem_filter.mp hx
        exact .inr ⟨x, pm.mem_iff.mp h1, by simpa using h2, e2.symm⟩
theorem call_reach {S : S13} {b : Option Int} {M : MH} {K : D → MH → Prop} (hl : S.L.length ≤ 1000) (k : ∀ n, IsReach S.L b n → K (.int n) M) : ∃ R, r_reach [stD S, butD b] M R ∧ ∀ d M', R d M' → K d M' :=
  ⟨_, ⟨S, b, rfl, hl, rfl⟩, fun d M' ⟨n, e1, h, e2⟩ => by subst e1 e2; exact k n h⟩
end K13

set_option Elab.async false
set_option linter.all false
set_option maxRecDepth 100000
set_option maxHeartbeats 4000000
namespace K13
open PySem PySem.Spec L2 FM
open PyProof.Rows hiding St

theorem val_kvR (k : Int) : ∀ L : List (Int × Row), valA (kvR L) (Sum.inl k) = (valA L k).map rowD
  | [] => rfl
  | x :: L => by
    have ih := val_kvR k L
    unfold valA at ih ⊢
    rw [show kvR (x :: L) = (Sum.inl x.1, rowD x.2) :: kvR L from rfl, List.find?_cons, List.find?_cons]
    by_cases h : x.1 = k
    · rw [show decide ((Sum.inl x.1 : Key) = Sum.inl k) = true by simp [h], show decide (x.1 = k) = true by simp [h]]; rfl
    · rw [show decide ((Sum.inl x.1 : Key) = Sum.inl k) = false by simp [h], show decide (x.1 = k) = false by simp [h]]; exact ih
theorem val_rw {L : List (Int × Row)} {k : Int} {r : Row} (h : valA L k = some r) : valA (kvR L) (Sum.inl k) = some (rowD r) := by rw [val_kvR, h]; rfl
theorem put_kvR (k : Int) (r : Row) (L : List (Int × Row)) : putA (kvR L) (Sum.inl k) (rowD r) = kvR (putA L k r) := by
  unfold putA
  have e : ((kvR L).any fun kv => decide (kv.1 = Sum.inl k)) = (L.any fun kv => decide (kv.1 = k)) := by
    rw [List.any_map]; congr 1; funext x; simp
  rw [e]
  split
  · show List.map _ (List.map _ L) = List.map _ (List.map _ L)
    rw [List.map_map, List.map_map]
    congr 1; funext x
    by_cases h : x.1 = k
    · simp [h]
    · simp [h]
  · show _ = List.map _ (L ++ [(k, r)])
    rw [List.map_append]; rfl
theorem drop_kvR (k : Int) (L : List (Int × Row)) : dropA (kvR L) (Sum.inl k) = kvR (dropA L k) := by
  unfold dropA
  rw [List.filter_map]
  congr 2
  funext x
  simp
theorem val_put {L : List (Int × Row)} {k : Int} {r : Row} (h : ∃ x, valA L k = some x) : valA (putA L k r) k = some r := by
  obtain ⟨x, hx⟩ := h
  unfold valA at hx ⊢
  unfold putA
  have ha : (L.any fun kv => decide (kv.1 = k)) = true := by
    rw [List.any_eq_true]
    obtain ⟨y, hy, _⟩ := Option.map_eq_some_iff.mp hx
    exact ⟨y, List.mem_of_find?_eq_some hy, List.find?_some (p := fun kv : Int × Row => decide (kv.1 = k)) hy⟩
  rw [if_pos ha]
  clear hx
  induction L with
  | nil => cases ha
  | cons y L ih =>
    rw [List.map_cons, List.find?_cons]
    by_cases h : y.1 = k
    · rw [if_pos h]; simp [h]
    · rw [if_neg h]
      simp only [decide_eq_true_eq, h, decide_false]
      rw [List.any_cons, decide_eq_false h, Bool.false_or] at ha
      exact ih ha
theorem drop_put {L : List (Int × Row)} {k : Int} {r : Row} (h : ∃ x, valA L k = some x) : dropA (putA L k r) k = dropA L k := by
  obtain ⟨x, hx⟩ := h
  unfold valA at hx
  unfold putA dropA
  have ha : (L.any fun kv => decide (kv.1 = k)) = true := by
    rw [List.any_eq_true]
    obtain ⟨y, hy, _⟩ := Option.map_eq_some_iff.mp hx
    exact ⟨y, List.mem_of_find?_eq_some hy, List.find?_some (p := fun kv : Int × Row => decide (kv.1 = k)) hy⟩
  rw [if_pos ha]
  clear hx ha
  induction L with
  | nil => rfl
  | cons y L ih =>
    rw [List.map_cons, List.filter_cons, List.filter_cons]
    by_cases h : y.1 = k
    · rw [if_pos h, if_neg (by simp [h]), if_neg (by simp [h])]; exact ih
    · rw [if_neg h, if_pos (by simp [h]), if_pos (by simp [h]), ih]
/-! ### the moves -/
def foldO (r : Row) (left : Int) : Int := if r.f = 1 then r.o + r.m - left else r.o
def halfR (r : Row) : Int := (r.t + r.m - r.o) / 2
abbrev mvI (k : Int) : D := .tup [.str "idle", .int k]
abbrev mvH (k : Int) : D := .tup [.str "halve", .int k]
abbrev mvB (p : Int) : D := .tup [.str "bare", .int p]
abbrev mvL (k b : Int) : D := .tup [.str "lead", .int k, .int 1, .int b]
abbrev mvF (k p : Int) : D := .tup [.str "fold", .int k, .int p]
inductive Step : S13 → D → S13 → Prop
  | idle {S k r} : valA S.L k = some r → r.f = 0 → r.o = r.t → Step S (mvI k) ⟨S.top, dropA S.L k, S.laid⟩
  | halve {S k r} : valA S.L k = some r → r.f = 1 → r.t < r.o + r.m → r.o ≤ r.t → Step S (mvH k) ⟨S.top, if halfR r = 0 then dropA S.L k else putA S.L k ⟨r.o, r.t + r.m - halfR r, halfR r, 1⟩, S.laid⟩
  | bare {S p n} : IsReach S.L none n → n ≤ p → p < S.top → Step S (mvB p) ⟨p, S.L, S.laid ++ [.tup [.str "bare", .int p, .int S.top]]⟩
  | lead {S k b r l} : valA S.L k = some r → valA S.L b = some l → k ≠ b → leadsB l = true → l.t ≤ r.t → r.t + r.m ≤ l.t + l.m → (r.f = 0 ∨ r.f = 1) → (l.f = 0 ∨ l.f = 1) → Step S (mvL k b) ⟨S.top, putA S.L k (ledR r l), S.laid⟩
  | fold {S k p r n} : valA S.L k = some r → leadsB r = true → r.t + r.m = S.top → r.t ≤ p → p < S.top → IsReach S.L (some k) n → n ≤ p → (r.f = 0 ∨ r.f = 1) → Step S (mvF k p) ⟨p, if p - r.t = 0 then dropA S.L k else putA S.L k ⟨foldO r (p - r.t), r.t, p - r.t, r.f⟩,
      S.laid ++ [.tup [.str "fold", .int p, .int S.top, .int r.o, .int (if r.f = 1 then 0 else r.t - r.o), .int r.f]]⟩
theorem delM_upd {M : MH} {a : Addr} {m : MO} : delM (updM M a m) a = delM M a := by
  funext b; unfold delM updM; split
  · rfl
  · rfl
def isLF : D → Bool
  | .tup [.str _, .int _, .int _, .int _] => true
  | .tup [.str _, .int _, .int _] => true
  | _ => false
def r_more : SpR := fun ds M R => ∃ S mv S' a, ds = [stD S, .ref a, mv] ∧ M a = some (.dic (kvR S.L)) ∧ Step S mv S' ∧ isLF mv = true ∧ S.L.length ≤ 1000 ∧ S.laid.length ≤ 1000 ∧ R = fun d M' => d = stD S' ∧ M' = delM M a
theorem more_6 {M : MH} {Q : DQ} {E : FM.DX} {S : S13} {a : Addr} {k p : Int} {r : Row} (hM : M a = some (.dic (kvR S.L))) (h1 : valA S.L k = some r) (hz : (kvR S.L).length < sizeLine) (hz2 : S.laid.length + 1 ≤ sizeLine)
   (hQ : ∀ d M', (fun d M' => d = stD ⟨p, if p - r.t = 0 then dropA S.L k else putA S.L k ⟨foldO r (p - r.t), r.t, p - r.t, r.f⟩, S.laid ++ [.tup [.str "fold", .int p, .int S.top, .int r.o, .int (if r.f = 1 then 0 else r.t - r.o), .int r.f]]⟩ ∧ M' = delM M a) d M' → Q d M') :
   t_law_made_more_6 (spOf r_leads) (spOf r_lead) (spOf r_reach) E (fnEnds Q) [some (stD S), some (.ref a), some (mvF k p), some (.int S.top), some (.dic (kvR S.L)), some (.lst S.laid), some (.int r.o), some (.int r.t), some (.int r.m), some (.int r.f), none, none] M := by
    have fin : ∀ L', L' = (if p - r.t = 0 then dropA S.L k else putA S.L k ⟨foldO r (p - r.t), r.t, p - r.t, r.f⟩) → ∀ M', delM M' a = delM M a → M' a = some (.dic (kvR L')) →
        t_law_made_more_9 (spOf r_leads) (spOf r_lead) (spOf r_reach) E (fnEnds Q) [some (stD S), some (.ref a), some (mvF k p), some (.int S.top), some (.dic (kvR S.L)), some (.lst S.laid), some (.int r.o), some (.int r.t), some (.int r.m), some (.int r.f), none, some (.int (p - r.t))] M' := by
      intro L' hL M' hM' ha
      ((conv => whnf); (repeat ((first | rw [ha] | (refine andF ?_) | (refine andT ?_) | (refine And.intro (by first | exact rfl | exact Or.inr ⟨by decide, by decide⟩ | exact Or.inl ⟨by omega, by omega⟩ | exact ⟨by decide, by decide, by decide⟩ | exact ⟨by decide, by decide⟩ | decide | omega | assumption | (apply sz; simp; done) | exact tyC_l updM_same | exact tyC_l (by assumption) | exact tyC_d updM_same | exact tyC_d (by assumption)) ?_)); (conv => whnf))))
      refine ⟨fun hb => ?_, fun hb => ?_⟩
      · have hb : r.f = 1 := dt hb
        ((conv => whnf); (repeat ((first | rw [ha] | (refine andF ?_) | (refine andT ?_) | (refine And.intro (by first | exact rfl | exact Or.inr ⟨by decide, by decide⟩ | exact Or.inl ⟨by omega, by omega⟩ | exact ⟨by decide, by decide, by decide⟩ | exact ⟨by decide, by decide⟩ | decide | omega | assumption | (apply sz; simp; done) | exact tyC_l updM_same | exact tyC_l (by assumption) | exact tyC_d updM_same | exact tyC_d (by assumption)) ?_)); (conv => whnf))))
        rw [hM']
        refine hQ _ _ ⟨by rw [if_pos hb, ← hL], rfl⟩
      · have hb : ¬ r.f = 1 := df hb
        ((conv => whnf); (repeat ((first | rw [ha] | (refine andF ?_) | (refine andT ?_) | (refine And.intro (by first | exact rfl | exact Or.inr ⟨by decide, by decide⟩ | exact Or.inl ⟨by omega, by omega⟩ | exact ⟨by decide, by decide, by decide⟩ | exact ⟨by decide, by decide⟩ | decide | omega | assumption | (apply sz; simp; done) | exact tyC_l updM_same | exact tyC_l (by assumption) | exact tyC_d updM_same | exact tyC_d (by assumption)) ?_)); (conv => whnf))))
        rw [hM']
        refine hQ _ _ ⟨by rw [if_neg hb, ← hL], rfl⟩
    unfold t_law_made_more_6; obtain ⟨T, hT⟩ : ∃ T, T = t_law_made_more_9 (spOf r_leads) (spOf r_lead) (spOf r_reach) E := ⟨_, rfl⟩; rw [← hT] at fin ⊢
    have v3 : ∀ r', valA (putA (kvR S.L) (Sum.inl k) (rowD r')) (Sum.inl k) = some (rowD r') := fun r' => by rw [put_kvR]; exact val_rw (val_put ⟨_, h1⟩)
    have main : ∀ o', o' = foldO r (p - r.t) → ifB (decide (p - r.t = 0)) (dDrop (dM "dict" dpopR (dVar 1) (dCons (dOp ixR' (dVar 2) (dC (.int 1))) dNil)) { fnEnds Q with nx := T (fnEnds Q) } [some (stD S), some (.ref a), some (mvF k p), some (.int S.top), some (.dic (kvR S.L)), some (.lst S.laid), some (.int r.o), some (.int r.t), some (.int r.m), some (.int r.f), none, some (.int (p - r.t))] (updM M a (.dic (putA (kvR S.L) (Sum.inl k) (rowD ⟨o', r.t, p - r.t, r.f⟩)))))
        (T (fnEnds Q) [some (stD S), some (.ref a), some (mvF k p), some (.int S.top), some (.dic (kvR S.L)), some (.lst S.laid), some (.int r.o), some (.int r.t), some (.int r.m), some (.int r.f), none, some (.int (p - r.t))] (updM M a (.dic (putA (kvR S.L) (Sum.inl k) (rowD ⟨o', r.t, p - r.t, r.f⟩))))) := by
      intro o' ho
      have v4 := v3 ⟨o', r.t, p - r.t, r.f⟩
      refine ⟨fun hb => ?_, fun hb => ?_⟩
      · have hb := dt hb
        ((conv => whnf); (repeat ((first | rw [updM_same] | rw [v4] | (refine andF ?_) | (refine andT ?_) | (refine And.intro (by first | exact rfl | exact Or.inr ⟨by decide, by decide⟩ | exact Or.inl ⟨by omega, by omega⟩ | exact ⟨by decide, by decide, by decide⟩ | exact ⟨by decide, by decide⟩ | decide | omega | assumption | (apply sz; simp; done) | exact tyC_l updM_same | exact tyC_l (by assumption) | exact tyC_d updM_same | exact tyC_d (by assumption)) ?_)); (conv => whnf))))
        rw [updM_updM]
        refine fin (dropA S.L k) (by rw [if_pos hb]) _ delM_upd ?_
        rw [updM_same, put_kvR, drop_kvR, drop_put ⟨_, h1⟩]
      · have hb := df hb
        refine fin (putA S.L k ⟨o', r.t, p - r.t, r.f⟩) (by rw [if_neg hb, ho]) _ delM_upd ?_
        rw [updM_same, put_kvR]
    ((conv => whnf); (repeat ((first | rw [hM] | (refine andF ?_) | (refine andT ?_) | (refine And.intro (by first | exact rfl | exact Or.inr ⟨by decide, by decide⟩ | exact Or.inl ⟨by omega, by omega⟩ | exact ⟨by decide, by decide, by decide⟩ | exact ⟨by decide, by decide⟩ | decide | omega | assumption | (apply sz; simp; done) | exact tyC_l updM_same | exact tyC_l (by assumption) | exact tyC_d updM_same | exact tyC_d (by assumption)) ?_)); (conv => whnf))))
    refine ⟨fun hb => ?_, fun hb => ?_⟩
    · have hb : r.f = 1 := dt hb
      ((conv => whnf); (repeat ((first | rw [hM] | (refine andF ?_) | (refine andT ?_) | (refine And.intro (by first | exact rfl | exact Or.inr ⟨by decide, by decide⟩ | exact Or.inl ⟨by omega, by omega⟩ | exact ⟨by decide, by decide, by decide⟩ | exact ⟨by decide, by decide⟩ | decide | omega | assumption | (apply sz; simp; done) | exact tyC_l updM_same | exact tyC_l (by assumption) | exact tyC_d updM_same | exact tyC_d (by assumption)) ?_)); (conv => whnf))))
      exact main (r.o + r.m - (p - r.t)) (by unfold foldO; rw [if_pos hb])
    · have hb : ¬ r.f = 1 := df hb
      ((conv => whnf); (repeat ((first | rw [hM] | (refine andF ?_) | (refine andT ?_) | (refine And.intro (by first | exact rfl | exact Or.inr ⟨by decide, by decide⟩ | exact Or.inl ⟨by omega, by omega⟩ | exact ⟨by decide, by decide, by decide⟩ | exact ⟨by decide, by decide⟩ | decide | omega | assumption | (apply sz; simp; done) | exact tyC_l updM_same | exact tyC_l (by assumption) | exact tyC_d updM_same | exact tyC_d (by assumption)) ?_)); (conv => whnf))))
      exact main r.o (by unfold foldO; rw [if_neg hb])

theorem m_more : Meets (t_law_made_more (spOf r_leads) (spOf r_lead) (spOf r_reach)) 12 (spOf r_more) := by
  rintro ds M Q E dn ⟨R, ⟨S, mv, S', a, rfl, hM, hst, hlf, hl1, hl2, rfl⟩, hQ⟩
  cases hst with
  | idle h1 h2 h3 => cases hlf
  | halve h1 h2 h3 => cases hlf
  | bare h1 h2 h3 => cases hlf
  | @lead k b r l h1 h2 h3 h4 h5 h6 h7 h8 =>
    have v1 := val_rw h1
    have v2 := val_rw h2
    ((conv => whnf); (repeat ((first | rw [hM] | rw [v1] | rw [v2] | (refine andF ?_) | (refine andT ?_) | (refine And.intro (by first | exact rfl | exact Or.inr ⟨by decide, by decide⟩ | exact Or.inl ⟨by omega, by omega⟩ | exact ⟨by decide, by decide, by decide⟩ | exact ⟨by decide, by decide⟩ | decide | omega | assumption | (apply sz; simp; done) | exact tyC_l updM_same | exact tyC_l (by assumption) | exact tyC_d updM_same | exact tyC_d (by assumption)) ?_)); (conv => whnf))))
    refine ⟨fun hb => absurd (of_decide_eq_true (p := b = k) hb) (Ne.symm h3), fun hb => ?_⟩
    ((conv => whnf); (repeat ((first | rw [hM] | rw [v1] | rw [v2] | (refine andF ?_) | (refine andT ?_) | (refine And.intro (by first | exact rfl | exact Or.inr ⟨by decide, by decide⟩ | exact Or.inl ⟨by omega, by omega⟩ | exact ⟨by decide, by decide, by decide⟩ | exact ⟨by decide, by decide⟩ | decide | omega | assumption | (apply sz; simp; done) | exact tyC_l updM_same | exact tyC_l (by assumption) | exact tyC_d updM_same | exact tyC_d (by assumption)) ?_)); (conv => whnf))))
    refine call_leads ?_
    rw [h4]
    ((conv => whnf); (repeat ((first | rw [hM] | rw [v1] | rw [v2] | (refine andF ?_) | (refine andT ?_) | (refine And.intro (by first | exact rfl | exact Or.inr ⟨by decide, by decide⟩ | exact Or.inl ⟨by omega, by omega⟩ | exact ⟨by decide, by decide, by decide⟩ | exact ⟨by decide, by decide⟩ | decide | omega | assumption | (apply sz; simp; done) | exact tyC_l updM_same | exact tyC_l (by assumption) | exact tyC_d updM_same | exact tyC_d (by assumption)) ?_)); (conv => whnf))))
    have h3' : l.f = 1 ∨ l.o < l.t := by
      unfold leadsB at h4
      split at h4
      · left; assumption
      · right; exact dt h4
    refine ⟨_, ⟨r, l, rfl, h5, h6, h3', rfl⟩, fun d M' ⟨e1, e2⟩ => ?_⟩
    subst e1 e2
    have hz : (kvR S.L).length < sizeLine := by rw [List.length_map, sizeLine_eq]; omega
    have v3 : valA (putA (kvR S.L) (Sum.inl k) (rowD (ledR r l))) (Sum.inl k) = some (rowD (ledR r l)) := by rw [put_kvR]; exact val_rw (val_put ⟨_, h1⟩)
    ((conv => whnf); (repeat ((first | rw [hM] | rw [v1] | rw [v2] | rw [updM_same] | rw [v3] | (refine andF ?_) | (refine andT ?_) | (refine And.intro (by first | exact rfl | exact Or.inr ⟨by decide, by decide⟩ | exact Or.inl ⟨by omega, by omega⟩ | exact ⟨by decide, by decide, by decide⟩ | exact ⟨by decide, by decide⟩ | decide | omega | assumption | (apply sz; simp; done) | exact tyC_l updM_same | exact tyC_l (by assumption) | exact tyC_d updM_same | exact tyC_d (by assumption)) ?_)); (conv => whnf))))
    rw [delM_upd, put_kvR]
    exact hQ _ _ ⟨rfl, rfl⟩
  | @fold k p r n h1 h2 h3 h4 h5 h6 h7 h8 =>
    have v1 := val_rw h1
    have hz : (kvR S.L).length < sizeLine := by rw [List.length_map, sizeLine_eq]; omega
    have hz2 : S.laid.length + 1 ≤ sizeLine := by rw [sizeLine_eq]; omega
    have rest := more_6 (E := E) hM h1 hz hz2 hQ
    unfold t_law_made_more t_law_made_more_3 t_law_made_more_4 t_law_made_more_5; obtain ⟨T, hT⟩ : ∃ T, T = t_law_made_more_6 (spOf r_leads) (spOf r_lead) (spOf r_reach) E := ⟨_, rfl⟩; rw [← hT] at rest ⊢
    ((conv => whnf); (repeat ((first | rw [hM] | rw [v1] | (refine andF ?_) | (refine andT ?_) | (refine And.intro (by first | exact rfl | exact Or.inr ⟨by decide, by decide⟩ | exact Or.inl ⟨by omega, by omega⟩ | exact ⟨by decide, by decide, by decide⟩ | exact ⟨by decide, by decide⟩ | decide | omega | assumption | (apply sz; simp; done) | exact tyC_l updM_same | exact tyC_l (by assumption) | exact tyC_d updM_same | exact tyC_d (by assumption)) ?_)); (conv => whnf))))
    refine call_leads ?_
    rw [h2]
    ((conv => whnf); (repeat ((first | rw [hM] | rw [v1] | (refine andF ?_) | (refine andT ?_) | (refine And.intro (by first | exact rfl | exact Or.inr ⟨by decide, by decide⟩ | exact Or.inl ⟨by omega, by omega⟩ | exact ⟨by decide, by decide, by decide⟩ | exact ⟨by decide, by decide⟩ | decide | omega | assumption | (apply sz; simp; done) | exact tyC_l updM_same | exact tyC_l (by assumption) | exact tyC_d updM_same | exact tyC_d (by assumption)) ?_)); (conv => whnf))))
    refine ⟨fun hb => ?_, fun hb => ?_⟩
    · have hb : (!decide (r.t + r.m = S.top)) = true := hb
      simp [h3] at hb
    · ((conv => whnf); (repeat ((first | rw [hM] | rw [v1] | (refine andF ?_) | (refine andT ?_) | (refine And.intro (by first | exact rfl | exact Or.inr ⟨by decide, by decide⟩ | exact Or.inl ⟨by omega, by omega⟩ | exact ⟨by decide, by decide, by decide⟩ | exact ⟨by decide, by decide⟩ | decide | omega | assumption | (apply sz; simp; done) | exact tyC_l updM_same | exact tyC_l (by assumption) | exact tyC_d updM_same | exact tyC_d (by assumption)) ?_)); (conv => whnf))))
      refine ⟨fun hb => ?_, fun hb => absurd h4 (df hb)⟩
      ((conv => whnf); (repeat ((first | rw [hM] | rw [v1] | (refine andF ?_) | (refine andT ?_) | (refine And.intro (by first | exact rfl | exact Or.inr ⟨by decide, by decide⟩ | exact Or.inl ⟨by omega, by omega⟩ | exact ⟨by decide, by decide, by decide⟩ | exact ⟨by decide, by decide⟩ | decide | omega | assumption | (apply sz; simp; done) | exact tyC_l updM_same | exact tyC_l (by assumption) | exact tyC_d updM_same | exact tyC_d (by assumption)) ?_)); (conv => whnf))))
      refine ⟨fun hb => ?_, fun hb => ?_⟩
      · have hb : (!decide (p < S.top)) = true := hb
        simp [h5] at hb
      · ((conv => whnf); (repeat ((first | rw [hM] | rw [v1] | (refine andF ?_) | (refine andT ?_) | (refine And.intro (by first | exact rfl | exact Or.inr ⟨by decide, by decide⟩ | exact Or.inl ⟨by omega, by omega⟩ | exact ⟨by decide, by decide, by decide⟩ | exact ⟨by decide, by decide⟩ | decide | omega | assumption | (apply sz; simp; done) | exact tyC_l updM_same | exact tyC_l (by assumption) | exact tyC_d updM_same | exact tyC_d (by assumption)) ?_)); (conv => whnf))))
        refine call_reach (b := some k) hl1 fun m hm => ?_
        have := hm.uniq h6
        subst this
        ((conv => whnf); (repeat ((first | rw [hM] | rw [v1] | (refine andF ?_) | (refine andT ?_) | (refine And.intro (by first | exact rfl | exact Or.inr ⟨by decide, by decide⟩ | exact Or.inl ⟨by omega, by omega⟩ | exact ⟨by decide, by decide, by decide⟩ | exact ⟨by decide, by decide⟩ | decide | omega | assumption | (apply sz; simp; done) | exact tyC_l updM_same | exact tyC_l (by assumption) | exact tyC_d updM_same | exact tyC_d (by assumption)) ?_)); (conv => whnf))))
        refine ⟨fun hb => absurd h7 (by have := dt hb; omega), fun hb => ?_⟩
        ((conv => whnf); (repeat ((first | rw [hM] | (refine andF ?_) | (refine andT ?_) | (refine And.intro (by first | exact rfl | exact Or.inr ⟨by decide, by decide⟩ | exact Or.inl ⟨by omega, by omega⟩ | exact ⟨by decide, by decide, by decide⟩ | exact ⟨by decide, by decide⟩ | decide | omega | assumption | (apply sz; simp; done) | exact tyC_l updM_same | exact tyC_l (by assumption) | exact tyC_d updM_same | exact tyC_d (by assumption)) ?_)); (conv => whnf))))
        exact rest
end K13

set_option Elab.async false
set_option linter.all false
set_option maxRecDepth 100000
set_option maxHeartbeats 4000000
namespace K13
open PySem PySem.Spec L2 FM
open PyProof.Rows hiding St

def r_made : SpR := fun ds M R => ∃ S mv S', ds = [stD S, mv] ∧ Step S mv S' ∧ S.L.length ≤ 1000 ∧ S.laid.length ≤ 1000 ∧ R = fun d M' => d = stD S' ∧ M' = M
theorem kit_ib : kitB "int" "bool" = some false := by decide +kernel
theorem asBl_ff : ∀ as : List Int, asBl ((as.map D.int).filterMap fun _ => some (.bl false)) = some (as.map fun _ => false)
  | [] => rfl
  | a :: as => by
    show (asBl ((as.map D.int).filterMap fun _ => some (.bl false))).map _ = _
    rw [asBl_ff as]; rfl
theorem any_ff : ∀ as : List Int, (as.map fun _ => false).any id = false
  | [] => rfl
  | a :: as => by show (false || _) = _; rw [any_ff as]; rfl
theorem cut1 (d : D) (as : List Int) : cutA (d :: as.map D.int) (some 1) none = as.map D.int := by
  unfold cutA
  simp [HT.sIx]
  exact List.take_of_length_le (by simp)
theorem made_pre {Q : DQ} {E : FM.DX} {M : MH} {S : S13} {w : Str} {as : List Int} (h0 : as ≠ []) (hl : as.length ≤ 10)
    (k : ∀ a, M a = none → t_law_made_3 (spOf r_reach) (spOf r_more) E (fnEnds Q) [some (stD S), some (.tup (.str w :: as.map D.int)), some (.int S.top), some (.ref a), some (.lst S.laid), none, none, none, none, none, none, none] (updM M a (.dic (kvR S.L)))) :
    t_law_made (spOf r_reach) (spOf r_more) E (fnEnds Q) (startD 12 [stD S, .tup (.str w :: as.map D.int)]) M := by
  unfold t_law_made; obtain ⟨T, hT⟩ : ∃ T, T = t_law_made_3 (spOf r_reach) (spOf r_more) E := ⟨_, rfl⟩; rw [← hT] at k ⊢
  ((conv => whnf); (repeat ((first | (refine andF ?_) | (refine andT ?_) | (refine And.intro (by first | exact rfl | exact Or.inr ⟨by decide, by decide⟩ | exact Or.inl ⟨by omega, by omega⟩ | exact ⟨by decide, by decide, by decide⟩ | exact ⟨by decide, by decide⟩ | decide | omega | assumption | (apply sz; simp; done) | exact tyC_l updM_same | exact tyC_l (by assumption) | exact tyC_d updM_same | exact tyC_d (by assumption)) ?_)); (conv => whnf))))
  intro a ha
  ((conv => whnf); (repeat ((first | (refine andF ?_) | (refine andT ?_) | (refine And.intro (by first | exact rfl | exact Or.inr ⟨by decide, by decide⟩ | exact Or.inl ⟨by omega, by omega⟩ | exact ⟨by decide, by decide, by decide⟩ | exact ⟨by decide, by decide⟩ | decide | omega | assumption | (apply sz; simp; done) | exact tyC_l updM_same | exact tyC_l (by assumption) | exact tyC_d updM_same | exact tyC_d (by assumption)) ?_)); (conv => whnf))))
  refine ⟨fun ⟨z, _⟩ => ?_, ?_⟩
  · simp [HT.sIx] at z
  · ((conv => whnf); (repeat ((first | rw [(cut1 (.str w) as)] | (refine andF ?_) | (refine andT ?_) | (refine And.intro (by first | exact rfl | exact Or.inr ⟨by decide, by decide⟩ | exact Or.inl ⟨by omega, by omega⟩ | exact ⟨by decide, by decide, by decide⟩ | exact ⟨by decide, by decide⟩ | decide | omega | assumption | (apply sz; simp; done) | exact tyC_l updM_same | exact tyC_l (by assumption) | exact tyC_d updM_same | exact tyC_d (by assumption)) ?_)); (conv => whnf))))
    refine lc_allT (fun _ => some (.bl false)) _ (fun x hx M0 hM0 k hk => ?_) (by rw [List.length_map, sizeLine_eq]; omega) ?_
    · obtain ⟨i, _, rfl⟩ := List.mem_map.mp hx
      ((conv => whnf); (repeat ((first | rw [kit_ib] | (refine andF ?_) | (refine andT ?_) | (refine And.intro (by first | exact rfl | exact Or.inr ⟨by decide, by decide⟩ | exact Or.inl ⟨by omega, by omega⟩ | exact ⟨by decide, by decide, by decide⟩ | exact ⟨by decide, by decide⟩ | decide | omega | assumption | (apply sz; simp; done) | exact tyC_l updM_same | exact tyC_l (by assumption) | exact tyC_d updM_same | exact tyC_d (by assumption)) ?_)); (conv => whnf))))
      exact hk
    · ((conv => whnf); (repeat ((first | rw [(asBl_ff as)] | rw [(any_ff as)] | (refine andF ?_) | (refine andT ?_) | (refine And.intro (by first | exact rfl | exact Or.inr ⟨by decide, by decide⟩ | exact Or.inl ⟨by omega, by omega⟩ | exact ⟨by decide, by decide, by decide⟩ | exact ⟨by decide, by decide⟩ | decide | omega | assumption | (apply sz; simp; done) | exact tyC_l updM_same | exact tyC_l (by assumption) | exact tyC_d updM_same | exact tyC_d (by assumption)) ?_)); (conv => whnf))))
      exact k a ha

theorem made_end {Q : DQ} {E : FM.DX} {M : MH} {d : D} {x0 x1 x2 x3 x4 x5 x6 x7 x8 x10 x11 : Option D} (q : Q d M) : t_law_made_10 (spOf r_reach) (spOf r_more) E (fnEnds Q) [x0, x1, x2, x3, x4, x5, x6, x7, x8, some d, x10, x11] M := q
abbrev Tend (E : FM.DX) : TDS := t_law_made_10 (spOf r_reach) (spOf r_more) E
theorem made_idle {Q : DQ} {E : FM.DX} {M : MH} {S : S13} {k : Int} {r : Row} {a : Addr} (h1 : valA S.L k = some r) (h2 : r.f = 0) (h3 : r.o = r.t) (ha : M a = none) (q : Q (stD ⟨S.top, dropA S.L k, S.laid⟩) M) :
    t_law_made_3 (spOf r_reach) (spOf r_more) E (fnEnds Q) [some (stD S), some (mvI k), some (.int S.top), some (.ref a), some (.lst S.laid), none, none, none, none, none, none, none] (updM M a (.dic (kvR S.L))) := by
  have fin := @made_end Q E M
  unfold t_law_made_3 t_law_made_4 t_law_made_5 t_law_made_8 t_law_made_9; obtain ⟨T, hT⟩ : ∃ T, T = t_law_made_10 (spOf r_reach) (spOf r_more) E := ⟨_, rfl⟩; rw [← hT] at fin ⊢
  have v1 := val_rw h1
  ((conv => whnf); (repeat ((first | rw [updM_same] | rw [v1] | (refine andF ?_) | (refine andT ?_) | (refine And.intro (by first | exact rfl | exact Or.inr ⟨by decide, by decide⟩ | exact Or.inl ⟨by omega, by omega⟩ | exact ⟨by decide, by decide, by decide⟩ | exact ⟨by decide, by decide⟩ | decide | omega | assumption | (apply sz; simp; done) | exact tyC_l updM_same | exact tyC_l (by assumption) | exact tyC_d updM_same | exact tyC_d (by assumption)) ?_)); (conv => whnf))))
  refine ⟨fun hb => ?_, fun hb => absurd h2 (df hb)⟩
  ((conv => whnf); (repeat ((first | rw [updM_same] | rw [v1] | (refine andF ?_) | (refine andT ?_) | (refine And.intro (by first | exact rfl | exact Or.inr ⟨by decide, by decide⟩ | exact Or.inl ⟨by omega, by omega⟩ | exact ⟨by decide, by decide, by decide⟩ | exact ⟨by decide, by decide⟩ | decide | omega | assumption | (apply sz; simp; done) | exact tyC_l updM_same | exact tyC_l (by assumption) | exact tyC_d updM_same | exact tyC_d (by assumption)) ?_)); (conv => whnf))))
  refine ⟨fun hb => ?_, fun hb => absurd h3 (df hb)⟩
  ((conv => whnf); (repeat ((first | rw [updM_same] | rw [v1] | (refine andF ?_) | (refine andT ?_) | (refine And.intro (by first | exact rfl | exact Or.inr ⟨by decide, by decide⟩ | exact Or.inl ⟨by omega, by omega⟩ | exact ⟨by decide, by decide, by decide⟩ | exact ⟨by decide, by decide⟩ | decide | omega | assumption | (apply sz; simp; done) | exact tyC_l updM_same | exact tyC_l (by assumption) | exact tyC_d updM_same | exact tyC_d (by assumption)) ?_)); (conv => whnf))))
  rw [drop_kvR, updM_updM, delM_updM ha]
  exact fin q
theorem made_bare {Q : DQ} {E : FM.DX} {M : MH} {S : S13} {p n : Int} {a : Addr} (h1 : IsReach S.L none n) (h2 : n ≤ p) (h3 : p < S.top) (hl1 : S.L.length ≤ 1000) (hl2 : S.laid.length ≤ 1000) (ha : M a = none) (q : Q (stD ⟨p, S.L, S.laid ++ [.tup [.str "bare", .int p, .int S.top]]⟩) M) :
    t_law_made_3 (spOf r_reach) (spOf r_more) E (fnEnds Q) [some (stD S), some (mvB p), some (.int S.top), some (.ref a), some (.lst S.laid), none, none, none, none, none, none, none] (updM M a (.dic (kvR S.L))) := by
  unfold t_law_made_3; obtain ⟨T, hT⟩ : ∃ T, T = t_law_made_4 (spOf r_reach) (spOf r_more) E := ⟨_, rfl⟩; rw [← hT]
  have hz2 : S.laid.length + 1 ≤ sizeLine := by rw [sizeLine_eq]; omega
  ((conv => whnf); (repeat ((first | rw [updM_same] | (refine andF ?_) | (refine andT ?_) | (refine And.intro (by first | exact rfl | exact Or.inr ⟨by decide, by decide⟩ | exact Or.inl ⟨by omega, by omega⟩ | exact ⟨by decide, by decide, by decide⟩ | exact ⟨by decide, by decide⟩ | decide | omega | assumption | (apply sz; simp; done) | exact tyC_l updM_same | exact tyC_l (by assumption) | exact tyC_d updM_same | exact tyC_d (by assumption)) ?_)); (conv => whnf))))
  refine call_reach (b := none) hl1 fun m hm => ?_
  have := hm.uniq h1
  subst this
  ((conv => whnf); (repeat ((first | rw [updM_same] | (refine andF ?_) | (refine andT ?_) | (refine And.intro (by first | exact rfl | exact Or.inr ⟨by decide, by decide⟩ | exact Or.inl ⟨by omega, by omega⟩ | exact ⟨by decide, by decide, by decide⟩ | exact ⟨by decide, by decide⟩ | decide | omega | assumption | (apply sz; simp; done) | exact tyC_l updM_same | exact tyC_l (by assumption) | exact tyC_d updM_same | exact tyC_d (by assumption)) ?_)); (conv => whnf))))
  refine ⟨fun hb => ?_, fun hb => absurd h2 (df hb)⟩
  ((conv => whnf); (repeat ((first | rw [updM_same] | (refine andF ?_) | (refine andT ?_) | (refine And.intro (by first | exact rfl | exact Or.inr ⟨by decide, by decide⟩ | exact Or.inl ⟨by omega, by omega⟩ | exact ⟨by decide, by decide, by decide⟩ | exact ⟨by decide, by decide⟩ | decide | omega | assumption | (apply sz; simp; done) | exact tyC_l updM_same | exact tyC_l (by assumption) | exact tyC_d updM_same | exact tyC_d (by assumption)) ?_)); (conv => whnf))))
  refine ⟨fun hb => ?_, fun hb => ?_⟩
  · have hb : (!decide (p < S.top)) = true := hb
    simp [h3] at hb
  · ((conv => whnf); (repeat ((first | rw [updM_same] | (refine andF ?_) | (refine andT ?_) | (refine And.intro (by first | exact rfl | exact Or.inr ⟨by decide, by decide⟩ | exact Or.inl ⟨by omega, by omega⟩ | exact ⟨by decide, by decide, by decide⟩ | exact ⟨by decide, by decide⟩ | decide | omega | assumption | (apply sz; simp; done) | exact tyC_l updM_same | exact tyC_l (by assumption) | exact tyC_d updM_same | exact tyC_d (by assumption)) ?_)); (conv => whnf))))
    rw [delM_updM ha]
    exact q
theorem made_halve {Q : DQ} {E : FM.DX} {M : MH} {S : S13} {k : Int} {r : Row} {a : Addr} (h1 : valA S.L k = some r) (h2 : r.f = 1) (h3 : r.t < r.o + r.m) (hl1 : S.L.length ≤ 1000) (ha : M a = none)
    (q : Q (stD ⟨S.top, if halfR r = 0 then dropA S.L k else putA S.L k ⟨r.o, r.t + r.m - halfR r, halfR r, 1⟩, S.laid⟩) M) :
    t_law_made_3 (spOf r_reach) (spOf r_more) E (fnEnds Q) [some (stD S), some (mvH k), some (.int S.top), some (.ref a), some (.lst S.laid), none, none, none, none, none, none, none] (updM M a (.dic (kvR S.L))) := by
  have fin := @made_end Q E M
  unfold t_law_made_3 t_law_made_4 t_law_made_5 t_law_made_8 t_law_made_9; obtain ⟨T, hT⟩ : ∃ T, T = t_law_made_10 (spOf r_reach) (spOf r_more) E := ⟨_, rfl⟩; rw [← hT] at fin ⊢
  have v1 := val_rw h1
  have hz : (kvR S.L).length < sizeLine := by rw [List.length_map, sizeLine_eq]; omega
  have v3 : ∀ r', valA (putA (kvR S.L) (Sum.inl k) (rowD r')) (Sum.inl k) = some (rowD r') := fun r' => by rw [put_kvR]; exact val_rw (val_put ⟨_, h1⟩)
  have v4 : valA (putA (kvR S.L) (Sum.inl k) (.tup [.int r.o, .int (r.t + r.m - (r.t + r.m - r.o) / 2), .int ((r.t + r.m - r.o) / 2), .int 1])) (Sum.inl k) = some (.tup [.int r.o, .int (r.t + r.m - (r.t + r.m - r.o) / 2), .int ((r.t + r.m - r.o) / 2), .int 1]) := v3 ⟨r.o, r.t + r.m - halfR r, halfR r, 1⟩
  have pt : putA (kvR S.L) (Sum.inl k) (.tup [.int r.o, .int (r.t + r.m - (r.t + r.m - r.o) / 2), .int ((r.t + r.m - r.o) / 2), .int 1]) = kvR (putA S.L k ⟨r.o, r.t + r.m - halfR r, halfR r, 1⟩) := put_kvR k ⟨r.o, r.t + r.m - halfR r, halfR r, 1⟩ S.L
  ((conv => whnf); (repeat ((first | rw [updM_same] | rw [v1] | (refine andF ?_) | (refine andT ?_) | (refine And.intro (by first | exact rfl | exact Or.inr ⟨by decide, by decide⟩ | exact Or.inl ⟨by omega, by omega⟩ | exact ⟨by decide, by decide, by decide⟩ | exact ⟨by decide, by decide⟩ | decide | omega | assumption | (apply sz; simp; done) | exact tyC_l updM_same | exact tyC_l (by assumption) | exact tyC_d updM_same | exact tyC_d (by assumption)) ?_)); (conv => whnf))))
  refine ⟨fun hb => ?_, fun hb => absurd h2 (df hb)⟩
  ((conv => whnf); (repeat ((first | rw [updM_same] | rw [v1] | (refine andF ?_) | (refine andT ?_) | (refine And.intro (by first | exact rfl | exact Or.inr ⟨by decide, by decide⟩ | exact Or.inl ⟨by omega, by omega⟩ | exact ⟨by decide, by decide, by decide⟩ | exact ⟨by decide, by decide⟩ | decide | omega | assumption | (apply sz; simp; done) | exact tyC_l updM_same | exact tyC_l (by assumption) | exact tyC_d updM_same | exact tyC_d (by assumption)) ?_)); (conv => whnf))))
  refine ⟨fun hb => ?_, fun hb => absurd h3 (df hb)⟩
  ((conv => whnf); (repeat ((first | rw [updM_same] | rw [v1] | (refine andF ?_) | (refine andT ?_) | (refine And.intro (by first | exact rfl | exact Or.inr ⟨by decide, by decide⟩ | exact Or.inl ⟨by omega, by omega⟩ | exact ⟨by decide, by decide, by decide⟩ | exact ⟨by decide, by decide⟩ | decide | omega | assumption | (apply sz; simp; done) | exact tyC_l updM_same | exact tyC_l (by assumption) | exact tyC_d updM_same | exact tyC_d (by assumption)) ?_)); (conv => whnf))))
  refine ⟨fun hb => ?_, fun hb => ?_⟩
  · have hb : halfR r = 0 := dt hb
    ((conv => whnf); (repeat ((first | rw [updM_same] | (refine andF ?_) | (refine andT ?_) | (refine And.intro (by first | exact rfl | exact Or.inr ⟨by decide, by decide⟩ | exact Or.inl ⟨by omega, by omega⟩ | exact ⟨by decide, by decide, by decide⟩ | exact ⟨by decide, by decide⟩ | decide | omega | assumption | (apply sz; simp; done) | exact tyC_l updM_same | exact tyC_l (by assumption) | exact tyC_d updM_same | exact tyC_d (by assumption)) ?_)); (conv => whnf))))
    dsimp only
    rw [v4]
    ((conv => whnf); (repeat ((first | rw [updM_same] | (refine andF ?_) | (refine andT ?_) | (refine And.intro (by first | exact rfl | exact Or.inr ⟨by decide, by decide⟩ | exact Or.inl ⟨by omega, by omega⟩ | exact ⟨by decide, by decide, by decide⟩ | exact ⟨by decide, by decide⟩ | decide | omega | assumption | (apply sz; simp; done) | exact tyC_l updM_same | exact tyC_l (by assumption) | exact tyC_d updM_same | exact tyC_d (by assumption)) ?_)); (conv => whnf))))
    rw [updM_updM, updM_updM, delM_updM ha, pt, drop_kvR, drop_put ⟨_, h1⟩]
    rw [if_pos hb] at q
    exact fin q
  · have hb : ¬ halfR r = 0 := df hb
    ((conv => whnf); (repeat ((first | rw [updM_same] | (refine andF ?_) | (refine andT ?_) | (refine And.intro (by first | exact rfl | exact Or.inr ⟨by decide, by decide⟩ | exact Or.inl ⟨by omega, by omega⟩ | exact ⟨by decide, by decide, by decide⟩ | exact ⟨by decide, by decide⟩ | decide | omega | assumption | (apply sz; simp; done) | exact tyC_l updM_same | exact tyC_l (by assumption) | exact tyC_d updM_same | exact tyC_d (by assumption)) ?_)); (conv => whnf))))
    dsimp only
    rw [updM_updM, delM_updM ha, pt]
    rw [if_neg hb] at q
    exact fin q
theorem made_lf {Q : DQ} {E : FM.DX} {M : MH} {S S' : S13} {w : Str} {as : List Int} {a : Addr} (hw : w = "lead" ∨ w = "fold") {r : Row} {k : Int} {bs : List Int} (hk : as = k :: bs) (h1 : valA S.L k = some r) (hst : Step S (.tup (.str w :: as.map D.int)) S') (hlf : isLF (.tup (.str w :: as.map D.int)) = true) (hl1 : S.L.length ≤ 1000) (hl2 : S.laid.length ≤ 1000) (ha : M a = none) (q : Q (stD S') M) :
    t_law_made_3 (spOf r_reach) (spOf r_more) E (fnEnds Q) [some (stD S), some (.tup (.str w :: as.map D.int)), some (.int S.top), some (.ref a), some (.lst S.laid), none, none, none, none, none, none, none] (updM M a (.dic (kvR S.L))) := by
  have fin := @made_end Q E M
  unfold t_law_made_3 t_law_made_4 t_law_made_5 t_law_made_8 t_law_made_9; obtain ⟨T, hT⟩ : ∃ T, T = t_law_made_10 (spOf r_reach) (spOf r_more) E := ⟨_, rfl⟩; rw [← hT] at fin ⊢
  have v1 := val_rw h1
  subst hk
  rcases hw with rfl | rfl
  · ((conv => whnf); (repeat ((first | rw [updM_same] | rw [v1] | (refine andF ?_) | (refine andT ?_) | (refine And.intro (by first | exact rfl | exact Or.inr ⟨by decide, by decide⟩ | exact Or.inl ⟨by omega, by omega⟩ | exact ⟨by decide, by decide, by decide⟩ | exact ⟨by decide, by decide⟩ | decide | omega | assumption | (apply sz; simp; done) | exact tyC_l updM_same | exact tyC_l (by assumption) | exact tyC_d updM_same | exact tyC_d (by assumption)) ?_)); (conv => whnf))))
    refine ⟨_, ⟨S, _, S', a, rfl, updM_same, hst, hlf, hl1, hl2, rfl⟩, fun d M' ⟨e1, e2⟩ => ?_⟩
    subst e1 e2
    ((conv => whnf); (repeat ((first | (refine andF ?_) | (refine andT ?_) | (refine And.intro (by first | exact rfl | exact Or.inr ⟨by decide, by decide⟩ | exact Or.inl ⟨by omega, by omega⟩ | exact ⟨by decide, by decide, by decide⟩ | exact ⟨by decide, by decide⟩ | decide | omega | assumption | (apply sz; simp; done) | exact tyC_l updM_same | exact tyC_l (by assumption) | exact tyC_d updM_same | exact tyC_d (by assumption)) ?_)); (conv => whnf))))
    rw [delM_updM ha]
    exact fin q
  · ((conv => whnf); (repeat ((first | rw [updM_same] | rw [v1] | (refine andF ?_) | (refine andT ?_) | (refine And.intro (by first | exact rfl | exact Or.inr ⟨by decide, by decide⟩ | exact Or.inl ⟨by omega, by omega⟩ | exact ⟨by decide, by decide, by decide⟩ | exact ⟨by decide, by decide⟩ | decide | omega | assumption | (apply sz; simp; done) | exact tyC_l updM_same | exact tyC_l (by assumption) | exact tyC_d updM_same | exact tyC_d (by assumption)) ?_)); (conv => whnf))))
    refine ⟨_, ⟨S, _, S', a, rfl, updM_same, hst, hlf, hl1, hl2, rfl⟩, fun d M' ⟨e1, e2⟩ => ?_⟩
    subst e1 e2
    ((conv => whnf); (repeat ((first | (refine andF ?_) | (refine andT ?_) | (refine And.intro (by first | exact rfl | exact Or.inr ⟨by decide, by decide⟩ | exact Or.inl ⟨by omega, by omega⟩ | exact ⟨by decide, by decide, by decide⟩ | exact ⟨by decide, by decide⟩ | decide | omega | assumption | (apply sz; simp; done) | exact tyC_l updM_same | exact tyC_l (by assumption) | exact tyC_d updM_same | exact tyC_d (by assumption)) ?_)); (conv => whnf))))
    rw [delM_updM ha]
    exact fin q
theorem m_made : Meets (t_law_made (spOf r_reach) (spOf r_more)) 12 (spOf r_made) := by
  rintro ds M Q E dn ⟨R, ⟨S, mv, S', rfl, hst, hl1, hl2, rfl⟩, hQ⟩
  have q := hQ _ _ ⟨rfl, rfl⟩
  have hst' := hst
  cases hst with
  | @idle k r h1 h2 h3 => exact made_pre (as := [k]) (by simp) (by simp) fun a ha => made_idle h1 h2 h3 ha q
  | @halve k r h1 h2 h3 h4 => exact made_pre (as := [k]) (by simp) (by simp) fun a ha => made_halve h1 h2 h3 hl1 ha q
  | @bare p n h1 h2 h3 => exact made_pre (as := [p]) (by simp) (by simp) fun a ha => made_bare h1 h2 h3 hl1 hl2 ha q
  | @lead k b r l h1 h2 h3 h4 h5 h6 h7 h8 => exact made_pre (as := [k, 1, b]) (by simp) (by simp) fun a ha => made_lf (.inl rfl) rfl h1 hst' rfl hl1 hl2 ha q
  | @fold k p r n h1 h2 h3 h4 h5 h6 h7 h8 => exact made_pre (as := [k, p]) (by simp) (by simp) fun a ha => made_lf (.inr rfl) rfl h1 hst' rfl hl1 hl2 ha q
theorem call_made {S S' : S13} {mv : D} {M : MH} {K : D → MH → Prop} (h : Step S mv S') (hl1 : S.L.length ≤ 1000) (hl2 : S.laid.length ≤ 1000) (k : K (stD S') M) : ∃ R, r_made [stD S, mv] M R ∧ ∀ d M', R d M' → K d M' :=
  ⟨_, ⟨S, mv, S', rfl, h, hl1, hl2, rfl⟩, fun d M' ⟨e1, e2⟩ => by subst e1 e2; exact k⟩
end K13

set_option Elab.async false
set_option linter.all false
set_option maxRecDepth 100000
set_option maxHeartbeats 4000000
namespace K13
open PySem PySem.Spec L2 FM
open PyProof.Rows hiding St

structure Ok1 (top : Int) (r : Row) : Prop where
  o0 : 0 ≤ r.o
  ot : r.o ≤ r.t
  m1 : 1 ≤ r.m
  tm : r.t + r.m ≤ top
  f01 : r.f = 0 ∨ r.f = 1
structure Good (S : S13) : Prop where
  nd : (S.L.map (·.1)).Nodup
  rows : ∀ x ∈ S.L, Ok1 S.top x.2
  top30 : S.top ≤ 30
  len : S.L.length ≤ 50
theorem val_mem {L : List (Int × Row)} {k : Int} {r : Row} (h : valA L k = some r) : (k, r) ∈ L := by
  unfold valA at h
  obtain ⟨y, h1, h2⟩ := Option.map_eq_some_iff.mp h
  have h3 := List.find?_some (p := fun kv : Int × Row => decide (kv.1 = k)) h1
  have h4 : y.1 = k := dt h3
  have := List.mem_of_find?_eq_some h1
  rw [← h2, ← h4]; exact this
theorem val_key {L : List (Int × Row)} {k : Int} (h : k ∈ L.map (·.1)) : ∃ r, valA L k = some r := by
  obtain ⟨y, hy, rfl⟩ := List.mem_map.mp h
  unfold valA
  cases e : L.find? fun kv => decide (kv.1 = y.1) with
  | none => have := List.find?_eq_none.mp e y hy; simp at this
  | some z => exact ⟨z.2, rfl⟩
theorem val_of_mem {L : List (Int × Row)} (nd : (L.map (·.1)).Nodup) {x : Int × Row} (h : x ∈ L) : valA L x.1 = some x.2 := by
  unfold valA
  induction L with
  | nil => cases h
  | cons y L ih =>
    rw [List.map_cons, List.nodup_cons] at nd
    rw [List.find?_cons]
    rcases List.mem_cons.mp h with e | h
    · subst e; simp
    · have ne : ¬ y.1 = x.1 := fun e => nd.1 (by rw [e]; exact List.mem_map.mpr ⟨x, h, rfl⟩)
      rw [decide_eq_false ne]
      exact ih nd.2 h
theorem intKs_kvR : ∀ L : List (Int × Row), intKs (kvR L) = some (L.map (·.1))
  | [] => rfl
  | x :: L => by show (intKs (kvR L)).map _ = _; rw [intKs_kvR L]; rfl
/-- no row is idle or to be halved -/
def Firm (r : Row) : Prop := ¬ (r.f = 0 ∧ r.o = r.t) ∧ ¬ (r.f = 1 ∧ r.t < r.o + r.m)
theorem Firm.leads {top : Int} {r : Row} (h : Firm r) (k : Ok1 top r) : leadsB r = true := by
  unfold leadsB
  by_cases hf : r.f = 1
  · rw [if_pos hf]; exact decide_eq_true (Int.not_lt.mp fun z => h.2 ⟨hf, z⟩)
  · rw [if_neg hf]
    have h0 : r.f = 0 := k.f01.resolve_right hf
    exact decide_eq_true (by have := k.ot; have : ¬ r.o = r.t := fun z => h.1 ⟨h0, z⟩; omega)
def r_wise : SpR := fun ds M R => ∃ p m S, ds = [.ref p, stD S] ∧ M p = some m ∧ DrawM m ∧ Good S ∧ 0 < S.top ∧ R = fun d M' => ∃ S' m', Step S d S' ∧ DrawM m' ∧ M' = updM M p m'
theorem call_less {p : Addr} {m : MO} {cap : Int} {M : MH} {K : D → MH → Prop} (hM : M p = some m) (hm : DrawM m) (h0 : 0 < cap) (h1 : cap < 60) (k : ∀ n m', 0 ≤ n → n < cap → DrawM m' → K (.int n) (updM M p m')) :
    ∃ R, r_less [.ref p, .int cap] M R ∧ ∀ d M', R d M' → K d M' :=
  ⟨_, ⟨p, m, cap, rfl, hM, hm, h0, h1, rfl⟩, fun d M' ⟨n, m', e1, h2, h3, h4, e2⟩ => by subst e1 e2; exact k n m' h2 h3 h4⟩
/-- the last part: fold -/
theorem wise_8 {p : Addr} {m : MO} {S : S13} {M : MH} {Q : DQ} {E : FM.DX} {b : Int} {l : Row} {x5 x6 x7 x8 x9 x10 x11 x12 : Option D} (hM : M p = some m) (hm : DrawM m) (g : Good S) (h1 : valA S.L b = some l) (hf : ∀ x ∈ S.L, Firm x.2)
    (he : l.t + l.m = S.top) (hx : ∀ x ∈ S.L, x.2.t + x.2.m = S.top → x.2.m ≤ l.m) (hlow : ∀ x ∈ S.L, x.1 ≠ b → x.2.t < l.t)
    (hQ : ∀ d M', (∃ S' m', Step S d S' ∧ DrawM m' ∧ M' = updM M p m') → Q d M') :
    t_law_wise_8 (spOf r_reach) (spOf r_less) (spOf r_any) (spOf r_shuffled) E (fnEnds Q) [some (.ref p), some (stD S), some (.int S.top), some (.dic (kvR S.L)), some (.lst S.laid), x5, x6, x7, x8, x9, x10, x11, x12, some (.int b), none] M := by
  have v1 := val_rw h1
  have k1 : Ok1 S.top l := g.rows _ (val_mem h1)
  have hl : Firm l := hf _ (val_mem h1)
  ((conv => whnf); (repeat ((first | rw [v1] | (refine andF ?_) | (refine andT ?_) | (refine And.intro (by first | exact rfl | exact Or.inr ⟨by decide, by decide⟩ | exact Or.inl ⟨by omega, by omega⟩ | exact ⟨by decide, by decide, by decide⟩ | exact ⟨by decide, by decide⟩ | decide | omega | assumption | (apply sz; simp; done) | exact tyC_l updM_same | exact tyC_l (by assumption) | exact tyC_d updM_same | exact tyC_d (by assumption)) ?_)); (conv => whnf))))
  refine call_reach (b := some b) (by have := g.len; omega) fun n hn => ?_
  have hn2 : n < S.top := by
    rcases hn.2.2 with e | ⟨x, hx1, hx2, e⟩
    · have := k1.m1; have := k1.ot; have := k1.o0; omega
    · have a1 := g.rows x hx1
      have a2 := hlow x hx1 (fun z => hx2 (by rw [z]))
      rcases Int.lt_or_le n S.top with z | z
      · exact z
      · have := a1.tm
        have := hx x hx1 (by omega)
        omega
  ((conv => whnf); (repeat ((first | rw [v1] | (refine andF ?_) | (refine andT ?_) | (refine And.intro (by first | exact rfl | exact Or.inr ⟨by decide, by decide⟩ | exact Or.inl ⟨by omega, by omega⟩ | exact ⟨by decide, by decide, by decide⟩ | exact ⟨by decide, by decide⟩ | decide | omega | assumption | (apply sz; simp; done) | exact tyC_l updM_same | exact tyC_l (by assumption) | exact tyC_d updM_same | exact tyC_d (by assumption)) ?_)); (conv => whnf))))
  have hz : (if n > l.t then n else l.t) < S.top ∧ n ≤ (if n > l.t then n else l.t) ∧ l.t ≤ (if n > l.t then n else l.t) := by
    have := k1.m1
    split <;> omega
  have h0 := hn.1
  refine call_less hM hm (by omega) (by have := g.top30; have := k1.ot; have := k1.o0; omega) fun c m' c0 c1 hm' => ?_
  ((conv => whnf); (repeat ((first | (refine andF ?_) | (refine andT ?_) | (refine And.intro (by first | exact rfl | exact Or.inr ⟨by decide, by decide⟩ | exact Or.inl ⟨by omega, by omega⟩ | exact ⟨by decide, by decide, by decide⟩ | exact ⟨by decide, by decide⟩ | decide | omega | assumption | (apply sz; simp; done) | exact tyC_l updM_same | exact tyC_l (by assumption) | exact tyC_d updM_same | exact tyC_d (by assumption)) ?_)); (conv => whnf))))
  refine hQ _ _ ⟨_, m', .fold h1 (hl.leads k1) he (by omega) (by omega) hn (by omega) k1.f01, hm', rfl⟩

def filtF (g : Int → Bool) : D → Option D
  | .int k => if g k then some (.int k) else none
  | _ => none
theorem filt_fm (g : Int → Bool) : ∀ ns : List Int, (ns.map D.int).filterMap (filtF g) = (ns.filter g).map D.int
  | [] => rfl
  | k :: ns => by
    rw [List.map_cons, List.filterMap_cons, List.filter_cons]
    have e : filtF g (.int k) = if g k then some (.int k) else none := rfl
    rw [e]
    cases h : g k with
    | true => rw [if_pos rfl, if_pos rfl, List.map_cons, filt_fm g ns]
    | false => rw [if_neg Bool.false_ne_true, if_neg Bool.false_ne_true]; exact filt_fm g ns
def mapF (g : Int → Int) : D → Option D
  | .int k => some (.int (g k))
  | _ => none
theorem map_fm (g : Int → Int) : ∀ ns : List Int, (ns.map D.int).filterMap (mapF g) = (ns.map g).map D.int
  | [] => rfl
  | k :: ns => by
    rw [List.map_cons, List.filterMap_cons]
    show D.int (g k) :: _ = _
    rw [map_fm g ns]; rfl
def endsB (L : List (Int × Row)) (top k : Int) : Bool := match valA L k with
  | some r => decide (r.t + r.m = top)
  | none => false
def mOf (L : List (Int × Row)) (k : Int) : Int := match valA L k with
  | some r => r.m
  | none => 0
theorem call_any {p : Addr} {m : MO} {ns : List Int} {M : MH} {K : D → MH → Prop} (hM : M p = some m) (hm : DrawM m) (h0 : 0 < ns.length) (h1 : ns.length < 2 ^ 62) (k : ∀ n m', n ∈ ns → DrawM m' → K (.int n) (updM M p m')) :
    ∃ R, r_any [.ref p, .lst (ns.map D.int)] M R ∧ ∀ d M', R d M' → K d M' :=
  ⟨_, ⟨p, m, ns, rfl, hM, hm, h0, h1, rfl⟩, fun d M' ⟨n, m', e1, h2, h4, e2⟩ => by subst e1 e2; exact k n m' h2 h4⟩
theorem call_shuffled {p : Addr} {m : MO} {ns : List Int} {M : MH} {K : D → MH → Prop} (hM : M p = some m) (hm : DrawM m) (h1 : ns.length ≤ 1000) (k : ∀ (ns' : List Int) m', ns'.Perm ns → DrawM m' → K (.lst (ns'.map D.int)) (updM M p m')) :
    ∃ R, r_shuffled [.ref p, .lst (ns.map D.int)] M R ∧ ∀ d M', R d M' → K d M' :=
  ⟨_, ⟨p, m, ns, rfl, hM, hm, h1, rfl⟩, fun d M' ⟨n, m', e1, h2, h4, e2⟩ => by subst e1 e2; exact k n m' h2 h4⟩
theorem wise_4 {p : Addr} {m : MO} {S : S13} {M : MH} {Q : DQ} {E : FM.DX} {x5 x6 x7 x8 x9 x10 : Option D} (hM : M p = some m) (hm : DrawM m) (g : Good S) (hf : ∀ x ∈ S.L, Firm x.2) (hex : ∃ x ∈ S.L, x.2.t + x.2.m = S.top)
    (hQ : ∀ d M', (∃ S' m', Step S d S' ∧ DrawM m' ∧ M' = updM M p m') → Q d M') :
    t_law_wise_4 (spOf r_reach) (spOf r_less) (spOf r_any) (spOf r_shuffled) E (fnEnds Q) [some (.ref p), some (stD S), some (.int S.top), some (.dic (kvR S.L)), some (.lst S.laid), x5, x6, x7, x8, x9, x10, none, none, none, none] M := by
  have rest : ∀ (m : MO) (M : MH) (b : Int) (l : Row) (x5 x6 x7 x8 x9 x10 x11 x12 : Option D), M p = some m → DrawM m → valA S.L b = some l → l.t + l.m = S.top → (∀ x ∈ S.L, x.2.t + x.2.m = S.top → x.2.m ≤ l.m) → (∀ x ∈ S.L, x.1 ≠ b → x.2.t < l.t) → (∀ d M', (∃ S' m', Step S d S' ∧ DrawM m' ∧ M' = updM M p m') → Q d M') →
      t_law_wise_8 (spOf r_reach) (spOf r_less) (spOf r_any) (spOf r_shuffled) E (fnEnds Q) [some (.ref p), some (stD S), some (.int S.top), some (.dic (kvR S.L)), some (.lst S.laid), x5, x6, x7, x8, x9, x10, x11, x12, some (.int b), none] M :=
    fun m M b l x5 x6 x7 x8 x9 x10 x11 x12 hM hm h1 he hx hlow hQ => wise_8 hM hm g h1 hf he hx hlow hQ
  unfold t_law_wise_4; obtain ⟨T, hT⟩ : ∃ T, T = t_law_wise_8 (spOf r_reach) (spOf r_less) (spOf r_any) (spOf r_shuffled) E := ⟨_, rfl⟩; rw [← hT] at rest ⊢
  have ks := intKs_kvR S.L
  ((conv => whnf); (repeat ((first | rw [ks] | (refine andF ?_) | (refine andT ?_) | (refine And.intro (by first | exact rfl | exact Or.inr ⟨by decide, by decide⟩ | exact Or.inl ⟨by omega, by omega⟩ | exact ⟨by decide, by decide, by decide⟩ | exact ⟨by decide, by decide⟩ | decide | omega | assumption | (apply sz; simp; done) | exact tyC_l updM_same | exact tyC_l (by assumption) | exact tyC_d updM_same | exact tyC_d (by assumption)) ?_)); (conv => whnf))))
  refine ⟨by have := g.len; rw [List.length_map]; omega, fun ns pm so => ?_⟩
  have look : ∀ k ∈ ns, ∃ r, valA S.L k = some r := fun k hk => val_key (pm.mem_iff.mp hk)
  have nsl : ns.length ≤ 50 := by rw [pm.length_eq, List.length_map]; exact g.len
  ((conv => whnf); (repeat ((first | (refine andF ?_) | (refine andT ?_) | (refine And.intro (by first | exact rfl | exact Or.inr ⟨by decide, by decide⟩ | exact Or.inl ⟨by omega, by omega⟩ | exact ⟨by decide, by decide, by decide⟩ | exact ⟨by decide, by decide⟩ | decide | omega | assumption | (apply sz; simp; done) | exact tyC_l updM_same | exact tyC_l (by assumption) | exact tyC_d updM_same | exact tyC_d (by assumption)) ?_)); (conv => whnf))))
  refine lc_allT (filtF (endsB S.L S.top)) _ (fun x hx M0 hM0 k hk => ?_) (by rw [List.length_map, sizeLine_eq]; omega) ?_
  · obtain ⟨i, hi, rfl⟩ := List.mem_map.mp hx
    obtain ⟨r, hr⟩ := look i hi
    have v1 := val_rw hr
    have hk : k (if endsB S.L S.top i then some (.int i) else none) M0 := hk
    have eb : endsB S.L S.top i = decide (r.t + r.m = S.top) := by unfold endsB; rw [hr]
    rw [eb] at hk
    ((conv => whnf); (repeat ((first | rw [v1] | (refine andF ?_) | (refine andT ?_) | (refine And.intro (by first | exact rfl | exact Or.inr ⟨by decide, by decide⟩ | exact Or.inl ⟨by omega, by omega⟩ | exact ⟨by decide, by decide, by decide⟩ | exact ⟨by decide, by decide⟩ | decide | omega | assumption | (apply sz; simp; done) | exact tyC_l updM_same | exact tyC_l (by assumption) | exact tyC_d updM_same | exact tyC_d (by assumption)) ?_)); (conv => whnf))))
    refine ⟨fun hb => ?_, fun hb => ?_⟩
    · have hb : decide (r.t + r.m = S.top) = true := hb
      ((conv => whnf); (repeat ((first | (refine andF ?_) | (refine andT ?_) | (refine And.intro (by first | exact rfl | exact Or.inr ⟨by decide, by decide⟩ | exact Or.inl ⟨by omega, by omega⟩ | exact ⟨by decide, by decide, by decide⟩ | exact ⟨by decide, by decide⟩ | decide | omega | assumption | (apply sz; simp; done) | exact tyC_l updM_same | exact tyC_l (by assumption) | exact tyC_d updM_same | exact tyC_d (by assumption)) ?_)); (conv => whnf))))
      rw [if_pos hb] at hk
      exact hk
    · have hb : decide (r.t + r.m = S.top) = false := hb
      rw [hb, if_neg Bool.false_ne_true] at hk
      exact hk
  rw [filt_fm]
  generalize hen : ns.filter (endsB S.L S.top) = en
  have enl : en.length ≤ 50 := by rw [← hen]; exact Nat.le_trans (List.length_filter_le _ _) nsl
  have enm : ∀ k, k ∈ en ↔ ∃ r, valA S.L k = some r ∧ r.t + r.m = S.top := fun k => by
    rw [← hen, List.mem_filter]
    refine ⟨fun ⟨h1, h2⟩ => ?_, fun ⟨r, h1, h2⟩ => ⟨pm.mem_iff.mpr (List.mem_map.mpr ⟨_, val_mem h1, rfl⟩), ?_⟩⟩
    · obtain ⟨r, hr⟩ := look k h1
      unfold endsB at h2; rw [hr] at h2
      exact ⟨r, hr, dt h2⟩
    · unfold endsB; rw [h1]; exact decide_eq_true h2
  ((conv => whnf); (repeat ((first | (refine andF ?_) | (refine andT ?_) | (refine And.intro (by first | exact rfl | exact Or.inr ⟨by decide, by decide⟩ | exact Or.inl ⟨by omega, by omega⟩ | exact ⟨by decide, by decide, by decide⟩ | exact ⟨by decide, by decide⟩ | decide | omega | assumption | (apply sz; simp; done) | exact tyC_l updM_same | exact tyC_l (by assumption) | exact tyC_d updM_same | exact tyC_d (by assumption)) ?_)); (conv => whnf))))
  refine lc_allT (mapF (mOf S.L)) _ (fun x hx M0 hM0 k hk => ?_) (by rw [List.length_map, sizeLine_eq]; omega) ?_
  · obtain ⟨i, hi, rfl⟩ := List.mem_map.mp hx
    obtain ⟨r, hr, _⟩ := (enm i).mp hi
    have v1 := val_rw hr
    have hk : k (some (.int (mOf S.L i))) M0 := hk
    have eb : mOf S.L i = r.m := by unfold mOf; rw [hr]
    rw [eb] at hk
    ((conv => whnf); (repeat ((first | rw [v1] | (refine andF ?_) | (refine andT ?_) | (refine And.intro (by first | exact rfl | exact Or.inr ⟨by decide, by decide⟩ | exact Or.inl ⟨by omega, by omega⟩ | exact ⟨by decide, by decide, by decide⟩ | exact ⟨by decide, by decide⟩ | decide | omega | assumption | (apply sz; simp; done) | exact tyC_l updM_same | exact tyC_l (by assumption) | exact tyC_d updM_same | exact tyC_d (by assumption)) ?_)); (conv => whnf))))
    exact hk
  rw [map_fm]
  have ai := asIn_map (en.map (mOf S.L))
  ((conv => whnf); (repeat ((first | rw [ai] | (refine andF ?_) | (refine andT ?_) | (refine And.intro (by first | exact rfl | exact Or.inr ⟨by decide, by decide⟩ | exact Or.inl ⟨by omega, by omega⟩ | exact ⟨by decide, by decide, by decide⟩ | exact ⟨by decide, by decide⟩ | decide | omega | assumption | (apply sz; simp; done) | exact tyC_l updM_same | exact tyC_l (by assumption) | exact tyC_d updM_same | exact tyC_d (by assumption)) ?_)); (conv => whnf))))
  obtain ⟨y0, hy0, hy1⟩ := hex
  have en0 : y0.1 ∈ en := (enm _).mpr ⟨_, val_of_mem g.nd hy0, hy1⟩
  refine ⟨by rw [List.length_map]; exact List.length_pos_of_mem en0, fun big hbig hmax => ?_⟩
  ((conv => whnf); (repeat ((first | (refine andF ?_) | (refine andT ?_) | (refine And.intro (by first | exact rfl | exact Or.inr ⟨by decide, by decide⟩ | exact Or.inl ⟨by omega, by omega⟩ | exact ⟨by decide, by decide, by decide⟩ | exact ⟨by decide, by decide⟩ | decide | omega | assumption | (apply sz; simp; done) | exact tyC_l updM_same | exact tyC_l (by assumption) | exact tyC_d updM_same | exact tyC_d (by assumption)) ?_)); (conv => whnf))))
  refine lc_allT (filtF fun k => decide (mOf S.L k = big)) _ (fun x hx M0 hM0 k hk => ?_) (by rw [List.length_map, sizeLine_eq]; omega) ?_
  · obtain ⟨i, hi, rfl⟩ := List.mem_map.mp hx
    obtain ⟨r, hr, _⟩ := (enm i).mp hi
    have v1 := val_rw hr
    have hk : k (if decide (mOf S.L i = big) = true then some (.int i) else none) M0 := hk
    have eb : mOf S.L i = r.m := by unfold mOf; rw [hr]
    rw [eb] at hk
    ((conv => whnf); (repeat ((first | rw [v1] | (refine andF ?_) | (refine andT ?_) | (refine And.intro (by first | exact rfl | exact Or.inr ⟨by decide, by decide⟩ | exact Or.inl ⟨by omega, by omega⟩ | exact ⟨by decide, by decide, by decide⟩ | exact ⟨by decide, by decide⟩ | decide | omega | assumption | (apply sz; simp; done) | exact tyC_l updM_same | exact tyC_l (by assumption) | exact tyC_d updM_same | exact tyC_d (by assumption)) ?_)); (conv => whnf))))
    refine ⟨fun hb => ?_, fun hb => ?_⟩
    · have hb : decide (r.m = big) = true := hb
      have hb' : decide (mOf S.L i = big) = true := by rw [eb]; exact hb
      ((conv => whnf); (repeat ((first | (refine andF ?_) | (refine andT ?_) | (refine And.intro (by first | exact rfl | exact Or.inr ⟨by decide, by decide⟩ | exact Or.inl ⟨by omega, by omega⟩ | exact ⟨by decide, by decide, by decide⟩ | exact ⟨by decide, by decide⟩ | decide | omega | assumption | (apply sz; simp; done) | exact tyC_l updM_same | exact tyC_l (by assumption) | exact tyC_d updM_same | exact tyC_d (by assumption)) ?_)); (conv => whnf))))
      rw [if_pos hb] at hk
      exact hk
    · have hb : decide (r.m = big) = false := hb
      rw [hb, if_neg Bool.false_ne_true] at hk
      exact hk
  rw [filt_fm]
  ((conv => whnf); (repeat ((first | (refine andF ?_) | (refine andT ?_) | (refine And.intro (by first | exact rfl | exact Or.inr ⟨by decide, by decide⟩ | exact Or.inl ⟨by omega, by omega⟩ | exact ⟨by decide, by decide, by decide⟩ | exact ⟨by decide, by decide⟩ | decide | omega | assumption | (apply sz; simp; done) | exact tyC_l updM_same | exact tyC_l (by assumption) | exact tyC_d updM_same | exact tyC_d (by assumption)) ?_)); (conv => whnf))))
  have fl : (en.filter fun k => decide (mOf S.L k = big)).length ≤ 50 := Nat.le_trans (List.length_filter_le _ _) enl
  obtain ⟨z, hz, ez⟩ := List.mem_map.mp hbig
  refine call_any hM hm (List.length_pos_of_mem (List.mem_filter.mpr ⟨hz, decide_eq_true ez⟩)) (by omega) fun b m1 hb hm1 => ?_
  obtain ⟨hb1, hb2⟩ := List.mem_filter.mp hb
  obtain ⟨l, hl1, hl2⟩ := (enm b).mp hb1
  have hlm : l.m = big := by
    have := dt hb2
    unfold mOf at this; rw [hl1] at this; exact this
  have v2 := val_rw hl1
  ((conv => whnf); (repeat ((first | rw [ks] | (refine andF ?_) | (refine andT ?_) | (refine And.intro (by first | exact rfl | exact Or.inr ⟨by decide, by decide⟩ | exact Or.inl ⟨by omega, by omega⟩ | exact ⟨by decide, by decide, by decide⟩ | exact ⟨by decide, by decide⟩ | decide | omega | assumption | (apply sz; simp; done) | exact tyC_l updM_same | exact tyC_l (by assumption) | exact tyC_d updM_same | exact tyC_d (by assumption)) ?_)); (conv => whnf))))
  refine ⟨by have := g.len; rw [List.length_map]; omega, fun ns2 pm2 so2 => ?_⟩
  have nsl2 : ns2.length ≤ 50 := by rw [pm2.length_eq, List.length_map]; exact g.len
  ((conv => whnf); (repeat ((first | (refine andF ?_) | (refine andT ?_) | (refine And.intro (by first | exact rfl | exact Or.inr ⟨by decide, by decide⟩ | exact Or.inl ⟨by omega, by omega⟩ | exact ⟨by decide, by decide, by decide⟩ | exact ⟨by decide, by decide⟩ | decide | omega | assumption | (apply sz; simp; done) | exact tyC_l updM_same | exact tyC_l (by assumption) | exact tyC_d updM_same | exact tyC_d (by assumption)) ?_)); (conv => whnf))))
  refine call_shuffled updM_same hm1 (by omega) fun ns3 m2 pm3 hm2 => ?_
  ((conv => whnf); (repeat ((first | (refine andF ?_) | (refine andT ?_) | (refine And.intro (by first | exact rfl | exact Or.inr ⟨by decide, by decide⟩ | exact Or.inl ⟨by omega, by omega⟩ | exact ⟨by decide, by decide, by decide⟩ | exact ⟨by decide, by decide⟩ | decide | omega | assumption | (apply sz; simp; done) | exact tyC_l updM_same | exact tyC_l (by assumption) | exact tyC_d updM_same | exact tyC_d (by assumption)) ?_)); (conv => whnf))))
  have hM2 : updM (updM M p m1) p m2 = updM M p m2 := updM_updM
  rw [hM2]
  refine ⟨trivial, for_ind (fun r δ M' => M' = updM M p m2 ∧ ∃ (x : Option D) (dn rem : List Int), δ = [some (.ref p), some (stD S), some (.int S.top), some (.dic (kvR S.L)), some (.lst S.laid), x, x6, x7, x8, x9, x10, some (.lst (en.map D.int)), some (.int big), some (.int b), none] ∧ r = rem.map D.int ∧ ns3 = dn ++ rem ∧ ∀ k ∈ dn, k ≠ b → ∀ q, valA S.L k = some q → q.t < l.t) ?_ ?_ _ _ _ ⟨rfl, x5, [], ns3, rfl, rfl, rfl, fun _ h => by cases h⟩⟩
  · rintro x r δ M' ⟨rfl, x, dn, rem, rfl, e1, e2, hd⟩ k hk
    cases rem with
    | nil => cases e1
    | cons i rem =>
      rw [List.map_cons] at e1
      injection e1 with e3 e4
      subst e3 e4
      have hi : i ∈ S.L.map (·.1) := pm2.mem_iff.mp (pm3.mem_iff.mp (by rw [e2]; simp))
      obtain ⟨q, hq⟩ := val_key hi
      have v3 := val_rw hq
      have hkk : ∀ x', (i ≠ b → q.t < l.t) → k [some (.ref p), some (stD S), some (.int S.top), some (.dic (kvR S.L)), some (.lst S.laid), x', x6, x7, x8, x9, x10, some (.lst (en.map D.int)), some (.int big), some (.int b), none] (updM M p m2) := fun x' h => hk _ _ ⟨trivial, rfl, x', dn ++ [i], rem, rfl, rfl, by rw [e2]; simp, fun j hj hjb q' hq' => by
        rcases List.mem_append.mp hj with hj | hj
        · exact hd j hj hjb q' hq'
        · rw [List.mem_singleton.mp hj] at hjb hq'
          rw [hq] at hq'; cases hq'
          exact h hjb⟩
      clear hk
      ((conv => whnf); (repeat ((first | rw [v2] | rw [v3] | (refine andF ?_) | (refine andT ?_) | (refine And.intro (by first | exact rfl | exact Or.inr ⟨by decide, by decide⟩ | exact Or.inl ⟨by omega, by omega⟩ | exact ⟨by decide, by decide, by decide⟩ | exact ⟨by decide, by decide⟩ | decide | omega | assumption | (apply sz; simp; done) | exact tyC_l updM_same | exact tyC_l (by assumption) | exact tyC_d updM_same | exact tyC_d (by assumption)) ?_)); (conv => whnf))))
      refine ⟨fun hb => ?_, fun hb => ?_⟩
      · have hb : (!decide (i = b)) = true := hb
        have hne : ¬ i = b := by simpa using hb
        ((conv => whnf); (repeat ((first | rw [v2] | rw [v3] | (refine andF ?_) | (refine andT ?_) | (refine And.intro (by first | exact rfl | exact Or.inr ⟨by decide, by decide⟩ | exact Or.inl ⟨by omega, by omega⟩ | exact ⟨by decide, by decide, by decide⟩ | exact ⟨by decide, by decide⟩ | decide | omega | assumption | (apply sz; simp; done) | exact tyC_l updM_same | exact tyC_l (by assumption) | exact tyC_d updM_same | exact tyC_d (by assumption)) ?_)); (conv => whnf))))
        refine ⟨fun hc => ?_, fun hc => ?_⟩
        · have hc : l.t ≤ q.t := dt hc
          have kq : Ok1 S.top q := g.rows _ (val_mem hq)
          have kl : Ok1 S.top l := g.rows _ (val_mem hl1)
          ((conv => whnf); (repeat ((first | (refine andF ?_) | (refine andT ?_) | (refine And.intro (by first | exact rfl | exact Or.inr ⟨by decide, by decide⟩ | exact Or.inl ⟨by omega, by omega⟩ | exact ⟨by decide, by decide, by decide⟩ | exact ⟨by decide, by decide⟩ | decide | omega | assumption | (apply sz; simp; done) | exact tyC_l updM_same | exact tyC_l (by assumption) | exact tyC_d updM_same | exact tyC_d (by assumption)) ?_)); (conv => whnf))))
          exact hQ _ _ ⟨_, m2, .lead hq hl1 hne ((hf _ (val_mem hl1)).leads kl) hc (by have := kq.tm; omega) kq.f01 kl.f01, hm2, rfl⟩
        · have hc : ¬ l.t ≤ q.t := df hc
          ((conv => whnf); (repeat ((first | (refine andF ?_) | (refine andT ?_) | (refine And.intro (by first | exact rfl | exact Or.inr ⟨by decide, by decide⟩ | exact Or.inl ⟨by omega, by omega⟩ | exact ⟨by decide, by decide, by decide⟩ | exact ⟨by decide, by decide⟩ | decide | omega | assumption | (apply sz; simp; done) | exact tyC_l updM_same | exact tyC_l (by assumption) | exact tyC_d updM_same | exact tyC_d (by assumption)) ?_)); (conv => whnf))))
          exact hkk _ fun _ => by omega
      · have hb : (!decide (i = b)) = false := hb
        have he : i = b := by simpa using hb
        ((conv => whnf); (repeat ((first | (refine andF ?_) | (refine andT ?_) | (refine And.intro (by first | exact rfl | exact Or.inr ⟨by decide, by decide⟩ | exact Or.inl ⟨by omega, by omega⟩ | exact ⟨by decide, by decide, by decide⟩ | exact ⟨by decide, by decide⟩ | decide | omega | assumption | (apply sz; simp; done) | exact tyC_l updM_same | exact tyC_l (by assumption) | exact tyC_d updM_same | exact tyC_d (by assumption)) ?_)); (conv => whnf))))
        exact hkk _ fun z => absurd he z
  · rintro δ M' ⟨rfl, x, dn, rem, rfl, e1, e2, hd⟩
    have er : rem = [] := by cases rem with
      | nil => rfl
      | cons _ _ => cases e1
    subst er
    rw [List.append_nil] at e2
    subst e2
    refine rest m2 _ b l _ _ _ _ _ _ _ _ updM_same hm2 hl1 hl2 (fun x hx hxt => ?_) (fun x hx hxb => ?_) fun d M' h => ?_
    · have h1 : x.1 ∈ en := (enm _).mpr ⟨_, val_of_mem g.nd hx, hxt⟩
      have h2 := hmax (mOf S.L x.1) (List.mem_map.mpr ⟨_, h1, rfl⟩)
      unfold mOf at h2
      rw [val_of_mem g.nd hx] at h2
      rw [hlm]; exact h2
    · exact hd x.1 (pm3.mem_iff.mpr (pm2.mem_iff.mpr (List.mem_map.mpr ⟨x, hx, rfl⟩))) hxb _ (val_of_mem g.nd hx)
    · obtain ⟨S', m', a1, a2, a3⟩ := h
      rw [updM_updM] at a3
      exact hQ _ _ ⟨S', m', a1, a2, a3⟩
end K13

set_option Elab.async false
set_option linter.all false
set_option maxRecDepth 100000
set_option maxHeartbeats 4000000
namespace K13
open PySem PySem.Spec L2 FM
open PyProof.Rows hiding St

theorem wise_2 {p : Addr} {m : MO} {S : S13} {M : MH} {Q : DQ} {E : FM.DX} {x5 x6 x7 x8 x9 : Option D} (hM : M p = some m) (hm : DrawM m) (g : Good S) (hf : ∀ x ∈ S.L, Firm x.2) (ht : 0 < S.top)
    (hQ : ∀ d M', (∃ S' m', Step S d S' ∧ DrawM m' ∧ M' = updM M p m') → Q d M') :
    t_law_wise_2 (spOf r_reach) (spOf r_less) (spOf r_any) (spOf r_shuffled) E (fnEnds Q) [some (.ref p), some (stD S), some (.int S.top), some (.dic (kvR S.L)), some (.lst S.laid), x5, x6, x7, x8, x9, none, none, none, none, none] M := by
  have rest := fun (h : ∃ x ∈ S.L, x.2.t + x.2.m = S.top) (x10 : Option D) => wise_4 (E := E) (x5 := x5) (x6 := x6) (x7 := x7) (x8 := x8) (x9 := x9) (x10 := x10) hM hm g hf h hQ
  unfold t_law_wise_2; obtain ⟨T, hT⟩ : ∃ T, T = t_law_wise_4 (spOf r_reach) (spOf r_less) (spOf r_any) (spOf r_shuffled) E := ⟨_, rfl⟩; rw [← hT] at rest ⊢
  ((conv => whnf); (repeat ((first | (refine andF ?_) | (refine andT ?_) | (refine And.intro (by first | exact rfl | exact Or.inr ⟨by decide, by decide⟩ | exact Or.inl ⟨by omega, by omega⟩ | exact ⟨by decide, by decide, by decide⟩ | exact ⟨by decide, by decide⟩ | decide | omega | assumption | (apply sz; simp; done) | exact tyC_l updM_same | exact tyC_l (by assumption) | exact tyC_d updM_same | exact tyC_d (by assumption)) ?_)); (conv => whnf))))
  refine call_reach (b := none) (by have := g.len; omega) fun n hn => ?_
  ((conv => whnf); (repeat ((first | (refine andF ?_) | (refine andT ?_) | (refine And.intro (by first | exact rfl | exact Or.inr ⟨by decide, by decide⟩ | exact Or.inl ⟨by omega, by omega⟩ | exact ⟨by decide, by decide, by decide⟩ | exact ⟨by decide, by decide⟩ | decide | omega | assumption | (apply sz; simp; done) | exact tyC_l updM_same | exact tyC_l (by assumption) | exact tyC_d updM_same | exact tyC_d (by assumption)) ?_)); (conv => whnf))))
  refine ⟨fun hb => ?_, fun hb => ?_⟩
  · have hb : n < S.top := dt hb
    ((conv => whnf); (repeat ((first | (refine andF ?_) | (refine andT ?_) | (refine And.intro (by first | exact rfl | exact Or.inr ⟨by decide, by decide⟩ | exact Or.inl ⟨by omega, by omega⟩ | exact ⟨by decide, by decide, by decide⟩ | exact ⟨by decide, by decide⟩ | decide | omega | assumption | (apply sz; simp; done) | exact tyC_l updM_same | exact tyC_l (by assumption) | exact tyC_d updM_same | exact tyC_d (by assumption)) ?_)); (conv => whnf))))
    have := hn.1
    refine call_less hM hm (by omega) (by have := g.top30; omega) fun c m' c0 c1 hm' => ?_
    ((conv => whnf); (repeat ((first | (refine andF ?_) | (refine andT ?_) | (refine And.intro (by first | exact rfl | exact Or.inr ⟨by decide, by decide⟩ | exact Or.inl ⟨by omega, by omega⟩ | exact ⟨by decide, by decide, by decide⟩ | exact ⟨by decide, by decide⟩ | decide | omega | assumption | (apply sz; simp; done) | exact tyC_l updM_same | exact tyC_l (by assumption) | exact tyC_d updM_same | exact tyC_d (by assumption)) ?_)); (conv => whnf))))
    exact hQ _ _ ⟨_, m', .bare hn (by omega) (by omega), hm', rfl⟩
  · have hb : ¬ n < S.top := df hb
    ((conv => whnf); (repeat ((first | (refine andF ?_) | (refine andT ?_) | (refine And.intro (by first | exact rfl | exact Or.inr ⟨by decide, by decide⟩ | exact Or.inl ⟨by omega, by omega⟩ | exact ⟨by decide, by decide, by decide⟩ | exact ⟨by decide, by decide⟩ | decide | omega | assumption | (apply sz; simp; done) | exact tyC_l updM_same | exact tyC_l (by assumption) | exact tyC_d updM_same | exact tyC_d (by assumption)) ?_)); (conv => whnf))))
    refine rest ?_ _
    rcases hn.2.2 with e | ⟨x, hx, _, e⟩
    · omega
    · exact ⟨x, hx, by have := (g.rows x hx).tm; omega⟩
theorem m_wise : Meets (t_law_wise (spOf r_reach) (spOf r_less) (spOf r_any) (spOf r_shuffled)) 15 (spOf r_wise) := by
  rintro ds M Q E dn ⟨R, ⟨p, m, S, rfl, hM, hm, g, ht, rfl⟩, hQ⟩
  have rest := fun (h : ∀ x ∈ S.L, Firm x.2) (x5 x6 x7 x8 x9 : Option D) => wise_2 (E := E) (x5 := x5) (x6 := x6) (x7 := x7) (x8 := x8) (x9 := x9) hM hm g h ht hQ
  unfold t_law_wise; obtain ⟨T, hT⟩ : ∃ T, T = t_law_wise_2 (spOf r_reach) (spOf r_less) (spOf r_any) (spOf r_shuffled) E := ⟨_, rfl⟩; rw [← hT] at rest ⊢
  have ks := intKs_kvR S.L
  ((conv => whnf); (repeat ((first | rw [ks] | (refine andF ?_) | (refine andT ?_) | (refine And.intro (by first | exact rfl | exact Or.inr ⟨by decide, by decide⟩ | exact Or.inl ⟨by omega, by omega⟩ | exact ⟨by decide, by decide, by decide⟩ | exact ⟨by decide, by decide⟩ | decide | omega | assumption | (apply sz; simp; done) | exact tyC_l updM_same | exact tyC_l (by assumption) | exact tyC_d updM_same | exact tyC_d (by assumption)) ?_)); (conv => whnf))))
  refine ⟨by have := g.len; rw [List.length_map]; omega, fun ns pm so => ?_⟩
  ((conv => whnf); (repeat ((first | (refine andF ?_) | (refine andT ?_) | (refine And.intro (by first | exact rfl | exact Or.inr ⟨by decide, by decide⟩ | exact Or.inl ⟨by omega, by omega⟩ | exact ⟨by decide, by decide, by decide⟩ | exact ⟨by decide, by decide⟩ | decide | omega | assumption | (apply sz; simp; done) | exact tyC_l updM_same | exact tyC_l (by assumption) | exact tyC_d updM_same | exact tyC_d (by assumption)) ?_)); (conv => whnf))))
  refine ⟨trivial, for_ind (fun r δ M' => M' = M ∧ ∃ (x5 x6 x7 x8 x9 : Option D) (dn rem : List Int), δ = [some (.ref p), some (stD S), some (.int S.top), some (.dic (kvR S.L)), some (.lst S.laid), x5, x6, x7, x8, x9, none, none, none, none, none] ∧ r = rem.map D.int ∧ ns = dn ++ rem ∧ ∀ k ∈ dn, ∀ q, valA S.L k = some q → Firm q) ?_ ?_ _ _ _ ⟨rfl, none, none, none, none, none, [], ns, rfl, rfl, rfl, fun _ h => by cases h⟩⟩
  · rintro x r δ M' ⟨rfl, x5, x6, x7, x8, x9, dn, rem, rfl, e1, e2, hd⟩ k hk
    cases rem with
    | nil => cases e1
    | cons i rem =>
      rw [List.map_cons] at e1
      injection e1 with e3 e4
      subst e3 e4
      have hi : i ∈ S.L.map (·.1) := pm.mem_iff.mp (by rw [e2]; simp)
      obtain ⟨q, hq⟩ := val_key hi
      have v3 := val_rw hq
      have kq : Ok1 S.top q := g.rows _ (val_mem hq)
      have hkk : Firm q → ∀ x5 x6 x7 x8 x9, k [some (.ref p), some (stD S), some (.int S.top), some (.dic (kvR S.L)), some (.lst S.laid), x5, x6, x7, x8, x9, none, none, none, none, none] M' := fun h x5 x6 x7 x8 x9 => hk _ _ ⟨trivial, rfl, x5, x6, x7, x8, x9, dn ++ [i], rem, rfl, rfl, by rw [e2]; simp, fun j hj q' hq' => by
        rcases List.mem_append.mp hj with hj | hj
        · exact hd j hj q' hq'
        · rw [List.mem_singleton.mp hj] at hq'
          rw [hq] at hq'; cases hq'
          exact h⟩
      clear hk
      have sec : (¬ (q.f = 0 ∧ q.o = q.t)) → dIfS (dAnd (dB (dOp (eqR false) (dVar 9) (dC (.int 1)))) (dB (dOp ltR (dVar 7) (dOp addR (dVar 6) (dVar 8))))) (dRet (dTup (dCons (dC (.str "halve")) (dCons (dVar 5) dNil)))) dNx { fnEnds Q with nx := k, ct := k, bk := T (fnEnds Q) }
          [some (.ref p), some (stD S), some (.int S.top), some (.dic (kvR S.L)), some (.lst S.laid), some (.int i), some (.int q.o), some (.int q.t), some (.int q.m), some (.int q.f), none, none, none, none, none] M' := by
        intro hni
        ((conv => whnf); (repeat ((first | (refine andF ?_) | (refine andT ?_) | (refine And.intro (by first | exact rfl | exact Or.inr ⟨by decide, by decide⟩ | exact Or.inl ⟨by omega, by omega⟩ | exact ⟨by decide, by decide, by decide⟩ | exact ⟨by decide, by decide⟩ | decide | omega | assumption | (apply sz; simp; done) | exact tyC_l updM_same | exact tyC_l (by assumption) | exact tyC_d updM_same | exact tyC_d (by assumption)) ?_)); (conv => whnf))))
        refine ⟨fun hb => ?_, fun hb => ?_⟩
        · have hb : q.f = 1 := dt hb
          ((conv => whnf); (repeat ((first | (refine andF ?_) | (refine andT ?_) | (refine And.intro (by first | exact rfl | exact Or.inr ⟨by decide, by decide⟩ | exact Or.inl ⟨by omega, by omega⟩ | exact ⟨by decide, by decide, by decide⟩ | exact ⟨by decide, by decide⟩ | decide | omega | assumption | (apply sz; simp; done) | exact tyC_l updM_same | exact tyC_l (by assumption) | exact tyC_d updM_same | exact tyC_d (by assumption)) ?_)); (conv => whnf))))
          refine ⟨fun hc => ?_, fun hc => ?_⟩
          · have hc : q.t < q.o + q.m := dt hc
            ((conv => whnf); (repeat ((first | (refine andF ?_) | (refine andT ?_) | (refine And.intro (by first | exact rfl | exact Or.inr ⟨by decide, by decide⟩ | exact Or.inl ⟨by omega, by omega⟩ | exact ⟨by decide, by decide, by decide⟩ | exact ⟨by decide, by decide⟩ | decide | omega | assumption | (apply sz; simp; done) | exact tyC_l updM_same | exact tyC_l (by assumption) | exact tyC_d updM_same | exact tyC_d (by assumption)) ?_)); (conv => whnf))))
            exact hQ _ _ ⟨_, m, .halve hq hb hc kq.ot, hm, (updM_self hM).symm⟩
          · have hc : ¬ q.t < q.o + q.m := df hc
            ((conv => whnf); (repeat ((first | (refine andF ?_) | (refine andT ?_) | (refine And.intro (by first | exact rfl | exact Or.inr ⟨by decide, by decide⟩ | exact Or.inl ⟨by omega, by omega⟩ | exact ⟨by decide, by decide, by decide⟩ | exact ⟨by decide, by decide⟩ | decide | omega | assumption | (apply sz; simp; done) | exact tyC_l updM_same | exact tyC_l (by assumption) | exact tyC_d updM_same | exact tyC_d (by assumption)) ?_)); (conv => whnf))))
            exact hkk ⟨hni, fun z => hc z.2⟩ _ _ _ _ _
        · have hb : ¬ q.f = 1 := df hb
          ((conv => whnf); (repeat ((first | (refine andF ?_) | (refine andT ?_) | (refine And.intro (by first | exact rfl | exact Or.inr ⟨by decide, by decide⟩ | exact Or.inl ⟨by omega, by omega⟩ | exact ⟨by decide, by decide, by decide⟩ | exact ⟨by decide, by decide⟩ | decide | omega | assumption | (apply sz; simp; done) | exact tyC_l updM_same | exact tyC_l (by assumption) | exact tyC_d updM_same | exact tyC_d (by assumption)) ?_)); (conv => whnf))))
          exact hkk ⟨hni, fun z => hb z.1⟩ _ _ _ _ _
      ((conv => whnf); (repeat ((first | rw [v3] | (refine andF ?_) | (refine andT ?_) | (refine And.intro (by first | exact rfl | exact Or.inr ⟨by decide, by decide⟩ | exact Or.inl ⟨by omega, by omega⟩ | exact ⟨by decide, by decide, by decide⟩ | exact ⟨by decide, by decide⟩ | decide | omega | assumption | (apply sz; simp; done) | exact tyC_l updM_same | exact tyC_l (by assumption) | exact tyC_d updM_same | exact tyC_d (by assumption)) ?_)); (conv => whnf))))
      refine ⟨fun hb => ?_, fun hb => ?_⟩
      · have hb : q.f = 0 := dt hb
        ((conv => whnf); (repeat ((first | rw [v3] | (refine andF ?_) | (refine andT ?_) | (refine And.intro (by first | exact rfl | exact Or.inr ⟨by decide, by decide⟩ | exact Or.inl ⟨by omega, by omega⟩ | exact ⟨by decide, by decide, by decide⟩ | exact ⟨by decide, by decide⟩ | decide | omega | assumption | (apply sz; simp; done) | exact tyC_l updM_same | exact tyC_l (by assumption) | exact tyC_d updM_same | exact tyC_d (by assumption)) ?_)); (conv => whnf))))
        refine ⟨fun hc => ?_, fun hc => ?_⟩
        · have hc : q.o = q.t := dt hc
          ((conv => whnf); (repeat ((first | (refine andF ?_) | (refine andT ?_) | (refine And.intro (by first | exact rfl | exact Or.inr ⟨by decide, by decide⟩ | exact Or.inl ⟨by omega, by omega⟩ | exact ⟨by decide, by decide, by decide⟩ | exact ⟨by decide, by decide⟩ | decide | omega | assumption | (apply sz; simp; done) | exact tyC_l updM_same | exact tyC_l (by assumption) | exact tyC_d updM_same | exact tyC_d (by assumption)) ?_)); (conv => whnf))))
          exact hQ _ _ ⟨_, m, .idle hq hb hc, hm, (updM_self hM).symm⟩
        · have hc : ¬ q.o = q.t := df hc
          exact sec fun z => hc z.2
      · have hb : ¬ q.f = 0 := df hb
        exact ifB_f (sec fun z => hb z.1)
  · rintro δ M' ⟨rfl, x5, x6, x7, x8, x9, dn, rem, rfl, e1, e2, hd⟩
    have er : rem = [] := by cases rem with
      | nil => rfl
      | cons _ _ => cases e1
    subst er
    rw [List.append_nil] at e2
    subst e2
    exact rest (fun x hx => hd x.1 (pm.mem_iff.mpr (List.mem_map.mpr ⟨x, hx, rfl⟩)) _ (val_of_mem g.nd hx)) _ _ _ _ _
end K13

set_option Elab.async false
set_option linter.all false
set_option maxRecDepth 100000
set_option maxHeartbeats 4000000
namespace K13
open PySem PySem.Spec L2 FM
open PyProof.Rows hiding St

theorem put_keys {L : List (Int × Row)} {k : Int} {r : Row} (h : ∃ x, valA L k = some x) : (putA L k r).map (·.1) = L.map (·.1) := by
  obtain ⟨x, hx⟩ := h
  unfold putA
  have ha : (L.any fun kv => decide (kv.1 = k)) = true := List.any_eq_true.mpr ⟨_, val_mem hx, by simp⟩
  rw [if_pos ha, List.map_map]
  congr 1
  funext y
  show (if y.1 = k then (y.1, r) else y).1 = y.1
  split <;> rfl
theorem put_mem {L : List (Int × Row)} {k : Int} {r : Row} (h : ∃ x, valA L k = some x) {y : Int × Row} (hy : y ∈ putA L k r) : y = (k, r) ∨ (y ∈ L ∧ y.1 ≠ k) := by
  obtain ⟨x, hx⟩ := h
  unfold putA at hy
  have ha : (L.any fun kv => decide (kv.1 = k)) = true := List.any_eq_true.mpr ⟨_, val_mem hx, by simp⟩
  rw [if_pos ha] at hy
  obtain ⟨z, hz, e⟩ := List.mem_map.mp hy
  by_cases hk : z.1 = k
  · rw [if_pos hk] at e; subst e; rw [hk]; exact .inl rfl
  · rw [if_neg hk] at e; subst e; exact .inr ⟨hz, hk⟩
theorem drop_mem {L : List (Int × Row)} {k : Int} {y : Int × Row} (hy : y ∈ dropA L k) : y ∈ L ∧ y.1 ≠ k := by
  unfold dropA at hy
  obtain ⟨h1, h2⟩ := List.mem_filter.mp hy
  exact ⟨h1, by simpa using h2⟩
theorem drop_nd {L : List (Int × Row)} {k : Int} (h : (L.map (·.1)).Nodup) : ((dropA L k).map (·.1)).Nodup := by
  unfold dropA
  exact h.sublist (List.filter_sublist.map _)
theorem Ok1.up {a b : Int} {r : Row} (h : Ok1 a r) (k : a ≤ b) : Ok1 b r := ⟨h.o0, h.ot, h.m1, by have := h.tm; omega, h.f01⟩
theorem Step.good {S S' : S13} {mv : D} (g : Good S) (h : Step S mv S') : Good S' ∧ S'.top ≤ S.top ∧ S'.laid.length ≤ S.laid.length + 1 := by
  cases h with
  | @idle k r h1 h2 h3 => exact ⟨⟨drop_nd g.nd, fun x hx => g.rows x (drop_mem hx).1, g.top30, Nat.le_trans (List.length_filter_le _ _) g.len⟩, Int.le_refl _, Nat.le_succ _⟩
  | @halve k r h1 h2 h3 h4 =>
    have kr : Ok1 S.top r := g.rows _ (val_mem h1)
    refine ⟨?_, Int.le_refl _, Nat.le_succ _⟩
    by_cases hb : halfR r = 0
    · rw [if_pos hb]
      exact ⟨drop_nd g.nd, fun x hx => g.rows x (drop_mem hx).1, g.top30, Nat.le_trans (List.length_filter_le _ _) g.len⟩
    · rw [if_neg hb]
      have hh : 1 ≤ halfR r ∧ 2 * halfR r ≤ r.t + r.m - r.o := by
        have := kr.m1; have := kr.ot
        unfold halfR at hb ⊢
        omega
      refine ⟨by rw [put_keys ⟨_, h1⟩]; exact g.nd, fun x hx => ?_, g.top30, by have := congrArg List.length (put_keys (r := ⟨r.o, r.t + r.m - halfR r, halfR r, 1⟩) ⟨_, h1⟩); rw [List.length_map, List.length_map] at this; show (putA _ _ _).length ≤ _; rw [this]; exact g.len⟩
      rcases put_mem ⟨_, h1⟩ hx with e | e
      · subst e
        exact ⟨kr.o0, by show r.o ≤ r.t + r.m - halfR r; omega, hh.1, by show r.t + r.m - halfR r + halfR r ≤ S.top; have := kr.tm; omega, .inr rfl⟩
      · exact g.rows x e.1
  | @bare p n h1 h2 h3 =>
    refine ⟨⟨g.nd, fun x hx => ?_, by have := g.top30; show p ≤ 30; omega, g.len⟩, by show p ≤ S.top; omega, by show (S.laid ++ [_]).length ≤ _; simp⟩
    have a := g.rows x hx
    exact ⟨a.o0, a.ot, a.m1, by have := h1.2.1 x hx (by simp); show _ ≤ p; omega, a.f01⟩
  | @lead k b r l h1 h2 h3 h4 h5 h6 h7 h8 =>
    have kr : Ok1 S.top r := g.rows _ (val_mem h1)
    have kl : Ok1 S.top l := g.rows _ (val_mem h2)
    refine ⟨⟨by show ((putA S.L k (ledR r l)).map _).Nodup; rw [put_keys ⟨_, h1⟩]; exact g.nd, fun x hx => ?_, g.top30, by have := congrArg List.length (put_keys (r := ledR r l) ⟨_, h1⟩); rw [List.length_map, List.length_map] at this; show (putA _ _ _).length ≤ _; rw [this]; exact g.len⟩, Int.le_refl _, Nat.le_succ _⟩
    rcases put_mem ⟨_, h1⟩ hx with e | e
    · subst e
      have hA : 0 ≤ ledAt r l ∧ ledAt r l + r.m ≤ l.t + l.m := by
        unfold ledAt
        unfold leadsB at h4
        have := kl.o0; have := kl.ot; have := kl.m1; have := kr.m1
        by_cases hf : l.f = 1
        · rw [if_pos hf] at h4 ⊢
          have := dt h4
          omega
        · rw [if_neg hf] at h4 ⊢
          have h4 := dt h4
          have e1 := Int.emod_nonneg (r.t - l.o) (show l.t - l.o ≠ 0 by omega)
          have e2 := Int.emod_lt_of_pos (r.t - l.o) (show 0 < l.t - l.o by omega)
          omega
      have := kr.o0; have := kr.ot; have := kr.tm; have := kl.tm
      refine ⟨?_, ?_, kr.m1, ?_, ?_⟩
      · show 0 ≤ (if ledAt r l < r.o then ledAt r l else r.o); split <;> omega
      · show (if ledAt r l < r.o then ledAt r l else r.o) ≤ (if ledAt r l > r.o then ledAt r l else r.o); split <;> split <;> omega
      · show (if ledAt r l > r.o then ledAt r l else r.o) + r.m ≤ S.top; split <;> omega
      · show (r.f + l.f) % 2 = 0 ∨ (r.f + l.f) % 2 = 1; omega
    · exact g.rows x e.1
  | @fold k p r n h1 h2 h3 h4 h5 h6 h7 h8 =>
    have kr : Ok1 S.top r := g.rows _ (val_mem h1)
    have others : ∀ x ∈ S.L, x.1 ≠ k → Ok1 p x.2 := fun x hx hk => by
      have a := g.rows x hx
      exact ⟨a.o0, a.ot, a.m1, by have := h6.2.1 x hx (fun z => hk (Option.some.inj z)); omega, a.f01⟩
    refine ⟨?_, by show p ≤ S.top; omega, by show (S.laid ++ [_]).length ≤ _; simp⟩
    have ht : p ≤ 30 := by have := g.top30; omega
    by_cases hb : p - r.t = 0
    · rw [if_pos hb]
      exact ⟨drop_nd g.nd, fun x hx => others x (drop_mem hx).1 (drop_mem hx).2, ht, Nat.le_trans (List.length_filter_le _ _) g.len⟩
    · rw [if_neg hb]
      refine ⟨by show ((putA S.L k _).map _).Nodup; rw [put_keys ⟨_, h1⟩]; exact g.nd, fun x hx => ?_, ht, by have := congrArg List.length (put_keys (r := ⟨foldO r (p - r.t), r.t, p - r.t, r.f⟩) ⟨_, h1⟩); rw [List.length_map, List.length_map] at this; show (putA _ _ _).length ≤ _; rw [this]; exact g.len⟩
      rcases put_mem ⟨_, h1⟩ hx with e | e
      · subst e
        have hF : 0 ≤ foldO r (p - r.t) ∧ foldO r (p - r.t) ≤ r.t := by
          unfold foldO
          unfold leadsB at h2
          have := kr.o0; have := kr.ot
          by_cases hf : r.f = 1
          · rw [if_pos hf] at h2 ⊢
            have := dt h2
            omega
          · rw [if_neg hf]; omega
        exact ⟨hF.1, hF.2, by show 1 ≤ p - r.t; omega, by show r.t + (p - r.t) ≤ p; omega, kr.f01⟩
      · exact others x e.1 e.2
inductive Run : S13 → List D → S13 → Prop
  | nil {S} : Run S [] S
  | cons {S S1 S2 mv ms} : Step S mv S1 → Run S1 ms S2 → Run S (mv :: ms) S2
theorem Run.snoc {S S1 S2 : S13} {ms : List D} {mv : D} (h : Run S ms S1) (k : Step S1 mv S2) : Run S (ms ++ [mv]) S2 := by
  induction h with
  | nil => exact .cons k .nil
  | cons a _ ih => exact .cons a (ih k)
theorem Run.good {S S' : S13} {ms : List D} (g : Good S) (h : Run S ms S') : Good S' ∧ S'.laid.length ≤ S.laid.length + ms.length := by
  induction h with
  | nil => exact ⟨g, Nat.le_refl _⟩
  | cons a _ ih =>
    obtain ⟨g1, _, h1⟩ := a.good g
    obtain ⟨g2, h2⟩ := ih g1
    exact ⟨g2, by rw [List.length_cons]; omega⟩
end K13

set_option Elab.async false
set_option linter.all false
set_option maxRecDepth 100000
set_option maxHeartbeats 4000000
namespace K13
open PySem PySem.Spec L2 FM
open PyProof.Rows hiding St

theorem fst_ok {n : Int} {r : Row} (h : RowIn n r) : Ok1 n (fstR r) := by
  have := h.o0; have := h.t0; have := h.oe; have := h.te
  refine ⟨?_, ?_, h.m1, ?_, h.f01⟩
  · show 0 ≤ (if r.t < r.o then r.t else r.o); split <;> omega
  · show (if r.t < r.o then r.t else r.o) ≤ (if r.t > r.o then r.t else r.o); split <;> split <;> omega
  · show (if r.t > r.o then r.t else r.o) + r.m ≤ n; split <;> omega
theorem idx_nd : ∀ (i : Nat) (rs : List Row), ((idx i rs).map (·.1)).Nodup
  | _, [] => List.nodup_nil
  | i, r :: rs => by
    show ((i : Int) :: (idx (i + 1) rs).map (·.1)).Nodup
    rw [List.nodup_cons]
    refine ⟨fun h => ?_, idx_nd (i + 1) rs⟩
    obtain ⟨x, hx, e⟩ := List.mem_map.mp h
    have := idx_keys (i + 1) rs x hx
    omega
theorem idx_mem : ∀ (i : Nat) (rs : List Row) (x : Int × Row), x ∈ idx i rs → ∃ r ∈ rs, x.2 = fstR r
  | i, r :: rs, x, h => by
    rcases List.mem_cons.mp h with e | h
    · subst e; exact ⟨r, List.mem_cons_self .., rfl⟩
    · obtain ⟨q, hq, e⟩ := idx_mem (i + 1) rs x h
      exact ⟨q, List.mem_cons_of_mem _ hq, e⟩
theorem begun_good {n : Int} {rs : List Row} (h30 : n ≤ 30) (hl : rs.length ≤ 50) (h : ∀ r ∈ rs, RowIn n r) : Good (begunS n rs) :=
  ⟨idx_nd 0 rs, fun x hx => by obtain ⟨r, hr, e⟩ := idx_mem 0 rs x hx; rw [e]; exact fst_ok (h r hr), h30, by show (idx 0 rs).length ≤ 50; rw [idx_length]; exact hl⟩
theorem call_begun {n : Int} {rs : List Row} {M : MH} {K : D → MH → Prop} (hl : rs.length ≤ 100) (k : K (stD (begunS n rs)) M) : ∃ R, r_begun [.int n, .lst (rs.map rowD)] M R ∧ ∀ d M', R d M' → K d M' :=
  ⟨_, ⟨n, rs, rfl, hl, rfl⟩, fun d M' ⟨e1, e2⟩ => by subst e1 e2; exact k⟩
theorem call_wise {p : Addr} {m : MO} {S : S13} {M : MH} {K : D → MH → Prop} (hM : M p = some m) (hm : DrawM m) (g : Good S) (h0 : 0 < S.top) (k : ∀ mv S' m', Step S mv S' → DrawM m' → K mv (updM M p m')) :
    ∃ R, r_wise [.ref p, stD S] M R ∧ ∀ d M', R d M' → K d M' :=
  ⟨_, ⟨p, m, S, rfl, hM, hm, g, h0, rfl⟩, fun d M' ⟨S', m', h1, h2, e2⟩ => by subst e2; exact k d S' m' h1 h2⟩
def r_some : SpR := fun ds M R => ∃ (p : Addr) (m : MO) (n : Int) (rs : List Row) (c : Int), ds = [.ref p, .int n, .lst (rs.map rowD), .int c] ∧ M p = some m ∧ DrawM m ∧ n ≤ 30 ∧ rs.length ≤ 50 ∧ (∀ r ∈ rs, RowIn n r) ∧ 0 ≤ c ∧ c ≤ 100 ∧
  R = fun d M' => ∃ ms S m', d = .tup [.lst ms, stD S] ∧ Run (begunS n rs) ms S ∧ ms.length ≤ 100 ∧ DrawM m' ∧ M' = updM M p m'
theorem m_some : Meets (t_law_some_moves (spOf r_begun) (spOf r_wise) (spOf r_made)) 7 (spOf r_some) := by
  rintro ds M Q E dn ⟨R, ⟨p, m, n, rs, c, rfl, hM, hm, h30, hl, hr, c0, c1, rfl⟩, hQ⟩
  have g0 := begun_good h30 hl hr
  have rest : ∀ (a : Addr) (t : Option D) (ms : List D) (S : S13) m', M a = none → Run (begunS n rs) ms S → ms.length ≤ 100 → DrawM m' → t_law_some_moves_3 (spOf r_begun) (spOf r_wise) (spOf r_made) E (fnEnds Q) [some (.ref p), some (.int n), some (.lst (rs.map rowD)), some (.int c), some (stD S), some (.ref a), t] (updM (updM M p m') a (.lst ms)) := by
    intro a t ms S m' ha hrun hlm hm'
    have hap : a ≠ p := fun z => by rw [z, hM] at ha; cases ha
    ((conv => whnf); (repeat ((first | rw [updM_same] | (refine andF ?_) | (refine andT ?_) | (refine And.intro (by first | exact rfl | exact Or.inr ⟨by decide, by decide⟩ | exact Or.inl ⟨by omega, by omega⟩ | exact ⟨by decide, by decide, by decide⟩ | exact ⟨by decide, by decide⟩ | decide | omega | assumption | (apply sz; simp; done) | exact tyC_l updM_same | exact tyC_l (by assumption) | exact tyC_d updM_same | exact tyC_d (by assumption)) ?_)); (conv => whnf))))
    rw [delM_updM (by rw [updM_ne hap]; exact ha)]
    exact hQ _ _ ⟨ms, S, m', rfl, hrun, hlm, hm', rfl⟩
  unfold t_law_some_moves; obtain ⟨T, hT⟩ : ∃ T, T = t_law_some_moves_3 (spOf r_begun) (spOf r_wise) (spOf r_made) E := ⟨_, rfl⟩; rw [← hT] at rest ⊢
  ((conv => whnf); (repeat ((first | (refine andF ?_) | (refine andT ?_) | (refine And.intro (by first | exact rfl | exact Or.inr ⟨by decide, by decide⟩ | exact Or.inl ⟨by omega, by omega⟩ | exact ⟨by decide, by decide, by decide⟩ | exact ⟨by decide, by decide⟩ | decide | omega | assumption | (apply sz; simp; done) | exact tyC_l updM_same | exact tyC_l (by assumption) | exact tyC_d updM_same | exact tyC_d (by assumption)) ?_)); (conv => whnf))))
  refine call_begun (by omega) ?_
  ((conv => whnf); (repeat ((first | (refine andF ?_) | (refine andT ?_) | (refine And.intro (by first | exact rfl | exact Or.inr ⟨by decide, by decide⟩ | exact Or.inl ⟨by omega, by omega⟩ | exact ⟨by decide, by decide, by decide⟩ | exact ⟨by decide, by decide⟩ | decide | omega | assumption | (apply sz; simp; done) | exact tyC_l updM_same | exact tyC_l (by assumption) | exact tyC_d updM_same | exact tyC_d (by assumption)) ?_)); (conv => whnf))))
  intro a ha
  have hap : a ≠ p := fun z => by rw [z, hM] at ha; cases ha
  ((conv => whnf); (repeat ((first | (refine andF ?_) | (refine andT ?_)); (conv => whnf))))
  refine ⟨by omega, by omega, trivial, ?_⟩
  refine for_rng (fun i δ M' => ∃ (ms : List D) (S : S13) (m' : MO) (t : Option D), δ = [some (.ref p), some (.int n), some (.lst (rs.map rowD)), some (.int c), some (stD S), some (.ref a), t] ∧ M' = updM (updM M p m') a (.lst ms) ∧ Run (begunS n rs) ms S ∧ ms.length ≤ i ∧ DrawM m') ?_ ?_ _ _ ⟨[], _, m, none, rfl, by rw [updM_self hM], .nil, Nat.le_refl _, hm⟩
  · rintro i δ M' hi ⟨ms, S, m', t, rfl, rfl, hrun, hli, hm'⟩ k hk
    obtain ⟨g, hlaid⟩ := hrun.good g0
    have hi' : i < 100 := by omega
    ((conv => whnf); (repeat ((first | (refine andF ?_) | (refine andT ?_) | (refine And.intro (by first | exact rfl | exact Or.inr ⟨by decide, by decide⟩ | exact Or.inl ⟨by omega, by omega⟩ | exact ⟨by decide, by decide, by decide⟩ | exact ⟨by decide, by decide⟩ | decide | omega | assumption | (apply sz; simp; done) | exact tyC_l updM_same | exact tyC_l (by assumption) | exact tyC_d updM_same | exact tyC_d (by assumption)) ?_)); (conv => whnf))))
    refine ⟨fun hb => ?_, fun hb => ?_⟩
    · have hb : 0 < S.top := dt hb
      ((conv => whnf); (repeat ((first | rw [updM_same] | (refine andF ?_) | (refine andT ?_) | (refine And.intro (by first | exact rfl | exact Or.inr ⟨by decide, by decide⟩ | exact Or.inl ⟨by omega, by omega⟩ | exact ⟨by decide, by decide, by decide⟩ | exact ⟨by decide, by decide⟩ | decide | omega | assumption | (apply sz; simp; done) | exact tyC_l updM_same | exact tyC_l (by assumption) | exact tyC_d updM_same | exact tyC_d (by assumption)) ?_)); (conv => whnf))))
      refine call_wise (by rw [updM_ne (Ne.symm hap)]; exact updM_same) hm' g hb fun mv S' m2 hst hm2 => ?_
      have e0 : updM (updM (updM M p m') a (.lst ms)) p m2 = updM (updM M p m2) a (.lst ms) := by rw [updM_comm hap, updM_updM]
      rw [e0]
      have hlm : ms.length < sizeLine := by rw [sizeLine_eq]; omega
      ((conv => whnf); (repeat ((first | rw [updM_same] | rw [(ixD_last ms mv)] | (refine andF ?_) | (refine andT ?_) | (refine And.intro (by first | exact rfl | exact Or.inr ⟨by decide, by decide⟩ | exact Or.inl ⟨by omega, by omega⟩ | exact ⟨by decide, by decide, by decide⟩ | exact ⟨by decide, by decide⟩ | decide | omega | assumption | (apply sz; simp; done) | exact tyC_l updM_same | exact tyC_l (by assumption) | exact tyC_d updM_same | exact tyC_d (by assumption)) ?_)); (conv => whnf))))
      refine call_made hst (by have := g.len; omega) (by show S.laid.length ≤ 1000; have : (begunS n rs).laid.length = 0 := rfl; omega) ?_
      ((conv => whnf); (repeat ((first | (refine andF ?_) | (refine andT ?_) | (refine And.intro (by first | exact rfl | exact Or.inr ⟨by decide, by decide⟩ | exact Or.inl ⟨by omega, by omega⟩ | exact ⟨by decide, by decide, by decide⟩ | exact ⟨by decide, by decide⟩ | decide | omega | assumption | (apply sz; simp; done) | exact tyC_l updM_same | exact tyC_l (by assumption) | exact tyC_d updM_same | exact tyC_d (by assumption)) ?_)); (conv => whnf))))
      rw [updM_updM]
      exact hk _ _ ⟨trivial, ms ++ [mv], S', m2, _, rfl, rfl, hrun.snoc hst, by rw [List.length_append, List.length_singleton]; omega, hm2⟩
    · ((conv => whnf); (repeat ((first | (refine andF ?_) | (refine andT ?_) | (refine And.intro (by first | exact rfl | exact Or.inr ⟨by decide, by decide⟩ | exact Or.inl ⟨by omega, by omega⟩ | exact ⟨by decide, by decide, by decide⟩ | exact ⟨by decide, by decide⟩ | decide | omega | assumption | (apply sz; simp; done) | exact tyC_l updM_same | exact tyC_l (by assumption) | exact tyC_d updM_same | exact tyC_d (by assumption)) ?_)); (conv => whnf))))
      exact hk _ _ ⟨trivial, ms, S, m', _, rfl, rfl, hrun, by omega, hm'⟩
  · rintro δ M' ⟨ms, S, m', t, rfl, rfl, hrun, hli, hm'⟩
    exact rest a t ms S m' ha hrun (by omega) hm'
end K13

set_option Elab.async false
set_option linter.all false
set_option maxRecDepth 100000
set_option maxHeartbeats 4000000
namespace K13
open PySem PySem.Spec L2 FM
open PyProof.Rows hiding St

def r_back : SpR := fun ds M R => ∃ r, ds = [rowD r] ∧ R = fun d M' => d = rowD ⟨r.t, r.o, r.m, r.f⟩ ∧ M' = M
theorem m_back : Meets t_back 5 (spOf r_back) := by
  rintro ds M Q E dn ⟨R, ⟨r, rfl, rfl⟩, hQ⟩
  ((conv => whnf); (repeat ((first | (refine andF ?_) | (refine andT ?_) | (refine And.intro (by first | exact rfl | exact Or.inr ⟨by decide, by decide⟩ | exact Or.inl ⟨by omega, by omega⟩ | exact ⟨by decide, by decide, by decide⟩ | exact ⟨by decide, by decide⟩ | decide | omega | assumption | (apply sz; simp; done) | exact tyC_l updM_same | exact tyC_l (by assumption) | exact tyC_d updM_same | exact tyC_d (by assumption)) ?_)); (conv => whnf))))
  exact hQ _ _ ⟨rfl, rfl⟩
theorem fst_id {r : Row} (h : r.o ≤ r.t) : fstR r = r := by
  obtain ⟨o, t, m, f⟩ := r
  have h : o ≤ t := h
  show (⟨if t < o then t else o, if t > o then t else o, m, f⟩ : Row) = ⟨o, t, m, f⟩
  rw [if_neg (by omega)]
  by_cases hh : t > o
  · rw [if_pos hh]
  · rw [if_neg hh]; congr 1; omega
theorem fst_sw {r : Row} (h : ¬ r.o ≤ r.t) : fstR r = ⟨r.t, r.o, r.m, r.f⟩ := by
  obtain ⟨o, t, m, f⟩ := r
  have h : ¬ o ≤ t := h
  show (⟨if t < o then t else o, if t > o then t else o, m, f⟩ : Row) = ⟨t, o, m, f⟩
  rw [if_pos (by omega), if_neg (by omega)]
theorem m_normal : Meets (t_normal (spOf r_back)) 1 (spOf r_first) := by
  rintro ds M Q E dn ⟨R, ⟨r, rfl, rfl⟩, hQ⟩
  ((conv => whnf); (repeat ((first | (refine andF ?_) | (refine andT ?_) | (refine And.intro (by first | exact rfl | exact Or.inr ⟨by decide, by decide⟩ | exact Or.inl ⟨by omega, by omega⟩ | exact ⟨by decide, by decide, by decide⟩ | exact ⟨by decide, by decide⟩ | decide | omega | assumption | (apply sz; simp; done) | exact tyC_l updM_same | exact tyC_l (by assumption) | exact tyC_d updM_same | exact tyC_d (by assumption)) ?_)); (conv => whnf))))
  refine ⟨fun hb => ?_, fun hb => ?_⟩
  · ((conv => whnf); (repeat ((first | (refine andF ?_) | (refine andT ?_) | (refine And.intro (by first | exact rfl | exact Or.inr ⟨by decide, by decide⟩ | exact Or.inl ⟨by omega, by omega⟩ | exact ⟨by decide, by decide, by decide⟩ | exact ⟨by decide, by decide⟩ | decide | omega | assumption | (apply sz; simp; done) | exact tyC_l updM_same | exact tyC_l (by assumption) | exact tyC_d updM_same | exact tyC_d (by assumption)) ?_)); (conv => whnf))))
    exact hQ _ _ ⟨by rw [fst_id (dt hb)], rfl⟩
  · ((conv => whnf); (repeat ((first | (refine andF ?_) | (refine andT ?_) | (refine And.intro (by first | exact rfl | exact Or.inr ⟨by decide, by decide⟩ | exact Or.inl ⟨by omega, by omega⟩ | exact ⟨by decide, by decide, by decide⟩ | exact ⟨by decide, by decide⟩ | decide | omega | assumption | (apply sz; simp; done) | exact tyC_l updM_same | exact tyC_l (by assumption) | exact tyC_d updM_same | exact tyC_d (by assumption)) ?_)); (conv => whnf))))
    refine ⟨_, ⟨r, rfl, rfl⟩, fun d M' ⟨e1, e2⟩ => ?_⟩
    subst e1 e2
    exact hQ _ _ ⟨by rw [fst_sw (df hb)], rfl⟩
def r_over : SpR := fun ds M R => ∃ r, ds = [rowD r] ∧ R = fun d M' => d = .bl (decide (r.t < r.o + r.m)) ∧ M' = M
theorem m_over : Meets t_overlaps 1 (spOf r_over) := by
  rintro ds M Q E dn ⟨R, ⟨r, rfl, rfl⟩, hQ⟩
  ((conv => whnf); (repeat ((first | (refine andF ?_) | (refine andT ?_) | (refine And.intro (by first | exact rfl | exact Or.inr ⟨by decide, by decide⟩ | exact Or.inl ⟨by omega, by omega⟩ | exact ⟨by decide, by decide, by decide⟩ | exact ⟨by decide, by decide⟩ | decide | omega | assumption | (apply sz; simp; done) | exact tyC_l updM_same | exact tyC_l (by assumption) | exact tyC_d updM_same | exact tyC_d (by assumption)) ?_)); (conv => whnf))))
  exact hQ _ _ ⟨rfl, rfl⟩
theorem call_over {r : Row} {M : MH} {K : D → MH → Prop} (k : K (.bl (decide (r.t < r.o + r.m))) M) : ∃ R, r_over [rowD r] M R ∧ ∀ d M', R d M' → K d M' :=
  ⟨_, ⟨r, rfl, rfl⟩, fun d M' ⟨e1, e2⟩ => by subst e1 e2; exact k⟩
def halfD (r : Row) : D := if halfR r = 0 then .non else rowD ⟨r.o, r.t + r.m - halfR r, halfR r, 1⟩
def r_halved : SpR := fun ds M R => ∃ r, ds = [rowD r] ∧ R = fun d M' => d = halfD r ∧ M' = M
theorem m_halved : Meets t_halved 6 (spOf r_halved) := by
  rintro ds M Q E dn ⟨R, ⟨r, rfl, rfl⟩, hQ⟩
  ((conv => whnf); (repeat ((first | (refine andF ?_) | (refine andT ?_) | (refine And.intro (by first | exact rfl | exact Or.inr ⟨by decide, by decide⟩ | exact Or.inl ⟨by omega, by omega⟩ | exact ⟨by decide, by decide, by decide⟩ | exact ⟨by decide, by decide⟩ | decide | omega | assumption | (apply sz; simp; done) | exact tyC_l updM_same | exact tyC_l (by assumption) | exact tyC_d updM_same | exact tyC_d (by assumption)) ?_)); (conv => whnf))))
  refine ⟨fun hb => ?_, fun hb => ?_⟩
  · have hb : halfR r = 0 := dt hb
    ((conv => whnf); (repeat ((first | (refine andF ?_) | (refine andT ?_) | (refine And.intro (by first | exact rfl | exact Or.inr ⟨by decide, by decide⟩ | exact Or.inl ⟨by omega, by omega⟩ | exact ⟨by decide, by decide, by decide⟩ | exact ⟨by decide, by decide⟩ | decide | omega | assumption | (apply sz; simp; done) | exact tyC_l updM_same | exact tyC_l (by assumption) | exact tyC_d updM_same | exact tyC_d (by assumption)) ?_)); (conv => whnf))))
    exact hQ _ _ ⟨by unfold halfD; rw [if_pos hb], rfl⟩
  · have hb : ¬ halfR r = 0 := df hb
    ((conv => whnf); (repeat ((first | (refine andF ?_) | (refine andT ?_) | (refine And.intro (by first | exact rfl | exact Or.inr ⟨by decide, by decide⟩ | exact Or.inl ⟨by omega, by omega⟩ | exact ⟨by decide, by decide, by decide⟩ | exact ⟨by decide, by decide⟩ | decide | omega | assumption | (apply sz; simp; done) | exact tyC_l updM_same | exact tyC_l (by assumption) | exact tyC_d updM_same | exact tyC_d (by assumption)) ?_)); (conv => whnf))))
    exact hQ _ _ ⟨by unfold halfD; rw [if_neg hb]; rfl, rfl⟩
theorem m_pleads : Meets (t_leads (spOf r_over)) 1 (spOf r_leads) := by
  rintro ds M Q E dn ⟨R, ⟨r, rfl, rfl⟩, hQ⟩
  unfold t_leads t_leads_1
  ((conv => whnf); (repeat ((first | (refine andF ?_) | (refine andT ?_) | (refine And.intro (by first | exact rfl | exact Or.inr ⟨by decide, by decide⟩ | exact Or.inl ⟨by omega, by omega⟩ | exact ⟨by decide, by decide, by decide⟩ | exact ⟨by decide, by decide⟩ | decide | omega | assumption | (apply sz; simp; done) | exact tyC_l updM_same | exact tyC_l (by assumption) | exact tyC_d updM_same | exact tyC_d (by assumption)) ?_)); (conv => whnf))))
  refine ⟨fun hb => ?_, fun hb => ?_⟩
  · have hb : r.f = 1 := dt hb
    ((conv => whnf); (repeat ((first | (refine andF ?_) | (refine andT ?_) | (refine And.intro (by first | exact rfl | exact Or.inr ⟨by decide, by decide⟩ | exact Or.inl ⟨by omega, by omega⟩ | exact ⟨by decide, by decide, by decide⟩ | exact ⟨by decide, by decide⟩ | decide | omega | assumption | (apply sz; simp; done) | exact tyC_l updM_same | exact tyC_l (by assumption) | exact tyC_d updM_same | exact tyC_d (by assumption)) ?_)); (conv => whnf))))
    refine call_over ?_
    ((conv => whnf); (repeat ((first | (refine andF ?_) | (refine andT ?_) | (refine And.intro (by first | exact rfl | exact Or.inr ⟨by decide, by decide⟩ | exact Or.inl ⟨by omega, by omega⟩ | exact ⟨by decide, by decide, by decide⟩ | exact ⟨by decide, by decide⟩ | decide | omega | assumption | (apply sz; simp; done) | exact tyC_l updM_same | exact tyC_l (by assumption) | exact tyC_d updM_same | exact tyC_d (by assumption)) ?_)); (conv => whnf))))
    refine hQ _ _ ⟨?_, rfl⟩
    unfold leadsB
    rw [if_pos hb]
    congr 1
    by_cases h : r.t < r.o + r.m
    · simp [h]
      try omega
    · simp [h]
      try omega
  · have hb : ¬ r.f = 1 := df hb
    ((conv => whnf); (repeat ((first | (refine andF ?_) | (refine andT ?_) | (refine And.intro (by first | exact rfl | exact Or.inr ⟨by decide, by decide⟩ | exact Or.inl ⟨by omega, by omega⟩ | exact ⟨by decide, by decide, by decide⟩ | exact ⟨by decide, by decide⟩ | decide | omega | assumption | (apply sz; simp; done) | exact tyC_l updM_same | exact tyC_l (by assumption) | exact tyC_d updM_same | exact tyC_d (by assumption)) ?_)); (conv => whnf))))
    exact hQ _ _ ⟨by unfold leadsB; rw [if_neg hb], rfl⟩
def r_leddown : SpR := fun ds M R => ∃ (r l : Row), ds = [rowD l, .int r.t, .int r.m] ∧ (l.f = 1 ∨ l.o < l.t) ∧ R = fun d M' => d = .int (ledAt r l) ∧ M' = M
theorem m_leddown : Meets t_led_down 7 (spOf r_leddown) := by
  rintro ds M Q E dn ⟨R, ⟨r, l, rfl, hl, rfl⟩, hQ⟩
  unfold t_led_down t_led_down_2
  ((conv => whnf); (repeat ((first | (refine andF ?_) | (refine andT ?_) | (refine And.intro (by first | exact rfl | exact Or.inr ⟨by decide, by decide⟩ | exact Or.inl ⟨by omega, by omega⟩ | exact ⟨by decide, by decide, by decide⟩ | exact ⟨by decide, by decide⟩ | decide | omega | assumption | (apply sz; simp; done) | exact tyC_l updM_same | exact tyC_l (by assumption) | exact tyC_d updM_same | exact tyC_d (by assumption)) ?_)); (conv => whnf))))
  refine ⟨fun hb => ?_, fun hb => ?_⟩
  · have hb : l.f = 1 := dt hb
    ((conv => whnf); (repeat ((first | (refine andF ?_) | (refine andT ?_) | (refine And.intro (by first | exact rfl | exact Or.inr ⟨by decide, by decide⟩ | exact Or.inl ⟨by omega, by omega⟩ | exact ⟨by decide, by decide, by decide⟩ | exact ⟨by decide, by decide⟩ | decide | omega | assumption | (apply sz; simp; done) | exact tyC_l updM_same | exact tyC_l (by assumption) | exact tyC_d updM_same | exact tyC_d (by assumption)) ?_)); (conv => whnf))))
    exact hQ _ _ ⟨by unfold ledAt; rw [if_pos hb], rfl⟩
  · have hb : ¬ l.f = 1 := df hb
    ((conv => whnf); (repeat ((first | (refine andF ?_) | (refine andT ?_) | (refine And.intro (by first | exact rfl | exact Or.inr ⟨by decide, by decide⟩ | exact Or.inl ⟨by omega, by omega⟩ | exact ⟨by decide, by decide, by decide⟩ | exact ⟨by decide, by decide⟩ | decide | omega | assumption | (apply sz; simp; done) | exact tyC_l updM_same | exact tyC_l (by assumption) | exact tyC_d updM_same | exact tyC_d (by assumption)) ?_)); (conv => whnf))))
    exact hQ _ _ ⟨by unfold ledAt; rw [if_neg hb], rfl⟩
def r_needlen : SpR := fun ds M R => ∃ n, ds = [.int n] ∧ 0 ≤ n ∧ n ≤ 1000 ∧ R = fun d M' => d = .non ∧ M' = M
theorem m_needlen : Meets t_need_length 1 (spOf r_needlen) := by
  rintro ds M Q E dn ⟨R, ⟨n, rfl, h0, h1, rfl⟩, hQ⟩
  ((conv => whnf); (repeat ((first | rw [kit_ib] | (refine andF ?_) | (refine andT ?_) | (refine And.intro (by first | exact rfl | exact Or.inr ⟨by decide, by decide⟩ | exact Or.inl ⟨by omega, by omega⟩ | exact ⟨by decide, by decide, by decide⟩ | exact ⟨by decide, by decide⟩ | decide | omega | assumption | (apply sz; simp; done) | exact tyC_l updM_same | exact tyC_l (by assumption) | exact tyC_d updM_same | exact tyC_d (by assumption)) ?_)); (conv => whnf))))
  refine ⟨fun hb => ?_, fun hb => absurd h0 (df hb)⟩
  ((conv => whnf); (repeat ((first | (refine andF ?_) | (refine andT ?_) | (refine And.intro (by first | exact rfl | exact Or.inr ⟨by decide, by decide⟩ | exact Or.inl ⟨by omega, by omega⟩ | exact ⟨by decide, by decide, by decide⟩ | exact ⟨by decide, by decide⟩ | decide | omega | assumption | (apply sz; simp; done) | exact tyC_l updM_same | exact tyC_l (by assumption) | exact tyC_d updM_same | exact tyC_d (by assumption)) ?_)); (conv => whnf))))
  refine ⟨fun hb => ?_, fun hb => ?_⟩
  · have hb : (!decide (n ≤ 1000000000000000000)) = true := hb
    simp at hb; omega
  · ((conv => whnf); (repeat ((first | (refine andF ?_) | (refine andT ?_) | (refine And.intro (by first | exact rfl | exact Or.inr ⟨by decide, by decide⟩ | exact Or.inl ⟨by omega, by omega⟩ | exact ⟨by decide, by decide, by decide⟩ | exact ⟨by decide, by decide⟩ | decide | omega | assumption | (apply sz; simp; done) | exact tyC_l updM_same | exact tyC_l (by assumption) | exact tyC_d updM_same | exact tyC_d (by assumption)) ?_)); (conv => whnf))))
    exact hQ _ _ ⟨rfl, rfl⟩
def r_ismating : SpR := fun ds M R => ∃ n r, ds = [.int n, rowD r] ∧ RowIn n r ∧ R = fun d M' => d = .bl true ∧ M' = M
theorem m_ismating : Meets t_is_mating 7 (spOf r_ismating) := by
  rintro ds M Q E dn ⟨R, ⟨n, r, rfl, hr, rfl⟩, hQ⟩
  have rest : t_is_mating_1 E (fnEnds Q) [some (.int n), some (rowD r), none, none, none, none, none] M := by
    obtain ⟨o, t, m, f⟩ := r
    obtain ⟨o0, t0, m1, f01, oe, te⟩ := hr
    have o0 : 0 ≤ o := o0
    have t0 : 0 ≤ t := t0
    have m1 : 1 ≤ m := m1
    have oe : o + m ≤ n := oe
    have te : t + m ≤ n := te
    unfold t_is_mating_1 t_is_mating_3
    have z1 : (0 : Int) ≤ (if t < o then t else o) := by split <;> omega
    have z2 : (if t > o then t else o) + m ≤ n := by split <;> omega
    rcases f01 with rfl | rfl
    · ((conv => whnf); (repeat ((first | (refine andF ?_) | (refine andT ?_) | (refine And.intro (by first | exact rfl | exact Or.inr ⟨by decide, by decide⟩ | exact Or.inl ⟨by omega, by omega⟩ | exact ⟨by decide, by decide, by decide⟩ | exact ⟨by decide, by decide⟩ | decide | omega | assumption | (apply sz; simp; done) | exact tyC_l updM_same | exact tyC_l (by assumption) | exact tyC_d updM_same | exact tyC_d (by assumption)) ?_)); (conv => whnf))))
      refine ⟨fun hb => absurd m1 (by have := dt hb; omega), fun hb => ?_⟩
      ((conv => whnf); (repeat ((first | (refine andF ?_) | (refine andT ?_) | (refine And.intro (by first | exact rfl | exact Or.inr ⟨by decide, by decide⟩ | exact Or.inl ⟨by omega, by omega⟩ | exact ⟨by decide, by decide, by decide⟩ | exact ⟨by decide, by decide⟩ | decide | omega | assumption | (apply sz; simp; done) | exact tyC_l updM_same | exact tyC_l (by assumption) | exact tyC_d updM_same | exact tyC_d (by assumption)) ?_)); (conv => whnf))))
      refine ⟨fun hb => ?_, fun hb => absurd z1 (df hb)⟩
      ((conv => whnf); (repeat ((first | (refine andF ?_) | (refine andT ?_) | (refine And.intro (by first | exact rfl | exact Or.inr ⟨by decide, by decide⟩ | exact Or.inl ⟨by omega, by omega⟩ | exact ⟨by decide, by decide, by decide⟩ | exact ⟨by decide, by decide⟩ | decide | omega | assumption | (apply sz; simp; done) | exact tyC_l updM_same | exact tyC_l (by assumption) | exact tyC_d updM_same | exact tyC_d (by assumption)) ?_)); (conv => whnf))))
      exact hQ _ _ ⟨congrArg D.bl (decide_eq_true z2), rfl⟩
    · ((conv => whnf); (repeat ((first | (refine andF ?_) | (refine andT ?_) | (refine And.intro (by first | exact rfl | exact Or.inr ⟨by decide, by decide⟩ | exact Or.inl ⟨by omega, by omega⟩ | exact ⟨by decide, by decide, by decide⟩ | exact ⟨by decide, by decide⟩ | decide | omega | assumption | (apply sz; simp; done) | exact tyC_l updM_same | exact tyC_l (by assumption) | exact tyC_d updM_same | exact tyC_d (by assumption)) ?_)); (conv => whnf))))
      refine ⟨fun hb => absurd m1 (by have := dt hb; omega), fun hb => ?_⟩
      ((conv => whnf); (repeat ((first | (refine andF ?_) | (refine andT ?_) | (refine And.intro (by first | exact rfl | exact Or.inr ⟨by decide, by decide⟩ | exact Or.inl ⟨by omega, by omega⟩ | exact ⟨by decide, by decide, by decide⟩ | exact ⟨by decide, by decide⟩ | decide | omega | assumption | (apply sz; simp; done) | exact tyC_l updM_same | exact tyC_l (by assumption) | exact tyC_d updM_same | exact tyC_d (by assumption)) ?_)); (conv => whnf))))
      refine ⟨fun hb => ?_, fun hb => absurd z1 (df hb)⟩
      ((conv => whnf); (repeat ((first | (refine andF ?_) | (refine andT ?_) | (refine And.intro (by first | exact rfl | exact Or.inr ⟨by decide, by decide⟩ | exact Or.inl ⟨by omega, by omega⟩ | exact ⟨by decide, by decide, by decide⟩ | exact ⟨by decide, by decide⟩ | decide | omega | assumption | (apply sz; simp; done) | exact tyC_l updM_same | exact tyC_l (by assumption) | exact tyC_d updM_same | exact tyC_d (by assumption)) ?_)); (conv => whnf))))
      exact hQ _ _ ⟨congrArg D.bl (decide_eq_true z2), rfl⟩
  unfold t_is_mating; obtain ⟨T, hT⟩ : ∃ T, T = t_is_mating_1 E := ⟨_, rfl⟩; rw [← hT] at rest ⊢
  ((conv => whnf); (repeat ((first | (refine andF ?_) | (refine andT ?_) | (refine And.intro (by first | exact rfl | exact Or.inr ⟨by decide, by decide⟩ | exact Or.inl ⟨by omega, by omega⟩ | exact ⟨by decide, by decide, by decide⟩ | exact ⟨by decide, by decide⟩ | decide | omega | assumption | (apply sz; simp; done) | exact tyC_l updM_same | exact tyC_l (by assumption) | exact tyC_d updM_same | exact tyC_d (by assumption)) ?_)); (conv => whnf))))
  refine lc_allT (fun _ => some (.bl false)) _ (fun x hx M0 hM0 k hk => ?_) (by rw [sizeLine_eq]; simp) ?_
  · have : ∃ i, x = .int i := by
      simp only [List.mem_cons, List.not_mem_nil, or_false] at hx
      rcases hx with e | e | e | e <;> exact ⟨_, e⟩
    obtain ⟨i, rfl⟩ := this
    ((conv => whnf); (repeat ((first | rw [kit_ib] | (refine andF ?_) | (refine andT ?_) | (refine And.intro (by first | exact rfl | exact Or.inr ⟨by decide, by decide⟩ | exact Or.inl ⟨by omega, by omega⟩ | exact ⟨by decide, by decide, by decide⟩ | exact ⟨by decide, by decide⟩ | decide | omega | assumption | (apply sz; simp; done) | exact tyC_l updM_same | exact tyC_l (by assumption) | exact tyC_d updM_same | exact tyC_d (by assumption)) ?_)); (conv => whnf))))
    exact hk
  · ((conv => whnf); (repeat ((first | (refine andF ?_) | (refine andT ?_) | (refine And.intro (by first | exact rfl | exact Or.inr ⟨by decide, by decide⟩ | exact Or.inl ⟨by omega, by omega⟩ | exact ⟨by decide, by decide, by decide⟩ | exact ⟨by decide, by decide⟩ | decide | omega | assumption | (apply sz; simp; done) | exact tyC_l updM_same | exact tyC_l (by assumption) | exact tyC_d updM_same | exact tyC_d (by assumption)) ?_)); (conv => whnf))))
    exact rest
def r_needmat : SpR := fun ds M R => ∃ (n : Int) (rs : List Row), ds = [.int n, .lst (rs.map rowD)] ∧ 0 ≤ n ∧ n ≤ 1000 ∧ rs.length ≤ 24 ∧ (∀ r ∈ rs, RowIn n r) ∧ R = fun d M' => d = .non ∧ M' = M
theorem m_needmat : Meets (t_need_matings (spOf r_needlen) (spOf r_ismating)) 3 (spOf r_needmat) := by
  rintro ds M Q E dn ⟨R, ⟨n, rs, rfl, h0, h1, hl, hr, rfl⟩, hQ⟩
  have rest : ∀ t, t_need_matings_2 (spOf r_needlen) (spOf r_ismating) E (fnEnds Q) [some (.int n), some (.lst (rs.map rowD)), t] M := by
    intro t
    ((conv => whnf); (repeat ((first | (refine andF ?_) | (refine andT ?_) | (refine And.intro (by first | exact rfl | exact Or.inr ⟨by decide, by decide⟩ | exact Or.inl ⟨by omega, by omega⟩ | exact ⟨by decide, by decide, by decide⟩ | exact ⟨by decide, by decide⟩ | decide | omega | assumption | (apply sz; simp; done) | exact tyC_l updM_same | exact tyC_l (by assumption) | exact tyC_d updM_same | exact tyC_d (by assumption)) ?_)); (conv => whnf))))
    refine ⟨fun hb => ?_, fun hb => ?_⟩
    · have hb : (24 : Int) < ((rs.map rowD).length : Nat) := dt hb
      rw [List.length_map] at hb; omega
    · ((conv => whnf); (repeat ((first | (refine andF ?_) | (refine andT ?_) | (refine And.intro (by first | exact rfl | exact Or.inr ⟨by decide, by decide⟩ | exact Or.inl ⟨by omega, by omega⟩ | exact ⟨by decide, by decide, by decide⟩ | exact ⟨by decide, by decide⟩ | decide | omega | assumption | (apply sz; simp; done) | exact tyC_l updM_same | exact tyC_l (by assumption) | exact tyC_d updM_same | exact tyC_d (by assumption)) ?_)); (conv => whnf))))
      exact hQ _ _ ⟨rfl, rfl⟩
  unfold t_need_matings; obtain ⟨T, hT⟩ : ∃ T, T = t_need_matings_2 (spOf r_needlen) (spOf r_ismating) E := ⟨_, rfl⟩; rw [← hT] at rest ⊢
  ((conv => whnf); (repeat ((first | (refine andF ?_) | (refine andT ?_) | (refine And.intro (by first | exact rfl | exact Or.inr ⟨by decide, by decide⟩ | exact Or.inl ⟨by omega, by omega⟩ | exact ⟨by decide, by decide, by decide⟩ | exact ⟨by decide, by decide⟩ | decide | omega | assumption | (apply sz; simp; done) | exact tyC_l updM_same | exact tyC_l (by assumption) | exact tyC_d updM_same | exact tyC_d (by assumption)) ?_)); (conv => whnf))))
  refine ⟨_, ⟨n, rfl, h0, h1, rfl⟩, fun d M' ⟨e1, e2⟩ => ?_⟩
  subst e1 e2
  ((conv => whnf); (repeat ((first | (refine andF ?_) | (refine andT ?_)); (conv => whnf))))
  refine ⟨trivial, for_ind (fun r δ M'' => M'' = M' ∧ ∃ (t : Option D) (rem : List Row), δ = [some (.int n), some (.lst (rs.map rowD)), t] ∧ r = rem.map rowD ∧ ∀ q ∈ rem, RowIn n q) ?_ ?_ _ _ _ ⟨rfl, none, rs, rfl, rfl, hr⟩⟩
  · rintro x r δ M'' ⟨rfl, t, rem, rfl, e1, hrem⟩ k hk
    cases rem with
    | nil => cases e1
    | cons q rem =>
      rw [List.map_cons] at e1
      injection e1 with e3 e4
      subst e3 e4
      ((conv => whnf); (repeat ((first | (refine andF ?_) | (refine andT ?_) | (refine And.intro (by first | exact rfl | exact Or.inr ⟨by decide, by decide⟩ | exact Or.inl ⟨by omega, by omega⟩ | exact ⟨by decide, by decide, by decide⟩ | exact ⟨by decide, by decide⟩ | decide | omega | assumption | (apply sz; simp; done) | exact tyC_l updM_same | exact tyC_l (by assumption) | exact tyC_d updM_same | exact tyC_d (by assumption)) ?_)); (conv => whnf))))
      refine ⟨_, ⟨n, q, rfl, hrem q (List.mem_cons_self ..), rfl⟩, fun d M2 ⟨e1, e2⟩ => ?_⟩
      subst e1 e2
      ((conv => whnf); (repeat ((first | (refine andF ?_) | (refine andT ?_) | (refine And.intro (by first | exact rfl | exact Or.inr ⟨by decide, by decide⟩ | exact Or.inl ⟨by omega, by omega⟩ | exact ⟨by decide, by decide, by decide⟩ | exact ⟨by decide, by decide⟩ | decide | omega | assumption | (apply sz; simp; done) | exact tyC_l updM_same | exact tyC_l (by assumption) | exact tyC_d updM_same | exact tyC_d (by assumption)) ?_)); (conv => whnf))))
      exact hk _ _ ⟨trivial, rfl, _, rem, rfl, rfl, fun q' h => hrem q' (List.mem_cons_of_mem _ h)⟩
  · rintro δ M'' ⟨rfl, t, rem, rfl, e1, hrem⟩
    exact rest t
end K13

set_option Elab.async false
set_option linter.all false
set_option maxRecDepth 100000
set_option maxHeartbeats 4000000
namespace K13
open PySem PySem.Spec L2 FM
open PyProof.Rows hiding St

theorem seeS_l {M : MH} {p : Addr} {xs : List D} (h : M p = some (.lst xs)) : seeS M (.ref p) = some xs := by
  show (match (M p).map unlk with
    | some (.lst xs) => some xs
    | _ => none) = _
  rw [h]; rfl
theorem seeL_l {M : MH} {p : Addr} {xs : List D} (h : M p = some (.lst xs)) : seeL M (.ref p) = some xs := by
  show (match (M p).map unlk with
    | some (.lst xs) => some xs
    | _ => none) = _
  rw [h]; rfl
theorem seeD_d {M : MH} {p : Addr} {xs : List (Key × D)} (h : M p = some (.dic xs)) : seeD M (.ref p) = some xs := by
  show (match (M p).map unlk with
    | some (.dic xs) => some xs
    | _ => none) = _
  rw [h]; rfl
abbrev frO (C : Addr) (top : Int) (q l : Addr) : MO := .ins C [("height", .int top), ("standing", .ref q), ("laid", .ref l)]
/-- a front's cells -/
structure At (M : MH) (C : Addr) (S : S13) (p q l : Addr) : Prop where
  hp : M p = some (frO C S.top q l)
  hq : M q = some (.dic (kvR S.L))
  hl : M l = some (.lst S.laid)
section
variable {M : MH} {C : Addr} {S : S13} {p q l : Addr}
theorem At.pq (h : At M C S p q l) : p ≠ q := fun e => by have := h.hp; rw [e, h.hq] at this; cases this
theorem At.pl (h : At M C S p q l) : p ≠ l := fun e => by have := h.hp; rw [e, h.hl] at this; cases this
theorem At.ql (h : At M C S p q l) : q ≠ l := fun e => by have := h.hq; rw [e, h.hl] at this; cases this
end
/-- .. written anew -/
def frU (M : MH) (C : Addr) (S : S13) (p q l : Addr) : MH := updM (updM (updM M p (frO C S.top q l)) q (.dic (kvR S.L))) l (.lst S.laid)
theorem At.same {M : MH} {C : Addr} {S : S13} {p q l : Addr} (h : At M C S p q l) : frU M C S p q l = M := by
  unfold frU
  rw [updM_self h.hp, updM_self h.hq, updM_self h.hl]
theorem frU_at {M : MH} {C : Addr} {S : S13} {p q l : Addr} (h1 : p ≠ q) (h2 : p ≠ l) (h3 : q ≠ l) : At (frU M C S p q l) C S p q l :=
  ⟨by unfold frU; rw [updM_ne h2, updM_ne h1, updM_same], by unfold frU; rw [updM_ne h3, updM_same], updM_same⟩
def r_top (C : Addr) : SpR := fun ds M R => ∃ p S q l, ds = [.ref p] ∧ At M C S p q l ∧ R = fun d M' => d = .int S.top ∧ M' = M
theorem m_top (C : Addr) : Meets (t_Front_top C) 1 (spOf (r_top C)) := by
  rintro ds M Q E dn ⟨R, ⟨p, S, q, l, rfl, h, rfl⟩, hQ⟩
  ((conv => whnf); (repeat ((first | (refine andF ?_) | (refine andT ?_) | (refine And.intro (by first | exact rfl | exact Or.inr ⟨by decide, by decide⟩ | exact Or.inl ⟨by omega, by omega⟩ | exact ⟨by decide, by decide, by decide⟩ | exact ⟨by decide, by decide⟩ | decide | omega | assumption | (apply sz; simp; done) | exact tyC_l updM_same | exact tyC_l (by assumption) | exact tyC_d updM_same | exact tyC_d (by assumption)) ?_)); (conv => whnf))))
  exact ⟨p, _, _, rfl, h.hp, rfl, hQ _ _ ⟨rfl, rfl⟩⟩
def r_led_on (C : Addr) : SpR := fun ds M R => ∃ p S q l, ds = [.ref p] ∧ At M C S p q l ∧ R = fun d M' => d = .lst S.laid ∧ M' = M
theorem m_led_on (C : Addr) : Meets (t_Front_led_on C) 1 (spOf (r_led_on C)) := by
  rintro ds M Q E dn ⟨R, ⟨p, S, q, l, rfl, h, rfl⟩, hQ⟩
  have hl := h.hl
  ((conv => whnf); (repeat ((first | (refine andF ?_) | (refine andT ?_) | (refine And.intro (by first | exact rfl | exact Or.inr ⟨by decide, by decide⟩ | exact Or.inl ⟨by omega, by omega⟩ | exact ⟨by decide, by decide, by decide⟩ | exact ⟨by decide, by decide⟩ | decide | omega | assumption | (apply sz; simp; done) | exact tyC_l updM_same | exact tyC_l (by assumption) | exact tyC_d updM_same | exact tyC_d (by assumption)) ?_)); (conv => whnf))))
  refine ⟨p, _, _, rfl, h.hp, rfl, ?_⟩
  ((conv => whnf); (repeat ((first | rw [(seeS_l hl)] | (refine andF ?_) | (refine andT ?_) | (refine And.intro (by first | exact rfl | exact Or.inr ⟨by decide, by decide⟩ | exact Or.inl ⟨by omega, by omega⟩ | exact ⟨by decide, by decide, by decide⟩ | exact ⟨by decide, by decide⟩ | decide | omega | assumption | (apply sz; simp; done) | exact tyC_l updM_same | exact tyC_l (by assumption) | exact tyC_d updM_same | exact tyC_d (by assumption)) ?_)); (conv => whnf))))
  exact hQ _ _ ⟨rfl, rfl⟩
/-- the rows as left() tells them -/
def IsLeft (L : List (Int × Row)) (d : D) : Prop := ∃ ns : List Int, ns.Perm (L.map (·.1)) ∧ ns.Pairwise (· ≤ ·) ∧ d = .lst (ns.map fun k => .tup [.int k, ((valA L k).map rowD).getD .non])
def leftF (L : List (Int × Row)) : D → Option D
  | .int k => some (.tup [.int k, ((valA L k).map rowD).getD .non])
  | _ => none
theorem left_fm (L : List (Int × Row)) : ∀ ns : List Int, (ns.map D.int).filterMap (leftF L) = ns.map fun k => .tup [.int k, ((valA L k).map rowD).getD .non]
  | [] => rfl
  | k :: ns => by rw [List.map_cons, List.filterMap_cons]; show _ :: _ = _; rw [left_fm L ns]; rfl
def r_left (C : Addr) : SpR := fun ds M R => ∃ p S q l, ds = [.ref p] ∧ At M C S p q l ∧ S.L.length ≤ 50 ∧ R = fun d M' => IsLeft S.L d ∧ M' = M
theorem m_left (C : Addr) : Meets (t_Front_left C) 2 (spOf (r_left C)) := by
  rintro ds M Q E dn ⟨R, ⟨p, S, q, l, rfl, h, hl, rfl⟩, hQ⟩
  have hq := h.hq
  have ks := intKs_kvR S.L
  ((conv => whnf); (repeat ((first | (refine andF ?_) | (refine andT ?_) | (refine And.intro (by first | exact rfl | exact Or.inr ⟨by decide, by decide⟩ | exact Or.inl ⟨by omega, by omega⟩ | exact ⟨by decide, by decide, by decide⟩ | exact ⟨by decide, by decide⟩ | decide | omega | assumption | (apply sz; simp; done) | exact tyC_l updM_same | exact tyC_l (by assumption) | exact tyC_d updM_same | exact tyC_d (by assumption)) ?_)); (conv => whnf))))
  refine ⟨p, _, _, rfl, h.hp, rfl, ?_⟩
  ((conv => whnf); (repeat ((first | rw [(seeD_d hq)] | rw [ks] | (refine andF ?_) | (refine andT ?_) | (refine And.intro (by first | exact rfl | exact Or.inr ⟨by decide, by decide⟩ | exact Or.inl ⟨by omega, by omega⟩ | exact ⟨by decide, by decide, by decide⟩ | exact ⟨by decide, by decide⟩ | decide | omega | assumption | (apply sz; simp; done) | exact tyC_l updM_same | exact tyC_l (by assumption) | exact tyC_d updM_same | exact tyC_d (by assumption)) ?_)); (conv => whnf))))
  refine ⟨by rw [List.length_map]; omega, fun ns pm so => ?_⟩
  have nsl : ns.length ≤ 50 := by rw [pm.length_eq, List.length_map]; exact hl
  ((conv => whnf); (repeat ((first | (refine andF ?_) | (refine andT ?_) | (refine And.intro (by first | exact rfl | exact Or.inr ⟨by decide, by decide⟩ | exact Or.inl ⟨by omega, by omega⟩ | exact ⟨by decide, by decide, by decide⟩ | exact ⟨by decide, by decide⟩ | decide | omega | assumption | (apply sz; simp; done) | exact tyC_l updM_same | exact tyC_l (by assumption) | exact tyC_d updM_same | exact tyC_d (by assumption)) ?_)); (conv => whnf))))
  refine lc_allT (leftF S.L) _ (fun x hx M0 hM0 k hk => ?_) (by rw [List.length_map, sizeLine_eq]; omega) ?_
  · obtain ⟨i, hi, rfl⟩ := List.mem_map.mp hx
    obtain ⟨r, hr⟩ := val_key (pm.mem_iff.mp hi)
    have v1 := val_rw hr
    have hk : k (some (.tup [.int i, ((valA S.L i).map rowD).getD .non])) M0 := hk
    rw [hr] at hk
    have hq0 := hM0 _ _ hq
    ((conv => whnf); (repeat ((first | (refine andF ?_) | (refine andT ?_) | (refine And.intro (by first | exact rfl | exact Or.inr ⟨by decide, by decide⟩ | exact Or.inl ⟨by omega, by omega⟩ | exact ⟨by decide, by decide, by decide⟩ | exact ⟨by decide, by decide⟩ | decide | omega | assumption | (apply sz; simp; done) | exact tyC_l updM_same | exact tyC_l (by assumption) | exact tyC_d updM_same | exact tyC_d (by assumption)) ?_)); (conv => whnf))))
    refine ⟨p, _, _, rfl, hM0 _ _ h.hp, rfl, ?_⟩
    ((conv => whnf); (repeat ((first | rw [hq0] | rw [v1] | (refine andF ?_) | (refine andT ?_) | (refine And.intro (by first | exact rfl | exact Or.inr ⟨by decide, by decide⟩ | exact Or.inl ⟨by omega, by omega⟩ | exact ⟨by decide, by decide, by decide⟩ | exact ⟨by decide, by decide⟩ | decide | omega | assumption | (apply sz; simp; done) | exact tyC_l updM_same | exact tyC_l (by assumption) | exact tyC_d updM_same | exact tyC_d (by assumption)) ?_)); (conv => whnf))))
    exact hk
  · rw [left_fm]
    exact hQ _ _ ⟨⟨ns, pm, so, rfl⟩, rfl⟩
/-! reach -/
def r_freach (C : Addr) : SpR := fun ds M R => ∃ p S q l b, ds = [.ref p, butD b] ∧ At M C S p q l ∧ R = fun d M' => ∃ n, d = .int n ∧ IsReach S.L b n ∧ M' = M
theorem m_freach (C : Addr) : Meets (t_Front_reach C) 5 (spOf (r_freach C)) := by
  rintro ds M Q E dn ⟨R, ⟨p, S, q, l, b, rfl, h, rfl⟩, hQ⟩
  have hq := h.hq
  have rest : ∀ (n : Int) t u, IsReach S.L b n → t_Front_reach_2 C E (fnEnds Q) [some (.ref p), some (butD b), some (.int n), t, u] M := fun n t u hn => hQ _ _ ⟨n, rfl, hn, rfl⟩
  unfold t_Front_reach; obtain ⟨T, hT⟩ : ∃ T, T = t_Front_reach_2 C E := ⟨_, rfl⟩; rw [← hT] at rest ⊢
  ((conv => whnf); (repeat ((first | (refine andF ?_) | (refine andT ?_) | (refine And.intro (by first | exact rfl | exact Or.inr ⟨by decide, by decide⟩ | exact Or.inl ⟨by omega, by omega⟩ | exact ⟨by decide, by decide, by decide⟩ | exact ⟨by decide, by decide⟩ | decide | omega | assumption | (apply sz; simp; done) | exact tyC_l updM_same | exact tyC_l (by assumption) | exact tyC_d updM_same | exact tyC_d (by assumption)) ?_)); (conv => whnf))))
  refine ⟨q, _, hq, fun u => ?_⟩
  have hp' : updM M q (.lock u (.dic (kvR S.L))) p = some (frO C S.top q l) := by rw [updM_ne h.pq]; exact h.hp
  ((conv => whnf); (repeat ((first | (refine andF ?_) | (refine andT ?_) | (refine And.intro (by first | exact rfl | exact Or.inr ⟨by decide, by decide⟩ | exact Or.inl ⟨by omega, by omega⟩ | exact ⟨by decide, by decide, by decide⟩ | exact ⟨by decide, by decide⟩ | decide | omega | assumption | (apply sz; simp; done) | exact tyC_l updM_same | exact tyC_l (by assumption) | exact tyC_d updM_same | exact tyC_d (by assumption)) ?_)); (conv => whnf))))
  refine ⟨p, _, _, rfl, hp', rfl, ?_⟩
  ((conv => whnf); (repeat ((first | rw [updM_same] | (refine andF ?_) | (refine andT ?_)); (conv => whnf))))
  refine ⟨updM_same, for_ind (fun r δ M' => M' = updM M q (.lock u (.dic (kvR S.L))) ∧ ∃ (n : Int) (t v : Option D) (dn rem : List (Int × Row)), δ = [some (.ref p), some (butD b), some (.int n), t, v] ∧ r = (kvR rem).map (fun kv => .tup [kD kv.1, kv.2]) ∧ S.L = dn ++ rem ∧ IsReach dn b n) ?_ ?_ _ _ _ ⟨rfl, 0, none, none, [], S.L, rfl, rfl, rfl, Int.le_refl _, (fun _ h => by cases h), .inl rfl⟩⟩
  · rintro x r δ M' ⟨rfl, n, t, v, dn, rem, rfl, e1, e2, hn⟩ k hk
    cases rem with
    | nil => cases e1
    | cons y rem =>
      have e1 : x :: r = .tup [.int y.1, rowD y.2] :: (kvR rem).map (fun kv => .tup [kD kv.1, kv.2]) := e1
      injection e1 with e3 e4
      subst e3 e4
      have hkk : ∀ n' t' v', IsReach (dn ++ [y]) b n' → k [some (.ref p), some (butD b), some (.int n'), t', v'] (updM M q (.lock u (.dic (kvR S.L)))) := fun n' t' v' h' => hk _ _ ⟨updM_same, rfl, n', t', v', dn ++ [y], rem, rfl, rfl, by rw [e2]; simp, h'⟩
      have yes : some y.1 ≠ b → IsReach (dn ++ [y]) b (if y.2.t + y.2.m > n then y.2.t + y.2.m else n) := fun hb => by
        obtain ⟨a1, a2, a3⟩ := hn
        refine ⟨by split <;> omega, fun x hx hxb => ?_, ?_⟩
        · rcases List.mem_append.mp hx with hx | hx
          · have := a2 x hx hxb; split <;> omega
          · rw [List.mem_singleton.mp hx]; split <;> omega
        · by_cases hc : y.2.t + y.2.m > n
          · rw [if_pos hc]; exact .inr ⟨y, by simp, hb, rfl⟩
          · rw [if_neg hc]
            rcases a3 with z | ⟨x, hx, hxb, z⟩
            · exact .inl z
            · exact .inr ⟨x, List.mem_append_left _ hx, hxb, z⟩
      have no : some y.1 = b → IsReach (dn ++ [y]) b n := fun hb => by
        obtain ⟨a1, a2, a3⟩ := hn
        refine ⟨a1, fun x hx hxb => ?_, ?_⟩
        · rcases List.mem_append.mp hx with hx | hx
          · exact a2 x hx hxb
          · rw [List.mem_singleton.mp hx] at hxb; exact absurd hb hxb
        · rcases a3 with z | ⟨x, hx, hxb, z⟩
          · exact .inl z
          · exact .inr ⟨x, List.mem_append_left _ hx, hxb, z⟩
      cases b with
      | none =>
        ((conv => whnf); (repeat ((first | (refine andF ?_) | (refine andT ?_) | (refine And.intro (by first | exact rfl | exact Or.inr ⟨by decide, by decide⟩ | exact Or.inl ⟨by omega, by omega⟩ | exact ⟨by decide, by decide, by decide⟩ | exact ⟨by decide, by decide⟩ | decide | omega | assumption | (apply sz; simp; done) | exact tyC_l updM_same | exact tyC_l (by assumption) | exact tyC_d updM_same | exact tyC_d (by assumption)) ?_)); (conv => whnf))))
        exact hkk _ _ _ (yes (by simp))
      | some i =>
        ((conv => whnf); (repeat ((first | (refine andF ?_) | (refine andT ?_) | (refine And.intro (by first | exact rfl | exact Or.inr ⟨by decide, by decide⟩ | exact Or.inl ⟨by omega, by omega⟩ | exact ⟨by decide, by decide, by decide⟩ | exact ⟨by decide, by decide⟩ | decide | omega | assumption | (apply sz; simp; done) | exact tyC_l updM_same | exact tyC_l (by assumption) | exact tyC_d updM_same | exact tyC_d (by assumption)) ?_)); (conv => whnf))))
        refine ⟨fun hb => ?_, fun hb => ?_⟩
        · have hb : (!decide (y.1 = i)) = true := hb
          have hne : ¬ y.1 = i := by simpa using hb
          ((conv => whnf); (repeat ((first | (refine andF ?_) | (refine andT ?_) | (refine And.intro (by first | exact rfl | exact Or.inr ⟨by decide, by decide⟩ | exact Or.inl ⟨by omega, by omega⟩ | exact ⟨by decide, by decide, by decide⟩ | exact ⟨by decide, by decide⟩ | decide | omega | assumption | (apply sz; simp; done) | exact tyC_l updM_same | exact tyC_l (by assumption) | exact tyC_d updM_same | exact tyC_d (by assumption)) ?_)); (conv => whnf))))
          exact hkk _ _ _ (yes fun z => hne (Option.some.inj z))
        · have hb : (!decide (y.1 = i)) = false := hb
          have he : y.1 = i := by simpa using hb
          ((conv => whnf); (repeat ((first | (refine andF ?_) | (refine andT ?_) | (refine And.intro (by first | exact rfl | exact Or.inr ⟨by decide, by decide⟩ | exact Or.inl ⟨by omega, by omega⟩ | exact ⟨by decide, by decide, by decide⟩ | exact ⟨by decide, by decide⟩ | decide | omega | assumption | (apply sz; simp; done) | exact tyC_l updM_same | exact tyC_l (by assumption) | exact tyC_d updM_same | exact tyC_d (by assumption)) ?_)); (conv => whnf))))
          exact hkk _ _ _ (no (by rw [he]))
  · rintro δ M' ⟨rfl, n, t, v, dn, rem, rfl, e1, e2, hn⟩
    have er : rem = [] := by cases rem with
      | nil => rfl
      | cons _ _ => cases e1
    subst er
    rw [List.append_nil] at e2
    subst e2
    refine ⟨updM_same, ?_⟩
    rw [updM_updM, updM_self hq]
    exact rest n t v hn
theorem call_freach {C : Addr} {p q l : Addr} {S : S13} {b : Option Int} {M : MH} {K : D → MH → Prop} (h : At M C S p q l) (k : ∀ n, IsReach S.L b n → K (.int n) M) : ∃ R, r_freach C [.ref p, butD b] M R ∧ ∀ d M', R d M' → K d M' :=
  ⟨_, ⟨p, S, q, l, b, rfl, h, rfl⟩, fun d M' ⟨n, e1, hn, e2⟩ => by subst e1 e2; exact k n hn⟩
end K13

set_option Elab.async false
set_option linter.all false
set_option maxRecDepth 100000
set_option maxHeartbeats 4000000
namespace K13
open PySem PySem.Spec L2 FM
open PyProof.Rows hiding St

theorem frU_of {M M' : MH} {C : Addr} {S : S13} {p q l : Addr} (h1 : p ≠ q) (h2 : p ≠ l) (h3 : q ≠ l) (hp : M' p = some (frO C S.top q l)) (hq : M' q = some (.dic (kvR S.L))) (hl : M' l = some (.lst S.laid)) (ho : ∀ x, x ≠ p → x ≠ q → x ≠ l → M' x = M x) : M' = frU M C S p q l := by
  funext x
  unfold frU
  by_cases e3 : x = l
  · subst e3; rw [updM_same]; exact hl
  · rw [updM_ne e3]
    by_cases e2 : x = q
    · subst e2; rw [updM_same]; exact hq
    · rw [updM_ne e2]
      by_cases e1 : x = p
      · subst e1; rw [updM_same]; exact hp
      · rw [updM_ne e1]; exact ho x e1 e2 e3
/-! put -/
def PutTo (L : List (Int × Row)) (k : Int) (x : D) (L' : List (Int × Row)) : Prop := (x = .non ∧ (∃ r, valA L k = some r) ∧ L' = dropA L k) ∨ ∃ r, x = rowD r ∧ L' = putA L k (fstR r)
def r_put (C : Addr) : SpR := fun ds M R => ∃ p S q l k x L', ds = [.ref p, .int k, x] ∧ At M C S p q l ∧ S.L.length ≤ 1000 ∧ PutTo S.L k x L' ∧ R = fun d M' => d = .non ∧ M' = updM M q (.dic (kvR L'))
theorem m_put (C : Addr) : Meets (t_Front_put C (spOf r_first)) 3 (spOf (r_put C)) := by
  rintro ds M Q E dn ⟨R, ⟨p, S, q, l, k, x, L', rfl, h, hlen, hput, rfl⟩, hQ⟩
  rcases hput with ⟨rfl, ⟨r, hr⟩, rfl⟩ | ⟨r, rfl, rfl⟩
  · ((conv => whnf); (repeat ((first | (refine andF ?_) | (refine andT ?_) | (refine And.intro (by first | exact rfl | exact Or.inr ⟨by decide, by decide⟩ | exact Or.inl ⟨by omega, by omega⟩ | exact ⟨by decide, by decide, by decide⟩ | exact ⟨by decide, by decide⟩ | decide | omega | assumption | (apply sz; simp; done) | exact tyC_l updM_same | exact tyC_l (by assumption) | exact tyC_d updM_same | exact tyC_d (by assumption)) ?_)); (conv => whnf))))
    refine ⟨p, _, _, rfl, h.hp, rfl, ?_⟩
    ((conv => whnf); (repeat ((first | (refine andF ?_) | (refine andT ?_)); (conv => whnf))))
    refine ⟨q, _, Sum.inl k, rfl, h.hq, rfl, by rw [val_rw hr]; rfl, ?_⟩
    rw [drop_kvR]
    exact hQ _ _ ⟨rfl, rfl⟩
  · have hz : (kvR S.L).length < sizeLine := by rw [List.length_map, sizeLine_eq]; omega
    have hq := h.hq
    ((conv => whnf); (repeat ((first | (refine andF ?_) | (refine andT ?_) | (refine And.intro (by first | exact rfl | exact Or.inr ⟨by decide, by decide⟩ | exact Or.inl ⟨by omega, by omega⟩ | exact ⟨by decide, by decide, by decide⟩ | exact ⟨by decide, by decide⟩ | decide | omega | assumption | (apply sz; simp; done) | exact tyC_l updM_same | exact tyC_l (by assumption) | exact tyC_d updM_same | exact tyC_d (by assumption)) ?_)); (conv => whnf))))
    refine call_first ?_
    ((conv => whnf); (repeat ((first | (refine andF ?_) | (refine andT ?_) | (refine And.intro (by first | exact rfl | exact Or.inr ⟨by decide, by decide⟩ | exact Or.inl ⟨by omega, by omega⟩ | exact ⟨by decide, by decide, by decide⟩ | exact ⟨by decide, by decide⟩ | decide | omega | assumption | (apply sz; simp; done) | exact tyC_l updM_same | exact tyC_l (by assumption) | exact tyC_d updM_same | exact tyC_d (by assumption)) ?_)); (conv => whnf))))
    refine ⟨p, _, _, rfl, h.hp, rfl, ?_⟩
    ((conv => whnf); (repeat ((first | rw [hq] | (refine andF ?_) | (refine andT ?_) | (refine And.intro (by first | exact rfl | exact Or.inr ⟨by decide, by decide⟩ | exact Or.inl ⟨by omega, by omega⟩ | exact ⟨by decide, by decide, by decide⟩ | exact ⟨by decide, by decide⟩ | decide | omega | assumption | (apply sz; simp; done) | exact tyC_l updM_same | exact tyC_l (by assumption) | exact tyC_d updM_same | exact tyC_d (by assumption)) ?_)); (conv => whnf))))
    rw [put_kvR]
    exact hQ _ _ ⟨rfl, rfl⟩
theorem call_put {C p q l : Addr} {S : S13} {k : Int} {x : D} {L' : List (Int × Row)} {M : MH} {K : D → MH → Prop} (h : At M C S p q l) (hl : S.L.length ≤ 1000) (hp : PutTo S.L k x L') (kk : K .non (updM M q (.dic (kvR L')))) :
    ∃ R, r_put C [.ref p, .int k, x] M R ∧ ∀ d M', R d M' → K d M' :=
  ⟨_, ⟨p, S, q, l, k, x, L', rfl, h, hl, hp, rfl⟩, fun d M' ⟨e1, e2⟩ => by subst e1 e2; exact kk⟩
/-! the moves of a front -/
def r_mbare (C : Addr) : SpR := fun ds M R => ∃ p S q l pl n, ds = [.ref p, .int pl] ∧ At M C S p q l ∧ S.laid.length ≤ 1000 ∧ IsReach S.L none n ∧ n ≤ pl ∧ pl < S.top ∧ R = fun d M' => d = .bl true ∧ M' = frU M C ⟨pl, S.L, S.laid ++ [.tup [.str "bare", .int pl, .int S.top]]⟩ p q l
theorem m_mbare (C : Addr) : Meets (t_Front_make_bare C (spOf (r_freach C))) 2 (spOf (r_mbare C)) := by
  rintro ds M Q E dn ⟨R, ⟨p, S, q, l, pl, n, rfl, h, hlen, hn, h1, h2, rfl⟩, hQ⟩
  have hl := h.hl
  have hz : S.laid.length < sizeLine := by rw [sizeLine_eq]; omega
  unfold t_Front_make_bare t_Front_make_bare_1
  ((conv => whnf); (repeat ((first | (refine andF ?_) | (refine andT ?_) | (refine And.intro (by first | exact rfl | exact Or.inr ⟨by decide, by decide⟩ | exact Or.inl ⟨by omega, by omega⟩ | exact ⟨by decide, by decide, by decide⟩ | exact ⟨by decide, by decide⟩ | decide | omega | assumption | (apply sz; simp; done) | exact tyC_l updM_same | exact tyC_l (by assumption) | exact tyC_d updM_same | exact tyC_d (by assumption)) ?_)); (conv => whnf))))
  refine ⟨p, _, rfl, h.hp, rfl, ?_⟩
  ((conv => whnf); (repeat ((first | (refine andF ?_) | (refine andT ?_) | (refine And.intro (by first | exact rfl | exact Or.inr ⟨by decide, by decide⟩ | exact Or.inl ⟨by omega, by omega⟩ | exact ⟨by decide, by decide, by decide⟩ | exact ⟨by decide, by decide⟩ | decide | omega | assumption | (apply sz; simp; done) | exact tyC_l updM_same | exact tyC_l (by assumption) | exact tyC_d updM_same | exact tyC_d (by assumption)) ?_)); (conv => whnf))))
  refine call_freach (b := none) h fun m hm => ?_
  have := hm.uniq hn
  subst this
  ((conv => whnf); (repeat ((first | (refine andF ?_) | (refine andT ?_) | (refine And.intro (by first | exact rfl | exact Or.inr ⟨by decide, by decide⟩ | exact Or.inl ⟨by omega, by omega⟩ | exact ⟨by decide, by decide, by decide⟩ | exact ⟨by decide, by decide⟩ | decide | omega | assumption | (apply sz; simp; done) | exact tyC_l updM_same | exact tyC_l (by assumption) | exact tyC_d updM_same | exact tyC_d (by assumption)) ?_)); (conv => whnf))))
  refine ⟨fun hb => ?_, fun hb => absurd h1 (df hb)⟩
  ((conv => whnf); (repeat ((first | (refine andF ?_) | (refine andT ?_) | (refine And.intro (by first | exact rfl | exact Or.inr ⟨by decide, by decide⟩ | exact Or.inl ⟨by omega, by omega⟩ | exact ⟨by decide, by decide, by decide⟩ | exact ⟨by decide, by decide⟩ | decide | omega | assumption | (apply sz; simp; done) | exact tyC_l updM_same | exact tyC_l (by assumption) | exact tyC_d updM_same | exact tyC_d (by assumption)) ?_)); (conv => whnf))))
  refine ⟨p, _, _, rfl, h.hp, rfl, ?_⟩
  ((conv => whnf); (repeat ((first | (refine andF ?_) | (refine andT ?_) | (refine And.intro (by first | exact rfl | exact Or.inr ⟨by decide, by decide⟩ | exact Or.inl ⟨by omega, by omega⟩ | exact ⟨by decide, by decide, by decide⟩ | exact ⟨by decide, by decide⟩ | decide | omega | assumption | (apply sz; simp; done) | exact tyC_l updM_same | exact tyC_l (by assumption) | exact tyC_d updM_same | exact tyC_d (by assumption)) ?_)); (conv => whnf))))
  refine ⟨fun hb => ?_, fun hb => ?_⟩
  · have hb : (!decide (pl < S.top)) = true := hb
    simp [h2] at hb
  · ((conv => whnf); (repeat ((first | (refine andF ?_) | (refine andT ?_) | (refine And.intro (by first | exact rfl | exact Or.inr ⟨by decide, by decide⟩ | exact Or.inl ⟨by omega, by omega⟩ | exact ⟨by decide, by decide, by decide⟩ | exact ⟨by decide, by decide⟩ | decide | omega | assumption | (apply sz; simp; done) | exact tyC_l updM_same | exact tyC_l (by assumption) | exact tyC_d updM_same | exact tyC_d (by assumption)) ?_)); (conv => whnf))))
    refine ⟨p, _, _, rfl, h.hp, rfl, ?_⟩
    ((conv => whnf); (repeat ((first | rw [hl] | (refine andF ?_) | (refine andT ?_) | (refine And.intro (by first | exact rfl | exact Or.inr ⟨by decide, by decide⟩ | exact Or.inl ⟨by omega, by omega⟩ | exact ⟨by decide, by decide, by decide⟩ | exact ⟨by decide, by decide⟩ | decide | omega | assumption | (apply sz; simp; done) | exact tyC_l updM_same | exact tyC_l (by assumption) | exact tyC_d updM_same | exact tyC_d (by assumption)) ?_)); (conv => whnf))))
    refine ⟨p, _, _, rfl, h.hp, rfl, ?_⟩
    ((conv => whnf); (repeat ((first | rw [hl] | (refine andF ?_) | (refine andT ?_) | (refine And.intro (by first | exact rfl | exact Or.inr ⟨by decide, by decide⟩ | exact Or.inl ⟨by omega, by omega⟩ | exact ⟨by decide, by decide, by decide⟩ | exact ⟨by decide, by decide⟩ | decide | omega | assumption | (apply sz; simp; done) | exact tyC_l updM_same | exact tyC_l (by assumption) | exact tyC_d updM_same | exact tyC_d (by assumption)) ?_)); (conv => whnf))))
    refine ⟨p, _, rfl, by rw [updM_ne h.pl]; exact h.hp, by simp, ?_⟩
    ((conv => whnf); (repeat ((first | (refine andF ?_) | (refine andT ?_) | (refine And.intro (by first | exact rfl | exact Or.inr ⟨by decide, by decide⟩ | exact Or.inl ⟨by omega, by omega⟩ | exact ⟨by decide, by decide, by decide⟩ | exact ⟨by decide, by decide⟩ | decide | omega | assumption | (apply sz; simp; done) | exact tyC_l updM_same | exact tyC_l (by assumption) | exact tyC_d updM_same | exact tyC_d (by assumption)) ?_)); (conv => whnf))))
    refine hQ _ _ ⟨rfl, frU_of h.pq h.pl h.ql updM_same ?_ ?_ ?_⟩
    · rw [updM_ne (Ne.symm h.pq), updM_ne h.ql]; exact h.hq
    · rw [updM_ne (Ne.symm h.pl), updM_same]
    · intro x e1 e2 e3; rw [updM_ne e1, updM_ne e3]
def r_midle (C : Addr) : SpR := fun ds M R => ∃ p S q l k r, ds = [.ref p, .int k] ∧ At M C S p q l ∧ S.L.length ≤ 1000 ∧ valA S.L k = some r ∧ r.f = 0 ∧ r.o = r.t ∧ R = fun d M' => d = .bl true ∧ M' = frU M C ⟨S.top, dropA S.L k, S.laid⟩ p q l
theorem frU_q {M : MH} {C : Addr} {S : S13} {p q l : Addr} {L' : List (Int × Row)} (h : At M C S p q l) : updM M q (.dic (kvR L')) = frU M C ⟨S.top, L', S.laid⟩ p q l :=
  frU_of h.pq h.pl h.ql (by rw [updM_ne h.pq]; exact h.hp) updM_same (by rw [updM_ne (Ne.symm h.ql)]; exact h.hl) fun x e1 e2 e3 => by rw [updM_ne e2]
theorem m_midle (C : Addr) : Meets (t_Front_make_idle C (spOf (r_put C))) 6 (spOf (r_midle C)) := by
  rintro ds M Q E dn ⟨R, ⟨p, S, q, l, k, r, rfl, h, hlen, hr, h1, h2, rfl⟩, hQ⟩
  have hq := h.hq
  have v1 := val_rw hr
  unfold t_Front_make_idle t_Front_make_idle_2
  ((conv => whnf); (repeat ((first | (refine andF ?_) | (refine andT ?_) | (refine And.intro (by first | exact rfl | exact Or.inr ⟨by decide, by decide⟩ | exact Or.inl ⟨by omega, by omega⟩ | exact ⟨by decide, by decide, by decide⟩ | exact ⟨by decide, by decide⟩ | decide | omega | assumption | (apply sz; simp; done) | exact tyC_l updM_same | exact tyC_l (by assumption) | exact tyC_d updM_same | exact tyC_d (by assumption)) ?_)); (conv => whnf))))
  refine ⟨p, _, _, rfl, h.hp, rfl, ?_⟩
  ((conv => whnf); (repeat ((first | rw [hq] | rw [v1] | (refine andF ?_) | (refine andT ?_) | (refine And.intro (by first | exact rfl | exact Or.inr ⟨by decide, by decide⟩ | exact Or.inl ⟨by omega, by omega⟩ | exact ⟨by decide, by decide, by decide⟩ | exact ⟨by decide, by decide⟩ | decide | omega | assumption | (apply sz; simp; done) | exact tyC_l updM_same | exact tyC_l (by assumption) | exact tyC_d updM_same | exact tyC_d (by assumption)) ?_)); (conv => whnf))))
  refine ⟨fun hb => absurd h1 (by have : r.f = 1 := dt hb; omega), fun hb => ?_⟩
  ((conv => whnf); (repeat ((first | (refine andF ?_) | (refine andT ?_) | (refine And.intro (by first | exact rfl | exact Or.inr ⟨by decide, by decide⟩ | exact Or.inl ⟨by omega, by omega⟩ | exact ⟨by decide, by decide, by decide⟩ | exact ⟨by decide, by decide⟩ | decide | omega | assumption | (apply sz; simp; done) | exact tyC_l updM_same | exact tyC_l (by assumption) | exact tyC_d updM_same | exact tyC_d (by assumption)) ?_)); (conv => whnf))))
  refine ⟨fun hb => ?_, fun hb => ?_⟩
  · have hb : (!decide (r.o = r.t)) = true := hb
    simp [h2] at hb
  · ((conv => whnf); (repeat ((first | (refine andF ?_) | (refine andT ?_) | (refine And.intro (by first | exact rfl | exact Or.inr ⟨by decide, by decide⟩ | exact Or.inl ⟨by omega, by omega⟩ | exact ⟨by decide, by decide, by decide⟩ | exact ⟨by decide, by decide⟩ | decide | omega | assumption | (apply sz; simp; done) | exact tyC_l updM_same | exact tyC_l (by assumption) | exact tyC_d updM_same | exact tyC_d (by assumption)) ?_)); (conv => whnf))))
    refine ⟨p, _, rfl, h.hp, rfl, ?_⟩
    ((conv => whnf); (repeat ((first | (refine andF ?_) | (refine andT ?_) | (refine And.intro (by first | exact rfl | exact Or.inr ⟨by decide, by decide⟩ | exact Or.inl ⟨by omega, by omega⟩ | exact ⟨by decide, by decide, by decide⟩ | exact ⟨by decide, by decide⟩ | decide | omega | assumption | (apply sz; simp; done) | exact tyC_l updM_same | exact tyC_l (by assumption) | exact tyC_d updM_same | exact tyC_d (by assumption)) ?_)); (conv => whnf))))
    refine call_put h hlen (.inl ⟨rfl, ⟨r, hr⟩, rfl⟩) ?_
    ((conv => whnf); (repeat ((first | (refine andF ?_) | (refine andT ?_) | (refine And.intro (by first | exact rfl | exact Or.inr ⟨by decide, by decide⟩ | exact Or.inl ⟨by omega, by omega⟩ | exact ⟨by decide, by decide, by decide⟩ | exact ⟨by decide, by decide⟩ | decide | omega | assumption | (apply sz; simp; done) | exact tyC_l updM_same | exact tyC_l (by assumption) | exact tyC_d updM_same | exact tyC_d (by assumption)) ?_)); (conv => whnf))))
    exact hQ _ _ ⟨rfl, frU_q h⟩
def r_mhalf (C : Addr) : SpR := fun ds M R => ∃ p S q l k r, ds = [.ref p, .int k] ∧ At M C S p q l ∧ S.L.length ≤ 1000 ∧ valA S.L k = some r ∧ r.f = 1 ∧ r.t < r.o + r.m ∧ r.o ≤ r.t ∧
  R = fun d M' => d = .bl true ∧ M' = frU M C ⟨S.top, if halfR r = 0 then dropA S.L k else putA S.L k ⟨r.o, r.t + r.m - halfR r, halfR r, 1⟩, S.laid⟩ p q l
theorem m_mhalf (C : Addr) : Meets (t_Front_make_half C (spOf r_over) (spOf r_halved) (spOf (r_put C))) 3 (spOf (r_mhalf C)) := by
  rintro ds M Q E dn ⟨R, ⟨p, S, q, l, k, r, rfl, h, hlen, hr, h1, h2, h3, rfl⟩, hQ⟩
  have hq := h.hq
  have v1 := val_rw hr
  unfold t_Front_make_half t_Front_make_half_2
  ((conv => whnf); (repeat ((first | (refine andF ?_) | (refine andT ?_) | (refine And.intro (by first | exact rfl | exact Or.inr ⟨by decide, by decide⟩ | exact Or.inl ⟨by omega, by omega⟩ | exact ⟨by decide, by decide, by decide⟩ | exact ⟨by decide, by decide⟩ | decide | omega | assumption | (apply sz; simp; done) | exact tyC_l updM_same | exact tyC_l (by assumption) | exact tyC_d updM_same | exact tyC_d (by assumption)) ?_)); (conv => whnf))))
  refine ⟨p, _, _, rfl, h.hp, rfl, ?_⟩
  ((conv => whnf); (repeat ((first | rw [hq] | rw [v1] | (refine andF ?_) | (refine andT ?_) | (refine And.intro (by first | exact rfl | exact Or.inr ⟨by decide, by decide⟩ | exact Or.inl ⟨by omega, by omega⟩ | exact ⟨by decide, by decide, by decide⟩ | exact ⟨by decide, by decide⟩ | decide | omega | assumption | (apply sz; simp; done) | exact tyC_l updM_same | exact tyC_l (by assumption) | exact tyC_d updM_same | exact tyC_d (by assumption)) ?_)); (conv => whnf))))
  refine ⟨fun hb => absurd h1 (by have : r.f = 0 := dt hb; omega), fun hb => ?_⟩
  ((conv => whnf); (repeat ((first | (refine andF ?_) | (refine andT ?_) | (refine And.intro (by first | exact rfl | exact Or.inr ⟨by decide, by decide⟩ | exact Or.inl ⟨by omega, by omega⟩ | exact ⟨by decide, by decide, by decide⟩ | exact ⟨by decide, by decide⟩ | decide | omega | assumption | (apply sz; simp; done) | exact tyC_l updM_same | exact tyC_l (by assumption) | exact tyC_d updM_same | exact tyC_d (by assumption)) ?_)); (conv => whnf))))
  refine call_over ?_
  rw [decide_eq_true h2]
  ((conv => whnf); (repeat ((first | (refine andF ?_) | (refine andT ?_) | (refine And.intro (by first | exact rfl | exact Or.inr ⟨by decide, by decide⟩ | exact Or.inl ⟨by omega, by omega⟩ | exact ⟨by decide, by decide, by decide⟩ | exact ⟨by decide, by decide⟩ | decide | omega | assumption | (apply sz; simp; done) | exact tyC_l updM_same | exact tyC_l (by assumption) | exact tyC_d updM_same | exact tyC_d (by assumption)) ?_)); (conv => whnf))))
  refine ⟨p, _, rfl, h.hp, rfl, ?_⟩
  ((conv => whnf); (repeat ((first | (refine andF ?_) | (refine andT ?_) | (refine And.intro (by first | exact rfl | exact Or.inr ⟨by decide, by decide⟩ | exact Or.inl ⟨by omega, by omega⟩ | exact ⟨by decide, by decide, by decide⟩ | exact ⟨by decide, by decide⟩ | decide | omega | assumption | (apply sz; simp; done) | exact tyC_l updM_same | exact tyC_l (by assumption) | exact tyC_d updM_same | exact tyC_d (by assumption)) ?_)); (conv => whnf))))
  refine ⟨_, ⟨r, rfl, rfl⟩, fun d M' ⟨e1, e2⟩ => ?_⟩
  subst e1 e2
  ((conv => whnf); (repeat ((first | (refine andF ?_) | (refine andT ?_) | (refine And.intro (by first | exact rfl | exact Or.inr ⟨by decide, by decide⟩ | exact Or.inl ⟨by omega, by omega⟩ | exact ⟨by decide, by decide, by decide⟩ | exact ⟨by decide, by decide⟩ | decide | omega | assumption | (apply sz; simp; done) | exact tyC_l updM_same | exact tyC_l (by assumption) | exact tyC_d updM_same | exact tyC_d (by assumption)) ?_)); (conv => whnf))))
  refine call_put h hlen (L' := if halfR r = 0 then dropA S.L k else putA S.L k ⟨r.o, r.t + r.m - halfR r, halfR r, 1⟩) ?_ ?_
  · by_cases hb : halfR r = 0
    · rw [if_pos hb]; exact .inl ⟨by unfold halfD; rw [if_pos hb], ⟨r, hr⟩, rfl⟩
    · rw [if_neg hb]
      refine .inr ⟨_, by unfold halfD; rw [if_neg hb], ?_⟩
      rw [fst_id]
      show r.o ≤ r.t + r.m - halfR r
      unfold halfR; omega
  · ((conv => whnf); (repeat ((first | (refine andF ?_) | (refine andT ?_) | (refine And.intro (by first | exact rfl | exact Or.inr ⟨by decide, by decide⟩ | exact Or.inl ⟨by omega, by omega⟩ | exact ⟨by decide, by decide, by decide⟩ | exact ⟨by decide, by decide⟩ | decide | omega | assumption | (apply sz; simp; done) | exact tyC_l updM_same | exact tyC_l (by assumption) | exact tyC_d updM_same | exact tyC_d (by assumption)) ?_)); (conv => whnf))))
    exact hQ _ _ ⟨rfl, frU_q h⟩
end K13

set_option Elab.async false
set_option linter.all false
set_option maxRecDepth 100000
set_option maxHeartbeats 4000000
namespace K13
open PySem PySem.Spec L2 FM
open PyProof.Rows hiding St

theorem At.more {M : MH} {C : Addr} {S : S13} {p q l a : Addr} {m : MO} (h : At M C S p q l) (ha : M a = none) : At (updM M a m) C S p q l :=
  ⟨MLe.new ha _ _ h.hp, MLe.new ha _ _ h.hq, MLe.new ha _ _ h.hl⟩
theorem MLe.upd {A B : MH} {a : Addr} {m : MO} (h : MLe A B) : MLe (updM A a m) (updM B a m) := fun b n e => by
  by_cases hb : b = a
  · subst hb; rw [updM_same] at e ⊢; exact e
  · rw [updM_ne hb] at e ⊢; exact h b n e
def r_mled (C : Addr) : SpR := fun ds M R => ∃ p S q l k b r v, ds = [.ref p, .int k, .int 1, .int b] ∧ At M C S p q l ∧ S.L.length ≤ 1000 ∧ valA S.L k = some r ∧ valA S.L b = some v ∧ k ≠ b ∧ leadsB v = true ∧ v.t ≤ r.t ∧ r.t + r.m ≤ v.t + v.m ∧ (r.f = 0 ∨ r.f = 1) ∧ (v.f = 0 ∨ v.f = 1) ∧
  R = fun d M' => d = .bl true ∧ MLe (frU M C ⟨S.top, putA S.L k (ledR r v), S.laid⟩ p q l) M'
theorem xor01 {a b : Int} (ha : a = 0 ∨ a = 1) (hb : b = 0 ∨ b = 1) : Builtin.bitXor a b = (a + b) % 2 := by
  rcases ha with rfl | rfl <;> rcases hb with rfl | rfl <;> decide
theorem m_mled (C : Addr) : Meets (t_Front_make_led C (spOf r_leads) (spOf r_leddown) (spOf (r_put C))) 7 (spOf (r_mled C)) := by
  rintro ds M Q E dn ⟨R, ⟨p, S, q, l, k, b, r, v, rfl, h, hlen, hr, hv, hkb, h4, h5, h6, h7, h8, rfl⟩, hQ⟩
  have hq := h.hq
  have v1 := val_rw hr
  have v2 := val_rw hv
  have h3' : v.f = 1 ∨ v.o < v.t := by
    unfold leadsB at h4
    split at h4
    · left; assumption
    · right; exact dt h4
  have rest : t_Front_make_led_3 C (spOf r_leads) (spOf r_leddown) (spOf (r_put C)) E (fnEnds Q) [some (.ref p), some (.int k), some (.int 1), some (.int b), some (rowD r), some (rowD v), none] M := by
    unfold t_Front_make_led_3
    ((conv => whnf); (repeat ((first | (refine andF ?_) | (refine andT ?_)); (conv => whnf))))
    refine ⟨sz (by simp), fun a ha => ?_⟩
    have h' := h.more (m := .lst [.int r.o, .int r.t]) ha
    ((conv => whnf); (repeat ((first | (refine andF ?_) | (refine andT ?_) | (refine And.intro (by first | exact rfl | exact Or.inr ⟨by decide, by decide⟩ | exact Or.inl ⟨by omega, by omega⟩ | exact ⟨by decide, by decide, by decide⟩ | exact ⟨by decide, by decide⟩ | decide | omega | assumption | (apply sz; simp; done) | exact tyC_l updM_same | exact tyC_l (by assumption) | exact tyC_d updM_same | exact tyC_d (by assumption)) ?_)); (conv => whnf))))
    refine ⟨_, ⟨r, v, rfl, h3', rfl⟩, fun d M' ⟨e1, e2⟩ => ?_⟩
    subst e1 e2
    have hap : a ≠ p := fun e => by rw [e, h.hp] at ha; cases ha
    have h2 := h.more (m := .lst [.int r.o, .int (ledAt r v)]) ha
    ((conv => whnf); (repeat ((first | rw [updM_same] | (refine andF ?_) | (refine andT ?_) | (refine And.intro (by first | exact rfl | exact Or.inr ⟨by decide, by decide⟩ | exact Or.inl ⟨by omega, by omega⟩ | exact ⟨by decide, by decide, by decide⟩ | exact ⟨by decide, by decide⟩ | decide | omega | assumption | (apply sz; simp; done) | exact tyC_l updM_same | exact tyC_l (by assumption) | exact tyC_d updM_same | exact tyC_d (by assumption)) ?_)); (conv => whnf))))
    rw [updM_updM]
    refine ⟨p, _, rfl, h2.hp, rfl, ?_⟩
    ((conv => whnf); (repeat ((first | rw [updM_same] | (refine andF ?_) | (refine andT ?_) | (refine And.intro (by first | exact rfl | exact Or.inr ⟨by decide, by decide⟩ | exact Or.inl ⟨by omega, by omega⟩ | exact ⟨by decide, by decide, by decide⟩ | exact ⟨by decide, by decide⟩ | decide | omega | assumption | (apply sz; simp; done) | exact tyC_l updM_same | exact tyC_l (by assumption) | exact tyC_d updM_same | exact tyC_d (by assumption)) ?_)); (conv => whnf))))
    refine call_put (x := rowD ⟨r.o, ledAt r v, r.m, Builtin.bitXor r.f v.f⟩) h2 hlen (.inr ⟨_, rfl, rfl⟩) ?_
    ((conv => whnf); (repeat ((first | (refine andF ?_) | (refine andT ?_) | (refine And.intro (by first | exact rfl | exact Or.inr ⟨by decide, by decide⟩ | exact Or.inl ⟨by omega, by omega⟩ | exact ⟨by decide, by decide, by decide⟩ | exact ⟨by decide, by decide⟩ | decide | omega | assumption | (apply sz; simp; done) | exact tyC_l updM_same | exact tyC_l (by assumption) | exact tyC_d updM_same | exact tyC_d (by assumption)) ?_)); (conv => whnf))))
    refine hQ _ _ ⟨rfl, ?_⟩
    rw [← frU_q h]
    have e : fstR ⟨r.o, ledAt r v, r.m, Builtin.bitXor r.f v.f⟩ = ledR r v := by rw [xor01 h7 h8]; rfl
    rw [e]
    exact MLe.upd (MLe.new ha)
  unfold t_Front_make_led t_Front_make_led_1; obtain ⟨T, hT⟩ : ∃ T, T = t_Front_make_led_3 C (spOf r_leads) (spOf r_leddown) (spOf (r_put C)) E := ⟨_, rfl⟩; rw [← hT] at rest ⊢
  ((conv => whnf); (repeat ((first | (refine andF ?_) | (refine andT ?_) | (refine And.intro (by first | exact rfl | exact Or.inr ⟨by decide, by decide⟩ | exact Or.inl ⟨by omega, by omega⟩ | exact ⟨by decide, by decide, by decide⟩ | exact ⟨by decide, by decide⟩ | decide | omega | assumption | (apply sz; simp; done) | exact tyC_l updM_same | exact tyC_l (by assumption) | exact tyC_d updM_same | exact tyC_d (by assumption)) ?_)); (conv => whnf))))
  refine ⟨fun hb => absurd (of_decide_eq_true (p := k = b) hb) hkb, fun hb => ?_⟩
  ((conv => whnf); (repeat ((first | (refine andF ?_) | (refine andT ?_) | (refine And.intro (by first | exact rfl | exact Or.inr ⟨by decide, by decide⟩ | exact Or.inl ⟨by omega, by omega⟩ | exact ⟨by decide, by decide, by decide⟩ | exact ⟨by decide, by decide⟩ | decide | omega | assumption | (apply sz; simp; done) | exact tyC_l updM_same | exact tyC_l (by assumption) | exact tyC_d updM_same | exact tyC_d (by assumption)) ?_)); (conv => whnf))))
  refine ⟨p, _, _, rfl, h.hp, rfl, ?_⟩
  ((conv => whnf); (repeat ((first | rw [hq] | rw [v2] | (refine andF ?_) | (refine andT ?_) | (refine And.intro (by first | exact rfl | exact Or.inr ⟨by decide, by decide⟩ | exact Or.inl ⟨by omega, by omega⟩ | exact ⟨by decide, by decide, by decide⟩ | exact ⟨by decide, by decide⟩ | decide | omega | assumption | (apply sz; simp; done) | exact tyC_l updM_same | exact tyC_l (by assumption) | exact tyC_d updM_same | exact tyC_d (by assumption)) ?_)); (conv => whnf))))
  refine ⟨p, _, _, rfl, h.hp, rfl, ?_⟩
  ((conv => whnf); (repeat ((first | rw [hq] | rw [v2] | (refine andF ?_) | (refine andT ?_) | (refine And.intro (by first | exact rfl | exact Or.inr ⟨by decide, by decide⟩ | exact Or.inl ⟨by omega, by omega⟩ | exact ⟨by decide, by decide, by decide⟩ | exact ⟨by decide, by decide⟩ | decide | omega | assumption | (apply sz; simp; done) | exact tyC_l updM_same | exact tyC_l (by assumption) | exact tyC_d updM_same | exact tyC_d (by assumption)) ?_)); (conv => whnf))))
  refine call_leads ?_
  rw [h4]
  ((conv => whnf); (repeat ((first | (refine andF ?_) | (refine andT ?_) | (refine And.intro (by first | exact rfl | exact Or.inr ⟨by decide, by decide⟩ | exact Or.inl ⟨by omega, by omega⟩ | exact ⟨by decide, by decide, by decide⟩ | exact ⟨by decide, by decide⟩ | decide | omega | assumption | (apply sz; simp; done) | exact tyC_l updM_same | exact tyC_l (by assumption) | exact tyC_d updM_same | exact tyC_d (by assumption)) ?_)); (conv => whnf))))
  refine ⟨p, _, _, rfl, h.hp, rfl, ?_⟩
  ((conv => whnf); (repeat ((first | rw [hq] | rw [v1] | (refine andF ?_) | (refine andT ?_) | (refine And.intro (by first | exact rfl | exact Or.inr ⟨by decide, by decide⟩ | exact Or.inl ⟨by omega, by omega⟩ | exact ⟨by decide, by decide, by decide⟩ | exact ⟨by decide, by decide⟩ | decide | omega | assumption | (apply sz; simp; done) | exact tyC_l updM_same | exact tyC_l (by assumption) | exact tyC_d updM_same | exact tyC_d (by assumption)) ?_)); (conv => whnf))))
  refine ⟨p, _, _, rfl, h.hp, rfl, ?_⟩
  ((conv => whnf); (repeat ((first | rw [hq] | rw [v2] | (refine andF ?_) | (refine andT ?_) | (refine And.intro (by first | exact rfl | exact Or.inr ⟨by decide, by decide⟩ | exact Or.inl ⟨by omega, by omega⟩ | exact ⟨by decide, by decide, by decide⟩ | exact ⟨by decide, by decide⟩ | decide | omega | assumption | (apply sz; simp; done) | exact tyC_l updM_same | exact tyC_l (by assumption) | exact tyC_d updM_same | exact tyC_d (by assumption)) ?_)); (conv => whnf))))
  refine ⟨fun hb => absurd h5 (by have : r.t < v.t := dt hb; omega), fun hb => ?_⟩
  ((conv => whnf); (repeat ((first | (refine andF ?_) | (refine andT ?_) | (refine And.intro (by first | exact rfl | exact Or.inr ⟨by decide, by decide⟩ | exact Or.inl ⟨by omega, by omega⟩ | exact ⟨by decide, by decide, by decide⟩ | exact ⟨by decide, by decide⟩ | decide | omega | assumption | (apply sz; simp; done) | exact tyC_l updM_same | exact tyC_l (by assumption) | exact tyC_d updM_same | exact tyC_d (by assumption)) ?_)); (conv => whnf))))
  refine ⟨fun hb => absurd h6 (by have : v.t + v.m < r.t + r.m := dt hb; omega), fun hb => ?_⟩
  ((conv => whnf); (repeat ((first | (refine andF ?_) | (refine andT ?_) | (refine And.intro (by first | exact rfl | exact Or.inr ⟨by decide, by decide⟩ | exact Or.inl ⟨by omega, by omega⟩ | exact ⟨by decide, by decide, by decide⟩ | exact ⟨by decide, by decide⟩ | decide | omega | assumption | (apply sz; simp; done) | exact tyC_l updM_same | exact tyC_l (by assumption) | exact tyC_d updM_same | exact tyC_d (by assumption)) ?_)); (conv => whnf))))
  exact rest
def r_mfold (C : Addr) : SpR := fun ds M R => ∃ p S q l k pl n r, ds = [.ref p, .int k, .int pl] ∧ At M C S p q l ∧ S.L.length ≤ 1000 ∧ S.laid.length ≤ 1000 ∧ valA S.L k = some r ∧ leadsB r = true ∧ r.o ≤ r.t ∧ r.t + r.m = S.top ∧ r.t ≤ pl ∧ pl < S.top ∧ IsReach S.L (some k) n ∧ n ≤ pl ∧ (r.f = 0 ∨ r.f = 1) ∧
  R = fun d M' => d = .bl true ∧ M' = frU M C ⟨pl, if pl - r.t = 0 then dropA S.L k else putA S.L k ⟨foldO r (pl - r.t), r.t, pl - r.t, r.f⟩, S.laid ++ [.tup [.str "fold", .int pl, .int S.top, .int r.o, .int (if r.f = 1 then 0 else r.t - r.o), .int r.f]]⟩ p q l
theorem fold_6 {C : Addr} {S : S13} {p q l : Addr} {pl : Int} {M M1 : MH} {Q : DQ} {E : FM.DX} {L' : List (Int × Row)} {ld : List D} {x1 x3 x4 x5 x6 x7 : Option D} (h : At M C S p q l) (hp : M1 p = some (frO C S.top q l)) (hq : M1 q = some (.dic (kvR L'))) (hl : M1 l = some (.lst ld)) (ho : ∀ x, x ≠ p → x ≠ q → x ≠ l → M1 x = M x)
    (hQ : Q (.bl true) (frU M C ⟨pl, L', ld⟩ p q l)) :
    t_Front_make_fold_6 C (spOf r_leads) (spOf (r_freach C)) (spOf (r_put C)) E (fnEnds Q) [some (.ref p), x1, some (.int pl), x3, x4, x5, x6, x7] M1 := by
  ((conv => whnf); (repeat ((first | (refine andF ?_) | (refine andT ?_) | (refine And.intro (by first | exact rfl | exact Or.inr ⟨by decide, by decide⟩ | exact Or.inl ⟨by omega, by omega⟩ | exact ⟨by decide, by decide, by decide⟩ | exact ⟨by decide, by decide⟩ | decide | omega | assumption | (apply sz; simp; done) | exact tyC_l updM_same | exact tyC_l (by assumption) | exact tyC_d updM_same | exact tyC_d (by assumption)) ?_)); (conv => whnf))))
  refine ⟨p, _, rfl, hp, by simp, ?_⟩
  ((conv => whnf); (repeat ((first | (refine andF ?_) | (refine andT ?_) | (refine And.intro (by first | exact rfl | exact Or.inr ⟨by decide, by decide⟩ | exact Or.inl ⟨by omega, by omega⟩ | exact ⟨by decide, by decide, by decide⟩ | exact ⟨by decide, by decide⟩ | decide | omega | assumption | (apply sz; simp; done) | exact tyC_l updM_same | exact tyC_l (by assumption) | exact tyC_d updM_same | exact tyC_d (by assumption)) ?_)); (conv => whnf))))
  have e : updM M1 p (frO C pl q l) = frU M C ⟨pl, L', ld⟩ p q l := frU_of h.pq h.pl h.ql updM_same (by rw [updM_ne (Ne.symm h.pq)]; exact hq) (by rw [updM_ne (Ne.symm h.pl)]; exact hl) fun x e1 e2 e3 => by rw [updM_ne e1]; exact ho x e1 e2 e3
  rw [← e] at hQ
  exact hQ
end K13

set_option Elab.async false
set_option linter.all false
set_option maxRecDepth 100000
set_option maxHeartbeats 4000000
namespace K13
open PySem PySem.Spec L2 FM
open PyProof.Rows hiding St

theorem fold_3 {C : Addr} {S : S13} {p q l : Addr} {k pl : Int} {r : Row} {M : MH} {Q : DQ} {E : FM.DX} (h : At M C S p q l) (hlen : S.L.length ≤ 1000) (hlen2 : S.laid.length ≤ 1000) (hr : valA S.L k = some r) (hot : r.o ≤ r.t) (hld : leadsB r = true) (h4 : r.t ≤ pl) (h7 : r.f = 0 ∨ r.f = 1)
    (hQ : Q (.bl true) (frU M C ⟨pl, if pl - r.t = 0 then dropA S.L k else putA S.L k ⟨foldO r (pl - r.t), r.t, pl - r.t, r.f⟩, S.laid ++ [.tup [.str "fold", .int pl, .int S.top, .int r.o, .int (if r.f = 1 then 0 else r.t - r.o), .int r.f]]⟩ p q l)) (hm : r.t + r.m = S.top) (h5 : pl < S.top) :
    t_Front_make_fold_3 C (spOf r_leads) (spOf (r_freach C)) (spOf (r_put C)) E (fnEnds Q) [some (.ref p), some (.int k), some (.int pl), some (.int r.o), some (.int r.t), some (.int r.m), some (.int r.f), none] M := by
  have hl := h.hl
  have hz : S.laid.length < sizeLine := by rw [sizeLine_eq]; omega
  -- behind the note in laid
  have main : ∀ ld, ld = S.laid ++ [.tup [.str "fold", .int pl, .int S.top, .int r.o, .int (if r.f = 1 then 0 else r.t - r.o), .int r.f]] →
      dSeq (dIfS (dB (dOp (eqR false) (dVar 7) (dC (.int 0)))) (dDrop (dMeth C "put" (spOf (r_put C)) [] E (dVar 0) (dCons (dVar 1) (dCons (dC .non) dNil)))) (dDrop (dMeth C "put" (spOf (r_put C)) [] E (dVar 0) (dCons (dVar 1) (dCons (dTup (dCons (dOp addR (dVar 3) (dOp mulR (dOp subR (dVar 5) (dVar 7)) (dVar 6))) (dCons (dVar 4) (dCons (dVar 7) (dCons (dVar 6) dNil))))) dNil)))))
        (t_Front_make_fold_6 C (spOf r_leads) (spOf (r_freach C)) (spOf (r_put C)) E) (fnEnds Q) [some (.ref p), some (.int k), some (.int pl), some (.int r.o), some (.int r.t), some (.int r.m), some (.int r.f), some (.int (pl - r.t))] (updM M l (.lst ld)) := by
    intro ld e
    have h1 : At (updM M l (.lst ld)) C ⟨S.top, S.L, ld⟩ p q l := ⟨by rw [updM_ne h.pl]; exact h.hp, by rw [updM_ne h.ql]; exact h.hq, updM_same⟩
    rw [← e] at hQ
    have f6 : ∀ L' (x1 x3 x4 x5 x6 x7 : Option D), L' = (if pl - r.t = 0 then dropA S.L k else putA S.L k ⟨foldO r (pl - r.t), r.t, pl - r.t, r.f⟩) → t_Front_make_fold_6 C (spOf r_leads) (spOf (r_freach C)) (spOf (r_put C)) E (fnEnds Q) [some (.ref p), x1, some (.int pl), x3, x4, x5, x6, x7] (updM (updM M l (.lst ld)) q (.dic (kvR L'))) := fun L' x1 x3 x4 x5 x6 x7 eL =>
      fold_6 h (by rw [updM_ne h.pq]; exact h1.hp) updM_same (by rw [updM_ne (Ne.symm h.ql)]; exact h1.hl) (fun x e1 e2 e3 => by rw [updM_ne e2, updM_ne e3]) (by rw [eL]; exact hQ)
    obtain ⟨T, hT⟩ : ∃ T, T = t_Front_make_fold_6 C (spOf r_leads) (spOf (r_freach C)) (spOf (r_put C)) E := ⟨_, rfl⟩; rw [← hT] at f6 ⊢
    ((conv => whnf); (repeat ((first | (refine andF ?_) | (refine andT ?_) | (refine And.intro (by first | exact rfl | exact Or.inr ⟨by decide, by decide⟩ | exact Or.inl ⟨by omega, by omega⟩ | exact ⟨by decide, by decide, by decide⟩ | exact ⟨by decide, by decide⟩ | decide | omega | assumption | (apply sz; simp; done) | exact tyC_l updM_same | exact tyC_l (by assumption) | exact tyC_d updM_same | exact tyC_d (by assumption)) ?_)); (conv => whnf))))
    refine ⟨fun hb => ?_, fun hb => ?_⟩
    · have hb : pl - r.t = 0 := dt hb
      ((conv => whnf); (repeat ((first | (refine andF ?_) | (refine andT ?_) | (refine And.intro (by first | exact rfl | exact Or.inr ⟨by decide, by decide⟩ | exact Or.inl ⟨by omega, by omega⟩ | exact ⟨by decide, by decide, by decide⟩ | exact ⟨by decide, by decide⟩ | decide | omega | assumption | (apply sz; simp; done) | exact tyC_l updM_same | exact tyC_l (by assumption) | exact tyC_d updM_same | exact tyC_d (by assumption)) ?_)); (conv => whnf))))
      refine ⟨p, _, rfl, h1.hp, rfl, ?_⟩
      ((conv => whnf); (repeat ((first | (refine andF ?_) | (refine andT ?_) | (refine And.intro (by first | exact rfl | exact Or.inr ⟨by decide, by decide⟩ | exact Or.inl ⟨by omega, by omega⟩ | exact ⟨by decide, by decide, by decide⟩ | exact ⟨by decide, by decide⟩ | decide | omega | assumption | (apply sz; simp; done) | exact tyC_l updM_same | exact tyC_l (by assumption) | exact tyC_d updM_same | exact tyC_d (by assumption)) ?_)); (conv => whnf))))
      refine call_put h1 hlen (.inl ⟨rfl, ⟨r, hr⟩, rfl⟩) ?_
      ((conv => whnf); (repeat ((first | (refine andF ?_) | (refine andT ?_) | (refine And.intro (by first | exact rfl | exact Or.inr ⟨by decide, by decide⟩ | exact Or.inl ⟨by omega, by omega⟩ | exact ⟨by decide, by decide, by decide⟩ | exact ⟨by decide, by decide⟩ | decide | omega | assumption | (apply sz; simp; done) | exact tyC_l updM_same | exact tyC_l (by assumption) | exact tyC_d updM_same | exact tyC_d (by assumption)) ?_)); (conv => whnf))))
      exact f6 _ _ _ _ _ _ _ (by rw [if_pos hb])
    · have hb : ¬ pl - r.t = 0 := df hb
      ((conv => whnf); (repeat ((first | (refine andF ?_) | (refine andT ?_) | (refine And.intro (by first | exact rfl | exact Or.inr ⟨by decide, by decide⟩ | exact Or.inl ⟨by omega, by omega⟩ | exact ⟨by decide, by decide, by decide⟩ | exact ⟨by decide, by decide⟩ | decide | omega | assumption | (apply sz; simp; done) | exact tyC_l updM_same | exact tyC_l (by assumption) | exact tyC_d updM_same | exact tyC_d (by assumption)) ?_)); (conv => whnf))))
      refine ⟨p, _, rfl, h1.hp, rfl, ?_⟩
      have hmul : CMul (r.m - (pl - r.t)) r.f := .inr (by rcases h7 with e | e <;> rw [e] <;> exact ⟨by decide, by decide⟩)
      ((conv => whnf); (repeat ((first | (refine andF ?_) | (refine andT ?_) | (refine And.intro (by first | exact rfl | exact Or.inr ⟨by decide, by decide⟩ | exact Or.inl ⟨by omega, by omega⟩ | exact ⟨by decide, by decide, by decide⟩ | exact ⟨by decide, by decide⟩ | decide | omega | assumption | (apply sz; simp; done) | exact tyC_l updM_same | exact tyC_l (by assumption) | exact tyC_d updM_same | exact tyC_d (by assumption)) ?_)); (conv => whnf))))
      refine call_put (x := rowD ⟨r.o + (r.m - (pl - r.t)) * r.f, r.t, pl - r.t, r.f⟩) h1 hlen (.inr ⟨_, rfl, rfl⟩) ?_
      ((conv => whnf); (repeat ((first | (refine andF ?_) | (refine andT ?_) | (refine And.intro (by first | exact rfl | exact Or.inr ⟨by decide, by decide⟩ | exact Or.inl ⟨by omega, by omega⟩ | exact ⟨by decide, by decide, by decide⟩ | exact ⟨by decide, by decide⟩ | decide | omega | assumption | (apply sz; simp; done) | exact tyC_l updM_same | exact tyC_l (by assumption) | exact tyC_d updM_same | exact tyC_d (by assumption)) ?_)); (conv => whnf))))
      refine f6 _ _ _ _ _ _ _ ?_
      rw [if_neg hb]
      have e1 : r.o + (r.m - (pl - r.t)) * r.f = foldO r (pl - r.t) := by
        unfold foldO
        rcases h7 with e | e
        · rw [e, if_neg (by decide)]; omega
        · rw [e, if_pos rfl]; omega
      rw [e1, fst_id]
      show foldO r (pl - r.t) ≤ r.t
      unfold foldO
      unfold leadsB at hld
      by_cases hf : r.f = 1
      · rw [if_pos hf] at hld ⊢
        have := dt hld
        omega
      · rw [if_neg hf]; exact hot
  unfold t_Front_make_fold_3
  obtain ⟨T, hT⟩ : ∃ T, T = dSeq (dIfS (dB (dOp (eqR false) (dVar 7) (dC (.int 0)))) (dDrop (dMeth C "put" (spOf (r_put C)) [] E (dVar 0) (dCons (dVar 1) (dCons (dC .non) dNil)))) (dDrop (dMeth C "put" (spOf (r_put C)) [] E (dVar 0) (dCons (dVar 1) (dCons (dTup (dCons (dOp addR (dVar 3) (dOp mulR (dOp subR (dVar 5) (dVar 7)) (dVar 6))) (dCons (dVar 4) (dCons (dVar 7) (dCons (dVar 6) dNil))))) dNil)))))
        (t_Front_make_fold_6 C (spOf r_leads) (spOf (r_freach C)) (spOf (r_put C)) E) := ⟨_, rfl⟩
  rw [← hT] at main ⊢
  ((conv => whnf); (repeat ((first | (refine andF ?_) | (refine andT ?_) | (refine And.intro (by first | exact rfl | exact Or.inr ⟨by decide, by decide⟩ | exact Or.inl ⟨by omega, by omega⟩ | exact ⟨by decide, by decide, by decide⟩ | exact ⟨by decide, by decide⟩ | decide | omega | assumption | (apply sz; simp; done) | exact tyC_l updM_same | exact tyC_l (by assumption) | exact tyC_d updM_same | exact tyC_d (by assumption)) ?_)); (conv => whnf))))
  refine ⟨p, _, _, rfl, h.hp, rfl, ?_⟩
  ((conv => whnf); (repeat ((first | rw [hl] | (refine andF ?_) | (refine andT ?_) | (refine And.intro (by first | exact rfl | exact Or.inr ⟨by decide, by decide⟩ | exact Or.inl ⟨by omega, by omega⟩ | exact ⟨by decide, by decide, by decide⟩ | exact ⟨by decide, by decide⟩ | decide | omega | assumption | (apply sz; simp; done) | exact tyC_l updM_same | exact tyC_l (by assumption) | exact tyC_d updM_same | exact tyC_d (by assumption)) ?_)); (conv => whnf))))
  refine ⟨p, _, _, rfl, h.hp, rfl, ?_⟩
  ((conv => whnf); (repeat ((first | rw [hl] | (refine andF ?_) | (refine andT ?_) | (refine And.intro (by first | exact rfl | exact Or.inr ⟨by decide, by decide⟩ | exact Or.inl ⟨by omega, by omega⟩ | exact ⟨by decide, by decide, by decide⟩ | exact ⟨by decide, by decide⟩ | decide | omega | assumption | (apply sz; simp; done) | exact tyC_l updM_same | exact tyC_l (by assumption) | exact tyC_d updM_same | exact tyC_d (by assumption)) ?_)); (conv => whnf))))
  refine ⟨fun hb => ?_, fun hb => ?_⟩
  · have hb : r.f = 1 := dt hb
    ((conv => whnf); (repeat ((first | rw [hl] | (refine andF ?_) | (refine andT ?_) | (refine And.intro (by first | exact rfl | exact Or.inr ⟨by decide, by decide⟩ | exact Or.inl ⟨by omega, by omega⟩ | exact ⟨by decide, by decide, by decide⟩ | exact ⟨by decide, by decide⟩ | decide | omega | assumption | (apply sz; simp; done) | exact tyC_l updM_same | exact tyC_l (by assumption) | exact tyC_d updM_same | exact tyC_d (by assumption)) ?_)); (conv => whnf))))
    exact main _ (by rw [if_pos hb])
  · have hb : ¬ r.f = 1 := df hb
    ((conv => whnf); (repeat ((first | rw [hl] | (refine andF ?_) | (refine andT ?_) | (refine And.intro (by first | exact rfl | exact Or.inr ⟨by decide, by decide⟩ | exact Or.inl ⟨by omega, by omega⟩ | exact ⟨by decide, by decide, by decide⟩ | exact ⟨by decide, by decide⟩ | decide | omega | assumption | (apply sz; simp; done) | exact tyC_l updM_same | exact tyC_l (by assumption) | exact tyC_d updM_same | exact tyC_d (by assumption)) ?_)); (conv => whnf))))
    exact main _ (by rw [if_neg hb])
theorem m_mfold (C : Addr) : Meets (t_Front_make_fold C (spOf r_leads) (spOf (r_freach C)) (spOf (r_put C))) 8 (spOf (r_mfold C)) := by
  rintro ds M Q E dn ⟨R, ⟨p, S, q, l, k, pl, n, r, rfl, h, hlen, hlen2, hr, hld, hot, hm, h4, h5, hn, hnp, h7, rfl⟩, hQ⟩
  have hq := h.hq
  have v1 := val_rw hr
  have rest := fold_3 (E := E) h hlen hlen2 hr hot hld h4 h7 (hQ _ _ ⟨rfl, rfl⟩) hm h5
  unfold t_Front_make_fold t_Front_make_fold_2; obtain ⟨T, hT⟩ : ∃ T, T = t_Front_make_fold_3 C (spOf r_leads) (spOf (r_freach C)) (spOf (r_put C)) E := ⟨_, rfl⟩; rw [← hT] at rest ⊢
  ((conv => whnf); (repeat ((first | (refine andF ?_) | (refine andT ?_) | (refine And.intro (by first | exact rfl | exact Or.inr ⟨by decide, by decide⟩ | exact Or.inl ⟨by omega, by omega⟩ | exact ⟨by decide, by decide, by decide⟩ | exact ⟨by decide, by decide⟩ | decide | omega | assumption | (apply sz; simp; done) | exact tyC_l updM_same | exact tyC_l (by assumption) | exact tyC_d updM_same | exact tyC_d (by assumption)) ?_)); (conv => whnf))))
  refine ⟨p, _, _, rfl, h.hp, rfl, ?_⟩
  ((conv => whnf); (repeat ((first | rw [hq] | rw [v1] | (refine andF ?_) | (refine andT ?_) | (refine And.intro (by first | exact rfl | exact Or.inr ⟨by decide, by decide⟩ | exact Or.inl ⟨by omega, by omega⟩ | exact ⟨by decide, by decide, by decide⟩ | exact ⟨by decide, by decide⟩ | decide | omega | assumption | (apply sz; simp; done) | exact tyC_l updM_same | exact tyC_l (by assumption) | exact tyC_d updM_same | exact tyC_d (by assumption)) ?_)); (conv => whnf))))
  refine ⟨p, _, _, rfl, h.hp, rfl, ?_⟩
  ((conv => whnf); (repeat ((first | rw [hq] | rw [v1] | (refine andF ?_) | (refine andT ?_) | (refine And.intro (by first | exact rfl | exact Or.inr ⟨by decide, by decide⟩ | exact Or.inl ⟨by omega, by omega⟩ | exact ⟨by decide, by decide, by decide⟩ | exact ⟨by decide, by decide⟩ | decide | omega | assumption | (apply sz; simp; done) | exact tyC_l updM_same | exact tyC_l (by assumption) | exact tyC_d updM_same | exact tyC_d (by assumption)) ?_)); (conv => whnf))))
  refine call_leads ?_
  rw [hld]
  ((conv => whnf); (repeat ((first | (refine andF ?_) | (refine andT ?_) | (refine And.intro (by first | exact rfl | exact Or.inr ⟨by decide, by decide⟩ | exact Or.inl ⟨by omega, by omega⟩ | exact ⟨by decide, by decide, by decide⟩ | exact ⟨by decide, by decide⟩ | decide | omega | assumption | (apply sz; simp; done) | exact tyC_l updM_same | exact tyC_l (by assumption) | exact tyC_d updM_same | exact tyC_d (by assumption)) ?_)); (conv => whnf))))
  refine ⟨p, _, _, rfl, h.hp, rfl, ?_⟩
  ((conv => whnf); (repeat ((first | (refine andF ?_) | (refine andT ?_) | (refine And.intro (by first | exact rfl | exact Or.inr ⟨by decide, by decide⟩ | exact Or.inl ⟨by omega, by omega⟩ | exact ⟨by decide, by decide, by decide⟩ | exact ⟨by decide, by decide⟩ | decide | omega | assumption | (apply sz; simp; done) | exact tyC_l updM_same | exact tyC_l (by assumption) | exact tyC_d updM_same | exact tyC_d (by assumption)) ?_)); (conv => whnf))))
  refine ⟨fun hb => ?_, fun hb => ?_⟩
  · have hb : (!decide (r.t + r.m = S.top)) = true := hb
    simp [hm] at hb
  · ((conv => whnf); (repeat ((first | (refine andF ?_) | (refine andT ?_) | (refine And.intro (by first | exact rfl | exact Or.inr ⟨by decide, by decide⟩ | exact Or.inl ⟨by omega, by omega⟩ | exact ⟨by decide, by decide, by decide⟩ | exact ⟨by decide, by decide⟩ | decide | omega | assumption | (apply sz; simp; done) | exact tyC_l updM_same | exact tyC_l (by assumption) | exact tyC_d updM_same | exact tyC_d (by assumption)) ?_)); (conv => whnf))))
    refine ⟨fun hb => ?_, fun hb => absurd h4 (df hb)⟩
    ((conv => whnf); (repeat ((first | (refine andF ?_) | (refine andT ?_) | (refine And.intro (by first | exact rfl | exact Or.inr ⟨by decide, by decide⟩ | exact Or.inl ⟨by omega, by omega⟩ | exact ⟨by decide, by decide, by decide⟩ | exact ⟨by decide, by decide⟩ | decide | omega | assumption | (apply sz; simp; done) | exact tyC_l updM_same | exact tyC_l (by assumption) | exact tyC_d updM_same | exact tyC_d (by assumption)) ?_)); (conv => whnf))))
    refine ⟨p, _, _, rfl, h.hp, rfl, ?_⟩
    ((conv => whnf); (repeat ((first | (refine andF ?_) | (refine andT ?_) | (refine And.intro (by first | exact rfl | exact Or.inr ⟨by decide, by decide⟩ | exact Or.inl ⟨by omega, by omega⟩ | exact ⟨by decide, by decide, by decide⟩ | exact ⟨by decide, by decide⟩ | decide | omega | assumption | (apply sz; simp; done) | exact tyC_l updM_same | exact tyC_l (by assumption) | exact tyC_d updM_same | exact tyC_d (by assumption)) ?_)); (conv => whnf))))
    refine ⟨fun hb => ?_, fun hb => ?_⟩
    · have hb : (!decide (pl < S.top)) = true := hb
      simp [h5] at hb
    · ((conv => whnf); (repeat ((first | (refine andF ?_) | (refine andT ?_) | (refine And.intro (by first | exact rfl | exact Or.inr ⟨by decide, by decide⟩ | exact Or.inl ⟨by omega, by omega⟩ | exact ⟨by decide, by decide, by decide⟩ | exact ⟨by decide, by decide⟩ | decide | omega | assumption | (apply sz; simp; done) | exact tyC_l updM_same | exact tyC_l (by assumption) | exact tyC_d updM_same | exact tyC_d (by assumption)) ?_)); (conv => whnf))))
      refine ⟨p, _, rfl, h.hp, rfl, ?_⟩
      ((conv => whnf); (repeat ((first | (refine andF ?_) | (refine andT ?_) | (refine And.intro (by first | exact rfl | exact Or.inr ⟨by decide, by decide⟩ | exact Or.inl ⟨by omega, by omega⟩ | exact ⟨by decide, by decide, by decide⟩ | exact ⟨by decide, by decide⟩ | decide | omega | assumption | (apply sz; simp; done) | exact tyC_l updM_same | exact tyC_l (by assumption) | exact tyC_d updM_same | exact tyC_d (by assumption)) ?_)); (conv => whnf))))
      refine call_freach (b := some k) h fun m hm' => ?_
      have := hm'.uniq hn
      subst this
      ((conv => whnf); (repeat ((first | (refine andF ?_) | (refine andT ?_) | (refine And.intro (by first | exact rfl | exact Or.inr ⟨by decide, by decide⟩ | exact Or.inl ⟨by omega, by omega⟩ | exact ⟨by decide, by decide, by decide⟩ | exact ⟨by decide, by decide⟩ | decide | omega | assumption | (apply sz; simp; done) | exact tyC_l updM_same | exact tyC_l (by assumption) | exact tyC_d updM_same | exact tyC_d (by assumption)) ?_)); (conv => whnf))))
      refine ⟨fun hb => absurd hnp (by have := dt hb; omega), fun hb => ?_⟩
      ((conv => whnf); (repeat ((first | (refine andF ?_) | (refine andT ?_) | (refine And.intro (by first | exact rfl | exact Or.inr ⟨by decide, by decide⟩ | exact Or.inl ⟨by omega, by omega⟩ | exact ⟨by decide, by decide, by decide⟩ | exact ⟨by decide, by decide⟩ | decide | omega | assumption | (apply sz; simp; done) | exact tyC_l updM_same | exact tyC_l (by assumption) | exact tyC_d updM_same | exact tyC_d (by assumption)) ?_)); (conv => whnf))))
      exact rest
end K13

set_option Elab.async false
set_option linter.all false
set_option maxRecDepth 100000
set_option maxHeartbeats 4000000
namespace K13
open PySem PySem.Spec L2 FM
open PyProof.Rows hiding St

abbrev tm (C : Addr) (E : FM.DX) : TDS := t_Front_make C (spOf (r_mbare C)) (spOf (r_midle C)) (spOf (r_mhalf C)) (spOf (r_mled C)) (spOf (r_mfold C)) E
abbrev tm2 (C : Addr) (E : FM.DX) : TDS := t_Front_make_2 C (spOf (r_mbare C)) (spOf (r_midle C)) (spOf (r_mhalf C)) (spOf (r_mled C)) (spOf (r_mfold C)) E
theorem make_pre1 {C p : Addr} {M : MH} {Q : DQ} {E : FM.DX} {w : Str} {a : Int} (rest : tm2 C E (fnEnds Q) [some (.ref p), some (.tup [.str w, .int a]), some (.str w), some (.lst [.int a]), none, none] M) :
    tm C E (fnEnds Q) (startD 6 [.ref p, .tup [.str w, .int a]]) M := by
  unfold tm t_Front_make; obtain ⟨T, hT⟩ : ∃ T, T = tm2 C E := ⟨_, rfl⟩; unfold tm2 at rest hT; rw [← hT] at rest ⊢
  ((conv => whnf); (repeat ((first | (refine andF ?_) | (refine andT ?_) | (refine And.intro (by first | exact rfl | exact Or.inr ⟨by decide, by decide⟩ | exact Or.inl ⟨by omega, by omega⟩ | exact ⟨by decide, by decide, by decide⟩ | exact ⟨by decide, by decide⟩ | decide | omega | assumption | (apply sz; simp; done) | exact tyC_l updM_same | exact tyC_l (by assumption) | exact tyC_d updM_same | exact tyC_d (by assumption)) ?_)); (conv => whnf))))
  refine ⟨Nat.le_of_ble_eq_true rfl, Nat.le_of_ble_eq_true rfl, ?_⟩
  ((conv => whnf); (repeat ((first | (refine andF ?_) | (refine andT ?_) | (refine And.intro (by first | exact rfl | exact Or.inr ⟨by decide, by decide⟩ | exact Or.inl ⟨by omega, by omega⟩ | exact ⟨by decide, by decide, by decide⟩ | exact ⟨by decide, by decide⟩ | decide | omega | assumption | (apply sz; simp; done) | exact tyC_l updM_same | exact tyC_l (by assumption) | exact tyC_d updM_same | exact tyC_d (by assumption)) ?_)); (conv => whnf))))
  refine lc_allT (fun _ => some (.bl false)) _ (fun x hx M0 hM0 k hk => ?_) ?_ ?_
  · have : ∃ i, x = .int i := by
      have hx : x ∈ [D.int a] := hx
      simp only  [List.mem_cons, List.not_mem_nil, or_false] at hx
      exact ⟨_, hx⟩
    obtain ⟨i, rfl⟩ := this
    ((conv => whnf); (repeat ((first | rw [kit_ib] | (refine andF ?_) | (refine andT ?_) | (refine And.intro (by first | exact rfl | exact Or.inr ⟨by decide, by decide⟩ | exact Or.inl ⟨by omega, by omega⟩ | exact ⟨by decide, by decide, by decide⟩ | exact ⟨by decide, by decide⟩ | decide | omega | assumption | (apply sz; simp; done) | exact tyC_l updM_same | exact tyC_l (by assumption) | exact tyC_d updM_same | exact tyC_d (by assumption)) ?_)); (conv => whnf))))
    exact hk
  · rw [sizeLine_eq]; exact Nat.le_of_ble_eq_true rfl
  · ((conv => whnf); (repeat ((first | (refine andF ?_) | (refine andT ?_) | (refine And.intro (by first | exact rfl | exact Or.inr ⟨by decide, by decide⟩ | exact Or.inl ⟨by omega, by omega⟩ | exact ⟨by decide, by decide, by decide⟩ | exact ⟨by decide, by decide⟩ | decide | omega | assumption | (apply sz; simp; done) | exact tyC_l updM_same | exact tyC_l (by assumption) | exact tyC_d updM_same | exact tyC_d (by assumption)) ?_)); (conv => whnf))))
    exact rest
theorem make_pre2 {C p : Addr} {M : MH} {Q : DQ} {E : FM.DX} {w : Str} {a b : Int} (rest : tm2 C E (fnEnds Q) [some (.ref p), some (.tup [.str w, .int a, .int b]), some (.str w), some (.lst [.int a, .int b]), none, none] M) :
    tm C E (fnEnds Q) (startD 6 [.ref p, .tup [.str w, .int a, .int b]]) M := by
  unfold tm t_Front_make; obtain ⟨T, hT⟩ : ∃ T, T = tm2 C E := ⟨_, rfl⟩; unfold tm2 at rest hT; rw [← hT] at rest ⊢
  ((conv => whnf); (repeat ((first | (refine andF ?_) | (refine andT ?_) | (refine And.intro (by first | exact rfl | exact Or.inr ⟨by decide, by decide⟩ | exact Or.inl ⟨by omega, by omega⟩ | exact ⟨by decide, by decide, by decide⟩ | exact ⟨by decide, by decide⟩ | decide | omega | assumption | (apply sz; simp; done) | exact tyC_l updM_same | exact tyC_l (by assumption) | exact tyC_d updM_same | exact tyC_d (by assumption)) ?_)); (conv => whnf))))
  refine ⟨Nat.le_of_ble_eq_true rfl, Nat.le_of_ble_eq_true rfl, ?_⟩
  ((conv => whnf); (repeat ((first | (refine andF ?_) | (refine andT ?_) | (refine And.intro (by first | exact rfl | exact Or.inr ⟨by decide, by decide⟩ | exact Or.inl ⟨by omega, by omega⟩ | exact ⟨by decide, by decide, by decide⟩ | exact ⟨by decide, by decide⟩ | decide | omega | assumption | (apply sz; simp; done) | exact tyC_l updM_same | exact tyC_l (by assumption) | exact tyC_d updM_same | exact tyC_d (by assumption)) ?_)); (conv => whnf))))
  refine lc_allT (fun _ => some (.bl false)) _ (fun x hx M0 hM0 k hk => ?_) ?_ ?_
  · have : ∃ i, x = .int i := by
      have hx : x ∈ [D.int a, D.int b] := hx
      simp only  [List.mem_cons, List.not_mem_nil, or_false] at hx
      rcases hx with e | e <;> exact ⟨_, e⟩
    obtain ⟨i, rfl⟩ := this
    ((conv => whnf); (repeat ((first | rw [kit_ib] | (refine andF ?_) | (refine andT ?_) | (refine And.intro (by first | exact rfl | exact Or.inr ⟨by decide, by decide⟩ | exact Or.inl ⟨by omega, by omega⟩ | exact ⟨by decide, by decide, by decide⟩ | exact ⟨by decide, by decide⟩ | decide | omega | assumption | (apply sz; simp; done) | exact tyC_l updM_same | exact tyC_l (by assumption) | exact tyC_d updM_same | exact tyC_d (by assumption)) ?_)); (conv => whnf))))
    exact hk
  · rw [sizeLine_eq]; exact Nat.le_of_ble_eq_true rfl
  · ((conv => whnf); (repeat ((first | (refine andF ?_) | (refine andT ?_) | (refine And.intro (by first | exact rfl | exact Or.inr ⟨by decide, by decide⟩ | exact Or.inl ⟨by omega, by omega⟩ | exact ⟨by decide, by decide, by decide⟩ | exact ⟨by decide, by decide⟩ | decide | omega | assumption | (apply sz; simp; done) | exact tyC_l updM_same | exact tyC_l (by assumption) | exact tyC_d updM_same | exact tyC_d (by assumption)) ?_)); (conv => whnf))))
    exact rest
theorem make_pre3 {C p : Addr} {M : MH} {Q : DQ} {E : FM.DX} {w : Str} {a b c : Int} (rest : tm2 C E (fnEnds Q) [some (.ref p), some (.tup [.str w, .int a, .int b, .int c]), some (.str w), some (.lst [.int a, .int b, .int c]), none, none] M) :
    tm C E (fnEnds Q) (startD 6 [.ref p, .tup [.str w, .int a, .int b, .int c]]) M := by
  unfold tm t_Front_make; obtain ⟨T, hT⟩ : ∃ T, T = tm2 C E := ⟨_, rfl⟩; unfold tm2 at rest hT; rw [← hT] at rest ⊢
  ((conv => whnf); (repeat ((first | (refine andF ?_) | (refine andT ?_) | (refine And.intro (by first | exact rfl | exact Or.inr ⟨by decide, by decide⟩ | exact Or.inl ⟨by omega, by omega⟩ | exact ⟨by decide, by decide, by decide⟩ | exact ⟨by decide, by decide⟩ | decide | omega | assumption | (apply sz; simp; done) | exact tyC_l updM_same | exact tyC_l (by assumption) | exact tyC_d updM_same | exact tyC_d (by assumption)) ?_)); (conv => whnf))))
  refine ⟨Nat.le_of_ble_eq_true rfl, Nat.le_of_ble_eq_true rfl, ?_⟩
  ((conv => whnf); (repeat ((first | (refine andF ?_) | (refine andT ?_) | (refine And.intro (by first | exact rfl | exact Or.inr ⟨by decide, by decide⟩ | exact Or.inl ⟨by omega, by omega⟩ | exact ⟨by decide, by decide, by decide⟩ | exact ⟨by decide, by decide⟩ | decide | omega | assumption | (apply sz; simp; done) | exact tyC_l updM_same | exact tyC_l (by assumption) | exact tyC_d updM_same | exact tyC_d (by assumption)) ?_)); (conv => whnf))))
  refine lc_allT (fun _ => some (.bl false)) _ (fun x hx M0 hM0 k hk => ?_) ?_ ?_
  · have : ∃ i, x = .int i := by
      have hx : x ∈ [D.int a, D.int b, D.int c] := hx
      simp only  [List.mem_cons, List.not_mem_nil, or_false] at hx
      rcases hx with e | e | e <;> exact ⟨_, e⟩
    obtain ⟨i, rfl⟩ := this
    ((conv => whnf); (repeat ((first | rw [kit_ib] | (refine andF ?_) | (refine andT ?_) | (refine And.intro (by first | exact rfl | exact Or.inr ⟨by decide, by decide⟩ | exact Or.inl ⟨by omega, by omega⟩ | exact ⟨by decide, by decide, by decide⟩ | exact ⟨by decide, by decide⟩ | decide | omega | assumption | (apply sz; simp; done) | exact tyC_l updM_same | exact tyC_l (by assumption) | exact tyC_d updM_same | exact tyC_d (by assumption)) ?_)); (conv => whnf))))
    exact hk
  · rw [sizeLine_eq]; exact Nat.le_of_ble_eq_true rfl
  · ((conv => whnf); (repeat ((first | (refine andF ?_) | (refine andT ?_) | (refine And.intro (by first | exact rfl | exact Or.inr ⟨by decide, by decide⟩ | exact Or.inl ⟨by omega, by omega⟩ | exact ⟨by decide, by decide, by decide⟩ | exact ⟨by decide, by decide⟩ | decide | omega | assumption | (apply sz; simp; done) | exact tyC_l updM_same | exact tyC_l (by assumption) | exact tyC_d updM_same | exact tyC_d (by assumption)) ?_)); (conv => whnf))))
    exact rest
def r_make (C : Addr) : SpR := fun ds M R => ∃ p S q l mv S', ds = [.ref p, mv] ∧ At M C S p q l ∧ Good S ∧ S.laid.length ≤ 1000 ∧ Step S mv S' ∧ R = fun d M' => d = .non ∧ MLe (frU M C S' p q l) M'
theorem key_of_val {L : List (Int × Row)} {k : Int} {r : Row} (h : valA L k = some r) : (valA (kvR L) (Sum.inl k)).isSome = true := by rw [val_rw h]; rfl
theorem m_make (C : Addr) : Meets (tm C) 6 (spOf (r_make C)) := by
  rintro ds M Q E dn ⟨R, ⟨p, S, q, l, mv, S', rfl, h, g, hlen2, hst, rfl⟩, hQ⟩
  have hlen : S.L.length ≤ 1000 := by have := g.len; omega
  have hq := h.hq
  have hQ' := fun M' (z : MLe (frU M C S' p q l) M') => hQ .non M' ⟨rfl, z⟩
  clear hQ
  cases hst with
  | @bare pl n h1 h2 h3 =>
    refine make_pre1 ?_
    unfold tm2 t_Front_make_2 t_Front_make_3
    ((conv => whnf); (repeat ((first | (refine andF ?_) | (refine andT ?_) | (refine And.intro (by first | exact rfl | exact Or.inr ⟨by decide, by decide⟩ | exact Or.inl ⟨by omega, by omega⟩ | exact ⟨by decide, by decide, by decide⟩ | exact ⟨by decide, by decide⟩ | decide | omega | assumption | (apply sz; simp; done) | exact tyC_l updM_same | exact tyC_l (by assumption) | exact tyC_d updM_same | exact tyC_d (by assumption)) ?_)); (conv => whnf))))
    refine ⟨p, _, rfl, h.hp, rfl, ?_⟩
    ((conv => whnf); (repeat ((first | (refine andF ?_) | (refine andT ?_) | (refine And.intro (by first | exact rfl | exact Or.inr ⟨by decide, by decide⟩ | exact Or.inl ⟨by omega, by omega⟩ | exact ⟨by decide, by decide, by decide⟩ | exact ⟨by decide, by decide⟩ | decide | omega | assumption | (apply sz; simp; done) | exact tyC_l updM_same | exact tyC_l (by assumption) | exact tyC_d updM_same | exact tyC_d (by assumption)) ?_)); (conv => whnf))))
    refine ⟨_, ⟨p, S, q, l, pl, n, rfl, h, hlen2, h1, h2, h3, rfl⟩, fun d M' ⟨e1, e2⟩ => ?_⟩
    subst e1 e2
    ((conv => whnf); (repeat ((first | (refine andF ?_) | (refine andT ?_) | (refine And.intro (by first | exact rfl | exact Or.inr ⟨by decide, by decide⟩ | exact Or.inl ⟨by omega, by omega⟩ | exact ⟨by decide, by decide, by decide⟩ | exact ⟨by decide, by decide⟩ | decide | omega | assumption | (apply sz; simp; done) | exact tyC_l updM_same | exact tyC_l (by assumption) | exact tyC_d updM_same | exact tyC_d (by assumption)) ?_)); (conv => whnf))))
    exact hQ' _ (MLe.refl _)
  | @idle k r h1 h2 h3 =>
    have v1 := val_rw h1
    refine make_pre1 ?_
    unfold tm2 t_Front_make_2 t_Front_make_3
    ((conv => whnf); (repeat ((first | (refine andF ?_) | (refine andT ?_) | (refine And.intro (by first | exact rfl | exact Or.inr ⟨by decide, by decide⟩ | exact Or.inl ⟨by omega, by omega⟩ | exact ⟨by decide, by decide, by decide⟩ | exact ⟨by decide, by decide⟩ | decide | omega | assumption | (apply sz; simp; done) | exact tyC_l updM_same | exact tyC_l (by assumption) | exact tyC_d updM_same | exact tyC_d (by assumption)) ?_)); (conv => whnf))))
    refine ⟨p, _, _, rfl, h.hp, rfl, ?_⟩
    ((conv => whnf); (repeat ((first | rw [hq] | rw [v1] | (refine andF ?_) | (refine andT ?_) | (refine And.intro (by first | exact rfl | exact Or.inr ⟨by decide, by decide⟩ | exact Or.inl ⟨by omega, by omega⟩ | exact ⟨by decide, by decide, by decide⟩ | exact ⟨by decide, by decide⟩ | decide | omega | assumption | (apply sz; simp; done) | exact tyC_l updM_same | exact tyC_l (by assumption) | exact tyC_d updM_same | exact tyC_d (by assumption)) ?_)); (conv => whnf))))
    refine ⟨p, _, rfl, h.hp, rfl, ?_⟩
    ((conv => whnf); (repeat ((first | (refine andF ?_) | (refine andT ?_) | (refine And.intro (by first | exact rfl | exact Or.inr ⟨by decide, by decide⟩ | exact Or.inl ⟨by omega, by omega⟩ | exact ⟨by decide, by decide, by decide⟩ | exact ⟨by decide, by decide⟩ | decide | omega | assumption | (apply sz; simp; done) | exact tyC_l updM_same | exact tyC_l (by assumption) | exact tyC_d updM_same | exact tyC_d (by assumption)) ?_)); (conv => whnf))))
    refine ⟨_, ⟨p, S, q, l, k, r, rfl, h, hlen, h1, h2, h3, rfl⟩, fun d M' ⟨e1, e2⟩ => ?_⟩
    subst e1 e2
    ((conv => whnf); (repeat ((first | (refine andF ?_) | (refine andT ?_) | (refine And.intro (by first | exact rfl | exact Or.inr ⟨by decide, by decide⟩ | exact Or.inl ⟨by omega, by omega⟩ | exact ⟨by decide, by decide, by decide⟩ | exact ⟨by decide, by decide⟩ | decide | omega | assumption | (apply sz; simp; done) | exact tyC_l updM_same | exact tyC_l (by assumption) | exact tyC_d updM_same | exact tyC_d (by assumption)) ?_)); (conv => whnf))))
    exact hQ' _ (MLe.refl _)
  | @halve k r h1 h2 h3 h4 =>
    have v1 := val_rw h1
    refine make_pre1 ?_
    unfold tm2 t_Front_make_2 t_Front_make_3
    ((conv => whnf); (repeat ((first | (refine andF ?_) | (refine andT ?_) | (refine And.intro (by first | exact rfl | exact Or.inr ⟨by decide, by decide⟩ | exact Or.inl ⟨by omega, by omega⟩ | exact ⟨by decide, by decide, by decide⟩ | exact ⟨by decide, by decide⟩ | decide | omega | assumption | (apply sz; simp; done) | exact tyC_l updM_same | exact tyC_l (by assumption) | exact tyC_d updM_same | exact tyC_d (by assumption)) ?_)); (conv => whnf))))
    refine ⟨p, _, _, rfl, h.hp, rfl, ?_⟩
    ((conv => whnf); (repeat ((first | rw [hq] | rw [v1] | (refine andF ?_) | (refine andT ?_) | (refine And.intro (by first | exact rfl | exact Or.inr ⟨by decide, by decide⟩ | exact Or.inl ⟨by omega, by omega⟩ | exact ⟨by decide, by decide, by decide⟩ | exact ⟨by decide, by decide⟩ | decide | omega | assumption | (apply sz; simp; done) | exact tyC_l updM_same | exact tyC_l (by assumption) | exact tyC_d updM_same | exact tyC_d (by assumption)) ?_)); (conv => whnf))))
    refine ⟨p, _, rfl, h.hp, rfl, ?_⟩
    ((conv => whnf); (repeat ((first | (refine andF ?_) | (refine andT ?_) | (refine And.intro (by first | exact rfl | exact Or.inr ⟨by decide, by decide⟩ | exact Or.inl ⟨by omega, by omega⟩ | exact ⟨by decide, by decide, by decide⟩ | exact ⟨by decide, by decide⟩ | decide | omega | assumption | (apply sz; simp; done) | exact tyC_l updM_same | exact tyC_l (by assumption) | exact tyC_d updM_same | exact tyC_d (by assumption)) ?_)); (conv => whnf))))
    refine ⟨_, ⟨p, S, q, l, k, r, rfl, h, hlen, h1, h2, h3, h4, rfl⟩, fun d M' ⟨e1, e2⟩ => ?_⟩
    subst e1 e2
    ((conv => whnf); (repeat ((first | (refine andF ?_) | (refine andT ?_) | (refine And.intro (by first | exact rfl | exact Or.inr ⟨by decide, by decide⟩ | exact Or.inl ⟨by omega, by omega⟩ | exact ⟨by decide, by decide, by decide⟩ | exact ⟨by decide, by decide⟩ | decide | omega | assumption | (apply sz; simp; done) | exact tyC_l updM_same | exact tyC_l (by assumption) | exact tyC_d updM_same | exact tyC_d (by assumption)) ?_)); (conv => whnf))))
    exact hQ' _ (MLe.refl _)
  | @lead k b r v h1 h2 h3 h4 h5 h6 h7 h8 =>
    have v1 := val_rw h1
    refine make_pre3 ?_
    unfold tm2 t_Front_make_2 t_Front_make_3
    ((conv => whnf); (repeat ((first | (refine andF ?_) | (refine andT ?_) | (refine And.intro (by first | exact rfl | exact Or.inr ⟨by decide, by decide⟩ | exact Or.inl ⟨by omega, by omega⟩ | exact ⟨by decide, by decide, by decide⟩ | exact ⟨by decide, by decide⟩ | decide | omega | assumption | (apply sz; simp; done) | exact tyC_l updM_same | exact tyC_l (by assumption) | exact tyC_d updM_same | exact tyC_d (by assumption)) ?_)); (conv => whnf))))
    refine ⟨p, _, _, rfl, h.hp, rfl, ?_⟩
    ((conv => whnf); (repeat ((first | rw [hq] | rw [v1] | (refine andF ?_) | (refine andT ?_) | (refine And.intro (by first | exact rfl | exact Or.inr ⟨by decide, by decide⟩ | exact Or.inl ⟨by omega, by omega⟩ | exact ⟨by decide, by decide, by decide⟩ | exact ⟨by decide, by decide⟩ | decide | omega | assumption | (apply sz; simp; done) | exact tyC_l updM_same | exact tyC_l (by assumption) | exact tyC_d updM_same | exact tyC_d (by assumption)) ?_)); (conv => whnf))))
    refine ⟨p, _, rfl, h.hp, rfl, ?_⟩
    ((conv => whnf); (repeat ((first | (refine andF ?_) | (refine andT ?_) | (refine And.intro (by first | exact rfl | exact Or.inr ⟨by decide, by decide⟩ | exact Or.inl ⟨by omega, by omega⟩ | exact ⟨by decide, by decide, by decide⟩ | exact ⟨by decide, by decide⟩ | decide | omega | assumption | (apply sz; simp; done) | exact tyC_l updM_same | exact tyC_l (by assumption) | exact tyC_d updM_same | exact tyC_d (by assumption)) ?_)); (conv => whnf))))
    refine ⟨_, ⟨p, S, q, l, k, b, r, v, rfl, h, hlen, h1, h2, h3, h4, h5, h6, h7, h8, rfl⟩, fun d M' ⟨e1, e2⟩ => ?_⟩
    subst e1
    ((conv => whnf); (repeat ((first | (refine andF ?_) | (refine andT ?_) | (refine And.intro (by first | exact rfl | exact Or.inr ⟨by decide, by decide⟩ | exact Or.inl ⟨by omega, by omega⟩ | exact ⟨by decide, by decide, by decide⟩ | exact ⟨by decide, by decide⟩ | decide | omega | assumption | (apply sz; simp; done) | exact tyC_l updM_same | exact tyC_l (by assumption) | exact tyC_d updM_same | exact tyC_d (by assumption)) ?_)); (conv => whnf))))
    exact hQ' _ e2
  | @fold k pl r n h1 h2 h3 h4 h5 h6 h7 h8 =>
    have v1 := val_rw h1
    refine make_pre2 ?_
    unfold tm2 t_Front_make_2 t_Front_make_3
    ((conv => whnf); (repeat ((first | (refine andF ?_) | (refine andT ?_) | (refine And.intro (by first | exact rfl | exact Or.inr ⟨by decide, by decide⟩ | exact Or.inl ⟨by omega, by omega⟩ | exact ⟨by decide, by decide, by decide⟩ | exact ⟨by decide, by decide⟩ | decide | omega | assumption | (apply sz; simp; done) | exact tyC_l updM_same | exact tyC_l (by assumption) | exact tyC_d updM_same | exact tyC_d (by assumption)) ?_)); (conv => whnf))))
    refine ⟨p, _, _, rfl, h.hp, rfl, ?_⟩
    ((conv => whnf); (repeat ((first | rw [hq] | rw [v1] | (refine andF ?_) | (refine andT ?_) | (refine And.intro (by first | exact rfl | exact Or.inr ⟨by decide, by decide⟩ | exact Or.inl ⟨by omega, by omega⟩ | exact ⟨by decide, by decide, by decide⟩ | exact ⟨by decide, by decide⟩ | decide | omega | assumption | (apply sz; simp; done) | exact tyC_l updM_same | exact tyC_l (by assumption) | exact tyC_d updM_same | exact tyC_d (by assumption)) ?_)); (conv => whnf))))
    refine ⟨p, _, rfl, h.hp, rfl, ?_⟩
    ((conv => whnf); (repeat ((first | (refine andF ?_) | (refine andT ?_) | (refine And.intro (by first | exact rfl | exact Or.inr ⟨by decide, by decide⟩ | exact Or.inl ⟨by omega, by omega⟩ | exact ⟨by decide, by decide, by decide⟩ | exact ⟨by decide, by decide⟩ | decide | omega | assumption | (apply sz; simp; done) | exact tyC_l updM_same | exact tyC_l (by assumption) | exact tyC_d updM_same | exact tyC_d (by assumption)) ?_)); (conv => whnf))))
    refine ⟨_, ⟨p, S, q, l, k, pl, n, r, rfl, h, hlen, hlen2, h1, h2, (g.rows _ (val_mem h1)).ot, h3, h4, h5, h6, h7, h8, rfl⟩, fun d M' ⟨e1, e2⟩ => ?_⟩
    subst e1 e2
    ((conv => whnf); (repeat ((first | (refine andF ?_) | (refine andT ?_) | (refine And.intro (by first | exact rfl | exact Or.inr ⟨by decide, by decide⟩ | exact Or.inl ⟨by omega, by omega⟩ | exact ⟨by decide, by decide, by decide⟩ | exact ⟨by decide, by decide⟩ | decide | omega | assumption | (apply sz; simp; done) | exact tyC_l updM_same | exact tyC_l (by assumption) | exact tyC_d updM_same | exact tyC_d (by assumption)) ?_)); (conv => whnf))))
    exact hQ' _ (MLe.refl _)
end K13

set_option Elab.async false
set_option linter.all false
set_option maxRecDepth 100000
set_option maxHeartbeats 4000000
namespace K13
open PySem PySem.Spec L2 FM
open PyProof.Rows hiding St

theorem dc_idx {g : TDG} {tt : TDT} {tk tv : TDE} {vs : List Nat} {δ : DSt} {q : Addr} {K : MH → Prop} {Q : List (Key × D) → MH → Prop} {M : MH} (hK : ∀ M, K M)
    (turn : ∀ (i : Nat) (r : Row) (M0 : MH) (k : Option (Key × D) → MH → Prop), k (some (Sum.inl (i : Int), rowD (fstR r))) M0 → DcTurn g tt tk tv vs δ (.tup [.int (i : Nat), rowD r]) M0 k) :
    ∀ (xs done : List Row), done.length + xs.length ≤ 1000 → Q (kvR (idx 0 (done ++ xs))) (updM M q (.dic (kvR (idx 0 (done ++ xs))))) →
      DcGo g tt tk tv vs δ q K Q (((xs.map rowD).zipIdx done.length).map fun p => .tup [.int (p.2 : Nat), p.1]) (kvR (idx 0 done)) (updM M q (.dic (kvR (idx 0 done))))
  | [], done, _, h => by
    rw [List.append_nil] at h; exact h
  | r :: xs, done, hl, h => by
    rw [List.length_cons] at hl
    refine turn done.length r _ _ ⟨updM_same, ?_, hK _, ?_⟩
    · rw [List.length_map, idx_length, sizeLine_eq]; omega
    have e : putA (kvR (idx 0 done)) (Sum.inl ((done.length : Nat) : Int)) (rowD (fstR r)) = kvR (idx 0 (done ++ [r])) := by
      rw [putA_new (fun x hx e => ?_)]
      · rw [idx_append, Nat.zero_add]
        show _ = List.map _ (_ ++ [(((done.length : Nat) : Int), fstR r)])
        rw [List.map_append]; rfl
      · obtain ⟨y, hy, rfl⟩ := List.mem_map.mp hx
        have := idx_keys 0 _ y hy
        have e : y.1 = ((done.length : Nat) : Int) := by injection e
        omega
    have ih := dc_idx (M := M) (Q := Q) hK turn xs (done ++ [r]) (by rw [List.length_append, List.length_singleton]; omega) (by rw [List.append_assoc]; exact h)
    rw [List.length_append, List.length_singleton] at ih
    dsimp only
    rw [updM_updM, e]
    exact ih
/-- the cells of a new front -/
def NewF (M : MH) (C : Addr) (S : S13) (p : Addr) (M' : MH) : Prop := ∃ q l, p ≠ q ∧ p ≠ l ∧ q ≠ l ∧ M q = none ∧ M l = none ∧ M' = frU M C S p q l
def r_begin (C : Addr) : SpR := fun ds M R => ∃ p n rs, ds = [.ref p, .int n, .lst (rs.map rowD)] ∧ M p = some (.ins C []) ∧ rs.length ≤ 100 ∧ R = fun d M' => d = .non ∧ NewF M C (begunS n rs) p M'
theorem m_begin (C : Addr) : Meets (t_Front_begin C (spOf r_first)) 5 (spOf (r_begin C)) := by
  rintro ds M Q E dn ⟨R, ⟨p, n, rs, rfl, hp, hl, rfl⟩, hQ⟩
  ((conv => whnf); (repeat ((first | (refine andF ?_) | (refine andT ?_) | (refine And.intro (by first | exact rfl | exact Or.inr ⟨by decide, by decide⟩ | exact Or.inl ⟨by omega, by omega⟩ | exact ⟨by decide, by decide, by decide⟩ | exact ⟨by decide, by decide⟩ | decide | omega | assumption | (apply sz; simp; done) | exact tyC_l updM_same | exact tyC_l (by assumption) | exact tyC_d updM_same | exact tyC_d (by assumption)) ?_)); (conv => whnf))))
  refine ⟨p, _, rfl, hp, Nat.le_of_ble_eq_true rfl, ?_⟩
  ((conv => whnf); (repeat ((first | (refine andF ?_) | (refine andT ?_) | (refine And.intro (by first | exact rfl | exact Or.inr ⟨by decide, by decide⟩ | exact Or.inl ⟨by omega, by omega⟩ | exact ⟨by decide, by decide, by decide⟩ | exact ⟨by decide, by decide⟩ | decide | omega | assumption | (apply sz; simp; done) | exact tyC_l updM_same | exact tyC_l (by assumption) | exact tyC_d updM_same | exact tyC_d (by assumption)) ?_)); (conv => whnf))))
  intro q hq
  refine ⟨trivial, ?_⟩
  have hpq : p ≠ q := fun e => by rw [← e, updM_same] at hq; cases hq
  have hq0 : M q = none := by rw [updM_ne (Ne.symm hpq)] at hq; exact hq
  refine dc_idx (fun _ => trivial) (fun i r M0 k hk => ?_) rs [] (by simp only [List.length_nil]; omega) ?_
  · ((conv => whnf); (repeat ((first | (refine andF ?_) | (refine andT ?_) | (refine And.intro (by first | exact rfl | exact Or.inr ⟨by decide, by decide⟩ | exact Or.inl ⟨by omega, by omega⟩ | exact ⟨by decide, by decide, by decide⟩ | exact ⟨by decide, by decide⟩ | decide | omega | assumption | (apply sz; simp; done) | exact tyC_l updM_same | exact tyC_l (by assumption) | exact tyC_d updM_same | exact tyC_d (by assumption)) ?_)); (conv => whnf))))
    refine call_first ?_
    exact hk
  · rw [List.nil_append]
    ((conv => whnf); (repeat ((first | (refine andF ?_) | (refine andT ?_) | (refine And.intro (by first | exact rfl | exact Or.inr ⟨by decide, by decide⟩ | exact Or.inl ⟨by omega, by omega⟩ | exact ⟨by decide, by decide, by decide⟩ | exact ⟨by decide, by decide⟩ | decide | omega | assumption | (apply sz; simp; done) | exact tyC_l updM_same | exact tyC_l (by assumption) | exact tyC_d updM_same | exact tyC_d (by assumption)) ?_)); (conv => whnf))))
    refine ⟨p, _, rfl, by rw [updM_ne hpq]; exact updM_same, Nat.le_of_ble_eq_true rfl, ?_⟩
    ((conv => whnf); (repeat ((first | (refine andF ?_) | (refine andT ?_) | (refine And.intro (by first | exact rfl | exact Or.inr ⟨by decide, by decide⟩ | exact Or.inl ⟨by omega, by omega⟩ | exact ⟨by decide, by decide, by decide⟩ | exact ⟨by decide, by decide⟩ | decide | omega | assumption | (apply sz; simp; done) | exact tyC_l updM_same | exact tyC_l (by assumption) | exact tyC_d updM_same | exact tyC_d (by assumption)) ?_)); (conv => whnf))))
    intro l hl2
    have hpl : p ≠ l := fun e => by rw [← e, updM_same] at hl2; cases hl2
    have hql : q ≠ l := fun e => by rw [← e, updM_ne (Ne.symm hpq), updM_same] at hl2; cases hl2
    have hl0 : M l = none := by rw [updM_ne (Ne.symm hpl), updM_ne (Ne.symm hql), updM_ne (Ne.symm hpl)] at hl2; exact hl2
    ((conv => whnf); (repeat ((first | (refine andF ?_) | (refine andT ?_) | (refine And.intro (by first | exact rfl | exact Or.inr ⟨by decide, by decide⟩ | exact Or.inl ⟨by omega, by omega⟩ | exact ⟨by decide, by decide, by decide⟩ | exact ⟨by decide, by decide⟩ | decide | omega | assumption | (apply sz; simp; done) | exact tyC_l updM_same | exact tyC_l (by assumption) | exact tyC_d updM_same | exact tyC_d (by assumption)) ?_)); (conv => whnf))))
    refine ⟨p, _, rfl, by rw [updM_ne hpl]; exact updM_same, Nat.le_of_ble_eq_true rfl, ?_⟩
    ((conv => whnf); (repeat ((first | (refine andF ?_) | (refine andT ?_) | (refine And.intro (by first | exact rfl | exact Or.inr ⟨by decide, by decide⟩ | exact Or.inl ⟨by omega, by omega⟩ | exact ⟨by decide, by decide, by decide⟩ | exact ⟨by decide, by decide⟩ | decide | omega | assumption | (apply sz; simp; done) | exact tyC_l updM_same | exact tyC_l (by assumption) | exact tyC_d updM_same | exact tyC_d (by assumption)) ?_)); (conv => whnf))))
    refine hQ _ _ ⟨rfl, q, l, hpq, hpl, hql, hq0, hl0, frU_of hpq hpl hql updM_same ?_ ?_ ?_⟩
    · rw [updM_ne (Ne.symm hpq), updM_ne hql, updM_ne (Ne.symm hpq), updM_same]; rfl
    · rw [updM_ne (Ne.symm hpl), updM_same]; rfl
    · intro x e1 e2 e3; rw [updM_ne e1, updM_ne e3, updM_ne e1, updM_ne e2, updM_ne e1]
def r_init (C : Addr) : SpR := fun ds M R => ∃ p n rs, ds = [.ref p, .int n, .lst (rs.map rowD)] ∧ M p = some (.ins C []) ∧ 0 ≤ n ∧ n ≤ 1000 ∧ rs.length ≤ 24 ∧ (∀ r ∈ rs, RowIn n r) ∧ R = fun d M' => d = .non ∧ NewF M C (begunS n rs) p M'
theorem m_init (C : Addr) : Meets (t_Front___init__ C (spOf r_needmat) (spOf (r_begin C))) 3 (spOf (r_init C)) := by
  rintro ds M Q E dn ⟨R, ⟨p, n, rs, rfl, hp, h1, h2, h3, h4, rfl⟩, hQ⟩
  ((conv => whnf); (repeat ((first | (refine andF ?_) | (refine andT ?_) | (refine And.intro (by first | exact rfl | exact Or.inr ⟨by decide, by decide⟩ | exact Or.inl ⟨by omega, by omega⟩ | exact ⟨by decide, by decide, by decide⟩ | exact ⟨by decide, by decide⟩ | decide | omega | assumption | (apply sz; simp; done) | exact tyC_l updM_same | exact tyC_l (by assumption) | exact tyC_d updM_same | exact tyC_d (by assumption)) ?_)); (conv => whnf))))
  refine ⟨_, ⟨n, rs, rfl, h1, h2, h3, h4, rfl⟩, fun d M' ⟨e1, e2⟩ => ?_⟩
  subst e1 e2
  ((conv => whnf); (repeat ((first | (refine andF ?_) | (refine andT ?_) | (refine And.intro (by first | exact rfl | exact Or.inr ⟨by decide, by decide⟩ | exact Or.inl ⟨by omega, by omega⟩ | exact ⟨by decide, by decide, by decide⟩ | exact ⟨by decide, by decide⟩ | decide | omega | assumption | (apply sz; simp; done) | exact tyC_l updM_same | exact tyC_l (by assumption) | exact tyC_d updM_same | exact tyC_d (by assumption)) ?_)); (conv => whnf))))
  refine ⟨p, _, rfl, hp, rfl, ?_⟩
  ((conv => whnf); (repeat ((first | (refine andF ?_) | (refine andT ?_) | (refine And.intro (by first | exact rfl | exact Or.inr ⟨by decide, by decide⟩ | exact Or.inl ⟨by omega, by omega⟩ | exact ⟨by decide, by decide, by decide⟩ | exact ⟨by decide, by decide⟩ | decide | omega | assumption | (apply sz; simp; done) | exact tyC_l updM_same | exact tyC_l (by assumption) | exact tyC_d updM_same | exact tyC_d (by assumption)) ?_)); (conv => whnf))))
  refine ⟨_, ⟨p, n, rs, rfl, hp, by omega, rfl⟩, fun d M' ⟨e1, e2⟩ => ?_⟩
  subst e1
  exact hQ _ _ ⟨rfl, e2⟩
def r_twin (C : Addr) : SpR := fun ds M R => ∃ p S q l, ds = [.ref p] ∧ At M C S p q l ∧ R = fun d M' => ∃ p2 q2 l2, d = .ref p2 ∧ At M' C S p2 q2 l2 ∧ MLe M M' ∧ M p2 = none ∧ M q2 = none ∧ M l2 = none
theorem m_twin (C : Addr) : Meets (t_Front_twin C (spOf (r_init C))) 2 (spOf (r_twin C)) := by
  rintro ds M Q E dn ⟨R, ⟨p, S, q, l, rfl, h, rfl⟩, hQ⟩
  ((conv => whnf); (repeat ((first | (refine andF ?_) | (refine andT ?_) | (refine And.intro (by first | exact rfl | exact Or.inr ⟨by decide, by decide⟩ | exact Or.inl ⟨by omega, by omega⟩ | exact ⟨by decide, by decide, by decide⟩ | exact ⟨by decide, by decide⟩ | decide | omega | assumption | (apply sz; simp; done) | exact tyC_l updM_same | exact tyC_l (by assumption) | exact tyC_d updM_same | exact tyC_d (by assumption)) ?_)); (conv => whnf))))
  intro p2 hp2
  refine ⟨_, ⟨p2, 0, [], rfl, updM_same, by decide, by decide, by decide, (fun r hr => nomatch hr), rfl⟩, fun d M1 ⟨e1, q0, l0, a1, a2, a3, a4, a5, e2⟩ => ⟨e1, ?_⟩⟩
  have le1 : MLe M M1 := by
    intro a m e
    have n1 : a ≠ p2 := neM e hp2
    have b4 : M q0 = none := by rw [updM_ne (Ne.symm a1)] at a4; exact a4
    have b5 : M l0 = none := by rw [updM_ne (Ne.symm a2)] at a5; exact a5
    rw [e2]; unfold frU
    rw [updM_ne (neM e b5), updM_ne (neM e b4), updM_ne n1, updM_ne n1]; exact e
  have hp1 : M1 p2 = some (frO C 0 q0 l0) := by rw [e2]; exact (frU_at a1 a2 a3).hp
  clear e2 a4 a5
  have h1 : At M1 C S p q l := ⟨le1 _ _ h.hp, le1 _ _ h.hq, le1 _ _ h.hl⟩
  have hq := h1.hq
  have hl := h1.hl
  ((conv => whnf); (repeat ((first | (refine andF ?_) | (refine andT ?_) | (refine And.intro (by first | exact rfl | exact Or.inr ⟨by decide, by decide⟩ | exact Or.inl ⟨by omega, by omega⟩ | exact ⟨by decide, by decide, by decide⟩ | exact ⟨by decide, by decide⟩ | decide | omega | assumption | (apply sz; simp; done) | exact tyC_l updM_same | exact tyC_l (by assumption) | exact tyC_d updM_same | exact tyC_d (by assumption)) ?_)); (conv => whnf))))
  refine ⟨p, _, _, rfl, h1.hp, rfl, ?_⟩
  ((conv => whnf); (repeat ((first | (refine andF ?_) | (refine andT ?_) | (refine And.intro (by first | exact rfl | exact Or.inr ⟨by decide, by decide⟩ | exact Or.inl ⟨by omega, by omega⟩ | exact ⟨by decide, by decide, by decide⟩ | exact ⟨by decide, by decide⟩ | decide | omega | assumption | (apply sz; simp; done) | exact tyC_l updM_same | exact tyC_l (by assumption) | exact tyC_d updM_same | exact tyC_d (by assumption)) ?_)); (conv => whnf))))
  refine ⟨p, _, _, rfl, h1.hp, rfl, ?_⟩
  ((conv => whnf); (repeat ((first | rw [(seeD_d hq)] | (refine andF ?_) | (refine andT ?_) | (refine And.intro (by first | exact rfl | exact Or.inr ⟨by decide, by decide⟩ | exact Or.inl ⟨by omega, by omega⟩ | exact ⟨by decide, by decide, by decide⟩ | exact ⟨by decide, by decide⟩ | decide | omega | assumption | (apply sz; simp; done) | exact tyC_l updM_same | exact tyC_l (by assumption) | exact tyC_d updM_same | exact tyC_d (by assumption)) ?_)); (conv => whnf))))
  intro q3 hq3
  have nq3 : ∀ {a m}, M1 a = some m → a ≠ q3 := fun e => neM e hq3
  ((conv => whnf); (repeat ((first | (refine andF ?_) | (refine andT ?_) | (refine And.intro (by first | exact rfl | exact Or.inr ⟨by decide, by decide⟩ | exact Or.inl ⟨by omega, by omega⟩ | exact ⟨by decide, by decide, by decide⟩ | exact ⟨by decide, by decide⟩ | decide | omega | assumption | (apply sz; simp; done) | exact tyC_l updM_same | exact tyC_l (by assumption) | exact tyC_d updM_same | exact tyC_d (by assumption)) ?_)); (conv => whnf))))
  refine ⟨p, _, _, rfl, by rw [updM_ne (nq3 h1.hp)]; exact h1.hp, rfl, ?_⟩
  have hl' : (updM M1 q3 (.dic (kvR S.L))) l = some (.lst S.laid) := by rw [updM_ne (nq3 hl)]; exact hl
  ((conv => whnf); (repeat ((first | rw [(seeS_l hl')] | (refine andF ?_) | (refine andT ?_) | (refine And.intro (by first | exact rfl | exact Or.inr ⟨by decide, by decide⟩ | exact Or.inl ⟨by omega, by omega⟩ | exact ⟨by decide, by decide, by decide⟩ | exact ⟨by decide, by decide⟩ | decide | omega | assumption | (apply sz; simp; done) | exact tyC_l updM_same | exact tyC_l (by assumption) | exact tyC_d updM_same | exact tyC_d (by assumption)) ?_)); (conv => whnf))))
  intro l3 hl3
  have hql3 : q3 ≠ l3 := fun e => by rw [← e, updM_same] at hl3; cases hl3
  have hl30 : M1 l3 = none := by rw [updM_ne (Ne.symm hql3)] at hl3; exact hl3
  have nl3 : ∀ {a m}, M1 a = some m → a ≠ l3 := fun e => neM e hl30
  ((conv => whnf); (repeat ((first | (refine andF ?_) | (refine andT ?_) | (refine And.intro (by first | exact rfl | exact Or.inr ⟨by decide, by decide⟩ | exact Or.inl ⟨by omega, by omega⟩ | exact ⟨by decide, by decide, by decide⟩ | exact ⟨by decide, by decide⟩ | decide | omega | assumption | (apply sz; simp; done) | exact tyC_l updM_same | exact tyC_l (by assumption) | exact tyC_d updM_same | exact tyC_d (by assumption)) ?_)); (conv => whnf))))
  refine ⟨p2, _, rfl, by rw [updM_ne (nl3 hp1), updM_ne (nq3 hp1)]; exact hp1, Nat.le_of_ble_eq_true rfl, ?_⟩
  ((conv => whnf); (repeat ((first | (refine andF ?_) | (refine andT ?_) | (refine And.intro (by first | exact rfl | exact Or.inr ⟨by decide, by decide⟩ | exact Or.inl ⟨by omega, by omega⟩ | exact ⟨by decide, by decide, by decide⟩ | exact ⟨by decide, by decide⟩ | decide | omega | assumption | (apply sz; simp; done) | exact tyC_l updM_same | exact tyC_l (by assumption) | exact tyC_d updM_same | exact tyC_d (by assumption)) ?_)); (conv => whnf))))
  refine ⟨p2, _, rfl, updM_same, Nat.le_of_ble_eq_true rfl, ?_⟩
  ((conv => whnf); (repeat ((first | (refine andF ?_) | (refine andT ?_) | (refine And.intro (by first | exact rfl | exact Or.inr ⟨by decide, by decide⟩ | exact Or.inl ⟨by omega, by omega⟩ | exact ⟨by decide, by decide, by decide⟩ | exact ⟨by decide, by decide⟩ | decide | omega | assumption | (apply sz; simp; done) | exact tyC_l updM_same | exact tyC_l (by assumption) | exact tyC_d updM_same | exact tyC_d (by assumption)) ?_)); (conv => whnf))))
  refine ⟨p2, _, rfl, updM_same, Nat.le_of_ble_eq_true rfl, ?_⟩
  ((conv => whnf); (repeat ((first | (refine andF ?_) | (refine andT ?_) | (refine And.intro (by first | exact rfl | exact Or.inr ⟨by decide, by decide⟩ | exact Or.inl ⟨by omega, by omega⟩ | exact ⟨by decide, by decide, by decide⟩ | exact ⟨by decide, by decide⟩ | decide | omega | assumption | (apply sz; simp; done) | exact tyC_l updM_same | exact tyC_l (by assumption) | exact tyC_d updM_same | exact tyC_d (by assumption)) ?_)); (conv => whnf))))
  have z1 := nq3 hp1
  have z2 := nl3 hp1
  refine hQ _ _ ⟨p2, q3, l3, rfl, ⟨updM_same, ?_, ?_⟩, ?_, hp2, ?_, ?_⟩
  · rw [updM_ne (Ne.symm z1), updM_ne (Ne.symm z1), updM_ne (Ne.symm z1), updM_ne hql3, updM_same]
  · rw [updM_ne (Ne.symm z2), updM_ne (Ne.symm z2), updM_ne (Ne.symm z2), updM_same]
  · intro a m e
    have e1 := le1 _ _ e
    have n1 : a ≠ p2 := neM e hp2
    rw [updM_ne n1, updM_ne n1, updM_ne n1, updM_ne (nl3 e1), updM_ne (nq3 e1)]; exact e1
  · cases hm : M q3 with
    | none => rfl
    | some m => exact absurd rfl (nq3 (le1 _ _ hm))
  · cases hm : M l3 with
    | none => rfl
    | some m => exact absurd rfl (nl3 (le1 _ _ hm))
end K13

set_option Elab.async false
set_option linter.all false
set_option maxRecDepth 100000
set_option maxHeartbeats 4000000
namespace K13
open PySem PySem.Spec L2 FM
open PyProof.Rows hiding St

/-- data of a depth below k -/
def plD : Nat → D → Prop
  | 0, _ => False
  | _ + 1, .non => True
  | _ + 1, .bl _ => True
  | _ + 1, .int _ => True
  | _ + 1, .str _ => True
  | k + 1, .tup xs => xs.length ≤ 1000 ∧ ∀ x ∈ xs, plD k x
  | k + 1, .lst xs => xs.length ≤ 1000 ∧ ∀ x ∈ xs, plD k x
  | _ + 1, _ => False
def r_like (k : Nat) : SpR := fun ds M R => ∃ d, ds = [d, d] ∧ plD k d ∧ R = fun d M' => d = .bl true ∧ M' = M
theorem call_like {k : Nat} {d : D} {M : MH} {K : D → MH → Prop} (h : plD k d) (kk : K (.bl true) M) : ∃ R, r_like k [d, d] M R ∧ ∀ d M', R d M' → K d M' :=
  ⟨_, ⟨d, rfl, h, rfl⟩, fun d M' ⟨e1, e2⟩ => by subst e1 e2; exact kk⟩
theorem kb1 : kitB "bool" "bool" = some true := by decide +kernel
theorem kb3 : kitB "int" "int" = some true := by decide +kernel
theorem kb4 : kitB "str" "bool" = some false := by decide +kernel
theorem kb5 : kitB "str" "int" = some false := by decide +kernel
theorem kb6 : kitB "str" "str" = some true := by decide +kernel
theorem kb7 : kitB "tuple" "bool" = some false := by decide +kernel
theorem kb8 : kitB "tuple" "int" = some false := by decide +kernel
theorem kb9 : kitB "tuple" "str" = some false := by decide +kernel
theorem kb10 : kitB "tuple" "tuple" = some true := by decide +kernel
theorem kb11 : kitB "tuple" "list" = some false := by decide +kernel
theorem kb12 : kitB "list" "bool" = some false := by decide +kernel
theorem kb13 : kitB "list" "int" = some false := by decide +kernel
theorem kb14 : kitB "list" "str" = some false := by decide +kernel
theorem kb15 : kitB "list" "tuple" = some false := by decide +kernel
theorem kb16 : kitB "list" "list" = some true := by decide +kernel
theorem asBl_tt : ∀ as : List D, asBl (as.filterMap fun _ => some (.bl true)) = some (as.map fun _ => true)
  | [] => rfl
  | a :: as => by
    show (asBl (as.filterMap fun _ => some (.bl true))).map _ = _
    rw [asBl_tt as]; rfl
theorem all_tt : ∀ as : List D, (as.map fun _ => true).all id = true
  | [] => rfl
  | a :: as => by show (true && _) = _; rw [all_tt as]; rfl
theorem like_6 {k : Nat} {xs : List D} {d : D} {M : MH} {Q : DQ} {E : FM.DX} {x2 : Option D} (hd : d = .tup xs ∨ d = .lst xs) (hl : xs.length ≤ 1000) (h : ∀ x ∈ xs, plD k x) (hQ : Q (.bl true) M) :
    t_law_like_6 (spOf (r_like k)) E (fnEnds Q) [some d, some d, x2] M := by
  unfold t_law_like_6
  rcases hd with rfl | rfl
  · ((conv => whnf); (repeat ((first | (refine andF ?_) | (refine andT ?_)); (conv => whnf))))
    refine ⟨by omega, by omega, ?_⟩
    refine lc_allT (fun _ => some (.bl true)) _ (fun x hx M0 hM0 k hk => ?_) (by rw [List.length_map, List.length_range, sizeLine_eq]; omega) ?_
    · obtain ⟨i, hi, rfl⟩ := List.mem_map.mp hx
      have hi : i < xs.length := by have := List.mem_range.mp hi; omega
      have hx : ixD xs ((i : Nat) : Int) = some xs[i] := by rw [ixD_nat rfl, List.getElem?_eq_getElem hi]
      ((conv => whnf); (repeat ((first | rw [hx] | (refine andF ?_) | (refine andT ?_) | (refine And.intro (by first | exact rfl | exact Or.inr ⟨by decide, by decide⟩ | exact Or.inl ⟨by omega, by omega⟩ | exact ⟨by decide, by decide, by decide⟩ | exact ⟨by decide, by decide⟩ | decide | omega | assumption | (apply sz; simp; done) | exact tyC_l updM_same | exact tyC_l (by assumption) | exact tyC_d updM_same | exact tyC_d (by assumption)) ?_)); (conv => whnf))))
      refine call_like (h _ (List.getElem_mem hi)) ?_
      exact hk
    · ((conv => whnf); (repeat ((first | rw [(asBl_tt _)] | rw [(all_tt _)] | (refine andF ?_) | (refine andT ?_) | (refine And.intro (by first | exact rfl | exact Or.inr ⟨by decide, by decide⟩ | exact Or.inl ⟨by omega, by omega⟩ | exact ⟨by decide, by decide, by decide⟩ | exact ⟨by decide, by decide⟩ | decide | omega | assumption | (apply sz; simp; done) | exact tyC_l updM_same | exact tyC_l (by assumption) | exact tyC_d updM_same | exact tyC_d (by assumption)) ?_)); (conv => whnf))))
      exact hQ
  · ((conv => whnf); (repeat ((first | (refine andF ?_) | (refine andT ?_)); (conv => whnf))))
    refine ⟨by omega, by omega, ?_⟩
    refine lc_allT (fun _ => some (.bl true)) _ (fun x hx M0 hM0 k hk => ?_) (by rw [List.length_map, List.length_range, sizeLine_eq]; omega) ?_
    · obtain ⟨i, hi, rfl⟩ := List.mem_map.mp hx
      have hi : i < xs.length := by have := List.mem_range.mp hi; omega
      have hx : ixD xs ((i : Nat) : Int) = some xs[i] := by rw [ixD_nat rfl, List.getElem?_eq_getElem hi]
      ((conv => whnf); (repeat ((first | rw [hx] | (refine andF ?_) | (refine andT ?_) | (refine And.intro (by first | exact rfl | exact Or.inr ⟨by decide, by decide⟩ | exact Or.inl ⟨by omega, by omega⟩ | exact ⟨by decide, by decide, by decide⟩ | exact ⟨by decide, by decide⟩ | decide | omega | assumption | (apply sz; simp; done) | exact tyC_l updM_same | exact tyC_l (by assumption) | exact tyC_d updM_same | exact tyC_d (by assumption)) ?_)); (conv => whnf))))
      refine call_like (h _ (List.getElem_mem hi)) ?_
      exact hk
    · ((conv => whnf); (repeat ((first | rw [(asBl_tt _)] | rw [(all_tt _)] | (refine andF ?_) | (refine andT ?_) | (refine And.intro (by first | exact rfl | exact Or.inr ⟨by decide, by decide⟩ | exact Or.inl ⟨by omega, by omega⟩ | exact ⟨by decide, by decide, by decide⟩ | exact ⟨by decide, by decide⟩ | decide | omega | assumption | (apply sz; simp; done) | exact tyC_l updM_same | exact tyC_l (by assumption) | exact tyC_d updM_same | exact tyC_d (by assumption)) ?_)); (conv => whnf))))
      exact hQ
theorem m_like (k : Nat) : Meets (t_law_like (spOf (r_like k))) 3 (spOf (r_like (k + 1))) := by
  rintro ds M Q E dn ⟨R, ⟨d, rfl, h, rfl⟩, hQ⟩
  have hQ := hQ (.bl true) M ⟨rfl, rfl⟩
  have rest := @like_6 k
  unfold t_law_like t_law_like_1 t_law_like_2 t_law_like_3 t_law_like_4 t_law_like_5; obtain ⟨T, hT⟩ : ∃ T, T = t_law_like_6 (spOf (r_like k)) E := ⟨_, rfl⟩; rw [← hT]
  have rest : ∀ (xs : List D) (d : D), d = .tup xs ∨ d = .lst xs → xs.length ≤ 1000 → (∀ x ∈ xs, plD k x) → T (fnEnds Q) [some d, some d, none] M := fun xs d a b c => by rw [hT]; exact rest a b c hQ
  clear hT
  cases d with
  | non =>
    ((conv => whnf); (repeat ((first | (refine andF ?_) | (refine andT ?_) | (refine And.intro (by first | exact rfl | exact Or.inr ⟨by decide, by decide⟩ | exact Or.inl ⟨by omega, by omega⟩ | exact ⟨by decide, by decide, by decide⟩ | exact ⟨by decide, by decide⟩ | decide | omega | assumption | (apply sz; simp; done) | exact tyC_l updM_same | exact tyC_l (by assumption) | exact tyC_d updM_same | exact tyC_d (by assumption)) ?_)); (conv => whnf))))
    exact hQ
  | bl b =>
    cases b
    · ((conv => whnf); (repeat ((first | rw [kb1] | (refine andF ?_) | (refine andT ?_) | (refine And.intro (by first | exact rfl | exact Or.inr ⟨by decide, by decide⟩ | exact Or.inl ⟨by omega, by omega⟩ | exact ⟨by decide, by decide, by decide⟩ | exact ⟨by decide, by decide⟩ | decide | omega | assumption | (apply sz; simp; done) | exact tyC_l updM_same | exact tyC_l (by assumption) | exact tyC_d updM_same | exact tyC_d (by assumption)) ?_)); (conv => whnf))))
      exact hQ
    · ((conv => whnf); (repeat ((first | rw [kb1] | (refine andF ?_) | (refine andT ?_) | (refine And.intro (by first | exact rfl | exact Or.inr ⟨by decide, by decide⟩ | exact Or.inl ⟨by omega, by omega⟩ | exact ⟨by decide, by decide, by decide⟩ | exact ⟨by decide, by decide⟩ | decide | omega | assumption | (apply sz; simp; done) | exact tyC_l updM_same | exact tyC_l (by assumption) | exact tyC_d updM_same | exact tyC_d (by assumption)) ?_)); (conv => whnf))))
      exact hQ
  | int i =>
    have e : decide (i = i) = true := decide_eq_true rfl
    ((conv => whnf); (repeat ((first | rw [kit_ib] | rw [kb3] | rw [e] | (refine andF ?_) | (refine andT ?_) | (refine And.intro (by first | exact rfl | exact Or.inr ⟨by decide, by decide⟩ | exact Or.inl ⟨by omega, by omega⟩ | exact ⟨by decide, by decide, by decide⟩ | exact ⟨by decide, by decide⟩ | decide | omega | assumption | (apply sz; simp; done) | exact tyC_l updM_same | exact tyC_l (by assumption) | exact tyC_d updM_same | exact tyC_d (by assumption)) ?_)); (conv => whnf))))
    exact hQ
  | str i =>
    have e : decide (i = i) = true := decide_eq_true rfl
    ((conv => whnf); (repeat ((first | rw [kb4] | rw [kb5] | rw [kb6] | rw [e] | (refine andF ?_) | (refine andT ?_) | (refine And.intro (by first | exact rfl | exact Or.inr ⟨by decide, by decide⟩ | exact Or.inl ⟨by omega, by omega⟩ | exact ⟨by decide, by decide, by decide⟩ | exact ⟨by decide, by decide⟩ | decide | omega | assumption | (apply sz; simp; done) | exact tyC_l updM_same | exact tyC_l (by assumption) | exact tyC_d updM_same | exact tyC_d (by assumption)) ?_)); (conv => whnf))))
    exact hQ
  | tup xs =>
    have e : decide ((xs.length : Int) = (xs.length : Int)) = true := decide_eq_true rfl
    ((conv => whnf); (repeat ((first | rw [kb7] | rw [kb8] | rw [kb9] | rw [kb10] | rw [kb11] | rw [e] | (refine andF ?_) | (refine andT ?_) | (refine And.intro (by first | exact rfl | exact Or.inr ⟨by decide, by decide⟩ | exact Or.inl ⟨by omega, by omega⟩ | exact ⟨by decide, by decide, by decide⟩ | exact ⟨by decide, by decide⟩ | decide | omega | assumption | (apply sz; simp; done) | exact tyC_l updM_same | exact tyC_l (by assumption) | exact tyC_d updM_same | exact tyC_d (by assumption)) ?_)); (conv => whnf))))
    exact rest xs _ (.inl rfl) h.1 h.2
  | lst xs =>
    have e : decide ((xs.length : Int) = (xs.length : Int)) = true := decide_eq_true rfl
    ((conv => whnf); (repeat ((first | rw [kb12] | rw [kb13] | rw [kb14] | rw [kb15] | rw [kb16] | rw [e] | (refine andF ?_) | (refine andT ?_) | (refine And.intro (by first | exact rfl | exact Or.inr ⟨by decide, by decide⟩ | exact Or.inl ⟨by omega, by omega⟩ | exact ⟨by decide, by decide, by decide⟩ | exact ⟨by decide, by decide⟩ | decide | omega | assumption | (apply sz; simp; done) | exact tyC_l updM_same | exact tyC_l (by assumption) | exact tyC_d updM_same | exact tyC_d (by assumption)) ?_)); (conv => whnf))))
    exact rest xs _ (.inr rfl) h.1 h.2
  | _ => exact (show False from h).elim

theorem IsLeft.uniq {L : List (Int × Row)} {d e : D} (h : IsLeft L d) (k : IsLeft L e) : d = e := by
  obtain ⟨ns, a1, a2, rfl⟩ := h
  obtain ⟨ms, b1, b2, rfl⟩ := k
  rw [List.Perm.eq_of_pairwise (fun _ _ _ _ a b => Int.le_antisymm a b) a2 b2 (a1.trans b1.symm)]
/-- what the laid list holds -/
def LaidOk (xs : List D) : Prop := xs.length ≤ 1000 ∧ ∀ x ∈ xs, plD 3 x
def r_stands (C : Addr) : SpR := fun ds M R => ∃ p S q l, ds = [.ref p, stD S] ∧ At M C S p q l ∧ S.L.length ≤ 50 ∧ LaidOk S.laid ∧ R = fun d M' => d = .bl true ∧ M' = M
theorem m_stands (C : Addr) : Meets (t_law_stands C (spOf (r_led_on C)) (spOf (r_left C)) (spOf (r_top C)) (spOf (r_like 5))) 4 (spOf (r_stands C)) := by
  rintro ds M Q E dn ⟨R, ⟨p, S, q, l, rfl, h, hl, hd, rfl⟩, hQ⟩
  have hQ := hQ (.bl true) M ⟨rfl, rfl⟩
  have ks := intKs_kvR S.L
  have fin : ∀ (e : D) (ns : List Int) (x3 : Option D), ns.Perm (S.L.map (·.1)) → ns.Pairwise (· ≤ ·) → e = D.lst (ns.map fun k => .tup [.int k, ((valA S.L k).map rowD).getD .non]) →
      dRet (dCall (spOf (r_like 5)) [] E (dCons (dLst (dCons (dMeth C "top" (spOf (r_top C)) [] E (dVar 0) dNil) (dCons (dMeth C "left" (spOf (r_left C)) [] E (dVar 0) dNil) (dCons (dMeth C "led_on" (spOf (r_led_on C)) [] E (dVar 0) dNil) dNil)))) (dCons (dLst (dCons (dOp ixR' (dVar 1) (dC (.int 0))) (dCons (dVar 2) (dCons (dOp ixR' (dVar 1) (dC (.int 2))) dNil)))) dNil))) (fnEnds Q) [some (.ref p), some (stD S), some e, x3] M := by
    intro e ns x3 pm so he
    ((conv => whnf); (repeat ((first | (refine andF ?_) | (refine andT ?_) | (refine And.intro (by first | exact rfl | exact Or.inr ⟨by decide, by decide⟩ | exact Or.inl ⟨by omega, by omega⟩ | exact ⟨by decide, by decide, by decide⟩ | exact ⟨by decide, by decide⟩ | decide | omega | assumption | (apply sz; simp; done) | exact tyC_l updM_same | exact tyC_l (by assumption) | exact tyC_d updM_same | exact tyC_d (by assumption)) ?_)); (conv => whnf))))
    refine ⟨p, _, rfl, h.hp, rfl, ?_⟩
    ((conv => whnf); (repeat ((first | (refine andF ?_) | (refine andT ?_) | (refine And.intro (by first | exact rfl | exact Or.inr ⟨by decide, by decide⟩ | exact Or.inl ⟨by omega, by omega⟩ | exact ⟨by decide, by decide, by decide⟩ | exact ⟨by decide, by decide⟩ | decide | omega | assumption | (apply sz; simp; done) | exact tyC_l updM_same | exact tyC_l (by assumption) | exact tyC_d updM_same | exact tyC_d (by assumption)) ?_)); (conv => whnf))))
    refine ⟨_, ⟨p, S, q, l, rfl, h, rfl⟩, fun d M' ⟨e1, e2⟩ => ?_⟩
    subst e1 e2
    ((conv => whnf); (repeat ((first | (refine andF ?_) | (refine andT ?_) | (refine And.intro (by first | exact rfl | exact Or.inr ⟨by decide, by decide⟩ | exact Or.inl ⟨by omega, by omega⟩ | exact ⟨by decide, by decide, by decide⟩ | exact ⟨by decide, by decide⟩ | decide | omega | assumption | (apply sz; simp; done) | exact tyC_l updM_same | exact tyC_l (by assumption) | exact tyC_d updM_same | exact tyC_d (by assumption)) ?_)); (conv => whnf))))
    refine ⟨p, _, rfl, h.hp, rfl, ?_⟩
    ((conv => whnf); (repeat ((first | (refine andF ?_) | (refine andT ?_) | (refine And.intro (by first | exact rfl | exact Or.inr ⟨by decide, by decide⟩ | exact Or.inl ⟨by omega, by omega⟩ | exact ⟨by decide, by decide, by decide⟩ | exact ⟨by decide, by decide⟩ | decide | omega | assumption | (apply sz; simp; done) | exact tyC_l updM_same | exact tyC_l (by assumption) | exact tyC_d updM_same | exact tyC_d (by assumption)) ?_)); (conv => whnf))))
    refine ⟨_, ⟨p, S, q, l, rfl, h, hl, rfl⟩, fun d M' ⟨e1, e2⟩ => ?_⟩
    have e3 : d = e := e1.uniq ⟨ns, pm, so, he⟩
    subst e2 e3
    ((conv => whnf); (repeat ((first | (refine andF ?_) | (refine andT ?_) | (refine And.intro (by first | exact rfl | exact Or.inr ⟨by decide, by decide⟩ | exact Or.inl ⟨by omega, by omega⟩ | exact ⟨by decide, by decide, by decide⟩ | exact ⟨by decide, by decide⟩ | decide | omega | assumption | (apply sz; simp; done) | exact tyC_l updM_same | exact tyC_l (by assumption) | exact tyC_d updM_same | exact tyC_d (by assumption)) ?_)); (conv => whnf))))
    refine ⟨p, _, rfl, h.hp, rfl, ?_⟩
    ((conv => whnf); (repeat ((first | (refine andF ?_) | (refine andT ?_) | (refine And.intro (by first | exact rfl | exact Or.inr ⟨by decide, by decide⟩ | exact Or.inl ⟨by omega, by omega⟩ | exact ⟨by decide, by decide, by decide⟩ | exact ⟨by decide, by decide⟩ | decide | omega | assumption | (apply sz; simp; done) | exact tyC_l updM_same | exact tyC_l (by assumption) | exact tyC_d updM_same | exact tyC_d (by assumption)) ?_)); (conv => whnf))))
    refine ⟨_, ⟨p, S, q, l, rfl, h, rfl⟩, fun d' M' ⟨e1, e2⟩ => ?_⟩
    subst e1 e2
    ((conv => whnf); (repeat ((first | (refine andF ?_) | (refine andT ?_) | (refine And.intro (by first | exact rfl | exact Or.inr ⟨by decide, by decide⟩ | exact Or.inl ⟨by omega, by omega⟩ | exact ⟨by decide, by decide, by decide⟩ | exact ⟨by decide, by decide⟩ | decide | omega | assumption | (apply sz; simp; done) | exact tyC_l updM_same | exact tyC_l (by assumption) | exact tyC_d updM_same | exact tyC_d (by assumption)) ?_)); (conv => whnf))))
    refine call_like ⟨by simp, fun x hx => ?_⟩ hQ
    have hx : x ∈ [D.int S.top, d, D.lst S.laid] := hx
    simp only [List.mem_cons, List.not_mem_nil, or_false] at hx
    rcases hx with rfl | rfl | rfl
    · trivial
    · rw [he]
      refine ⟨by rw [List.length_map, pm.length_eq, List.length_map]; omega, fun y hy => ?_⟩
      obtain ⟨k, hk, rfl⟩ := List.mem_map.mp hy
      obtain ⟨r, hr⟩ := val_key (pm.mem_iff.mp hk)
      rw [hr]
      refine ⟨by simp, fun z hz => ?_⟩
      simp only [List.mem_cons, List.not_mem_nil, or_false] at hz
      rcases hz with rfl | rfl
      · trivial
      · refine ⟨by simp, fun z hz => ?_⟩
        simp only [List.mem_cons, List.not_mem_nil, or_false] at hz
        rcases hz with rfl | rfl | rfl | rfl <;> trivial
    · exact ⟨hd.1, fun y hy => hd.2 y hy⟩
  unfold t_law_stands
  obtain ⟨T, hT⟩ : ∃ T, T = dRet (dCall (spOf (r_like 5)) [] E (dCons (dLst (dCons (dMeth C "top" (spOf (r_top C)) [] E (dVar 0) dNil) (dCons (dMeth C "left" (spOf (r_left C)) [] E (dVar 0) dNil) (dCons (dMeth C "led_on" (spOf (r_led_on C)) [] E (dVar 0) dNil) dNil)))) (dCons (dLst (dCons (dOp ixR' (dVar 1) (dC (.int 0))) (dCons (dVar 2) (dCons (dOp ixR' (dVar 1) (dC (.int 2))) dNil)))) dNil))) := ⟨_, rfl⟩
  rw [← hT] at fin ⊢
  ((conv => whnf); (repeat ((first | rw [ks] | (refine andF ?_) | (refine andT ?_) | (refine And.intro (by first | exact rfl | exact Or.inr ⟨by decide, by decide⟩ | exact Or.inl ⟨by omega, by omega⟩ | exact ⟨by decide, by decide, by decide⟩ | exact ⟨by decide, by decide⟩ | decide | omega | assumption | (apply sz; simp; done) | exact tyC_l updM_same | exact tyC_l (by assumption) | exact tyC_d updM_same | exact tyC_d (by assumption)) ?_)); (conv => whnf))))
  refine ⟨by rw [List.length_map]; omega, fun ns pm so => ?_⟩
  ((conv => whnf); (repeat ((first | (refine andF ?_) | (refine andT ?_) | (refine And.intro (by first | exact rfl | exact Or.inr ⟨by decide, by decide⟩ | exact Or.inl ⟨by omega, by omega⟩ | exact ⟨by decide, by decide, by decide⟩ | exact ⟨by decide, by decide⟩ | decide | omega | assumption | (apply sz; simp; done) | exact tyC_l updM_same | exact tyC_l (by assumption) | exact tyC_d updM_same | exact tyC_d (by assumption)) ?_)); (conv => whnf))))
  refine lc_allT (leftF S.L) _ (fun x hx M0 hM0 k hk => ?_) (by rw [List.length_map, pm.length_eq, List.length_map, sizeLine_eq]; omega) ?_
  · obtain ⟨i, hi, rfl⟩ := List.mem_map.mp hx
    obtain ⟨r, hr⟩ := val_key (pm.mem_iff.mp hi)
    have v1 := val_rw hr
    have hk : k (some (.tup [.int i, ((valA S.L i).map rowD).getD .non])) M0 := hk
    rw [hr] at hk
    ((conv => whnf); (repeat ((first | rw [v1] | (refine andF ?_) | (refine andT ?_) | (refine And.intro (by first | exact rfl | exact Or.inr ⟨by decide, by decide⟩ | exact Or.inl ⟨by omega, by omega⟩ | exact ⟨by decide, by decide, by decide⟩ | exact ⟨by decide, by decide⟩ | decide | omega | assumption | (apply sz; simp; done) | exact tyC_l updM_same | exact tyC_l (by assumption) | exact tyC_d updM_same | exact tyC_d (by assumption)) ?_)); (conv => whnf))))
    exact hk
  · rw [left_fm]
    ((conv => whnf); (repeat ((first | (refine andF ?_) | (refine andT ?_) | (refine And.intro (by first | exact rfl | exact Or.inr ⟨by decide, by decide⟩ | exact Or.inl ⟨by omega, by omega⟩ | exact ⟨by decide, by decide, by decide⟩ | exact ⟨by decide, by decide⟩ | decide | omega | assumption | (apply sz; simp; done) | exact tyC_l updM_same | exact tyC_l (by assumption) | exact tyC_d updM_same | exact tyC_d (by assumption)) ?_)); (conv => whnf))))
    exact fin _ ns _ pm so rfl
end K13

set_option Elab.async false
set_option linter.all false
set_option maxRecDepth 100000
set_option maxHeartbeats 4000000
namespace K13
open PySem PySem.Spec L2 FM
open PyProof.Rows hiding St

def r_open : SpR := fun ds M R => ∃ ns : List Int, ds = [.scr (ns.map D.int)] ∧ R = fun d M' => ∃ p m, d = .ref p ∧ M p = none ∧ DrawM m ∧ M' = updM M p m
theorem cut63 (ns : List Int) : cutA (ns.map D.int) none (some 63) = (cutA ns none (some 63)).map D.int := by
  unfold cutA
  rw [List.length_map]
  simp only [List.map_take, List.map_drop]
theorem m_open : Meets t_law_open 3 (spOf r_open) := by
  rintro ds M Q E dn ⟨R, ⟨ns, rfl, rfl⟩, hQ⟩
  have rest : ∀ (s : Int) (x2 : Option D), 0 ≤ s → s < 2147483629 → t_law_open_2 E (fnEnds Q) [some (.scr (ns.map D.int)), some (.int s), x2] M := by
    intro s x2 h0 h1
    ((conv => whnf); (repeat ((first | rw [(cut63 ns)] | (refine andF ?_) | (refine andT ?_) | (refine And.intro (by first | exact rfl | exact Or.inr ⟨by decide, by decide⟩ | exact Or.inl ⟨by omega, by omega⟩ | exact ⟨by decide, by decide, by decide⟩ | exact ⟨by decide, by decide⟩ | decide | omega | assumption | (apply sz; simp; done) | exact tyC_l updM_same | exact tyC_l (by assumption) | exact tyC_d updM_same | exact tyC_d (by assumption)) ?_)); (conv => whnf))))
    intro p hp
    exact hQ _ _ ⟨p, _, rfl, hp, ⟨_, 0, 0, s, rfl, by decide, h0, h1⟩, rfl⟩
  unfold t_law_open; obtain ⟨T, hT⟩ : ∃ T, T = t_law_open_2 E := ⟨_, rfl⟩; rw [← hT] at rest ⊢
  ((conv => whnf); (repeat ((first | rw [(cut63 ns)] | (refine andF ?_) | (refine andT ?_) | (refine And.intro (by first | exact rfl | exact Or.inr ⟨by decide, by decide⟩ | exact Or.inl ⟨by omega, by omega⟩ | exact ⟨by decide, by decide, by decide⟩ | exact ⟨by decide, by decide⟩ | decide | omega | assumption | (apply sz; simp; done) | exact tyC_l updM_same | exact tyC_l (by assumption) | exact tyC_d updM_same | exact tyC_d (by assumption)) ?_)); (conv => whnf))))
  refine ⟨trivial, ?_⟩
  refine for_ind (fun r δ M' => M' = M ∧ (∃ (s : Int) (x2 : Option D), δ = [some (.scr (ns.map D.int)), some (.int s), x2] ∧ 0 ≤ s ∧ s < 2147483629) ∧ ∃ l : List Int, r = l.map D.int) ?_ ?_ _ _ _ ⟨rfl, ⟨9134, none, rfl, by decide, by decide⟩, _, rfl⟩
  · rintro x r δ M' ⟨rfl, ⟨s, x2, rfl, h0, h1⟩, l, hl⟩ k hk
    cases l with
    | nil => cases hl
    | cons c l =>
      injection hl with e1 e2
      subst e1 e2
      have hm : CMul s 69621 := .inr ⟨by decide, by decide⟩
      ((conv => whnf); (repeat ((first | (refine andF ?_) | (refine andT ?_) | (refine And.intro (by first | exact rfl | exact Or.inr ⟨by decide, by decide⟩ | exact Or.inl ⟨by omega, by omega⟩ | exact ⟨by decide, by decide, by decide⟩ | exact ⟨by decide, by decide⟩ | decide | omega | assumption | (apply sz; simp; done) | exact tyC_l updM_same | exact tyC_l (by assumption) | exact tyC_d updM_same | exact tyC_d (by assumption)) ?_)); (conv => whnf))))
      refine hk _ _ ⟨trivial, rfl, ⟨_, _, rfl, Int.emod_nonneg _ (by decide), Int.emod_lt_of_pos _ (by decide)⟩, l, rfl⟩
  · rintro δ M' ⟨rfl, ⟨s, x2, rfl, h0, h1⟩, _⟩
    exact rest s x2 h0 h1
end K13

set_option Elab.async false
set_option linter.all false
set_option maxRecDepth 100000
set_option maxHeartbeats 4000000
namespace K13
open PySem PySem.Spec L2 FM
open PyProof.Rows hiding St

/-- data that repr shows, at most so deep and so heavy -/
def NP (k w : Nat) (p : PyData) : Prop := p.canLay0 = true ∧ p.depth ≤ k ∧ p.weight ≤ w ∧ p.intsShort 13 = true ∧ p.showable = true ∧ p.hasDict = false
def Nc (k w : Nat) (d : D) : Prop := ∃ p, pd d = some p ∧ NP k w p
theorem Nc.le {k w k' w' : Nat} {d : D} (h : Nc k w d) (h1 : k ≤ k') (h2 : w ≤ w') : Nc k' w' d := by
  obtain ⟨p, e, a1, a2, a3, a4⟩ := h
  exact ⟨p, e, a1, Nat.le_trans a2 h1, Nat.le_trans a3 h2, a4⟩
theorem np_int : ∀ n : Fin 101, NP 0 10 (.int ((n.val : Nat) : Int)) := by
  unfold NP
  decide +kernel
theorem nc_int {i : Int} (h0 : 0 ≤ i) (h1 : i ≤ 100) : Nc 0 10 (.int i) := by
  have h := np_int ⟨i.toNat, by omega⟩
  have e : ((i.toNat : Nat) : Int) = i := by omega
  exact ⟨_, rfl, by rw [← e]; exact h⟩
theorem nc_bare : Nc 0 10 (.str "bare") := ⟨_, rfl, by unfold NP; decide +kernel⟩
theorem nc_fold : Nc 0 10 (.str "fold") := ⟨_, rfl, by unfold NP; decide +kernel⟩
theorem nc_all {k w : Nat} : ∀ ds : List D, (∀ d ∈ ds, Nc k w d) → ∃ ps, pds ds = some ps ∧ PyData.canLayAll0 ps = true ∧ PyData.depthAll ps ≤ k ∧ PyData.weightAll ps ≤ (w + 1) * ds.length ∧ PyData.intsShortAll 13 ps = true ∧ PyData.showableAll ps = true ∧ PyData.hasDictAll ps = false
  | [], _ => ⟨[], rfl, by simp [PyData.canLayAll0], by simp [PyData.depthAll], by simp [PyData.weightAll], by simp [PyData.intsShortAll], by simp [PyData.showableAll], by simp [PyData.hasDictAll]⟩
  | d :: ds, h => by
    obtain ⟨ps, e, a1, a2, a3, a4, a5, a6⟩ := nc_all ds fun x hx => h x (List.mem_cons_of_mem _ hx)
    obtain ⟨p, e', b1, b2, b3, b4, b5, b6⟩ := h d (List.mem_cons_self ..)
    refine ⟨p :: ps, ?_, ?_, ?_, ?_, ?_, ?_, ?_⟩
    · show (pd d).bind (fun x => (pds ds).map fun xs => x :: xs) = _
      rw [e', e]; rfl
    · simp [PyData.canLayAll0, a1, b1]
    · simp only [PyData.depthAll]; omega
    · simp only [PyData.weightAll, List.length_cons]
      rw [Nat.mul_succ]; omega
    · simp [PyData.intsShortAll, a4, b4]
    · simp [PyData.showableAll, a5, b5]
    · simp [PyData.hasDictAll, a6, b6]
theorem nc_tup {k w n : Nat} {ds : List D} (h : ∀ d ∈ ds, Nc k w d) (hl : ds.length ≤ n) : Nc (k + 1) ((w + 1) * n) (.tup ds) := by
  obtain ⟨ps, e, a1, a2, a3, a4, a5, a6⟩ := nc_all ds h
  refine ⟨.tuple ps, ?_, ?_, ?_, ?_, ?_, ?_, ?_⟩
  · show (pds ds).map PyData.tuple = _
    rw [e]; rfl
  · simp [PyData.canLay0, a1]
  · simp only [PyData.depth]; omega
  · simp only [PyData.weight]; exact Nat.le_trans a3 (Nat.mul_le_mul_left _ hl)
  · simp [PyData.intsShort, a4]
  · simp [PyData.showable, a5]
  · simp [PyData.hasDict, a6]
theorem nc_lst {k w n : Nat} {ds : List D} (h : ∀ d ∈ ds, Nc k w d) (hl : ds.length ≤ n) : Nc (k + 1) ((w + 1) * n) (.lst ds) := by
  obtain ⟨ps, e, a1, a2, a3, a4, a5, a6⟩ := nc_all ds h
  refine ⟨.list ps, ?_, ?_, ?_, ?_, ?_, ?_, ?_⟩
  · show (pds ds).map PyData.list = _
    rw [e]; rfl
  · simp [PyData.canLay0, a1]
  · simp only [PyData.depth]; omega
  · simp only [PyData.weight]; exact Nat.le_trans a3 (Nat.mul_le_mul_left _ hl)
  · simp [PyData.intsShort, a4]
  · simp [PyData.showable, a5]
  · simp [PyData.hasDict, a6]
theorem np_shown {p : PyData} (h : NP 64 1048576 p) : p.shown.length ≤ sizeLine := by
  obtain ⟨a1, a2, a3, a4, _⟩ := h
  have : PyData.layable0 p = true := by
    unfold PyData.layable0
    simp only [Bool.and_eq_true, decide_eq_true_eq]
    exact ⟨⟨a1, a2⟩, Nat.le_trans a3 (by decide)⟩
  have := shown_le13 this a4
  rw [sizeLine_eq]; omega
/-! ### a state whose parts are small -/
def LdE (x : D) : Prop := ∃ (w : Str) (ns : List Int), x = .tup (.str w :: ns.map D.int) ∧ (w = "bare" ∨ w = "fold") ∧ ns.length ≤ 5 ∧ ∀ n ∈ ns, 0 ≤ n ∧ n ≤ 100
structure WF (S : S13) : Prop where
  g : Good S
  ks : ∀ x ∈ S.L, 0 ≤ x.1 ∧ x.1 ≤ 100
  ld : ∀ x ∈ S.laid, LdE x
theorem LdE.pl {x : D} (h : LdE x) : plD 3 x := by
  obtain ⟨w, ns, rfl, _, hl, _⟩ := h
  refine ⟨by rw [List.length_cons, List.length_map]; omega, fun y hy => ?_⟩
  rcases List.mem_cons.mp hy with rfl | hy
  · trivial
  · obtain ⟨n, _, rfl⟩ := List.mem_map.mp hy; trivial
theorem LdE.nc {x : D} (h : LdE x) : Nc 1 66 x := by
  obtain ⟨w, ns, rfl, hw, hl, hn⟩ := h
  refine nc_tup (w := 10) (n := 6) (fun y hy => ?_) (by rw [List.length_cons, List.length_map]; omega)
  rcases List.mem_cons.mp hy with rfl | hy
  · rcases hw with rfl | rfl
    · exact nc_bare
    · exact nc_fold
  · obtain ⟨n, hn', rfl⟩ := List.mem_map.mp hy
    exact nc_int (hn n hn').1 (hn n hn').2
end K13

set_option Elab.async false
set_option linter.all false
set_option maxRecDepth 100000
set_option maxHeartbeats 4000000
namespace K13
open PySem PySem.Spec L2 FM
open PyProof.Rows hiding St

theorem dropK {L : List (Int × Row)} {k : Int} (h : ∀ x ∈ L, 0 ≤ x.1 ∧ x.1 ≤ 100) : ∀ x ∈ dropA L k, 0 ≤ x.1 ∧ x.1 ≤ 100 := fun x hx => h x (drop_mem hx).1
theorem putK {L : List (Int × Row)} {k : Int} {r r' : Row} (h1 : valA L k = some r') (h : ∀ x ∈ L, 0 ≤ x.1 ∧ x.1 ≤ 100) : ∀ x ∈ putA L k r, 0 ≤ x.1 ∧ x.1 ≤ 100 := fun x hx => by
  rcases put_mem ⟨_, h1⟩ hx with e | e
  · subst e; exact h (k, r') (val_mem h1)
  · exact h x e.1
theorem snoc_ld {xs : List D} {y : D} (h : ∀ x ∈ xs, LdE x) (hy : LdE y) : ∀ x ∈ xs ++ [y], LdE x := fun x hx => by
  rcases List.mem_append.mp hx with e | e
  · exact h x e
  · rw [List.mem_singleton.mp e]; exact hy
theorem Step.wf {S S' : S13} {mv : D} (g : WF S) (h : Step S mv S') : WF S' := by
  have gg := (h.good g.g).1
  have t30 := g.g.top30
  cases h with
  | @idle k r h1 h2 h3 => exact ⟨gg, dropK g.ks, g.ld⟩
  | @halve k r h1 h2 h3 h4 =>
    refine ⟨gg, ?_, g.ld⟩
    show ∀ x ∈ (if halfR r = 0 then dropA S.L k else putA S.L k ⟨r.o, r.t + r.m - halfR r, halfR r, 1⟩), _
    split
    · exact dropK g.ks
    · exact putK h1 g.ks
  | @bare p n h1 h2 h3 =>
    have := h1.1
    refine ⟨gg, g.ks, snoc_ld g.ld ⟨"bare", [p, S.top], rfl, .inl rfl, Nat.le_of_ble_eq_true rfl, fun x hx => ?_⟩⟩
    simp only [List.mem_cons, List.not_mem_nil, or_false] at hx
    rcases hx with rfl | rfl <;> omega
  | @lead k b r l h1 h2 h3 h4 h5 h6 h7 h8 => exact ⟨gg, putK h1 g.ks, g.ld⟩
  | @fold k p r n h1 h2 h3 h4 h5 h6 h7 h8 =>
    have kr := g.g.rows _ (val_mem h1)
    have b1 := kr.o0
    have b2 := kr.ot
    have b3 := kr.m1
    have b4 := kr.tm
    refine ⟨gg, ?_, snoc_ld g.ld ⟨"fold", [p, S.top, r.o, if r.f = 1 then 0 else r.t - r.o, r.f], rfl, .inr rfl, Nat.le_of_ble_eq_true rfl, fun x hx => ?_⟩⟩
    · show ∀ x ∈ (if p - r.t = 0 then dropA S.L k else putA S.L k ⟨foldO r (p - r.t), r.t, p - r.t, r.f⟩), _
      split
      · exact dropK g.ks
      · exact putK h1 g.ks
    · simp only [List.mem_cons, List.not_mem_nil, or_false] at hx
      dsimp only at b1 b2 b3 b4
      rcases hx with rfl | rfl | rfl | rfl | rfl
      · omega
      · omega
      · omega
      · split <;> omega
      · omega
theorem begun_wf {n : Int} {rs : List Row} (h30 : n ≤ 30) (hl : rs.length ≤ 50) (h : ∀ r ∈ rs, RowIn n r) : WF (begunS n rs) :=
  ⟨begun_good h30 hl h, fun x hx => by have := idx_keys 0 rs x hx; omega, fun x hx => nomatch hx⟩
theorem Run.wf {S S' : S13} {ms : List D} (g : WF S) (h : Run S ms S') : WF S' := by
  induction h with
  | nil => exact g
  | cons a _ ih => exact ih (a.wf g)
theorem WF.laid {S : S13} (g : WF S) (h : S.laid.length ≤ 1000) : LaidOk S.laid := ⟨h, fun x hx => (g.ld x hx).pl⟩
theorem nc_left {S : S13} {d : D} (g : WF S) (h : IsLeft S.L d) : Nc 3 4550 d := by
  obtain ⟨ns, pm, _, rfl⟩ := h
  refine nc_lst (w := 90) (n := 50) (fun y hy => ?_) (by rw [List.length_map, pm.length_eq, List.length_map]; exact g.g.len)
  obtain ⟨k, hk, rfl⟩ := List.mem_map.mp hy
  obtain ⟨r, hr⟩ := val_key (pm.mem_iff.mp hk)
  rw [hr]
  have kr := g.g.rows _ (val_mem hr)
  have hkk := g.ks _ (val_mem hr)
  have b1 := kr.o0
  have b2 := kr.ot
  have b3 := kr.m1
  have b4 := kr.tm
  have b5 := g.g.top30
  dsimp only at b1 b2 b3 b4 hkk
  refine nc_tup (w := 44) (n := 2) (fun z hz => ?_) (Nat.le_of_ble_eq_true rfl)
  simp only [List.mem_cons, List.not_mem_nil, or_false] at hz
  rcases hz with rfl | rfl
  · exact (nc_int hkk.1 hkk.2).le (by decide) (by decide)
  · refine nc_tup (w := 10) (n := 4) (fun z hz => ?_) (Nat.le_of_ble_eq_true rfl)
    simp only [List.mem_cons, List.not_mem_nil, or_false] at hz
    rcases hz with rfl | rfl | rfl | rfl
    · exact nc_int b1 (by omega)
    · exact nc_int (by omega) (by omega)
    · exact nc_int (by omega) (by omega)
    · rcases kr.f01 with e | e
      · exact nc_int (by dsimp only at e; omega) (by dsimp only at e; omega)
      · exact nc_int (by dsimp only at e; omega) (by dsimp only at e; omega)
theorem nc_laid {S : S13} (g : WF S) (h : S.laid.length ≤ 1000) : Nc 3 67000 (.lst S.laid) := (nc_lst (w := 66) (n := 1000) (fun x hx => (g.ld x hx).nc) h).le (by decide) (by decide)
theorem nc_told {a b c d : D} (h1 : Nc 3 67000 a) (h2 : Nc 3 67000 b) (h3 : Nc 3 67000 c) (h4 : Nc 3 67000 d) : ∃ p, pd (.lst [a, b, c, d]) = some p ∧ (∃ xs, p = .list xs ∨ p = .tuple xs) ∧ p.showable = true ∧ p.hasDict = false ∧ p.depth ≤ 64 ∧ p.shown.length ≤ sizeLine := by
  have h : Nc 64 1048576 (.lst [a, b, c, d]) := (nc_lst (w := 67000) (n := 4) (fun x hx => by
    simp only [List.mem_cons, List.not_mem_nil, or_false] at hx
    rcases hx with rfl | rfl | rfl | rfl <;> assumption) (Nat.le_of_ble_eq_true rfl)).le (by decide) (by decide)
  obtain ⟨p, e, np⟩ := h
  refine ⟨p, e, ?_, np.2.2.2.2.1, np.2.2.2.2.2, np.2.1, np_shown np⟩
  have e' : (pds [a, b, c, d]).map PyData.list = some p := e
  obtain ⟨xs, _, e2⟩ := Option.map_eq_some_iff.mp e'
  exact ⟨xs, .inl e2.symm⟩
end K13

set_option Elab.async false
set_option linter.all false
set_option maxRecDepth 100000
set_option maxHeartbeats 4000000
namespace K13
open PySem PySem.Spec L2 FM
open PyProof.Rows hiding St

theorem frU_ne {M : MH} {C : Addr} {S : S13} {p q l x : Addr} (h1 : x ≠ p) (h2 : x ≠ q) (h3 : x ≠ l) : frU M C S p q l x = M x := by
  unfold frU; rw [updM_ne h3, updM_ne h2, updM_ne h1]
structure Df (a c p q l p2 q2 l2 : Addr) : Prop where
  ac : a ≠ c
  ap : a ≠ p
  aq : a ≠ q
  al : a ≠ l
  ap2 : a ≠ p2
  aq2 : a ≠ q2
  al2 : a ≠ l2
  cp : c ≠ p
  cq : c ≠ q
  cl : c ≠ l
  cp2 : c ≠ p2
  cq2 : c ≠ q2
  cl2 : c ≠ l2
  pp2 : p ≠ p2
  pq2 : p ≠ q2
  pl2 : p ≠ l2
  qp2 : q ≠ p2
  qq2 : q ≠ q2
  ql2 : q ≠ l2
  lp2 : l ≠ p2
  lq2 : l ≠ q2
  ll2 : l ≠ l2
structure W4 (M : MH) (C a c p q l p2 q2 l2 : Addr) (m : MO) (S1 S2 : S13) (n : Nat) : Prop where
  ha : M a = some m
  dm : DrawM m
  f1 : At M C S1 p q l
  f2 : At M C S2 p2 q2 l2
  hc : M c = some (.lst [stD S1, stD S2])
  w1 : WF S1
  w2 : WF S2
  n1 : S1.laid.length ≤ n
  n2 : S2.laid.length ≤ n
section
variable {M M' : MH} {C a c p q l p2 q2 l2 : Addr} {m m' : MO} {S1 S2 S' : S13} {mv : D} {n : Nat}
theorem At.keep {x : Addr} {v : MO} (h : At M C S1 p q l) (h1 : p ≠ x) (h2 : q ≠ x) (h3 : l ≠ x) : At (updM M x v) C S1 p q l := ⟨by rw [updM_ne h1]; exact h.hp, by rw [updM_ne h2]; exact h.hq, by rw [updM_ne h3]; exact h.hl⟩
theorem W4.draw (h : W4 M C a c p q l p2 q2 l2 m S1 S2 n) (d : Df a c p q l p2 q2 l2) (dm : DrawM m') : W4 (updM M a m') C a c p q l p2 q2 l2 m' S1 S2 n :=
  ⟨updM_same, dm, h.f1.keep d.ap.symm d.aq.symm d.al.symm, h.f2.keep d.ap2.symm d.aq2.symm d.al2.symm, by rw [updM_ne d.ac.symm]; exact h.hc, h.w1, h.w2, h.n1, h.n2⟩
theorem W4.up (h : W4 M C a c p q l p2 q2 l2 m S1 S2 n) : W4 M C a c p q l p2 q2 l2 m S1 S2 (n + 1) := ⟨h.ha, h.dm, h.f1, h.f2, h.hc, h.w1, h.w2, Nat.le_succ_of_le h.n1, Nat.le_succ_of_le h.n2⟩
theorem W4.make1 (h : W4 M C a c p q l p2 q2 l2 m S1 S2 n) (d : Df a c p q l p2 q2 l2) (st : Step S1 mv S') (le : MLe (frU M C S' p q l) M') :
    M' c = some (.lst [stD S1, stD S2]) ∧ W4 (updM M' c (.lst [stD S', stD S2])) C a c p q l p2 q2 l2 m S' S2 (n + 1) := by
  have A := frU_at (M := M) (C := C) (S := S') h.f1.pq h.f1.pl h.f1.ql
  refine ⟨le _ _ (by rw [frU_ne d.cp d.cq d.cl]; exact h.hc), ?_, h.dm, ?_, ?_, updM_same, st.wf h.w1, h.w2, ?_, Nat.le_succ_of_le h.n2⟩
  · rw [updM_ne d.ac]; exact le _ _ (by rw [frU_ne d.ap d.aq d.al]; exact h.ha)
  · exact At.keep ⟨le _ _ A.hp, le _ _ A.hq, le _ _ A.hl⟩ d.cp.symm d.cq.symm d.cl.symm
  · refine At.keep ⟨le _ _ ?_, le _ _ ?_, le _ _ ?_⟩ d.cp2.symm d.cq2.symm d.cl2.symm
    · rw [frU_ne d.pp2.symm d.qp2.symm d.lp2.symm]; exact h.f2.hp
    · rw [frU_ne d.pq2.symm d.qq2.symm d.lq2.symm]; exact h.f2.hq
    · rw [frU_ne d.pl2.symm d.ql2.symm d.ll2.symm]; exact h.f2.hl
  · have := (st.good h.w1.g).2.2
    have := h.n1
    omega
theorem W4.make2 (h : W4 M C a c p q l p2 q2 l2 m S1 S2 n) (d : Df a c p q l p2 q2 l2) (st : Step S2 mv S') (le : MLe (frU M C S' p2 q2 l2) M') :
    M' c = some (.lst [stD S1, stD S2]) ∧ W4 (updM M' c (.lst [stD S1, stD S'])) C a c p q l p2 q2 l2 m S1 S' (n + 1) := by
  have A := frU_at (M := M) (C := C) (S := S') h.f2.pq h.f2.pl h.f2.ql
  refine ⟨le _ _ (by rw [frU_ne d.cp2 d.cq2 d.cl2]; exact h.hc), ?_, h.dm, ?_, ?_, updM_same, h.w1, st.wf h.w2, Nat.le_succ_of_le h.n1, ?_⟩
  · rw [updM_ne d.ac]; exact le _ _ (by rw [frU_ne d.ap2 d.aq2 d.al2]; exact h.ha)
  · refine At.keep ⟨le _ _ ?_, le _ _ ?_, le _ _ ?_⟩ d.cp.symm d.cq.symm d.cl.symm
    · rw [frU_ne d.pp2 d.pq2 d.pl2]; exact h.f1.hp
    · rw [frU_ne d.qp2 d.qq2 d.ql2]; exact h.f1.hq
    · rw [frU_ne d.lp2 d.lq2 d.ll2]; exact h.f1.hl
  · exact At.keep ⟨le _ _ A.hp, le _ _ A.hq, le _ _ A.hl⟩ d.cp2.symm d.cq2.symm d.cl2.symm
  · have := (st.good h.w2.g).2.2
    have := h.n2
    omega
abbrev tStand (C : Addr) (E : FM.DX) : TDS := (dIfS (dOr (dNot (dB (dCall (spOf (r_stands C)) [] E (dCons (dOp ixR' (dVar 8) (dC (.int 0))) (dCons (dOp ixR' (dVar 9) (dC (.int 0))) dNil))))) (dNot (dB (dCall (spOf (r_stands C)) [] E (dCons (dOp ixR' (dVar 8) (dC (.int 1))) (dCons (dOp ixR' (dVar 9) (dC (.int 1))) dNil)))))) (dRet (dC (.bl false))) dNx)
theorem call_stands {K : D → MH → Prop} (h : At M C S1 p q l) (w : WF S1) (hn : S1.laid.length ≤ 1000) (k : K (.bl true) M) : ∃ R, r_stands C [.ref p, stD S1] M R ∧ ∀ d M', R d M' → K d M' :=
  ⟨_, ⟨p, S1, q, l, rfl, h, w.g.len, w.laid hn, rfl⟩, fun d M' ⟨e1, e2⟩ => by subst e1 e2; exact k⟩
theorem stand2 {D : DEnds} {E : FM.DX} {x0 x1 x2 x3 x4 x5 x6 x7 x10 x11 x12 x13 : Option FM.D} (h : W4 M C a c p q l p2 q2 l2 m S1 S2 n) (hn : n ≤ 1000)
    (k : D.nx [x0, x1, x2, x3, x4, x5, x6, x7, some (.lst [.ref p, .ref p2]), some (.ref c), x10, x11, x12, x13] M) :
    tStand C E D [x0, x1, x2, x3, x4, x5, x6, x7, some (.lst [.ref p, .ref p2]), some (.ref c), x10, x11, x12, x13] M := by
  have hc := h.hc
  unfold tStand
  ((conv => whnf); (repeat ((first | rw [hc] | (refine andF ?_) | (refine andT ?_) | (refine And.intro (by first | exact rfl | exact Or.inr ⟨by decide, by decide⟩ | exact Or.inl ⟨by omega, by omega⟩ | exact ⟨by decide, by decide, by decide⟩ | exact ⟨by decide, by decide⟩ | decide | omega | assumption | (apply sz; simp; done) | exact tyC_l updM_same | exact tyC_l (by assumption) | exact tyC_d updM_same | exact tyC_d (by assumption)) ?_)); (conv => whnf))))
  refine call_stands h.f1 h.w1 (Nat.le_trans h.n1 hn) ?_
  ((conv => whnf); (repeat ((first | rw [hc] | (refine andF ?_) | (refine andT ?_) | (refine And.intro (by first | exact rfl | exact Or.inr ⟨by decide, by decide⟩ | exact Or.inl ⟨by omega, by omega⟩ | exact ⟨by decide, by decide, by decide⟩ | exact ⟨by decide, by decide⟩ | decide | omega | assumption | (apply sz; simp; done) | exact tyC_l updM_same | exact tyC_l (by assumption) | exact tyC_d updM_same | exact tyC_d (by assumption)) ?_)); (conv => whnf))))
  refine call_stands h.f2 h.w2 (Nat.le_trans h.n2 hn) ?_
  ((conv => whnf); (repeat ((first | (refine andF ?_) | (refine andT ?_) | (refine And.intro (by first | exact rfl | exact Or.inr ⟨by decide, by decide⟩ | exact Or.inl ⟨by omega, by omega⟩ | exact ⟨by decide, by decide, by decide⟩ | exact ⟨by decide, by decide⟩ | decide | omega | assumption | (apply sz; simp; done) | exact tyC_l updM_same | exact tyC_l (by assumption) | exact tyC_d updM_same | exact tyC_d (by assumption)) ?_)); (conv => whnf))))
  exact k
end
end K13

set_option Elab.async false
set_option linter.all false
set_option maxRecDepth 100000
set_option maxHeartbeats 4000000
namespace K13
open PySem PySem.Spec L2 FM
open PyProof.Rows hiding St

section
variable {M M' : MH} {C a c p q l p2 q2 l2 : Addr} {m m' : MO} {S1 S2 S' : S13} {mv : D} {n : Nat}
abbrev tTurn (C : Addr) (E : FM.DX) : TDS := (dIfS (dB (dOp gtR (dOp ixR' (dOp ixR' (dVar 9) (dVar 13)) (dC (.int 0))) (dC (.int 0)))) (dSeq (dSet 7 (dCall (spOf r_wise) [] E (dCons (dVar 1) (dCons (dOp ixR' (dVar 9) (dVar 13)) dNil))))
  (dSeq (dDrop (dMeth C "make" (spOf (r_make C)) [] E (dOp ixR' (dVar 8) (dVar 13)) (dCons (dVar 7) dNil)))
  (dAsg (dCall (spOf r_made) [] E (dCons (dOp ixR' (dVar 9) (dVar 13)) (dCons (dVar 7) dNil))) (dgSub (dVar 9) (dVar 13))))) dNx)
theorem turn0 {D : DEnds} {E : FM.DX} {x0 x2 x3 x4 x5 x6 x7 x10 x11 x12 : Option FM.D} (h : W4 M C a c p q l p2 q2 l2 m S1 S2 n) (d : Df a c p q l p2 q2 l2) (hn : n ≤ 990)
    (k : ∀ x7 M m S1 S2, W4 M C a c p q l p2 q2 l2 m S1 S2 (n + 1) → D.nx [x0, some (.ref a), x2, x3, x4, x5, x6, x7, some (.lst [.ref p, .ref p2]), some (.ref c), x10, x11, x12, some (.int 0)] M) :
    tTurn C E D [x0, some (.ref a), x2, x3, x4, x5, x6, x7, some (.lst [.ref p, .ref p2]), some (.ref c), x10, x11, x12, some (.int 0)] M := by
  have hc := h.hc
  unfold tTurn
  ((conv => whnf); (repeat ((first | rw [hc] | (refine andF ?_) | (refine andT ?_) | (refine And.intro (by first | exact rfl | exact Or.inr ⟨by decide, by decide⟩ | exact Or.inl ⟨by omega, by omega⟩ | exact ⟨by decide, by decide, by decide⟩ | exact ⟨by decide, by decide⟩ | decide | omega | assumption | (apply sz; simp; done) | exact tyC_l updM_same | exact tyC_l (by assumption) | exact tyC_d updM_same | exact tyC_d (by assumption)) ?_)); (conv => whnf))))
  refine ⟨fun hb => ?_, fun hb => ?_⟩
  · have hb : 0 < S1.top := dt hb
    ((conv => whnf); (repeat ((first | rw [hc] | (refine andF ?_) | (refine andT ?_) | (refine And.intro (by first | exact rfl | exact Or.inr ⟨by decide, by decide⟩ | exact Or.inl ⟨by omega, by omega⟩ | exact ⟨by decide, by decide, by decide⟩ | exact ⟨by decide, by decide⟩ | decide | omega | assumption | (apply sz; simp; done) | exact tyC_l updM_same | exact tyC_l (by assumption) | exact tyC_d updM_same | exact tyC_d (by assumption)) ?_)); (conv => whnf))))
    refine call_wise h.ha h.dm h.w1.g hb fun mv S' m' st dm' => ?_
    have h2 := h.draw d dm'
    have hc2 := h2.hc
    ((conv => whnf); (repeat ((first | (refine andF ?_) | (refine andT ?_) | (refine And.intro (by first | exact rfl | exact Or.inr ⟨by decide, by decide⟩ | exact Or.inl ⟨by omega, by omega⟩ | exact ⟨by decide, by decide, by decide⟩ | exact ⟨by decide, by decide⟩ | decide | omega | assumption | (apply sz; simp; done) | exact tyC_l updM_same | exact tyC_l (by assumption) | exact tyC_d updM_same | exact tyC_d (by assumption)) ?_)); (conv => whnf))))
    refine ⟨p, _, rfl, h2.f1.hp, rfl, ?_⟩
    ((conv => whnf); (repeat ((first | (refine andF ?_) | (refine andT ?_) | (refine And.intro (by first | exact rfl | exact Or.inr ⟨by decide, by decide⟩ | exact Or.inl ⟨by omega, by omega⟩ | exact ⟨by decide, by decide, by decide⟩ | exact ⟨by decide, by decide⟩ | decide | omega | assumption | (apply sz; simp; done) | exact tyC_l updM_same | exact tyC_l (by assumption) | exact tyC_d updM_same | exact tyC_d (by assumption)) ?_)); (conv => whnf))))
    refine ⟨_, ⟨p, S1, q, l, mv, S', rfl, h2.f1, h2.w1.g, by have := h2.n1; omega, st, rfl⟩, fun e M' ⟨e1, le⟩ => ?_⟩
    subst e1
    obtain ⟨hc3, h3⟩ := h2.make1 d st le
    ((conv => whnf); (repeat ((first | rw [hc3] | (refine andF ?_) | (refine andT ?_) | (refine And.intro (by first | exact rfl | exact Or.inr ⟨by decide, by decide⟩ | exact Or.inl ⟨by omega, by omega⟩ | exact ⟨by decide, by decide, by decide⟩ | exact ⟨by decide, by decide⟩ | decide | omega | assumption | (apply sz; simp; done) | exact tyC_l updM_same | exact tyC_l (by assumption) | exact tyC_d updM_same | exact tyC_d (by assumption)) ?_)); (conv => whnf))))
    refine ⟨_, ⟨S1, mv, S', rfl, st, by have := h2.w1.g.len; omega, by have := h2.n1; omega, rfl⟩, fun e M'' ⟨e1, e2⟩ => ?_⟩
    subst e1 e2
    ((conv => whnf); (repeat ((first | rw [hc3] | (refine andF ?_) | (refine andT ?_) | (refine And.intro (by first | exact rfl | exact Or.inr ⟨by decide, by decide⟩ | exact Or.inl ⟨by omega, by omega⟩ | exact ⟨by decide, by decide, by decide⟩ | exact ⟨by decide, by decide⟩ | decide | omega | assumption | (apply sz; simp; done) | exact tyC_l updM_same | exact tyC_l (by assumption) | exact tyC_d updM_same | exact tyC_d (by assumption)) ?_)); (conv => whnf))))
    exact k _ _ _ _ _ h3
  · ((conv => whnf); (repeat ((first | (refine andF ?_) | (refine andT ?_) | (refine And.intro (by first | exact rfl | exact Or.inr ⟨by decide, by decide⟩ | exact Or.inl ⟨by omega, by omega⟩ | exact ⟨by decide, by decide, by decide⟩ | exact ⟨by decide, by decide⟩ | decide | omega | assumption | (apply sz; simp; done) | exact tyC_l updM_same | exact tyC_l (by assumption) | exact tyC_d updM_same | exact tyC_d (by assumption)) ?_)); (conv => whnf))))
    exact k _ _ _ _ _ h.up
theorem turn1 {D : DEnds} {E : FM.DX} {x0 x2 x3 x4 x5 x6 x7 x10 x11 x12 : Option FM.D} (h : W4 M C a c p q l p2 q2 l2 m S1 S2 n) (d : Df a c p q l p2 q2 l2) (hn : n ≤ 990)
    (k : ∀ x7 M m S1 S2, W4 M C a c p q l p2 q2 l2 m S1 S2 (n + 1) → D.nx [x0, some (.ref a), x2, x3, x4, x5, x6, x7, some (.lst [.ref p, .ref p2]), some (.ref c), x10, x11, x12, some (.int 1)] M) :
    tTurn C E D [x0, some (.ref a), x2, x3, x4, x5, x6, x7, some (.lst [.ref p, .ref p2]), some (.ref c), x10, x11, x12, some (.int 1)] M := by
  have hc := h.hc
  unfold tTurn
  ((conv => whnf); (repeat ((first | rw [hc] | (refine andF ?_) | (refine andT ?_) | (refine And.intro (by first | exact rfl | exact Or.inr ⟨by decide, by decide⟩ | exact Or.inl ⟨by omega, by omega⟩ | exact ⟨by decide, by decide, by decide⟩ | exact ⟨by decide, by decide⟩ | decide | omega | assumption | (apply sz; simp; done) | exact tyC_l updM_same | exact tyC_l (by assumption) | exact tyC_d updM_same | exact tyC_d (by assumption)) ?_)); (conv => whnf))))
  refine ⟨fun hb => ?_, fun hb => ?_⟩
  · have hb : 0 < S2.top := dt hb
    ((conv => whnf); (repeat ((first | rw [hc] | (refine andF ?_) | (refine andT ?_) | (refine And.intro (by first | exact rfl | exact Or.inr ⟨by decide, by decide⟩ | exact Or.inl ⟨by omega, by omega⟩ | exact ⟨by decide, by decide, by decide⟩ | exact ⟨by decide, by decide⟩ | decide | omega | assumption | (apply sz; simp; done) | exact tyC_l updM_same | exact tyC_l (by assumption) | exact tyC_d updM_same | exact tyC_d (by assumption)) ?_)); (conv => whnf))))
    refine call_wise h.ha h.dm h.w2.g hb fun mv S' m' st dm' => ?_
    have h2 := h.draw d dm'
    have hc2 := h2.hc
    ((conv => whnf); (repeat ((first | (refine andF ?_) | (refine andT ?_) | (refine And.intro (by first | exact rfl | exact Or.inr ⟨by decide, by decide⟩ | exact Or.inl ⟨by omega, by omega⟩ | exact ⟨by decide, by decide, by decide⟩ | exact ⟨by decide, by decide⟩ | decide | omega | assumption | (apply sz; simp; done) | exact tyC_l updM_same | exact tyC_l (by assumption) | exact tyC_d updM_same | exact tyC_d (by assumption)) ?_)); (conv => whnf))))
    refine ⟨p2, _, rfl, h2.f2.hp, rfl, ?_⟩
    ((conv => whnf); (repeat ((first | (refine andF ?_) | (refine andT ?_) | (refine And.intro (by first | exact rfl | exact Or.inr ⟨by decide, by decide⟩ | exact Or.inl ⟨by omega, by omega⟩ | exact ⟨by decide, by decide, by decide⟩ | exact ⟨by decide, by decide⟩ | decide | omega | assumption | (apply sz; simp; done) | exact tyC_l updM_same | exact tyC_l (by assumption) | exact tyC_d updM_same | exact tyC_d (by assumption)) ?_)); (conv => whnf))))
    refine ⟨_, ⟨p2, S2, q2, l2, mv, S', rfl, h2.f2, h2.w2.g, by have := h2.n2; omega, st, rfl⟩, fun e M' ⟨e1, le⟩ => ?_⟩
    subst e1
    obtain ⟨hc3, h3⟩ := h2.make2 d st le
    ((conv => whnf); (repeat ((first | rw [hc3] | (refine andF ?_) | (refine andT ?_) | (refine And.intro (by first | exact rfl | exact Or.inr ⟨by decide, by decide⟩ | exact Or.inl ⟨by omega, by omega⟩ | exact ⟨by decide, by decide, by decide⟩ | exact ⟨by decide, by decide⟩ | decide | omega | assumption | (apply sz; simp; done) | exact tyC_l updM_same | exact tyC_l (by assumption) | exact tyC_d updM_same | exact tyC_d (by assumption)) ?_)); (conv => whnf))))
    refine ⟨_, ⟨S2, mv, S', rfl, st, by have := h2.w2.g.len; omega, by have := h2.n2; omega, rfl⟩, fun e M'' ⟨e1, e2⟩ => ?_⟩
    subst e1 e2
    ((conv => whnf); (repeat ((first | rw [hc3] | (refine andF ?_) | (refine andT ?_) | (refine And.intro (by first | exact rfl | exact Or.inr ⟨by decide, by decide⟩ | exact Or.inl ⟨by omega, by omega⟩ | exact ⟨by decide, by decide, by decide⟩ | exact ⟨by decide, by decide⟩ | decide | omega | assumption | (apply sz; simp; done) | exact tyC_l updM_same | exact tyC_l (by assumption) | exact tyC_d updM_same | exact tyC_d (by assumption)) ?_)); (conv => whnf))))
    exact k _ _ _ _ _ h3
  · ((conv => whnf); (repeat ((first | (refine andF ?_) | (refine andT ?_) | (refine And.intro (by first | exact rfl | exact Or.inr ⟨by decide, by decide⟩ | exact Or.inl ⟨by omega, by omega⟩ | exact ⟨by decide, by decide, by decide⟩ | exact ⟨by decide, by decide⟩ | decide | omega | assumption | (apply sz; simp; done) | exact tyC_l updM_same | exact tyC_l (by assumption) | exact tyC_d updM_same | exact tyC_d (by assumption)) ?_)); (conv => whnf))))
    exact k _ _ _ _ _ h.up
end
end K13

set_option Elab.async false
set_option linter.all false
set_option maxRecDepth 100000
set_option maxHeartbeats 4000000
namespace K13
open PySem PySem.Spec L2 FM
open PyProof.Rows hiding St

def r_law : SpR := fun ds M R => ∃ ns : List Int, ds = [.scr (ns.map D.int)] ∧ R = fun d M' => d = .bl true
theorem call_left {C p q l : Addr} {S : S13} {M : MH} {K : D → MH → Prop} (h : At M C S p q l) (hl : S.L.length ≤ 50) (k : ∀ d, IsLeft S.L d → K d M) : ∃ R, r_left C [.ref p] M R ∧ ∀ d M', R d M' → K d M' :=
  ⟨_, ⟨p, S, q, l, rfl, h, hl, rfl⟩, fun d M' ⟨e1, e2⟩ => by subst e2; exact k d e1⟩
theorem call_ledon {C p q l : Addr} {S : S13} {M : MH} {K : D → MH → Prop} (h : At M C S p q l) (k : K (.lst S.laid) M) : ∃ R, r_led_on C [.ref p] M R ∧ ∀ d M', R d M' → K d M' :=
  ⟨_, ⟨p, S, q, l, rfl, h, rfl⟩, fun d M' ⟨e1, e2⟩ => by subst e1 e2; exact k⟩
abbrev tl5 (C : Addr) (E : FM.DX) : TDS := t_law_5 C (spOf r_open) (spOf r_road) (spOf r_pull) (spOf r_some) (spOf (r_init C)) (spOf (r_make C)) (spOf (r_twin C)) (spOf (r_led_on C)) (spOf (r_left C)) (spOf r_wise) (spOf r_made) (spOf (r_stands C)) E
theorem law_5 {C a p q l : Addr} {S : S13} {m : MO} {M : MH} {Q : DQ} {E : FM.DX} {x0 x2 x3 x4 x7 : Option D} (hQ : ∀ M', Q (.bl true) M') (ha : M a = some m) (dm : DrawM m) (hal : a ≠ l) (h : At M C S p q l) (w : WF S) (hn : S.laid.length ≤ 100) :
    tl5 C E (fnEnds Q) [x0, some (.ref a), x2, x3, x4, some (stD S), some (.ref p), x7, none, none, none, none, none, none] M := by
  unfold tl5 t_law_5 t_law_9
  obtain ⟨T, hT⟩ : ∃ T, T = tTurn C E := ⟨_, rfl⟩
  have hT0 := hT
  unfold tTurn at hT0
  rw [← hT0]
  obtain ⟨U, hU⟩ : ∃ U, U = tStand C E := ⟨_, rfl⟩
  have hU0 := hU
  unfold tStand at hU0
  rw [← hU0]
  clear hT0 hU0
  ((conv => whnf); (repeat ((first | (refine andF ?_) | (refine andT ?_) | (refine And.intro (by first | exact rfl | exact Or.inr ⟨by decide, by decide⟩ | exact Or.inl ⟨by omega, by omega⟩ | exact ⟨by decide, by decide, by decide⟩ | exact ⟨by decide, by decide⟩ | decide | omega | assumption | (apply sz; simp; done) | exact tyC_l updM_same | exact tyC_l (by assumption) | exact tyC_d updM_same | exact tyC_d (by assumption)) ?_)); (conv => whnf))))
  refine ⟨p, _, rfl, h.hp, rfl, ?_⟩
  ((conv => whnf); (repeat ((first | (refine andF ?_) | (refine andT ?_) | (refine And.intro (by first | exact rfl | exact Or.inr ⟨by decide, by decide⟩ | exact Or.inl ⟨by omega, by omega⟩ | exact ⟨by decide, by decide, by decide⟩ | exact ⟨by decide, by decide⟩ | decide | omega | assumption | (apply sz; simp; done) | exact tyC_l updM_same | exact tyC_l (by assumption) | exact tyC_d updM_same | exact tyC_d (by assumption)) ?_)); (conv => whnf))))
  refine ⟨_, ⟨p, S, q, l, rfl, h, rfl⟩, fun d M2 ⟨p2, q2, l2, e1, h2, le, n1, n2, n3⟩ => ?_⟩
  subst e1
  ((conv => whnf); (repeat ((first | (refine andF ?_) | (refine andT ?_) | (refine And.intro (by first | exact rfl | exact Or.inr ⟨by decide, by decide⟩ | exact Or.inl ⟨by omega, by omega⟩ | exact ⟨by decide, by decide, by decide⟩ | exact ⟨by decide, by decide⟩ | decide | omega | assumption | (apply sz; simp; done) | exact tyC_l updM_same | exact tyC_l (by assumption) | exact tyC_d updM_same | exact tyC_d (by assumption)) ?_)); (conv => whnf))))
  intro c hc
  have ap : a ≠ p := fun e => by obtain ⟨xs, i, b, s, e3, _⟩ := dm; rw [e, h.hp, e3] at ha; cases ha
  have aq : a ≠ q := fun e => by obtain ⟨xs, i, b, s, e3, _⟩ := dm; rw [e, h.hq, e3] at ha; cases ha
  have kc : ∀ {x v}, M x = some v → x ≠ c := fun e => neM (le _ _ e) hc
  have d : Df a c p q l p2 q2 l2 := ⟨kc ha, ap, aq, hal, neM ha n1, neM ha n2, neM ha n3, (kc h.hp).symm, (kc h.hq).symm, (kc h.hl).symm, (neM h2.hp hc).symm, (neM h2.hq hc).symm, (neM h2.hl hc).symm,
    neM h.hp n1, neM h.hp n2, neM h.hp n3, neM h.hq n1, neM h.hq n2, neM h.hq n3, neM h.hl n1, neM h.hl n2, neM h.hl n3⟩
  have W0 : W4 (updM M2 c (.lst [stD S, stD S])) C a c p q l p2 q2 l2 m S S 100 :=
    ⟨by rw [updM_ne d.ac]; exact le _ _ ha, dm, At.keep ⟨le _ _ h.hp, le _ _ h.hq, le _ _ h.hl⟩ d.cp.symm d.cq.symm d.cl.symm, h2.keep d.cp2.symm d.cq2.symm d.cl2.symm, updM_same, w, w, hn, hn⟩
  generalize updM M2 c (.lst [stD S, stD S]) = M3 at W0
  clear le hc n1 n2 n3 kc h h2 ha dm
  ((conv => whnf); (repeat ((first | (refine andF ?_) | (refine andT ?_) | (refine And.intro (by first | exact rfl | exact Or.inr ⟨by decide, by decide⟩ | exact Or.inl ⟨by omega, by omega⟩ | exact ⟨by decide, by decide, by decide⟩ | exact ⟨by decide, by decide⟩ | decide | omega | assumption | (apply sz; simp; done) | exact tyC_l updM_same | exact tyC_l (by assumption) | exact tyC_d updM_same | exact tyC_d (by assumption)) ?_)); (conv => whnf))))
  refine ⟨p, _, rfl, W0.f1.hp, rfl, ?_⟩
  ((conv => whnf); (repeat ((first | (refine andF ?_) | (refine andT ?_) | (refine And.intro (by first | exact rfl | exact Or.inr ⟨by decide, by decide⟩ | exact Or.inl ⟨by omega, by omega⟩ | exact ⟨by decide, by decide, by decide⟩ | exact ⟨by decide, by decide⟩ | decide | omega | assumption | (apply sz; simp; done) | exact tyC_l updM_same | exact tyC_l (by assumption) | exact tyC_d updM_same | exact tyC_d (by assumption)) ?_)); (conv => whnf))))
  refine call_left W0.f1 w.g.len fun d1 i1 => ?_
  ((conv => whnf); (repeat ((first | (refine andF ?_) | (refine andT ?_) | (refine And.intro (by first | exact rfl | exact Or.inr ⟨by decide, by decide⟩ | exact Or.inl ⟨by omega, by omega⟩ | exact ⟨by decide, by decide, by decide⟩ | exact ⟨by decide, by decide⟩ | decide | omega | assumption | (apply sz; simp; done) | exact tyC_l updM_same | exact tyC_l (by assumption) | exact tyC_d updM_same | exact tyC_d (by assumption)) ?_)); (conv => whnf))))
  refine ⟨p, _, rfl, W0.f1.hp, rfl, ?_⟩
  ((conv => whnf); (repeat ((first | (refine andF ?_) | (refine andT ?_) | (refine And.intro (by first | exact rfl | exact Or.inr ⟨by decide, by decide⟩ | exact Or.inl ⟨by omega, by omega⟩ | exact ⟨by decide, by decide, by decide⟩ | exact ⟨by decide, by decide⟩ | decide | omega | assumption | (apply sz; simp; done) | exact tyC_l updM_same | exact tyC_l (by assumption) | exact tyC_d updM_same | exact tyC_d (by assumption)) ?_)); (conv => whnf))))
  refine call_ledon W0.f1 ?_
  ((conv => whnf); (repeat ((first | (refine andF ?_) | (refine andT ?_) | (refine And.intro (by first | exact rfl | exact Or.inr ⟨by decide, by decide⟩ | exact Or.inl ⟨by omega, by omega⟩ | exact ⟨by decide, by decide, by decide⟩ | exact ⟨by decide, by decide⟩ | decide | omega | assumption | (apply sz; simp; done) | exact tyC_l updM_same | exact tyC_l (by assumption) | exact tyC_d updM_same | exact tyC_d (by assumption)) ?_)); (conv => whnf))))
  refine ⟨p2, _, rfl, W0.f2.hp, rfl, ?_⟩
  ((conv => whnf); (repeat ((first | (refine andF ?_) | (refine andT ?_) | (refine And.intro (by first | exact rfl | exact Or.inr ⟨by decide, by decide⟩ | exact Or.inl ⟨by omega, by omega⟩ | exact ⟨by decide, by decide, by decide⟩ | exact ⟨by decide, by decide⟩ | decide | omega | assumption | (apply sz; simp; done) | exact tyC_l updM_same | exact tyC_l (by assumption) | exact tyC_d updM_same | exact tyC_d (by assumption)) ?_)); (conv => whnf))))
  refine call_left W0.f2 w.g.len fun d3 i3 => ?_
  ((conv => whnf); (repeat ((first | (refine andF ?_) | (refine andT ?_) | (refine And.intro (by first | exact rfl | exact Or.inr ⟨by decide, by decide⟩ | exact Or.inl ⟨by omega, by omega⟩ | exact ⟨by decide, by decide, by decide⟩ | exact ⟨by decide, by decide⟩ | decide | omega | assumption | (apply sz; simp; done) | exact tyC_l updM_same | exact tyC_l (by assumption) | exact tyC_d updM_same | exact tyC_d (by assumption)) ?_)); (conv => whnf))))
  refine ⟨p2, _, rfl, W0.f2.hp, rfl, ?_⟩
  ((conv => whnf); (repeat ((first | (refine andF ?_) | (refine andT ?_) | (refine And.intro (by first | exact rfl | exact Or.inr ⟨by decide, by decide⟩ | exact Or.inl ⟨by omega, by omega⟩ | exact ⟨by decide, by decide, by decide⟩ | exact ⟨by decide, by decide⟩ | decide | omega | assumption | (apply sz; simp; done) | exact tyC_l updM_same | exact tyC_l (by assumption) | exact tyC_d updM_same | exact tyC_d (by assumption)) ?_)); (conv => whnf))))
  refine call_ledon W0.f2 ?_
  obtain ⟨pp, e, g1, g2, g3, g4, g5⟩ := nc_told ((nc_left w i1).le (by decide) (by decide)) (nc_laid w (by omega)) ((nc_left w i3).le (by decide) (by decide)) (nc_laid w (by omega))
  have e' : ∀ M', pd (see M' (.lst [d1, .lst S.laid, d3, .lst S.laid])) = some pp := fun _ => e
  ((conv => whnf); (repeat ((first | rw [(e' _)] | (refine andF ?_) | (refine andT ?_) | (refine And.intro (by first | exact rfl | exact Or.inr ⟨by decide, by decide⟩ | exact Or.inl ⟨by omega, by omega⟩ | exact ⟨by decide, by decide, by decide⟩ | exact ⟨by decide, by decide⟩ | decide | omega | assumption | (apply sz; simp; done) | exact tyC_l updM_same | exact tyC_l (by assumption) | exact tyC_d updM_same | exact tyC_d (by assumption)) ?_)); (conv => whnf))))
  refine ⟨trivial, ?_⟩
  refine for_rng (fun i δ M' => ∃ x7 x12 x13 m S1 S2, δ = [x0, some (.ref a), x2, x3, x4, some (stD S), some (.ref p), x7, some (.lst [.ref p, .ref p2]), some (.ref c), some (.lst [d1, .lst S.laid, d3, .lst S.laid]), some (.str pp.shown), x12, x13] ∧ W4 M' C a c p q l p2 q2 l2 m S1 S2 (100 + i)) ?_ ?_ _ _ ⟨_, _, _, _, _, _, rfl, W0⟩
  · rintro i δ M' hi ⟨x7, x12, x13, m, S1, S2, rfl, h⟩ k hk
    have hi : i < 12 := hi
    ((conv => whnf); (repeat ((first | (refine andF ?_) | (refine andT ?_) | (refine And.intro (by first | exact rfl | exact Or.inr ⟨by decide, by decide⟩ | exact Or.inl ⟨by omega, by omega⟩ | exact ⟨by decide, by decide, by decide⟩ | exact ⟨by decide, by decide⟩ | decide | omega | assumption | (apply sz; simp; done) | exact tyC_l updM_same | exact tyC_l (by assumption) | exact tyC_d updM_same | exact tyC_d (by assumption)) ?_)); (conv => whnf))))
    refine call_pull h.ha h.dm (by decide) (by decide) fun n m' a0 a1 dm' => ?_
    have h2 := h.draw d dm'
    ((conv => whnf); (repeat ((first | (refine andF ?_) | (refine andT ?_) | (refine And.intro (by first | exact rfl | exact Or.inr ⟨by decide, by decide⟩ | exact Or.inl ⟨by omega, by omega⟩ | exact ⟨by decide, by decide, by decide⟩ | exact ⟨by decide, by decide⟩ | decide | omega | assumption | (apply sz; simp; done) | exact tyC_l updM_same | exact tyC_l (by assumption) | exact tyC_d updM_same | exact tyC_d (by assumption)) ?_)); (conv => whnf))))
    have hn01 : n = 0 ∨ n = 1 := by omega
    rcases hn01 with rfl | rfl
    · rw [hT]
      refine turn0 h2 d (by omega) fun x7 M m S1 S2 h3 => ?_
      rw [hU]
      refine stand2 h3 (by omega) ?_
      exact hk _ _ ⟨trivial, _, _, _, _, _, _, rfl, h3⟩
    · rw [hT]
      refine turn1 h2 d (by omega) fun x7 M m S1 S2 h3 => ?_
      rw [hU]
      refine stand2 h3 (by omega) ?_
      exact hk _ _ ⟨trivial, _, _, _, _, _, _, rfl, h3⟩
  · rintro δ M' ⟨x7, x12, x13, m, S1, S2, rfl, h⟩
    have es : decide (pp.shown = pp.shown) = true := decide_eq_true rfl
    ((conv => whnf); (repeat ((first | rw [(e' _)] | rw [es] | (refine andF ?_) | (refine andT ?_) | (refine And.intro (by first | exact rfl | exact Or.inr ⟨by decide, by decide⟩ | exact Or.inl ⟨by omega, by omega⟩ | exact ⟨by decide, by decide, by decide⟩ | exact ⟨by decide, by decide⟩ | decide | omega | assumption | (apply sz; simp; done) | exact tyC_l updM_same | exact tyC_l (by assumption) | exact tyC_d updM_same | exact tyC_d (by assumption)) ?_)); (conv => whnf))))
    exact hQ _
theorem m_law (C : Addr) : Meets (t_law C (spOf r_open) (spOf r_road) (spOf r_pull) (spOf r_some) (spOf (r_init C)) (spOf (r_make C)) (spOf (r_twin C)) (spOf (r_led_on C)) (spOf (r_left C)) (spOf r_wise) (spOf r_made) (spOf (r_stands C))) 14 (spOf r_law) := by
  rintro ds M Q E dn ⟨R, ⟨ns, rfl, rfl⟩, hQ⟩
  have hQ : ∀ M', Q (.bl true) M' := fun M' => hQ _ _ rfl
  have rest := fun a p q l S m M x0 x2 x3 x4 x7 => @law_5 C a p q l S m M Q E x0 x2 x3 x4 x7 hQ
  unfold t_law; obtain ⟨T, hT⟩ : ∃ T, T = tl5 C E := ⟨_, rfl⟩; unfold tl5 at rest hT; rw [← hT] at rest ⊢
  clear hT
  ((conv => whnf); (repeat ((first | (refine andF ?_) | (refine andT ?_) | (refine And.intro (by first | exact rfl | exact Or.inr ⟨by decide, by decide⟩ | exact Or.inl ⟨by omega, by omega⟩ | exact ⟨by decide, by decide, by decide⟩ | exact ⟨by decide, by decide⟩ | decide | omega | assumption | (apply sz; simp; done) | exact tyC_l updM_same | exact tyC_l (by assumption) | exact tyC_d updM_same | exact tyC_d (by assumption)) ?_)); (conv => whnf))))
  refine ⟨_, ⟨ns, rfl, rfl⟩, fun d M' ⟨a, m, e1, ha, dm, e2⟩ => ?_⟩
  subst e1 e2
  ((conv => whnf); (repeat ((first | (refine andF ?_) | (refine andT ?_) | (refine And.intro (by first | exact rfl | exact Or.inr ⟨by decide, by decide⟩ | exact Or.inl ⟨by omega, by omega⟩ | exact ⟨by decide, by decide, by decide⟩ | exact ⟨by decide, by decide⟩ | decide | omega | assumption | (apply sz; simp; done) | exact tyC_l updM_same | exact tyC_l (by assumption) | exact tyC_d updM_same | exact tyC_d (by assumption)) ?_)); (conv => whnf))))
  refine ⟨_, ⟨a, m, 30, 5, rfl, updM_same, dm, by decide, by decide, by decide, by decide, rfl⟩, fun d M' ⟨k, rs, m1, e1, h1, h2, h3, h4, dm1, e2⟩ => ?_⟩
  subst e1 e2
  rw [updM_updM]
  ((conv => whnf); (repeat ((first | (refine andF ?_) | (refine andT ?_) | (refine And.intro (by first | exact rfl | exact Or.inr ⟨by decide, by decide⟩ | exact Or.inl ⟨by omega, by omega⟩ | exact ⟨by decide, by decide, by decide⟩ | exact ⟨by decide, by decide⟩ | decide | omega | assumption | (apply sz; simp; done) | exact tyC_l updM_same | exact tyC_l (by assumption) | exact tyC_d updM_same | exact tyC_d (by assumption)) ?_)); (conv => whnf))))
  refine call_pull updM_same dm1 (by decide) (by decide) fun n0 m2 a0 a1 dm2 => ?_
  rw [updM_updM]
  ((conv => whnf); (repeat ((first | (refine andF ?_) | (refine andT ?_) | (refine And.intro (by first | exact rfl | exact Or.inr ⟨by decide, by decide⟩ | exact Or.inl ⟨by omega, by omega⟩ | exact ⟨by decide, by decide, by decide⟩ | exact ⟨by decide, by decide⟩ | decide | omega | assumption | (apply sz; simp; done) | exact tyC_l updM_same | exact tyC_l (by assumption) | exact tyC_d updM_same | exact tyC_d (by assumption)) ?_)); (conv => whnf))))
  refine ⟨_, ⟨a, m2, k, rs, n0, rfl, updM_same, dm2, h2, by omega, h4, a0, by omega, rfl⟩, fun d M' ⟨ms, S, m3, e1, hrun, hlm, dm3, e2⟩ => ?_⟩
  subst e1 e2
  rw [updM_updM]
  ((conv => whnf); (repeat ((first | (refine andF ?_) | (refine andT ?_) | (refine And.intro (by first | exact rfl | exact Or.inr ⟨by decide, by decide⟩ | exact Or.inl ⟨by omega, by omega⟩ | exact ⟨by decide, by decide, by decide⟩ | exact ⟨by decide, by decide⟩ | decide | omega | assumption | (apply sz; simp; done) | exact tyC_l updM_same | exact tyC_l (by assumption) | exact tyC_d updM_same | exact tyC_d (by assumption)) ?_)); (conv => whnf))))
  intro p hp
  refine ⟨_, ⟨p, k, rs, rfl, updM_same, by omega, by omega, by omega, h4, rfl⟩, fun d M1 ⟨e1, q, l, pq, pl, ql, hq, hl, e2⟩ => ⟨e1, ?_⟩⟩
  have hap : a ≠ p := fun e => by rw [← e, updM_same] at hp; cases hp
  have hal : a ≠ l := fun e => by rw [← e, updM_ne hap, updM_same] at hl; cases hl
  have haq : a ≠ q := fun e => by rw [← e, updM_ne hap, updM_same] at hq; cases hq
  have F1 : At M1 C (begunS k rs) p q l := by rw [e2]; exact frU_at pq pl ql
  have ha1 : M1 a = some m3 := by rw [e2, frU_ne hap haq hal, updM_ne hap, updM_same]
  have w0 := begun_wf h2 (by omega) h4
  clear e2 hp hq hl
  ((conv => whnf); (repeat ((first | (refine andF ?_) | (refine andT ?_) | (refine And.intro (by first | exact rfl | exact Or.inr ⟨by decide, by decide⟩ | exact Or.inl ⟨by omega, by omega⟩ | exact ⟨by decide, by decide, by decide⟩ | exact ⟨by decide, by decide⟩ | decide | omega | assumption | (apply sz; simp; done) | exact tyC_l updM_same | exact tyC_l (by assumption) | exact tyC_d updM_same | exact tyC_d (by assumption)) ?_)); (conv => whnf))))
  refine ⟨trivial, ?_⟩
  refine for_ind (fun r δ M' => ∃ S1 x7, δ = [some (.scr (ns.map D.int)), some (.ref a), some (.int k), some (.lst (rs.map rowD)), some (.lst ms), some (stD S), some (.ref p), x7, none, none, none, none, none, none] ∧ At M' C S1 p q l ∧ WF S1 ∧ Run S1 r S ∧ S1.laid.length + r.length ≤ 100 ∧ M' a = some m3) ?_ ?_ _ _ _ ⟨begunS k rs, none, rfl, F1, w0, hrun, by show 0 + ms.length ≤ 100; omega, ha1⟩
  · rintro x r δ M0 ⟨S1, x7, rfl, h, w, hr, hlen, hha⟩ k2 hk
    cases hr with
    | @cons _ S2 _ _ _ st hr =>
      rw [List.length_cons] at hlen
      ((conv => whnf); (repeat ((first | (refine andF ?_) | (refine andT ?_) | (refine And.intro (by first | exact rfl | exact Or.inr ⟨by decide, by decide⟩ | exact Or.inl ⟨by omega, by omega⟩ | exact ⟨by decide, by decide, by decide⟩ | exact ⟨by decide, by decide⟩ | decide | omega | assumption | (apply sz; simp; done) | exact tyC_l updM_same | exact tyC_l (by assumption) | exact tyC_d updM_same | exact tyC_d (by assumption)) ?_)); (conv => whnf))))
      refine ⟨p, _, rfl, h.hp, rfl, ?_⟩
      ((conv => whnf); (repeat ((first | (refine andF ?_) | (refine andT ?_) | (refine And.intro (by first | exact rfl | exact Or.inr ⟨by decide, by decide⟩ | exact Or.inl ⟨by omega, by omega⟩ | exact ⟨by decide, by decide, by decide⟩ | exact ⟨by decide, by decide⟩ | decide | omega | assumption | (apply sz; simp; done) | exact tyC_l updM_same | exact tyC_l (by assumption) | exact tyC_d updM_same | exact tyC_d (by assumption)) ?_)); (conv => whnf))))
      refine ⟨_, ⟨p, S1, q, l, x, S2, rfl, h, w.g, by omega, st, rfl⟩, fun d M' ⟨e1, le⟩ => ?_⟩
      have A := frU_at (M := M0) (C := C) (S := S2) h.pq h.pl h.ql
      refine hk _ _ ⟨trivial, S2, _, rfl, ⟨le _ _ A.hp, le _ _ A.hq, le _ _ A.hl⟩, st.wf w, hr, ?_, le _ _ (by rw [frU_ne hap haq hal]; exact hha)⟩
      have := (st.good w.g).2.2
      omega
  · rintro δ M' ⟨S1, x7, rfl, h, w, hr, hlen, hha⟩
    cases hr
    exact rest _ _ _ _ _ _ _ _ _ _ _ _ hha dm3 hal h w (by simpa using hlen)
end K13

set_option Elab.async false
set_option linter.all false
set_option maxRecDepth 100000
set_option maxHeartbeats 4000000
namespace K13
open PySem PySem.Spec L2 FM
open PyProof.Rows hiding St

theorem spl_r_open : SpLen (spOf r_open) 1 := by
  rintro ds M Q E ⟨R, h, _⟩
  unfold r_open at h
  repeat (obtain ⟨_, h⟩ := h)
  subst_vars
  rfl
theorem spl_r_pull : SpLen (spOf r_pull) 2 := by
  rintro ds M Q E ⟨R, h, _⟩
  unfold r_pull at h
  repeat (obtain ⟨_, h⟩ := h)
  subst_vars
  rfl
theorem spl_r_mating : SpLen (spOf r_mating) 2 := by
  rintro ds M Q E ⟨R, h, _⟩
  unfold r_mating at h
  repeat (obtain ⟨_, h⟩ := h)
  subst_vars
  rfl
theorem spl_r_road : SpLen (spOf r_road) 3 := by
  rintro ds M Q E ⟨R, h, _⟩
  unfold r_road at h
  repeat (obtain ⟨_, h⟩ := h)
  subst_vars
  rfl
theorem spl_r_first : SpLen (spOf r_first) 1 := by
  rintro ds M Q E ⟨R, h, _⟩
  unfold r_first at h
  repeat (obtain ⟨_, h⟩ := h)
  subst_vars
  rfl
theorem spl_r_begun : SpLen (spOf r_begun) 2 := by
  rintro ds M Q E ⟨R, h, _⟩
  unfold r_begun at h
  repeat (obtain ⟨_, h⟩ := h)
  subst_vars
  rfl
theorem spl_r_reach : SpLen (spOf r_reach) 2 := by
  rintro ds M Q E ⟨R, h, _⟩
  unfold r_reach at h
  repeat (obtain ⟨_, h⟩ := h)
  subst_vars
  rfl
theorem spl_r_less : SpLen (spOf r_less) 2 := by
  rintro ds M Q E ⟨R, h, _⟩
  unfold r_less at h
  repeat (obtain ⟨_, h⟩ := h)
  subst_vars
  rfl
theorem spl_r_any : SpLen (spOf r_any) 2 := by
  rintro ds M Q E ⟨R, h, _⟩
  unfold r_any at h
  repeat (obtain ⟨_, h⟩ := h)
  subst_vars
  rfl
theorem spl_r_shuffled : SpLen (spOf r_shuffled) 2 := by
  rintro ds M Q E ⟨R, h, _⟩
  unfold r_shuffled at h
  repeat (obtain ⟨_, h⟩ := h)
  subst_vars
  rfl
theorem spl_r_wise : SpLen (spOf r_wise) 2 := by
  rintro ds M Q E ⟨R, h, _⟩
  unfold r_wise at h
  repeat (obtain ⟨_, h⟩ := h)
  subst_vars
  rfl
theorem spl_r_leads : SpLen (spOf r_leads) 1 := by
  rintro ds M Q E ⟨R, h, _⟩
  unfold r_leads at h
  repeat (obtain ⟨_, h⟩ := h)
  subst_vars
  rfl
theorem spl_r_lead : SpLen (spOf r_lead) 3 := by
  rintro ds M Q E ⟨R, h, _⟩
  unfold r_lead at h
  repeat (obtain ⟨_, h⟩ := h)
  subst_vars
  rfl
theorem spl_r_more : SpLen (spOf r_more) 3 := by
  rintro ds M Q E ⟨R, h, _⟩
  unfold r_more at h
  repeat (obtain ⟨_, h⟩ := h)
  subst_vars
  rfl
theorem spl_r_made : SpLen (spOf r_made) 2 := by
  rintro ds M Q E ⟨R, h, _⟩
  unfold r_made at h
  repeat (obtain ⟨_, h⟩ := h)
  subst_vars
  rfl
theorem spl_r_some : SpLen (spOf r_some) 4 := by
  rintro ds M Q E ⟨R, h, _⟩
  unfold r_some at h
  repeat (obtain ⟨_, h⟩ := h)
  subst_vars
  rfl
theorem spl_r_needlen : SpLen (spOf r_needlen) 1 := by
  rintro ds M Q E ⟨R, h, _⟩
  unfold r_needlen at h
  repeat (obtain ⟨_, h⟩ := h)
  subst_vars
  rfl
theorem spl_r_ismating : SpLen (spOf r_ismating) 2 := by
  rintro ds M Q E ⟨R, h, _⟩
  unfold r_ismating at h
  repeat (obtain ⟨_, h⟩ := h)
  subst_vars
  rfl
theorem spl_r_needmat : SpLen (spOf r_needmat) 2 := by
  rintro ds M Q E ⟨R, h, _⟩
  unfold r_needmat at h
  repeat (obtain ⟨_, h⟩ := h)
  subst_vars
  rfl
theorem spl_r_back : SpLen (spOf r_back) 1 := by
  rintro ds M Q E ⟨R, h, _⟩
  unfold r_back at h
  repeat (obtain ⟨_, h⟩ := h)
  subst_vars
  rfl
theorem spl_r_begin (C : Addr) : SpLen (spOf (r_begin C)) 3 := by
  rintro ds M Q E ⟨R, h, _⟩
  unfold r_begin at h
  repeat (obtain ⟨_, h⟩ := h)
  subst_vars
  rfl
theorem spl_r_init (C : Addr) : SpLen (spOf (r_init C)) 3 := by
  rintro ds M Q E ⟨R, h, _⟩
  unfold r_init at h
  repeat (obtain ⟨_, h⟩ := h)
  subst_vars
  rfl
theorem spl_r_freach (C : Addr) : SpLen (spOf (r_freach C)) 2 := by
  rintro ds M Q E ⟨R, h, _⟩
  unfold r_freach at h
  repeat (obtain ⟨_, h⟩ := h)
  subst_vars
  rfl
theorem spl_r_mbare (C : Addr) : SpLen (spOf (r_mbare C)) 2 := by
  rintro ds M Q E ⟨R, h, _⟩
  unfold r_mbare at h
  repeat (obtain ⟨_, h⟩ := h)
  subst_vars
  rfl
theorem spl_r_put (C : Addr) : SpLen (spOf (r_put C)) 3 := by
  rintro ds M Q E ⟨R, h, _⟩
  unfold r_put at h
  repeat (obtain ⟨_, h⟩ := h)
  subst_vars
  rfl
theorem spl_r_midle (C : Addr) : SpLen (spOf (r_midle C)) 2 := by
  rintro ds M Q E ⟨R, h, _⟩
  unfold r_midle at h
  repeat (obtain ⟨_, h⟩ := h)
  subst_vars
  rfl
theorem spl_r_over : SpLen (spOf r_over) 1 := by
  rintro ds M Q E ⟨R, h, _⟩
  unfold r_over at h
  repeat (obtain ⟨_, h⟩ := h)
  subst_vars
  rfl
theorem spl_r_halved : SpLen (spOf r_halved) 1 := by
  rintro ds M Q E ⟨R, h, _⟩
  unfold r_halved at h
  repeat (obtain ⟨_, h⟩ := h)
  subst_vars
  rfl
theorem spl_r_mhalf (C : Addr) : SpLen (spOf (r_mhalf C)) 2 := by
  rintro ds M Q E ⟨R, h, _⟩
  unfold r_mhalf at h
  repeat (obtain ⟨_, h⟩ := h)
  subst_vars
  rfl
theorem spl_r_leddown : SpLen (spOf r_leddown) 3 := by
  rintro ds M Q E ⟨R, h, _⟩
  unfold r_leddown at h
  repeat (obtain ⟨_, h⟩ := h)
  subst_vars
  rfl
theorem spl_r_mled (C : Addr) : SpLen (spOf (r_mled C)) 4 := by
  rintro ds M Q E ⟨R, h, _⟩
  unfold r_mled at h
  repeat (obtain ⟨_, h⟩ := h)
  subst_vars
  rfl
theorem spl_r_mfold (C : Addr) : SpLen (spOf (r_mfold C)) 3 := by
  rintro ds M Q E ⟨R, h, _⟩
  unfold r_mfold at h
  repeat (obtain ⟨_, h⟩ := h)
  subst_vars
  rfl
theorem spl_r_make (C : Addr) : SpLen (spOf (r_make C)) 2 := by
  rintro ds M Q E ⟨R, h, _⟩
  unfold r_make at h
  repeat (obtain ⟨_, h⟩ := h)
  subst_vars
  rfl
theorem spl_r_twin (C : Addr) : SpLen (spOf (r_twin C)) 1 := by
  rintro ds M Q E ⟨R, h, _⟩
  unfold r_twin at h
  repeat (obtain ⟨_, h⟩ := h)
  subst_vars
  rfl
theorem spl_r_left (C : Addr) : SpLen (spOf (r_left C)) 1 := by
  rintro ds M Q E ⟨R, h, _⟩
  unfold r_left at h
  repeat (obtain ⟨_, h⟩ := h)
  subst_vars
  rfl
theorem spl_r_led_on (C : Addr) : SpLen (spOf (r_led_on C)) 1 := by
  rintro ds M Q E ⟨R, h, _⟩
  unfold r_led_on at h
  repeat (obtain ⟨_, h⟩ := h)
  subst_vars
  rfl
theorem spl_r_top (C : Addr) : SpLen (spOf (r_top C)) 1 := by
  rintro ds M Q E ⟨R, h, _⟩
  unfold r_top at h
  repeat (obtain ⟨_, h⟩ := h)
  subst_vars
  rfl
theorem spl_r_stands (C : Addr) : SpLen (spOf (r_stands C)) 2 := by
  rintro ds M Q E ⟨R, h, _⟩
  unfold r_stands at h
  repeat (obtain ⟨_, h⟩ := h)
  subst_vars
  rfl
theorem spl_r_law : SpLen (spOf r_law) 1 := by
  rintro ds M Q E ⟨R, h, _⟩
  unfold r_law at h
  repeat (obtain ⟨_, h⟩ := h)
  subst_vars
  rfl
theorem spl_r_like (k : Nat) : SpLen (spOf (r_like k)) 2 := by
  rintro ds M Q E ⟨R, ⟨d, rfl, _⟩, _⟩
  rfl
section
variable {P : Program} {w : World} {K : Frag} {mg : Str → Option Value} {base : Heap}

theorem cal_nev (W : Wd fa fn K mg) : Cal P w K mg base 0 "_law_like" (spOf (r_like 0)) := by
  obtain ⟨fd, F⟩ := W.c.def_ 38 (d := d_law_like) rfl
  have no : ∀ vs H Q E, ¬ upSp ⟨P, w, K⟩ (spOf (r_like 0)) vs H Q E := by
    rintro vs H Q E ⟨_, _, _, _, _, h⟩
    obtain ⟨R, ⟨d, _, h, _⟩, _⟩ := h
    exact h
  exact ⟨⟨_, fd, ["_law_found", "_law_due"], ⟨fun vs H Q E h => (no _ _ _ _ h).elim, fun A outer s H args us vs Q E _ _ _ _ h => (no _ _ _ _ h).elim⟩, W.glo 62, F.kp, (FunD.bindsN F fun _ _ _ _ _ _ us hl => match us, hl with | [_, _], _ => rfl)⟩, mono_spOf _⟩
theorem ok_all (W : Wd fa fn K mg) {fd : FuncData} (F : FunD K d_law.name d_law.qual d_law.params d_law.body d_law.scope (d_law.dvs K) (d_law.kws K) (He.fAd K d_law.at_) fd) (hR : Room 7 callerA) : FnOkG P w K mg base CX0 (He.fAd K d_law.at_) fd ["_law_script"] (upSp ⟨P, w, K⟩ (spOf r_law)) ∧ ∀ (s : Shared) (u : Value), BindsTo s fd ⟨[u], []⟩ [("_law_script", u)] := by
  have c_law_open := ok_law_open (P := P) (w := w) (base := base) W  (mono_spOf r_open) (spl_r_open) m_open
  have c_law_pull := ok_law_pull (P := P) (w := w) (base := base) W  (mono_spOf r_pull) (spl_r_pull) m_pull
  have c_law_mating := ok_law_mating (P := P) (w := w) (base := base) W c_law_pull (mono_spOf r_mating) (spl_r_mating) m_mating
  have c_law_road := ok_law_road (P := P) (w := w) (base := base) W c_law_pull c_law_mating (mono_spOf r_road) (spl_r_road) m_road
  have c_law_first := ok_law_first (P := P) (w := w) (base := base) W  (mono_spOf r_first) (spl_r_first) m_first
  have c_law_begun := ok_law_begun (P := P) (w := w) (base := base) W c_law_first (mono_spOf r_begun) (spl_r_begun) m_begun
  have c_law_reach := ok_law_reach (P := P) (w := w) (base := base) W  (mono_spOf r_reach) (spl_r_reach) m_reach
  have c_law_less := ok_law_less (P := P) (w := w) (base := base) W c_law_pull (mono_spOf r_less) (spl_r_less) m_less
  have c_law_any := ok_law_any (P := P) (w := w) (base := base) W c_law_pull (mono_spOf r_any) (spl_r_any) m_any
  have c_law_shuffled := ok_law_shuffled (P := P) (w := w) (base := base) W c_law_pull (mono_spOf r_shuffled) (spl_r_shuffled) m_shuffled
  have c_law_wise := ok_law_wise (P := P) (w := w) (base := base) W c_law_reach c_law_less c_law_any c_law_shuffled (mono_spOf r_wise) (spl_r_wise) m_wise
  have c_law_leads := ok_law_leads (P := P) (w := w) (base := base) W  (mono_spOf r_leads) (spl_r_leads) m_leads
  have c_law_lead := ok_law_lead (P := P) (w := w) (base := base) W c_law_first (mono_spOf r_lead) (spl_r_lead) m_lead
  have c_law_made_more := ok_law_made_more (P := P) (w := w) (base := base) W c_law_leads c_law_lead c_law_reach (mono_spOf r_more) (spl_r_more) m_more
  have c_law_made := ok_law_made (P := P) (w := w) (base := base) W c_law_reach c_law_made_more (mono_spOf r_made) (spl_r_made) m_made
  have c_law_some_moves := ok_law_some_moves (P := P) (w := w) (base := base) W c_law_begun c_law_wise c_law_made (mono_spOf r_some) (spl_r_some) m_some
  have c_need_length := ok_need_length (P := P) (w := w) (base := base) W  (mono_spOf r_needlen) (spl_r_needlen) m_needlen
  have c_is_mating := ok_is_mating (P := P) (w := w) (base := base) W  (mono_spOf r_ismating) (spl_r_ismating) m_ismating
  have c_need_matings := ok_need_matings (P := P) (w := w) (base := base) W c_need_length c_is_mating (mono_spOf r_needmat) (spl_r_needmat) m_needmat
  have c_back := ok_back (P := P) (w := w) (base := base) W  (mono_spOf r_back) (spl_r_back) m_back
  have c_normal := ok_normal (P := P) (w := w) (base := base) W c_back (mono_spOf r_first) (spl_r_first) m_normal
  have c_Front_begin := ok_Front_begin (P := P) (w := w) (base := base) W c_normal (mono_spOf (r_begin (He.ga K "Front"))) (spl_r_begin _) (m_begin _)
  have c_Front := ok_Front___init__ (P := P) (w := w) (base := base) W c_need_matings c_Front_begin (mono_spOf (r_init (He.ga K "Front"))) (spl_r_init _) (m_init _)
  have c_Front_reach := ok_Front_reach (P := P) (w := w) (base := base) W  (mono_spOf (r_freach (He.ga K "Front"))) (spl_r_freach _) (m_freach _)
  have c_Front_make_bare := ok_Front_make_bare (P := P) (w := w) (base := base) W c_Front_reach (mono_spOf (r_mbare (He.ga K "Front"))) (spl_r_mbare _) (m_mbare _)
  have c_Front_put := ok_Front_put (P := P) (w := w) (base := base) W c_normal (mono_spOf (r_put (He.ga K "Front"))) (spl_r_put _) (m_put _)
  have c_Front_make_idle := ok_Front_make_idle (P := P) (w := w) (base := base) W c_Front_put (mono_spOf (r_midle (He.ga K "Front"))) (spl_r_midle _) (m_midle _)
  have c_overlaps := ok_overlaps (P := P) (w := w) (base := base) W  (mono_spOf r_over) (spl_r_over) m_over
  have c_halved := ok_halved (P := P) (w := w) (base := base) W  (mono_spOf r_halved) (spl_r_halved) m_halved
  have c_Front_make_half := ok_Front_make_half (P := P) (w := w) (base := base) W c_overlaps c_halved c_Front_put (mono_spOf (r_mhalf (He.ga K "Front"))) (spl_r_mhalf _) (m_mhalf _)
  have c_leads := ok_leads (P := P) (w := w) (base := base) W c_overlaps (mono_spOf r_leads) (spl_r_leads) m_pleads
  have c_led_down := ok_led_down (P := P) (w := w) (base := base) W  (mono_spOf r_leddown) (spl_r_leddown) m_leddown
  have c_Front_make_led := ok_Front_make_led (P := P) (w := w) (base := base) W c_leads c_led_down c_Front_put (mono_spOf (r_mled (He.ga K "Front"))) (spl_r_mled _) (m_mled _)
  have c_Front_make_fold := ok_Front_make_fold (P := P) (w := w) (base := base) W c_leads c_Front_reach c_Front_put (mono_spOf (r_mfold (He.ga K "Front"))) (spl_r_mfold _) (m_mfold _)
  have c_Front_make := ok_Front_make (P := P) (w := w) (base := base) W c_Front_make_bare c_Front_make_idle c_Front_make_half c_Front_make_led c_Front_make_fold (mono_spOf (r_make (He.ga K "Front"))) (spl_r_make _) (m_make _)
  have c_Front_twin := ok_Front_twin (P := P) (w := w) (base := base) W c_Front (mono_spOf (r_twin (He.ga K "Front"))) (spl_r_twin _) (m_twin _)
  have c_Front_left := ok_Front_left (P := P) (w := w) (base := base) W  (mono_spOf (r_left (He.ga K "Front"))) (spl_r_left _) (m_left _)
  have c_Front_led_on := ok_Front_led_on (P := P) (w := w) (base := base) W  (mono_spOf (r_led_on (He.ga K "Front"))) (spl_r_led_on _) (m_led_on _)
  have c_law_like0 := cal_nev (P := P) (w := w) (base := base) W
  have c_law_like1 : Cal P w K mg base 1 "_law_like" (spOf (r_like 1)) := ok_law_like W c_law_like0 (mono_spOf _) (spl_r_like _) (m_like 0)
  have c_law_like2 : Cal P w K mg base 2 "_law_like" (spOf (r_like 2)) := ok_law_like W c_law_like1 (mono_spOf _) (spl_r_like _) (m_like 1)
  have c_law_like3 : Cal P w K mg base 3 "_law_like" (spOf (r_like 3)) := ok_law_like W c_law_like2 (mono_spOf _) (spl_r_like _) (m_like 2)
  have c_law_like4 : Cal P w K mg base 4 "_law_like" (spOf (r_like 4)) := ok_law_like W c_law_like3 (mono_spOf _) (spl_r_like _) (m_like 3)
  have c_law_like5 : Cal P w K mg base 5 "_law_like" (spOf (r_like 5)) := ok_law_like W c_law_like4 (mono_spOf _) (spl_r_like _) (m_like 4)
  have c_law_like := c_law_like5
  have c_Front_top := ok_Front_top (P := P) (w := w) (base := base) W  (mono_spOf (r_top (He.ga K "Front"))) (spl_r_top _) (m_top _)
  have c_law_stands := ok_law_stands (P := P) (w := w) (base := base) W c_Front_led_on c_Front_left c_Front_top c_law_like (mono_spOf (r_stands (He.ga K "Front"))) (spl_r_stands _) (m_stands _)
  exact ok_law W F c_law_open c_law_road c_law_pull c_law_some_moves c_Front c_Front_make c_Front_twin c_Front_led_on c_Front_left c_law_wise c_law_made c_law_stands spl_r_law (m_law _) hR
end
abbrev R : PySem.W.OpenRow := PySem.W.OpenLaw.row PySem.Challenge.rw_farmates_k13_fronts_go_their_own_way
abbrev qv : Program := PySem.W.view R.prog [44]
abbrev hk : PySem.W.Hook := He.hookD 6 fa fn
def ob (s : PySem.W.SharedT) : He.AlD := He.obsDG 6 fa fn (HandSHeadRun.getT s)
theorem ob_eq (s : PySem.W.SharedT) : ob s = hk.obs s.abs := He.obsDG_eq (HandSHeadRun.getT_eq s)
def names : List PySem.Str := (["_wall", "__name__", "FarError", "BadNumber", "BadMating", "BadMove", "Full", "FAR", "MOST", "need_length", "is_mating", "common", "back", "normal", "need_matings", "overlaps", "halved", "repeats", "merged", "leads", "led_down", "Front", "_law_open", "_law_pull", "_law_any", "_law_shuffled", "_law_like", "_law_mating", "_law_road", "_law_first"] : List PySem.Str) ++ (["_law_leads", "_law_reach", "_law_join_two", "_law_lead", "_law_made", "_law_made_more", "_law_begun", "_law_stands", "_law_less", "_law_wise", "_law_some_moves"] : List PySem.Str)
set_option maxHeartbeats 0 in
theorem run (w : World) : HandSHeadRun.RunEq R qv hk ob 4000 names w := by
  intro os
  kernel_rfl
theorem facts {P : Program} {w : World} {K : PySem.W.Frag} {h : Heap} {mg : Str → Option Value} {f : Addr} (X : K.In h) (G : h.Ns mainGlobals mg) (hfa : mg ("law" : Str) = some (.ref f)) (c : He.SaysD fa fn K) :
    ∃ fd : FuncData, (∀ (s : Shared) (v : Value), BindsTo s fd ⟨[v], []⟩ [("_law_script", v)]) ∧ ∀ base : Heap, K.In base → base.Ns mainGlobals mg → FnOkG P w K mg base CX0 f fd ["_law_script"] (upSp ⟨P, w, K⟩ (spOf r_law)) := by
  have W : Wd fa fn K mg := ⟨⟨h, X, G⟩, c⟩
  have e := hfa.symm.trans (W.glo 65)
  cases e
  have hr : Room 7 callerA := ⟨rfl, by decide, by decide⟩
  obtain ⟨fd, F⟩ := W.c.def_ 41 (d := d_law) rfl
  exact ⟨fd, (ok_all (P := P) (w := w) (base := h) W F hr).2, fun base _ _ => (ok_all (P := P) (w := w) (base := base) W F hr).1⟩
end K13
open PySem PySem.W PySem.Calls PyProof.Rows
theorem PySem.Challenge.cw_farmates_k13_fronts_go_their_own_way_holds : PySem.Challenge.rw_farmates_k13_fronts_go_their_own_way.Holds := by
  w_on; o_law
  refine HandSHeadRun.head_any (r := OpenLaw.row PySem.Challenge.rw_farmates_k13_fronts_go_their_own_way) (q := view (OpenLaw.row PySem.Challenge.rw_farmates_k13_fronts_go_their_own_way).prog [44]) (H := K13.hk) (ob := K13.ob) (M := 4000) (loose := K13.names) (d := HandSHeadRun.topDef (OpenLaw.row PySem.Challenge.rw_farmates_k13_fronts_go_their_own_way).prog 44) (kwd := []) K13.ob_eq
    (by kernel_rfl) (fun s => by kernel_rfl) K13.run (by kernel_rfl) (by kernel_rfl) (by kernel_rfl) (by rfl) (by first | assumption | decide +kernel) (by decide +kernel) ⟨rfl, rfl, rfl, rfl, rfl, by decide +kernel⟩ ?hw ?hc
  case hw => w_witness2
  case hc =>
    refine FM.walk_ofG (l := PySem.Challenge.rw_farmates_k13_fronts_go_their_own_way) (n := 63) (x := "_law_script") (CX := L2.CX0) rfl (by decide) (by kernel_rfl) ?F (fun _ _ _ _ z => z)
    intro w mg fa h Y G hmg0
    obtain ⟨K, KX, c⟩ := Y
    have hmg : mg ("law" : PySem.Str) = some (.ref fa) := by
      have e : (HandSHeadRun.topDef (OpenLaw.row PySem.Challenge.rw_farmates_k13_fronts_go_their_own_way).prog 44).name = ("law" : PySem.Str) := by kernel_rfl
      rw [← e]
      exact hmg0
    obtain ⟨fd, hb, hF⟩ := K13.facts (P := (PySem.Challenge.rw_farmates_k13_fronts_go_their_own_way).prog) (w := w) KX G hmg c
    exact ⟨K, fd, FM.upSp ⟨(PySem.Challenge.rw_farmates_k13_fronts_go_their_own_way).prog, w, K⟩ (FM.spOf K13.r_law), KX, hb, fun H a ns hl hO hS => FM.script_up (c := ⟨(PySem.Challenge.rw_farmates_k13_fronts_go_their_own_way).prog, w, K⟩) hO hS ⟨_, ⟨ns, rfl, rfl⟩, fun d M' e => e⟩ (FM.mono_spOf _), hF⟩

