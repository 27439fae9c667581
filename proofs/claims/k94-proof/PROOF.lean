import PyProof.Rows.All
import Wide.All
import OpenK.AllK
import Wide.FinOn
import HandS.ForMost
import HandS.ForSpec
import HandS.Style
import HandS.TupAny
import HandS.WideBits
import HandS.Deep
import HandS.IsInst
import HandS.Flow
import HandS.Lambda
import HandS.Head0
import HandS.Head1
import HandS.Head2
import HandS.HeadEnd
import HandS.HeadHook1
import HandS.HeadHook2
import HandS.HeadHook3
import HandS.HeadHook4
import HandS.EndTab
import HandS.HeadWalk
import KE.BitLaws
import KE.IntBitsLaws
import HandS.Zip
import KE.GoesEnum
import KE.KDictZip
import PySem.Challenge.RW_paperark_k94_forks
set_option Elab.async false
set_option linter.all false
set_option maxRecDepth 100000
/-! D-layer, part a: data, trees, worlds. -/
namespace DL
open PySem PySem.Spec PyProof.Rows L2

/-- data that never changes again -/
inductive D where
  | non | bl (b : Bool) | int (i : Int) | str (x : Str) | ref (a : Addr)
  | lst (ds : List D) | tup (ds : List D) | ro (ds : List D)
  | dK (ks : List (Key × D)) | dT (ks : List (List Key × D))
  | obj (C : Addr) (fs : List (Str × D))
/-- what a name holds: data, or an object of its own -/
inductive T where
  | val (d : D)
  | lst (ds : List D) | nst (ts : List T)
  | dK (ks : List (Key × D)) | dT (ks : List (List Key × D)) | nK (ks : List (Key × T))
  | obj (C : Addr) (fs : List (Str × T))

mutual
inductive RD (K : PySem.W.Frag) (G : Hp) : D → V → Prop
  | non : RD K G .non .non
  | bl (b : Bool) : RD K G (.bl b) (.bl b)
  | int (i : Int) : RD K G (.int i) (.int i)
  | str (x : Str) : RD K G (.str x) (.str x)
  | ref (a : Addr) : RD K G (.ref a) (.ref a)
  | lst {a : Addr} {ds : List D} {vs : List V} : G a = some (.lst vs) → RDs K G ds vs → RD K G (.lst ds) (.ref a)
  | ro {a : Addr} {ds : List D} {vs : List V} : SqL K G a vs → RDs K G ds vs → RD K G (.ro ds) (.ref a)
  | tup {a : Addr} {ds : List D} {vs : List V} : SqT K G a vs → RDs K G ds vs → RD K G (.tup ds) (.ref a)
  | dK {a : Addr} {ks : List (Key × D)} {kvs : List (Key × V)} : G a = some (.dK kvs) → RDk K G ks kvs → RD K G (.dK ks) (.ref a)
  | dT {a : Addr} {ks : List (List Key × D)} {kvs : List (List Key × V)} : G a = some (.dT kvs) → RDt K G ks kvs → RD K G (.dT ks) (.ref a)
  | obj {a C dx : Addr} {fs : List (Str × D)} {gs : List (Str × V)} : G a = some (.ins C dx gs) → RDf K G fs gs → RD K G (.obj C fs) (.ref a)
inductive RDs (K : PySem.W.Frag) (G : Hp) : List D → List V → Prop
  | nil : RDs K G [] []
  | cons {d : D} {v : V} {ds : List D} {vs : List V} : RD K G d v → RDs K G ds vs → RDs K G (d :: ds) (v :: vs)
inductive RDk (K : PySem.W.Frag) (G : Hp) : List (Key × D) → List (Key × V) → Prop
  | nil : RDk K G [] []
  | cons {k : Key} {d : D} {v : V} {ds : List (Key × D)} {vs : List (Key × V)} : RD K G d v → RDk K G ds vs → RDk K G ((k, d) :: ds) ((k, v) :: vs)
inductive RDt (K : PySem.W.Frag) (G : Hp) : List (List Key × D) → List (List Key × V) → Prop
  | nil : RDt K G [] []
  | cons {k : List Key} {d : D} {v : V} {ds : List (List Key × D)} {vs : List (List Key × V)} : RD K G d v → RDt K G ds vs → RDt K G ((k, d) :: ds) ((k, v) :: vs)
inductive RDf (K : PySem.W.Frag) (G : Hp) : List (Str × D) → List (Str × V) → Prop
  | nil : RDf K G [] []
  | cons {k : Str} {d : D} {v : V} {ds : List (Str × D)} {vs : List (Str × V)} : RD K G d v → RDf K G ds vs → RDf K G ((k, d) :: ds) ((k, v) :: vs)
end

theorem sqT_mono {K : PySem.W.Frag} {H H' : Hp} {a : Addr} {xs : List V} (e : Same H H') (h : SqT K H a xs) : SqT K H' a xs := by
  rcases h with (h | ⟨o, h⟩) | h
  · exact .inl (.inl (e _ _ h))
  · exact .inl (.inr ⟨o, e _ _ h⟩)
  · exact .inr h
section
variable {K : PySem.W.Frag} {G G' : Hp}
mutual
theorem RD.mono (s : Same G G') : ∀ {d : D} {v : V}, RD K G d v → RD K G' d v
  | _, _, .non => .non
  | _, _, .bl b => .bl b
  | _, _, .int i => .int i
  | _, _, .str x => .str x
  | _, _, .ref a => .ref a
  | _, _, .lst h r => .lst (s _ _ h) (RDs.mono s r)
  | _, _, .ro h r => .ro (s.seq h) (RDs.mono s r)
  | _, _, .tup h r => .tup (sqT_mono s h) (RDs.mono s r)
  | _, _, .dK h r => .dK (s _ _ h) (RDk.mono s r)
  | _, _, .dT h r => .dT (s _ _ h) (RDt.mono s r)
  | _, _, .obj h r => .obj (s _ _ h) (RDf.mono s r)
theorem RDs.mono (s : Same G G') : ∀ {d : List D} {v : List V}, RDs K G d v → RDs K G' d v
  | _, _, .nil => .nil
  | _, _, .cons h r => .cons (RD.mono s h) (RDs.mono s r)
theorem RDk.mono (s : Same G G') : ∀ {d : List (Key × D)} {v : List (Key × V)}, RDk K G d v → RDk K G' d v
  | _, _, .nil => .nil
  | _, _, .cons h r => .cons (RD.mono s h) (RDk.mono s r)
theorem RDt.mono (s : Same G G') : ∀ {d : List (List Key × D)} {v : List (List Key × V)}, RDt K G d v → RDt K G' d v
  | _, _, .nil => .nil
  | _, _, .cons h r => .cons (RD.mono s h) (RDt.mono s r)
theorem RDf.mono (s : Same G G') : ∀ {d : List (Str × D)} {v : List (Str × V)}, RDf K G d v → RDf K G' d v
  | _, _, .nil => .nil
  | _, _, .cons h r => .cons (RD.mono s h) (RDf.mono s r)
end
end

/-! ### trees: G the ground (frozen), H the heap, the last argument: the addresses of the tree's own objects -/
mutual
inductive RT (K : PySem.W.Frag) (G H : Hp) : T → V → List Addr → Prop
  | val {d : D} {v : V} : RD K G d v → RT K G H (.val d) v []
  | lst {a : Addr} {ds : List D} {vs : List V} : H a = some (.lst vs) → G a = none → RDs K G ds vs → RT K G H (.lst ds) (.ref a) [a]
  | dK {a : Addr} {ks : List (Key × D)} {kvs : List (Key × V)} : H a = some (.dK kvs) → G a = none → RDk K G ks kvs → RT K G H (.dK ks) (.ref a) [a]
  | dT {a : Addr} {ks : List (List Key × D)} {kvs : List (List Key × V)} : H a = some (.dT kvs) → G a = none → RDt K G ks kvs → RT K G H (.dT ks) (.ref a) [a]
  | nst {a : Addr} {ts : List T} {vs : List V} {fp : List Addr} : H a = some (.lst vs) → G a = none → RTs K G H ts vs fp → RT K G H (.nst ts) (.ref a) (a :: fp)
  | nK {a : Addr} {ks : List (Key × T)} {kvs : List (Key × V)} {fp : List Addr} : H a = some (.dK kvs) → G a = none → RTk K G H ks kvs fp → RT K G H (.nK ks) (.ref a) (a :: fp)
  | obj {a C dx : Addr} {fs : List (Str × T)} {gs : List (Str × V)} {fp : List Addr} : H a = some (.ins C dx gs) → G a = none → RTf K G H fs gs fp → RT K G H (.obj C fs) (.ref a) (a :: fp)
inductive RTs (K : PySem.W.Frag) (G H : Hp) : List T → List V → List Addr → Prop
  | nil : RTs K G H [] [] []
  | cons {t : T} {v : V} {ts : List T} {vs : List V} {f fp : List Addr} : RT K G H t v f → RTs K G H ts vs fp → RTs K G H (t :: ts) (v :: vs) (f ++ fp)
inductive RTk (K : PySem.W.Frag) (G H : Hp) : List (Key × T) → List (Key × V) → List Addr → Prop
  | nil : RTk K G H [] [] []
  | cons {k : Key} {t : T} {v : V} {ts : List (Key × T)} {vs : List (Key × V)} {f fp : List Addr} : RT K G H t v f → RTk K G H ts vs fp → RTk K G H ((k, t) :: ts) ((k, v) :: vs) (f ++ fp)
inductive RTf (K : PySem.W.Frag) (G H : Hp) : List (Str × T) → List (Str × V) → List Addr → Prop
  | nil : RTf K G H [] [] []
  | cons {k : Str} {t : T} {v : V} {ts : List (Str × T)} {vs : List (Str × V)} {f fp : List Addr} : RT K G H t v f → RTf K G H ts vs fp → RTf K G H ((k, t) :: ts) ((k, v) :: vs) (f ++ fp)
end

section
variable {K : PySem.W.Frag} {G G' H H' : Hp}
/-! the ground grows, the tree's own objects stand as they were -/
mutual
theorem RT.mono (s : Same G G') : ∀ {t : T} {v : V} {fp : List Addr}, RT K G H t v fp → (∀ a ∈ fp, H' a = H a ∧ G' a = none) → RT K G' H' t v fp
  | _, _, _, .val h, _ => .val (RD.mono s h)
  | _, _, _, .lst h g r, k => .lst ((k _ (List.mem_cons_self)).1.trans h) (k _ (List.mem_cons_self)).2 (RDs.mono s r)
  | _, _, _, .nst h g r, k => .nst ((k _ (List.mem_cons_self)).1.trans h) (k _ (List.mem_cons_self)).2 (RTs.mono s r fun a ha => k a (List.mem_cons_of_mem _ ha))
  | _, _, _, .dK h g r, k => .dK ((k _ (List.mem_cons_self)).1.trans h) (k _ (List.mem_cons_self)).2 (RDk.mono s r)
  | _, _, _, .nK h g r, k => .nK ((k _ (List.mem_cons_self)).1.trans h) (k _ (List.mem_cons_self)).2 (RTk.mono s r fun a ha => k a (List.mem_cons_of_mem _ ha))
  | _, _, _, .dT h g r, k => .dT ((k _ (List.mem_cons_self)).1.trans h) (k _ (List.mem_cons_self)).2 (RDt.mono s r)
  | _, _, _, .obj h g r, k => .obj ((k _ (List.mem_cons_self)).1.trans h) (k _ (List.mem_cons_self)).2 (RTf.mono s r fun a ha => k a (List.mem_cons_of_mem _ ha))
theorem RTs.mono (s : Same G G') : ∀ {t : List T} {v : List V} {fp : List Addr}, RTs K G H t v fp → (∀ a ∈ fp, H' a = H a ∧ G' a = none) → RTs K G' H' t v fp
  | _, _, _, .nil, _ => .nil
  | _, _, _, .cons h r, k => .cons (RT.mono s h fun a ha => k a (List.mem_append_left _ ha)) (RTs.mono s r fun a ha => k a (List.mem_append_right _ ha))
theorem RTk.mono (s : Same G G') : ∀ {t : List (Key × T)} {v : List (Key × V)} {fp : List Addr}, RTk K G H t v fp → (∀ a ∈ fp, H' a = H a ∧ G' a = none) → RTk K G' H' t v fp
  | _, _, _, .nil, _ => .nil
  | _, _, _, .cons h r, k => .cons (RT.mono s h fun a ha => k a (List.mem_append_left _ ha)) (RTk.mono s r fun a ha => k a (List.mem_append_right _ ha))
theorem RTf.mono (s : Same G G') : ∀ {t : List (Str × T)} {v : List (Str × V)} {fp : List Addr}, RTf K G H t v fp → (∀ a ∈ fp, H' a = H a ∧ G' a = none) → RTf K G' H' t v fp
  | _, _, _, .nil, _ => .nil
  | _, _, _, .cons h r, k => .cons (RT.mono s h fun a ha => k a (List.mem_append_left _ ha)) (RTf.mono s r fun a ha => k a (List.mem_append_right _ ha))
end
/-! a tree's own objects are tracked, and not of the ground -/
mutual
theorem RT.own : ∀ {t : T} {v : V} {fp : List Addr}, RT K G H t v fp → ∀ a ∈ fp, G a = none ∧ ∃ o, H a = some o ∧ ∀ ps, o ≠ .tbl ps
  | _, _, _, .val h, _, ha => nomatch ha
  | _, _, _, .lst h g r, a, ha => (List.mem_singleton.mp ha) ▸ ⟨g, _, h, fun _ z => nomatch z⟩
  | _, _, _, .nst h g r, a, ha => (List.mem_cons.mp ha).elim (fun e => by subst e; exact ⟨g, _, h, fun _ z => nomatch z⟩) (RTs.own r a)
  | _, _, _, .dK h g r, a, ha => (List.mem_singleton.mp ha) ▸ ⟨g, _, h, fun _ z => nomatch z⟩
  | _, _, _, .nK h g r, a, ha => (List.mem_cons.mp ha).elim (fun e => by subst e; exact ⟨g, _, h, fun _ z => nomatch z⟩) (RTk.own r a)
  | _, _, _, .dT h g r, a, ha => (List.mem_singleton.mp ha) ▸ ⟨g, _, h, fun _ z => nomatch z⟩
  | _, _, _, .obj h g r, a, ha => (List.mem_cons.mp ha).elim (fun e => by subst e; exact ⟨g, _, h, fun _ z => nomatch z⟩) (RTf.own r a)
theorem RTs.own : ∀ {t : List T} {v : List V} {fp : List Addr}, RTs K G H t v fp → ∀ a ∈ fp, G a = none ∧ ∃ o, H a = some o ∧ ∀ ps, o ≠ .tbl ps
  | _, _, _, .nil, _, ha => nomatch ha
  | _, _, _, .cons h r, a, ha => (List.mem_append.mp ha).elim (RT.own h a) (RTs.own r a)
theorem RTk.own : ∀ {t : List (Key × T)} {v : List (Key × V)} {fp : List Addr}, RTk K G H t v fp → ∀ a ∈ fp, G a = none ∧ ∃ o, H a = some o ∧ ∀ ps, o ≠ .tbl ps
  | _, _, _, .nil, _, ha => nomatch ha
  | _, _, _, .cons h r, a, ha => (List.mem_append.mp ha).elim (RT.own h a) (RTk.own r a)
theorem RTf.own : ∀ {t : List (Str × T)} {v : List (Str × V)} {fp : List Addr}, RTf K G H t v fp → ∀ a ∈ fp, G a = none ∧ ∃ o, H a = some o ∧ ∀ ps, o ≠ .tbl ps
  | _, _, _, .nil, _, ha => nomatch ha
  | _, _, _, .cons h r, a, ha => (List.mem_append.mp ha).elim (RT.own h a) (RTf.own r a)
end
end

/-! ### freezing -/
mutual
@[simp] def T.frz : T → D
  | .val d => d
  | .lst ds => .lst ds
  | .dK ks => .dK ks
  | .dT ks => .dT ks
  | .nst ts => .lst (frzs ts)
  | .nK ks => .dK (frzk ks)
  | .obj C fs => .obj C (frzf fs)
@[simp] def frzs : List T → List D
  | [] => []
  | t :: ts => t.frz :: frzs ts
def frzk : List (Key × T) → List (Key × D)
  | [] => []
  | (k, t) :: ts => (k, t.frz) :: frzk ts
def frzf : List (Str × T) → List (Str × D)
  | [] => []
  | (k, t) :: ts => (k, t.frz) :: frzf ts
end
section
variable {K : PySem.W.Frag} {G G' H : Hp}
mutual
theorem RT.frozen (s : Same G G') : ∀ {t : T} {v : V} {fp : List Addr}, RT K G H t v fp → (∀ a ∈ fp, G' a = H a) → RD K G' t.frz v
  | _, _, _, .val h, _ => RD.mono s h
  | _, _, _, .lst h g r, k => .lst ((k _ (List.mem_cons_self)).trans h) (RDs.mono s r)
  | _, _, _, .nst h g r, k => .lst ((k _ (List.mem_cons_self)).trans h) (RTs.frozen s r fun a ha => k a (List.mem_cons_of_mem _ ha))
  | _, _, _, .dK h g r, k => .dK ((k _ (List.mem_cons_self)).trans h) (RDk.mono s r)
  | _, _, _, .nK h g r, k => .dK ((k _ (List.mem_cons_self)).trans h) (RTk.frozen s r fun a ha => k a (List.mem_cons_of_mem _ ha))
  | _, _, _, .dT h g r, k => .dT ((k _ (List.mem_cons_self)).trans h) (RDt.mono s r)
  | _, _, _, .obj h g r, k => .obj ((k _ (List.mem_cons_self)).trans h) (RTf.frozen s r fun a ha => k a (List.mem_cons_of_mem _ ha))
theorem RTs.frozen (s : Same G G') : ∀ {t : List T} {v : List V} {fp : List Addr}, RTs K G H t v fp → (∀ a ∈ fp, G' a = H a) → RDs K G' (frzs t) v
  | _, _, _, .nil, _ => .nil
  | _, _, _, .cons h r, k => .cons (RT.frozen s h fun a ha => k a (List.mem_append_left _ ha)) (RTs.frozen s r fun a ha => k a (List.mem_append_right _ ha))
theorem RTk.frozen (s : Same G G') : ∀ {t : List (Key × T)} {v : List (Key × V)} {fp : List Addr}, RTk K G H t v fp → (∀ a ∈ fp, G' a = H a) → RDk K G' (frzk t) v
  | _, _, _, .nil, _ => .nil
  | _, _, _, .cons h r, k => .cons (RT.frozen s h fun a ha => k a (List.mem_append_left _ ha)) (RTk.frozen s r fun a ha => k a (List.mem_append_right _ ha))
theorem RTf.frozen (s : Same G G') : ∀ {t : List (Str × T)} {v : List (Str × V)} {fp : List Addr}, RTf K G H t v fp → (∀ a ∈ fp, G' a = H a) → RDf K G' (frzf t) v
  | _, _, _, .nil, _ => .nil
  | _, _, _, .cons h r, k => .cons (RT.frozen s h fun a ha => k a (List.mem_append_left _ ha)) (RTf.frozen s r fun a ha => k a (List.mem_append_right _ ha))
end
end

/-! ### slots, worlds -/
abbrev Env := List (Option T)
inductive RS (K : PySem.W.Frag) (G H : Hp) : L2.St → Env → List Addr → Prop
  | nil : RS K G H [] [] []
  | no {x : Option V} {σ : L2.St} {env : Env} {fp : List Addr} : RS K G H σ env fp → RS K G H (x :: σ) (none :: env) fp
  | yes {v : V} {t : T} {σ : L2.St} {env : Env} {f fp : List Addr} : RT K G H t v f → RS K G H σ env fp → RS K G H (some v :: σ) (some t :: env) (f ++ fp)
/-! ### tables of code objects in a frame: a mark stands for the table -/
def TabG (G H : Hp) (P : Addr) (q : Str) : Prop := ∃ ps : Array Value, H P = some (.tbl ps) ∧ TriplesOk ps.toList ∧ ∀ (pos : Pos) (cv : Value), codeAmong pos ps.toList = some cv → ∃ c, cv = .ref c ∧ G c = some (LamX.CodeO c q)
def markN (ps : Array Value) : Str := match ps.toList with
  | Value.str q _ :: _ => q
  | _ => ""
def mark (q : Str) : HO := .tbl #[.str q 0]
theorem markN_mark (q : Str) : markN #[.str q 0] = q := rfl
def FmOk (G H : Hp) (b : Addr) (o : HO) : Prop := match o with
  | .tbl ps => TabG G H b (markN ps)
  | o => H b = some o
theorem FmOk.there {G H : Hp} {b : Addr} {o : HO} (h : FmOk G H b o) : ∃ u, H b = some u := by
  cases o <;> first | exact ⟨_, h⟩ | exact ⟨_, h.choose_spec.1⟩
theorem FmOk.mono {G G' H H' : Hp} {b : Addr} {o : HO} (s : Same G G') (e : H' b = H b) (h : FmOk G H b o) : FmOk G' H' b o := by
  cases o <;> first
    | exact e.trans h
    | (obtain ⟨ps, h1, h2, h3⟩ := h
       exact ⟨ps, e.trans h1, h2, fun pos cv hc => let ⟨c, a1, a2⟩ := h3 pos cv hc; ⟨c, a1, s _ _ a2⟩⟩)
theorem FmOk.ne {G H : Hp} {b p : Addr} {o : HO} (h : FmOk G H b o) (hp : H p = none) : b ≠ p := fun z => by
  obtain ⟨u, hu⟩ := h.there
  rw [z, hp] at hu
  cases hu
theorem FmOk.eq {G H : Hp} {b : Addr} {o : HO} (h : FmOk G H b o) (n : ∀ ps, o ≠ .tbl ps) : H b = some o := by
  cases o <;> first | exact h | exact (n _ rfl).elim
/-- the tables of code objects that the frames hold -/
class Tabs where
  T : List (Addr × Str)
variable [Tabs]
/-- a world: the ground G, the frame Fm (what others hold), the slots σ as env tells them -/
structure Wd (K : PySem.W.Frag) (G Fm H : Hp) (σ : L2.St) (env : Env) : Prop where
  gh : Same G H
  fh : ∀ b o, Fm b = some o → FmOk G H b o
  gf : ∀ b o, Fm b = some o → G b = none
  tb : ∀ p ∈ Tabs.T, Fm p.1 = some (mark p.2)
  sl : ∃ fp, RS K G H σ env fp ∧ fp.Nodup ∧ ∀ a ∈ fp, Fm a = none
theorem Wd.fmFree {K : PySem.W.Frag} {G Fm H : Hp} {σ : L2.St} {env : Env} {p : Addr} (w : Wd K G Fm H σ env) (hp : H p = none) : Fm p = none := by
  cases q : Fm p with
  | none => rfl
  | some o => exact ((w.fh p o q).ne hp rfl).elim
end DL


/-! D-layer, part b: what can be done with worlds. -/
namespace DL
open PySem PySem.Spec PyProof.Rows L2
variable [Tabs]
section
variable {K : PySem.W.Frag} {G G' Fm H H' : Hp} {σ : L2.St} {env : Env} {v : V} {t : T} {d : D} {i : Nat}
theorem RS.mono (s : Same G G') : ∀ {σ : L2.St} {env : Env} {fp : List Addr}, RS K G H σ env fp → (∀ a ∈ fp, H' a = H a ∧ G' a = none) → RS K G' H' σ env fp
  | _, _, _, .nil, _ => .nil
  | _, _, _, .no r, k => .no (RS.mono s r k)
  | _, _, _, .yes h r, k => .yes (RT.mono s h fun a ha => k a (List.mem_append_left _ ha)) (RS.mono s r fun a ha => k a (List.mem_append_right _ ha))
theorem RS.own : ∀ {σ : L2.St} {env : Env} {fp : List Addr}, RS K G H σ env fp → ∀ a ∈ fp, G a = none ∧ ∃ o, H a = some o ∧ ∀ ps, o ≠ .tbl ps
  | _, _, _, .nil, _, ha => nomatch ha
  | _, _, _, .no r, a, ha => RS.own r a ha
  | _, _, _, .yes h r, a, ha => (List.mem_append.mp ha).elim (RT.own h a) (RS.own r a)
theorem RS.len : ∀ {σ : L2.St} {env : Env} {fp : List Addr}, RS K G H σ env fp → σ.length = env.length
  | _, _, _, .nil => rfl
  | _, _, _, .no r => congrArg (· + 1) (RS.len r)
  | _, _, _, .yes _ r => congrArg (· + 1) (RS.len r)
/-- the tree of slot i, taken out -/
theorem RS.out : ∀ {σ : L2.St} {env : Env} {fp : List Addr} {i : Nat} {t : T}, RS K G H σ env fp → env[i]? = some (some t) →
    ∃ v f fo, σ[i]? = some (some v) ∧ RT K G H t v f ∧ RS K G H σ (env.set i none) fo ∧ fp.Perm (f ++ fo)
  | _, _, _, i, t, .nil, e => by simp at e
  | _, _, _, 0, t, .no r, e => by simp at e
  | _, _, _, i + 1, t, .no r, e => by
    obtain ⟨v, f, fo, h1, h2, h3, h4⟩ := RS.out r (i := i) (by simpa using e)
    exact ⟨v, f, fo, by simpa using h1, h2, .no h3, h4⟩
  | _, _, _, 0, t, .yes (v := v) (f := f) (fp := fp) h r, e => by
    simp at e
    subst e
    exact ⟨v, f, fp, rfl, h, .no r, .refl _⟩
  | _, _, _, i + 1, t, .yes (f := f') h r, e => by
    obtain ⟨v, f, fo, h1, h2, h3, h4⟩ := RS.out r (i := i) (by simpa using e)
    refine ⟨v, f, f' ++ fo, by simpa using h1, h2, .yes h h3, ?_⟩
    refine (List.Perm.append_left f' h4).trans ?_
    rw [← List.append_assoc, ← List.append_assoc]
    exact List.Perm.append_right _ List.perm_append_comm
/-- a tree laid into slot i -/
theorem RS.inn : ∀ {σ : L2.St} {env : Env} {fp f : List Addr} {i : Nat} {v : V} {t : T}, RS K G H σ env fp → RT K G H t v f → i < env.length →
    ∃ fp', RS K G H (σ.set i (some v)) (env.set i (some t)) fp' ∧ (∀ a ∈ fp', a ∈ f ++ fp) ∧ ((f ++ fp).Nodup → fp'.Nodup)
  | _, _, _, f, i, v, t, .nil, _, e => by simp at e
  | _, _, _, f, 0, v, t, .no (fp := fp) r, h, e => ⟨f ++ fp, .yes h r, fun _ h => h, fun h => h⟩
  | _, _, _, f, i + 1, v, t, .no r, h, e => by
    obtain ⟨fp', h1, h2⟩ := RS.inn r h (i := i) (by simpa using e)
    exact ⟨fp', .no h1, h2⟩
  | _, _, _, f, 0, v, t, .yes (f := f1) (fp := fp) h1 r, h, e => by
    have sl : (f ++ fp).Sublist (f ++ (f1 ++ fp)) := List.Sublist.append_left (List.sublist_append_right f1 fp) f
    exact ⟨f ++ fp, .yes h r, fun _ h => sl.subset h, fun h => h.sublist sl⟩
  | _, _, _, f, i + 1, v, t, .yes (f := f1) (fp := fp) h1 r, h, e => by
    obtain ⟨fp', h2, h3, h4⟩ := RS.inn r h (i := i) (by simpa using e)
    have p : (f ++ (f1 ++ fp)).Perm (f1 ++ (f ++ fp)) := by
      rw [← List.append_assoc, ← List.append_assoc]
      exact List.Perm.append_right _ List.perm_append_comm
    refine ⟨f1 ++ fp', .yes h1 h2, fun a ha => ?_, fun nd => ?_⟩
    · refine p.mem_iff.mpr ?_
      rcases List.mem_append.mp ha with z | z
      · exact List.mem_append_left _ z
      · exact List.mem_append_right _ (h3 a z)
    · have nd1 := List.nodup_append.mp (p.nodup_iff.mp nd)
      exact List.nodup_append.mpr ⟨nd1.1, h4 nd1.2.1, fun a ha b hb => nd1.2.2 a ha b (h3 b hb)⟩
theorem RS.clear : ∀ {σ : L2.St} {env : Env} {fp : List Addr} (i : Nat), RS K G H σ env fp → ∃ fp', RS K G H σ (env.set i none) fp' ∧ List.Sublist fp' fp
  | _, _, _, i, .nil => ⟨[], .nil, .refl _⟩
  | _, _, _, 0, .no (fp := fp) r => ⟨fp, .no r, .refl _⟩
  | _, _, _, i + 1, .no r => let ⟨fp', h1, h2⟩ := RS.clear i r; ⟨fp', .no h1, h2⟩
  | _, _, _, 0, .yes (f := f) (fp := fp) h r => ⟨fp, .no r, List.sublist_append_right f fp⟩
  | _, _, _, i + 1, .yes (f := f) h r => let ⟨fp', h1, h2⟩ := RS.clear i r; ⟨f ++ fp', .yes h h1, List.Sublist.append_left h2 f⟩

theorem Wd.len (w : Wd K G Fm H σ env) : σ.length = env.length := let ⟨_, r, _⟩ := w.sl; r.len
theorem Wd.out (w : Wd K G Fm H σ env) (e : env[i]? = some (some t)) : ∃ v, σ[i]? = some (some v) ∧ Wd K G Fm H (some v :: σ) (some t :: env.set i none) := by
  obtain ⟨fp, r, nd, fr⟩ := w.sl
  obtain ⟨v, f, fo, h1, h2, h3, h4⟩ := r.out e
  exact ⟨v, h1, w.gh, w.fh, w.gf, w.tb, f ++ fo, .yes h2 h3, h4.nodup_iff.mp nd, fun a ha => fr a (h4.mem_iff.mpr ha)⟩
theorem Wd.inn (w : Wd K G Fm H (some v :: σ) (some t :: env)) (hi : i < env.length) : Wd K G Fm H (σ.set i (some v)) (env.set i (some t)) := by
  obtain ⟨fp, r, nd, fr⟩ := w.sl
  cases r with
  | yes h r =>
    obtain ⟨fp', h1, h2, h3⟩ := RS.inn r h hi
    exact ⟨w.gh, w.fh, w.gf, w.tb, fp', h1, h3 nd, fun a ha => fr a (h2 a ha)⟩
theorem set_self {α : Type} {l : List α} {x : α} {i : Nat} (e : l[i]? = some x) : l.set i x = l := by
  apply List.ext_getElem?
  intro j
  by_cases h : j = i
  · subst h
    have hl : j < l.length := (List.getElem?_eq_some_iff.mp e).1
    rw [List.getElem?_set_self hl, e]
  · rw [List.getElem?_set_ne (Ne.symm h)]
theorem Wd.back (w : Wd K G Fm H (some v :: σ) (some t :: env)) (e : σ[i]? = some (some v)) : Wd K G Fm H σ (env.set i (some t)) := by
  have hl : i < env.length := by
    have h1 := w.len
    have h2 := (List.getElem?_eq_some_iff.mp e).1
    simp at h1
    omega
  have h := w.inn hl
  rw [set_self e] at h
  exact h
theorem Wd.drop {x : Option V} {y : Option T} (w : Wd K G Fm H (x :: σ) (y :: env)) : Wd K G Fm H σ env := by
  obtain ⟨fp, r, nd, fr⟩ := w.sl
  cases r with
  | no r => exact ⟨w.gh, w.fh, w.gf, w.tb, _, r, nd, fr⟩
  | yes h r => exact ⟨w.gh, w.fh, w.gf, w.tb, _, r, (List.nodup_append.mp nd).2.1, fun a ha => fr a (List.mem_append_right _ ha)⟩
theorem Wd.clear (w : Wd K G Fm H σ env) (i : Nat) : Wd K G Fm H σ (env.set i none) := by
  obtain ⟨fp, r, nd, fr⟩ := w.sl
  obtain ⟨fp', h1, h2⟩ := r.clear i
  exact ⟨w.gh, w.fh, w.gf, w.tb, fp', h1, nd.sublist h2, fun a ha => fr a (h2.subset ha)⟩
/-- data in front -/
theorem Wd.front (w : Wd K G Fm H σ env) (r : RD K G d v) : Wd K G Fm H (some v :: σ) (some (.val d) :: env) := by
  obtain ⟨fp, q, nd, fr⟩ := w.sl
  exact ⟨w.gh, w.fh, w.gf, w.tb, [] ++ fp, .yes (.val r) q, nd, fr⟩
theorem Wd.nofront (w : Wd K G Fm H σ env) (x : Option V) : Wd K G Fm H (x :: σ) (none :: env) := by
  obtain ⟨fp, q, nd, fr⟩ := w.sl
  exact ⟨w.gh, w.fh, w.gf, w.tb, fp, .no q, nd, fr⟩
theorem Wd.rd (w : Wd K G Fm H σ env) (e : env[i]? = some (some (.val d))) : ∃ v, σ[i]? = some (some v) ∧ RD K G d v := by
  obtain ⟨fp, r, nd, fr⟩ := w.sl
  obtain ⟨v, f, fo, h1, h2, h3, h4⟩ := r.out e
  cases h2 with
  | val h => exact ⟨v, h1, h⟩
theorem Wd.set (w : Wd K G Fm H σ env) (r : RD K G d v) (hi : i < env.length) : Wd K G Fm H (σ.set i (some v)) (env.set i (some (.val d))) := (w.front r).inn hi
/-- the front tree is frozen -/
theorem Wd.freeze (w : Wd K G Fm H (some v :: σ) (some t :: env)) : ∃ G', Same G G' ∧ Wd K G' Fm H σ env ∧ RD K G' t.frz v := by
  obtain ⟨fp, r, nd, fr⟩ := w.sl
  cases r with
  | @yes _ _ _ _ f fo h r =>
    have ho := h.own
    have hG : Same G (fun b => if b ∈ f then H b else G b) := fun b o e => by
      show (if b ∈ f then H b else G b) = some o
      split
      · rename_i hb
        rw [(ho b hb).1] at e
        cases e
      · exact e
    have nd' := List.nodup_append.mp nd
    refine ⟨fun b => if b ∈ f then H b else G b, hG, ⟨fun b o e => ?_, fun b o e => (w.fh b o e).mono hG rfl, fun b o e => ?_, w.tb, fo, r.mono hG fun a ha => ⟨rfl, ?_⟩, nd'.2.1, fun a ha => fr a (List.mem_append_right _ ha)⟩, h.frozen hG fun a ha => if_pos ha⟩
    · have e' : (if b ∈ f then H b else G b) = some o := e
      split at e'
      · exact e'
      · exact w.gh b o e'
    · show (if b ∈ f then H b else G b) = none
      split
      · rename_i hb
        rw [fr b (List.mem_append_left _ hb)] at e
        cases e
      · exact w.gf b o e
    · show (if a ∈ f then H a else G a) = none
      rw [if_neg (fun z => nd'.2.2 a z a ha rfl)]
      exact (r.own a ha).1
/-- a new object in front, the items data -/
theorem Wd.fresh {p : Addr} {o : HO} (w : Wd K G Fm H σ env) (hp : H p = none) (h : ∀ {G' H' : Hp}, Same G G' → G' p = none → H' p = some o → RT K G' H' t (.ref p) [p]) : Wd K G Fm (upd H p o) (some (.ref p) :: σ) (some t :: env) := by
  obtain ⟨fp, r, nd, fr⟩ := w.sl
  have gp : G p = none := w.gh.free hp
  have fp' : Fm p = none := w.fmFree hp
  have np : ∀ a ∈ fp, a ≠ p := fun a ha e => by
    obtain ⟨_, o', ho, _⟩ := r.own a ha
    rw [e, hp] at ho
    cases ho
  refine ⟨fun b u e => ?_, fun b u e => ?_, w.gf, w.tb, [p] ++ fp, .yes (h (Same.refl G) gp upd_same) (r.mono (Same.refl G) fun a ha => ⟨upd_ne (np a ha), (r.own a ha).1⟩), ?_, fun a ha => ?_⟩
  · rw [upd_ne (ne_of_none (w.gh b u e) hp)]
    exact w.gh b u e
  · exact (w.fh b u e).mono (Same.refl G) (upd_ne ((w.fh b u e).ne hp))
  · exact List.nodup_cons.mpr ⟨fun hm => np p hm rfl, nd⟩
  · rcases List.mem_append.mp ha with h1 | h1
    · have e : a = p := by simpa using h1
      rw [e]
      exact fp'
    · exact fr a h1
/-- a new object of the ground -/
theorem Wd.laid {p : Addr} {o : HO} (w : Wd K G Fm H σ env) (hp : H p = none) : Wd K (upd G p o) Fm (upd H p o) σ env ∧ Same G (upd G p o) := by
  obtain ⟨fp, r, nd, fr⟩ := w.sl
  have gp : G p = none := w.gh.free hp
  have fpn : Fm p = none := w.fmFree hp
  have sG : Same G (upd G p o) := fun b u e => by
    rw [upd_ne (ne_of_none e gp)]
    exact e
  have np : ∀ a ∈ fp, a ≠ p := fun a ha e => by
    obtain ⟨_, o', ho, _⟩ := r.own a ha
    rw [e, hp] at ho
    cases ho
  refine ⟨⟨fun b u e => ?_, fun b u e => ?_, fun b u e => ?_, w.tb, fp, r.mono sG fun a ha => ⟨upd_ne (np a ha), ?_⟩, nd, fr⟩, sG⟩
  · by_cases hb : b = p
    · subst hb
      rw [upd_same] at e ⊢
      exact e
    · rw [upd_ne hb] at e ⊢
      exact w.gh b u e
  · exact (w.fh b u e).mono sG (upd_ne ((w.fh b u e).ne hp))
  · rw [upd_ne (ne_of_none e fpn)]
    exact w.gf b u e
  · rw [upd_ne (np a ha)]
    exact (r.own a ha).1
/-- the front tree's own root is written -/
theorem Wd.write {a : Addr} {t' : T} {o : HO} {f f' : List Addr} (w : Wd K G Fm H (some (.ref a) :: σ) (some t :: env)) (hr : RT K G H t (.ref a) (a :: f)) (hu : ∀ {t1 : T} {f1 : List Addr}, RT K G H t (.ref a) f1 → f1 = a :: f)
    (hf : ∀ b ∈ f', b ∈ f) (nd' : f'.Nodup) (h : RT K G (upd H a o) t' (.ref a) (a :: f')) : Wd K G Fm (upd H a o) (some (.ref a) :: σ) (some t' :: env) := by
  obtain ⟨fp, r, nd, fr⟩ := w.sl
  cases r with
  | @yes _ _ _ _ f0 fo h0 r =>
    have e0 : f0 = a :: f := hu (t1 := t) h0
    subst e0
    have ga : G a = none := (h0.own a List.mem_cons_self).1
    have fa : Fm a = none := fr a (List.mem_append_left _ List.mem_cons_self)
    have nd2 := List.nodup_append.mp nd
    have na : ∀ b ∈ fo, b ≠ a := fun b hb e => nd2.2.2 a List.mem_cons_self b hb e.symm
    refine ⟨fun b u e => ?_, fun b u e => ?_, w.gf, w.tb, (a :: f') ++ fo, .yes h (r.mono (Same.refl G) fun b hb => ⟨upd_ne (na b hb), (r.own b hb).1⟩), ?_, fun b hb => ?_⟩
    · rw [upd_ne (ne_of_none e ga)]
      exact w.gh b u e
    · exact (w.fh b u e).mono (Same.refl G) (upd_ne (ne_of_none e fa))
    · have nda := List.nodup_cons.mp nd2.1
      refine List.nodup_append.mpr ⟨List.nodup_cons.mpr ⟨fun z => nda.1 (hf _ z), nd'⟩, nd2.2.1, fun b hb c hc e => ?_⟩
      rcases List.mem_cons.mp hb with z | z
      · exact na c hc (by rw [← e, z])
      · exact nd2.2.2 b (List.mem_cons_of_mem _ (hf b z)) c hc e
    · rcases List.mem_append.mp hb with z | z
      · rcases List.mem_cons.mp z with z | z
        · rw [z]
          exact fa
        · exact fr b (List.mem_append_left _ (List.mem_cons_of_mem _ (hf b z)))
      · exact fr b (List.mem_append_right _ z)
end
end DL


/-! D-layer, part c: results, judgements, the first expressions. -/
namespace DL
open PySem PySem.Spec PyProof.Rows L2
variable [Tabs]
/-- an exception: its class, what it holds -/
structure Ex where
  C : Addr
  fs : Option (List (Str × D))
inductive R (α : Type) where
  | ok (a : α) (e : Env) | exc (x : Ex) (e : Env) | bad
namespace R
def bind {α β : Type} (r : R α) (k : α → Env → R β) : R β := match r with
  | .ok a e => k a e
  | .exc x e => .exc x e
  | .bad => .bad
def map {α β : Type} (r : R α) (f : α → β) : R β := match r with
  | .ok a e => .ok (f a) e
  | .exc x e => .exc x e
  | .bad => .bad
@[simp] theorem bind_ok {α β : Type} (a : α) (e : Env) (k : α → Env → R β) : (R.ok a e).bind k = k a e := rfl
@[simp] theorem bind_exc {α β : Type} (x : Ex) (e : Env) (k : α → Env → R β) : (R.exc x e : R α).bind k = .exc x e := rfl
@[simp] theorem bind_bad {α β : Type} (k : α → Env → R β) : (R.bad : R α).bind k = .bad := rfl
@[simp] theorem map_ok {α β : Type} (a : α) (e : Env) (f : α → β) : (R.ok a e).map f = .ok (f a) e := rfl
@[simp] theorem map_exc {α β : Type} (x : Ex) (e : Env) (f : α → β) : (R.exc x e : R α).map f = .exc x e := rfl
@[simp] theorem map_bad {α β : Type} (f : α → β) : (R.bad : R α).map f = .bad := rfl
/-- what may not be there -/
def lift {α : Type} (o : Option α) (e : Env) : R α := match o with
  | some a => .ok a e
  | none => .bad
@[simp] theorem lift_some {α : Type} (a : α) (e : Env) : R.lift (some a) e = .ok a e := rfl
@[simp] theorem lift_none {α : Type} (e : Env) : R.lift (none : Option α) e = .bad := rfl
end R
abbrev Gn (α : Type) := Env → R α

def ExOk (K : PySem.W.Frag) (G H : Hp) (x : Ex) (dd : Option Addr) : Prop := match x.fs with
  | none => dd = none
  | some l => ∃ d gs, dd = some d ∧ H d = some (.xd gs) ∧ RDf K G l gs
/-- from G on, with the frame Fm: the result r reaches P, an exception reaches W -/
def tR {α : Type} (K : PySem.W.Frag) (W : WX) (σ : L2.St) (G Fm : Hp) (r : R α) (P : α → Env → Hp → Hp → Prop) : Prop := match r with
  | .ok a e => ∀ G' H', Same G G' → P a e G' H'
  | .exc x e => ∀ G' H' dd, Same G G' → Wd K G' Fm H' σ e → ExOk K G' H' x dd → W (.ref x.C) dd σ H'
  | .bad => False
section
variable {α β : Type} {K : PySem.W.Frag} {W : WX} {σ : L2.St} {G G1 Fm : Hp}
theorem tR.mono {r : R α} {P : α → Env → Hp → Hp → Prop} (h : tR K W σ G Fm r P) (s : Same G G1) : tR K W σ G1 Fm r P := by
  cases r with
  | ok a e => exact fun G' H' s' => h G' H' (s.trans s')
  | exc x e => exact fun G' H' dd s' => h G' H' dd (s.trans s')
  | bad => exact h
theorem tR.imp {r : R α} {P P' : α → Env → Hp → Hp → Prop} (h : tR K W σ G Fm r P) (q : ∀ a e G' H', Same G G' → P a e G' H' → P' a e G' H') : tR K W σ G Fm r P' := by
  cases r with
  | ok a e => exact fun G' H' s' => q a e G' H' s' (h G' H' s')
  | exc x e => exact h
  | bad => exact h
theorem tR.bind {r : R α} {k : α → Env → R β} {P : β → Env → Hp → Hp → Prop} (h : tR K W σ G Fm (r.bind k) P) :
    tR K W σ G Fm r (fun a e G' H' => tR K W σ G' Fm (k a e) P) := by
  cases r with
  | ok a e =>
    intro G' H' s
    have h' : tR K W σ G Fm (k a e) P := h
    exact h'.mono s
  | exc x e => exact h
  | bad => exact h
theorem tR.map {r : R α} {f : α → β} {P : β → Env → Hp → Hp → Prop} (h : tR K W σ G Fm (r.map f) P) : tR K W σ G Fm r (fun a e G' H' => P (f a) e G' H') := by
  cases r with
  | ok a e => exact h
  | exc x e => exact h
  | bad => exact h
theorem tR.lift {o : Option α} {e : Env} {P : α → Env → Hp → Hp → Prop} (h : tR K W σ G Fm (R.lift o e) P) : ∃ a, o = some a ∧ ∀ G' H', Same G G' → P a e G' H' := by
  cases o with
  | none => exact h.elim
  | some a => exact ⟨a, rfl, h⟩
end

/-! ### the judgements -/
/-- data comes -/
def PD (K : PySem.W.Frag) (Fm : Hp) (σ : L2.St) (Q : VK) : D → Env → Hp → Hp → Prop := fun d e G H => ∀ v, Wd K G Fm H σ e → RD K G d v → Q v H
/-- a tree comes, in front -/
def PTr (K : PySem.W.Frag) (Fm : Hp) (σ : L2.St) (Q : VK) : T → Env → Hp → Hp → Prop := fun t e G H => ∀ v, Wd K G Fm H (some v :: σ) (some t :: e) → Q v H
def PB (K : PySem.W.Frag) (Fm : Hp) (σ : L2.St) (Q : Bool → Hp → Prop) : Bool → Env → Hp → Hp → Prop := fun b e G H => Wd K G Fm H σ e → Q b H
def PDs (K : PySem.W.Frag) (Fm : Hp) (σ : L2.St) (Q : List V → Hp → Prop) : List D → Env → Hp → Hp → Prop := fun ds e G H => ∀ vs, Wd K G Fm H σ e → RDs K G ds vs → Q vs H
/-- a value that is only looked at: data, or what a slot holds -/
inductive Vl where
  | d (d : D) | sl (i : Nat)
@[simp] def Vl.get (e : Env) : Vl → Option T
  | .d x => some (.val x)
  | .sl i => e[i]?.join
def RV (K : PySem.W.Frag) (G : Hp) (σ : L2.St) : Vl → V → Prop
  | .d d, v => RD K G d v
  | .sl i, v => σ[i]? = some (some v)
def PV (K : PySem.W.Frag) (Fm : Hp) (σ : L2.St) (Q : VK) : Vl → Env → Hp → Hp → Prop := fun l e G H => ∀ v, Wd K G Fm H σ e → RV K G σ l v → Q v H

def tDE (K : PySem.W.Frag) (W : WX) (g : Gn D) : TE := fun σ H Q => ∃ G Fm env, Wd K G Fm H σ env ∧ tR K W σ G Fm (g env) (PD K Fm σ Q)
def tOE (K : PySem.W.Frag) (W : WX) (g : Gn T) : TE := fun σ H Q => ∃ G Fm env, Wd K G Fm H σ env ∧ tR K W σ G Fm (g env) (PTr K Fm σ Q)
def tVE (K : PySem.W.Frag) (W : WX) (g : Gn Vl) : TE := fun σ H Q => ∃ G Fm env, Wd K G Fm H σ env ∧ tR K W σ G Fm (g env) (PV K Fm σ Q)
def tBE (K : PySem.W.Frag) (W : WX) (g : Gn Bool) : TT := fun σ H Q => ∃ G Fm env, Wd K G Fm H σ env ∧ tR K W σ G Fm (g env) (PB K Fm σ Q)
def tDA (K : PySem.W.Frag) (W : WX) (g : Gn (List D)) : TA := fun σ H Q => ∃ G Fm env, Wd K G Fm H σ env ∧ tR K W σ G Fm (g env) (PDs K Fm σ Q)
abbrev DE (X : Cx) (W : WX) (e : Expr) (g : Gn D) : Prop := PE X e (tDE X.K W g)
abbrev OE (X : Cx) (W : WX) (e : Expr) (g : Gn T) : Prop := PE X e (tOE X.K W g)
abbrev VE (X : Cx) (W : WX) (e : Expr) (g : Gn Vl) : Prop := PE X e (tVE X.K W g)
abbrev BE (X : Cx) (W : WX) (e : Expr) (g : Gn Bool) : Prop := PT X e (tBE X.K W g)
abbrev BW (X : Cx) (W : WX) (e : Expr) (g : Gn Bool) : Prop := PW X e (tBE X.K W g)
abbrev DA (X : Cx) (W : WX) (es : List Expr) (g : Gn (List D)) : Prop := PA X es (tDA X.K W g)

theorem PE.imp {X : Cx} {e : Expr} {t t' : TE} (h : PE X e t) (q : ∀ σ H Q, t' σ H Q → t σ H Q) : PE X e t' := ⟨fun pins s σ H Q I hw => h.run pins s σ H Q I (q σ H Q hw)⟩
theorem PT.imp {X : Cx} {e : Expr} {t t' : TT} (h : PT X e t) (q : ∀ σ H Q, t' σ H Q → t σ H Q) : PT X e t' := ⟨fun pins s σ H Q I hw => h.run pins s σ H Q I (q σ H Q hw)⟩
theorem PW.imp {X : Cx} {e : Expr} {t t' : TT} (h : PW X e t) (q : ∀ σ H Q, t' σ H Q → t σ H Q) : PW X e t' := ⟨fun wh pins s σ H Q I hw => h.run wh pins s σ H Q I (q σ H Q hw)⟩
theorem PA.imp {X : Cx} {es : List Expr} {t t' : TA} (h : PA X es t) (q : ∀ σ H Q, t' σ H Q → t σ H Q) : PA X es t' := ⟨fun pos pins s σ H Q I hw => h.run pos pins s σ H Q I (q σ H Q hw)⟩
theorem PS.imp {X : Cx} {st : Stmt} {t t' : TS} (h : PS X st t) (q : ∀ D σ H, t' D σ H → t D σ H) : PS X st t' := ⟨fun pins s σ H D I hw => h.run pins s σ H D I (q D σ H hw)⟩
theorem PSs.imp {X : Cx} {st : List Stmt} {t t' : TS} (h : PSs X st t) (q : ∀ D σ H, t' D σ H → t D σ H) : PSs X st t' := ⟨fun pins s σ H D I hw => h.run pins s σ H D I (q D σ H hw)⟩

section
variable {α : Type} {K : PySem.W.Frag} {W : WX} {σ : L2.St} {G Fm H : Hp} {env : Env} {P : α → Env → Hp → Hp → Prop}
/-- in a row: first an expression whose data comes, then the rest -/
theorem seqD {g : Gn D} {k : D → Env → R α} {Q : VK} (w : Wd K G Fm H σ env) (h : tR K W σ G Fm ((g env).bind k) P)
    (q : ∀ d e G1 H1 v, Same G G1 → Wd K G1 Fm H1 σ e → RD K G1 d v → tR K W σ G1 Fm (k d e) P → Q v H1) : tDE K W g σ H Q :=
  ⟨G, Fm, env, w, h.bind.imp fun d e G1 H1 s h1 v w1 r1 => q d e G1 H1 v s w1 r1 h1⟩
theorem seqV {g : Gn Vl} {k : Vl → Env → R α} {Q : VK} (w : Wd K G Fm H σ env) (h : tR K W σ G Fm ((g env).bind k) P)
    (q : ∀ d e G1 H1 v, Same G G1 → Wd K G1 Fm H1 σ e → RV K G1 σ d v → tR K W σ G1 Fm (k d e) P → Q v H1) : tVE K W g σ H Q :=
  ⟨G, Fm, env, w, h.bind.imp fun d e G1 H1 s h1 v w1 r1 => q d e G1 H1 v s w1 r1 h1⟩
theorem seqB {g : Gn Bool} {k : Bool → Env → R α} {Q : Bool → Hp → Prop} (w : Wd K G Fm H σ env) (h : tR K W σ G Fm ((g env).bind k) P)
    (q : ∀ b e G1 H1, Same G G1 → Wd K G1 Fm H1 σ e → tR K W σ G1 Fm (k b e) P → Q b H1) : tBE K W g σ H Q :=
  ⟨G, Fm, env, w, h.bind.imp fun b e G1 H1 s h1 w1 => q b e G1 H1 s w1 h1⟩
theorem seqDs {g : Gn (List D)} {k : List D → Env → R α} {Q : List V → Hp → Prop} (w : Wd K G Fm H σ env) (h : tR K W σ G Fm ((g env).bind k) P)
    (q : ∀ ds e G1 H1 vs, Same G G1 → Wd K G1 Fm H1 σ e → RDs K G1 ds vs → tR K W σ G1 Fm (k ds e) P → Q vs H1) : tDA K W g σ H Q :=
  ⟨G, Fm, env, w, h.bind.imp fun d e G1 H1 s h1 v w1 r1 => q d e G1 H1 v s w1 r1 h1⟩
theorem seqT {g : Gn T} {k : T → Env → R α} {Q : VK} (w : Wd K G Fm H σ env) (h : tR K W σ G Fm ((g env).bind k) P)
    (q : ∀ t e G1 H1 v, Same G G1 → Wd K G1 Fm H1 (some v :: σ) (some t :: e) → tR K W σ G1 Fm (k t e) P → Q v H1) : tOE K W g σ H Q :=
  ⟨G, Fm, env, w, h.bind.imp fun d e G1 H1 s h1 v w1 => q d e G1 H1 v s w1 h1⟩
end
theorem RV.mono {K : PySem.W.Frag} {G G' : Hp} {σ : L2.St} {l : Vl} {v : V} (s : Same G G') (h : RV K G σ l v) : RV K G' σ l v := by
  cases l with
  | d d => exact RD.mono s h
  | sl i => exact h
theorem RV.tree {K : PySem.W.Frag} {G Fm H : Hp} {σ : L2.St} {e : Env} {l : Vl} {v : V} {t : T} (w : Wd K G Fm H σ e) (h : RV K G σ l v) (q : l.get e = some t) : ∃ f, RT K G H t v f := by
  cases l with
  | d d =>
    have q' : T.val d = t := Option.some.inj q
    subst q'
    exact ⟨[], .val h⟩
  | sl i =>
    have q' : e[i]? = some (some t) := by
      have q1 : (e[i]?).join = some t := q
      revert q1
      cases e[i]? with
      | none => exact fun q1 => nomatch q1
      | some o => exact fun q1 => congrArg some q1
    obtain ⟨fp, r, nd, fr⟩ := w.sl
    obtain ⟨v', f, fo, h1, h2, h3, h4⟩ := r.out q'
    have h' : σ[i]? = some (some v) := h
    rw [h1] at h'
    cases h'
    exact ⟨f, h2⟩

/-! ### turning one into another -/
section
variable {X : Cx} {W : WX} {e : Expr} {pos : Pos}
@[simp] def gVd (g : Gn D) : Gn Vl := fun env => (g env).map Vl.d
theorem ve_de {g : Gn D} (h : DE X W e g) : VE X W e (gVd g) := PE.imp h fun σ H Q ⟨G, Fm, env, w, q⟩ => ⟨G, Fm, env, w, q.map⟩
@[simp] def gOd (g : Gn D) : Gn T := fun env => (g env).map T.val
theorem oe_de {g : Gn D} (h : DE X W e g) : OE X W e (gOd g) := PE.imp h fun σ H Q ⟨G, Fm, env, w, q⟩ => ⟨G, Fm, env, w, q.map.imp fun d e G' H' s h v w r => h v (w.front r)⟩
@[simp] def gFz (g : Gn T) : Gn D := fun env => (g env).map T.frz
theorem de_oe {g : Gn T} (h : OE X W e g) : DE X W e (gFz g) := PE.imp h fun σ H Q ⟨G, Fm, env, w, q⟩ => ⟨G, Fm, env, w, by
  have q := q.map
  cases hg : g env with
  | ok t e1 =>
    rw [hg] at q
    intro G' H' s v w'
    obtain ⟨G2, s2, w2, r2⟩ := w'.freeze
    exact q G2 H' (s.trans s2) v w2 r2
  | exc x e1 => rw [hg] at q; exact q
  | bad => rw [hg] at q; exact q⟩
@[simp] def gDB (g : Gn D) : Gn Bool := fun env => (g env).bind fun d e => match d with
  | .bl b => .ok b e
  | _ => .bad
/-- a bool as a test -/
theorem be_de {g : Gn D} (h : DE X W e g) (he : ∀ whole, isTrue e X.env whole = (do let v ← whole; standAt e.pos; holding [v] (truthy v)) := by intro _; rfl) : BE X W e (gDB g) :=
  PT.imp (pt_val h he) fun σ H Q ⟨G, Fm, env, w, q⟩ => seqD w q fun d e G1 H1 v s w1 r1 h1 => by
    cases d with
    | bl b => cases r1; exact ⟨b, rfl, h1 G1 H1 (Same.refl G1) w1⟩
    | _ => exact h1.elim

/-! ### constants, names -/
@[simp] def gC (d : D) : Gn D := fun env => .ok d env
theorem de_c {d : D} {v : V} (h : PE X e (tC v)) (r : ∀ G, RD X.K G d v) : DE X W e (gC d) := PE.imp h fun σ H Q ⟨G, Fm, env, w, q⟩ => q G H (Same.refl G) v w (r G)
theorem de_int {i : Int} {j} : DE X W (.Constant (.int i) j pos) (gC (.int i)) := de_c pe_int fun _ => .int i
theorem de_bl {b : Bool} {j} : DE X W (.Constant (.bool b) j pos) (gC (.bl b)) := de_c pe_bl fun _ => .bl b
theorem de_non {j} : DE X W (.Constant .none j pos) (gC .non) := de_c pe_non fun _ => .non
theorem de_str {x : Str} {j} : DE X W (.Constant (.str x) j pos) (gC (.str x)) := de_c pe_str fun _ => .str x
/-- a name that holds data -/
@[simp] def gVar (i : Nat) : Gn D := fun env => match env[i]? with
  | some (some (.val d)) => .ok d env
  | _ => .bad
theorem de_var {i : Nat} {x : Str} (h : PE X (.Name x pos) (tVar i)) : DE X W (.Name x pos) (gVar i) := PE.imp h fun σ H Q ⟨G, Fm, env, w, q⟩ => by
  have q : tR X.K W σ G Fm (match env[i]? with | some (some (.val d)) => .ok d env | _ => .bad) (PD X.K Fm σ Q) := q
  split at q
  · rename_i d hd
    obtain ⟨v, h1, h2⟩ := w.rd hd
    exact ⟨v, h1, q G H (Same.refl G) v w h2⟩
  · exact q.elim
/-- a name's own object, looked at -/
@[simp] def gOwn (i : Nat) : Gn Vl := fun env => match env[i]? with
  | some (some (.val _)) => .bad
  | some (some _) => .ok (.sl i) env
  | _ => .bad
theorem ve_own {i : Nat} {x : Str} (h : PE X (.Name x pos) (tVar i)) : VE X W (.Name x pos) (gOwn i) := PE.imp h fun σ H Q ⟨G, Fm, env, w, q⟩ => by
  have q : tR X.K W σ G Fm (match env[i]? with | some (some (.val _)) => .bad | some (some _) => .ok (.sl i) env | _ => .bad) (PV X.K Fm σ Q) := q
  split at q
  · exact q.elim
  · rename_i t _ ht
    obtain ⟨v, h1, _⟩ := w.out ht
    exact ⟨v, h1, q G H (Same.refl G) v w h1⟩
  · exact q.elim
/-- a name's own object frozen: from here on it is data -/
@[simp] def gFrz (i : Nat) : Gn D := fun env => match env[i]? with
  | some (some t) => .ok t.frz (env.set i (some (.val t.frz)))
  | _ => .bad
theorem de_frz {i : Nat} {x : Str} (h : PE X (.Name x pos) (tVar i)) : DE X W (.Name x pos) (gFrz i) := PE.imp h fun σ H Q ⟨G, Fm, env, w, q⟩ => by
  have q : tR X.K W σ G Fm (match env[i]? with | some (some t) => .ok t.frz (env.set i (some (.val t.frz))) | _ => .bad) (PD X.K Fm σ Q) := q
  split at q
  · rename_i t ht
    obtain ⟨v, h1, w1⟩ := w.out ht
    obtain ⟨G2, s2, w2, r2⟩ := w1.freeze
    have w3 := (w2.front r2).back h1
    rw [List.set_set] at w3
    exact ⟨v, h1, q G2 H s2 v w3 r2⟩
  · exact q.elim
/-- a name's own object handed on whole: the name holds nothing from here on -/
@[simp] def gMov (i : Nat) : Gn T := fun env => match env[i]? with
  | some (some t) => .ok t (env.set i none)
  | _ => .bad
theorem oe_mov {i : Nat} {x : Str} (h : PE X (.Name x pos) (tVar i)) : OE X W (.Name x pos) (gMov i) := PE.imp h fun σ H Q ⟨G, Fm, env, w, q⟩ => by
  have q : tR X.K W σ G Fm (match env[i]? with | some (some t) => .ok t (env.set i none) | _ => .bad) (PTr X.K Fm σ Q) := q
  split at q
  · rename_i t ht
    obtain ⟨v, h1, w1⟩ := w.out ht
    exact ⟨v, h1, q G H (Same.refl G) v w1⟩
  · exact q.elim
/-- a module's constant -/
theorem de_glob {x : Str} {d : D} {v : V} {u : Value} (hg : Gl X x) (hm : X.mg x = some u) (r : RelV v u) (rd : ∀ G, RD X.K G d v) (hd : (x == ("__debug__" : Str)) = false := by decide) : DE X W (.Name x pos) (gC d) := de_c (pe_glob hg hm r hd) rd
end
end DL


/-! D-layer, part d: operators, subscripts, built-ins. -/
namespace DL
open PySem PySem.Spec PyProof.Rows L2
variable [Tabs]
/-! ### lists of data and of values -/
section
variable {K : PySem.W.Frag} {G G' H : Hp}
theorem RDs.length : ∀ {ds : List D} {vs : List V}, RDs K G ds vs → ds.length = vs.length
  | _, _, .nil => rfl
  | _, _, .cons _ r => congrArg (· + 1) r.length
theorem RDs.get : ∀ {ds : List D} {vs : List V} {i : Nat} {d : D}, RDs K G ds vs → ds[i]? = some d → ∃ v, vs[i]? = some v ∧ RD K G d v
  | _, _, i, d, .nil, e => by simp at e
  | _, _, 0, d, .cons h r, e => by simp at e; subst e; exact ⟨_, rfl, h⟩
  | _, _, i + 1, d, .cons h r, e => by
    obtain ⟨v, h1, h2⟩ := r.get (i := i) (by simpa using e)
    exact ⟨v, by simpa using h1, h2⟩
theorem RDs.append : ∀ {ds es : List D} {vs us : List V}, RDs K G ds vs → RDs K G es us → RDs K G (ds ++ es) (vs ++ us)
  | _, _, _, _, .nil, q => q
  | _, _, _, _, .cons h r, q => .cons h (r.append q)
theorem RDs.take : ∀ {ds : List D} {vs : List V} (n : Nat), RDs K G ds vs → RDs K G (ds.take n) (vs.take n)
  | _, _, 0, _ => by simp; exact .nil
  | _, _, n + 1, .nil => .nil
  | _, _, n + 1, .cons h r => .cons h (r.take n)
theorem RDs.drop : ∀ {ds : List D} {vs : List V} (n : Nat), RDs K G ds vs → RDs K G (ds.drop n) (vs.drop n)
  | _, _, 0, q => q
  | _, _, n + 1, .nil => .nil
  | _, _, n + 1, .cons h r => r.drop n
theorem RDs.set {d : D} {v : V} (q : RD K G d v) : ∀ {ds : List D} {vs : List V} (i : Nat), RDs K G ds vs → RDs K G (ds.set i d) (vs.set i v)
  | _, _, _, .nil => .nil
  | _, _, 0, .cons h r => .cons q r
  | _, _, i + 1, .cons h r => .cons h (RDs.set q i r)
theorem RDs.reverse {ds : List D} {vs : List V} (h : RDs K G ds vs) : RDs K G ds.reverse vs.reverse := by
  induction ds generalizing vs with
  | nil => cases h; exact .nil
  | cons d ds ih =>
    cases h with
    | cons h r =>
      rw [List.reverse_cons, List.reverse_cons]
      exact (ih r).append (.cons h .nil)
theorem RDs.dropLast {ds : List D} {vs : List V} (h : RDs K G ds vs) : RDs K G ds.dropLast vs.dropLast := by
  have e1 : ds.dropLast = ds.take (ds.length - 1) := List.dropLast_eq_take
  have e2 : vs.dropLast = vs.take (vs.length - 1) := List.dropLast_eq_take
  rw [e1, e2, h.length]
  exact h.take _
theorem RDs.atI {ds : List D} {vs : List V} {i : Int} {d : D} (h : RDs K G ds vs) (e : L2.atI ds i = some d) : ∃ v, L2.atI vs i = some v ∧ RD K G d v := by
  unfold L2.atI at e ⊢
  rw [← h.length]
  cases z : L2.ixN ds.length i with
  | none => rw [z] at e; cases e
  | some j =>
    rw [z] at e
    exact h.get (i := j) e
theorem RDs.flat (h : RDs K G ds vs) : ∀ k : Nat, RDs K G (List.replicate k ds).flatten (List.replicate k vs).flatten
  | 0 => .nil
  | k + 1 => by
    rw [List.replicate_succ, List.replicate_succ, List.flatten_cons, List.flatten_cons]
    exact h.append (RDs.flat h k)
theorem RDs.ints {ns : List Int} {vs : List V} (h : RDs K G (ns.map D.int) vs) : vs = ns.map V.int := by
  induction ns generalizing vs with
  | nil => cases h; rfl
  | cons n ns ih =>
    cases h with
    | cons h r =>
      cases h
      rw [ih r]
      rfl
theorem RDs.mk_ints (ns : List Int) : RDs K G (ns.map D.int) (ns.map V.int) := by
  induction ns with
  | nil => exact .nil
  | cons n ns ih => exact .cons (.int n) ih
theorem RDs.mk_strs (ns : List Str) : RDs K G (ns.map D.str) (ns.map V.str) := by
  induction ns with
  | nil => exact .nil
  | cons n ns ih => exact .cons (.str n) ih
theorem RDs.strs {ns : List Str} {vs : List V} (h : RDs K G (ns.map D.str) vs) : vs = ns.map V.str := by
  induction ns generalizing vs with
  | nil => cases h; rfl
  | cons n ns ih =>
    cases h with
    | cons h r =>
      cases h
      rw [ih r]
      rfl
theorem RDs.bls {ns : List Bool} {vs : List V} (h : RDs K G (ns.map D.bl) vs) : vs = ns.map V.bl := by
  induction ns generalizing vs with
  | nil => cases h; rfl
  | cons n ns ih =>
    cases h with
    | cons h r =>
      cases h
      rw [ih r]
      rfl
end
theorem sqL_mono {K : PySem.W.Frag} {H H' : Hp} {a : Addr} {xs : List V} (e : Same H H') (h : SqL K H a xs) : SqL K H' a xs := e.seq h
/-! ### trees read as lists -/
@[simp] def T.seqL : T → Option (List D)
  | .val (.lst ds) => some ds
  | .val (.ro ds) => some ds
  | .lst ds => some ds
  | _ => none
@[simp] def T.seqM : T → Option (List D)
  | .val (.lst ds) => some ds
  | .lst ds => some ds
  | _ => none
@[simp] def T.seqT : T → Option (List D)
  | .val (.tup ds) => some ds
  | _ => none
section
variable {K : PySem.W.Frag} {G Fm H : Hp} {σ : L2.St} {env : Env} {t : T} {v : V} {f : List Addr} {ds : List D}
theorem RT.seqL (s : Same G H) (h : RT K G H t v f) (e : t.seqL = some ds) : ∃ a vs, v = .ref a ∧ SqL K H a vs ∧ RDs K G ds vs := by
  cases h with
  | val r =>
    cases r with
    | lst h r => cases (Option.some.inj e); exact ⟨_, _, rfl, .inl (.inl (s _ _ h)), r⟩
    | ro h r => cases (Option.some.inj e); exact ⟨_, _, rfl, s.seq h, r⟩
    | _ => cases e
  | lst h g r => cases (Option.some.inj e); exact ⟨_, _, rfl, .inl (.inl h), r⟩
  | _ => cases e
theorem RT.seqM (s : Same G H) (h : RT K G H t v f) (e : t.seqM = some ds) : ∃ a vs, v = .ref a ∧ H a = some (.lst vs) ∧ RDs K G ds vs := by
  cases h with
  | val r =>
    cases r with
    | lst h r => cases (Option.some.inj e); exact ⟨_, _, rfl, s _ _ h, r⟩
    | _ => cases e
  | lst h g r => cases (Option.some.inj e); exact ⟨_, _, rfl, h, r⟩
  | _ => cases e
theorem RT.seqT (s : Same G H) (h : RT K G H t v f) (e : t.seqT = some ds) : ∃ a vs, v = .ref a ∧ SqT K H a vs ∧ RDs K G ds vs := by
  cases h with
  | val r =>
    cases r with
    | tup h r => cases (Option.some.inj e); exact ⟨_, _, rfl, sqT_mono s h, r⟩
    | _ => cases e
  | _ => cases e
end
/-! ### operations by values -/
/-- a pure operation on data -/
def PureOp (K : PySem.W.Frag) (r : R2) (f : D → D → Option D) : Prop := ∀ (G H : Hp) (d1 d2 : D) (x y : V) (d : D) (Q : VK), Same G H → RD K G d1 x → RD K G d2 y → f d1 d2 = some d → (∀ v, RD K G d v → Q v H) → r x y H Q
/-- an operation that looks at two things -/
def LookOp (K : PySem.W.Frag) (r : R2) (f : T → T → Option D) : Prop := ∀ (G H : Hp) (t u : T) (x y : V) (fa fb : List Addr) (d : D) (Q : VK), Same G H → RT K G H t x fa → RT K G H u y fb → f t u = some d → (∀ v, RD K G d v → Q v H) → r x y H Q
/-- an operation that makes something -/
def MakeOp (K : PySem.W.Frag) (r : R2) (f : T → T → Option T) : Prop := ∀ (G Fm H : Hp) (σ : L2.St) (e : Env) (t u : T) (x y : V) (fa fb : List Addr) (z : T) (Q : VK), Wd K G Fm H σ e → RT K G H t x fa → RT K G H u y fb → f t u = some z →
  (∀ G' H' v, Same G G' → Wd K G' Fm H' (some v :: σ) (some z :: e) → Q v H') → r x y H Q
@[simp] def gBin (f : D → D → Option D) (a b : Gn D) : Gn D := fun env => (a env).bind fun x e1 => (b e1).bind fun y e2 => .lift (f x y) e2
@[simp] def gLook (f : T → T → Option D) (a b : Gn Vl) : Gn D := fun env => (a env).bind fun x e1 => (b e1).bind fun y e2 => .lift ((x.get e2).bind fun t => (y.get e2).bind fun u => f t u) e2
@[simp] def gMake (f : T → T → Option T) (a b : Gn Vl) : Gn T := fun env => (a env).bind fun x e1 => (b e1).bind fun y e2 => .lift ((x.get e2).bind fun t => (y.get e2).bind fun u => f t u) e2
theorem bind_some {α β : Type} {o : Option α} {k : α → Option β} {b : β} (h : o.bind k = some b) : ∃ a, o = some a ∧ k a = some b := by
  cases o with
  | none => cases h
  | some a => exact ⟨a, rfl, h⟩
section
variable {X : Cx} {W : WX} {a b : Expr} {pos : Pos} {ga gb : Gn D} {va vb : Gn Vl}
theorem tOp_bin {r : R2} {f : D → D → Option D} (hp : PureOp X.K r f) {σ : L2.St} {H : Hp} {Q : VK} (h : tDE X.K W (gBin f ga gb) σ H Q) : tOp r (tDE X.K W ga) (tDE X.K W gb) σ H Q := by
  obtain ⟨G, Fm, env, w, q⟩ := h
  refine seqD w q fun d1 e1 G1 H1 x s1 w1 r1 q1 => seqD w1 q1 fun d2 e2 G2 H2 y s2 w2 r2 q2 => ?_
  obtain ⟨d, hd, q3⟩ := q2.lift
  exact hp G2 H2 d1 d2 x y d Q w2.gh (r1.mono s2) r2 hd fun v r => q3 G2 H2 (Same.refl G2) v w2 r
theorem tOp_look {r : R2} {f : T → T → Option D} (hp : LookOp X.K r f) {σ : L2.St} {H : Hp} {Q : VK} (h : tDE X.K W (gLook f va vb) σ H Q) : tOp r (tVE X.K W va) (tVE X.K W vb) σ H Q := by
  obtain ⟨G, Fm, env, w, q⟩ := h
  refine seqV w q fun d1 e1 G1 H1 x s1 w1 r1 q1 => seqV w1 q1 fun d2 e2 G2 H2 y s2 w2 r2 q2 => ?_
  obtain ⟨d, hd, q3⟩ := q2.lift
  obtain ⟨t, ht, hd⟩ := bind_some hd
  obtain ⟨u, hu, hd⟩ := bind_some hd
  obtain ⟨fa, ra⟩ := (r1.mono s2).tree w2 ht
  obtain ⟨fb, rb⟩ := r2.tree w2 hu
  exact hp G2 H2 t u x y fa fb d Q w2.gh ra rb hd fun v r => q3 G2 H2 (Same.refl G2) v w2 r
theorem tOp_make {r : R2} {f : T → T → Option T} (hp : MakeOp X.K r f) {σ : L2.St} {H : Hp} {Q : VK} (h : tOE X.K W (gMake f va vb) σ H Q) : tOp r (tVE X.K W va) (tVE X.K W vb) σ H Q := by
  obtain ⟨G, Fm, env, w, q⟩ := h
  refine seqV w q fun d1 e1 G1 H1 x s1 w1 r1 q1 => seqV w1 q1 fun d2 e2 G2 H2 y s2 w2 r2 q2 => ?_
  obtain ⟨z, hd, q3⟩ := q2.lift
  obtain ⟨t, ht, hd⟩ := bind_some hd
  obtain ⟨u, hu, hd⟩ := bind_some hd
  obtain ⟨fa, ra⟩ := (r1.mono s2).tree w2 ht
  obtain ⟨fb, rb⟩ := r2.tree w2 hu
  exact hp G2 Fm H2 σ e2 t u x y fa fb z Q w2 ra rb hd fun G' H' v s w3 => q3 G' H' s v w3
theorem de_bin {op : Operator} {r : R2} {f : D → D → Option D} (ho : OpR X (binaryOp op) r) (hp : PureOp X.K r f) (ha : DE X W a ga) (hb : DE X W b gb) : DE X W (.BinOp a op b pos) (gBin f ga gb) := PE.imp (pe_op ho ha hb) fun σ H Q h => tOp_bin hp h
theorem oe_bin {op : Operator} {r : R2} {f : T → T → Option T} (ho : OpR X (binaryOp op) r) (hp : MakeOp X.K r f) (ha : VE X W a va) (hb : VE X W b vb) : OE X W (.BinOp a op b pos) (gMake f va vb) := PE.imp (pe_op ho ha hb) fun σ H Q h => tOp_make hp h
theorem de_cmp {op : CmpOp} {r : R2} {f : D → D → Option D} (ho : OpR X (compareOp op) r) (hp : PureOp X.K r f) (ha : DE X W a ga) (hb : DE X W b gb) (hm : behindInMarks op b = false) : DE X W (.Compare a [op] [b] pos) (gBin f ga gb) := PE.imp (pe_cmpR ho ha hb hm) fun σ H Q h => tOp_bin hp h
theorem de_lcmp {op : CmpOp} {r : R2} {f : T → T → Option D} (ho : OpR X (compareOp op) r) (hp : LookOp X.K r f) (ha : VE X W a va) (hb : VE X W b vb) (hm : behindInMarks op b = false) : DE X W (.Compare a [op] [b] pos) (gLook f va vb) := PE.imp (pe_cmpR ho ha hb hm) fun σ H Q h => tOp_look hp h
theorem tTest_of {t : TE} {g : Gn D} {σ : L2.St} {H : Hp} {Q : Bool → Hp → Prop} (ht : ∀ Q', tDE X.K W g σ H Q' → t σ H Q') (h : tBE X.K W (gDB g) σ H Q) : tTest t σ H Q := by
  obtain ⟨G, Fm, env, w, q⟩ := h
  refine ht _ (seqD w q fun d e G1 H1 v s w1 r1 h1 => ?_)
  cases d with
  | bl b => cases r1; exact ⟨b, rfl, h1 G1 H1 (Same.refl G1) w1⟩
  | _ => exact h1.elim
theorem be_cmp {op : CmpOp} {r : R2} {f : D → D → Option D} (ho : OpR X (compareOp op) r) (hp : PureOp X.K r f) (ha : DE X W a ga) (hb : DE X W b gb) (hm : behindInMarks op b = false) : BE X W (.Compare a [op] [b] pos) (gDB (gBin f ga gb)) :=
  PT.imp (pt_cmpR ho ha hb hm) fun σ H Q h => tTest_of (fun Q' => tOp_bin hp) h
theorem be_lcmp {op : CmpOp} {r : R2} {f : T → T → Option D} (ho : OpR X (compareOp op) r) (hp : LookOp X.K r f) (ha : VE X W a va) (hb : VE X W b vb) (hm : behindInMarks op b = false) : BE X W (.Compare a [op] [b] pos) (gDB (gLook f va vb)) :=
  PT.imp (pt_cmpR ho ha hb hm) fun σ H Q h => tTest_of (fun Q' => tOp_look hp) h
theorem de_ix {r : R2} {f : T → T → Option D} (hr : IxR X r) (hp : LookOp X.K r f) (ha : VE X W a va) (hb : VE X W b vb) (hs : PlainIx b) : DE X W (.Subscript a b pos) (gLook f va vb) := PE.imp (pe_ix hr ha hb hs) fun σ H Q h => tOp_look hp h
/-- a op1 b op2 c -/
@[simp] def gChain (f f' : D → D → Option D) (a b c : Gn D) : Gn D := fun env => (a env).bind fun x e1 => (b e1).bind fun y e2 => match f x y with
  | some (.bl true) => (c e2).bind fun z e3 => .lift (f' y z) e3
  | some (.bl false) => .ok (.bl false) e2
  | _ => .bad
theorem tChain_of {gc : Gn D} {r r' : R2} {f f' : D → D → Option D} (hp : PureOp X.K r f) (hp' : PureOp X.K r' f') {σ : L2.St} {H : Hp} {Q : VK} (h : tDE X.K W (gChain f f' ga gb gc) σ H Q) :
    tChain r r' (tDE X.K W ga) (tDE X.K W gb) (tDE X.K W gc) σ H Q := by
  obtain ⟨G, Fm, env, w, q⟩ := h
  refine seqD w q fun d1 e1 G1 H1 x s1 w1 r1 q1 => seqD w1 q1 fun d2 e2 G2 H2 y s2 w2 r2 q2 => ?_
  cases hd : f d1 d2 with
  | none => simp only [hd] at q2; exact q2.elim
  | some d =>
    refine hp G2 H2 d1 d2 x y d _ w2.gh (r1.mono s2) r2 hd fun v rv => ?_
    cases d with
    | bl k =>
      cases rv
      refine ⟨k, rfl, ?_⟩
      cases k with
      | true =>
        simp only [hd] at q2
        rw [if_pos rfl]
        refine seqD w2 q2 fun d3 e3 G3 H3 z s3 w3 r3 q3 => ?_
        obtain ⟨d4, hd4, q4⟩ := q3.lift
        exact hp' G3 H3 d2 d3 y z d4 Q w3.gh (r2.mono s3) r3 hd4 fun v r => q4 G3 H3 (Same.refl G3) v w3 r
      | false =>
        simp only [hd] at q2
        rw [if_neg Bool.false_ne_true]
        exact q2 G2 H2 (Same.refl G2) _ w2 (.bl false)
    | _ => simp only [hd] at q2; exact q2.elim
theorem de_chain {c : Expr} {gc : Gn D} {op op' : CmpOp} {r r' : R2} {f f' : D → D → Option D} (ho : OpR X (compareOp op) r) (ho' : OpR X (compareOp op') r') (hp : PureOp X.K r f) (hp' : PureOp X.K r' f') (ha : DE X W a ga) (hb : DE X W b gb) (hc : DE X W c gc)
    (hm : lastMarks [op, op'] [b, c] = false := by with_unfolding_all rfl) : DE X W (.Compare a [op, op'] [b, c] pos) (gChain f f' ga gb gc) := PE.imp (pe_chain ho ho' ha hb hc hm) fun σ H Q h => tChain_of hp hp' h
theorem be_chain {c : Expr} {gc : Gn D} {op op' : CmpOp} {r r' : R2} {f f' : D → D → Option D} (ho : OpR X (compareOp op) r) (ho' : OpR X (compareOp op') r') (hp : PureOp X.K r f) (hp' : PureOp X.K r' f') (ha : DE X W a ga) (hb : DE X W b gb) (hc : DE X W c gc)
    (hm : lastMarks [op, op'] [b, c] = false := by with_unfolding_all rfl) : BE X W (.Compare a [op, op'] [b, c] pos) (gDB (gChain f f' ga gb gc)) := PT.imp (pt_chain ho ho' ha hb hc hm) fun σ H Q h => tTest_of (fun Q' => tChain_of hp hp') h
/-! ### one place -/
def PureUn (K : PySem.W.Frag) (r : V → Hp → VK → Prop) (f : D → Option D) : Prop := ∀ (G H : Hp) (d1 : D) (x : V) (d : D) (Q : VK), Same G H → RD K G d1 x → f d1 = some d → (∀ v, RD K G d v → Q v H) → r x H Q
@[simp] def gUn (f : D → Option D) (a : Gn D) : Gn D := fun env => (a env).bind fun x e => .lift (f x) e
theorem de_un {op : UnaryOp} {r : V → Hp → VK → Prop} {f : D → Option D} (ho : UnR X (unaryOp op) r) (hp : PureUn X.K r f) (ha : DE X W a ga) : DE X W (.UnaryOp op a pos) (gUn f ga) := PE.imp (pe_un ho ha) fun σ H Q ⟨G, Fm, env, w, q⟩ =>
  seqD w q fun d e G1 H1 v s w1 r1 q1 => by
    obtain ⟨z, hz, q2⟩ := q1.lift
    exact hp G1 H1 d v z Q w1.gh r1 hz fun u r => q2 G1 H1 (Same.refl G1) u w1 r
/-! ### and, or, not, if -/
@[simp] def gNot (g : Gn Bool) : Gn Bool := fun env => (g env).map (!·)
theorem be_not {g : Gn Bool} (h : BE X W a g) : BE X W (.UnaryOp .Not a pos) (gNot g) := PT.imp (pt_not h) fun σ H Q ⟨G, Fm, env, w, q⟩ => ⟨G, Fm, env, w, q.map⟩
@[simp] def gAnd (g k : Gn Bool) : Gn Bool := fun env => (g env).bind fun b e => if b = true then k e else .ok false e
@[simp] def gOr (g k : Gn Bool) : Gn Bool := fun env => (g env).bind fun b e => if b = true then .ok true e else k e
theorem bw_one_and {g : Gn Bool} (h : BE X W a g) : BW X W (.BoolOp .And [a] pos) g := pw_and1 h
theorem bw_one_or {g : Gn Bool} (h : BE X W a g) : BW X W (.BoolOp .Or [a] pos) g := pw_or1 h
theorem bw_and {g k : Gn Bool} {rest : List Expr} (h : BE X W a g) (h2 : BW X W (.BoolOp .And (b :: rest) pos) k) : BW X W (.BoolOp .And (a :: b :: rest) pos) (gAnd g k) := PW.imp (pw_and h h2) fun σ H Q ⟨G, Fm, env, w, q⟩ =>
  seqB w q fun c e G1 H1 s w1 q1 => by
    cases c with
    | true =>
      rw [if_pos rfl] at q1 ⊢
      exact ⟨G1, Fm, e, w1, q1⟩
    | false =>
      rw [if_neg Bool.false_ne_true] at q1 ⊢
      exact q1 G1 H1 (Same.refl G1) w1
theorem bw_or {g k : Gn Bool} {rest : List Expr} (h : BE X W a g) (h2 : BW X W (.BoolOp .Or (b :: rest) pos) k) : BW X W (.BoolOp .Or (a :: b :: rest) pos) (gOr g k) := PW.imp (pw_or h h2) fun σ H Q ⟨G, Fm, env, w, q⟩ =>
  seqB w q fun c e G1 H1 s w1 q1 => by
    cases c with
    | true =>
      rw [if_pos rfl] at q1 ⊢
      exact q1 G1 H1 (Same.refl G1) w1
    | false =>
      rw [if_neg Bool.false_ne_true] at q1 ⊢
      exact ⟨G1, Fm, e, w1, q1⟩
/-- .. as values: all but the last are bools -/
@[simp] def gAndV (g k : Gn D) : Gn D := fun env => (g env).bind fun d e => match d with
  | .bl true => k e
  | .bl false => .ok (.bl false) e
  | _ => .bad
@[simp] def gOrV (g k : Gn D) : Gn D := fun env => (g env).bind fun d e => match d with
  | .bl false => k e
  | .bl true => .ok (.bl true) e
  | _ => .bad
theorem de_one {op} {g : Gn D} (h : DE X W a g) : DE X W (.BoolOp op [a] pos) g := pe_one h
theorem de_and {g k : Gn D} {rest : List Expr} (h : DE X W a g) (h2 : DE X W (.BoolOp .And (b :: rest) pos) k) : DE X W (.BoolOp .And (a :: b :: rest) pos) (gAndV g k) := PE.imp (pe_and h h2) fun σ H Q ⟨G, Fm, env, w, q⟩ =>
  seqD w q fun d e G1 H1 v s w1 r1 q1 => by
    cases d with
    | bl c =>
      cases r1
      refine ⟨c, rfl, ?_⟩
      cases c with
      | true => rw [if_pos rfl]; exact ⟨G1, Fm, e, w1, q1⟩
      | false => rw [if_neg Bool.false_ne_true]; exact q1 G1 H1 (Same.refl G1) _ w1 (.bl false)
    | _ => exact q1.elim
theorem de_or {g k : Gn D} {rest : List Expr} (h : DE X W a g) (h2 : DE X W (.BoolOp .Or (b :: rest) pos) k) : DE X W (.BoolOp .Or (a :: b :: rest) pos) (gOrV g k) := PE.imp (pe_or h h2) fun σ H Q ⟨G, Fm, env, w, q⟩ =>
  seqD w q fun d e G1 H1 v s w1 r1 q1 => by
    cases d with
    | bl c =>
      cases r1
      refine ⟨c, rfl, ?_⟩
      cases c with
      | true => rw [if_pos rfl]; exact q1 G1 H1 (Same.refl G1) _ w1 (.bl true)
      | false => rw [if_neg Bool.false_ne_true]; exact ⟨G1, Fm, e, w1, q1⟩
    | _ => exact q1.elim
@[simp] def gNotV (g : Gn D) : Gn D := gUn (fun d => match d with | .bl b => some (.bl (!b)) | _ => none) g
theorem de_not {g : Gn D} (h : DE X W a g) : DE X W (.UnaryOp .Not a pos) (gNotV g) := PE.imp (pe_not h) fun σ H Q ⟨G, Fm, env, w, q⟩ =>
  seqD w q fun d e G1 H1 v s w1 r1 q1 => by
    obtain ⟨z, hz, q2⟩ := q1.lift
    cases d with
    | bl c =>
      cases r1
      cases (Option.some.inj hz)
      exact ⟨c, rfl, q2 G1 H1 (Same.refl G1) _ w1 (.bl (!c))⟩
    | _ => cases hz
@[simp] def gIf {α : Type} (c : Gn Bool) (g k : Gn α) : Gn α := fun env => (c env).bind fun b e => if b = true then g e else k e
theorem de_if {c : Expr} {gc : Gn Bool} (hc : BE X W c gc) (ha : DE X W a ga) (hb : DE X W b gb) : DE X W (.IfExp c a b pos) (gIf gc ga gb) := PE.imp (pe_ifExp hc ha hb) fun σ H Q ⟨G, Fm, env, w, q⟩ =>
  seqB w q fun k e G1 H1 s w1 q1 => by
    cases k with
    | true => rw [if_pos rfl] at q1 ⊢; exact ⟨G1, Fm, e, w1, q1⟩
    | false => rw [if_neg Bool.false_ne_true] at q1 ⊢; exact ⟨G1, Fm, e, w1, q1⟩
theorem oe_if {c : Expr} {gc : Gn Bool} {ta tb : Gn T} (hc : BE X W c gc) (ha : OE X W a ta) (hb : OE X W b tb) : OE X W (.IfExp c a b pos) (gIf gc ta tb) := PE.imp (pe_ifExp hc ha hb) fun σ H Q ⟨G, Fm, env, w, q⟩ =>
  seqB w q fun k e G1 H1 s w1 q1 => by
    cases k with
    | true => rw [if_pos rfl] at q1 ⊢; exact ⟨G1, Fm, e, w1, q1⟩
    | false => rw [if_neg Bool.false_ne_true] at q1 ⊢; exact ⟨G1, Fm, e, w1, q1⟩
/-! ### argument lists, displays -/
@[simp] def gNilA : Gn (List D) := fun env => .ok [] env
@[simp] def gConsA (g : Gn D) (k : Gn (List D)) : Gn (List D) := fun env => (g env).bind fun d e => (k e).map (d :: ·)
theorem da_nil : DA X W [] gNilA := PA.imp pa_nil fun σ H Q ⟨G, Fm, env, w, q⟩ => q G H (Same.refl G) [] w .nil
theorem da_cons {es : List Expr} {k : Gn (List D)} (ha : DE X W a ga) (hr : DA X W es k) (hs : starEach (a :: es) X.env = (false, eval a X.env) :: starEach es X.env := by rfl) : DA X W (a :: es) (gConsA ga k) := PA.imp (pa_cons ha hr hs) fun σ H Q ⟨G, Fm, env, w, q⟩ =>
  seqD w q fun d e G1 H1 v s w1 r1 q1 => ⟨G1, Fm, e, w1, q1.map.imp fun ds e2 G2 H2 s2 h vs w2 r2 => h (v :: vs) w2 (.cons (r1.mono s2) r2)⟩
/-- [a, b, ..]; (a, b, ..) -/
@[simp] def gLst (k : Gn (List D)) : Gn T := fun env => (k env).bind fun ds e => if ds.length ≤ sizeLine then .ok (.lst ds) e else .bad
@[simp] def gTup (k : Gn (List D)) : Gn D := fun env => (k env).bind fun ds e => if ds.length ≤ sizeLine then .ok (.tup ds) e else .bad
theorem Wd.lst {K : PySem.W.Frag} {G Fm H : Hp} {σ : L2.St} {e : Env} {p : Addr} {ds : List D} {vs : List V} (w : Wd K G Fm H σ e) (hp : H p = none) (r : RDs K G ds vs) : Wd K G Fm (upd H p (.lst vs)) (some (.ref p) :: σ) (some (.lst ds) :: e) :=
  w.fresh hp fun s g h => .lst h g (r.mono s)
theorem Wd.tup {K : PySem.W.Frag} {G Fm H : Hp} {σ : L2.St} {e : Env} {p : Addr} {ds : List D} {vs : List V} (w : Wd K G Fm H σ e) (hp : H p = none) (r : RDs K G ds vs) :
    Wd K (upd G p (.tup vs)) Fm (upd H p (.tup vs)) σ e ∧ Same G (upd G p (.tup vs)) ∧ RD K (upd G p (.tup vs)) (.tup ds) (.ref p) := by
  obtain ⟨w', s⟩ := w.laid (o := .tup vs) hp
  exact ⟨w', s, .tup (.inl (.inl upd_same)) (r.mono s)⟩
theorem oe_lst {es : List Expr} {k : Gn (List D)} (h : DA X W es k) : OE X W (.List es pos) (gLst k) := PE.imp (pe_lst h) fun σ H Q ⟨G, Fm, env, w, q⟩ =>
  seqDs w q fun ds e G1 H1 vs s w1 r1 q1 => by
    split at q1
    · rename_i hl
      exact ⟨by rw [← r1.length]; exact hl, fun p hp => q1 G1 _ (Same.refl G1) _ (w1.lst hp r1)⟩
    · exact q1.elim
theorem de_tup {es : List Expr} {k : Gn (List D)} {x1} (h : DA X W es k) : DE X W (.Tuple es x1 pos) (gTup k) := PE.imp (pe_tup h) fun σ H Q ⟨G, Fm, env, w, q⟩ =>
  seqDs w q fun ds e G1 H1 vs s w1 r1 q1 => by
    split at q1
    · rename_i hl
      refine ⟨by rw [← r1.length]; exact hl, fun p hp => ?_⟩
      obtain ⟨w2, s2, r2⟩ := w1.tup hp r1
      exact q1 _ _ s2 _ w2 r2
    · exact q1.elim
end
end DL


/-! D-layer, part e: the operators as functions on data. -/
namespace DL
open PySem PySem.Spec PyProof.Rows L2
variable [Tabs]
section
variable {K : PySem.W.Frag}
/-! ### ints (and texts) -/
def fII (g : Int → Int → Option D) : D → D → Option D
  | .int i, .int j => g i j
  | _, _ => none
theorem pure_rI0 {g : Int → Int → D} {gv : Int → Int → V} (h : ∀ G i j, RD K G (g i j) (gv i j)) : PureOp K (rI0 gv) (fII fun i j => some (g i j)) := by
  intro G H d1 d2 x y d Q s r1 r2 e q
  cases d1 <;> cases d2 <;> first | (cases e; done) | skip
  cases r1; cases r2
  cases (Option.some.inj e)
  exact ⟨_, _, rfl, rfl, q _ (h _ _ _)⟩
theorem pure_rI {C : Int → Int → Prop} {c : Int → Int → Bool} {g : Int → Int → D} {gv : Int → Int → V} (hc : ∀ i j, c i j = true → C i j) (h : ∀ G i j, RD K G (g i j) (gv i j)) : PureOp K (rI C gv) (fII fun i j => if c i j = true then some (g i j) else none) := by
  intro G H d1 d2 x y d Q s r1 r2 e q
  cases d1 <;> cases d2 <;> first | (cases e; done) | skip
  cases r1; cases r2
  rename_i i j
  have e : (if c i j = true then some (g i j) else none) = some d := e
  split at e
  · rename_i hcc
    cases (Option.some.inj e)
    exact ⟨_, _, rfl, rfl, hc _ _ hcc, q _ (h _ _ _)⟩
  · cases e
theorem pure_or {r r' : R2} {f : D → D → Option D} {f' : D → D → Option D} (h : PureOp K r f) (h' : PureOp K r' f') : PureOp K (fun x y H Q => r x y H Q ∨ r' x y H Q) (fun a b => (f a b).or (f' a b)) := by
  intro G H d1 d2 x y d Q s r1 r2 e q
  cases hf : f d1 d2 with
  | some z =>
    simp [hf] at e
    subst e
    exact .inl (h G H d1 d2 x y z Q s r1 r2 hf q)
  | none =>
    simp [hf] at e
    exact .inr (h' G H d1 d2 x y d Q s r1 r2 e q)
def fAdd : D → D → Option D
  | .int i, .int j => some (.int (i + j))
  | .str x, .str y => if x.length + y.length ≤ sizeLine then some (.str (x ++ y)) else none
  | _, _ => none
def rAddIS : R2 := fun x y H Q => rI0 (fun i j => .int (i + j)) x y H Q ∨ ∃ i j, x = .str i ∧ y = .str j ∧ i.length + j.length ≤ sizeLine ∧ Q (.str (i ++ j)) H
theorem op_addIS {X : Cx} : OpR X (binaryOp .Add) rAddIS := OpR.or op_add op_add_str
theorem pure_add : PureOp K rAddIS fAdd := by
  intro G H d1 d2 x y d Q s r1 r2 e q
  cases d1 <;> cases d2 <;> first | (cases e; done) | skip
  · cases r1; cases r2; cases (Option.some.inj e); exact .inl ⟨_, _, rfl, rfl, q _ (.int _)⟩
  · cases r1; cases r2
    rename_i i j
    have e : (if i.length + j.length ≤ sizeLine then some (D.str (i ++ j)) else none) = some d := e
    split at e
    · rename_i h
      cases (Option.some.inj e)
      exact .inr ⟨_, _, rfl, rfl, h, q _ (.str _)⟩
    · cases e
def fSub : D → D → Option D := fII fun i j => some (.int (i - j))
theorem pure_sub : PureOp K (rI0 fun i j => .int (i - j)) fSub := pure_rI0 fun _ _ _ => .int _
def cMul (i j : Int) : Bool := (decide (-(2 ^ 64) < i) && decide (i < 2 ^ 64)) || (decide (-(2 ^ 64) < j) && decide (j < 2 ^ 64))
theorem cMul_ok {i j : Int} (h : cMul i j = true) : CMul i j := by
  unfold cMul at h
  simp only [Bool.or_eq_true, Bool.and_eq_true, decide_eq_true_eq] at h
  exact h
def fMul : D → D → Option D := fII fun i j => if cMul i j = true then some (.int (i * j)) else none
theorem pure_mul : PureOp K (rI CMul fun i j => .int (i * j)) fMul := pure_rI (fun _ _ => cMul_ok) fun _ _ _ => .int _
def cDiv (_ j : Int) : Bool := decide (0 < j) && decide (j < 1073741824)
def fDiv : D → D → Option D := fII fun i j => if cDiv i j = true then some (.int (i / j)) else none
theorem pure_div : PureOp K (rI CDiv fun i j => .int (i / j)) fDiv := pure_rI (fun i j h => by unfold cDiv at h; simp only [Bool.and_eq_true, decide_eq_true_eq] at h; exact h) fun _ _ _ => .int _
def cPos (_ j : Int) : Bool := decide (0 < j)
def fMod : D → D → Option D := fII fun i j => if cPos i j = true then some (.int (i % j)) else none
theorem pure_mod : PureOp K (rI (fun _ j => 0 < j) fun i j => .int (i % j)) fMod := pure_rI (fun i j h => of_decide_eq_true h) fun _ _ _ => .int _
def cPow (i j : Int) : Bool := decide (0 ≤ j) && decide (j ≤ 1000000) && decide (i.natAbs < 2 ^ 64)
theorem cPow_ok {i j : Int} (h : cPow i j = true) : CPow i j := by
  unfold cPow at h
  simp only [Bool.and_eq_true, decide_eq_true_eq] at h
  exact ⟨h.1.1, h.1.2, h.2⟩
def fPow : D → D → Option D := fII fun i j => if cPow i j = true then some (.int (i ^ j.toNat)) else none
theorem pure_pow : PureOp K (rI CPow fun i j => .int (i ^ j.toNat)) fPow := pure_rI (fun _ _ => cPow_ok) fun _ _ _ => .int _
def fShl : D → D → Option D := fII fun i j => if cPow i j = true then some (.int (i * 2 ^ j.toNat)) else none
theorem pure_shl : PureOp K (rI CPow fun i j => .int (i * 2 ^ j.toNat)) fShl := pure_rI (fun _ _ => cPow_ok) fun _ _ _ => .int _
def cNn (_ j : Int) : Bool := decide (0 ≤ j)
def fShr : D → D → Option D := fII fun i j => if cNn i j = true then some (.int (i / 2 ^ j.toNat)) else none
theorem pure_shr : PureOp K (rI (fun _ j => 0 ≤ j) fun i j => .int (i / 2 ^ j.toNat)) fShr := pure_rI (fun i j h => of_decide_eq_true h) fun _ _ _ => .int _
def fAnd : D → D → Option D := fII fun i j => some (.int (Builtin.bitAnd i j))
theorem pure_and : PureOp K (rI0 fun i j => .int (Builtin.bitAnd i j)) fAnd := pure_rI0 fun _ _ _ => .int _
def fXor : D → D → Option D := fII fun i j => some (.int (Builtin.bitXor i j))
theorem pure_xor : PureOp K (rI0 fun i j => .int (Builtin.bitXor i j)) fXor := pure_rI0 fun _ _ _ => .int _
def fNeg : D → Option D
  | .int i => some (.int (-i))
  | _ => none
theorem pure_neg : PureUn K (rU fun i => .int (-i)) fNeg := by
  intro G H d1 x d Q s r1 e q
  cases d1 <;> first | (cases e; done) | skip
  cases r1; cases (Option.some.inj e); exact ⟨_, rfl, q _ (.int _)⟩
/-! ### order -/
def fLt : D → D → Option D
  | .int i, .int j => some (.bl (decide (i < j)))
  | .str x, .str y => some (.bl (decide (x.cps.toList < y.cps.toList)))
  | _, _ => none
def fLe : D → D → Option D
  | .int i, .int j => some (.bl (decide (i ≤ j)))
  | .str x, .str y => some (.bl (!decide (y.cps.toList < x.cps.toList)))
  | _, _ => none
def fGt : D → D → Option D
  | .int i, .int j => some (.bl (decide (j < i)))
  | .str x, .str y => some (.bl (decide (y.cps.toList < x.cps.toList)))
  | _, _ => none
def fGe : D → D → Option D
  | .int i, .int j => some (.bl (decide (j ≤ i)))
  | .str x, .str y => some (.bl (!decide (x.cps.toList < y.cps.toList)))
  | _, _ => none
def rCmpIS (p : Int → Int → Bool) (q : Str → Str → Bool) : R2 := fun x y H Q => rI0 (fun i j => .bl (p i j)) x y H Q ∨ ∃ i j, x = .str i ∧ y = .str j ∧ Q (.bl (q i j)) H
theorem op_ltIS {X : Cx} : OpR X (compareOp .Lt) (rCmpIS (fun i j => decide (i < j)) fun x y => decide (x.cps.toList < y.cps.toList)) := OpR.or op_lt op_lt_str
theorem op_leIS {X : Cx} : OpR X (compareOp .LtE) (rCmpIS (fun i j => decide (i ≤ j)) fun x y => !decide (y.cps.toList < x.cps.toList)) := OpR.or op_le op_le_str
theorem op_gtIS {X : Cx} : OpR X (compareOp .Gt) (rCmpIS (fun i j => decide (j < i)) fun x y => decide (y.cps.toList < x.cps.toList)) := OpR.or op_gt op_gt_str
theorem op_geIS {X : Cx} : OpR X (compareOp .GtE) (rCmpIS (fun i j => decide (j ≤ i)) fun x y => !decide (x.cps.toList < y.cps.toList)) := OpR.or op_ge op_ge_str
theorem pure_cmp {p : Int → Int → Bool} {q : Str → Str → Bool} {f : D → D → Option D} (h1 : ∀ i j, f (.int i) (.int j) = some (.bl (p i j))) (h2 : ∀ i j, f (.str i) (.str j) = some (.bl (q i j)))
    (h3 : ∀ a b d, f a b = some d → (∃ i j, a = .int i ∧ b = .int j) ∨ ∃ x y, a = .str x ∧ b = .str y) : PureOp K (rCmpIS p q) f := by
  intro G H d1 d2 x y d Q s r1 r2 e qq
  rcases h3 _ _ _ e with ⟨i, j, rfl, rfl⟩ | ⟨i, j, rfl, rfl⟩
  · rw [h1] at e
    cases (Option.some.inj e)
    cases r1; cases r2
    exact .inl ⟨_, _, rfl, rfl, qq _ (.bl _)⟩
  · rw [h2] at e
    cases (Option.some.inj e)
    cases r1; cases r2
    exact .inr ⟨_, _, rfl, rfl, qq _ (.bl _)⟩
theorem pure_lt : PureOp K (rCmpIS (fun i j => decide (i < j)) fun x y => decide (x.cps.toList < y.cps.toList)) fLt := pure_cmp (fun _ _ => rfl) (fun _ _ => rfl) fun a b d e => by
  cases a <;> cases b <;> first | (cases e; done) | exact .inl ⟨_, _, rfl, rfl⟩ | exact .inr ⟨_, _, rfl, rfl⟩
theorem pure_le : PureOp K (rCmpIS (fun i j => decide (i ≤ j)) fun x y => !decide (y.cps.toList < x.cps.toList)) fLe := pure_cmp (fun _ _ => rfl) (fun _ _ => rfl) fun a b d e => by
  cases a <;> cases b <;> first | (cases e; done) | exact .inl ⟨_, _, rfl, rfl⟩ | exact .inr ⟨_, _, rfl, rfl⟩
theorem pure_gt : PureOp K (rCmpIS (fun i j => decide (j < i)) fun x y => decide (y.cps.toList < x.cps.toList)) fGt := pure_cmp (fun _ _ => rfl) (fun _ _ => rfl) fun a b d e => by
  cases a <;> cases b <;> first | (cases e; done) | exact .inl ⟨_, _, rfl, rfl⟩ | exact .inr ⟨_, _, rfl, rfl⟩
theorem pure_ge : PureOp K (rCmpIS (fun i j => decide (j ≤ i)) fun x y => !decide (x.cps.toList < y.cps.toList)) fGe := pure_cmp (fun _ _ => rfl) (fun _ _ => rfl) fun a b d e => by
  cases a <;> cases b <;> first | (cases e; done) | exact .inl ⟨_, _, rfl, rfl⟩ | exact .inr ⟨_, _, rfl, rfl⟩
/-! ### is None, is True -/
@[simp] def fIsN : D → D → Option D
  | .non, .non => some (.bl true)
  | _, .non => some (.bl false)
  | _, _ => none
@[simp] def fNotN : D → D → Option D
  | .non, .non => some (.bl false)
  | _, .non => some (.bl true)
  | _, _ => none
theorem rd_non {G : Hp} {d : D} {v : V} (h : RD K G d v) : (v = .non) = (d = .non) := by
  cases h <;> simp
theorem pure_isN : PureOp K (fun x y H Q => y = .non ∧ Q (.bl (decide (x = .non))) H) fIsN := by
  intro G H d1 d2 x y d Q s r1 r2 e q
  have e2 : d2 = .non := by cases d1 <;> cases d2 <;> first | rfl | (cases e; done)
  subst e2
  cases r2
  refine ⟨rfl, ?_⟩
  cases r1 <;> (cases (Option.some.inj e); exact q _ (.bl _))
theorem pure_notN : PureOp K (fun x y H Q => y = .non ∧ Q (.bl (!decide (x = .non))) H) fNotN := by
  intro G H d1 d2 x y d Q s r1 r2 e q
  have e2 : d2 = .non := by cases d1 <;> cases d2 <;> first | rfl | (cases e; done)
  subst e2
  cases r2
  refine ⟨rfl, ?_⟩
  cases r1 <;> (cases (Option.some.inj e); exact q _ (.bl _))
@[simp] def fIsB : D → D → Option D
  | .bl a, .bl b => some (.bl (decide (a = b)))
  | _, _ => none
@[simp] def fNotB : D → D → Option D
  | .bl a, .bl b => some (.bl (!decide (a = b)))
  | _, _ => none
theorem pure_isB : PureOp K rIsB fIsB := by
  intro G H d1 d2 x y d Q s r1 r2 e q
  cases d1 <;> cases d2 <;> first | (cases e; done) | skip
  cases r1; cases r2; cases (Option.some.inj e); exact ⟨_, _, rfl, rfl, q _ (.bl _)⟩
theorem pure_notB : PureOp K rNotB fNotB := by
  intro G H d1 d2 x y d Q s r1 r2 e q
  cases d1 <;> cases d2 <;> first | (cases e; done) | skip
  cases r1; cases r2; cases (Option.some.inj e); exact ⟨_, _, rfl, rfl, q _ (.bl _)⟩
/-! ### equality -/
mutual
def D.py : D → Option PyData
  | .non => some .none
  | .bl b => some (.bool b)
  | .int i => some (.int i)
  | .str x => some (.str x)
  | .lst ds => (pys ds).map .list
  | .ro ds => (pys ds).map .list
  | .tup ds => (pys ds).map .tuple
  | _ => none
def pys : List D → Option (List PyData)
  | [] => some []
  | d :: ds => (D.py d).bind fun p => (pys ds).map (p :: ·)
end
mutual
theorem RD.dp {G H : Hp} (s : Same G H) : ∀ {d : D} {v : V}, RD K G d v → ∀ p, d.py = some p → Dp K H v p
  | _, _, .non, p, e => by cases (Option.some.inj e); exact .non
  | _, _, .bl b, p, e => by cases (Option.some.inj e); exact .bl b
  | _, _, .int i, p, e => by cases (Option.some.inj e); exact .int i
  | _, _, .str x, p, e => by cases (Option.some.inj e); exact .str x
  | _, _, .ref a, p, e => by cases e
  | _, _, .lst h r, p, e => by
    obtain ⟨q, h1, h2⟩ := Option.map_eq_some_iff.mp (show Option.map PyData.list _ = some p from e)
    subst h2
    exact .lst (.inl (.inl (s _ _ h))) (RDs.dp s r q h1)
  | _, _, .ro h r, p, e => by
    obtain ⟨q, h1, h2⟩ := Option.map_eq_some_iff.mp (show Option.map PyData.list _ = some p from e)
    subst h2
    exact .lst (s.seq h) (RDs.dp s r q h1)
  | _, _, .tup h r, p, e => by
    obtain ⟨q, h1, h2⟩ := Option.map_eq_some_iff.mp (show Option.map PyData.tuple _ = some p from e)
    subst h2
    exact .tup (sqT_mono s h) (RDs.dp s r q h1)
  | _, _, .dK h r, p, e => by cases e
  | _, _, .dT h r, p, e => by cases e
  | _, _, .obj h r, p, e => by cases e
theorem RDs.dp {G H : Hp} (s : Same G H) : ∀ {ds : List D} {vs : List V}, RDs K G ds vs → ∀ ps, pys ds = some ps → DpAll K H vs ps
  | _, _, .nil, ps, e => by cases (Option.some.inj e); exact .nil
  | _, _, .cons h r, ps, e => by
    obtain ⟨p, h1, h2⟩ := Option.bind_eq_some_iff.mp (show Option.bind _ _ = some ps from e)
    obtain ⟨q, h3, h4⟩ := Option.map_eq_some_iff.mp h2
    subst h4
    exact .cons (RD.dp s h p h1) (RDs.dp s r q h3)
end
def T.py : T → Option PyData
  | .val d => d.py
  | .lst ds => (pys ds).map .list
  | _ => none
theorem RT.dp {G H : Hp} {t : T} {v : V} {f : List Addr} {p : PyData} (s : Same G H) (h : RT K G H t v f) (e : t.py = some p) : Dp K H v p := by
  cases h with
  | val r => exact r.dp s p e
  | lst h g r =>
    obtain ⟨q, h1, h2⟩ := Option.map_eq_some_iff.mp (show Option.map PyData.list _ = some p from e)
    subst h2
    exact .lst (.inl (.inl h)) (r.dp s q h1)
  | _ => cases e
def pyEq (a b : PyData) : Option Bool := if SeqAt.shaped a && SeqAt.shaped b then some (PyData.eqv a b) else none
def tEq (t u : T) : Option Bool := t.py.bind fun a => u.py.bind fun b => pyEq a b
def fEq (t u : T) : Option D := (tEq t u).map D.bl
def fNe (t u : T) : Option D := (tEq t u).map fun b => D.bl (!b)
theorem tEq_of {t u : T} {b : Bool} (h : tEq t u = some b) : ∃ p q, t.py = some p ∧ u.py = some q ∧ SeqAt.shaped p = true ∧ SeqAt.shaped q = true ∧ PyData.eqv p q = b := by
  obtain ⟨p, h1, h⟩ := bind_some h
  obtain ⟨q, h2, h⟩ := bind_some h
  unfold pyEq at h
  split at h
  · rename_i z
    rw [Bool.and_eq_true] at z
    exact ⟨p, q, h1, h2, z.1, z.2, Option.some.inj h⟩
  · cases h
theorem look_eq : LookOp K (rEqD K) fEq := by
  intro G H t u x y fa fb d Q s r1 r2 e q
  obtain ⟨b, h, rfl⟩ := Option.map_eq_some_iff.mp e
  obtain ⟨p, p', h1, h2, h3, h4, h5⟩ := tEq_of h
  subst h5
  exact ⟨p, p', r1.dp s h1, r2.dp s h2, h3, h4, q _ (.bl _)⟩
theorem look_ne : LookOp K (rNeD K) fNe := by
  intro G H t u x y fa fb d Q s r1 r2 e q
  obtain ⟨b, h, rfl⟩ := Option.map_eq_some_iff.mp e
  obtain ⟨p, p', h1, h2, h3, h4, h5⟩ := tEq_of h
  subst h5
  exact ⟨p, p', r1.dp s h1, r2.dp s h2, h3, h4, q _ (.bl _)⟩
/-- x in l (a list of data) -/
def fInL (neg : Bool) (t u : T) : Option D := t.py.bind fun a => u.py.bind fun b => match b with
  | .list ds => if SeqAt.shaped a && SeqAt.shaped (.list ds) then some (.bl (neg ^^ ds.any fun z => PyData.eqv z a)) else none
  | _ => none
theorem look_inL : LookOp K (rInD K) (fInL false) := by
  intro G H t u x y fa fb d Q s r1 r2 e q
  obtain ⟨a, h1, e⟩ := bind_some e
  obtain ⟨b, h2, e⟩ := bind_some e
  cases b with
  | list ds =>
    have e : (if SeqAt.shaped a && SeqAt.shaped (.list ds) then some (D.bl (false ^^ ds.any fun z => PyData.eqv z a)) else none) = some d := e
    split at e
    · rename_i z
      rw [Bool.and_eq_true] at z
      cases (Option.some.inj e)
      refine ⟨a, ds, r1.dp s h1, r2.dp s h2, z.1, z.2, ?_⟩
      have := q _ (.bl (false ^^ ds.any fun z => PyData.eqv z a))
      rw [Bool.false_xor] at this
      exact this
    · cases e
  | _ => cases e
theorem look_notInL : LookOp K (rNotInD K) (fInL true) := by
  intro G H t u x y fa fb d Q s r1 r2 e q
  obtain ⟨a, h1, e⟩ := bind_some e
  obtain ⟨b, h2, e⟩ := bind_some e
  cases b with
  | list ds =>
    have e : (if SeqAt.shaped a && SeqAt.shaped (.list ds) then some (D.bl (true ^^ ds.any fun z => PyData.eqv z a)) else none) = some d := e
    split at e
    · rename_i z
      rw [Bool.and_eq_true] at z
      cases (Option.some.inj e)
      refine ⟨a, ds, r1.dp s h1, r2.dp s h2, z.1, z.2, ?_⟩
      have := q _ (.bl (true ^^ ds.any fun z => PyData.eqv z a))
      rw [Bool.true_xor] at this
      exact this
    · cases e
  | _ => cases e
/-- a sign in a text -/
def signOf (x : Str) : Option Nat := match x.cps.toList with
  | [c] => some c
  | _ => none
@[simp] theorem signOf_one (c : Nat) : signOf ⟨#[c]⟩ = some c := rfl
theorem sign_of {x : Str} {c : Nat} (h : signOf x = some c) : x = ⟨#[c]⟩ := by
  obtain ⟨⟨l⟩⟩ := x
  match l, h with
  | [c'], h => cases (Option.some.inj h); rfl
def fInS (neg : Bool) : D → D → Option D
  | .str x, .str z => (signOf x).map fun c => .bl (neg ^^ decide (c ∈ z.cps.toList))
  | _, _ => none
theorem pure_inS : PureOp K (fun x y H Q => ∃ (c : Nat) (z : Str), x = .str ⟨#[c]⟩ ∧ y = .str z ∧ Q (.bl (decide (c ∈ z.cps.toList))) H) (fInS false) := by
  intro G H d1 d2 x y d Q s r1 r2 e q
  cases d1 <;> cases d2 <;> first | (cases e; done) | skip
  rename_i x z
  cases r1; cases r2
  obtain ⟨c, hc, rfl⟩ := Option.map_eq_some_iff.mp (show Option.map _ _ = some d from e)
  have := q _ (.bl (false ^^ decide (c ∈ z.cps.toList)))
  rw [Bool.false_xor] at this
  exact ⟨c, z, by rw [sign_of hc], rfl, this⟩
theorem pure_notInS : PureOp K (fun x y H Q => ∃ (c : Nat) (z : Str), x = .str ⟨#[c]⟩ ∧ y = .str z ∧ Q (.bl (!decide (c ∈ z.cps.toList))) H) (fInS true) := by
  intro G H d1 d2 x y d Q s r1 r2 e q
  cases d1 <;> cases d2 <;> first | (cases e; done) | skip
  rename_i x z
  cases r1; cases r2
  obtain ⟨c, hc, rfl⟩ := Option.map_eq_some_iff.mp (show Option.map _ _ = some d from e)
  have := q _ (.bl (true ^^ decide (c ∈ z.cps.toList)))
  rw [Bool.true_xor] at this
  exact ⟨c, z, by rw [sign_of hc], rfl, this⟩
/-- x in (1, 2, 3) (flat things) -/
def D.sv : D → Option V
  | .non => some .non
  | .bl b => some (.bl b)
  | .int i => some (.int i)
  | .str x => some (.str x)
  | _ => none
def svs : List D → Option (List V)
  | [] => some []
  | d :: ds => (D.sv d).bind fun v => (svs ds).map (v :: ·)
theorem RD.sv {G : Hp} {d : D} {v u : V} (h : RD K G d v) (e : d.sv = some u) : v = u ∧ flatV v = true := by
  cases h <;> first | (cases (Option.some.inj e); exact ⟨rfl, rfl⟩) | (cases e; done)
theorem RDs.svs {G : Hp} : ∀ {ds : List D} {vs us : List V}, RDs K G ds vs → DL.svs ds = some us → vs = us ∧ vs.all flatV = true
  | _, _, us, .nil, e => by cases (Option.some.inj e); exact ⟨rfl, rfl⟩
  | _, _, us, .cons h r, e => by
    obtain ⟨v, h1, e⟩ := bind_some (show Option.bind _ _ = some us from e)
    obtain ⟨ws, h2, rfl⟩ := Option.map_eq_some_iff.mp e
    obtain ⟨h3, h4⟩ := h.sv h1
    obtain ⟨h5, h6⟩ := RDs.svs r h2
    subst h3 h5
    exact ⟨rfl, by rw [List.all_cons, h4, h6]; rfl⟩
def fInF (neg : Bool) (t u : T) : Option D := match t with
  | .val d => d.sv.bind fun x => (u.seqL.or u.seqT).bind fun ds => (svs ds).map fun vs => .bl (neg ^^ inV x vs)
  | _ => none
theorem look_inF (neg : Bool) : LookOp K (rIn K neg) (fInF neg) := by
  intro G H t u x y fa fb d Q s r1 r2 e q
  cases r1 <;> first | (cases e; done) | skip
  rename_i dd r
  obtain ⟨vx, h1, e⟩ := bind_some (show Option.bind _ _ = some d from e)
  obtain ⟨ds, h2, e⟩ := bind_some e
  obtain ⟨ws, h3, rfl⟩ := Option.map_eq_some_iff.mp e
  obtain ⟨rfl, fx⟩ := r.sv h1
  have hq : ∀ b, q = q → Q (.bl (if neg = true then !b else b)) H ∨ True := fun _ _ => .inr trivial
  have seq : ∃ a vs, y = .ref a ∧ (SqL K H a vs ∨ SqT K H a vs) ∧ RDs K G ds vs := by
    cases z : u.seqL with
    | some l =>
      rw [z] at h2
      have e2 : l = ds := Option.some.inj (by simpa using h2)
      subst e2
      obtain ⟨a, vs, e1, e2, e3⟩ := r2.seqL s z
      exact ⟨a, vs, e1, .inl e2, e3⟩
    | none =>
      rw [z] at h2
      have h2 : u.seqT = some ds := by simpa using h2
      obtain ⟨a, vs, e1, e2, e3⟩ := r2.seqT s h2
      exact ⟨a, vs, e1, .inr e2, e3⟩
  obtain ⟨a, vs, e1, e2, e3⟩ := seq
  obtain ⟨rfl, fl⟩ := e3.svs h3
  refine ⟨a, vs, e1, e2, fx, fl, ?_⟩
  have := q _ (.bl (neg ^^ inV x vs))
  cases neg <;> simpa using this
/-! ### subscripts -/
@[simp] def fIx (t u : T) : Option D := match u with
  | .val (.int i) => ((t.seqL.or t.seqT).bind fun ds => L2.atI ds i).or (match t with
    | .val (.str z) => if z.length ≤ sizeLine then (L2.atI z.cps.toList i).map fun c => .str ⟨#[c]⟩ else none
    | _ => none)
  | _ => none
theorem look_ix : LookOp K (rIx K) fIx := by
  intro G H t u x y fa fb d Q s r1 r2 e q
  cases r2 <;> first | (cases e; done) | skip
  rename_i di r
  cases r <;> first | (cases e; done) | skip
  rename_i i
  unfold fIx at e
  cases z : t.seqL with
  | some ds =>
    simp only [z, Option.some_or, Option.bind_some] at e
    obtain ⟨a, vs, e1, e2, e3⟩ := r1.seqL s z
    cases h : L2.atI ds i with
    | some w =>
      rw [h] at e
      have e' : w = d := by simpa using e
      subst e'
      obtain ⟨v, h1, h2⟩ := e3.atI h
      exact .inl ⟨a, vs, i, v, e1, rfl, e2, h1, q v h2⟩
    | none =>
      rw [h] at e
      cases r1 with
      | val r =>
        cases r <;> first | (cases z; done) | (simp at e; done)
      | _ => first | (cases z; done) | (simp at e; done)
  | none =>
    cases z2 : t.seqT with
    | some ds =>
      simp only [z, z2, Option.none_or, Option.bind_some] at e
      obtain ⟨a, vs, e1, e2, e3⟩ := r1.seqT s z2
      cases h : L2.atI ds i with
      | some w =>
        rw [h] at e
        have e' : w = d := by simpa using e
        subst e'
        obtain ⟨v, h1, h2⟩ := e3.atI h
        exact .inr (.inl ⟨a, vs, i, v, e1, rfl, e2, h1, q v h2⟩)
      | none =>
        rw [h] at e
        cases r1 with
        | val r =>
          cases r <;> first | (cases z2; done) | (simp at e; done)
        | _ => first | (cases z2; done) | (simp at e; done)
    | none =>
      simp only [z, z2, Option.none_or, Option.bind_none] at e
      cases r1 with
      | val r =>
        cases r <;> first | (cases e; done) | skip
        rename_i st
        have e : (if st.length ≤ sizeLine then (L2.atI st.cps.toList i).map fun c => D.str ⟨#[c]⟩ else none) = some d := e
        split at e
        · rename_i hl
          obtain ⟨c, h1, rfl⟩ := Option.map_eq_some_iff.mp e
          exact .inr (.inr ⟨st, i, c, rfl, rfl, hl, h1, q _ (.str _)⟩)
        · cases e
      | _ => cases e
/-! ### lists joined and repeated -/
@[simp] def fCat (t u : T) : Option T := t.seqM.bind fun a => u.seqM.bind fun b => if a.length + b.length ≤ sizeLine then some (.lst (a ++ b)) else none
theorem make_cat : MakeOp K rCat fCat := by
  intro G Fm H σ e t u x y fa fb z Q w r1 r2 h q
  obtain ⟨a, h1, h⟩ := bind_some h
  obtain ⟨b, h2, h⟩ := bind_some h
  split at h
  · rename_i hl
    cases (Option.some.inj h)
    obtain ⟨l, vs, e1, e2, e3⟩ := r1.seqM w.gh h1
    obtain ⟨m, us, e4, e5, e6⟩ := r2.seqM w.gh h2
    refine ⟨l, m, vs, us, e1, e4, e2, e5, by rw [← e3.length, ← e6.length]; exact hl, fun p hp => ?_⟩
    exact q G _ _ (Same.refl G) (w.lst hp (e3.append e6))
  · cases h
@[simp] def fRep (t u : T) : Option T := t.seqM.bind fun a => match u with
  | .val (.int k) => if decide (-(2 ^ 63) ≤ k) && decide (k < 2 ^ 63) && decide (a.length * k.toNat ≤ sizeLine) then some (.lst (List.replicate k.toNat a).flatten) else none
  | _ => none
end
end DL


/-! D-layer, part f: slices, built-ins, methods. -/
namespace DL
open PySem PySem.Spec PyProof.Rows L2
variable [Tabs]
section
variable {K : PySem.W.Frag}
theorem make_rep : MakeOp K rRep fRep := by
  intro G Fm H σ e t u x y fa fb z Q w r1 r2 h q
  obtain ⟨a, h1, h⟩ := bind_some h
  cases r2 <;> first | (cases h; done) | skip
  rename_i dd r2
  cases r2 <;> first | (cases h; done) | skip
  rename_i k
  have h : (if decide (-(2 ^ 63) ≤ k) && decide (k < 2 ^ 63) && decide (a.length * k.toNat ≤ sizeLine) then some (T.lst (List.replicate k.toNat a).flatten) else none) = some z := h
  split at h
  · rename_i hc
    simp only [Bool.and_eq_true, decide_eq_true_eq] at hc
    cases (Option.some.inj h)
    obtain ⟨l, vs, e1, e2, e3⟩ := r1.seqM w.gh h1
    refine ⟨l, k, vs, e1, rfl, e2, hc.1.1, hc.1.2, by rw [← e3.length]; exact hc.2, fun p hp => ?_⟩
    exact q G _ _ (Same.refl G) (w.lst hp (e3.flat k.toNat))
  · cases h
end
/-! ### slices -/
def tOpt (K : PySem.W.Frag) (W : WX) (g : Gn (Option Int)) : TO := fun σ H Q => ∃ G Fm env, Wd K G Fm H σ env ∧ tR K W σ G Fm (g env) (fun o e G' H' => Wd K G' Fm H' σ e → Q o H')
abbrev PtO (X : Cx) (W : WX) (e : Option Expr) (g : Gn (Option Int)) : Prop := PO X e (tOpt X.K W g)
theorem PO.imp {X : Cx} {e : Option Expr} {t t' : TO} (h : PO X e t) (q : ∀ σ H Q, t' σ H Q → t σ H Q) : PO X e t' := ⟨fun pins s σ H Q I hw => h.run pins s σ H Q I (q σ H Q hw)⟩
@[simp] def gNoPart : Gn (Option Int) := fun env => .ok none env
@[simp] def gPart (g : Gn D) : Gn (Option Int) := fun env => (g env).bind fun d e => match d with
  | .int i => .ok (some i) e
  | _ => .bad
section
variable {X : Cx} {W : WX} {a : Expr} {lo hi : Option Expr} {pos p2 : Pos} {va : Gn Vl} {gl gh : Gn (Option Int)}
theorem pt_no : PtO X W none gNoPart := PO.imp po_none fun σ H Q ⟨G, Fm, env, w, q⟩ => q G H (Same.refl G) w
theorem pt_some {e : Expr} {g : Gn D} (h : DE X W e g) : PtO X W (some e) (gPart g) := PO.imp (po_some h) fun σ H Q ⟨G, Fm, env, w, q⟩ =>
  seqD w q fun d e G1 H1 v s w1 r1 q1 => by
    cases d with
    | int i => cases r1; exact ⟨i, rfl, q1 G1 H1 (Same.refl G1) w1⟩
    | _ => exact q1.elim
theorem seqO {α : Type} {K : PySem.W.Frag} {σ : L2.St} {G Fm H : Hp} {env : Env} {P : α → Env → Hp → Hp → Prop} {g : Gn (Option Int)} {k : Option Int → Env → R α} {Q : Option Int → Hp → Prop} (w : Wd K G Fm H σ env) (h : tR K W σ G Fm ((g env).bind k) P)
    (q : ∀ o e G1 H1, Same G G1 → Wd K G1 Fm H1 σ e → tR K W σ G1 Fm (k o e) P → Q o H1) : tOpt K W g σ H Q :=
  ⟨G, Fm, env, w, h.bind.imp fun b e G1 H1 s h1 w1 => q b e G1 H1 s w1 h1⟩
/-- cut -/
def cutD {α : Type} (xs : List α) (lo hi : Option Int) : List α := (xs.drop (HT.sIx xs.length 0 lo)).take (HT.sIx xs.length xs.length hi - HT.sIx xs.length 0 lo)
theorem RDs.cut {K : PySem.W.Frag} {G : Hp} {ds : List D} {vs : List V} (h : RDs K G ds vs) (lo hi : Option Int) : RDs K G (cutD ds lo hi) (cutV vs lo hi) := by
  unfold cutD cutV
  rw [← h.length]
  exact (h.drop _).take _
@[simp] def gSlL (a : Gn Vl) (l h : Gn (Option Int)) : Gn T := fun env => (a env).bind fun x e1 => (l e1).bind fun lo e2 => (h e2).bind fun hi e3 => .lift (((x.get e3).bind T.seqL).map fun ds => .lst (cutD ds lo hi)) e3
theorem oe_slL (ha : VE X W a va) (hl : PtO X W lo gl) (hh : PtO X W hi gh) : OE X W (.Subscript a (.Slice lo hi none p2) pos) (gSlL va gl gh) := PE.imp (pe_slice sl_list ha hl hh) fun σ H Q ⟨G, Fm, env, w, q⟩ =>
  seqV w q fun x e1 G1 H1 v s1 w1 r1 q1 => seqO w1 q1 fun lo e2 G2 H2 s2 w2 q2 => seqO w2 q2 fun hi e3 G3 H3 s3 w3 q3 => by
    obtain ⟨z, hz, q4⟩ := q3.lift
    obtain ⟨ds, hd, rfl⟩ := Option.map_eq_some_iff.mp hz
    obtain ⟨t, ht, hd⟩ := bind_some hd
    obtain ⟨fa, ra⟩ := ((r1.mono s2).mono s3).tree w3 ht
    obtain ⟨b, vs, e1, e2, e3⟩ := ra.seqL w3.gh hd
    exact ⟨b, vs, e1, e2, fun p hp => q4 G3 _ (Same.refl G3) _ (w3.lst hp (e3.cut lo hi))⟩
@[simp] def gSlT (a : Gn Vl) (l h : Gn (Option Int)) : Gn D := fun env => (a env).bind fun x e1 => (l e1).bind fun lo e2 => (h e2).bind fun hi e3 => .lift (((x.get e3).bind T.seqT).map fun ds => .tup (cutD ds lo hi)) e3
theorem sIx_all {α : Type} {xs : List α} {lo hi : Option Int} (h : HT.sIx xs.length 0 lo = 0 ∧ HT.sIx xs.length xs.length hi = xs.length) : cutD xs lo hi = xs := by
  unfold cutD
  rw [h.1, h.2, List.drop_zero, Nat.sub_zero, List.take_length]
theorem de_slT (ha : VE X W a va) (hl : PtO X W lo gl) (hh : PtO X W hi gh) : DE X W (.Subscript a (.Slice lo hi none p2) pos) (gSlT va gl gh) := PE.imp (pe_slice sl_tupA ha hl hh) fun σ H Q ⟨G, Fm, env, w, q⟩ =>
  seqV w q fun x e1 G1 H1 v s1 w1 r1 q1 => seqO w1 q1 fun lo e2 G2 H2 s2 w2 q2 => seqO w2 q2 fun hi e3 G3 H3 s3 w3 q3 => by
    obtain ⟨z, hz, q4⟩ := q3.lift
    obtain ⟨ds, hd, rfl⟩ := Option.map_eq_some_iff.mp hz
    obtain ⟨t, ht, hd⟩ := bind_some hd
    obtain ⟨fa, ra⟩ := ((r1.mono s2).mono s3).tree w3 ht
    obtain ⟨b, vs, e1, e2, e3⟩ := ra.seqT w3.gh hd
    refine ⟨b, vs, e1, e2, fun hw => ?_, fun _ p hp => ?_⟩
    · rw [← e3.length] at hw
      have q5 := q4 G3 H3 (Same.refl G3) v w3
      rw [sIx_all hw] at q5
      rw [← e1]
      cases ra with
      | val r =>
        cases r with
        | tup h r => cases (Option.some.inj hd); exact q5 (.tup h r)
        | _ => cases hd
      | _ => cases hd
    · obtain ⟨w4, s4, r4⟩ := w3.tup hp (e3.cut lo hi)
      exact q4 _ _ s4 _ w4 r4
@[simp] def gSlS (a : Gn D) (l h : Gn (Option Int)) : Gn D := fun env => (a env).bind fun x e1 => (l e1).bind fun lo e2 => (h e2).bind fun hi e3 => .lift (match x with
  | .str z => if z.length ≤ sizeLine then some (.str (cutS z lo hi)) else none
  | _ => none) e3
theorem de_slS {ga : Gn D} (ha : DE X W a ga) (hl : PtO X W lo gl) (hh : PtO X W hi gh) : DE X W (.Subscript a (.Slice lo hi none p2) pos) (gSlS ga gl gh) := PE.imp (pe_slice sl_str ha hl hh) fun σ H Q ⟨G, Fm, env, w, q⟩ =>
  seqD w q fun x e1 G1 H1 v s1 w1 r1 q1 => seqO w1 q1 fun lo e2 G2 H2 s2 w2 q2 => seqO w2 q2 fun hi e3 G3 H3 s3 w3 q3 => by
    obtain ⟨z, hz, q4⟩ := q3.lift
    cases x with
    | str x =>
      cases r1
      have hz : (if x.length ≤ sizeLine then some (D.str (cutS x lo hi)) else none) = some z := hz
      split at hz
      · rename_i hl
        cases (Option.some.inj hz)
        exact ⟨x, rfl, hl, q4 G3 H3 (Same.refl G3) _ w3 (.str _)⟩
      · cases hz
    | _ => cases hz
@[simp] def gRevL (a : Gn Vl) : Gn T := fun env => (a env).bind fun x e => .lift (((x.get e).bind T.seqL).map fun ds => .lst ds.reverse) e
theorem oe_revL {k : Nat} {p1 p3 p4 : Pos} (ha : VE X W a va) : OE X W (.Subscript a (.Slice none none (some (.UnaryOp .USub (.Constant (.int 1) k p1) p2)) p3) pos) (gRevL va) := PE.imp (pe_revL ha) fun σ H Q ⟨G, Fm, env, w, q⟩ =>
  seqV w q fun x e1 G1 H1 v s1 w1 r1 q1 => by
    obtain ⟨z, hz, q4⟩ := q1.lift
    obtain ⟨ds, hd, rfl⟩ := Option.map_eq_some_iff.mp hz
    obtain ⟨t, ht, hd⟩ := bind_some hd
    obtain ⟨fa, ra⟩ := r1.tree w1 ht
    obtain ⟨b, vs, e1, e2, e3⟩ := ra.seqL w1.gh hd
    exact ⟨b, vs, e1, e2, fun p hp => q4 G1 _ (Same.refl G1) _ (w1.lst hp e3.reverse)⟩
end
/-! ### arguments that are only looked at -/
inductive RVs (K : PySem.W.Frag) (G : Hp) (σ : L2.St) : List Vl → List V → Prop
  | nil : RVs K G σ [] []
  | cons {l : Vl} {v : V} {ls : List Vl} {vs : List V} : RV K G σ l v → RVs K G σ ls vs → RVs K G σ (l :: ls) (v :: vs)
theorem RVs.mono {K : PySem.W.Frag} {G G' : Hp} {σ : L2.St} (s : Same G G') : ∀ {ls : List Vl} {vs : List V}, RVs K G σ ls vs → RVs K G' σ ls vs
  | _, _, .nil => .nil
  | _, _, .cons h r => .cons (h.mono s) (RVs.mono s r)
inductive TVs (K : PySem.W.Frag) (G H : Hp) : List T → List V → Prop
  | nil : TVs K G H [] []
  | cons {t : T} {v : V} {f : List Addr} {ts : List T} {vs : List V} : RT K G H t v f → TVs K G H ts vs → TVs K G H (t :: ts) (v :: vs)
@[simp] def gets (e : Env) : List Vl → Option (List T)
  | [] => some []
  | l :: ls => (l.get e).bind fun t => (gets e ls).map (t :: ·)
theorem RVs.trees {K : PySem.W.Frag} {G Fm H : Hp} {σ : L2.St} {e : Env} (w : Wd K G Fm H σ e) : ∀ {ls : List Vl} {vs : List V} {ts : List T}, RVs K G σ ls vs → gets e ls = some ts → TVs K G H ts vs
  | _, _, ts, .nil, q => by cases (Option.some.inj q); exact .nil
  | _, _, ts, .cons h r, q => by
    obtain ⟨t, h1, q⟩ := bind_some (show Option.bind _ _ = some ts from q)
    obtain ⟨us, h2, rfl⟩ := Option.map_eq_some_iff.mp q
    obtain ⟨f, h3⟩ := h.tree w h1
    exact .cons h3 (RVs.trees w r h2)
def PVs (K : PySem.W.Frag) (Fm : Hp) (σ : L2.St) (Q : List V → Hp → Prop) : List Vl → Env → Hp → Hp → Prop := fun ls e G H => ∀ vs, Wd K G Fm H σ e → RVs K G σ ls vs → Q vs H
def tVA (K : PySem.W.Frag) (W : WX) (g : Gn (List Vl)) : TA := fun σ H Q => ∃ G Fm env, Wd K G Fm H σ env ∧ tR K W σ G Fm (g env) (PVs K Fm σ Q)
abbrev VA (X : Cx) (W : WX) (es : List Expr) (g : Gn (List Vl)) : Prop := PA X es (tVA X.K W g)
@[simp] def gNilV : Gn (List Vl) := fun env => .ok [] env
@[simp] def gConsV (g : Gn Vl) (k : Gn (List Vl)) : Gn (List Vl) := fun env => (g env).bind fun d e => (k e).map (d :: ·)
section
variable {X : Cx} {W : WX} {a : Expr} {es : List Expr} {pos : Pos} {va : Gn Vl} {k : Gn (List Vl)}
theorem va_nil : VA X W [] gNilV := PA.imp pa_nil fun σ H Q ⟨G, Fm, env, w, q⟩ => q G H (Same.refl G) [] w .nil
theorem va_cons (ha : VE X W a va) (hr : VA X W es k) (hs : starEach (a :: es) X.env = (false, eval a X.env) :: starEach es X.env := by rfl) : VA X W (a :: es) (gConsV va k) := PA.imp (pa_cons ha hr hs) fun σ H Q ⟨G, Fm, env, w, q⟩ =>
  seqV w q fun d e G1 H1 v s w1 r1 q1 => ⟨G1, Fm, e, w1, q1.map.imp fun ds e2 G2 H2 s2 h vs w2 r2 => h (v :: vs) w2 (.cons (r1.mono s2) r2)⟩
theorem seqVs {α : Type} {K : PySem.W.Frag} {σ : L2.St} {G Fm H : Hp} {env : Env} {P : α → Env → Hp → Hp → Prop} {g : Gn (List Vl)} {k : List Vl → Env → R α} {Q : List V → Hp → Prop} (w : Wd K G Fm H σ env) (h : tR K W σ G Fm ((g env).bind k) P)
    (q : ∀ ls e G1 H1 vs, Same G G1 → Wd K G1 Fm H1 σ e → RVs K G1 σ ls vs → tR K W σ G1 Fm (k ls e) P → Q vs H1) : tVA K W g σ H Q :=
  ⟨G, Fm, env, w, h.bind.imp fun d e G1 H1 s h1 v w1 r1 => q d e G1 H1 v s w1 r1 h1⟩
/-! ### built-ins -/
def PureCall (K : PySem.W.Frag) (r : List V → Hp → VK → Prop) (f : List T → Option D) : Prop := ∀ (G H : Hp) (ts : List T) (vs : List V) (d : D) (Q : VK), Same G H → TVs K G H ts vs → f ts = some d → (∀ v, RD K G d v → Q v H) → r vs H Q
def MakeCall (K : PySem.W.Frag) (r : List V → Hp → VK → Prop) (f : List T → Option T) : Prop := ∀ (G Fm H : Hp) (σ : L2.St) (e : Env) (ts : List T) (vs : List V) (z : T) (Q : VK), Wd K G Fm H σ e → TVs K G H ts vs → f ts = some z →
  (∀ G' H' v, Same G G' → Wd K G' Fm H' (some v :: σ) (some z :: e) → Q v H') → r vs H Q
@[simp] def gCallD (f : List T → Option D) (k : Gn (List Vl)) : Gn D := fun env => (k env).bind fun ls e => .lift ((gets e ls).bind f) e
@[simp] def gCallT (f : List T → Option T) (k : Gn (List Vl)) : Gn T := fun env => (k env).bind fun ls e => .lift ((gets e ls).bind f) e
theorem tCB_D {r : List V → Hp → VK → Prop} {f : List T → Option D} (hp : PureCall X.K r f) {σ : L2.St} {H : Hp} {Q : VK} (h : tDE X.K W (gCallD f k) σ H Q) : tCB r (tVA X.K W k) σ H Q := by
  obtain ⟨G, Fm, env, w, q⟩ := h
  refine seqVs w q fun ls e G1 H1 vs s w1 r1 q1 => ?_
  obtain ⟨z, hz, q2⟩ := q1.lift
  obtain ⟨ts, h1, h2⟩ := bind_some hz
  exact hp G1 H1 ts vs z Q w1.gh (r1.trees w1 h1) h2 fun v r => q2 G1 H1 (Same.refl G1) v w1 r
theorem tCB_T {r : List V → Hp → VK → Prop} {f : List T → Option T} (hp : MakeCall X.K r f) {σ : L2.St} {H : Hp} {Q : VK} (h : tOE X.K W (gCallT f k) σ H Q) : tCB r (tVA X.K W k) σ H Q := by
  obtain ⟨G, Fm, env, w, q⟩ := h
  refine seqVs w q fun ls e G1 H1 vs s w1 r1 q1 => ?_
  obtain ⟨z, hz, q2⟩ := q1.lift
  obtain ⟨ts, h1, h2⟩ := bind_some hz
  exact hp G1 Fm H1 σ e ts vs z Q w1 (r1.trees w1 h1) h2 fun G' H' v s w3 => q2 G' H' s v w3
theorem de_callB {id : String} {x : Str} {p : Pos} {r : List V → Hp → VK → Prop} {f : List T → Option D} (hc : CallR X (.builtin id) r) (hp : PureCall X.K r f) (hg : Gl X x) (hm : X.mg x = none) (hv : bootBuiltins x = some (.builtin id)) (ha : VA X W (a :: es) k) (hn : x ≠ "__name__" := by decide) (hdb : (x == ("__debug__" : Str)) = false := by decide)
    (he : starEach (a :: es) X.env = (false, eval a X.env) :: starEach es X.env := by rfl) (hpl : (backTo pos (starEach es X.env)).any (·.1) = false := by rfl) : DE X W (.Call (.Name x p) (a :: es) [] pos) (gCallD f k) :=
  PE.imp (pe_callB hc hg hm hv ha hn hdb he hpl) fun σ H Q h => tCB_D hp h
theorem oe_callB {id : String} {x : Str} {p : Pos} {r : List V → Hp → VK → Prop} {f : List T → Option T} (hc : CallR X (.builtin id) r) (hp : MakeCall X.K r f) (hg : Gl X x) (hm : X.mg x = none) (hv : bootBuiltins x = some (.builtin id)) (ha : VA X W (a :: es) k) (hn : x ≠ "__name__" := by decide) (hdb : (x == ("__debug__" : Str)) = false := by decide)
    (he : starEach (a :: es) X.env = (false, eval a X.env) :: starEach es X.env := by rfl) (hpl : (backTo pos (starEach es X.env)).any (·.1) = false := by rfl) : OE X W (.Call (.Name x p) (a :: es) [] pos) (gCallT f k) :=
  PE.imp (pe_callB hc hg hm hv ha hn hdb he hpl) fun σ H Q h => tCB_T hp h
theorem de_callTy {Ty : String} {x : Str} {p : Pos} {r : List V → Hp → VK → Prop} {f : List T → Option D} (hc : CallR X (.type Ty) r) (hp : PureCall X.K r f) (hg : Gl X x) (hm : X.mg x = none) (hv : bootBuiltins x = some (.type Ty)) (ha : VA X W (a :: es) k) (hn : x ≠ "__name__" := by decide) (hdb : (x == ("__debug__" : Str)) = false := by decide)
    (he : starEach (a :: es) X.env = (false, eval a X.env) :: starEach es X.env := by rfl) (hpl : (backTo pos (starEach es X.env)).any (·.1) = false := by rfl) : DE X W (.Call (.Name x p) (a :: es) [] pos) (gCallD f k) :=
  PE.imp (pe_callTy hc hg hm hv ha hn hdb he hpl) fun σ H Q h => tCB_D hp h
theorem oe_callTy {Ty : String} {x : Str} {p : Pos} {r : List V → Hp → VK → Prop} {f : List T → Option T} (hc : CallR X (.type Ty) r) (hp : MakeCall X.K r f) (hg : Gl X x) (hm : X.mg x = none) (hv : bootBuiltins x = some (.type Ty)) (ha : VA X W (a :: es) k) (hn : x ≠ "__name__" := by decide) (hdb : (x == ("__debug__" : Str)) = false := by decide)
    (he : starEach (a :: es) X.env = (false, eval a X.env) :: starEach es X.env := by rfl) (hpl : (backTo pos (starEach es X.env)).any (·.1) = false := by rfl) : OE X W (.Call (.Name x p) (a :: es) [] pos) (gCallT f k) :=
  PE.imp (pe_callTy hc hg hm hv ha hn hdb he hpl) fun σ H Q h => tCB_T hp h
end
section
variable {K : PySem.W.Frag}
/-- len -/
@[simp] def lenS : T → Option D
  | .val (.str z) => if z.length ≤ sizeLine then some (.int z.length) else none
  | _ => none
@[simp] def lenT (t : T) : Option D := ((t.seqL.or t.seqT).map fun ds => D.int ds.length).or (lenS t)
@[simp] def fLen : List T → Option D
  | [t] => lenT t
  | _ => none
theorem seq_of {G H : Hp} {t : T} {v : V} {f : List Addr} {ds : List D} (s : Same G H) (r : RT K G H t v f) (e : t.seqL.or t.seqT = some ds) : ∃ a vs, v = .ref a ∧ (SqL K H a vs ∨ SqT K H a vs) ∧ RDs K G ds vs := by
  cases z : t.seqL with
  | some l =>
    rw [z] at e
    cases (Option.some.inj (by simpa using e) : l = ds)
    obtain ⟨a, vs, e1, e2, e3⟩ := r.seqL s z
    exact ⟨a, vs, e1, .inl e2, e3⟩
  | none =>
    rw [z] at e
    obtain ⟨a, vs, e1, e2, e3⟩ := r.seqT s (by simpa using e)
    exact ⟨a, vs, e1, .inr e2, e3⟩
theorem pc_len : PureCall K (fun xs H Q => ∃ x n, xs = [x] ∧ LenV K x H n ∧ Q (.int n) H) fLen := by
  intro G H ts vs d Q s r e q
  match ts, r, e with
  | [t], .cons r .nil, e =>
    have e : lenT t = some d := e
    unfold lenT at e
    cases z : t.seqL.or t.seqT with
    | some ds =>
      obtain ⟨a, vs, e1, e2, e3⟩ := seq_of s r z
      rw [z] at e
      have e : D.int ds.length = d := by simpa using e
      subst e
      refine ⟨_, vs.length, rfl, ?_, by rw [← e3.length]; exact q _ (.int _)⟩
      subst e1
      rcases e2 with e2 | e2
      · exact .inl ⟨vs, e2, rfl⟩
      · exact .inr ⟨vs, e2, rfl⟩
    | none =>
      rw [z] at e
      simp only [Option.map_none, Option.none_or] at e
      cases r with
      | val r =>
        cases r with
        | str y =>
          have e : (if y.length ≤ sizeLine then some (D.int y.length) else none) = some d := e
          split at e
          · rename_i hl
            cases (Option.some.inj e)
            exact ⟨_, y.length, rfl, ⟨hl, rfl⟩, q _ (.int _)⟩
          · cases e
        | _ => cases e
      | _ => cases e
/-- list(x), tuple(x) -/
@[simp] def fList : List T → Option T
  | [t] => (t.seqL.or t.seqT).map T.lst
  | _ => none
theorem mc_list : MakeCall K (fun xs H Q => ∃ p ys, xs = [.ref p] ∧ (SqL K H p ys ∨ SqT K H p ys) ∧ ∀ l, H l = none → Q (.ref l) (upd H l (.lst ys))) fList := by
  intro G Fm H σ e ts vs z Q w r h q
  match ts, r, h with
  | [t], .cons r .nil, h =>
    obtain ⟨ds, hd, rfl⟩ := Option.map_eq_some_iff.mp h
    obtain ⟨a, vs, e1, e2, e3⟩ := seq_of w.gh r hd
    subst e1
    exact ⟨a, vs, rfl, e2, fun l hl => q G _ _ (Same.refl G) (w.lst hl e3)⟩
@[simp] def fTuple : List T → Option T
  | [t] => (t.seqL.or t.seqT).map fun ds => .val (.tup ds)
  | _ => none
theorem mc_tuple : MakeCall K (fun xs H Q => ∃ p ys, xs = [.ref p] ∧ ((SqL K H p ys ∧ ∀ l, H l = none → Q (.ref l) (upd H l (.tup ys))) ∨ (SqT K H p ys ∧ Q (.ref p) H))) fTuple := by
  intro G Fm H σ e ts vs z Q w r h q
  match ts, r, h with
  | [t], .cons r .nil, h =>
    obtain ⟨ds, hd, rfl⟩ := Option.map_eq_some_iff.mp h
    cases hz : t.seqL with
    | some l =>
      rw [hz] at hd
      cases (Option.some.inj (by simpa using hd) : l = ds)
      obtain ⟨a, vs, e1, e2, e3⟩ := r.seqL w.gh hz
      subst e1
      refine ⟨a, vs, rfl, .inl ⟨e2, fun l hl => ?_⟩⟩
      obtain ⟨w2, s2, r2⟩ := w.tup hl e3
      exact q _ _ _ s2 (w2.front r2)
    | none =>
      rw [hz] at hd
      have hd : t.seqT = some ds := by simpa using hd
      obtain ⟨a, vs, e1, e2, e3⟩ := r.seqT w.gh hd
      subst e1
      refine ⟨a, vs, rfl, .inr ⟨e2, ?_⟩⟩
      cases r with
      | val r =>
        cases r with
        | tup h2 r2 => cases (Option.some.inj hd); exact q G H _ (Same.refl G) (w.front (.tup h2 r2))
        | _ => cases hd
      | _ => cases hd
/-- one int or bool in, one thing out -/
@[simp] def f1 (g : D → Option D) : List T → Option D
  | [.val d] => g d
  | _ => none
theorem pc_1 {r : List V → Hp → VK → Prop} {g : D → Option D} (h : ∀ (G H : Hp) (d z : D) (v : V) (Q : VK), Same G H → RD K G d v → g d = some z → (∀ u, RD K G z u → Q u H) → r [v] H Q) : PureCall K r (f1 g) := by
  intro G H ts vs d Q s r e q
  match ts, r, e with
  | [.val x], .cons (.val r) .nil, e => exact h G H x d _ Q s r e q
@[simp] def fAbs : D → Option D
  | .int i => some (.int (if i < 0 then -i else i))
  | _ => none
theorem pc_abs : PureCall K (fun xs H Q => ∃ i, xs = [.int i] ∧ Q (.int (if i < 0 then -i else i)) H) (f1 fAbs) := pc_1 fun G H d z v Q s r e q => by
  cases r <;> first | (cases e; done) | skip
  cases (Option.some.inj e); exact ⟨_, rfl, q _ (.int _)⟩
@[simp] def fInt : D → Option D
  | .int i => some (.int i)
  | .bl b => some (.int (if b then 1 else 0))
  | _ => none
theorem pc_int : PureCall K (fun xs H Q => (∃ i, xs = [.int i] ∧ Q (.int i) H) ∨ ∃ k, xs = [.bl k] ∧ Q (.int (if k then 1 else 0)) H) (f1 fInt) := pc_1 fun G H d z v Q s r e q => by
  cases r <;> first | (cases e; done) | skip
  · cases (Option.some.inj e); exact .inr ⟨_, rfl, q _ (.int _)⟩
  · cases (Option.some.inj e); exact .inl ⟨_, rfl, q _ (.int _)⟩
def fStrI : D → Option D
  | .int i => if i.natAbs.log2 < 1920 then some (.str (toString i)) else none
  | _ => none
theorem pc_str : PureCall K (fun xs H Q => ∃ i, xs = [.int i] ∧ i.natAbs.log2 < 1920 ∧ Q (.str (toString i)) H) (f1 fStrI) := pc_1 fun G H d z v Q s r e q => by
  cases r <;> first | (cases e; done) | skip
  rename_i i
  have e : (if i.natAbs.log2 < 1920 then some (D.str (toString i)) else none) = some z := e
  split at e
  · rename_i h
    cases (Option.some.inj e); exact ⟨_, rfl, h, q _ (.str _)⟩
  · cases e
def fOrd : D → Option D
  | .str x => if x.length = 1 then some (.int (x.cps.getD 0 0 : Nat)) else none
  | _ => none
theorem pc_ord : PureCall K (fun xs H Q => ∃ x, xs = [.str x] ∧ x.length = 1 ∧ Q (.int (x.cps.getD 0 0 : Nat)) H) (f1 fOrd) := pc_1 fun G H d z v Q s r e q => by
  cases r <;> first | (cases e; done) | skip
  rename_i x
  have e : (if x.length = 1 then some (D.int (x.cps.getD 0 0 : Nat)) else none) = some z := e
  split at e
  · rename_i h
    cases (Option.some.inj e); exact ⟨_, rfl, h, q _ (.int _)⟩
  · cases e
/-- max(a, b), min(a, b) -/
@[simp] def f2 (g : D → D → Option D) : List T → Option D
  | [.val a, .val b] => g a b
  | _ => none
theorem pc_2 {r : List V → Hp → VK → Prop} {g : D → D → Option D} (h : ∀ (G H : Hp) (a b z : D) (v u : V) (Q : VK), Same G H → RD K G a v → RD K G b u → g a b = some z → (∀ u, RD K G z u → Q u H) → r [v, u] H Q) : PureCall K r (f2 g) := by
  intro G H ts vs d Q s r e q
  match ts, r, e with
  | [.val x, .val y], .cons (.val r) (.cons (.val r2) .nil), e => exact h G H x y d _ _ Q s r r2 e q
def fMax2 : D → D → Option D := fII fun i j => some (.int (if j > i then j else i))
def fMin2 : D → D → Option D := fII fun i j => some (.int (if j < i then j else i))
theorem pc_max2 : PureCall K (fun xs H Q => ∃ i j, xs = [.int i, .int j] ∧ Q (.int (if j > i then j else i)) H) (f2 fMax2) := pc_2 fun G H a b z v u Q s r1 r2 e q => by
  cases r1 <;> cases r2 <;> first | (cases e; done) | skip
  cases (Option.some.inj e); exact ⟨_, _, rfl, q _ (.int _)⟩
theorem pc_min2 : PureCall K (fun xs H Q => ∃ i j, xs = [.int i, .int j] ∧ Q (.int (if j < i then j else i)) H) (f2 fMin2) := pc_2 fun G H a b z v u Q s r1 r2 e q => by
  cases r1 <;> cases r2 <;> first | (cases e; done) | skip
  cases (Option.some.inj e); exact ⟨_, _, rfl, q _ (.int _)⟩
/-- lists of ints, of bools, of texts -/
def intsOf : List D → Option (List Int)
  | [] => some []
  | .int i :: ds => (intsOf ds).map (i :: ·)
  | _ :: _ => none
def blsOf : List D → Option (List Bool)
  | [] => some []
  | .bl i :: ds => (blsOf ds).map (i :: ·)
  | _ :: _ => none
def strsOf : List D → Option (List Str)
  | [] => some []
  | .str i :: ds => (strsOf ds).map (i :: ·)
  | _ :: _ => none
@[simp] theorem intsOf_map (ns : List Int) : intsOf (ns.map D.int) = some ns := by
  induction ns with
  | nil => rfl
  | cons n ns ih =>
    show (intsOf (ns.map D.int)).map (n :: ·) = some (n :: ns)
    rw [ih]
    rfl
@[simp] theorem blsOf_map (ns : List Bool) : blsOf (ns.map D.bl) = some ns := by
  induction ns with
  | nil => rfl
  | cons n ns ih =>
    show (blsOf (ns.map D.bl)).map (n :: ·) = some (n :: ns)
    rw [ih]
    rfl
@[simp] theorem strsOf_map (ns : List Str) : strsOf (ns.map D.str) = some ns := by
  induction ns with
  | nil => rfl
  | cons n ns ih =>
    show (strsOf (ns.map D.str)).map (n :: ·) = some (n :: ns)
    rw [ih]
    rfl
theorem intsOf_eq : ∀ {ds : List D} {ns : List Int}, intsOf ds = some ns → ds = ns.map D.int
  | [], ns, e => by cases (Option.some.inj e); rfl
  | .int i :: ds, ns, e => by
    obtain ⟨ms, h, rfl⟩ := Option.map_eq_some_iff.mp (show Option.map _ _ = some ns from e)
    rw [intsOf_eq h]
    rfl
theorem blsOf_eq : ∀ {ds : List D} {ns : List Bool}, blsOf ds = some ns → ds = ns.map D.bl
  | [], ns, e => by cases (Option.some.inj e); rfl
  | .bl i :: ds, ns, e => by
    obtain ⟨ms, h, rfl⟩ := Option.map_eq_some_iff.mp (show Option.map _ _ = some ns from e)
    rw [blsOf_eq h]
    rfl
theorem strsOf_eq : ∀ {ds : List D} {ns : List Str}, strsOf ds = some ns → ds = ns.map D.str
  | [], ns, e => by cases (Option.some.inj e); rfl
  | .str i :: ds, ns, e => by
    obtain ⟨ms, h, rfl⟩ := Option.map_eq_some_iff.mp (show Option.map _ _ = some ns from e)
    rw [strsOf_eq h]
    rfl
@[simp] def fSeq1 (g : List D → Option D) : List T → Option D
  | [t] => t.seqL.bind g
  | _ => none
theorem pc_seq1 {r : List V → Hp → VK → Prop} {g : List D → Option D} (h : ∀ (G H : Hp) (a : Addr) (ds : List D) (vs : List V) (z : D) (Q : VK), Same G H → SqL K H a vs → RDs K G ds vs → g ds = some z → (∀ u, RD K G z u → Q u H) → r [.ref a] H Q) : PureCall K r (fSeq1 g) := by
  intro G H ts vs d Q s r e q
  match ts, r, e with
  | [t], .cons r .nil, e =>
    obtain ⟨ds, h1, h2⟩ := bind_some (show Option.bind _ _ = some d from e)
    obtain ⟨a, vs, e1, e2, e3⟩ := r.seqL s h1
    subst e1
    exact h G H a ds vs d Q s e2 e3 h2 q
def fSum (ds : List D) : Option D := (intsOf ds).map fun ns => .int ns.sum
theorem pc_sum : PureCall K (rSum K) (fSeq1 fSum) := pc_seq1 fun G H a ds vs z Q s h r e q => by
  obtain ⟨ns, h1, rfl⟩ := Option.map_eq_some_iff.mp e
  rw [intsOf_eq h1] at r
  rw [r.ints] at h
  exact ⟨a, ns, rfl, h, q _ (.int _)⟩
def fAll (ds : List D) : Option D := (blsOf ds).map fun ns => .bl (ns.all id)
theorem pc_all : PureCall K (rAll K) (fSeq1 fAll) := pc_seq1 fun G H a ds vs z Q s h r e q => by
  obtain ⟨ns, h1, rfl⟩ := Option.map_eq_some_iff.mp e
  rw [blsOf_eq h1] at r
  rw [r.bls] at h
  exact ⟨a, ns, rfl, h, q _ (.bl _)⟩
def fAny (ds : List D) : Option D := (blsOf ds).map fun ns => .bl (ns.any id)
theorem pc_any : PureCall K (rAny K) (fSeq1 fAny) := pc_seq1 fun G H a ds vs z Q s h r e q => by
  obtain ⟨ns, h1, rfl⟩ := Option.map_eq_some_iff.mp e
  rw [blsOf_eq h1] at r
  rw [r.bls] at h
  exact ⟨a, ns, rfl, h, q _ (.bl _)⟩
def maxI : List Int → Option Int
  | [] => none
  | n :: ns => some (ns.foldl max n)
def minI : List Int → Option Int
  | [] => none
  | n :: ns => some (ns.foldl min n)
theorem foldl_max_spec : ∀ (ns : List Int) (n : Int), (ns.foldl max n = n ∨ ns.foldl max n ∈ ns) ∧ n ≤ ns.foldl max n ∧ ∀ y ∈ ns, y ≤ ns.foldl max n
  | [], n => ⟨.inl rfl, Int.le_refl _, fun _ h => nomatch h⟩
  | m :: ns, n => by
    obtain ⟨h1, h2, h3⟩ := foldl_max_spec ns (max n m)
    show (ns.foldl max (max n m) = n ∨ ns.foldl max (max n m) ∈ m :: ns) ∧ n ≤ ns.foldl max (max n m) ∧ ∀ y ∈ m :: ns, y ≤ ns.foldl max (max n m)
    refine ⟨?_, by omega, fun y hy => ?_⟩
    · rcases h1 with h1 | h1
      · rw [h1]
        rcases Int.le_total n m with h | h
        · right; rw [Int.max_eq_right h]; exact List.mem_cons_self
        · left; exact Int.max_eq_left h
      · exact .inr (List.mem_cons_of_mem _ h1)
    · rcases List.mem_cons.mp hy with e | hy
      · subst e; omega
      · exact h3 y hy
theorem foldl_min_spec : ∀ (ns : List Int) (n : Int), (ns.foldl min n = n ∨ ns.foldl min n ∈ ns) ∧ ns.foldl min n ≤ n ∧ ∀ y ∈ ns, ns.foldl min n ≤ y
  | [], n => ⟨.inl rfl, Int.le_refl _, fun _ h => nomatch h⟩
  | m :: ns, n => by
    obtain ⟨h1, h2, h3⟩ := foldl_min_spec ns (min n m)
    show (ns.foldl min (min n m) = n ∨ ns.foldl min (min n m) ∈ m :: ns) ∧ ns.foldl min (min n m) ≤ n ∧ ∀ y ∈ m :: ns, ns.foldl min (min n m) ≤ y
    refine ⟨?_, by omega, fun y hy => ?_⟩
    · rcases h1 with h1 | h1
      · rw [h1]
        rcases Int.le_total n m with h | h
        · left; exact Int.min_eq_left h
        · right; rw [Int.min_eq_right h]; exact List.mem_cons_self
      · exact .inr (List.mem_cons_of_mem _ h1)
    · rcases List.mem_cons.mp hy with e | hy
      · subst e; omega
      · exact h3 y hy
def fMax (ds : List D) : Option D := (intsOf ds).bind fun ns => (maxI ns).map D.int
theorem pc_max : PureCall K (rMax K) (fSeq1 fMax) := pc_seq1 fun G H a ds vs z Q s h r e q => by
  obtain ⟨ns, h1, e⟩ := bind_some e
  obtain ⟨m, h2, rfl⟩ := Option.map_eq_some_iff.mp e
  rw [intsOf_eq h1] at r
  rw [r.ints] at h
  cases ns with
  | nil => cases h2
  | cons n ns =>
    have h2 : ns.foldl max n = m := Option.some.inj h2
    subst h2
    obtain ⟨k1, k2, k3⟩ := foldl_max_spec ns n
    refine ⟨a, n :: ns, rfl, h, Nat.succ_pos _, fun m hm hy => ?_⟩
    have e : m = ns.foldl max n := by
      have a1 : m ≤ ns.foldl max n := (List.mem_cons.mp hm).elim (fun e => by rw [e]; exact k2) (k3 m)
      have a2 : ns.foldl max n ≤ m := k1.elim (fun e => by rw [e]; exact hy n List.mem_cons_self) (fun e => hy _ (List.mem_cons_of_mem _ e))
      omega
    rw [e]
    exact q _ (.int _)
def fMin (ds : List D) : Option D := (intsOf ds).bind fun ns => (minI ns).map D.int
theorem pc_min : PureCall K (rMin K) (fSeq1 fMin) := pc_seq1 fun G H a ds vs z Q s h r e q => by
  obtain ⟨ns, h1, e⟩ := bind_some e
  obtain ⟨m, h2, rfl⟩ := Option.map_eq_some_iff.mp e
  rw [intsOf_eq h1] at r
  rw [r.ints] at h
  cases ns with
  | nil => cases h2
  | cons n ns =>
    have h2 : ns.foldl min n = m := Option.some.inj h2
    subst h2
    obtain ⟨k1, k2, k3⟩ := foldl_min_spec ns n
    refine ⟨a, n :: ns, rfl, h, Nat.succ_pos _, fun m hm hy => ?_⟩
    have e : m = ns.foldl min n := by
      have a1 : ns.foldl min n ≤ m := (List.mem_cons.mp hm).elim (fun e => by rw [e]; exact k2) (k3 m)
      have a2 : m ≤ ns.foldl min n := k1.elim (fun e => by rw [e]; exact hy n List.mem_cons_self) (fun e => hy _ (List.mem_cons_of_mem _ e))
      omega
    rw [e]
    exact q _ (.int _)
end
end DL


/-! D-layer, part g: statements, loops. -/
namespace DL
open PySem PySem.Spec PyProof.Rows L2
variable [Tabs]
inductive Sr where
  | nx (e : Env) | rt (t : T) (e : Env) | br (e : Env) | ct (e : Env) | exc (x : Ex) (e : Env) | bad
abbrev Gs := Env → Sr
/-- the slots of things that the caller lent stand for the same objects; as many slots as before -/
def Pn (pin : List Nat) (σ σ' : L2.St) : Prop := (∀ i ∈ pin, σ'[i]? = σ[i]?) ∧ σ'.length = σ.length
theorem Pn.refl {pin : List Nat} (σ : L2.St) : Pn pin σ σ := ⟨fun _ _ => rfl, rfl⟩
theorem Pn.trans {pin : List Nat} {σ σ1 σ2 : L2.St} (a : Pn pin σ σ1) (b : Pn pin σ1 σ2) : Pn pin σ σ2 := ⟨fun i hi => (b.1 i hi).trans (a.1 i hi), b.2.trans a.2⟩
theorem Pn.set {pin : List Nat} {σ : L2.St} {i : Nat} {v : Option V} (h : i ∉ pin) : Pn pin σ (σ.set i v) := ⟨fun j hj => List.getElem?_set_ne (fun e => h (by rw [e]; exact hj)), List.length_set⟩
def tS (K : PySem.W.Frag) (W : WX) (pin : List Nat) (σ : L2.St) (G Fm : Hp) (r : Sr) (D : Ends) : Prop := match r with
  | .nx e => ∀ G' H' σ', Same G G' → Pn pin σ σ' → Wd K G' Fm H' σ' e → D.nx σ' H'
  | .br e => ∀ G' H' σ', Same G G' → Pn pin σ σ' → Wd K G' Fm H' σ' e → D.bk σ' H'
  | .ct e => ∀ G' H' σ', Same G G' → Pn pin σ σ' → Wd K G' Fm H' σ' e → D.ct σ' H'
  | .rt t e => ∀ G' H' σ' v, Same G G' → Pn pin σ σ' → Wd K G' Fm H' (some v :: σ') (some t :: e) → D.rt v H'
  | .exc x e => ∀ G' H' σ' dd, Same G G' → Pn pin σ σ' → Wd K G' Fm H' σ' e → ExOk K G' H' x dd → W (.ref x.C) dd σ' H'
  | .bad => False
def tDS (K : PySem.W.Frag) (W : WX) (pin : List Nat) (f : Gs) : TS := fun D σ H => ∃ G Fm env, Wd K G Fm H σ env ∧ tS K W pin σ G Fm (f env) D
abbrev DS (X : Cx) (W : WX) (pin : List Nat) (st : Stmt) (f : Gs) : Prop := PS X st (tDS X.K W pin f)
abbrev DSs (X : Cx) (W : WX) (pin : List Nat) (sts : List Stmt) (f : Gs) : Prop := PSs X sts (tDS X.K W pin f)
section
variable {K : PySem.W.Frag} {W : WX} {pin : List Nat} {σ σ1 : L2.St} {G G1 Fm : Hp} {Dn : Ends}
theorem tS.mono {r : Sr} (h : tS K W pin σ G Fm r Dn) (s : Same G G1) (p : Pn pin σ σ1) : tS K W pin σ1 G1 Fm r Dn := by
  cases r with
  | nx e => exact fun G' H' σ' s' p' => h G' H' σ' (s.trans s') (p.trans p')
  | br e => exact fun G' H' σ' s' p' => h G' H' σ' (s.trans s') (p.trans p')
  | ct e => exact fun G' H' σ' s' p' => h G' H' σ' (s.trans s') (p.trans p')
  | rt t e => exact fun G' H' σ' v s' p' => h G' H' σ' v (s.trans s') (p.trans p')
  | exc x e => exact fun G' H' σ' dd s' p' => h G' H' σ' dd (s.trans s') (p.trans p')
  | bad => exact h
theorem PS.impL {X : Cx} {st : Stmt} {t t' : TS} (h : PS X st t) (q : ∀ D σ H, σ.length = X.N.length → t' D σ H → t D σ H) : PS X st t' := ⟨fun pins s σ H D I hw => h.run pins s σ H D I (q D σ H I.len hw)⟩
/-- an expression in a statement -/
def Sr.of {α : Type} (r : R α) (k : α → Env → Sr) : Sr := match r with
  | .ok a e => k a e
  | .exc x e => .exc x e
  | .bad => .bad
@[simp] theorem Sr.of_ok {α : Type} (a : α) (e : Env) (k : α → Env → Sr) : Sr.of (.ok a e) k = k a e := rfl
@[simp] theorem Sr.of_exc {α : Type} (x : Ex) (e : Env) (k : α → Env → Sr) : Sr.of (.exc x e : R α) k = .exc x e := rfl
@[simp] theorem Sr.of_bad {α : Type} (k : α → Env → Sr) : Sr.of (.bad : R α) k = .bad := rfl
theorem tS.of {α : Type} {r : R α} {k : α → Env → Sr} (h : tS K W pin σ G Fm (Sr.of r k) Dn) : tR K W σ G Fm r (fun a e G' H' => tS K W pin σ G' Fm (k a e) Dn) := by
  cases r with
  | ok a e => exact fun G' H' s => tS.mono (r := k a e) h s (Pn.refl σ)
  | exc x e => exact fun G' H' dd s w x => h G' H' σ dd s (Pn.refl σ) w x
  | bad => exact h
theorem sD {env : Env} {H : Hp} {g : Gn D} {k : D → Env → Sr} {Q : VK} (w : Wd K G Fm H σ env) (h : tS K W pin σ G Fm (Sr.of (g env) k) Dn)
    (q : ∀ d e G1 H1 v, Same G G1 → Wd K G1 Fm H1 σ e → RD K G1 d v → tS K W pin σ G1 Fm (k d e) Dn → Q v H1) : tDE K W g σ H Q :=
  ⟨G, Fm, env, w, h.of.imp fun d e G1 H1 s h1 v w1 r1 => q d e G1 H1 v s w1 r1 h1⟩
theorem sT {env : Env} {H : Hp} {g : Gn T} {k : T → Env → Sr} {Q : VK} (w : Wd K G Fm H σ env) (h : tS K W pin σ G Fm (Sr.of (g env) k) Dn)
    (q : ∀ t e G1 H1 v, Same G G1 → Wd K G1 Fm H1 (some v :: σ) (some t :: e) → tS K W pin σ G1 Fm (k t e) Dn → Q v H1) : tOE K W g σ H Q :=
  ⟨G, Fm, env, w, h.of.imp fun d e G1 H1 s h1 v w1 => q d e G1 H1 v s w1 h1⟩
theorem sB {env : Env} {H : Hp} {g : Gn Bool} {k : Bool → Env → Sr} {Q : Bool → Hp → Prop} (w : Wd K G Fm H σ env) (h : tS K W pin σ G Fm (Sr.of (g env) k) Dn)
    (q : ∀ b e G1 H1, Same G G1 → Wd K G1 Fm H1 σ e → tS K W pin σ G1 Fm (k b e) Dn → Q b H1) : tBE K W g σ H Q :=
  ⟨G, Fm, env, w, h.of.imp fun b e G1 H1 s h1 w1 => q b e G1 H1 s w1 h1⟩
theorem sV {env : Env} {H : Hp} {g : Gn Vl} {k : Vl → Env → Sr} {Q : VK} (w : Wd K G Fm H σ env) (h : tS K W pin σ G Fm (Sr.of (g env) k) Dn)
    (q : ∀ l e G1 H1 v, Same G G1 → Wd K G1 Fm H1 σ e → RV K G1 σ l v → tS K W pin σ G1 Fm (k l e) Dn → Q v H1) : tVE K W g σ H Q :=
  ⟨G, Fm, env, w, h.of.imp fun d e G1 H1 s h1 v w1 r1 => q d e G1 H1 v s w1 r1 h1⟩
end
section
variable {X : Cx} {W : WX} {pin : List Nat} {st : Stmt} {rest : List Stmt} {e : Expr} {pos : Pos}
/-! ### blocks -/
@[simp] def gSeq (f g : Gs) : Gs := fun env => match f env with
  | .nx e => g e
  | r => r
@[simp] def gNx : Gs := fun env => .nx env
theorem dss_nil : DSs X W pin [] gNx := PSs.imp pss_nil fun D σ H ⟨G, Fm, env, w, q⟩ => q G H σ (Same.refl G) (Pn.refl σ) w
theorem dss_one {f : Gs} (h : DS X W pin st f) : DSs X W pin [st] f := pss_one h
theorem dss_cons {f g : Gs} (h : DS X W pin st f) (h2 : DSs X W pin rest g) : DSs X W pin (st :: rest) (gSeq f g) := PSs.imp (pss_cons h h2) fun D σ H ⟨G, Fm, env, w, q⟩ => ⟨G, Fm, env, w, by
  have q : tS X.K W pin σ G Fm (match f env with | .nx e => g e | r => r) D := q
  cases hf : f env with
  | nx e => rw [hf] at q; exact fun G' H' σ' s p w' => ⟨G', Fm, e, w', q.mono s p⟩
  | _ => rw [hf] at q; exact q⟩
theorem ds_pass : DS X W pin (.Pass pos) gNx := PS.imp ps_pass fun D σ H ⟨G, Fm, env, w, q⟩ => q G H σ (Same.refl G) (Pn.refl σ) w
@[simp] def gBr : Gs := fun env => .br env
@[simp] def gCt : Gs := fun env => .ct env
theorem ds_break : DS X W pin (.Break pos) gBr := PS.imp ps_break fun D σ H ⟨G, Fm, env, w, q⟩ => q G H σ (Same.refl G) (Pn.refl σ) w
theorem ds_continue : DS X W pin (.Continue pos) gCt := PS.imp ps_continue fun D σ H ⟨G, Fm, env, w, q⟩ => q G H σ (Same.refl G) (Pn.refl σ) w
/-! ### small statements -/
@[simp] def gRet (g : Gn T) : Gs := fun env => .of (g env) fun t e => .rt t e
theorem ds_ret {g : Gn T} (h : OE X W e g) : DS X W pin (.Return (some e) pos) (gRet g) := PS.imp (ps_ret h) fun D σ H ⟨G, Fm, env, w, q⟩ => sT w q fun t e G1 H1 v s w1 q1 => q1 G1 H1 σ v (Same.refl G1) (Pn.refl σ) w1
@[simp] def gRetN : Gs := fun env => .rt (.val .non) env
theorem ds_retN : DS X W pin (.Return none pos) gRetN := PS.imp ps_retN fun D σ H ⟨G, Fm, env, w, q⟩ => q G H σ .non (Same.refl G) (Pn.refl σ) (w.front .non)
@[simp] def gExpr (g : Gn D) : Gs := fun env => .of (g env) fun _ e => .nx e
theorem ds_expr {g : Gn D} (h : DE X W e g) (hs : swapsWith e none pos.line X.env = pure false := by rfl) : DS X W pin (.Expr e pos) (gExpr g) := PS.imp (ps_expr h hs) fun D σ H ⟨G, Fm, env, w, q⟩ => sD (g := g) w q fun d e G1 H1 v s w1 r1 q1 => q1 G1 H1 σ (Same.refl G1) (Pn.refl σ) w1
@[simp] def gSet (i : Nat) (g : Gn D) : Gs := fun env => .of (g env) fun d e => .nx (e.set i (some (.val d)))
@[simp] def gSetT (i : Nat) (g : Gn T) : Gs := fun env => .of (g env) fun t e => .nx (e.set i (some t))
section
variable {i : Nat} {x : Str} {pos' : Pos}
theorem ds_set {g : Gn D} (hN : X.N.Nodup) (hi : X.N[i]? = some x) (hx : Loc X.env.scope x) (hp : i ∉ pin) (he : DE X W e g) (hs : swapsWith e (some (.Name x pos')) pos.line X.env = pure false := by rfl) (hf : X.fn x = true ∨ X.env.scope.names.lookup x = some .local := by first | exact .inl rfl | exact .inr rfl | assumption) :
    DS X W pin (.Assign [.Name x pos'] e pos) (gSet i g) := PS.impL (ps_set hN hi hx he hs hf) fun D σ H hl ⟨G, Fm, env, w, q⟩ => sD (g := g) w q fun d e G1 H1 v s w1 r1 q1 =>
  q1 G1 H1 _ (Same.refl G1) (Pn.set hp) (w1.set r1 (by rw [← w1.len, hl]; exact (List.getElem?_eq_some_iff.mp hi).1))
theorem ds_setT {g : Gn T} (hN : X.N.Nodup) (hi : X.N[i]? = some x) (hx : Loc X.env.scope x) (hp : i ∉ pin) (he : OE X W e g) (hs : swapsWith e (some (.Name x pos')) pos.line X.env = pure false := by rfl) (hf : X.fn x = true ∨ X.env.scope.names.lookup x = some .local := by first | exact .inl rfl | exact .inr rfl | assumption) :
    DS X W pin (.Assign [.Name x pos'] e pos) (gSetT i g) := PS.impL (ps_set hN hi hx he hs hf) fun D σ H hl ⟨G, Fm, env, w, q⟩ => sT w q fun t e G1 H1 v s w1 q1 =>
  q1 G1 H1 _ (Same.refl G1) (Pn.set hp) (w1.inn (by rw [← w1.drop.len, hl]; exact (List.getElem?_eq_some_iff.mp hi).1))
/-- x op= e, data -/
@[simp] def gAug (i : Nat) (f : D → D → Option D) (g : Gn D) : Gs := fun env => match env[i]? with
  | some (some (.val d)) => .of (g env) fun y e => match f d y with
    | some z => .nx (e.set i (some (.val z)))
    | none => .bad
  | _ => .bad
theorem ds_aug {op : Operator} {r : R2} {f : D → D → Option D} {g : Gn D} (hN : X.N.Nodup) (hi : X.N[i]? = some x) (hx : Loc X.env.scope x) (hp : i ∉ pin) (ho : OpR X (inplaceOp op) r) (hf : PureOp X.K r f) (he : DE X W e g) (hfn : X.fn x = true ∨ X.env.scope.names.lookup x = some .local := by first | exact .inl rfl | exact .inr rfl | assumption) :
    DS X W pin (.AugAssign (.Name x pos') op e pos) (gAug i f g) := PS.impL (ps_aug hN hi hx he ho hfn) fun D σ H hl ⟨G, Fm, env, w, q⟩ => by
  have q : tS X.K W pin σ G Fm (match env[i]? with
    | some (some (.val d)) => .of (g env) fun y e => match f d y with
      | some z => .nx (e.set i (some (.val z)))
      | none => .bad
    | _ => .bad) D := q
  split at q
  · rename_i d hd
    obtain ⟨v, h1, h2⟩ := w.rd hd
    refine ⟨v, h1, sD (g := g) w q fun y e G1 H1 u s w1 r1 q1 => ?_⟩
    cases hz : f d y with
    | none => simp only [hz] at q1; exact q1.elim
    | some z =>
      simp only [hz] at q1
      refine hf G1 H1 d y v u z _ w1.gh (h2.mono s) r1 hz fun v' r' => ?_
      exact q1 G1 H1 _ (Same.refl G1) (Pn.set hp) (w1.set r' (by rw [← w1.len, hl]; exact (List.getElem?_eq_some_iff.mp hi).1))
  · exact q.elim
end
@[simp] def gIfS (c : Gn Bool) (f g : Gs) : Gs := fun env => .of (c env) fun b e => if b = true then f e else g e
theorem ds_if {c : Expr} {a b : List Stmt} {gc : Gn Bool} {f g : Gs} (hc : BE X W c gc) (ha : DSs X W pin a f) (hb : DSs X W pin b g) : DS X W pin (.If c a b pos) (gIfS gc f g) := PS.imp (ps_if hc ha hb) fun D σ H ⟨G, Fm, env, w, q⟩ =>
  sB w q fun k e G1 H1 s w1 q1 => by
    cases k with
    | true => rw [if_pos rfl] at q1 ⊢; exact ⟨G1, Fm, e, w1, q1⟩
    | false => rw [if_neg Bool.false_ne_true] at q1 ⊢; exact ⟨G1, Fm, e, w1, q1⟩
/-! ### while -/
def whileD (c : Gn Bool) (b : Gs) : Nat → Gs
  | 0 => fun _ => .bad
  | n + 1 => fun env => .of (c env) fun k e => if k = true then (match b e with
      | .nx e2 => whileD c b n e2
      | .ct e2 => whileD c b n e2
      | .br e2 => .nx e2
      | r => r) else .nx e
theorem ds_while {c : Expr} {body : List Stmt} {gc : Gn Bool} {fb : Gs} (n : Nat) (hp : PassesOwn (model X.prog X.w) X.A X.env X.xe) (hc : BE X W c gc) (hb : DSs X W pin body fb) : DS X W pin (.While c body [] pos) (whileD gc fb n) :=
  PS.imp (ps_while hp hc hb) fun D σ H ⟨G, Fm, env, w, q⟩ => by
  refine ⟨fun m σ1 H1 => ∃ G1 e1, Same G G1 ∧ Pn pin σ σ1 ∧ Wd X.K G1 Fm H1 σ1 e1 ∧ tS X.K W pin σ1 G1 Fm (whileD gc fb m e1) D, ⟨n, G, env, Same.refl G, Pn.refl σ, w, q⟩, ?_⟩
  rintro m σ1 H1 ⟨G1, e1, s1, p1, w1, q1⟩
  cases m with
  | zero => exact q1.elim
  | succ m =>
    refine sB w1 q1 fun k e G2 H2 s2 w2 q2 => ?_
    cases k with
    | false =>
      rw [if_neg Bool.false_ne_true] at q2 ⊢
      exact q2 G2 H2 σ1 (Same.refl G2) (Pn.refl σ1) w2
    | true =>
      rw [if_pos rfl] at q2 ⊢
      refine ⟨fun σ' H' => ∃ G3 e3, Same G G3 ∧ Pn pin σ σ' ∧ Wd X.K G3 Fm H' σ' e3 ∧ tS X.K W pin σ' G3 Fm (whileD gc fb m e3) D, fun σ' H' h => ⟨m, Nat.lt_succ_self m, h⟩, G2, Fm, e, w2, ?_⟩
      cases hb : fb e with
      | nx e2 => simp only [hb] at q2; exact fun G' H' σ' s p w' => ⟨G', e2, (s1.trans s2).trans s, p1.trans p, w', q2.mono s p⟩
      | ct e2 => simp only [hb] at q2; exact fun G' H' σ' s p w' => ⟨G', e2, (s1.trans s2).trans s, p1.trans p, w', q2.mono s p⟩
      | br e2 => simp only [hb] at q2; exact q2
      | rt t e2 => simp only [hb] at q2; exact q2
      | exc x e2 => simp only [hb] at q2; exact q2
      | bad => simp only [hb] at q2; exact q2
/-! ### targets -/
abbrev Tg := D → Env → Option Env
def tDG (K : PySem.W.Frag) (pin : List Nat) (n : Nat) (f : Tg) : TG := fun v σ H Q => ∃ G Fm env d e', Wd K G Fm H σ env ∧ σ.length = n ∧ RD K G d v ∧ f d env = some e' ∧ ∀ σ', Pn pin σ σ' → σ'.length = n → Wd K G Fm H σ' e' → Q σ' H
abbrev DG (X : Cx) (pin : List Nat) (tg : Expr) (f : Tg) : Prop := PG X tg (tDG X.K pin X.N.length f)
theorem PG.imp {X : Cx} {e : Expr} {t t' : TG} (h : PG X e t) (q : ∀ v σ H Q, t' v σ H Q → t v σ H Q) : PG X e t' := ⟨fun pins s σ H v u Q I r hw => h.run pins s σ H v u Q I r (q v σ H Q hw)⟩
@[simp] def fName (i : Nat) : Tg := fun d env => some (env.set i (some (.val d)))
theorem dg_name {i : Nat} {x : Str} (hN : X.N.Nodup) (hi : X.N[i]? = some x) (hx : Loc X.env.scope x) (hp : i ∉ pin) (hf : X.fn x = true ∨ X.env.scope.names.lookup x = some .local := by first | exact .inl rfl | exact .inr rfl | assumption) : DG X pin (.Name x pos) (fName i) :=
  PG.imp (pg_name hN hi hx hf) fun v σ H Q ⟨G, Fm, env, d, e', w, hl, r, he, q⟩ => by
    cases (Option.some.inj he)
    exact q _ (Pn.set hp) (by rw [List.length_set]; exact hl) (w.set r (by rw [← w.len, hl]; exact (List.getElem?_eq_some_iff.mp hi).1))
abbrev Tgs := List D → Env → Option Env
def tDGs (K : PySem.W.Frag) (pin : List Nat) (n : Nat) (f : Tgs) : TGs := fun vs σ H Q => ∃ G Fm env ds e', Wd K G Fm H σ env ∧ σ.length = n ∧ RDs K G ds vs ∧ f ds env = some e' ∧ ∀ σ', Pn pin σ σ' → σ'.length = n → Wd K G Fm H σ' e' → Q σ' H
abbrev DGs (X : Cx) (pin : List Nat) (tgs : List Expr) (f : Tgs) : Prop := PGs X tgs (tDGs X.K pin X.N.length f)
theorem PGs.imp {X : Cx} {es : List Expr} {t t' : TGs} (h : PGs X es t) (q : ∀ v σ H Q, t' v σ H Q → t v σ H Q) : PGs X es t' := ⟨fun pins s σ H v u Q I r hw => h.run pins s σ H v u Q I r (q v σ H Q hw)⟩
@[simp] def fNilG : Tgs := fun ds env => match ds with
  | [] => some env
  | _ => none
@[simp] def fConsG (f : Tg) (k : Tgs) : Tgs := fun ds env => match ds with
  | d :: r => (f d env).bind fun e => k r e
  | [] => none
theorem dgs_nil : DGs X pin [] fNilG := PGs.imp pgs_nil fun vs σ H Q ⟨G, Fm, env, ds, e', w, hl, r, he, q⟩ => by
  cases r with
  | nil => cases (Option.some.inj he); exact ⟨rfl, q σ (Pn.refl σ) hl w⟩
  | cons h r => cases he
theorem dgs_cons {a : Expr} {es : List Expr} {f : Tg} {k : Tgs} (h1 : DG X pin a f) (h2 : DGs X pin es k) (hs : (assignEach (a :: es) X.env).map (·.2) = assign a X.env :: (assignEach es X.env).map (·.2) := by rfl) : DGs X pin (a :: es) (fConsG f k) :=
  PGs.imp (pgs_cons h1 h2 hs) fun vs σ H Q ⟨G, Fm, env, ds, e', w, hl, r, he, q⟩ => by
    cases r with
    | nil => cases he
    | @cons d v ds vs h r =>
      obtain ⟨e1, h3, h4⟩ := bind_some (show (f d env).bind (fun e => k ds e) = some e' from he)
      exact ⟨v, vs, rfl, G, Fm, env, d, e1, w, hl, h, h3, fun σ1 p1 l1 w1 => ⟨G, Fm, e1, ds, e', w1, l1, r, h4, fun σ2 p2 l2 w2 => q σ2 (p1.trans p2) l2 w2⟩⟩
@[simp] def fTup (k : Tgs) : Tg := fun d env => match d with
  | .tup ds => k ds env
  | _ => none
theorem dgs_len {es : List Expr} {k : Tgs} {n : Nat} (hk : ∀ ds env e', k ds env = some e' → ds.length = n) : True := trivial
theorem dg_tup {es : List Expr} {kk : Nat} {k : Tgs} {n : Nat} (hc : X.calm = true) (h : DGs X pin es k) (hk : ∀ ds env e', k ds env = some e' → ds.length = n) (hn : (assignEach es X.env).length = n := by rfl) (hst : (assignEach es X.env).findIdx? (·.1) = none := by rfl) :
    DG X pin (.Tuple es kk pos) (fTup k) := PG.imp (pg_tup hc h hn hst) fun v σ H Q ⟨G, Fm, env, d, e', w, hl, r, he, q⟩ => by
  cases r with
  | tup h r =>
    have he : k _ env = some e' := he
    exact ⟨_, _, rfl, sqT_mono w.gh h, by rw [← r.length]; exact hk _ _ _ he, G, Fm, env, _, e', w, hl, r, he, q⟩
  | _ => cases he
/-- lists of targets have their length -/
theorem len0 : ∀ ds env e', fNilG ds env = some e' → ds.length = 0 := fun ds env e' h => by
  cases ds with
  | nil => rfl
  | cons d r => cases h
theorem lenGs {f : Tg} {k : Tgs} {n : Nat} (h : ∀ ds env e', k ds env = some e' → ds.length = n) : ∀ ds env e', fConsG f k ds env = some e' → ds.length = n + 1 := fun ds env e' q => by
  cases ds with
  | nil => cases q
  | cons d r =>
    obtain ⟨e1, _, h4⟩ := bind_some (show (f d env).bind (fun e => k r e) = some e' from q)
    rw [List.length_cons, h _ _ _ h4]
/-- a, b, .. = e -/
@[simp] def gAsg (f : Tg) (g : Gn D) : Gs := fun env => .of (g env) fun d e => match f d e with
  | some e' => .nx e'
  | none => .bad
theorem ds_asg {tg : Expr} {f : Tg} {g : Gn D} (he : DE X W e g) (hg : DG X pin tg f) (hs : swapsWithSole [tg] e pos.line X.env = pure false := by rfl) (hw : swappedStores [tg] e X.env = pure none := by rfl)
    (h1 : (assignEach [tg] X.env).map (·.2) = [assign tg X.env] := by rfl) : DS X W pin (.Assign [tg] e pos) (gAsg f g) := PS.impL (ps_asg he hg hs hw h1) fun D σ H hl ⟨G, Fm, env, w, q⟩ => sD (g := g) w q fun d e G1 H1 v s w1 r1 q1 => by
  cases hz : f d e with
  | none => simp only [hz] at q1; exact q1.elim
  | some e' =>
    simp only [hz] at q1
    exact ⟨G1, Fm, e, d, e', w1, hl, r1, hz, fun σ' p l w' => q1 G1 H1 σ' (Same.refl G1) p w'⟩
/-! ### what a loop walks -/
def Walks (K : PySem.W.Frag) (J : It) (G0 : Hp) (ds : List D) : Prop := ∀ (i : Nat) (G H : Hp), Same G0 G → Same G H →
  (∀ d, ds[i]? = some d → J.go i H ∧ ∀ x H', J.yld i H x H' → (H' = H ∧ RD K G d x) ∨ (∃ p o, H p = none ∧ H' = upd H p o ∧ ∀ G1, Same G G1 → G1 p = some o → RD K G1 d x) ∨ ∃ p o p2 o2, H p = none ∧ upd H p o p2 = none ∧ H' = upd (upd H p o) p2 o2 ∧ ∀ G1, Same G G1 → G1 p = some o → G1 p2 = some o2 → RD K G1 d x) ∧ (ds[i]? = none → J.stop i H)
theorem Walks.mono {K : PySem.W.Frag} {J : It} {G0 G1 : Hp} {ds : List D} (h : Walks K J G0 ds) (s : Same G0 G1) : Walks K J G1 ds := fun i G H s1 s2 => h i G H (s.trans s1) s2
def tDI (K : PySem.W.Frag) (W : WX) (g : Gn (List D)) : TI := fun σ H Rr => ∃ G Fm env, Wd K G Fm H σ env ∧ tR K W σ G Fm (g env) (fun ds e G' H' => ∀ J, Wd K G' Fm H' σ e → Walks K J G' ds → Rr J H')
abbrev DI (X : Cx) (W : WX) (tg iter : Expr) (g : Gn (List D)) : Prop := PI X tg iter (tDI X.K W g)
theorem PI.imp {X : Cx} {tg e : Expr} {t t' : TI} (h : PI X tg e t) (q : ∀ σ H Q, t' σ H Q → t σ H Q) : PI X tg e t' := ⟨fun pins s σ H Q I hw => h.run pins s σ H Q I (q σ H Q hw)⟩
theorem walks_list {K : PySem.W.Frag} {G : Hp} {a : Addr} {ds : List D} {vs : List V} (h : SqL K G a vs) (r : RDs K G ds vs) : Walks K (Itl K a) G ds := fun i G1 H s1 s2 => by
  have h1 : SqL K H a vs := (s1.trans s2).seq h
  refine ⟨fun d e => ?_, fun e => ⟨vs, h1, by rw [← r.length]; exact List.getElem?_eq_none_iff.mp e⟩⟩
  obtain ⟨v, e1, r1⟩ := r.get e
  exact ⟨⟨vs, v, h1, e1⟩, fun x H' ⟨e2, q⟩ => .inl ⟨e2, by rw [Option.some.inj ((q vs h1).symm.trans e1)]; exact r1.mono s1⟩⟩
theorem walks_tup {K : PySem.W.Frag} {G : Hp} {a : Addr} {ds : List D} {vs : List V} (h : SqT K G a vs) (r : RDs K G ds vs) : Walks K (Itt K a) G ds := fun i G1 H s1 s2 => by
  have h1 : SqT K H a vs := sqT_mono (s1.trans s2) h
  refine ⟨fun d e => ?_, fun e => ⟨vs, h1, by rw [← r.length]; exact List.getElem?_eq_none_iff.mp e⟩⟩
  obtain ⟨v, e1, r1⟩ := r.get e
  exact ⟨⟨vs, v, h1, e1⟩, fun x H' ⟨e2, q⟩ => .inl ⟨e2, by rw [Option.some.inj ((q vs h1).symm.trans e1)]; exact r1.mono s1⟩⟩
/-- lo, lo + 1, .. -/
def rangeD (lo : Int) (n : Nat) : List D := (List.range n).map fun (i : Nat) => D.int (lo + (i : Int))
theorem rangeD_get (lo : Int) (n i : Nat) : (rangeD lo n)[i]? = if i < n then some (.int (lo + (i : Int))) else none := by
  unfold rangeD
  rw [List.getElem?_map]
  by_cases h : i < n
  · rw [if_pos h, List.getElem?_range h]; rfl
  · rw [if_neg h, List.getElem?_eq_none (by rw [List.length_range]; omega)]; rfl
theorem walks_range {K : PySem.W.Frag} {G : Hp} {lo : Int} {n : Nat} : Walks K (Itr lo n) G (rangeD lo n) := fun i G1 H s1 s2 => by
  rw [rangeD_get]
  by_cases h : i < n
  · rw [if_pos h]
    refine ⟨fun d e => ⟨h, fun x H' ⟨e1, e2⟩ => .inl ⟨e1, ?_⟩⟩, fun e => nomatch e⟩
    rw [e2, ← Option.some.inj e]
    exact .int _
  · rw [if_neg h]
    exact ⟨fun d e => (nomatch e), fun _ => Nat.le_of_not_lt h⟩
/-- over a list -/
@[simp] def gILst (g : Gn D) : Gn (List D) := fun env => (g env).bind fun d e => match d with
  | .lst ds => .ok ds e
  | .ro ds => .ok ds e
  | _ => .bad
theorem di_list {tg l : Expr} {g : Gn D} (h : DE X W l g) : DI X W tg l (gILst g) := PI.imp (pi_list h) fun σ H Rr ⟨G, Fm, env, w, q⟩ => seqD w q fun d e G1 H1 v s w1 r1 q1 => by
  cases r1 with
  | lst h1 r => exact ⟨_, rfl, ⟨_, .inl (.inl (w1.gh _ _ h1))⟩, q1 G1 H1 (Same.refl G1) _ w1 (walks_list (.inl (.inl h1)) r)⟩
  | ro h1 r => exact ⟨_, rfl, ⟨_, w1.gh.seq h1⟩, q1 G1 H1 (Same.refl G1) _ w1 (walks_list h1 r)⟩
  | _ => exact q1.elim
@[simp] def gITup (g : Gn D) : Gn (List D) := fun env => (g env).bind fun d e => match d with
  | .tup ds => .ok ds e
  | _ => .bad
theorem di_tup {tg l : Expr} {g : Gn D} (h : DE X W l g) : DI X W tg l (gITup g) := PI.imp (pi_tup h) fun σ H Rr ⟨G, Fm, env, w, q⟩ => seqD w q fun d e G1 H1 v s w1 r1 q1 => by
  cases r1 with
  | tup h1 r => exact ⟨_, rfl, ⟨_, sqT_mono w1.gh h1⟩, q1 G1 H1 (Same.refl G1) _ w1 (walks_tup h1 r)⟩
  | _ => exact q1.elim
/-- range(n), range(a, b) -/
def inR (i : Int) : Bool := decide (-(2 ^ 62) ≤ i) && decide (i < 2 ^ 62)
@[simp] def gRng1 (k : Gn (List D)) : Gn (List D) := fun env => (k env).bind fun ds e => match ds with
  | [.int j] => if inR j then .ok (rangeD 0 j.toNat) e else .bad
  | _ => .bad
@[simp] def gRng2 (k : Gn (List D)) : Gn (List D) := fun env => (k env).bind fun ds e => match ds with
  | [.int i, .int j] => if inR i && inR j then .ok (rangeD i (j - i).toNat) e else .bad
  | _ => .bad
theorem inR_of {i : Int} (h : inR i = true) : -(2 ^ 62) ≤ i ∧ i < 2 ^ 62 := by
  unfold inR at h
  simp only [Bool.and_eq_true, decide_eq_true_eq] at h
  exact h
theorem di_range1 {tg a : Expr} {p : Pos} {k : Gn (List D)} (hg : Gl X "range") (hm : X.mg "range" = none) (ha : DA X W [a] k) (hs : starEach [a] X.env = [(false, eval a X.env)] := by rfl) : DI X W tg (.Call (.Name "range" p) [a] [] pos) (gRng1 k) :=
  PI.imp (pi_range1 hg hm ha hs) fun σ H Rr ⟨G, Fm, env, w, q⟩ => seqDs w q fun ds e G1 H1 vs s w1 r1 q1 => by
    split at q1
    · rename_i j
      split at q1
      · rename_i hj
        obtain ⟨h1, h2⟩ := inR_of hj
        cases r1 with
        | cons h r =>
          cases r
          cases h
          exact ⟨j, rfl, h1, h2, q1 G1 H1 (Same.refl G1) _ w1 walks_range⟩
      · exact q1.elim
    · exact q1.elim
theorem di_range2 {tg a b : Expr} {p : Pos} {k : Gn (List D)} (hg : Gl X "range") (hm : X.mg "range" = none) (ha : DA X W [a, b] k) (hs : starEach [a, b] X.env = [(false, eval a X.env), (false, eval b X.env)] := by rfl) (hs2 : starEach [b] X.env = [(false, eval b X.env)] := by rfl) :
    DI X W tg (.Call (.Name "range" p) [a, b] [] pos) (gRng2 k) :=
  PI.imp (pi_range2 hg hm ha hs hs2) fun σ H Rr ⟨G, Fm, env, w, q⟩ => seqDs w q fun ds e G1 H1 vs s w1 r1 q1 => by
    split at q1
    · rename_i i j
      split at q1
      · rename_i hj
        rw [Bool.and_eq_true] at hj
        obtain ⟨h1, h2⟩ := inR_of hj.1
        obtain ⟨h3, h4⟩ := inR_of hj.2
        cases r1 with
        | cons h r =>
          cases r with
          | cons h' r =>
            cases r
            cases h
            cases h'
            exact ⟨i, j, rfl, ⟨h1, h2, h3, h4⟩, q1 G1 H1 (Same.refl G1) _ w1 walks_range⟩
      · exact q1.elim
    · exact q1.elim
/-- over a text -/
def strDs (x : Str) : List D := x.cps.toList.map fun c => .str ⟨#[c]⟩
theorem walks_str {K : PySem.W.Frag} {G : Hp} {x : Str} : Walks K (Its x) G (strDs x) := fun i G1 H s1 s2 => by
  have e0 : (strDs x)[i]? = (x.cps[i]?).map fun c => D.str ⟨#[c]⟩ := by
    unfold strDs
    rw [List.getElem?_map, Array.getElem?_toList]
  rw [e0]
  cases hc : x.cps[i]? with
  | none => exact ⟨fun d e => (nomatch e), fun _ => (show x.cps.size ≤ i from Array.getElem?_eq_none_iff.mp hc)⟩
  | some c =>
    refine ⟨fun d e => ⟨(show i < x.cps.size from (Array.getElem?_eq_some_iff.mp hc).1), fun v H' ⟨e1, c', h1, h2⟩ => .inl ⟨e1, ?_⟩⟩, fun e => nomatch e⟩
    rw [hc] at h1
    rw [h2, ← Option.some.inj h1, ← Option.some.inj e]
    exact .str _
def gIStr (g : Gn D) : Gn (List D) := fun env => (g env).bind fun d e => match d with
  | .str x => .ok (strDs x) e
  | _ => .bad
theorem di_str {tg l : Expr} {g : Gn D} (h : DE X W l g) : DI X W tg l (gIStr g) := PI.imp (pi_str h) fun σ H Rr ⟨G, Fm, env, w, q⟩ => seqD w q fun d e G1 H1 v s w1 r1 q1 => by
  cases r1 with
  | str x => exact ⟨x, rfl, q1 G1 H1 (Same.refl G1) _ w1 walks_str⟩
  | _ => exact q1.elim
/-! ### for -/
def forD (f : Tg) (b : Gs) : List D → Gs
  | [] => fun env => .nx env
  | d :: ds => fun env => match f d env with
    | none => .bad
    | some e1 => match b e1 with
      | .nx e2 => forD f b ds e2
      | .ct e2 => forD f b ds e2
      | .br e2 => .nx e2
      | r => r
@[simp] def gFor (gi : Gn (List D)) (f : Tg) (b : Gs) : Gs := fun env => .of (gi env) fun ds e => forD f b ds e
/-- the item of a turn comes: into the ground if it is new -/
theorem Walks.item {K : PySem.W.Frag} {J : It} {G0 G Fm H H' : Hp} {σ : L2.St} {env : Env} {ds : List D} {d : D} {i : Nat} {x : V} (h : Walks K J G0 ds) (s : Same G0 G) (w : Wd K G Fm H σ env) (e : ds[i]? = some d) (y : J.yld i H x H') :
    ∃ G', Same G G' ∧ Wd K G' Fm H' σ env ∧ RD K G' d x := by
  rcases ((h i G H s w.gh).1 d e).2 x H' y with ⟨e1, r⟩ | ⟨p, o, hp, e1, r⟩ | ⟨p, o, p2, o2, hp, hp2, e1, r⟩
  · subst e1
    exact ⟨G, Same.refl G, w, r⟩
  · subst e1
    obtain ⟨w', s'⟩ := w.laid (o := o) hp
    exact ⟨_, s', w', r _ s' upd_same⟩
  · subst e1
    obtain ⟨w1, s1⟩ := w.laid (o := o) hp
    obtain ⟨w2, s2⟩ := w1.laid (o := o2) hp2
    exact ⟨_, s1.trans s2, w2, r _ (s1.trans s2) (s2 _ _ upd_same) upd_same⟩
theorem ds_for {tg iter : Expr} {body : List Stmt} {gi : Gn (List D)} {f : Tg} {fb : Gs} (hp : PassesOwn (model X.prog X.w) X.A X.env X.xe) (hc : X.calm = true) (hi : DI X W tg iter gi) (hg : DG X pin tg f) (hb : DSs X W pin body fb) (hs : ∀ x, foldedSetIterable iter X.env x = pure x := by intro _; rfl) :
    DS X W pin (.For tg iter body [] pos) (gFor gi f fb) := PS.impL (ps_for hp hc hi hg hb hs) fun D σ H hl ⟨G, Fm, env, w, q⟩ => by
  have q : tS X.K W pin σ G Fm (Sr.of (gi env) fun ds e => forD f fb ds e) D := q
  refine ⟨G, Fm, env, w, q.of.imp fun ds e G1 H1 s1 q1 J w1 wk => ?_⟩
  refine ⟨fun i m σ1 H2 => m = ds.length - i ∧ i ≤ ds.length ∧ ∃ G2 e2, Same G1 G2 ∧ Pn pin σ σ1 ∧ Wd X.K G2 Fm H2 σ1 e2 ∧ tS X.K W pin σ1 G2 Fm (forD f fb (ds.drop i) e2) D, ⟨ds.length, by simp, Nat.zero_le _, G1, e, Same.refl G1, Pn.refl σ, w1, q1⟩, ?_⟩
  rintro i m σ1 H2 ⟨em, him, G2, e2, s2, p2, w2, q2⟩
  cases hd : ds[i]? with
  | none =>
    have hle := List.getElem?_eq_none_iff.mp hd
    rw [List.drop_eq_nil_of_le hle] at q2
    exact .inl ⟨((wk i G2 H2 s2 w2.gh).2 hd), q2 G2 H2 σ1 (Same.refl G2) (Pn.refl σ1) w2⟩
  | some d =>
    have hlt := (List.getElem?_eq_some_iff.mp hd).1
    have edrop : ds.drop i = d :: ds.drop (i + 1) := by
      rw [List.drop_eq_getElem_cons hlt]
      rw [(List.getElem?_eq_some_iff.mp hd).2]
    rw [edrop] at q2
    refine .inr ⟨((wk i G2 H2 s2 w2.gh).1 d hd).1, fun σ' H' => ∃ G3 e3, Same G1 G3 ∧ Pn pin σ σ' ∧ Wd X.K G3 Fm H' σ' e3 ∧ tS X.K W pin σ' G3 Fm (forD f fb (ds.drop (i + 1)) e3) D, fun σ' H' h3 => ⟨m - 1, by omega, by omega, by omega, h3⟩, fun x H3 y => ?_⟩
    obtain ⟨G3, s3, w3, r3⟩ := wk.item s2 w2 hd y
    have q2 : tS X.K W pin σ1 G2 Fm (match f d e2 with
      | none => .bad
      | some e1 => match fb e1 with
        | .nx e2 => forD f fb (ds.drop (i + 1)) e2
        | .ct e2 => forD f fb (ds.drop (i + 1)) e2
        | .br e2 => .nx e2
        | r => r) D := q2
    cases hf : f d e2 with
    | none => simp only [hf] at q2; exact q2.elim
    | some e4 =>
      simp only [hf] at q2
      refine ⟨G3, Fm, e2, d, e4, w3, p2.2.trans hl, r3, hf, fun σ4 p4 l4 w4 => ⟨G3, Fm, e4, w4, ?_⟩⟩
      have q3 := q2.mono s3 p4
      have fin : ∀ {e5 : Env}, tS X.K W pin σ4 G3 Fm (forD f fb (ds.drop (i + 1)) e5) D → ∀ G' H' σ', Same G3 G' → Pn pin σ4 σ' → Wd X.K G' Fm H' σ' e5 → ∃ G3 e3, Same G1 G3 ∧ Pn pin σ σ' ∧ Wd X.K G3 Fm H' σ' e3 ∧ tS X.K W pin σ' G3 Fm (forD f fb (ds.drop (i + 1)) e3) D := fun {e5} q5 G' H' σ' s p w' =>
        ⟨G', e5, (s2.trans s3).trans s, (p2.trans p4).trans p, w', q5.mono s p⟩
      cases hb : fb e4 with
      | nx e5 => simp only [hb] at q3; exact fin q3
      | ct e5 => simp only [hb] at q3; exact fin q3
      | br e5 => simp only [hb] at q3; exact q3
      | rt t e5 => simp only [hb] at q3; exact q3
      | exc x e5 => simp only [hb] at q3; exact q3
      | bad => simp only [hb] at q3; exact q3
end
end DL


/-! D-layer, part h: own lists changed, comprehensions, calls, bodies. -/
namespace DL
open PySem PySem.Spec PyProof.Rows L2
variable [Tabs]
section
variable {K : PySem.W.Frag} {G Fm H : Hp} {σ : L2.St} {e : Env} {i : Nat} {ds : List D}
/-- an own list in front, about to be written or set aside -/
theorem Wd.guard {v : V} (w : Wd K G Fm H (some v :: σ) (some (.lst ds) :: e)) : ∃ a vs, v = .ref a ∧ H a = some (.lst vs) ∧ RDs K G ds vs ∧ Fm a = none ∧ Wd K G (upd Fm a (.lst vs)) H σ e := by
  obtain ⟨fp, r, nd, fr⟩ := w.sl
  cases r with
  | @yes _ _ _ _ f fo h r =>
    cases h with
    | @lst a _ vs h g rd =>
      have fa : Fm a = none := fr a (List.mem_append_left _ List.mem_cons_self)
      have nd2 := List.nodup_cons.mp nd
      refine ⟨a, vs, rfl, h, rd, fa, w.gh, fun b o q => ?_, fun b o q => ?_, fun p hp => ?_, fo, r, nd2.2, fun b hb => ?_⟩
      · by_cases hb : b = a
        · subst hb
          rw [upd_same] at q
          cases q
          exact h
        · rw [upd_ne hb] at q
          exact w.fh b o q
      · by_cases hb : b = a
        · subst hb
          exact g
        · rw [upd_ne hb] at q
          exact w.gf b o q
      · have q := w.tb p hp
        rw [upd_ne (ne_of_none q fa)]
        exact q
      · have hne : b ≠ a := fun z => nd2.1 (by rw [← z]; exact hb)
        rw [upd_ne hne]
        exact fr b (List.mem_append_right _ hb)
theorem Wd.unguard {a : Addr} {vs us : List V} (fa : Fm a = none) (w : Wd K G (upd Fm a (.lst vs)) H σ e) (r : RDs K G ds us) : Wd K G Fm (upd H a (.lst us)) (some (.ref a) :: σ) (some (.lst ds) :: e) := by
  obtain ⟨fp, rs, nd, fr⟩ := w.sl
  have ga : G a = none := w.gf a _ upd_same
  have na : ∀ b ∈ fp, b ≠ a := fun b hb z => by
    have := fr b hb
    rw [z, upd_same] at this
    cases this
  refine ⟨fun b o q => ?_, fun b o q => ?_, fun b o q => w.gf b o ?_, fun p hp => ?_, [a] ++ fp, .yes (.lst upd_same ga r) (rs.mono (Same.refl G) fun b hb => ⟨upd_ne (na b hb), (rs.own b hb).1⟩), List.nodup_cons.mpr ⟨fun z => na a z rfl, nd⟩, fun b hb => ?_⟩
  · rw [upd_ne (ne_of_none q ga)]
    exact w.gh b o q
  · have hb : b ≠ a := ne_of_none q fa
    exact (w.fh b o (by rw [upd_ne hb]; exact q)).mono (Same.refl G) (upd_ne hb)
  · rw [upd_ne (ne_of_none q fa)]
    exact q
  · have q := w.tb p hp
    by_cases hb : p.1 = a
    · rw [hb, upd_same] at q
      cases q
    · rw [upd_ne hb] at q
      exact q
  · rcases List.mem_append.mp hb with z | z
    · have e : b = a := by simpa using z
      rw [e]
      exact fa
    · have := fr b z
      rw [upd_ne (na b z)] at this
      exact this
/-- slot i's own list: what stands there, and how it is written -/
theorem Wd.setL (w : Wd K G Fm H σ e) (q : e[i]? = some (some (.lst ds))) : ∃ a vs, σ[i]? = some (some (.ref a)) ∧ H a = some (.lst vs) ∧ RDs K G ds vs ∧
    ∀ (ds' : List D) (vs' : List V), RDs K G ds' vs' → Wd K G Fm (upd H a (.lst vs')) σ (e.set i (some (.lst ds'))) := by
  obtain ⟨v, h1, w1⟩ := w.out q
  obtain ⟨a, vs, rfl, h2, h3, h4, w2⟩ := w1.guard
  refine ⟨a, vs, h1, h2, h3, fun ds' vs' r => ?_⟩
  have w3 := (w2.unguard h4 r).back h1
  rw [List.set_set] at w3
  exact w3
end
/-! ### methods that change an own list -/
def MutL (K : PySem.W.Frag) (r : V → List V → Hp → VK → Prop) (f : List D → List D → Option (D × List D)) : Prop := ∀ (G H : Hp) (a : Addr) (vs : List V) (l args : List D) (us : List V) (z : D) (l' : List D) (Q : VK), Same G H → H a = some (.lst vs) → RDs K G l vs → RDs K G args us → f l args = some (z, l') →
  (∀ vs' v, RDs K G l' vs' → RD K G z v → Q v (upd H a (.lst vs'))) → r (.ref a) us H Q
@[simp] def gMut (i : Nat) (f : List D → List D → Option (D × List D)) (k : Gn (List D)) : Gn D := fun env => match env[i]? with
  | some (some (.lst _)) => (k env).bind fun args e => match e[i]? with
    | some (some (.lst l)) => match f l args with
      | some (z, l') => .ok z (e.set i (some (.lst l')))
      | none => .bad
    | _ => .bad
  | _ => .bad
section
variable {X : Cx} {W : WX} {pin : List Nat} {a : Expr} {es : List Expr} {pos apos cpos npos : Pos} {i : Nat} {x : Str}
theorem tBM_mut {r : V → List V → Hp → VK → Prop} {f : List D → List D → Option (D × List D)} {k : Gn (List D)} (hp : MutL X.K r f) {σ : L2.St} {H : Hp} {Q : VK} (h : tDE X.K W (gMut i f k) σ H Q) : tBM X.K "list" r (tVar i) (tDA X.K W k) σ H Q := by
  obtain ⟨G, Fm, env, w, q⟩ := h
  have q : tR X.K W σ G Fm (match env[i]? with
  | some (some (.lst _)) => (k env).bind fun args e => match e[i]? with
    | some (some (.lst l)) => match f l args with
      | some (z, l') => .ok z (e.set i (some (.lst l')))
      | none => .bad
    | _ => .bad
  | _ => .bad) (PD X.K Fm σ Q) := q
  split at q
  · rename_i l0 h0
    obtain ⟨b, vs, h1, h2, h3, _⟩ := w.setL h0
    refine ⟨.ref b, h1, .inl ⟨rfl, vs, .inl (.inl h2)⟩, seqDs w q fun args e G1 H1 us s w1 r1 q1 => ?_⟩
    split at q1
    · rename_i l hl
      split at q1
      · rename_i z l' hz
        obtain ⟨b', vs', h1', h2', h3', put⟩ := w1.setL hl
        rw [h1] at h1'
        cases h1'
        exact hp G1 H1 b vs' l args us z l' Q w1.gh h2' h3' r1 hz fun vs2 v r2 r3 => q1 G1 _ (Same.refl G1) v (put l' vs2 r2) r3
      · exact q1.elim
    · exact q1.elim
  · exact q.elim
theorem de_mut {T id : String} {name : Str} {r : V → List V → Hp → VK → Prop} {f : List D → List D → Option (D × List D)} {k : Gn (List D)} (pa : PlainAttrs "list") (slot : Slot "list" name id) (hty : typeOf (.builtin id) = pure (.type "method_descriptor")) (hm : MtR X id r) (hp : MutL X.K r f) (ho : PE X (.Name x npos) (tVar i)) (ha : DA X W (a :: es) k)
    (hbase : attributeBase (.Name x npos) name X.env (eval (.Name x npos) X.env) = eval (.Name x npos) X.env := by rfl)
    (hfew : ((backTo cpos (starEach (a :: es) X.env)).all (fun x => !x.1) && (backToKw cpos (keywordEach [] X.env)).all (fun x => x.1.isSome)
      && decide ((a :: es).length + ([] : List Keyword).length + (if ([] : List Keyword).isEmpty then 0 else 1) < 30)) = true := by rfl)
    (hline : (apos.endLine == cpos.line) = true := by rfl) (hs : starEach (a :: es) X.env = (false, eval a X.env) :: starEach es X.env := by rfl) (hplain : (backTo cpos (starEach es X.env)).any (·.1) = false := by rfl) :
    DE X W (.Call (.Attribute (.Name x npos) name apos) (a :: es) [] cpos) (gMut i f k) := PE.imp (pe_bm pa slot hty hm ho ha hbase hfew hline hs hplain) fun σ H Q h => tBM_mut hp h
theorem de_mut0 {id : String} {name : Str} {r : V → List V → Hp → VK → Prop} {f : List D → List D → Option (D × List D)} (pa : PlainAttrs "list") (slot : Slot "list" name id) (hty : typeOf (.builtin id) = pure (.type "method_descriptor")) (hm : MtR X id r) (hp : MutL X.K r f) (ho : PE X (.Name x npos) (tVar i))
    (hbase : attributeBase (.Name x npos) name X.env (eval (.Name x npos) X.env) = eval (.Name x npos) X.env := by rfl) (hline : (apos.endLine == cpos.line) = true := by rfl) :
    DE X W (.Call (.Attribute (.Name x npos) name apos) [] [] cpos) (gMut i f gNilA) := PE.imp (pe_bm0 pa slot hty hm ho hbase hline) fun σ H Q ⟨G, Fm, env, w, q⟩ => by
  have q : tR X.K W σ G Fm (match env[i]? with
  | some (some (.lst _)) => (R.ok [] env).bind fun args e => match e[i]? with
    | some (some (.lst l)) => match f l args with
      | some (z, l') => .ok z (e.set i (some (.lst l')))
      | none => .bad
    | _ => .bad
  | _ => .bad) (PD X.K Fm σ Q) := q
  split at q
  · rename_i l0 h0
    rw [R.bind_ok, h0] at q
    obtain ⟨b, vs, h1, h2, h3, put⟩ := w.setL h0
    refine ⟨.ref b, h1, .inl ⟨rfl, vs, .inl (.inl h2)⟩, ?_⟩
    simp only at q
    split at q
    · rename_i z l' hz
      exact hp G H b vs l0 [] [] z l' Q w.gh h2 h3 .nil hz fun vs2 v r2 r3 => q G _ (Same.refl G) v (put l' vs2 r2) r3
    · exact q.elim
  · exact q.elim
@[simp] def fAppend (l args : List D) : Option (D × List D) := match args with
  | [d] => if l.length < sizeLine then some (.non, l ++ [d]) else none
  | _ => none
theorem mut_append {K : PySem.W.Frag} : MutL K rAppend fAppend := by
  intro G H b vs l args us z l' Q s h r1 r2 e q
  match args, r2, e with
  | [d], .cons h2 .nil, e =>
    have e : (if l.length < sizeLine then some (D.non, l ++ [d]) else none) = some (z, l') := e
    split at e
    · rename_i hl
      cases (Option.some.inj e)
      exact ⟨b, vs, _, rfl, rfl, h, by rw [← r1.length]; exact hl, q _ _ (r1.append (.cons h2 .nil)) .non⟩
    · cases e
@[simp] def fPop (l args : List D) : Option (D × List D) := match args with
  | [] => (l[l.length - 1]?).map fun d => (d, l.dropLast)
  | _ => none
theorem mut_pop {K : PySem.W.Frag} : MutL K rPop fPop := by
  intro G H b vs l args us z l' Q s h r1 r2 e q
  match args, r2, e with
  | [], .nil, e =>
    obtain ⟨d, h1, h2⟩ := Option.map_eq_some_iff.mp (show Option.map _ _ = some (z, l') from e)
    cases h2
    obtain ⟨v, h3, h4⟩ := r1.get h1
    exact ⟨b, vs, v, rfl, rfl, h, by rw [← r1.length]; exact h3, q _ _ r1.dropLast h4⟩
@[simp] def fReverse (l args : List D) : Option (D × List D) := match args with
  | [] => some (.non, l.reverse)
  | _ => none
theorem mut_reverse {K : PySem.W.Frag} : MutL K rReverse fReverse := by
  intro G H b vs l args us z l' Q s h r1 r2 e q
  match args, r2, e with
  | [], .nil, e =>
    cases (Option.some.inj e)
    exact ⟨b, vs, rfl, rfl, h, q _ _ r1.reverse .non⟩
@[simp] def fExtend (l args : List D) : Option (D × List D) := match args with
  | [.lst es] => if l.length + es.length ≤ sizeLine then some (.non, l ++ es) else none
  | _ => none
theorem mut_extend {K : PySem.W.Frag} : MutL K rExtend fExtend := by
  intro G H b vs l args us z l' Q s h r1 r2 e q
  match args, r2, e with
  | [.lst es], .cons (.lst h2 r3) .nil, e =>
    have e : (if l.length + es.length ≤ sizeLine then some (D.non, l ++ es) else none) = some (z, l') := e
    split at e
    · rename_i hl
      cases (Option.some.inj e)
      exact ⟨b, _, vs, _, rfl, rfl, h, s _ _ h2, by rw [← r1.length, ← r3.length]; exact hl, q _ _ (r1.append r3) .non⟩
    · cases e
/-- x[k] = e, x an own list -/
@[simp] def gPut (i : Nat) (g gi : Gn D) : Gs := fun env => .of (g env) fun d e1 => match e1[i]? with
  | some (some (.lst _)) => .of (gi e1) fun k e2 => match k, e2[i]? with
    | .int k, some (some (.lst l)) => match ixN l.length k with
      | some j => .nx (e2.set i (some (.lst (l.set j d))))
      | none => .bad
    | _, _ => .bad
  | _ => .bad
theorem ds_put {ei ev : Expr} {spos : Pos} {g gi : Gn D} (ho : PE X (.Name x npos) (tVar i)) (hi : DE X W ei gi) (hv : DE X W ev g)
    (ha : ∀ v, assign (.Subscript (.Name x npos) ei spos) X.env v = (do
      let ov ← holding [v] (eval (.Name x npos) X.env)
      let iv ← holding [v, ov] (eval ei X.env)
      standAt spos
      holding [v, ov, iv] (setItem ov iv v)
      release [v, ov, iv] []) := by intro _; rfl)
    (hs : swapsWithSole [.Subscript (.Name x npos) ei spos] ev pos.line X.env = pure false := by rfl) (hw : swappedStores [.Subscript (.Name x npos) ei spos] ev X.env = pure none := by rfl)
    (h1 : (assignEach [.Subscript (.Name x npos) ei spos] X.env).map (·.2) = [assign (.Subscript (.Name x npos) ei spos) X.env] := by rfl) :
    DS X W pin (.Assign [.Subscript (.Name x npos) ei spos] ev pos) (gPut i g gi) := PS.imp (ps_asg hv (pg_sub ho hi set_list ha) hs hw h1) fun D σ H ⟨G, Fm, env, w, q⟩ => sD (g := g) w q fun d e1 G1 H1 v s1 w1 r1 q1 => by
  split at q1
  · rename_i l0 h0
    obtain ⟨b, vs, k1, k2, k3, _⟩ := w1.setL h0
    refine ⟨.ref b, k1, sD (g := gi) w1 q1 fun k e2 G2 H2 u s2 w2 r2 q2 => ?_⟩
    split at q2
    · rename_i k l hl
      split at q2
      · rename_i j hj
        obtain ⟨b', vs', k1', k2', k3', put⟩ := w2.setL hl
        rw [k1] at k1'
        cases k1'
        cases r2
        exact ⟨b, vs', k, j, rfl, rfl, k2', by rw [← k3'.length]; exact hj, q2 G2 _ σ (Same.refl G2) (Pn.refl σ) (put _ _ (RDs.set (r1.mono s2) j k3'))⟩
      · exact q2.elim
    · exact q2.elim
  · exact q1.elim
/-- x += ys, x an own list -/
@[simp] def gExt (i : Nat) (k : Gn D) : Gs := fun env => match env[i]? with
  | some (some (.lst _)) => .of (k env) fun d e => match d, e[i]? with
    | .lst es, some (some (.lst l)) => if l.length + es.length ≤ sizeLine then .nx (e.set i (some (.lst (l ++ es)))) else .bad
    | _, _ => .bad
  | _ => .bad
theorem ds_ext {ev : Expr} {k : Gn D} (hN : X.N.Nodup) (hi : X.N[i]? = some x) (hx : Loc X.env.scope x) (he : DE X W ev k) (hfn : X.fn x = true ∨ X.env.scope.names.lookup x = some .local := by first | exact .inl rfl | exact .inr rfl | assumption) :
    DS X W pin (.AugAssign (.Name x npos) .Add ev pos) (gExt i k) := PS.impL (ps_aug hN hi hx he iop_ext hfn) fun D σ H hl ⟨G, Fm, env, w, q⟩ => by
  have q : tS X.K W pin σ G Fm (match env[i]? with
  | some (some (.lst _)) => .of (k env) fun d e => match d, e[i]? with
    | .lst es, some (some (.lst l)) => if l.length + es.length ≤ sizeLine then .nx (e.set i (some (.lst (l ++ es)))) else .bad
    | _, _ => .bad
  | _ => .bad) D := q
  split at q
  · rename_i l0 h0
    obtain ⟨b, vs, k1, k2, k3, _⟩ := w.setL h0
    refine ⟨.ref b, k1, sD (g := k) w q fun d e G1 H1 u s w1 r1 q1 => ?_⟩
    split at q1
    · rename_i es l hl2
      split at q1
      · rename_i hz
        obtain ⟨b', vs', k1', k2', k3', put⟩ := w1.setL hl2
        rw [k1] at k1'
        cases k1'
        cases r1 with
        | lst h2 r3 =>
          refine ⟨b, _, vs', _, rfl, rfl, k2', w1.gh _ _ h2, by rw [← k3'.length, ← r3.length]; exact hz, ?_⟩
          show D.nx (σ.set i (some (.ref b))) _
          rw [set_self k1]
          exact q1 G1 _ σ (Same.refl G1) (Pn.refl σ) (put _ _ (k3'.append r3))
      · exact q1.elim
    · exact q1.elim
  · exact q.elim
end
/-! ### comprehensions -/
@[simp] def wipeE (e : Env) : List Nat → Env
  | [] => e
  | v :: vs => (wipeE e vs).set v none
@[simp] def valO : Option T → Option T
  | some (.val d) => some (.val d)
  | _ => none
/-- the comprehension's own names hold again what they held -/
@[simp] def rest (e e0 : Env) : List Nat → Env
  | [] => e
  | v :: vs => (rest e e0 vs).set v (valO (e0[v]?.join))
section
variable {K : PySem.W.Frag} {G G0 Fm Fm0 H H0 : Hp} {σ τ : L2.St} {e e0 : Env}
theorem RS.setNo : ∀ {σ : L2.St} {env : Env} {fp : List Addr} (i : Nat) (x : Option V), RS K G H σ env fp → ∃ fp', RS K G H (σ.set i x) (env.set i none) fp' ∧ List.Sublist fp' fp
  | _, _, _, i, x, .nil => ⟨[], .nil, .refl _⟩
  | _, _, _, 0, x, .no (fp := fp) r => ⟨fp, .no r, .refl _⟩
  | _, _, _, i + 1, x, .no r => let ⟨fp', h1, h2⟩ := RS.setNo i x r; ⟨fp', .no h1, h2⟩
  | _, _, _, 0, x, .yes (f := f) (fp := fp) h r => ⟨fp, .no r, List.sublist_append_right f fp⟩
  | _, _, _, i + 1, x, .yes (f := f) h r => let ⟨fp', h1, h2⟩ := RS.setNo i x r; ⟨f ++ fp', .yes h h1, List.Sublist.append_left h2 f⟩
theorem Wd.setNo (w : Wd K G Fm H σ e) (i : Nat) (x : Option V) : Wd K G Fm H (σ.set i x) (e.set i none) := by
  obtain ⟨fp, r, nd, fr⟩ := w.sl
  obtain ⟨fp', h1, h2⟩ := r.setNo i x
  exact ⟨w.gh, w.fh, w.gf, w.tb, fp', h1, nd.sublist h2, fun a ha => fr a (h2.subset ha)⟩
theorem Wd.wipe (w : Wd K G Fm H σ e) : ∀ vs : List Nat, Wd K G Fm H (L2.wipe σ vs) (wipeE e vs)
  | [] => w
  | v :: vs => (Wd.wipe w vs).setNo v none
/-- other slots that agree where something is known -/
theorem RS.swap : ∀ {σ τ : L2.St} {env : Env} {fp : List Addr}, RS K G H σ env fp → τ.length = σ.length → (∀ (i : Nat) (v : V), σ[i]? = some (some v) → τ[i]? = some (some v)) → RS K G H τ env fp
  | _, [], _, _, .nil, _, _ => .nil
  | _, x :: τ, _, _, .no r, hl, k => .no (RS.swap r (by simpa using hl) fun i v h => by simpa using k (i + 1) v (by simpa using h))
  | _, x :: τ, _, _, .yes h r, hl, k => by
    have e := k 0 _ rfl
    simp only [List.getElem?_cons_zero, Option.some.injEq] at e
    subst e
    exact .yes h (RS.swap r (by simpa using hl) fun i v h => by simpa using k (i + 1) v (by simpa using h))
  | _, _ :: _, _, _, .nil, hl, _ => by simp at hl
  | _, [], _, _, .no r, hl, _ => by simp at hl
  | _, [], _, _, .yes h r, hl, _ => by simp at hl
theorem Wd.swap (w : Wd K G Fm H σ e) (hl : τ.length = σ.length) (k : ∀ (i : Nat) (v : V), σ[i]? = some (some v) → τ[i]? = some (some v)) : Wd K G Fm H τ e := by
  obtain ⟨fp, r, nd, fr⟩ := w.sl
  exact ⟨w.gh, w.fh, w.gf, w.tb, fp, r.swap hl k, nd, fr⟩
theorem Wd.unwipe {vs : List Nat} (w : Wd K G Fm H (L2.wipe σ vs) e) : Wd K G Fm H σ e := w.swap (L2.wipe_length σ vs).symm fun i v h => (L2.wipe_some h).1
theorem Wd.setV (w : Wd K G Fm H σ e) {i : Nat} {d : D} {v : V} (h : σ[i]? = some (some v)) (r : RD K G d v) : Wd K G Fm H σ (e.set i (some (.val d))) := (w.front r).back h
theorem Wd.rest (w : Wd K G Fm H σ e) (w0 : Wd K G0 Fm0 H0 σ e0) (s : Same G0 G) : ∀ vs : List Nat, Wd K G Fm H σ (DL.rest e e0 vs)
  | [] => w
  | v :: vs => by
    have w1 := Wd.rest w w0 s vs
    show Wd K G Fm H σ ((DL.rest e e0 vs).set v (valO (e0[v]?.join)))
    cases h : e0[v]?.join with
    | none => exact w1.clear v
    | some t =>
      cases t with
      | val d =>
        have h' : e0[v]? = some (some (.val d)) := by
          revert h
          cases e0[v]? with
          | none => exact fun z => nomatch z
          | some o => exact fun z => congrArg some z
        obtain ⟨x, h1, h2⟩ := w0.rd h'
        exact w1.setV h1 (h2.mono s)
      | _ => exact w1.clear v
end
def lcD (f : Tg) (tt : Gn Bool) (g : Gn D) (vs : List Nat) : List D → List D → Env → R (List D)
  | [], acc, env => .ok acc env
  | d :: ds, acc, env => match f d env with
    | none => .bad
    | some e1 => match tt e1 with
      | .ok true e2 => match g e2 with
        | .ok y e3 => lcD f tt g vs ds (acc ++ [y]) (wipeE e3 vs)
        | _ => .bad
      | .ok false e2 => lcD f tt g vs ds acc (wipeE e2 vs)
      | _ => .bad
@[simp] def gLc (gi : Gn (List D)) (f : Tg) (tt : Gn Bool) (g : Gn D) (vs : List Nat) : Gn T := fun env => (gi env).bind fun ds e => if ds.length ≤ sizeLine then (match lcD f tt g vs ds [] (wipeE e vs) with
  | .ok l e' => .ok (.lst l) (rest e' e vs)
  | _ => .bad) else .bad
section
variable {X : Cx} {W : WX} {pin : List Nat} {pos : Pos}
abbrev W0 : WX := fun _ _ _ _ => False
abbrev BT (X : Cx) (W : WX) (ifs : List Expr) (g : Gn Bool) : Prop := PTs X ifs (tBE X.K W g)
@[simp] def gYes : Gn Bool := fun env => .ok true env
theorem PTs.imp {X : Cx} {es : List Expr} {t t' : TT} (h : PTs X es t) (q : ∀ σ H Q, t' σ H Q → t σ H Q) : PTs X es t' := ⟨fun pins s σ H Q I hw => h.run pins s σ H Q I (q σ H Q hw)⟩
theorem bt_nil : BT X W [] gYes := PTs.imp pts_nil fun σ H Q ⟨G, Fm, env, w, q⟩ => q G H (Same.refl G) w
theorem bt_one {c : Expr} {g : Gn Bool} (h : BE X W c g) : BT X W [c] g := pts_one h
theorem wipe_get (σ : L2.St) (i : Nat) : ∀ vs : List Nat, (L2.wipe σ vs)[i]? = if i ∈ vs then (if i < σ.length then some none else none) else σ[i]?
  | [] => rfl
  | v :: vs => by
    show ((L2.wipe σ vs).set v none)[i]? = _
    by_cases h : i = v
    · subst h
      rw [if_pos List.mem_cons_self]
      by_cases hl : i < σ.length
      · rw [if_pos hl, List.getElem?_set_self (by rw [L2.wipe_length]; exact hl)]
      · rw [if_neg hl, List.getElem?_eq_none (by rw [List.length_set, L2.wipe_length]; omega)]
    · rw [List.getElem?_set_ne (Ne.symm h), wipe_get σ i vs]
      by_cases hm : i ∈ vs
      · rw [if_pos hm, if_pos (List.mem_cons_of_mem _ hm)]
      · rw [if_neg hm, if_neg (fun z => (List.mem_cons.mp z).elim h hm)]
/-- the slots that are not the comprehension's own -/
def compl (n : Nat) (vs : List Nat) : List Nat := (List.range n).filter fun i => !vs.contains i
theorem wipe_eq {σ τ : L2.St} {n : Nat} {vs : List Nat} (hn : σ.length = n) (p : Pn (compl n vs) (L2.wipe σ vs) τ) : L2.wipe τ vs = L2.wipe σ vs := by
  have hl : τ.length = σ.length := p.2.trans (L2.wipe_length σ vs)
  apply List.ext_getElem?
  intro i
  rw [wipe_get, wipe_get, hl]
  by_cases hm : i ∈ vs
  · rw [if_pos hm, if_pos hm]
  · rw [if_neg hm, if_neg hm]
    by_cases hi : i < n
    · have h := p.1 i (List.mem_filter.mpr ⟨List.mem_range.mpr hi, by simpa using hm⟩)
      rw [h, wipe_get, if_neg hm]
    · rw [List.getElem?_eq_none (by omega), List.getElem?_eq_none (by omega)]
theorem tLc_of {gi : Gn (List D)} {f : Tg} {tt : Gn Bool} {g : Gn D} {vs : List Nat} {K : PySem.W.Frag} {n : Nat} {σ : L2.St} {H : Hp} {Q : VK} (hn : σ.length = n) (h : tOE K W (gLc gi f tt g vs) σ H Q) : tLc (tDI K W gi) (tDG K (compl n vs) n f) (tBE K W0 tt) (tDE K W0 g) vs σ H Q := by
  obtain ⟨G, Fm, env, w, q⟩ := h
  refine ⟨G, Fm, env, w, q.bind.imp fun ds e G1 H1 s1 q1 J w1 wk A hA => ?_⟩
  split at q1
  case isFalse => exact q1.elim
  case isTrue hsz =>
  -- what a turn starts from
  have h0 : tR K W σ G1 Fm (match lcD f tt g vs (ds.drop 0) [] (wipeE e vs) with | .ok l e' => .ok (.lst l) (rest e' e vs) | _ => .bad) (PTr K Fm σ Q) := q1
  refine ⟨fun i m H2 => m = ds.length - i ∧ i ≤ ds.length ∧ ∃ G2 acc e2, Same G1 G2 ∧ Wd K G2 Fm H2 (some (.ref A) :: L2.wipe σ vs) (some (.lst acc) :: e2) ∧ acc.length ≤ i ∧
      tR K W σ G2 Fm (match lcD f tt g vs (ds.drop i) acc e2 with | .ok l e' => .ok (.lst l) (rest e' e vs) | _ => .bad) (PTr K Fm σ Q), ⟨ds.length, by simp, Nat.zero_le _, G1, [], wipeE e vs, Same.refl G1, (w1.wipe vs).lst hA .nil, Nat.le_refl _, h0⟩, ?_⟩
  rintro i m H2 ⟨em, him, G2, acc, e2, s2, w2, hacc, q2⟩
  cases hd : ds[i]? with
  | none =>
    have hle := List.getElem?_eq_none_iff.mp hd
    rw [List.drop_eq_nil_of_le hle] at q2
    refine .inl ⟨(wk i G2 H2 s2 w2.gh).2 hd, ?_⟩
    have q3 : tR K W σ G2 Fm (.ok (.lst acc) (rest e2 e vs)) (PTr K Fm σ Q) := q2
    obtain ⟨a, us, ea, h1, h2, h3, w3⟩ := w2.guard
    cases ea
    have w4 : Wd K G2 (upd Fm A (.lst us)) H2 σ (rest e2 e vs) := (w3.unwipe).rest w1 s2 vs
    have w5 := w4.unguard h3 h2
    have eH : upd H2 A (.lst us) = H2 := by
      funext b
      by_cases hb : b = A
      · subst hb; rw [upd_same, h1]
      · rw [upd_ne hb]
    rw [eH] at w5
    exact q3 G2 H2 (Same.refl G2) _ w5
  | some d =>
    have hlt := (List.getElem?_eq_some_iff.mp hd).1
    have edrop : ds.drop i = d :: ds.drop (i + 1) := by
      rw [List.drop_eq_getElem_cons hlt]
      rw [(List.getElem?_eq_some_iff.mp hd).2]
    rw [edrop] at q2
    refine .inr ⟨((wk i G2 H2 s2 w2.gh).1 d hd).1, fun H' => ∃ G3 acc e3, Same G1 G3 ∧ Wd K G3 Fm H' (some (.ref A) :: L2.wipe σ vs) (some (.lst acc) :: e3) ∧ acc.length ≤ i + 1 ∧
      tR K W σ G3 Fm (match lcD f tt g vs (ds.drop (i + 1)) acc e3 with | .ok l e' => .ok (.lst l) (rest e' e vs) | _ => .bad) (PTr K Fm σ Q), fun H' h3 => ⟨m - 1, by omega, by omega, by omega, h3⟩, fun x H3 y => ?_⟩
    obtain ⟨G3, s3, w3, r3⟩ := wk.item s2 w2 hd y
    obtain ⟨a, us, ea, h1, h2, h3, w4⟩ := w3.guard
    cases ea
    cases hf : f d e2 with
    | none => simp only [lcD, hf] at q2; exact q2.elim
    | some e4 =>
      refine ⟨G3, _, e2, d, e4, w4, by rw [L2.wipe_length]; exact hn, r3, hf, fun σ4 p4 l4 w5 => ?_⟩
      have hwp : L2.wipe σ4 vs = L2.wipe σ vs := wipe_eq hn p4
      refine ⟨hwp, ?_⟩
      cases ht : tt e4 with
      | bad => simp only [lcD, hf, ht] at q2; exact q2.elim
      | exc x e5 => simp only [lcD, hf, ht] at q2; exact q2.elim
      | ok b e5 =>
        refine ⟨G3, _, e4, w5, ?_⟩
        rw [ht]
        intro G5 H5 s5 w6
        cases b with
        | false =>
          simp only [lcD, hf, ht] at q2
          rw [if_neg Bool.false_ne_true]
          have w7 := w6.wipe vs
          rw [hwp] at w7
          have hH : H5 A = some (.lst us) := w6.fh A _ upd_same
          have w8 := w7.unguard h3 (h2.mono s5)
          have eH : upd H5 A (.lst us) = H5 := by
            funext b
            by_cases hb : b = A
            · subst hb; rw [upd_same, hH]
            · rw [upd_ne hb]
          rw [eH] at w8
          exact ⟨G5, acc, wipeE e5 vs, (s2.trans s3).trans s5, w8, by omega, q2.mono (s3.trans s5)⟩
        | true =>
          rw [if_pos rfl]
          cases hg : g e5 with
          | bad => simp only [lcD, hf, ht, hg] at q2; exact q2.elim
          | exc x e6 => simp only [lcD, hf, ht, hg] at q2; exact q2.elim
          | ok y e6 =>
            simp only [lcD, hf, ht, hg] at q2
            refine ⟨G5, _, e5, w6, ?_⟩
            rw [hg]
            intro G6 H6 s6 v w7 r7
            have hH : H6 A = some (.lst us) := w7.fh A _ upd_same
            have w8 := w7.wipe vs
            rw [hwp] at w8
            have hlen := h2.length
            refine ⟨us, hH, by omega, G6, acc ++ [y], wipeE e6 vs, ((s2.trans s3).trans s5).trans s6, w8.unguard h3 ((h2.mono (s5.trans s6)).append (.cons r7 .nil)), by rw [List.length_append, List.length_singleton]; omega, q2.mono ((s3.trans s5).trans s6)⟩
theorem PE.impL {X : Cx} {e : Expr} {t t' : TE} (h : PE X e t) (q : ∀ σ H Q, σ.length = X.N.length → t' σ H Q → t σ H Q) : PE X e t' := ⟨fun pins s σ H Q I hw => h.run pins s σ H Q I (q σ H Q I.len hw)⟩
/-- [elt for tg in iter if ..] -/
theorem oe_lc {elt tg iter : Expr} {ifs : List Expr} {scope : Scope} {own : List (Str × Nat)} {gi : Gn (List D)} {f : Tg} {tt : Gn Bool} {g : Gn D} (hc : X.calm = true) (hN : X.N.Nodup) (hi : DI X W tg iter gi) (ok : BlkOk X.N X.env.scope scope own)
    (hg : ∀ (s : Shared) (H : Hp) (C : Addr) (cl : List (Str × Addr)) (fp : List Addr), DG (X.blk s H scope (compEnvC scope cl C X.env) fp) (compl X.N.length (own.map (·.2))) tg f) (ht : ∀ (s : Shared) (H : Hp) (C : Addr) (cl : List (Str × Addr)) (fp : List Addr), BT (X.blk s H scope (compEnvC scope cl C X.env) fp) W0 ifs tt)
    (he : ∀ (s : Shared) (H : Hp) (C : Addr) (cl : List (Str × Addr)) (fp : List Addr), DE (X.blk s H scope (compEnvC scope cl C X.env) fp) W0 elt g) (hs : ∀ x, foldedSetIterable iter X.env x = pure x := by intro _; rfl) :
    OE X W (.ListComp elt [⟨tg, iter, ifs, 0⟩] scope pos) (gLc gi f tt g (own.map (·.2))) := PE.impL (pe_lc hc hN hi ok hg ht he hs) fun σ H Q hl h => tLc_of hl h
theorem ds_setLc {i : Nat} {y : Str} {py spos : Pos} {elt tg iter : Expr} {ifs : List Expr} {scope : Scope} {own : List (Str × Nat)} {gi : Gn (List D)} {f : Tg} {tt : Gn Bool} {g : Gn D} (hc : X.calm = true) (hN : X.N.Nodup) (hy : X.N[i]? = some y) (hyl : X.env.scope.names.lookup y = some .local) (hp : i ∉ pin)
    (hsw : swapsWith (.ListComp elt [⟨tg, iter, ifs, 0⟩] scope pos) (some (.Name y py)) spos.line X.env = pure true) (hi : DI X W tg iter gi) (ok : BlkOk X.N X.env.scope scope own)
    (hg : ∀ (s : Shared) (H : Hp) (C : Addr) (cl : List (Str × Addr)) (fp : List Addr), DG (X.blk s H scope (compEnvC scope cl C X.env) fp) (compl X.N.length (own.map (·.2))) tg f) (ht : ∀ (s : Shared) (H : Hp) (C : Addr) (cl : List (Str × Addr)) (fp : List Addr), BT (X.blk s H scope (compEnvC scope cl C X.env) fp) W0 ifs tt)
    (he : ∀ (s : Shared) (H : Hp) (C : Addr) (cl : List (Str × Addr)) (fp : List Addr), DE (X.blk s H scope (compEnvC scope cl C X.env) fp) W0 elt g) (hs : ∀ x, foldedSetIterable iter X.env x = pure x := by intro _; rfl) :
    DS X W pin (.Assign [.Name y py] (.ListComp elt [⟨tg, iter, ifs, 0⟩] scope pos) spos) (gSetT i (gLc gi f tt g (own.map (·.2)))) := PS.impL (ps_setLc hc hN hy hyl hsw hi ok hg ht he hs) fun D σ H hl ⟨G, Fm, env, w, q⟩ => tLc_of hl (sT w q fun t e G1 H1 v s w1 q1 =>
  q1 G1 H1 _ (Same.refl G1) (Pn.set hp) (w1.inn (by rw [← w1.drop.len, hl]; exact (List.getElem?_eq_some_iff.mp hy).1)))
end
end DL


/-! D-layer, part i: what defs promise, calls, bodies, raise. -/
namespace DL
open PySem PySem.Spec PyProof.Rows L2
variable [Tabs]
/-- a call's end: the answer, and what became of the things that were lent -/
inductive FR where
  | ok (t : T) (ts : Env) | exc (x : Ex) (ts : Env) | bad
def tF (K : PySem.W.Frag) (G Fm : Hp) (vs : List V) (r : FR) (Q : VK) (E : XK) : Prop := match r with
  | .ok t ts => ∀ G' H' v, Same G G' → Wd K G' Fm H' (some v :: vs.map some) (some t :: ts) → Q v H'
  | .exc x ts => ∀ G' H' dd, Same G G' → Wd K G' Fm H' (vs.map some) ts → ExOk K G' H' x dd → E (.ref x.C) dd H'
  | .bad => False
/-- the promise: with arguments that are the trees ts the def does as F says -/
def spD (K : PySem.W.Frag) (n : Nat) (F : List T → FR) : Sp := fun vs H Q E => vs.length = n ∧ ∃ G Fm ts, Wd K G Fm H (vs.map some) (ts.map some) ∧ tF K G Fm vs (F ts) Q E
@[simp] def keepL : List Bool → Env → Env
  | b :: bs, o :: e => (if b then o else none) :: keepL bs e
  | _, _ => []
/-- what a body makes of its arguments; bs: which of them are lent; n: how many names it has -/
def bodyF (fb : Gs) (bs : List Bool) (n : Nat) (ts : List T) : FR := match fb (ts.map some ++ List.replicate (n - ts.length) none) with
  | .rt t e => .ok t (keepL bs e)
  | .nx e => .ok (.val .non) (keepL bs e)
  | .exc x e => .exc x (keepL bs e)
  | _ => .bad
section
variable {K : PySem.W.Frag} {G Fm H : Hp}
theorem RS.keep : ∀ {σ : L2.St} {e : Env} {fp : List Addr} (bs : List Bool) (τ : L2.St), RS K G H σ e fp → bs.length ≤ σ.length → τ.length = bs.length → (∀ i : Nat, bs[i]? = some true → τ[i]? = σ[i]?) → ∃ fp', RS K G H τ (keepL bs e) fp' ∧ List.Sublist fp' fp
  | _, _, fp, [], τ, r, _, hl, _ => by
    cases τ with
    | nil => exact ⟨[], .nil, List.nil_sublist _⟩
    | cons x τ => simp at hl
  | _, _, _, b :: bs, [], r, _, hl, _ => by simp at hl
  | _, _, _, b :: bs, x :: τ, .nil, h, hl, _ => by simp at h
  | _, _, _, b :: bs, x :: τ, .no r, h, hl, k => by
    obtain ⟨fp', h1, h2⟩ := RS.keep bs τ r (by simpa using h) (by simpa using hl) fun i hi => by simpa using k (i + 1) (by simpa using hi)
    refine ⟨fp', ?_, h2⟩
    show RS K G H (x :: τ) ((if b then none else none) :: keepL bs _) fp'
    rw [ite_self]
    exact .no h1
  | _, _, _, b :: bs, x :: τ, .yes (f := f) h0 r, h, hl, k => by
    obtain ⟨fp', h1, h2⟩ := RS.keep bs τ r (by simpa using h) (by simpa using hl) fun i hi => by simpa using k (i + 1) (by simpa using hi)
    cases b with
    | false => exact ⟨fp', .no h1, h2.trans (List.sublist_append_right f _)⟩
    | true =>
      have e := k 0 rfl
      simp only [List.getElem?_cons_zero, Option.some.injEq] at e
      subst e
      exact ⟨f ++ fp', .yes h0 h1, List.Sublist.append_left h2 f⟩
theorem Wd.keep {σ τ : L2.St} {e : Env} (w : Wd K G Fm H σ e) (bs : List Bool) (h : bs.length ≤ σ.length) (hl : τ.length = bs.length) (k : ∀ i : Nat, bs[i]? = some true → τ[i]? = σ[i]?) : Wd K G Fm H τ (keepL bs e) := by
  obtain ⟨fp, r, nd, fr⟩ := w.sl
  obtain ⟨fp', h1, h2⟩ := r.keep bs τ h hl k
  exact ⟨w.gh, w.fh, w.gf, w.tb, fp', h1, nd.sublist h2, fun a ha => fr a (h2.subset ha)⟩
theorem RS.pad : ∀ {σ : L2.St} {e : Env} {fp : List Addr} (n : Nat), RS K G H σ e fp → RS K G H (σ ++ List.replicate n none) (e ++ List.replicate n none) fp
  | _, _, _, 0, .nil => .nil
  | _, _, _, n + 1, .nil => .no (RS.pad n .nil)
  | _, _, _, n, .no r => .no (RS.pad n r)
  | _, _, _, n, .yes h r => .yes h (RS.pad n r)
theorem Wd.pad {σ : L2.St} {e : Env} (w : Wd K G Fm H σ e) (n : Nat) : Wd K G Fm H (σ ++ List.replicate n none) (e ++ List.replicate n none) := by
  obtain ⟨fp, r, nd, fr⟩ := w.sl
  exact ⟨w.gh, w.fh, w.gf, w.tb, fp, r.pad n, nd, fr⟩
end
/-- a def of the text keeps the promise that its body's reading makes -/
theorem fnD {P : Program} {w : World} {K : PySem.W.Frag} {mg : Str → Option Value} {base : Heap} {x qual : Str} {st : Stmt} {f : Addr} {fd : FuncData} {N ps : List Str} {k : Nat} {fb : Gs} {pin : List Nat} (bs : List Bool) (Fn : Fun K x qual st f fd) (S : FnScope N ps (defScope st))
    (hbs : bs.length = ps.length) (hN : ps.length ≤ N.length) (hpin : ∀ i : Nat, bs[i]? = some true → i ∈ pin)
    (hb : ∀ (cdv : Value) (_ : fd.code = cdv) (A : Around) (outer : List PySem.Env) (s : Shared) (H : Hp) (E : XK), Room k (A.deeper (envOfC qual (defScope st) s.heap.objs.size f cdv)) → Takes (cxOf (L2.CX P w) P w K mg base N qual (defScope st) f cdv A outer s H E) (fun cls d _ H => E cls d H) →
      DSs (cxOf (L2.CX P w) P w K mg base N qual (defScope st) f cdv A outer s H E) (fun cls d _ H => E cls d H) pin (defBody st) fb) :
    FnOk P w K mg base (L2.CX P w) (k + 1) f fd ps (spD K ps.length (bodyF fb bs N.length)) := by
  obtain ⟨oc, od, kV, doc, pm, an, cdv, ct, osl, rfl, lk, hcd⟩ := Fn.ex
  refine fn_of lk hcd S (fun vs H Q E h => h.1) fun A outer s H vs Q E hr h => ?_
  obtain ⟨hl, G, Fm, ts, wd, q⟩ := h
  have hlt : ts.length = ps.length := by
    have := wd.len
    simp only [List.length_map] at this
    omega
  refine ⟨_, hb cdv rfl A outer s H E hr (takes_of rfl rfl rfl rfl), G, Fm, ts.map some ++ List.replicate (N.length - ts.length) none, ?_, ?_⟩
  · have := wd.pad (N.length - ts.length)
    unfold L2.start
    rw [hl, ← hlt]
    exact this
  · have hst : ∀ {σ' : L2.St}, Pn pin (L2.start N vs) σ' → ps.length ≤ σ'.length ∧ ∀ i : Nat, bs[i]? = some true → (vs.map some)[i]? = σ'[i]? := fun {σ'} p => by
      refine ⟨by rw [p.2]; unfold L2.start; rw [List.length_append, List.length_map, List.length_replicate]; omega, fun i hi => ?_⟩
      rw [p.1 i (hpin i hi)]
      have hi2 : i < vs.length := by
        have := (List.getElem?_eq_some_iff.mp hi).1
        omega
      unfold L2.start
      rw [List.getElem?_append_left (by rw [List.length_map]; exact hi2)]
    have q : tF K G Fm vs (match fb (ts.map some ++ List.replicate (N.length - ts.length) none) with
      | .rt t e => .ok t (keepL bs e)
      | .nx e => .ok (.val .non) (keepL bs e)
      | .exc x e => .exc x (keepL bs e)
      | _ => .bad) Q E := q
    show tS K (fun cls d _ H => E cls d H) pin (L2.start N vs) G Fm (fb (ts.map some ++ List.replicate (N.length - ts.length) none)) _
    cases hf : fb (ts.map some ++ List.replicate (N.length - ts.length) none) with
    | nx e =>
      rw [hf] at q
      intro G' H' σ' s p w'
      obtain ⟨h1, h2⟩ := hst p
      exact q G' H' .non s ((w'.keep bs (by omega) (by rw [List.length_map]; omega) h2).front .non)
    | rt t e =>
      rw [hf] at q
      intro G' H' σ' v s p w'
      obtain ⟨h1, h2⟩ := hst p
      refine q G' H' v s (w'.keep (true :: bs) (by simp only [List.length_cons]; omega) (by simp only [List.length_cons, List.length_map]; omega) fun i hi => ?_)
      cases i with
      | zero => rfl
      | succ i => simpa using h2 i (by simpa using hi)
    | exc x e =>
      rw [hf] at q
      intro G' H' σ' dd s p w' xo
      obtain ⟨h1, h2⟩ := hst p
      exact q G' H' dd s (w'.keep bs (by omega) (by rw [List.length_map]; omega) h2) xo
    | br e => rw [hf] at q; exact q.elim
    | ct e => rw [hf] at q; exact q.elim
    | bad => rw [hf] at q; exact q.elim
/-! ### calls -/
@[simp] def splitA : List Vl → Env → Option (List T × Env)
  | [], e => some ([], e)
  | .d x :: ls, e => (splitA ls e).map fun p => (.val x :: p.1, p.2)
  | .sl i :: ls, e => match e[i]? with
    | some (some t) => (splitA ls (e.set i none)).map fun p => (t :: p.1, p.2)
    | _ => none
@[simp] def joinA : List Vl → Env → Env → Env
  | .sl i :: ls, some t :: ts, e => joinA ls ts (e.set i (some t))
  | _ :: ls, _ :: ts, e => joinA ls ts e
  | _, _, e => e
@[simp] def callR (F : List T → FR) (ls : List Vl) (e : Env) : R T := match splitA ls e with
  | none => .bad
  | some p => match F p.1 with
    | .ok t ts => .ok t (joinA ls ts p.2)
    | .exc x ts => .exc x (joinA ls ts p.2)
    | .bad => .bad
@[simp] def gCall (F : List T → FR) (k : Gn (List Vl)) : Gn T := fun env => (k env).bind fun ls e => callR F ls e
section
variable {K : PySem.W.Frag} {G G' Fm H H' : Hp}
theorem splitA_rs : ∀ {ls : List Vl} {σ : L2.St} {vs : List V} {e : Env} {fp : List Addr} {p : List T × Env}, RVs K G σ ls vs → RS K G H σ e fp → splitA ls e = some p → ∃ fa fo, RS K G H (vs.map some) (p.1.map some) fa ∧ RS K G H σ p.2 fo ∧ fp.Perm (fa ++ fo)
  | [], σ, _, e, fp, p, .nil, r, h => by cases (Option.some.inj h); exact ⟨[], fp, .nil, r, .refl _⟩
  | .d x :: ls, σ, _, e, fp, p, .cons h1 hr, r, h => by
    obtain ⟨p', h2, rfl⟩ := Option.map_eq_some_iff.mp (show Option.map _ _ = some p from h)
    obtain ⟨fa, fo, k1, k2, k3⟩ := splitA_rs hr r h2
    exact ⟨[] ++ fa, fo, .yes (.val h1) k1, k2, k3⟩
  | .sl i :: ls, σ, _, e, fp, p, .cons (v := v) h1 hr, r, h => by
    unfold splitA at h
    split at h
    · rename_i t ht
      obtain ⟨p', h2, rfl⟩ := Option.map_eq_some_iff.mp h
      obtain ⟨v', f, fo, k1, k2, k3, k4⟩ := r.out ht
      have h1 : σ[i]? = some (some v) := h1
      rw [h1] at k1
      cases k1
      obtain ⟨fa, fo', j1, j2, j3⟩ := splitA_rs hr k3 h2
      refine ⟨f ++ fa, fo', .yes k2 j1, j2, ?_⟩
      rw [List.append_assoc]
      exact k4.trans (List.Perm.append_left f j3)
    · cases h
theorem joinA_rs : ∀ {ls : List Vl} {σ : L2.St} {vs : List V} {e ts : Env} {fo fa : List Addr}, RVs K G σ ls vs → RS K G' H' (vs.map some) ts fa → RS K G' H' σ e fo →
    ∃ fp, RS K G' H' σ (joinA ls ts e) fp ∧ (∀ a ∈ fp, a ∈ fa ++ fo) ∧ ((fa ++ fo).Nodup → fp.Nodup)
  | [], σ, _, e, ts, fo, fa, .nil, r, q => by
    cases r
    exact ⟨fo, q, fun _ h => h, fun h => h⟩
  | .d x :: ls, σ, _, e, ts, fo, fa, .cons h1 hr, r, q => by
    cases r with
    | no r =>
      obtain ⟨fp, k1, k2, k3⟩ := joinA_rs (ls := ls) (e := e) hr r q
      exact ⟨fp, k1, k2, k3⟩
    | @yes _ _ _ _ f fa' h r =>
      obtain ⟨fp, k1, k2, k3⟩ := joinA_rs (e := e) hr r q
      refine ⟨fp, k1, fun a ha => ?_, fun nd => k3 ?_⟩
      · rw [List.append_assoc]
        exact List.mem_append_right _ (k2 a ha)
      · rw [List.append_assoc] at nd
        exact (List.nodup_append.mp nd).2.1
  | .sl i :: ls, σ, _, e, ts, fo, fa, .cons (v := v) h1 hr, r, q => by
    cases r with
    | no r =>
      obtain ⟨fp, k1, k2, k3⟩ := joinA_rs (ls := ls) (e := e) hr r q
      exact ⟨fp, k1, k2, k3⟩
    | @yes _ t _ _ f fa' h r =>
      have h1 : σ[i]? = some (some v) := h1
      have hi : i < e.length := by rw [← q.len]; exact (List.getElem?_eq_some_iff.mp h1).1
      obtain ⟨fq, j1, j2, j3⟩ := q.inn h hi
      rw [set_self h1] at j1
      obtain ⟨fp, k1, k2, k3⟩ := joinA_rs (e := e.set i (some t)) hr r j1
      have pm : (f ++ fa' ++ fo).Perm (fa' ++ (f ++ fo)) := by
        rw [← List.append_assoc]
        exact List.Perm.append_right _ List.perm_append_comm
      refine ⟨fp, k1, fun a ha => ?_, fun nd => k3 ?_⟩
      · refine pm.mem_iff.mpr ?_
        rcases List.mem_append.mp (k2 a ha) with z | z
        · exact List.mem_append_left _ z
        · exact List.mem_append_right _ (j2 a z)
      · have nd1 := List.nodup_append.mp (pm.nodup_iff.mp nd)
        exact List.nodup_append.mpr ⟨nd1.1, j3 nd1.2.1, fun a ha b hb => nd1.2.2 a ha b (j2 b hb)⟩
theorem RVs.length {σ : L2.St} : ∀ {ls : List Vl} {vs : List V}, RVs K G σ ls vs → ls.length = vs.length
  | _, _, .nil => rfl
  | _, _, .cons _ r => congrArg (· + 1) (RVs.length r)
/-- the frame of a callee: all that is neither ground nor lent -/
def frm (G Fm H : Hp) (fa : List Addr) : Hp := fun b => if (G b).isSome = true ∨ b ∈ fa then none else match Fm b with
  | some o => some o
  | none => match H b with
    | some (.tbl _) => none
    | o => o
theorem frm_some {Fm : Hp} {fa : List Addr} {b : Addr} {o : HO} (w : ∀ b o, Fm b = some o → FmOk G H b o) (h : frm G Fm H fa b = some o) : G b = none ∧ b ∉ fa ∧ FmOk G H b o := by
  unfold frm at h
  split at h
  · cases h
  · rename_i n
    refine ⟨?_, fun z => n (.inr z), ?_⟩
    · cases q : G b with
      | none => rfl
      | some u => exact (n (.inl (by rw [q]; rfl))).elim
    · split at h
      · rename_i o' q
        cases h
        exact w b _ q
      · split at h
        · cases h
        · rename_i o' q
          cases o <;> first | exact h | exact (q _ h).elim
theorem frm_of {Fm : Hp} {fa : List Addr} {b : Addr} {o : HO} (h1 : G b = none) (h2 : b ∉ fa) (h4 : Fm b = none) (h3 : H b = some o) (n : ∀ ps, o ≠ .tbl ps) : frm G Fm H fa b = some o := by
  unfold frm
  rw [if_neg (fun z => z.elim (fun z => by rw [h1] at z; simp at z) h2), h4]
  show (match H b with | some (.tbl _) => none | o => o) = some o
  rw [h3]
  cases o <;> first | rfl | exact (n _ rfl).elim
theorem frm_in {Fm : Hp} {fa : List Addr} {b : Addr} {o : HO} (h1 : G b = none) (h2 : b ∉ fa) (h4 : Fm b = some o) : frm G Fm H fa b = some o := by
  unfold frm
  rw [if_neg (fun z => z.elim (fun z => by rw [h1] at z; simp at z) h2), h4]
/-- into a call -/
theorem Wd.enter {σ : L2.St} {e : Env} {ls : List Vl} {vs : List V} {p : List T × Env} (w : Wd K G Fm H σ e) (r : RVs K G σ ls vs) (h : splitA ls e = some p) :
    ∃ fa fo, RS K G H (vs.map some) (p.1.map some) fa ∧ RS K G H σ p.2 fo ∧ (fa ++ fo).Nodup ∧ (∀ a ∈ fa ++ fo, Fm a = none) ∧ Wd K G (frm G Fm H fa) H (vs.map some) (p.1.map some) := by
  obtain ⟨fp, rs, nd, fr⟩ := w.sl
  obtain ⟨fa, fo, h1, h2, h3⟩ := splitA_rs r rs h
  have nd' := h3.nodup_iff.mp nd
  refine ⟨fa, fo, h1, h2, nd', fun a ha => fr a (h3.mem_iff.mpr ha), w.gh, fun b o q => (frm_some w.fh q).2.2, fun b o q => (frm_some w.fh q).1, fun p hp => frm_in (w.gf _ _ (w.tb p hp)) (fun z => by have := fr _ (h3.mem_iff.mpr (List.mem_append_left _ z)); rw [w.tb p hp] at this; cases this) (w.tb p hp), fa, h1, (List.nodup_append.mp nd').1, fun a ha => ?_⟩
  show frm G Fm H fa a = none
  unfold frm
  rw [if_pos (.inr ha)]
/-- out of a call -/
theorem Wd.leave {σ : L2.St} {e e1 : Env} {ls : List Vl} {vs : List V} {fa fo : List Addr} {x : Option V} {y : Option T} {ts : Env} (w : Wd K G Fm H σ e) (r : RVs K G σ ls vs) (h2 : RS K G H σ e1 fo) (nd : (fa ++ fo).Nodup) (fr : ∀ a ∈ fa ++ fo, Fm a = none)
    (s : Same G G') (w' : Wd K G' (frm G Fm H fa) H' (x :: vs.map some) (y :: ts)) : Wd K G' Fm H' (x :: σ) (y :: joinA ls ts e1) := by
  have fo_in : ∀ a ∈ fo, ∃ o, frm G Fm H fa a = some o ∧ H a = some o ∧ ∀ ps, o ≠ .tbl ps := fun a ha => by
    obtain ⟨g, o, ho, nt⟩ := h2.own a ha
    exact ⟨o, frm_of g (fun z => (List.nodup_append.mp nd).2.2 a z a ha rfl) (fr a (List.mem_append_right _ ha)) ho nt, ho, nt⟩
  have h2' : RS K G' H' σ e1 fo := h2.mono s fun a ha => by
    obtain ⟨o, q1, q2, q3⟩ := fo_in a ha
    exact ⟨((w'.fh a o q1).eq q3).trans q2.symm, w'.gf a o q1⟩
  have fmIn : ∀ b o, Fm b = some o → frm G Fm H fa b = some o := fun b o q => frm_in (w.gf b o q) (fun z => by have := fr b (List.mem_append_left _ z); rw [q] at this; cases this) q
  obtain ⟨fp, rs, nd', fr'⟩ := w'.sl
  have key : ∀ {f fa' : List Addr}, (f ++ fa').Nodup → (∀ a ∈ f ++ fa', frm G Fm H fa a = none) → RS K G' H' (vs.map some) ts fa' → ∃ fq, RS K G' H' σ (joinA ls ts e1) fq ∧ (f ++ fq).Nodup ∧ ∀ a ∈ f ++ fq, Fm a = none := fun {f fa'} n1 n2 rs => by
    obtain ⟨fq, k1, k2, k3⟩ := joinA_rs (e := e1) r rs h2'
    have dis : ∀ a ∈ f ++ fa', ∀ b ∈ fo, a ≠ b := fun a ha b hb z => by
      obtain ⟨o, q1, _, _⟩ := fo_in b hb
      have := n2 a ha
      rw [z, q1] at this
      cases this
    have n3 := List.nodup_append.mp n1
    have ndo := (List.nodup_append.mp nd).2.1
    refine ⟨fq, k1, List.nodup_append.mpr ⟨n3.1, k3 (List.nodup_append.mpr ⟨n3.2.1, ndo, fun a ha b hb => dis a (List.mem_append_right _ ha) b hb⟩), fun a ha b hb => ?_⟩, fun a ha => ?_⟩
    · rcases List.mem_append.mp (k2 b hb) with z | z
      · exact n3.2.2 a ha b z
      · exact dis a (List.mem_append_left _ ha) b z
    · have nofrm : ∀ a ∈ f ++ fa', Fm a = none := fun a ha => by
        cases q : Fm a with
        | none => rfl
        | some o =>
          have := n2 a ha
          rw [fmIn a o q] at this
          cases this
      rcases List.mem_append.mp ha with z | z
      · exact nofrm a (List.mem_append_left _ z)
      · rcases List.mem_append.mp (k2 a z) with z | z
        · exact nofrm a (List.mem_append_right _ z)
        · exact fr a (List.mem_append_right _ z)
  cases rs with
  | no rs =>
    obtain ⟨fq, k1, k2, k3⟩ := key (f := []) nd' fr' rs
    exact ⟨w'.gh, fun b o q => w'.fh b o (fmIn b o q), fun b o q => w'.gf b o (fmIn b o q), w.tb, fq, .no k1, k2, k3⟩
  | yes h rs =>
    obtain ⟨fq, k1, k2, k3⟩ := key nd' fr' rs
    exact ⟨w'.gh, fun b o q => w'.fh b o (fmIn b o q), fun b o q => w'.gf b o (fmIn b o q), w.tb, _, .yes h k1, k2, k3⟩
end
section
variable {X : Cx} {W : WX} {pin : List Nat} {a : Expr} {es : List Expr} {pos p : Pos} {k : Nat} {f : Addr} {fd : FuncData} {ps : List Str} {F : List T → FR} {x : Str}
theorem call_of {n : Nat} {ka : Gn (List Vl)} {σ : L2.St} {H : Hp} {Q : VK} (h : tOE X.K W (gCall F ka) σ H Q) (hn : ∀ (env e : Env) ls, ka env = .ok ls e → ls.length = n) : tCallS (spD X.K n F) (WE W) (tVA X.K W ka) σ H Q := by
  obtain ⟨G, Fm, env, w, q⟩ := h
  refine ⟨G, Fm, env, w, ?_⟩
  have q : tR X.K W σ G Fm ((ka env).bind fun ls e => callR F ls e) (PTr X.K Fm σ Q) := q
  cases hk : ka env with
  | exc x e => rw [hk] at q; exact q
  | bad => rw [hk] at q; exact q
  | ok ls e =>
    rw [hk] at q
    intro G1 H1 s vs w1 r1
    have q : tR X.K W σ G Fm (callR F ls e) (PTr X.K Fm σ Q) := q
    have hln : vs.length = n := by
      rw [← hn env e ls hk]
      exact r1.length.symm
    have q := q.mono s
    unfold callR at q
    split at q
    · exact q.elim
    · rename_i pr hp
      obtain ⟨fa, fo, h1, h2, nd, fr, we⟩ := w1.enter r1 hp
      refine ⟨hln, G1, _, pr.1, we, ?_⟩
      cases hF : F pr.1 with
      | bad => simp only [hF] at q; exact q.elim
      | ok t ts =>
        simp only [hF] at q
        intro G2 H2 v s2 w2
        exact q G2 H2 s2 v (w1.leave r1 h2 nd fr s2 w2)
      | exc x ts =>
        simp only [hF] at q
        intro G2 H2 dd s2 w2 xo
        exact q G2 H2 dd s2 ((w1.leave r1 h2 nd fr s2 (w2.nofront none)).drop) xo
theorem oe_call {ka : Gn (List Vl)} (tk : Takes X W) (Fk : FnOk X.prog X.w X.K X.mg X.base (L2.CX X.prog X.w) k f fd ps (spD X.K ps.length F)) (hr : Room k X.A) (hg : Gl X x) (hm : X.mg x = some (.ref f)) (hk : PySem.W.keepIn X.K (.ref f) = true) (hb : Binds X.K fd ps [])
    (ha : VA X W (a :: es) ka) (hn : ∀ (env e : Env) ls, ka env = .ok ls e → ls.length = ps.length) (hdb : (x == ("__debug__" : Str)) = false := by decide) (he : starEach (a :: es) X.env = (false, eval a X.env) :: starEach es X.env := by rfl) (hpl : (backTo pos (starEach es X.env)).any (·.1) = false := by rfl) :
    OE X W (.Call (.Name x p) (a :: es) [] pos) (gCall F ka) := PE.imp (pe_callS Fk hr hg hm hk hb (fun σ => passAt tk σ) ha hdb he hpl) fun σ H Q h => call_of h hn
/-- argument lists have their length -/
theorem len0V : ∀ (env e : Env) ls, gNilV env = .ok ls e → ls.length = 0 := fun env e ls h => by
  have h : R.ok [] env = R.ok ls e := h
  cases h
  rfl
theorem lenSV {g : Gn Vl} {k : Gn (List Vl)} {n : Nat} (h : ∀ (env e : Env) ls, k env = .ok ls e → ls.length = n) : ∀ (env e : Env) ls, gConsV g k env = .ok ls e → ls.length = n + 1 := fun env e ls q => by
  have q : ((g env).bind fun d e => (k e).map (d :: ·)) = .ok ls e := q
  cases hg : g env with
  | ok d e1 =>
    rw [hg] at q
    have q : (k e1).map (d :: ·) = .ok ls e := q
    cases hk : k e1 with
    | ok l e2 =>
      rw [hk] at q
      cases q
      rw [List.length_cons, h _ _ _ hk]
    | exc x e2 => rw [hk] at q; cases q
    | bad => rw [hk] at q; cases q
  | exc x e1 => rw [hg] at q; cases q
  | bad => rw [hg] at q; cases q
/-- raise X('..') of an own class without __init__ -/
@[simp] def gRaise (C : Addr) : Gs := fun env => .exc ⟨C, none⟩ env
theorem ds_raise {C : Addr} {e : Expr} (hc : X.calm = true) (tk : Takes X W) (he : PMk X e (fun _ H Q => Q (.ref C) none H)) : DS X W pin (.Raise (some e) none pos) (gRaise C) := PS.imp (ps_raise hc tk he) fun D σ H ⟨G, Fm, env, w, q⟩ =>
  q G H σ none (Same.refl G) (Pn.refl σ) w rfl
end
/-- the frame at the start: the tables -/
def frm0 (T : List (Addr × Str)) : Hp := fun b => (T.lookup b).map mark
theorem frm0_some {T : List (Addr × Str)} {b : Addr} {o : HO} (h : frm0 T b = some o) : ∃ q, (b, q) ∈ T ∧ o = mark q := by
  obtain ⟨q, h1, h2⟩ := Option.map_eq_some_iff.mp (show Option.map _ _ = some o from h)
  refine ⟨q, ?_, h2.symm⟩
  clear h h2
  induction T with
  | nil => cases h1
  | cons x T ih =>
    rw [List.lookup_cons] at h1
    split at h1
    · rename_i z
      have e : b = x.1 := by simpa using z
      cases h1
      rw [e]
      exact List.mem_cons_self
    · exact List.mem_cons_of_mem _ (ih h1)
theorem lookup_nodup {T : List (Addr × Str)} (nd : (T.map (·.1)).Nodup) {p : Addr × Str} (h : p ∈ T) : T.lookup p.1 = some p.2 := by
  induction T with
  | nil => cases h
  | cons x T ih =>
    have nd2 := List.nodup_cons.mp nd
    rw [List.lookup_cons]
    rcases List.mem_cons.mp h with e | e
    · subst e
      simp
    · have : p.1 ≠ x.1 := fun z => nd2.1 (List.mem_map.mpr ⟨p, e, z⟩)
      rw [show (p.1 == x.1) = false from by simpa using this]
      exact ih nd2.2 e
/-- the law's promise, met by the mirror -/
theorem law_sp {K : PySem.W.Frag} {F : List T → FR} {H : Hp} {a : Addr} {ns : List Int} {Q : VK} {E : XK} (nd : ((Tabs.T : List (Addr × Str)).map (·.1)).Nodup) (hF : ∃ ts, F [.val (.ro (ns.map D.int))] = .ok (.val (.bl true)) ts) (hT : ∀ p ∈ (Tabs.T : List (Addr × Str)), H p.1 = some (.tbl #[]))
    (hS : SqL K H a (ns.map V.int)) (q : ∀ H', Q (.bl true) H') : spD K 1 F [.ref a] H Q E := by
  obtain ⟨ts, hts⟩ := hF
  have nT : ∀ b o, frm0 Tabs.T b = some o → H b = some (.tbl #[]) ∧ ∃ q, o = mark q := fun b o h => by
    obtain ⟨q, h1, h2⟩ := frm0_some h
    exact ⟨hT _ h1, q, h2⟩
  refine ⟨rfl, fun b => match H b with | some (.tbl _) => none | o => o, frm0 Tabs.T, [.val (.ro (ns.map D.int))], ⟨fun b o h => ?_, fun b o h => ?_, fun b o h => ?_, fun p hp => ?_, [] ++ [], .yes (.val (.ro ?_ (RDs.mk_ints ns))) .nil, List.nodup_nil, fun a ha => absurd ha (by simp)⟩, ?_⟩
  · revert h
    cases hb : H b with
    | none => exact fun h => nomatch h
    | some u => cases u <;> first | exact fun h => h | exact fun h => nomatch h
  · obtain ⟨h1, q, rfl⟩ := nT b o h
    exact ⟨#[], h1, True.intro, fun pos cv hc => by
      have z : codeAmong pos [] = some cv := hc
      simp [codeAmong] at z⟩
  · obtain ⟨h1, q, rfl⟩ := nT b o h
    show (match H b with | some (.tbl _) => none | o => o) = none
    rw [h1]
  · show ((Tabs.T : List (Addr × Str)).lookup p.1).map mark = some (mark p.2)
    rw [lookup_nodup nd hp]
    rfl
  · have k : ∀ o, (∀ ps, o ≠ .tbl ps) → H a = some o → (match H a with | some (.tbl _) => none | o => o) = some o := fun o n h => by
      rw [h]
      cases o <;> first | rfl | exact (n _ rfl).elim
    rcases hS with (h | ⟨o, h⟩) | h
    · exact .inl (.inl (k _ (fun _ z => nomatch z) h))
    · exact .inl (.inr ⟨o, k _ (fun _ z => nomatch z) h⟩)
    · exact .inr h
  · rw [hts]
    intro G' H' v s w'
    obtain ⟨fp, r, _, _⟩ := w'.sl
    cases r with
    | yes h _ =>
      cases h with
      | val h =>
        cases h
        exact q H'
end DL


/-! D-layer, part j: defs of the text and their callers. -/
namespace DL
open PySem PySem.Spec PyProof.Rows L2
variable [Tabs]
/-- a def of the text -/
def Df (K : PySem.W.Frag) (mg : Str → Option Value) (x : Str) (st : Stmt) (ps : List Str) : Prop := ∃ f fd, mg x = some (.ref f) ∧ Fun K x x st f fd ∧ Binds K fd ps []
/-- a def that may be called, by its mirror F, with k levels of room -/
def Cl (P : Program) (w : World) (K : PySem.W.Frag) (mg : Str → Option Value) (base : Heap) (k : Nat) (x : Str) (ps : List Str) (F : List T → FR) : Prop :=
  ∃ f fd, mg x = some (.ref f) ∧ PySem.W.keepIn K (.ref f) = true ∧ Binds K fd ps [] ∧ FnOk P w K mg base (L2.CX P w) k f fd ps (spD K ps.length F) ∧ ∃ oc od osl, K.lookup f = some ⟨oc, od, .func fd, osl⟩
theorem Cl.mono {P : Program} {w : World} {K : PySem.W.Frag} {mg : Str → Option Value} {base : Heap} {k j : Nat} {x : Str} {ps : List Str} {F : List T → FR} (h : Cl P w K mg base k x ps F) (hj : k ≤ j) : Cl P w K mg base j x ps F :=
  let ⟨f, fd, a, b, c, e, l⟩ := h; ⟨f, fd, a, b, c, e.mono hj, l⟩
theorem fun_lk {K : PySem.W.Frag} {x : Str} {st : Stmt} {f : Addr} {fd : FuncData} (h : Fun K x x st f fd) : ∃ oc od osl, K.lookup f = some ⟨oc, od, .func fd, osl⟩ := by
  obtain ⟨oc, od, kV, doc, pm, an, cdv, ct, osl, rfl, lk, hcd⟩ := h.ex
  exact ⟨oc, od, osl, lk⟩
theorem Cl.none {P : Program} {w : World} {K : PySem.W.Frag} {mg : Str → Option Value} {base : Heap} {k : Nat} {x : Str} {st : Stmt} {ps : List Str} (h : Df K mg x st ps) : Cl P w K mg base k x ps (fun _ => .bad) := by
  obtain ⟨f, fd, h1, h2, h3⟩ := h
  refine ⟨f, fd, h1, h2.kp, h3, ⟨fun vs H Q E h => h.1, fun A outer s H args us vs Q E _ _ _ _ h => ?_⟩, fun_lk h2⟩
  obtain ⟨_, _, _, _, _, h⟩ := h
  exact h.elim
theorem Cl.mk {P : Program} {w : World} {K : PySem.W.Frag} {mg : Str → Option Value} {base : Heap} {k : Nat} {x : Str} {st : Stmt} {N ps : List Str} {fb : Gs} {pin : List Nat} (bs : List Bool) (h : Df K mg x st ps) (S : FnScope N ps (defScope st)) (hbs : bs.length = ps.length) (hN : ps.length ≤ N.length) (hpin : ∀ i : Nat, bs[i]? = some true → i ∈ pin)
    (hb : ∀ (f : Addr) (cdv : Value) (_ : mg x = some (.ref f) ∧ ∃ fd, Fun K x x st f fd ∧ fd.code = cdv) (A : Around) (outer : List PySem.Env) (s : Shared) (H : Hp) (E : XK), Room k (A.deeper (envOfC x (defScope st) s.heap.objs.size f cdv)) → Takes (cxOf (L2.CX P w) P w K mg base N x (defScope st) f cdv A outer s H E) (fun cls d _ H => E cls d H) →
      DSs (cxOf (L2.CX P w) P w K mg base N x (defScope st) f cdv A outer s H E) (fun cls d _ H => E cls d H) pin (defBody st) fb) : Cl P w K mg base (k + 1) x ps (bodyF fb bs N.length) := by
  obtain ⟨f, fd, h1, h2, h3⟩ := h
  exact ⟨f, fd, h1, h2.kp, h3, fnD bs h2 S hbs hN hpin fun cdv hc A outer s H E => hb f cdv ⟨h1, fd, h2, hc⟩ A outer s H E, fun_lk h2⟩
section
variable {X : Cx} {W : WX} {pin : List Nat} {a : Expr} {es : List Expr} {pos p : Pos} {k : Nat} {ps : List Str} {F : List T → FR} {x : Str}
theorem oe_cl {ka : Gn (List Vl)} (c : Cl X.prog X.w X.K X.mg X.base k x ps F) (tk : Takes X W) (hr : Room k X.A) (hg : Gl X x) (ha : VA X W (a :: es) ka) (hn : ∀ (env e : Env) ls, ka env = .ok ls e → ls.length = ps.length) (hdb : (x == ("__debug__" : Str)) = false := by decide)
    (he : starEach (a :: es) X.env = (false, eval a X.env) :: starEach es X.env := by rfl) (hpl : (backTo pos (starEach es X.env)).any (·.1) = false := by rfl) : OE X W (.Call (.Name x p) (a :: es) [] pos) (gCall F ka) := by
  obtain ⟨f, fd, h1, h2, h3, h5, _⟩ := c
  exact oe_call tk h5 hr hg h1 h2 h3 ha hn hdb he hpl
theorem ds_setLcD {i : Nat} {y : Str} {py spos : Pos} {elt tg iter : Expr} {ifs : List Expr} {scope : Scope} {own : List (Str × Nat)} {gi : Gn (List D)} {f : Tg} {tt : Gn Bool} {g : Gn D} (hc : X.calm = true) (hN : X.N.Nodup) (hy : X.N[i]? = some y) (hyl : X.env.scope.names.lookup y = some .local) (hp : i ∉ pin)
    (hsw : swapsWith (.ListComp elt [⟨tg, iter, ifs, 0⟩] scope pos) (some (.Name y py)) spos.line X.env = pure true) (hi : DI X W tg iter gi) (ok : BlkOk X.N X.env.scope scope own)
    (hg : ∀ (s : Shared) (H : Hp) (C : Addr) (cl : List (Str × Addr)) (fp : List Addr), DG (X.blk s H scope (compEnvC scope cl C X.env) fp) (compl X.N.length (own.map (·.2))) tg f) (ht : ∀ (s : Shared) (H : Hp) (C : Addr) (cl : List (Str × Addr)) (fp : List Addr), BT (X.blk s H scope (compEnvC scope cl C X.env) fp) W0 ifs tt)
    (he : ∀ (s : Shared) (H : Hp) (C : Addr) (cl : List (Str × Addr)) (fp : List Addr), DE (X.blk s H scope (compEnvC scope cl C X.env) fp) W0 elt g) (hs : ∀ x, foldedSetIterable iter X.env x = pure x := by intro _; rfl) :
    DS X W pin (.Assign [.Name y py] (.ListComp elt [⟨tg, iter, ifs, 0⟩] scope pos) spos) (gSet i (gFz (gLc gi f tt g (own.map (·.2))))) := PS.impL (ps_setLc hc hN hy hyl hsw hi ok hg ht he hs) fun D σ H hl ⟨G, Fm, env, w, q⟩ => by
  refine tLc_of (W := W) (gi := gi) (f := f) (tt := tt) (g := g) hl ⟨G, Fm, env, w, ?_⟩
  have q : tS X.K W pin σ G Fm (Sr.of ((gLc gi f tt g (own.map (·.2)) env).map T.frz) fun d e => .nx (e.set i (some (.val d)))) D := q
  cases hq : gLc gi f tt g (own.map (·.2)) env with
  | ok t e =>
    rw [hq] at q
    intro G1 H1 s v w1
    obtain ⟨G2, s2, w2, r2⟩ := w1.freeze
    exact q G2 H1 _ (s.trans s2) (Pn.set hp) (w2.set r2 (by rw [← w2.len, hl]; exact (List.getElem?_eq_some_iff.mp hy).1))
  | exc x e =>
    rw [hq] at q
    intro G' H' dd s w x
    exact q G' H' σ dd s (Pn.refl σ) w x
  | bad => rw [hq] at q; exact q
end
end DL
namespace DL
open PySem PySem.Spec PyProof.Rows L2
variable [Tabs]
/-- a module's constant -/
def Gd (K : PySem.W.Frag) (mg : Str → Option Value) (x : Str) (d : D) : Prop := ∃ u v, mg x = some u ∧ RelV v u ∧ ∀ G, RD K G d v
theorem de_gd {X : Cx} {W : WX} {pos : Pos} {x : Str} {d : D} (h : Gd X.K X.mg x d) (hg : Gl X x) (hd : (x == ("__debug__" : Str)) = false := by decide) : DE X W (.Name x pos) (gC d) := by
  obtain ⟨u, v, h1, h2, h3⟩ := h
  exact de_glob hg h1 h2 h3 hd
theorem Gd.int {K : PySem.W.Frag} {mg : Str → Option Value} {x : Str} {i : Int} {t : Tok} (h : mg x = some (.int i t)) : Gd K mg x (.int i) := ⟨_, .int i, h, ⟨t, rfl⟩, fun _ => .int i⟩
theorem Gd.str {K : PySem.W.Frag} {mg : Str → Option Value} {x y : Str} {t : Tok} (h : mg x = some (.str y t)) : Gd K mg x (.str y) := ⟨_, .str y, h, ⟨t, rfl⟩, fun _ => .str y⟩
/-- an own exception class over ValueError without __init__ -/
structure Xc (K : PySem.W.Frag) (mg : Str → Option Value) (x : Str) (C : Addr) : Prop where
  g : mg x = some (.ref C)
  x : PySem.W.excIn K C [.type "ValueError", .type "Exception", .type "BaseException", .type "object"] "ValueError.__new__" = true
  k : PySem.W.keepIn K (.ref C) = true
  b : PySem.W.subIn K (.ref C) (.type "BaseException") = some true
  t : PySem.W.typeIn K (.ref C) = some (.type "type")
theorem ds_raiseC {X : Cx} {W : WX} {pin : List Nat} {pos : Pos} {x : Str} {C : Addr} {m : Str} {j : Nat} {p p2 p3 : Pos} (h : Xc X.K X.mg x C) (hc : X.calm = true) (tk : Takes X W) (hg : Gl X x) (hdb : (x == ("__debug__" : Str)) = false := by decide) :
    DS X W pin (.Raise (some (.Call (.Name x p) [.Constant (.str m) j p2] [] p3)) none pos) (gRaise C) := ds_raise hc tk (pmk_own PySem.F.excBase_ValueError h.x h.g h.k (raises_own h.b h.t) hg hdb)
end DL
namespace DL
open PySem PySem.Spec PyProof.Rows L2
variable [Tabs]
theorem pin_of {bs : List Bool} {pin : List Nat} (h : (List.range bs.length).all (fun i => !(bs[i]? == some true) || pin.contains i) = true) : ∀ i : Nat, bs[i]? = some true → i ∈ pin := fun i hi => by
  have hl := (List.getElem?_eq_some_iff.mp hi).1
  have := List.all_eq_true.mp h i (List.mem_range.mpr hl)
  rw [hi] at this
  simpa using this
theorem Room.units1 {k : Nat} {A : Around} (r : Room k A) : A.units + 65 < cLine := by have := r.un; omega
def fAddI : D → D → Option D := fII fun i j => some (.int (i + j))
theorem pure_addI {K : PySem.W.Frag} : PureOp K (rI0 fun i j => .int (i + j)) fAddI := pure_rI0 fun _ _ _ => .int _
end DL


/-! D-layer, part k: truth, isinstance, bit_length, two clauses, try. -/
namespace DL
open PySem PySem.Spec PyProof.Rows L2
variable [Tabs]
theorem RT.sup {K : PySem.W.Frag} {G H : Hp} {t : T} {v : V} {f : List Addr} (s : Same G H) (h : RT K G H t v f) : True := trivial
/-! ### truth -/
@[simp] def truD : T → Option Bool
  | .val .non => some false
  | .val (.bl b) => some b
  | .val (.int i) => some (i != 0)
  | .val (.str y) => if y.length ≤ sizeLine then some ((y.length : Int) != 0) else none
  | .val (.lst ds) => some (!ds.isEmpty)
  | .val (.ro ds) => some (!ds.isEmpty)
  | .val (.tup ds) => some (!ds.isEmpty)
  | .val (.dK ks) => some (!ks.isEmpty)
  | .lst ds => some (!ds.isEmpty)
  | .dK ks => some (!ks.isEmpty)
  | _ => none
theorem RDs.emp {K : PySem.W.Frag} {G : Hp} {ds : List D} {vs : List V} (h : RDs K G ds vs) : (!ds.isEmpty) = !vs.isEmpty := by cases h <;> rfl
theorem RDk.emp {K : PySem.W.Frag} {G : Hp} {ds : List (Key × D)} {vs : List (Key × V)} (h : RDk K G ds vs) : (!ds.isEmpty) = !vs.isEmpty := by cases h <;> rfl
theorem tru_of {K : PySem.W.Frag} {G H : Hp} {t : T} {v : V} {f : List Addr} {b : Bool} (s : Same G H) (h : RT K G H t v f) (e : truD t = some b) : TruV K v H b := by
  cases h with
  | val r =>
    cases r with
    | non => exact (Option.some.inj e).symm
    | bl b => exact (Option.some.inj e).symm
    | int i => exact (Option.some.inj e).symm
    | str y =>
      have e : (if y.length ≤ sizeLine then some ((y.length : Int) != 0) else none) = some b := e
      split at e
      · rename_i h; exact ⟨h, (Option.some.inj e).symm⟩
      · cases e
    | lst h r => exact .inl ⟨_, .inl (.inl (s _ _ h)), by rw [← Option.some.inj e, r.emp]⟩
    | ro h r => exact .inl ⟨_, s.seq h, by rw [← Option.some.inj e, r.emp]⟩
    | tup h r => exact .inr (.inl ⟨_, sqT_mono s h, by rw [← Option.some.inj e, r.emp]⟩)
    | dK h r => exact .inr (.inr ⟨_, s _ _ h, by rw [← Option.some.inj e, r.emp]⟩)
    | _ => cases e
  | lst h g r => exact .inl ⟨_, .inl (.inl h), by rw [← Option.some.inj e, r.emp]⟩
  | dK h g r => exact .inr (.inr ⟨_, h, by rw [← Option.some.inj e, r.emp]⟩)
  | _ => cases e
@[simp] def gTruth (g : Gn Vl) : Gn Bool := fun env => (g env).bind fun l e => .lift ((l.get e).bind truD) e
section
variable {X : Cx} {W : WX} {pin : List Nat} {a : Expr} {pos : Pos}
theorem be_truth {g : Gn Vl} (h : VE X W a g) (he : ∀ whole, isTrue a X.env whole = (do let v ← whole; standAt a.pos; holding [v] (truthy v)) := by intro _; rfl) : BE X W a (gTruth g) :=
  PT.imp (pt_truth h he) fun σ H Q ⟨G, Fm, env, w, q⟩ => seqV w q fun l e G1 H1 v s w1 r1 q1 => by
    obtain ⟨b, hb, q2⟩ := q1.lift
    obtain ⟨t, ht, hb⟩ := bind_some hb
    obtain ⟨f, rt⟩ := r1.tree w1 ht
    exact ⟨b, tru_of w1.gh rt hb, q2 G1 H1 (Same.refl G1) w1⟩
/-! ### isinstance with a built-in type -/
@[simp] def tyD : T → Option String
  | .val .non => some "NoneType"
  | .val (.bl _) => some "bool"
  | .val (.int _) => some "int"
  | .val (.str _) => some "str"
  | .val (.lst _) => some "list"
  | .val (.ro _) => some "list"
  | .val (.tup _) => some "tuple"
  | .val (.dK _) => some "dict"
  | .val (.dT _) => some "dict"
  | .lst _ => some "list"
  | .nst _ => some "list"
  | .dK _ => some "dict"
  | .dT _ => some "dict"
  | .nK _ => some "dict"
  | _ => none
theorem ty_of {K : PySem.W.Frag} {G H : Hp} {t : T} {v : V} {f : List Addr} {n : String} (s : Same G H) (h : RT K G H t v f) (e : tyD t = some n) : TyX K H v (.type n) := by
  have sql : ∀ {a : Addr} {xs : List V}, SqL K H a xs → TyX K H (.ref a) (.type "list") := fun {a xs} h => by
    rcases h with (h | ⟨o, h⟩) | ⟨o, its, m, h1, h2, _⟩
    · exact .base (.lst h)
    · exact .base (.frz h)
    · exact .kList h1 h2
  have sqt : ∀ {a : Addr} {xs : List V}, SqT K H a xs → TyX K H (.ref a) (.type "tuple") := fun {a xs} h => by
    rcases h with (h | ⟨o, h⟩) | ⟨o, its, m, h1, h2, _⟩
    · exact .base (.tup h)
    · exact .fTuple h
    · exact .kTuple h1 h2
  cases h with
  | val r =>
    cases r <;> first | (cases e; done) | (cases (Option.some.inj e)) 
    · exact .base .non
    · exact .base (.bl _)
    · exact .base (.int _)
    · exact .base (.str _)
    · rename_i h r; exact .base (.lst (s _ _ h))
    · rename_i h r; exact sql (s.seq h)
    · rename_i h r; exact sqt (sqT_mono s h)
    · rename_i h r; exact .base (.dK (s _ _ h))
    · rename_i h r; exact .base (.dT (s _ _ h))
  | lst h g r => cases (Option.some.inj e); exact .base (.lst h)
  | nst h g r => cases (Option.some.inj e); exact .base (.lst h)
  | dK h g r => cases (Option.some.inj e); exact .base (.dK h)
  | dT h g r => cases (Option.some.inj e); exact .base (.dT h)
  | nK h g r => cases (Option.some.inj e); exact .base (.dK h)
  | obj h g r => cases e
/-- isinstance(x, n) -/
@[simp] def fIsi (n : String) (t : T) : Option D := (tyD t).bind fun m => (kitB m n).map D.bl
@[simp] def gIsi (n : String) (g : Gn Vl) : Gn D := fun env => (g env).bind fun l e => .lift ((l.get e).bind (fIsi n)) e
theorem de_isi {n : String} {x y : Str} {p p2 : Pos} {g : Gn Vl} (hy : Gl X y) (hmy : X.mg y = none) (hvy : bootBuiltins y = some (.type n)) (hg : Gl X x) (hm : X.mg x = none) (hv : bootBuiltins x = some (.builtin "isinstance")) (ha : VE X W a g)
    (hny : y ≠ "__name__" := by decide) (hdy : (y == ("__debug__" : Str)) = false := by decide) (hn : x ≠ "__name__" := by decide) (hdb : (x == ("__debug__" : Str)) = false := by decide)
    (hs1 : starEach [a, .Name y p2] X.env = (false, eval a X.env) :: starEach [.Name y p2] X.env := by rfl) (hs2 : starEach [.Name y p2] X.env = (false, eval (.Name y p2) X.env) :: starEach [] X.env := by rfl)
    (hpl : (backTo pos (starEach [.Name y p2] X.env)).any (·.1) = false := by rfl) : DE X W (.Call (.Name x p) [a, .Name y p2] [] pos) (gIsi n g) :=
  PE.imp (pe_callB call_isi hg hm hv (pa_cons ha (pa_cons (pe_bltn hy hmy hvy (v := .ty n) rfl hny hdy) pa_nil hs2) hs1) hn hdb hs1 hpl) fun σ H Q ⟨G, Fm, env, w, q⟩ => seqV w q fun l e G1 H1 v s w1 r1 q1 => by
    obtain ⟨z, hz, q2⟩ := q1.lift
    obtain ⟨t, ht, hz⟩ := bind_some hz
    obtain ⟨m, hm, hz⟩ := bind_some (show Option.bind _ _ = some z from hz)
    obtain ⟨b, hb, rfl⟩ := Option.map_eq_some_iff.mp hz
    obtain ⟨f, rt⟩ := r1.tree w1 ht
    exact ⟨v, .ty n, .type m, .type n, b, rfl, .ty n, ty_of w1.gh rt hm, kit_ty hb, q2 G1 H1 (Same.refl G1) _ w1 (.bl b)⟩
/-! ### bit_length -/
@[simp] def fBits : D → Option D
  | .int i => some (.int (Builtin.Int.intBits i : Nat))
  | _ => none
theorem de_bits {apos : Pos} {g : Gn D} (h : DE X W a g) (hbase : attributeBase a "bit_length" X.env (eval a X.env) = eval a X.env := by rfl) (hline : (apos.endLine == pos.line) = true := by rfl) : DE X W (.Call (.Attribute a "bit_length" apos) [] [] pos) (gUn fBits g) :=
  PE.imp (pe_bits h hbase hline) fun σ H Q ⟨G, Fm, env, w, q⟩ => seqD w q fun d e G1 H1 v s w1 r1 q1 => by
    obtain ⟨z, hz, q2⟩ := q1.lift
    cases r1 <;> first | (cases hz; done) | skip
    cases (Option.some.inj hz)
    exact ⟨_, rfl, q2 G1 H1 (Same.refl G1) _ w1 (.int _)⟩
end
/-! ### two clauses -/
def lcI (f : Tg) (tt : Gn Bool) (g : Gn D) (vs1 : List Nat) : List D → List D → Env → R (List D) := lcD f tt g vs1
def lcO (f : Tg) (tt : Gn Bool) (gi1 : Gn (List D)) (f1 : Tg) (tt1 : Gn Bool) (g : Gn D) (vs vs1 : List Nat) : List D → List D → Env → R (List D)
  | [], acc, env => .ok acc env
  | d :: ds, acc, env => match f d env with
    | none => .bad
    | some e1 => match tt e1 with
      | .ok true e2 => match gi1 e2 with
        | .ok ds1 e3 => match lcD f1 tt1 g vs1 ds1 acc (wipeE e3 vs1) with
          | .ok acc' e4 => lcO f tt gi1 f1 tt1 g vs vs1 ds acc' (wipeE e4 vs)
          | _ => .bad
        | _ => .bad
      | .ok false e2 => lcO f tt gi1 f1 tt1 g vs vs1 ds acc (wipeE e2 vs)
      | _ => .bad
def szR (r : R (List D)) : R (List D) := match r with
  | .ok l e => if l.length ≤ sizeLine then .ok l e else .bad
  | r => r
@[simp] def gLc2 (gi : Gn (List D)) (f : Tg) (tt : Gn Bool) (gi1 : Gn (List D)) (f1 : Tg) (tt1 : Gn Bool) (g : Gn D) (vs vs1 : List Nat) : Gn T := fun env => (gi env).bind fun ds e => match lcO f tt gi1 f1 tt1 g vs vs1 ds [] (wipeE e vs) with
  | .ok l e' => if l.length ≤ sizeLine then .ok (.lst l) (rest e' e vs) else .bad
  | _ => .bad
theorem lcD_len {f : Tg} {tt : Gn Bool} {g : Gn D} {vs : List Nat} : ∀ {ds acc : List D} {env : Env} {l : List D} {e : Env}, lcD f tt g vs ds acc env = .ok l e → acc.length ≤ l.length
  | [], acc, env, l, e, h => by cases h; exact Nat.le_refl _
  | d :: ds, acc, env, l, e, h => by
    unfold lcD at h
    split at h
    · cases h
    · split at h
      · split at h
        · have := lcD_len h
          rw [List.length_append, List.length_singleton] at this
          omega
        · cases h
      · exact lcD_len h
      · cases h
theorem lcO_len {f : Tg} {tt : Gn Bool} {gi1 : Gn (List D)} {f1 : Tg} {tt1 : Gn Bool} {g : Gn D} {vs vs1 : List Nat} : ∀ {ds acc : List D} {env : Env} {l : List D} {e : Env}, lcO f tt gi1 f1 tt1 g vs vs1 ds acc env = .ok l e → acc.length ≤ l.length
  | [], acc, env, l, e, h => by cases h; exact Nat.le_refl _
  | d :: ds, acc, env, l, e, h => by
    unfold lcO at h
    split at h
    · cases h
    · split at h
      · split at h
        · split at h
          · rename_i h1
            have a1 := lcD_len h1
            have a2 := lcO_len h
            omega
          · cases h
        · cases h
      · exact lcO_len h
      · cases h
theorem wipe_wipe {σ : L2.St} {vs vs1 : List Nat} (hv : ∀ i ∈ vs1, i ∈ vs) : L2.wipe (L2.wipe σ vs1) vs = L2.wipe σ vs := by
  apply List.ext_getElem?
  intro i
  rw [wipe_get, wipe_get, L2.wipe_length, wipe_get]
  by_cases hm : i ∈ vs
  · rw [if_pos hm, if_pos hm]
  · rw [if_neg hm, if_neg hm, if_neg fun z => hm (hv i z)]
/-- what follows the outer list -/
def endO (K : PySem.W.Frag) (W : WX) (σ : L2.St) (G Fm : Hp) (vs : List Nat) (e : Env) (Q : VK) (r : R (List D)) : Prop := tR K W σ G Fm (match r with | .ok l e' => if l.length ≤ sizeLine then .ok (.lst l) (rest e' e vs) else .bad | _ => .bad) (PTr K Fm σ Q)
theorem endO.mono {K : PySem.W.Frag} {W : WX} {σ : L2.St} {G G1 Fm : Hp} {vs : List Nat} {e : Env} {Q : VK} {r : R (List D)} (h : endO K W σ G Fm vs e Q r) (s : Same G G1) : endO K W σ G1 Fm vs e Q r := tR.mono h s
theorem endO.get {K : PySem.W.Frag} {W : WX} {σ : L2.St} {G Fm : Hp} {vs : List Nat} {e : Env} {Q : VK} {r : R (List D)} (h : endO K W σ G Fm vs e Q r) : ∃ l e', r = .ok l e' ∧ l.length ≤ sizeLine := by
  cases r with
  | ok l e' =>
    by_cases hl : l.length ≤ sizeLine
    · exact ⟨l, e', rfl, hl⟩
    · have h : tR K W σ G Fm (if l.length ≤ sizeLine then .ok (.lst l) (rest e' e vs) else .bad) (PTr K Fm σ Q) := h
      rw [if_neg hl] at h
      exact h.elim
  | exc x e' => exact (show False from h).elim
  | bad => exact (show False from h).elim
theorem lst_same {H : Hp} {A : Addr} {us : List V} (h : H A = some (.lst us)) : upd H A (.lst us) = H := by
  funext b
  by_cases hb : b = A
  · subst hb; rw [upd_same, h]
  · rw [upd_ne hb]
theorem tLc2_of {W : WX} {gi gi1 : Gn (List D)} {f f1 : Tg} {tt tt1 : Gn Bool} {g : Gn D} {vs vs1 : List Nat} {K : PySem.W.Frag} {n : Nat} {σ : L2.St} {H : Hp} {Q : VK} (hn : σ.length = n) (hv : ∀ i ∈ vs1, i ∈ vs) (h : tOE K W (gLc2 gi f tt gi1 f1 tt1 g vs vs1) σ H Q) :
    tLc2 (tDI K W gi) (tDG K (compl n vs) n f) (tBE K W0 tt) (tDI K W0 gi1) (tDG K (compl n vs1) n f1) (tBE K W0 tt1) (tDE K W0 g) vs vs1 σ H Q := by
  obtain ⟨G, Fm, env, w, q⟩ := h
  refine ⟨G, Fm, env, w, q.bind.imp fun ds e G1 H1 s1 q1 J w1 wk A hA => ?_⟩
  have h0 : endO K W σ G1 Fm vs e Q (lcO f tt gi1 f1 tt1 g vs vs1 (ds.drop 0) [] (wipeE e vs)) := q1
  refine ⟨fun i m H2 => m = ds.length - i ∧ i ≤ ds.length ∧ ∃ G2 acc e2, Same G1 G2 ∧ Wd K G2 Fm H2 (some (.ref A) :: L2.wipe σ vs) (some (.lst acc) :: e2) ∧ endO K W σ G2 Fm vs e Q (lcO f tt gi1 f1 tt1 g vs vs1 (ds.drop i) acc e2), ⟨ds.length, by simp, Nat.zero_le _, G1, [], wipeE e vs, Same.refl G1, (w1.wipe vs).lst hA .nil, h0⟩, ?_⟩
  rintro i m H2 ⟨em, him, G2, acc, e2, s2, w2, q2⟩
  cases hd : ds[i]? with
  | none =>
    have hle := List.getElem?_eq_none_iff.mp hd
    rw [List.drop_eq_nil_of_le hle] at q2
    refine .inl ⟨(wk i G2 H2 s2 w2.gh).2 hd, ?_⟩
    have q3 : tR K W σ G2 Fm (if acc.length ≤ sizeLine then .ok (.lst acc) (rest e2 e vs) else .bad) (PTr K Fm σ Q) := q2
    split at q3
    · obtain ⟨a, us, ea, h1, h2, h3, w3⟩ := w2.guard
      cases ea
      have w4 : Wd K G2 (upd Fm A (.lst us)) H2 σ (rest e2 e vs) := (w3.unwipe).rest w1 s2 vs
      have w5 := w4.unguard h3 h2
      rw [lst_same h1] at w5
      exact q3 G2 H2 (Same.refl G2) _ w5
    · exact q3.elim
  | some d =>
    have hlt := (List.getElem?_eq_some_iff.mp hd).1
    have edrop : ds.drop i = d :: ds.drop (i + 1) := by
      rw [List.drop_eq_getElem_cons hlt]
      rw [(List.getElem?_eq_some_iff.mp hd).2]
    rw [edrop] at q2
    refine .inr ⟨((wk i G2 H2 s2 w2.gh).1 d hd).1, fun H' => ∃ G3 acc e3, Same G1 G3 ∧ Wd K G3 Fm H' (some (.ref A) :: L2.wipe σ vs) (some (.lst acc) :: e3) ∧ endO K W σ G3 Fm vs e Q (lcO f tt gi1 f1 tt1 g vs vs1 (ds.drop (i + 1)) acc e3), fun H' h3 => ⟨m - 1, by omega, by omega, by omega, h3⟩, fun x H3 y => ?_⟩
    obtain ⟨G3, s3, w3, r3⟩ := wk.item s2 w2 hd y
    obtain ⟨a, us, ea, h1, h2, h3, w4⟩ := w3.guard
    cases ea
    cases hf : f d e2 with
    | none => simp only [lcO, hf] at q2; exact q2.elim
    | some e4 =>
      refine ⟨G3, _, e2, d, e4, w4, by rw [L2.wipe_length]; exact hn, r3, hf, fun σ4 p4 l4 w5 => ?_⟩
      have hwp : L2.wipe σ4 vs = L2.wipe σ vs := wipe_eq hn p4
      refine ⟨hwp, ?_⟩
      cases ht : tt e4 with
      | bad => simp only [lcO, hf, ht] at q2; exact q2.elim
      | exc x e5 => simp only [lcO, hf, ht] at q2; exact q2.elim
      | ok b e5 =>
        refine ⟨G3, _, e4, w5, ?_⟩
        rw [ht]
        intro G5 H5 s5 w6
        cases b with
        | false =>
          simp only [lcO, hf, ht] at q2
          rw [if_neg Bool.false_ne_true]
          have w7 := w6.wipe vs
          rw [hwp] at w7
          have hH : H5 A = some (.lst us) := w6.fh A _ upd_same
          have w8 := w7.unguard h3 (h2.mono s5)
          rw [lst_same hH] at w8
          exact ⟨G5, acc, wipeE e5 vs, (s2.trans s3).trans s5, w8, q2.mono (s3.trans s5)⟩
        | true =>
          rw [if_pos rfl]
          cases hg1 : gi1 e5 with
          | bad => simp only [lcO, hf, ht, hg1] at q2; exact q2.elim
          | exc x e6 => simp only [lcO, hf, ht, hg1] at q2; exact q2.elim
          | ok ds1 e6 =>
            simp only [lcO, hf, ht, hg1] at q2
            refine ⟨G5, _, e5, w6, ?_⟩
            rw [hg1]
            intro G6 H6 s6 J1 w7 wk1
            have hH : H6 A = some (.lst us) := w7.fh A _ upd_same
            have w8 := (w7.wipe vs1).unguard h3 (h2.mono (s5.trans s6))
            rw [lst_same hH] at w8
            have s36 := (s2.trans s3).trans (s5.trans s6)
            refine ⟨fun j k H7 => k = ds1.length - j ∧ j ≤ ds1.length ∧ ∃ G7 acc7 e7, Same G6 G7 ∧ Wd K G7 Fm H7 (some (.ref A) :: L2.wipe σ4 vs1) (some (.lst acc7) :: e7) ∧
              endO K W σ G7 Fm vs e Q (match lcD f1 tt1 g vs1 (ds1.drop j) acc7 e7 with | .ok acc' e4 => lcO f tt gi1 f1 tt1 g vs vs1 (ds.drop (i + 1)) acc' (wipeE e4 vs) | _ => .bad), ⟨ds1.length, by simp, Nat.zero_le _, G6, acc, wipeE e6 vs1, Same.refl G6, w8, q2.mono (s3.trans (s5.trans s6))⟩, ?_⟩
            rintro j k H7 ⟨ek, hjk, G7, acc7, e7, s7, w9, q7⟩
            cases hd1 : ds1[j]? with
            | none =>
              have hle := List.getElem?_eq_none_iff.mp hd1
              rw [List.drop_eq_nil_of_le hle] at q7
              refine .inl ⟨(wk1 j G7 H7 s7 w9.gh).2 hd1, ?_⟩
              obtain ⟨a, us7, ea, k1, k2, k3, w10⟩ := w9.guard
              cases ea
              have w11 := (w10.wipe vs)
              rw [wipe_wipe hv, hwp] at w11
              have w12 := w11.unguard k3 k2
              rw [lst_same k1] at w12
              exact ⟨G7, acc7, wipeE e7 vs, s36.trans s7, w12, q7⟩
            | some d1 =>
              have hlt1 := (List.getElem?_eq_some_iff.mp hd1).1
              have edrop1 : ds1.drop j = d1 :: ds1.drop (j + 1) := by
                rw [List.drop_eq_getElem_cons hlt1]
                rw [(List.getElem?_eq_some_iff.mp hd1).2]
              rw [edrop1] at q7
              refine .inr ⟨((wk1 j G7 H7 s7 w9.gh).1 d1 hd1).1, fun H' => ∃ G8 acc8 e8, Same G6 G8 ∧ Wd K G8 Fm H' (some (.ref A) :: L2.wipe σ4 vs1) (some (.lst acc8) :: e8) ∧
                endO K W σ G8 Fm vs e Q (match lcD f1 tt1 g vs1 (ds1.drop (j + 1)) acc8 e8 with | .ok acc' e4 => lcO f tt gi1 f1 tt1 g vs vs1 (ds.drop (i + 1)) acc' (wipeE e4 vs) | _ => .bad), fun H' h8 => ⟨k - 1, by omega, by omega, by omega, h8⟩, fun x1 H8 y1 => ?_⟩
              obtain ⟨G8, s8, w10, r8⟩ := wk1.item s7 w9 hd1 y1
              obtain ⟨a, us8, ea, k1, k2, k3, w11⟩ := w10.guard
              cases ea
              cases hf1 : f1 d1 e7 with
              | none => simp only [lcD, hf1] at q7; exact q7.elim
              | some e9 =>
                refine ⟨G8, _, e7, d1, e9, w11, by rw [L2.wipe_length]; exact l4, r8, hf1, fun σ9 p9 l9 w12 => ?_⟩
                have hwp9 : L2.wipe σ9 vs1 = L2.wipe σ4 vs1 := wipe_eq l4 p9
                refine ⟨hwp9, ?_⟩
                cases ht1 : tt1 e9 with
                | bad => simp only [lcD, hf1, ht1] at q7; exact q7.elim
                | exc x e10 => simp only [lcD, hf1, ht1] at q7; exact q7.elim
                | ok b e10 =>
                  refine ⟨G8, _, e9, w12, ?_⟩
                  rw [ht1]
                  intro G10 H10 s10 w13
                  cases b with
                  | false =>
                    simp only [lcD, hf1, ht1] at q7
                    rw [if_neg Bool.false_ne_true]
                    have w14 := w13.wipe vs1
                    rw [hwp9] at w14
                    have hH : H10 A = some (.lst us8) := w13.fh A _ upd_same
                    have w15 := w14.unguard k3 (k2.mono s10)
                    rw [lst_same hH] at w15
                    exact ⟨G10, acc7, wipeE e10 vs1, (s7.trans s8).trans s10, w15, q7.mono (s8.trans s10)⟩
                  | true =>
                    rw [if_pos rfl]
                    cases hg : g e10 with
                    | bad => simp only [lcD, hf1, ht1, hg] at q7; exact q7.elim
                    | exc x e11 => simp only [lcD, hf1, ht1, hg] at q7; exact q7.elim
                    | ok y e11 =>
                      simp only [lcD, hf1, ht1, hg] at q7
                      refine ⟨G10, _, e10, w13, ?_⟩
                      rw [hg]
                      intro G11 H11 s11 v w14 r11
                      have hH : H11 A = some (.lst us8) := w14.fh A _ upd_same
                      have w15 := w14.wipe vs1
                      rw [hwp9] at w15
                      have hlen := k2.length
                      have hsz : acc7.length < sizeLine := by
                        obtain ⟨l, e', hr, hl⟩ := q7.get
                        split at hr
                        · rename_i h1
                          have a1 := lcD_len h1
                          have a2 := lcO_len hr
                          rw [List.length_append, List.length_singleton] at a1
                          omega
                        · cases hr
                      exact ⟨us8, hH, by omega, G11, acc7 ++ [y], wipeE e11 vs1, ((s7.trans s8).trans s10).trans s11, w15.unguard k3 ((k2.mono (s10.trans s11)).append (.cons r11 .nil)), q7.mono ((s8.trans s10).trans s11)⟩
section
variable {X : Cx} {W : WX} {pin : List Nat} {pos : Pos}
/-- [elt for tg in iter if .. for tg1 in iter1 if ..] -/
theorem oe_lc2 {elt tg iter tg1 iter1 : Expr} {ifs ifs1 : List Expr} {scope : Scope} {own : List (Str × Nat)} {vs1 : List Nat} {gi gi1 : Gn (List D)} {f f1 : Tg} {tt tt1 : Gn Bool} {g : Gn D} (hc : X.calm = true) (hN : X.N.Nodup) (hi : DI X W tg iter gi) (ok : BlkOk X.N X.env.scope scope own) (hv : ∀ i ∈ vs1, i ∈ own.map (·.2))
    (hg : ∀ (s : Shared) (H : Hp) (C : Addr) (cl : List (Str × Addr)) (fp : List Addr), DG (X.blk s H scope (compEnvC scope cl C X.env) fp) (compl X.N.length (own.map (·.2))) tg f) (ht : ∀ (s : Shared) (H : Hp) (C : Addr) (cl : List (Str × Addr)) (fp : List Addr), BT (X.blk s H scope (compEnvC scope cl C X.env) fp) W0 ifs tt)
    (hi1 : ∀ (s : Shared) (H : Hp) (C : Addr) (cl : List (Str × Addr)) (fp : List Addr), DI (X.blk s H scope (compEnvC scope cl C X.env) fp) W0 tg1 iter1 gi1)
    (hg1 : ∀ (s : Shared) (H : Hp) (C : Addr) (cl : List (Str × Addr)) (fp : List Addr), DG (X.blk s H scope (compEnvC scope cl C X.env) fp) (compl X.N.length vs1) tg1 f1) (ht1 : ∀ (s : Shared) (H : Hp) (C : Addr) (cl : List (Str × Addr)) (fp : List Addr), BT (X.blk s H scope (compEnvC scope cl C X.env) fp) W0 ifs1 tt1)
    (he : ∀ (s : Shared) (H : Hp) (C : Addr) (cl : List (Str × Addr)) (fp : List Addr), DE (X.blk s H scope (compEnvC scope cl C X.env) fp) W0 elt g) (hs : ∀ x, foldedSetIterable iter X.env x = pure x := by intro _; rfl) (hs1 : ∀ env x, foldedSetIterable iter1 env x = pure x := by intro _ _; rfl) :
    OE X W (.ListComp elt [⟨tg, iter, ifs, 0⟩, ⟨tg1, iter1, ifs1, 0⟩] scope pos) (gLc2 gi f tt gi1 f1 tt1 g (own.map (·.2)) vs1) := PE.impL (pe_lc2 hc hN hi ok hv hg ht hi1 hg1 ht1 he hs hs1) fun σ H Q hl h => tLc2_of hl hv h
end
end DL


set_option maxHeartbeats 2000000
/-! D-layer, part l: try, lambdas. -/
namespace DL
open PySem PySem.Spec PyProof.Rows L2
variable [Tabs]
/-! ### try: .. except X: .. (nothing raised in the clause) -/
def Sr.calm : Sr → Sr
  | .exc _ _ => .bad
  | r => r
def gTry (m : Addr → Option Bool) (f fs : Gs) : Gs := fun env => match f env with
  | .exc x e => match m x.C with
    | some true => (fs e).calm
    | some false => .exc x e
    | none => .bad
  | r => r
theorem tS.calm {K : PySem.W.Frag} {W W' : WX} {pin : List Nat} {σ : L2.St} {G Fm : Hp} {r : Sr} {D : Ends} (h : tS K W pin σ G Fm r.calm D) : tS K W' pin σ G Fm r D := by
  cases r <;> first | exact h | exact (show False from h).elim
section
variable {X : Cx} {W : WX} {pin : List Nat} {pos : Pos}
theorem ds_try {x : Str} {C : Addr} {np pos' : Pos} {body suite : List Stmt} {b₀ : Stmt} {m : Addr → Option Bool} {f fs : Gs} (hs : X.stack = X.env :: X.outer) (hf : X.env.frame = some X.env.locals) (hg : Gl X x) (hm : X.mg x = some (.ref C)) (tk : Takes X W)
    (hc : ∀ B b, m B = some b → PySem.W.exmOne X.K (.ref B) (.ref C) = some b)
    (hb : ∀ (W' : WX) (pn : List (Addr × Obj)) (xe : Value → Shared → Prop), Takes (X.tr pn xe) W' → PassesOwn (model X.prog X.w) X.A X.env xe → DSs (X.tr pn xe) W' pin body f)
    (hsu : ∀ (a : Addr) (pn : List (Addr × Obj)), DSs (X.suite a pn) W0 pin (b₀ :: suite) fs) (hdb : (x == ("__debug__" : Str)) = false := by decide) :
    DS X W pin (.Try body [.ExceptHandler (some (.Name x np)) none (b₀ :: suite) pos'] [] [] pos) (gTry m f fs) :=
  PS.imp (ps_try_only (tb := fun W' => tDS X.K W' pin f) (ts := fun _ _ _ => tDS X.K W0 pin fs) (Wout := W) hs hf ⟨hg, hdb, .inl hm⟩ tk (fun W' pn xe t p => hb W' pn xe t p) (fun a oe cls d pn _ _ => hsu a _)) fun D σ H ⟨G, Fm, env, w, q⟩ => ⟨G, Fm, env, w, by
  have q : tS X.K W pin σ G Fm (match f env with
  | .exc x e => match m x.C with
    | some true => (fs e).calm
    | some false => .exc x e
    | none => .bad
  | r => r) D := q
  cases hr : f env with
  | exc x e =>
    rw [hr] at q
    intro G' H' σ' dd s p w' xo
    have q : tS X.K W pin σ G Fm (match m x.C with
    | some true => (fs e).calm
    | some false => .exc x e
    | none => .bad) D := q
    cases hm : m x.C with
    | none => rw [hm] at q; exact q.elim
    | some b =>
      rw [hm] at q
      refine ⟨b, hc _ _ hm, fun hb a _ => ?_, fun hb => ?_⟩
      · subst hb
        exact ⟨G', Fm, e, w', tS.calm (W := W) (q.mono s p)⟩
      · subst hb
        exact q G' H' σ' dd s p w' xo
  | nx e => rw [hr] at q; exact q
  | rt t e => rw [hr] at q; exact q
  | br e => rw [hr] at q; exact q
  | ct e => rw [hr] at q; exact q
  | bad => rw [hr] at q; exact q⟩
end
/-! ### lambdas -/
def FnO (X : Cx) (params : Arguments) (body : Expr) (scope : Scope) (f c' : Addr) : HO := .ext fun h => ∃ pm ctv : Value, h.get? f = some (PySem.W.kla_obj "<lambda>" (X.env.qual ++ "<lambda>") params body scope (cloFrom X.env.cells scope.names []) pm c' ctv)
theorem fno_ne {X : Cx} {params : Arguments} {body : Expr} {scope : Scope} {f c' : Addr} (ps : Array Value) : FnO X params body scope f c' ≠ .tbl ps := fun z => by
  unfold FnO at z
  cases z
theorem fno_ok {X : Cx} {P : Program} {w : World} {params : Arguments} {body : Expr} {scope : Scope} {f c' : Addr} {H : Hp} {h : Heap} {pm ctv : Value} (e : h.get? f = some (PySem.W.kla_obj "<lambda>" (X.env.qual ++ "<lambda>") params body scope (cloFrom X.env.cells scope.names []) pm c' ctv)) :
    ObjOk P w H h f (FnO X params body scope f c') := ⟨⟨pm, ctv, e⟩, ⟨_, e⟩, fun h1 h2 ⟨pm, ctv, e⟩ k => ⟨pm, ctv, k _ e⟩⟩
/-- where the maker of lambdas stands: its code object c, the table P -/
structure Mkr (X : Cx) (c P : Addr) : Prop where
  tb : LamX.TabB X.base X.mg c P
  code : X.env.code = .ref c
  mem : (P, X.env.qual ++ "<lambda>") ∈ (Tabs.T : List (Addr × Str))
section
variable {X : Cx} {pins : List (Addr × Obj)} {σ : L2.St} {H G Fm : Hp} {s : Shared} {env : Env} {W : WX} {pos : Pos}
theorem lam_make3 {c P : Addr} {params : Arguments} {body : Expr} {scope : Scope} {E : Value → Shared → Prop} {Q : Value → Shared → Prop} (I : Inv X pins σ H s) (mk : Mkr X c P) (w : Wd X.K G Fm H σ env) (hdef : defaultsOf params X.env = ([], [])) (L : LamX.LamS X.env.scope scope)
    (h : ∀ (f c' : Addr) (G1 H1 : Hp) (s' : Shared), Inv X pins σ H1 s' → Same G G1 → Wd X.K G1 Fm H1 σ env → G1 f = some (FnO X params body scope f c') → G1 c' = some (LamX.CodeO c' (X.env.qual ++ "<lambda>")) → Q (.ref f) s') :
    wpAny (model X.prog X.w) X.A (eval (.Lambda params body scope pos) X.env) Q E s := by
  have hFm : Fm P = some (mark (X.env.qual ++ "<lambda>")) := w.tb _ mk.mem
  obtain ⟨ps, hP, ht, ha⟩ : TabG G H P (X.env.qual ++ "<lambda>") := w.fh P _ hFm
  have hfree := L.has I.ok
  have TB := mk.tb
  refine PySem.W.kla_eval hdef ?_
  have bP : s.heap.BuiltinsAt X.mg P := TB.bm.keeps I.bk
  have hP' : s.heap.get? P = some { cls := .none, data := .fields ps } := I.hok P _ hP
  have gP : G P = none := w.gf _ _ hFm
  obtain ⟨fp, rs, nd, fr⟩ := w.sl
  have ownP : ∀ b ∈ fp, b ≠ P := fun b hb z => by
    have := fr b hb
    rw [z, hFm] at this
    cases this
  -- the world after: H1 tells of P the table ps', of f and c' what was made; the ground takes f and c'
  have after : ∀ (f c' : Addr) (ps' : Array Value) (H1 : Hp), H f = none → f ≠ c' → (H c' = none ∨ G c' = some (LamX.CodeO c' (X.env.qual ++ "<lambda>"))) → (∀ b, b ≠ P → b ≠ f → b ≠ c' → H1 b = H b) → H1 f = some (FnO X params body scope f c') → H1 c' = some (LamX.CodeO c' (X.env.qual ++ "<lambda>")) → H1 P = some (.tbl ps') →
      TriplesOk ps'.toList → (∀ (pos : Pos) (cv : Value), codeAmong pos ps'.toList = some cv → ∃ c, cv = .ref c ∧ (c = c' ∨ G c = some (LamX.CodeO c (X.env.qual ++ "<lambda>")))) →
      ∃ G1, Same G G1 ∧ Wd X.K G1 Fm H1 σ env ∧ G1 f = some (FnO X params body scope f c') ∧ G1 c' = some (LamX.CodeO c' (X.env.qual ++ "<lambda>")) := fun f c' ps' H1 nf nfc nc hb1 hf1 hc1 hP1 ht1 ha1 => by
    have gf : G f = none := w.gh.free nf
    have fmf : Fm f = none := w.fmFree nf
    have fmc : Fm c' = none := by
      rcases nc with z | z
      · exact w.fmFree z
      · cases q : Fm c' with
        | none => rfl
        | some o =>
          have := w.gf _ _ q
          rw [z] at this
          cases this
    have nPf : P ≠ f := ne_of_none hP nf
    have nPc : P ≠ c' := fun z => by
      rw [← z, hFm] at fmc
      cases fmc
    refine ⟨fun b => if b = f then some (FnO X params body scope f c') else if b = c' then some (LamX.CodeO c' (X.env.qual ++ "<lambda>")) else G b, fun b o e => ?_, ⟨fun b o e => ?_, fun b o e => ?_, fun b o e => ?_, w.tb, fp, ?_, nd, fr⟩, if_pos rfl, ?_⟩
    · have n1 : b ≠ f := fun z => by rw [z, gf] at e; cases e
      show (if b = f then _ else if b = c' then _ else G b) = _
      rw [if_neg n1]
      by_cases hb : b = c'
      · rw [if_pos hb]
        rw [hb] at e
        rcases nc with z | z
        · have := w.gh _ _ e
          rw [z] at this
          cases this
        · rw [z] at e
          exact e
      · rw [if_neg hb]
        exact e
    · have e' : (if b = f then some (FnO X params body scope f c') else if b = c' then some (LamX.CodeO c' (X.env.qual ++ "<lambda>")) else G b) = some o := e
      split at e'
      · rename_i z; rw [z, hf1]; exact e'
      · rename_i n1
        split at e'
        · rename_i z; rw [z, hc1]; exact e'
        · rename_i n2
          have nP : b ≠ P := fun z => by rw [z, gP] at e'; cases e'
          rw [hb1 b nP n1 n2]
          exact w.gh _ _ e'
    · by_cases hb : b = P
      · rw [hb, hFm] at e
        cases e
        rw [hb]
        refine ⟨ps', hP1, ht1, fun pos cv hcv => ?_⟩
        obtain ⟨c, e1, e2⟩ := ha1 pos cv hcv
        refine ⟨c, e1, ?_⟩
        show (if c = f then _ else if c = c' then _ else G c) = some (LamX.CodeO c (X.env.qual ++ "<lambda>"))
        rcases e2 with z | z
        · rw [if_neg (fun y => nfc (y.symm.trans z)), if_pos z, z]
        · rw [if_neg (fun y => by rw [y, gf] at z; cases z)]
          by_cases hc : c = c'
          · rw [if_pos hc, hc]
          · rw [if_neg hc]
            exact z
      · have n1 : b ≠ f := fun z => by rw [z, fmf] at e; cases e
        have n2 : b ≠ c' := fun z => by rw [z, fmc] at e; cases e
        refine (w.fh b o e).mono (fun d u ed => ?_) (hb1 b hb n1 n2)
        have m1 : d ≠ f := fun z => by rw [z, gf] at ed; cases ed
        show (if d = f then _ else if d = c' then _ else G d) = _
        rw [if_neg m1]
        by_cases hd : d = c'
        · rw [if_pos hd]
          rw [hd] at ed
          rcases nc with z | z
          · have := w.gh _ _ ed
            rw [z] at this
            cases this
          · rw [z] at ed
            exact ed
        · rw [if_neg hd]
          exact ed
    · have n1 : b ≠ f := fun z => by rw [z, fmf] at e; cases e
      have n2 : b ≠ c' := fun z => by rw [z, fmc] at e; cases e
      show (if b = f then _ else if b = c' then _ else G b) = none
      rw [if_neg n1, if_neg n2]
      exact w.gf b o e
    · refine rs.mono (fun d u ed => ?_) fun a ha => ?_
      · have m1 : d ≠ f := fun z => by rw [z, gf] at ed; cases ed
        show (if d = f then _ else if d = c' then _ else G d) = _
        rw [if_neg m1]
        by_cases hd : d = c'
        · rw [if_pos hd]
          rw [hd] at ed
          rcases nc with z | z
          · have := w.gh _ _ ed
            rw [z] at this
            cases this
          · rw [z] at ed
            exact ed
        · rw [if_neg hd]
          exact ed
      · obtain ⟨g, o, ho, _⟩ := rs.own a ha
        have n1 : a ≠ f := fun z => by rw [z, nf] at ho; cases ho
        have n2 : a ≠ c' := fun z => by
          rcases nc with y | y
          · rw [z, y] at ho; cases ho
          · rw [z, y] at g; cases g
        refine ⟨hb1 a (ownP a ha) n1 n2, ?_⟩
        show (if a = f then _ else if a = c' then _ else G a) = none
        rw [if_neg n1, if_neg n2]
        exact g
    · show (if c' = f then _ else if c' = c' then _ else G c') = _
      rw [if_neg (Ne.symm nfc), if_pos rfl]
  cases hc : codeAmong pos ps.toList with
  | none =>
    refine PySem.W.kla_makeFunction (mg := X.mg) (c := c) (P := P) (ps := ps) (closure_ok hfree) I.ok.glob (I.mod.glob.keeps I.bk) mk.code (TB.code.keeps I.bk) hP' ht hc TB.gP bP fun c' ctv h' tk hx hge hlt hrec htb => ?_
    obtain ⟨c2, oc, vs, t, e2, hoc, hd, hv⟩ := hrec
    cases e2
    have hsz : s.heap.objs.size ≤ h'.objs.size := Nat.le_trans hge (Nat.le_of_lt hlt)
    have nC : H c' = none := I.hok.fresh hge
    have nF : H h'.objs.size = none := I.hok.fresh hsz
    have nPC : P ≠ c' := ne_of_none hP nC
    have nPF : P ≠ h'.objs.size := ne_of_none hP nF
    have nFC : h'.objs.size ≠ c' := Nat.ne_of_gt hlt
    have I0 := LamX.inv_table (t' := tk) (more := #[rawInt pos.line, rawInt pos.col, .ref c']) (h' := h') I hP (fun b o hb e => hx b o hb e) htb hge ⟨oc, vs, t, hoc, hd, hv⟩
    have I1 := Inv.laid (t' := tk) (o := FnO X params body scope h'.objs.size c') (h' := h'.push (PySem.W.kla_obj "<lambda>" (X.env.qual ++ "<lambda>") params body scope (cloFrom X.env.cells scope.names []) ((X.mg "__name__").getD .none) c' ctv)) I0 (fun b o e => Heap.get?_push_of_some _ e) (Nat.le_refl _) (fno_ok (Heap.get?_push_size _ rfl))
    have eL : (ps ++ #[rawInt pos.line, rawInt pos.col, .ref c']).toList = ps.toList ++ [rawInt pos.line, rawInt pos.col, .ref c'] := by simp
    obtain ⟨G1, s1, w1, g1, g2⟩ := after h'.objs.size c' (ps ++ #[rawInt pos.line, rawInt pos.col, .ref c']) _ nF nFC (.inl nC)
      (fun b h1 h2 h3 => (by rw [upd_ne h2, upd_ne h3, upd_ne h1] : upd (upd (upd H P (.tbl (ps ++ #[rawInt pos.line, rawInt pos.col, .ref c']))) c' (LamX.CodeO c' (X.env.qual ++ "<lambda>"))) h'.objs.size (FnO X params body scope h'.objs.size c') b = H b)) upd_same (by rw [upd_ne (Ne.symm nFC), upd_same]) (by rw [upd_ne nPF, upd_ne nPC, upd_same]) (by rw [eL]; exact PySem.TriplesOk_snoc _ _ _ _ ht)
      (fun p' cv hcv => by
        rw [eL] at hcv
        rcases LamX.among_app _ ht hcv with z | z
        · obtain ⟨c0, e1, e2⟩ := ha p' cv z
          exact ⟨c0, e1, .inr e2⟩
        · exact ⟨c', z, .inl rfl⟩)
    exact h _ c' G1 _ _ I1 s1 w1 g1 g2
  | some cv =>
    obtain ⟨c', e, hco⟩ := ha pos cv hc
    subst e
    refine PySem.W.kla_makeFunctionHit (mg := X.mg) (c := c) (P := P) (ps := ps) (closure_ok hfree) I.ok.glob (I.mod.glob.keeps I.bk) mk.code (TB.code.keeps I.bk) hP' ht hc bP fun ctv h' tk hx hsz => ?_
    have nF : H h'.objs.size = none := I.hok.fresh hsz
    have nPF : P ≠ h'.objs.size := ne_of_none hP nF
    have I1 := Inv.laid (t' := tk) (o := FnO X params body scope h'.objs.size c') (h' := h'.push (PySem.W.kla_obj "<lambda>" (X.env.qual ++ "<lambda>") params body scope (cloFrom X.env.cells scope.names []) ((X.mg "__name__").getD .none) c' ctv)) I (fun b o e => Heap.get?_push_of_some _ (hx b o e)) hsz (fno_ok (Heap.get?_push_size _ rfl))
    have hcH := w.gh _ _ hco
    have nFC : h'.objs.size ≠ c' := fun z => by rw [← z, nF] at hcH; cases hcH
    obtain ⟨G1, s1, w1, g1, g2⟩ := after h'.objs.size c' ps _ nF nFC (.inr hco) (fun b h1 h2 h3 => upd_ne h2) upd_same (by rw [upd_ne (Ne.symm nFC)]; exact hcH) (by rw [upd_ne nPF]; exact hP) ht (fun p' cv hcv => by
      obtain ⟨c0, e1, e2⟩ := ha p' cv hcv
      exact ⟨c0, e1, .inr e2⟩)
    exact h _ c' G1 _ _ I1 s1 w1 g1 g2
/-- x(), in the def that got the lambda -/
theorem pe_act3 {CXg : CXT} {Eg : XK} {Ng : List Str} {qg : Str} {sg : Scope} {g f c' : Addr} {cdg : Value} {params : Arguments} {body : Expr} {scope : Scope} {k i : Nat} {a : Str} {pn : List (Addr × Obj)} {xe : Value → Shared → Prop} {W : WX} {E : XK} {tb : TE} {p1 p2 : Pos}
    (I : Inv X pins σ H s) (L : LamX.LamS X.env.scope scope)
    (hbind : ∀ (q : Str) (cl : List (Str × Addr)) (pm cv ctv : Value), bindArgs (PySem.W.kla_fn "<lambda>" q params body scope cl pm cv ctv) ⟨[], []⟩ = pure [])
    (tk : Takes ((cxOf CXg X.prog X.w X.K X.mg X.base Ng qg sg g cdg X.A X.stack s H Eg).tr pn xe) W) (hW : ∀ cls d σ' H', E cls d H' → W cls d σ' H') (hr : Room (k + 1) (X.A.deeper (envOfC qg sg s.heap.objs.size g cdg)))
    (hbody : ∀ (A : Around) (outer : List PySem.Env) (s : Shared) (H : Hp), Room k (A.deeper (LamX.lamEnv X scope s.heap.objs.size f c')) → PE (LamX.lamCx X A outer s H E scope f c') body tb)
    (hN : Ng[i]? = some a) (hv : Vis sg a) (hd : (a == ("__debug__" : Str)) = false := by decide) (hcd : (a == ("__classdict__" : Str)) = false := by decide) :
    PE ((cxOf CXg X.prog X.w X.K X.mg X.base Ng qg sg g cdg X.A X.stack s H Eg).tr pn xe) (.Call (.Name a p1) [] [] p2)
      (fun σZ HZ Q => σZ[i]? = some (some (.ref f)) ∧ HZ f = some (FnO X params body scope f c') ∧ HZ c' = some (LamX.CodeO c' (X.env.qual ++ "<lambda>")) ∧ tb σ HZ Q) := by
  refine ⟨fun pinsZ sZ σZ HZ Q IZ h => ?_⟩
  obtain ⟨hs, hf, hc, ht⟩ := h
  refine wpAny_Call_Name_kw (thn ((pe_var (pos := p1) (i := i) hN hv hd hcd).run pinsZ sZ σZ HZ (fun v H1 => v = .ref f ∧ H1 = HZ) IZ ⟨.ref f, hs, rfl, rfl⟩) fun u s1 ⟨v, H1, I1, r1, q1⟩ => ?_)
  obtain ⟨ev, eH⟩ := q1
  subst ev
  rw [eH] at I1
  obtain rfl : u = Value.ref f := r1
  obtain ⟨⟨pm, ctv, of1⟩, _, _⟩ := I1.hok f _ hf
  refine PySem.W.callWith_F0 ⟨_, _, _, _, of1⟩ ?_
  have un : Un (frs X.stack) [] H HZ s.heap s1.heap := I1.base
  obtain ⟨⟨oc, vs, t, hoc, hdc, hvc⟩, _, _⟩ := I1.hok c' _ hc
  have rc : codeAny (model X.prog X.w) (X.A.deeper (envOfC qg sg s.heap.objs.size g cdg)) (.call (.ref f) ⟨[], []⟩) (CR (L2.CX X.prog X.w) (envOfC qg sg s.heap.objs.size g cdg :: X.stack) X.prog X.w HZ s1 Q E) s1 := by
    refine PySem.W.kla_callFunE hr.depth of1 rfl L.co L.gen rfl ⟨c', oc, vs, t, rfl, hoc, hdc, hvc⟩ ?_
    rw [hbind]
    refine wpAny_pure (wpAny_newFunctionEnv (fun y hy => (L.own y hy).2) (fun y hy => absurd hy (by simp)) (fun h₁ hns hsb => ⟨I1.nolimit.fresh _ hsb, ?_⟩) L.kind)
    show codeAny _ _ (.expr body (LamX.lamEnv X scope s1.heap.objs.size f c')) _ _
    have kp : ∀ b o, s1.heap.get? b = some o → h₁.get? b = some o := fun b o e => hsb.extBut b o (Nat.ne_of_lt (Heap.lt_size e)) (Heap.get?_push_of_some _ e)
    have J : Inv (LamX.lamCx X (X.A.deeper (envOfC qg sg s.heap.objs.size g cdg)) (envOfC qg sg s.heap.objs.size g cdg :: X.stack) s1 HZ E scope f c') [] σ HZ { s1 with heap := h₁, toks := s1.toks + ([] : List (Str × Value)).length } :=
      LamX.lam_start2 I L I1.env0 hr.hd un hns kp
    refine PySem.W.kla_codeExpr (wpAny_mono ((hbody _ _ s1 HZ (hr.deeper _)).run [] _ _ HZ Q J ht) (fun v s' hq => ?_) fun e s' hq => hq)
    obtain ⟨w', H', J', rv, q⟩ := hq
    exact ⟨w', H', J'.os, J'.bare, J'.base, J'.hok, rv, q⟩
  have hx : Passes (L2.CX X.prog X.w) ((cxOf CXg X.prog X.w X.K X.mg X.base Ng qg sg g cdg X.A X.stack s H Eg).tr pn xe) E := passes_call tk hW
  refine wpAny_call (codeAny_mono rc fun r s' hq => ?_)
  cases r with
  | error e => exact hx pinsZ σZ HZ s1 e s' I1 hq
  | ok fl =>
    cases fl with
    | ret u => exact I1.after hq
    | next => exact False.elim hq
    | brk => exact False.elim hq
    | cont => exact False.elim hq
/-- the def that calls what it got; TT: what it makes of the lambda's reading -/
def Gives3 (X : Cx) (Ng : List Str) (x : Str) (sg : Scope) (g : Addr) (cdg : Value) (bg : List Stmt) (a : Str) (TT : (XK → Hp → VK → Prop) → Hp → VK → Prop) : Prop :=
  ∀ (f : Addr) (Z : Hp → Prop) (s : Shared) (H : Hp) (Q : VK) (tl : XK → Hp → VK → Prop),
    (∀ (W : WX) (pn : List (Addr × Obj)) (xe : Value → Shared → Prop) (E : XK) (p1 p2 : Pos), Takes ((cxOf C8.CX0 X.prog X.w X.K X.mg X.base Ng x sg g cdg X.A X.stack s H C8.E0).tr pn xe) W → (∀ cls d σ' H', E cls d H' → W cls d σ' H') →
      PE ((cxOf C8.CX0 X.prog X.w X.K X.mg X.base Ng x sg g cdg X.A X.stack s H C8.E0).tr pn xe) (.Call (.Name a p1) [] [] p2) (fun σZ HZ Q => σZ[0]? = some (some (.ref f)) ∧ Z HZ ∧ tl E HZ Q)) →
    Z H → TT tl H Q →
    ∃ t, PSs (cxOf C8.CX0 X.prog X.w X.K X.mg X.base Ng x sg g cdg X.A X.stack s H C8.E0).nox bg t ∧ t { nx := fun _ H' => Q .non H', rt := Q } (L2.start Ng [.ref f]) H
/-- x(y), y a lambda -/
theorem pe_lamvar {TT : (XK → Hp → VK → Prop) → Hp → VK → Prop} {x y a : Str} {g : Addr} {j k : Nat} {pg : Arguments} {bg : List Stmt} {sg : Scope} {dV kV doc pm cdv ct oc : Value} {an od : Option Addr} {osl : Array (Option Value)} {Ng : List Str}
    {params : Arguments} {body : Expr} {scope : Scope} {t : XK → TE} {p p2 pos : Pos} (hg : Gl X x) (hm : X.mg x = some (.ref g)) (hk : PySem.W.keepIn X.K (.ref g) = true)
    (lk : X.K.lookup g = some ⟨oc, od, .func (PySem.W.fnOf x x pg bg sg dV kV doc pm an cdv ct), osl⟩) (hcg : PySem.W.codeIn X.K cdv x = true) (hb : L2.Binds X.K (PySem.W.fnOf x x pg bg sg dV kV doc pm an cdv ct) [a] []) (Sg : FnScope Ng [a] sg) (hNg : Ng[0]? = some a) (hva : Vis sg a)
    (hG : Gives3 X Ng x sg g cdv bg a TT) (hr : Room (k + 2) X.A) (L : LamX.LamS X.env.scope scope)
    (hbind : ∀ (q : Str) (cl : List (Str × Addr)) (pm cv ctv : Value), bindArgs (PySem.W.kla_fn "<lambda>" q params body scope cl pm cv ctv) ⟨[], []⟩ = pure [])
    (hbody : ∀ (A : Around) (outer : List PySem.Env) (s : Shared) (H : Hp) (E : XK) (f c' : Addr), Room k (A.deeper (LamX.lamEnv X scope s.heap.objs.size f c')) → PE (LamX.lamCx X A outer s H E scope f c') body (t E))
    (hy : PE X (.Name y p2) (tVar j)) (hs : starEach [.Name y p2] X.env = [(false, eval (.Name y p2) X.env)] := by rfl)
    (hdb : (x == ("__debug__" : Str)) = false := by decide) (hd : (a == ("__debug__" : Str)) = false := by decide) (hcd : (a == ("__classdict__" : Str)) = false := by decide) :
    PE X (.Call (.Name x p) [.Name y p2] [] pos) (fun σ H Q => ∃ f c', σ[j]? = some (some (.ref f)) ∧ H f = some (FnO X params body scope f c') ∧ H c' = some (LamX.CodeO c' (X.env.qual ++ "<lambda>")) ∧ TT (fun E H' Q' => t E σ H' Q') H Q) := by
  refine ⟨fun pins s σ H Q I h => ?_⟩
  obtain ⟨f, c', hj, hf, hco, h⟩ := h
  refine wpAny_Call_Name_kw (ld_glob I hg hm ?_ hdb)
  refine PySem.W.callWith_K (h₀ := X.base) I.ok.mod.kin hk ?_ (by rw [hs]; rfl) (by rfl)
  rw [hs]
  show wpAny _ _ (spliced ((false, eval (.Name y p2) X.env) :: backTo pos [])) _ _ s
  refine Calls.spliced_cons (thn (hy.run pins s σ H (fun v H1 => v = .ref f ∧ H1 = H) I ⟨.ref f, hj, rfl, rfl⟩) fun u s1 ⟨v, H1, I1, r1, q1⟩ => ?_)
  obtain ⟨ev, eH⟩ := q1
  subst ev
  subst eH
  obtain rfl : u = Value.ref f := r1
  refine Calls.spliced_nil ⟨I1.kIn, ?_⟩
  have rc : codeAny (model X.prog X.w) X.A (.call (.ref g) ⟨[.ref f], []⟩) (CR C8.CX0 X.stack X.prog X.w H1 s1 Q C8.E0) s1 := by
    refine LamX.run_ofS (N := Ng) (ps := [a]) (us := [.ref f]) (vs := [.ref f]) lk hcg Sg hr I1.env0 (hb s1 [.ref f] I1.kIn rfl) (.cons rfl .nil) rfl fun hr' => ?_
    obtain ⟨t', ht', hq'⟩ := hG f (fun HZ => HZ f = some (FnO X params body scope f c') ∧ HZ c' = some (LamX.CodeO c' (X.env.qual ++ "<lambda>"))) s1 H1 Q (fun E H' Q' => t E σ H' Q') (fun W pn xe E p1 p2 tk hW => by
      have := pe_act3 (i := 0) (p1 := p1) (p2 := p2) I1 L hbind tk hW hr' (fun A outer s H hr2 => hbody A outer s H E f c' hr2) hNg hva hd hcd
      exact PE.imp this fun σZ HZ Q ⟨h1, ⟨h2, h3⟩, h4⟩ => ⟨h1, h2, h3, h4⟩) ⟨hf, hco⟩ h
    exact ⟨t', ht'.nox, hq'⟩
  refine wpAny_call (codeAny_mono rc fun r s2 hq => ?_)
  cases r with
  | error e => exact (show False from hq).elim
  | ok fl =>
    cases fl with
    | ret u => exact I1.after hq
    | next => exact False.elim hq
    | brk => exact False.elim hq
    | cont => exact False.elim hq
end
/-- try: a() / except x: return True / return False -/
def TTref (K : PySem.W.Frag) (CS : Addr) : (XK → Hp → VK → Prop) → Hp → VK → Prop := fun tl H Q =>
  tl (fun cls _ H' => ∃ b, PySem.W.exmOne K cls (.ref CS) = some b ∧ (b = true → Q (.bl true) H') ∧ (b = false → False)) H (fun _ H' => Q (.bl false) H')
theorem ref_gives {X : Cx} {Ng : List Str} {x a e : Str} {sg : Scope} {g CS : Addr} {cdg : Value} {j j2 : Nat} {p1 p2 p3 p4 p5 p6 p7 p8 p9 p10 : Pos} (hge : sg.names.lookup e = some .globalImplicit) (hme : X.mg e = some (.ref CS)) (h0 : ∀ f : Addr, (L2.start Ng [V.ref f])[0]? = some (some (V.ref f)))
    (hsw : ∀ (env : PySem.Env), env.scope = sg → swapsWith (.Call (.Name a p1) [] [] p2) none p3.line env = pure false) (hde : (e == ("__debug__" : Str)) = false := by decide) :
    Gives3 X Ng x sg g cdg [.Try [.Expr (.Call (.Name a p1) [] [] p2) p3] [.ExceptHandler (some (.Name e p4)) none [.Return (some (.Constant (.bool true) j p5)) p6] p7] [] [] p8, .Return (some (.Constant (.bool false) j2 p9)) p10] a (TTref X.K CS) := by
  intro f Z s H Q tl act hz h
  have hgl : Gl (cxOf C8.CX0 X.prog X.w X.K X.mg X.base Ng x sg g cdg X.A X.stack s H C8.E0).nox e := hge
  refine ⟨_, pss_cons (ps_try_only (X := (cxOf C8.CX0 X.prog X.w X.K X.mg X.base Ng x sg g cdg X.A X.stack s H C8.E0).nox) (c := .ref CS)
      (tb := fun W D σ H => ∃ Ech : XK, (∀ cls d σ' H', Ech cls d H' → W cls d σ' H') ∧ σ[0]? = some (some (.ref f)) ∧ Z H ∧ tl Ech H (fun _ H' => D.nx σ H'))
      rfl rfl ⟨hgl, hde, .inl hme⟩ takes0 (fun W pn xe tk _ => ?_) (fun a oe cls d pn _ _ => pss_one (ps_ret pe_bl))) (pss_one (ps_ret pe_bl)), ?_⟩
  · refine ⟨fun pins s' σ H' D I h' => ?_⟩
    obtain ⟨Ech, hW, h1, h2, h3⟩ := h'
    have hp := act W pn xe Ech p1 p2 tk hW
    have hq := pss_one (ps_expr (pos := p3) hp (hsw _ rfl))
    exact hq.run pins s' σ H' D I ⟨h1, h2, h3⟩
  · exact ⟨fun cls _ H' => ∃ b, PySem.W.exmOne X.K cls (.ref CS) = some b ∧ (b = true → Q (.bl true) H') ∧ (b = false → False), fun cls d σ' H' ⟨b, e1, e2, e3⟩ => ⟨b, e1, fun hb a _ => e2 hb, fun hb => (e3 hb).elim⟩, h0 f, hz, h⟩
end DL


/-! D-layer, part m: a loop over a tuple of lambdas that a def tries. -/
namespace DL
open PySem PySem.Spec PyProof.Rows L2
variable [Tabs]
/-- a lambda of X: what is asked of it, its mirror g -/
structure LamE (X : Cx) (k : Nat) (params : Arguments) (body : Expr) (scope : Scope) (g : Gn D) : Prop where
  df : defaultsOf params X.env = ([], [])
  sc : LamX.LamS X.env.scope scope
  bd : ∀ (q : Str) (cl : List (Str × Addr)) (pm cv ctv : Value), bindArgs (PySem.W.kla_fn "<lambda>" q params body scope cl pm cv ctv) ⟨[], []⟩ = pure []
  dv : ∀ (A : Around) (outer : List PySem.Env) (s : Shared) (H : Hp) (E : XK) (f c' : Addr), Room k (A.deeper (LamX.lamEnv X scope s.heap.objs.size f c')) → Takes (LamX.lamCx X A outer s H E scope f c') (fun cls d _ H => E cls d H) → DE (LamX.lamCx X A outer s H E scope f c') (fun cls d _ H => E cls d H) body g
inductive LamEs (X : Cx) (k : Nat) : List Expr → List (Gn D) → Prop
  | nil : LamEs X k [] []
  | cons {params : Arguments} {body : Expr} {scope : Scope} {pos : Pos} {g : Gn D} {es : List Expr} {gs : List (Gn D)} : LamE X k params body scope g → LamEs X k es gs → LamEs X k (.Lambda params body scope pos :: es) (g :: gs)
inductive LamVs (X : Cx) (k : Nat) (G : Hp) : List (Gn D) → List V → Prop
  | nil : LamVs X k G [] []
  | cons {params : Arguments} {body : Expr} {scope : Scope} {g : Gn D} {gs : List (Gn D)} {f c' : Addr} {vs : List V} : LamE X k params body scope g → G f = some (FnO X params body scope f c') → G c' = some (LamX.CodeO c' (X.env.qual ++ "<lambda>")) → LamVs X k G gs vs → LamVs X k G (g :: gs) (.ref f :: vs)
theorem LamVs.mono {X : Cx} {k : Nat} {G G' : Hp} (s : Same G G') : ∀ {gs : List (Gn D)} {vs : List V}, LamVs X k G gs vs → LamVs X k G' gs vs
  | _, _, .nil => .nil
  | _, _, .cons e h1 h2 r => .cons e (s _ _ h1) (s _ _ h2) (r.mono s)
theorem LamVs.length {X : Cx} {k : Nat} {G : Hp} : ∀ {gs : List (Gn D)} {vs : List V}, LamVs X k G gs vs → gs.length = vs.length
  | _, _, .nil => rfl
  | _, _, .cons _ _ _ r => congrArg (· + 1) r.length
theorem LamVs.get {X : Cx} {k : Nat} {G : Hp} : ∀ {gs : List (Gn D)} {vs : List V} {i : Nat} {g : Gn D}, LamVs X k G gs vs → gs[i]? = some g →
    ∃ params body scope f c', vs[i]? = some (.ref f) ∧ LamE X k params body scope g ∧ G f = some (FnO X params body scope f c') ∧ G c' = some (LamX.CodeO c' (X.env.qual ++ "<lambda>"))
  | _, _, i, g, .nil, e => by simp at e
  | _, _, 0, g, .cons le h1 h2 r, e => by simp at e; subst e; exact ⟨_, _, _, _, _, rfl, le, h1, h2⟩
  | _, _, i + 1, g, .cons le h1 h2 r, e => by
    obtain ⟨pa, b, s, f, c', k1, k2⟩ := r.get (i := i) (by simpa using e)
    exact ⟨pa, b, s, f, c', by simpa using k1, k2⟩
section
variable {X : Cx} {W : WX} {pin : List Nat} {pos : Pos}
def tLamE (X : Cx) (k : Nat) (params : Arguments) (body : Expr) (scope : Scope) : TE := fun σ H Q => ∃ G Fm env, Wd X.K G Fm H σ env ∧ ∀ f c' G' H', Same G G' → Wd X.K G' Fm H' σ env → G' f = some (FnO X params body scope f c') → G' c' = some (LamX.CodeO c' (X.env.qual ++ "<lambda>")) → Q (.ref f) H'
theorem pe_lam {c P : Addr} {k : Nat} {params : Arguments} {body : Expr} {scope : Scope} {g : Gn D} (mk : Mkr X c P) (l : LamE X k params body scope g) : PE X (.Lambda params body scope pos) (tLamE X k params body scope) :=
  ⟨fun pins s σ H Q I ⟨G, Fm, env, w, q⟩ => lam_make3 I mk w l.df l.sc fun f c' G1 H1 s' I1 s1 w1 g1 g2 => ⟨.ref f, H1, I1, rfl, q f c' G1 H1 s1 w1 g1 g2⟩⟩
def tLamEs (X : Cx) (k : Nat) (gs : List (Gn D)) : TA := fun σ H Q => ∃ G Fm env, Wd X.K G Fm H σ env ∧ ∀ vs G' H', Same G G' → Wd X.K G' Fm H' σ env → LamVs X k G' gs vs → Q vs H'
theorem pa_lams {c P : Addr} {k : Nat} (mk : Mkr X c P) : ∀ {es : List Expr} {gs : List (Gn D)}, LamEs X k es gs → PA X es (tLamEs X k gs)
  | _, _, .nil => PA.imp pa_nil fun σ H Q ⟨G, Fm, env, w, q⟩ => q [] G H (Same.refl G) w .nil
  | _, _, .cons l ls => PA.imp (pa_cons (pe_lam mk l) (pa_lams mk ls) (by rfl)) fun σ H Q ⟨G, Fm, env, w, q⟩ =>
    ⟨G, Fm, env, w, fun f c' G1 H1 s1 w1 g1 g2 => ⟨G1, Fm, env, w1, fun vs G2 H2 s2 w2 r2 => q (.ref f :: vs) G2 H2 (s1.trans s2) w2 (.cons l (s2 _ _ g1) (s2 _ _ g2) r2)⟩⟩
theorem PE.ex {ι : Type} {e : Expr} {t : ι → TE} (h : ∀ i, PE X e (t i)) : PE X e (fun σ H Q => ∃ i, t i σ H Q) := ⟨fun pins s σ H Q I ⟨i, hw⟩ => (h i).run pins s σ H Q I hw⟩
/-- a def tries the lambda at slot j -/
def tCallL (X : Cx) (k j : Nat) (CS : Addr) : TE := fun σ H Q => ∃ params body scope g f c', LamE X k params body scope g ∧ σ[j]? = some (some (.ref f)) ∧ H f = some (FnO X params body scope f c') ∧ H c' = some (LamX.CodeO c' (X.env.qual ++ "<lambda>")) ∧
  TTref X.K CS (fun E H' Q' => tDE X.K (fun cls d _ H => E cls d H) g σ H' Q') H Q
/-- a def of the text that tries what it gets: try: a() / except e: return True / return False -/
def Ref (K : PySem.W.Frag) (mg : Str → Option Value) (x : Str) (st : Stmt) (N : List Str) (a : Str) : Prop := ∃ g fd cd, mg x = some (.ref g) ∧ PySem.W.keepIn K (.ref g) = true ∧ Binds K fd [a] [] ∧
  (∃ (oc : Value) (od : Option Addr) (osl : Array (Option Value)) (pg : Arguments) (dV kV doc pm ct : Value) (an : Option Addr), fd = PySem.W.fnOf x x pg (defBody st) (defScope st) dV kV doc pm an cd ct ∧ K.lookup g = some ⟨oc, od, .func fd, osl⟩) ∧ PySem.W.codeIn K cd x = true
theorem pe_ref {k j j1 j2 : Nat} {CS : Addr} {x y a e : Str} {st : Stmt} {N : List Str} {p p2 p1' p2' p3 p4 p5 p6 p7 p8 p9 p10 : Pos} (R : Ref X.K X.mg x st N a) (Sg : FnScope N [a] (defScope st)) (hNg : N[0]? = some a) (hva : Vis (defScope st) a)
    (hb : defBody st = [.Try [.Expr (.Call (.Name a p1') [] [] p2') p3] [.ExceptHandler (some (.Name e p4)) none [.Return (some (.Constant (.bool true) j1 p5)) p6] p7] [] [] p8, .Return (some (.Constant (.bool false) j2 p9)) p10])
    (hge : (defScope st).names.lookup e = some .globalImplicit) (hme : X.mg e = some (.ref CS)) (h0 : ∀ f : Addr, (L2.start N [V.ref f])[0]? = some (some (V.ref f))) (hsw : ∀ (env : PySem.Env), env.scope = defScope st → swapsWith (.Call (.Name a p1') [] [] p2') none p3.line env = pure false)
    (hg : Gl X x) (hr : Room (k + 2) X.A) (hy : PE X (.Name y p2) (tVar j)) (hs : starEach [.Name y p2] X.env = [(false, eval (.Name y p2) X.env)] := by rfl)
    (hdb : (x == ("__debug__" : Str)) = false := by decide) (hd : (a == ("__debug__" : Str)) = false := by decide) (hcd : (a == ("__classdict__" : Str)) = false := by decide) (hde : (e == ("__debug__" : Str)) = false := by decide) :
    PE X (.Call (.Name x p) [.Name y p2] [] pos) (tCallL X k j CS) := by
  obtain ⟨g, fd, cd, hm, hk, hbi, ⟨oc, od, osl, pg, dV, kV, doc, pm, ct, an, rfl, lk⟩, hcd2⟩ := R
  rw [hb] at lk hbi
  have one : ∀ i : Arguments × Expr × Scope × Gn D, PE X (.Call (.Name x p) [.Name y p2] [] pos) (fun σ H Q => LamE X k i.1 i.2.1 i.2.2.1 i.2.2.2 ∧ ∃ f c', σ[j]? = some (some (.ref f)) ∧ H f = some (FnO X i.1 i.2.1 i.2.2.1 f c') ∧ H c' = some (LamX.CodeO c' (X.env.qual ++ "<lambda>")) ∧
      TTref X.K CS (fun E H' Q' => tDE X.K (fun cls d _ H => E cls d H) i.2.2.2 σ H' Q') H Q) := fun i => ⟨fun pins s σ H Q I ⟨l, h⟩ =>
    (pe_lamvar (TT := TTref X.K CS) (t := fun E => tDE X.K (fun cls d _ H => E cls d H) i.2.2.2) hg hm hk lk hcd2 hbi Sg hNg hva (ref_gives hge hme h0 hsw hde) hr l.sc l.bd (fun A outer s H E f c' hr => l.dv A outer s H E f c' hr (takes_of rfl rfl rfl rfl)) hy hs hdb hd hcd).run pins s σ H Q I h⟩
  refine PE.imp (PE.ex one) fun σ H Q ⟨params, body, scope, g, f, c', l, h⟩ => ⟨(params, body, scope, g), l, f, c', h⟩
def lamsR (m : Addr → Option Bool) (j : Nat) : List (Gn D) → Gs
  | [] => fun env => .nx env
  | g :: gs => fun env => match g (env.set j none) with
    | .ok _ e => .rt (.val (.bl false)) e
    | .exc x e => (match m x.C with
      | some true => lamsR m j gs e
      | _ => .bad)
    | .bad => .bad
/-- for y in (lambda: .., ..): if not x(y): return False -/
theorem ds_lams {k j jj : Nat} {CS : Addr} {x y : Str} {es : List Expr} {gs : List (Gn D)} {m : Addr → Option Bool} {x1} {p p0 p1 p2 p3 p4 p5 p6 p7 : Pos} (hp : PassesOwn (model X.prog X.w) X.A X.env X.xe) (hc : X.calm = true) (mk : ∃ c P, Mkr X c P) (hl : LamEs X k es gs)
    (hcall : PE X (.Call (.Name x p) [.Name y p2] [] p3) (tCallL X k j CS)) (hN : X.N.Nodup) (hi : X.N[j]? = some y) (hx : Loc X.env.scope y) (hpn : j ∉ pin) (hm : ∀ B b, m B = some b → PySem.W.exmOne X.K (.ref B) (.ref CS) = some b) (hlen : gs.length ≤ 1000)
    (hf : X.fn y = true ∨ X.env.scope.names.lookup y = some .local := by first | exact .inl rfl | exact .inr rfl | assumption) (hs : ∀ x, foldedSetIterable (.Tuple es x1 p1) X.env x = pure x := by intro _; rfl)
    (ht : ∀ whole, isTrue (.Call (.Name x p) [.Name y p2] [] p3) X.env whole = (do let v ← whole; standAt (Expr.Call (.Name x p) [.Name y p2] [] p3).pos; holding [v] (truthy v)) := by intro _; rfl) :
    DS X W pin (.For (.Name y p0) (.Tuple es x1 p1) [.If (.UnaryOp .Not (.Call (.Name x p) [.Name y p2] [] p3) p4) [.Return (some (.Constant (.bool false) jj p5)) p6] [] p7] [] pos) (lamsR m j gs) := by
  obtain ⟨c, P, mk⟩ := mk
  refine PS.impL (ps_for hp hc (pi_tup (pe_tup (pa_lams mk hl))) (pg_name hN hi hx hf) (pss_one (ps_if (pt_not (pt_val hcall ht)) (pss_one (ps_ret pe_bl)) pss_nil)) hs) fun Dn σ H hlN ⟨G, Fm, env, w, q⟩ => ?_
  refine ⟨G, Fm, env, w, fun vs G1 H1 s1 w1 r1 => ⟨by rw [← r1.length, sizeLine_eq]; omega, fun p hp => ⟨p, rfl, ⟨vs, .inl (.inl upd_same)⟩, ?_⟩⟩⟩
  obtain ⟨w2, s2⟩ := w1.laid (o := .tup vs) hp
  have r2 := r1.mono s2
  have gp : upd G1 p (.tup vs) p = some (.tup vs) := upd_same
  revert w2 s2 r2 gp
  generalize upd G1 p (.tup vs) = Gt
  generalize upd H1 p (.tup vs) = Ht
  intro w2 s2 r2 gp
  have q0 : tS X.K W pin σ Gt Fm (lamsR m j (gs.drop 0) env) Dn := q.mono (s1.trans s2) (Pn.refl σ)
  refine ⟨fun i m' σ1 H2 => m' = gs.length - i ∧ i ≤ gs.length ∧ ∃ G2 e2, Same Gt G2 ∧ Pn pin σ σ1 ∧ Wd X.K G2 Fm H2 σ1 e2 ∧ tS X.K W pin σ1 G2 Fm (lamsR m j (gs.drop i) e2) Dn, ⟨gs.length, by simp, Nat.zero_le _, Gt, env, Same.refl Gt, Pn.refl σ, w2, q0⟩, ?_⟩
  rintro i m' σ1 H2 ⟨em, him, G2, e2, s3, p2, w3, q2⟩
  have hT : SqT X.K H2 p vs := .inl (.inl (w3.gh _ _ (s3 _ _ gp)))
  cases hd : gs[i]? with
  | none =>
    have hle := List.getElem?_eq_none_iff.mp hd
    rw [List.drop_eq_nil_of_le hle] at q2
    exact .inl ⟨⟨vs, hT, by rw [← r2.length]; exact hle⟩, q2 G2 H2 σ1 (Same.refl G2) (Pn.refl σ1) w3⟩
  | some g =>
    have hlt := (List.getElem?_eq_some_iff.mp hd).1
    have edrop : gs.drop i = g :: gs.drop (i + 1) := by
      rw [List.drop_eq_getElem_cons hlt]
      rw [(List.getElem?_eq_some_iff.mp hd).2]
    rw [edrop] at q2
    obtain ⟨pa, bo, sc, f, c', k1, k2, k3, k4⟩ := r2.get hd
    refine .inr ⟨⟨vs, _, hT, k1⟩, fun σ' H' => ∃ G3 e3, Same Gt G3 ∧ Pn pin σ σ' ∧ Wd X.K G3 Fm H' σ' e3 ∧ tS X.K W pin σ' G3 Fm (lamsR m j (gs.drop (i + 1)) e3) Dn, fun σ' H' h3 => ⟨m' - 1, by omega, by omega, by omega, h3⟩, fun x H3 y => ?_⟩
    obtain ⟨eH, hy⟩ := y
    have ex := (hy vs hT).symm.trans k1
    cases ex
    rw [eH]
    have hjl : j < σ1.length := by
      rw [p2.2, hlN]
      exact (List.getElem?_eq_some_iff.mp hi).1
    have w4 := w3.setNo j (some (.ref f))
    have p4 : Pn pin σ1 (σ1.set j (some (.ref f))) := Pn.set hpn
    refine ⟨pa, bo, sc, g, f, c', k2, List.getElem?_set_self hjl, w3.gh _ _ (s3 _ _ k3), w3.gh _ _ (s3 _ _ k4), G2, Fm, e2.set j none, w4, ?_⟩
    have q2 : tS X.K W pin σ1 G2 Fm (match g (e2.set j none) with
      | .ok _ e => .rt (.val (.bl false)) e
      | .exc x e => (match m x.C with
        | some true => lamsR m j (gs.drop (i + 1)) e
        | _ => .bad)
      | .bad => .bad) Dn := q2
    cases hg : g (e2.set j none) with
    | bad => rw [hg] at q2; exact q2.elim
    | ok d e =>
      rw [hg] at q2
      intro G3 H4 s4 v w5 r5
      refine ⟨false, rfl, ?_⟩
      show ite ((!false) = true) _ _
      rw [if_pos (show (!false) = true from rfl)]
      exact q2 G3 H4 _ (.bl false) s4 p4 (w5.front (.bl false))
    | exc z e =>
      rw [hg] at q2
      intro G3 H4 dd s4 w5 xo
      have q2 : tS X.K W pin σ1 G2 Fm (match m z.C with
        | some true => lamsR m j (gs.drop (i + 1)) e
        | _ => .bad) Dn := q2
      cases hmz : m z.C with
      | none => rw [hmz] at q2; exact q2.elim
      | some b =>
        cases b with
        | false => rw [hmz] at q2; exact q2.elim
        | true =>
          rw [hmz] at q2
          refine ⟨true, hm _ _ hmz, fun _ => ⟨true, rfl, ?_⟩, fun h => nomatch h⟩
          show ite ((!true) = true) _ _
          rw [if_neg (show ¬(!true) = true from fun h => nomatch h)]
          exact ⟨G3, e, s3.trans s4, p2.trans p4, w5, q2.mono s4 p4⟩
end
/-- a def of the text that makes lambdas: its code object c, the table P -/
def MkF (K : PySem.W.Frag) (mg : Str → Option Value) (base : Heap) (x : Str) (st : Stmt) : Prop := ∃ c P, (∀ f fd, mg x = some (.ref f) → Fun K x x st f fd → fd.code = .ref c) ∧ LamX.TabB base mg c P ∧ (P, x ++ ".<locals>." ++ "<lambda>") ∈ (Tabs.T : List (Addr × Str))
theorem mkx {CXg : CXT} {P : Program} {w : World} {K : PySem.W.Frag} {mg : Str → Option Value} {base : Heap} {N : List Str} {x : Str} {st : Stmt} {f : Addr} {cdv : Value} {A : Around} {outer : List PySem.Env} {s : Shared} {H : Hp} {E : XK} (m : MkF K mg base x st) (h : mg x = some (.ref f) ∧ ∃ fd, Fun K x x st f fd ∧ fd.code = cdv) :
    ∃ c Pt, Mkr (cxOf CXg P w K mg base N x (defScope st) f cdv A outer s H E) c Pt := by
  obtain ⟨c, Pt, h1, h2, h3⟩ := m
  obtain ⟨k1, fd, k2, k3⟩ := h
  exact ⟨c, Pt, h2, k3.symm.trans (h1 f fd k1 k2), h3⟩
/-- one class that is caught -/
def cat1 (C : Addr) : Addr → Option Bool := fun B => if B = C then some true else none
theorem cat1_ok {K : PySem.W.Frag} {C B0 : Addr} (h : PySem.W.exmOne K (.ref C) (.ref B0) = some true) : ∀ B b, cat1 C B = some b → PySem.W.exmOne K (.ref B) (.ref B0) = some b := fun B b e => by
  have e : (if B = C then some true else none) = some b := e
  split at e
  · rename_i z
    cases e
    rw [z]
    exact h
  · cases e
end DL


/-! D-layer, part n: from the head's facts. -/
namespace DL
open PySem PySem.Spec PyProof.Rows L2
variable [Tabs]
theorem fun_of {K : PySem.W.Frag} {x : Str} {st : Stmt} {f : Addr} {fd : FuncData} (F : FunD K x x (defArgs st) (defBody st) (defScope st) [] [] f fd) : Fun K x x st f fd := by
  obtain ⟨oc, od, dV, kV, doc, pm, an, cdv, ct, osl, rfl, lk, hcd, hD, _⟩ := F.ex
  rcases hD with ⟨_, rfl⟩ | ⟨z, _⟩
  · exact ⟨⟨oc, od, kV, doc, pm, an, cdv, ct, osl, rfl, lk, hcd⟩, F.kp⟩
  · exact absurd rfl z
/-- a def as a datum -/
def dOf (x : Str) (st : Stmt) : He.DefD := ⟨(x, none), x, x, defArgs st, defBody st, defScope st, [], []⟩
section
variable {K : PySem.W.Frag} {h : Heap} {mg : Str → Option Value} {base : Heap} {x : Str} {st : Stmt} {fa : List He.Fa} {fn : List He.DefD}
theorem df_of (X : K.In h) (G : h.Ns mainGlobals mg) (c : He.SaysD fa fn K) {ps : List Str} (h1 : He.Fa.glo x ∈ fa) (h2 : dOf x st ∈ fn)
    (hb : ∀ (kV doc pm : Value) (an : Option Addr) (cdv ct : Value) (us : List Value), us.length = ps.length → bindArgs (PySem.W.fnOf x x (defArgs st) (defBody st) (defScope st) .none kV doc pm an cdv ct) ⟨us, []⟩ = pure (ps.zip us)) : Df K mg x st ps := by
  obtain ⟨fd, F⟩ := c.defs h2
  have F' : Fun K x x st (He.ga K x) fd := fun_of F
  exact ⟨He.ga K x, fd, He.glo_ok X G (c.facts h1), F', F'.binds hb⟩
theorem ref_of (X : K.In h) (G : h.Ns mainGlobals mg) (c : He.SaysD fa fn K) {a : Str} {N : List Str} (h1 : He.Fa.glo x ∈ fa) (h2 : dOf x st ∈ fn)
    (hb : ∀ (kV doc pm : Value) (an : Option Addr) (cdv ct : Value) (us : List Value), us.length = [a].length → bindArgs (PySem.W.fnOf x x (defArgs st) (defBody st) (defScope st) .none kV doc pm an cdv ct) ⟨us, []⟩ = pure ([a].zip us)) : Ref K mg x st N a := by
  obtain ⟨fd, F⟩ := c.defs h2
  have F' : Fun K x x st (He.ga K x) fd := fun_of F
  have B := F'.binds hb
  obtain ⟨oc, od, kV, doc, pm, an, cdv, ct, osl, rfl, lk, hcd⟩ := F'.ex
  exact ⟨He.ga K x, _, cdv, He.glo_ok X G (c.facts h1), F'.kp, B, ⟨oc, od, osl, _, _, kV, doc, pm, ct, an, rfl, lk⟩, hcd⟩
theorem gd_int (X : K.In h) (G : h.Ns mainGlobals mg) (c : He.SaysD fa fn K) {i : Int} (h1 : He.Fa.int x i ∈ fa) : Gd K mg x (.int i) := by
  obtain ⟨t, e⟩ := He.int_ok X G (c.facts h1)
  exact Gd.int e
theorem gd_str (X : K.In h) (G : h.Ns mainGlobals mg) (c : He.SaysD fa fn K) {z : Str} (h1 : He.Fa.str x z ∈ fa) : Gd K mg x (.str z) := by
  obtain ⟨t, e⟩ := He.str_ok X G (c.facts h1)
  exact Gd.str e
theorem free_of (X : K.In h) (G : h.Ns mainGlobals mg) (c : He.SaysD fa fn K) (h1 : He.Fa.free x ∈ fa) : mg x = none := He.free_ok X G (c.facts h1)
theorem xc_of (X : K.In h) (G : h.Ns mainGlobals mg) (c : He.SaysD fa fn K) (h1 : He.Fa.glo x ∈ fa) (h2 : He.Fa.exc x ∈ fa) : Xc K mg x (He.ga K x) := by
  obtain ⟨a, b, d, e⟩ := He.exc_ok (c.facts h2)
  exact ⟨He.glo_ok X G (c.facts h1), a, b, d, e⟩
theorem mkf_of (X : K.In h) (G : h.Ns mainGlobals mg) (c : He.SaysD fa fn K) (h1 : He.Fa.glo x ∈ fa) (h2 : dOf x st ∈ fn) (tb : LamX.TabB base mg (He.cT K (x, none)).1 (He.cT K (x, none)).2)
    (hT : ((He.cT K (x, none)).2, x ++ ".<locals>." ++ "<lambda>") ∈ (Tabs.T : List (Addr × Str))) : MkF K mg base x st := by
  refine ⟨_, _, fun f fd e F => ?_, tb, hT⟩
  have e2 := He.glo_ok X G (c.facts h1)
  rw [e2] at e
  cases e
  obtain ⟨oc, od, kV, doc, pm, an, cdv, ct, osl, rfl, lk, hcd⟩ := F.ex
  obtain ⟨c0, rfl⟩ := He.codeIn_ref hcd
  show Value.ref c0 = .ref (He.codeOf K (x, none))
  rw [He.codeOf_eq (p := (x, none)) lk rfl]
end
theorem exm_of {K : PySem.W.Frag} {fa : List He.Fa} {fn : List He.DefD} (c : He.SaysD fa fn K) {x y : Str} {b : Bool} (h1 : He.Fa.exm x y b ∈ fa) : PySem.W.exmOne K (.ref (He.ga K x)) (.ref (He.ga K y)) = some b := He.exm_ok (c.facts h1)
end DL


/-! D-layer, part o: mirrors run by simp. -/
namespace DL
open PySem PySem.Spec PyProof.Rows L2
theorem pys_ints (ns : List Int) : pys (ns.map D.int) = some (ns.map PyData.int) := by
  induction ns with
  | nil => rfl
  | cons n ns ih =>
    show (D.py (.int n)).bind (fun p => (pys (ns.map D.int)).map (p :: ·)) = _
    rw [ih]
    rfl
theorem eqvAll_ints : ∀ (ns ms : List Int), PyData.eqvAll (ns.map .int) (ms.map .int) = decide (ns = ms)
  | [], [] => by simp [PyData.eqvAll]
  | [], m :: ms => by simp [PyData.eqvAll]
  | n :: ns, [] => by simp [PyData.eqvAll]
  | n :: ns, m :: ms => by
    have ih := eqvAll_ints ns ms
    simp only [List.map_cons, PyData.eqvAll, PyData.eqv, ih]
    by_cases h : n = m <;> by_cases h2 : ns = ms <;> simp [h, h2]
theorem canLay_ints (ns : List Int) : PyData.canLayAll0 (ns.map .int) = true := by
  induction ns with
  | nil => rfl
  | cons n ns ih =>
    show (PyData.canLay0 (.int n) && PyData.canLayAll0 (ns.map .int)) = true
    rw [ih]
    rfl
theorem depth_ints (ns : List Int) : PyData.depthAll (ns.map .int) ≤ 1 := by
  induction ns with
  | nil => simp [PyData.depthAll]
  | cons n ns ih => simp [PyData.depthAll, PyData.depth]; omega
@[simp] theorem tEq_int (a b : Int) : tEq (.val (.int a)) (.val (.int b)) = some (decide (a = b)) := by
  simp only [tEq, T.py, D.py, Option.bind_some, pyEq, PyData.eqv]
  rw [if_pos (by rfl)]
  by_cases h : a = b <;> simp [h]
@[simp] theorem tEq_bl (a b : Bool) : tEq (.val (.bl a)) (.val (.bl b)) = some (decide (a = b)) := by
  cases a <;> cases b <;> rfl
theorem shaped_ints (ns : List Int) : SeqAt.shaped (.list (ns.map .int)) = true := by
  have h1 := canLay_ints ns
  have h2 := depth_ints ns
  have h3 : (PyData.list (ns.map .int)).depth ≤ 64 := by
    simp only [PyData.depth]
    omega
  have h4 : (PyData.list (ns.map .int)).canLay0 = true := by
    simp only [PyData.canLay0]
    exact h1
  unfold SeqAt.shaped
  rw [h4]
  simpa using h3
theorem tEq_ints (ns ms : List Int) : tEq (.val (.lst (ns.map D.int))) (.val (.lst (ms.map D.int))) = some (decide (ns = ms)) := by
  simp only [tEq, T.py, D.py, pys_ints, Option.map_some, Option.bind_some, pyEq, shaped_ints, Bool.and_self, if_true, PyData.eqv, eqvAll_ints]
@[simp] theorem fEq_eq (t u : T) : fEq t u = (tEq t u).map D.bl := rfl
@[simp] theorem fNe_eq (t u : T) : fNe t u = (tEq t u).map fun b => D.bl (!b) := rfl
section
variable (i j : Int)
@[simp] theorem fAdd_i : fAdd (.int i) (.int j) = some (.int (i + j)) := rfl
@[simp] theorem fAddI_i : fAddI (.int i) (.int j) = some (.int (i + j)) := rfl
@[simp] theorem fSub_i : fSub (.int i) (.int j) = some (.int (i - j)) := rfl
@[simp] theorem fMul_i : fMul (.int i) (.int j) = if cMul i j = true then some (.int (i * j)) else none := rfl
@[simp] theorem fDiv_i : fDiv (.int i) (.int j) = if cDiv i j = true then some (.int (i / j)) else none := rfl
@[simp] theorem fMod_i : fMod (.int i) (.int j) = if cPos i j = true then some (.int (i % j)) else none := rfl
@[simp] theorem fPow_i : fPow (.int i) (.int j) = if cPow i j = true then some (.int (i ^ j.toNat)) else none := rfl
@[simp] theorem fShl_i : fShl (.int i) (.int j) = if cPow i j = true then some (.int (i * 2 ^ j.toNat)) else none := rfl
@[simp] theorem fShr_i : fShr (.int i) (.int j) = if cNn i j = true then some (.int (i / 2 ^ j.toNat)) else none := rfl
@[simp] theorem fAnd_i : fAnd (.int i) (.int j) = some (.int (Builtin.bitAnd i j)) := rfl
@[simp] theorem fNeg_i : fNeg (.int i) = some (.int (-i)) := rfl
@[simp] theorem fLt_i : fLt (.int i) (.int j) = some (.bl (decide (i < j))) := rfl
@[simp] theorem fLe_i : fLe (.int i) (.int j) = some (.bl (decide (i ≤ j))) := rfl
@[simp] theorem fGt_i : fGt (.int i) (.int j) = some (.bl (decide (i > j))) := rfl
@[simp] theorem fGe_i : fGe (.int i) (.int j) = some (.bl (decide (i ≥ j))) := rfl
@[simp] theorem cMul_l (i j : Int) (h : -(2 ^ 64) < i ∧ i < 2 ^ 64) : cMul i j = true := by simp [cMul]; omega
@[simp] theorem cMul_r (i j : Int) (h : -(2 ^ 64) < j ∧ j < 2 ^ 64) : cMul i j = true := by simp [cMul]; omega
@[simp] theorem cDiv_i : cDiv i j = (decide (0 < j) && decide (j < 1073741824)) := rfl
@[simp] theorem cPos_i : cPos i j = decide (0 < j) := rfl
@[simp] theorem cNn_i : cNn i j = decide (0 ≤ j) := rfl
end
end DL


/-! enumerate(..) over any inner iterator; zip of two lists as an inner iterator. -/
namespace DZ
open PySem PySem.Spec PyProof.Rows L2
open PySem.Sem (wp)
open Builtin.SmallTypes (nextOf)

/-- an iterator that another one draws from -/
structure InDr (P : Program) (w : World) (K : PySem.W.Frag) (J : It) (fp : List Addr) (it : Addr) (tn : Nat → Heap → Prop) : Prop where
  mem : it ∈ fp
  obj : ∀ i h, tn i h → ∀ b ∈ fp, ∃ o, h.get? b = some o ∧ ∀ v, o.data ≠ .cell v
  keep : ∀ i h h', tn i h → (∀ b ∈ fp, ∀ o, h.get? b = some o → h'.get? b = some o) → tn i h'
  item : ∀ (X : Cx), X.prog = P → X.w = w → X.K = K → X.calm = true → ∀ (i : Nat) (pins : List (Addr × Obj)) (s : Shared) (σ : L2.St) (H : Hp) (A : Around) (Q : Value → Shared → Prop) (E : Value → Shared → Prop), Inv X pins σ H s → (∀ b ∈ fp, FpOk X pins H b) → tn i s.heap → J.go i H →
    (∀ u h' tk x H', Inv X pins σ H' { s with heap := h', toks := tk } → RelV x u → J.yld i H x H' → tn (i + 1) h' → (∀ b, H b = none → b < s.heap.objs.size → H' b = none) → (∀ b o, b ∉ fp → s.heap.get? b = some o → h'.get? b = some o) → s.heap.objs.size ≤ h'.objs.size → Q u { s with heap := h', toks := tk }) →
    wpAny (model P w) A (nextOf (.ref it)) Q E s
  done : ∀ (X : Cx), X.prog = P → X.w = w → X.K = K → X.calm = true → ∀ (i : Nat) (pins : List (Addr × Obj)) (s : Shared) (σ : L2.St) (H : Hp) (A : Around) (Q : Value → Shared → Prop) (E : Value → Shared → Prop), A.handled = none → Inv X pins σ H s → (∀ b ∈ fp, FpOk X pins H b) → tn i s.heap → J.stop i H →
    (∀ h' tk e, (∀ b o, b ∉ fp → s.heap.get? b = some o → h'.get? b = some o) → (∃ o, h'.get? e = some o ∧ o.cls = .type "StopIteration") → E (.ref e) { s with heap := h', toks := tk }) →
    wpAny (model P w) A (nextOf (.ref it)) Q E s

section
variable {prog : Program} {w : World} {A : Around} {E : Value → Shared → Prop} {s : Shared}
theorem enumerate_next_itemG {e it : Addr} {c : Int} {old : Value} {Q : Value → Shared → Prop}
    (he : IsEnum s.heap e it c old)
    (hQ : ∀ Qi : Value → Shared → Prop, (∀ x h₁ tk, IsEnum h₁ e it c old → (∀ h', IsEnumOut h' e it (c + 1) x h₁.objs.size → h'.get? h₁.objs.size = some { cls := .type "tuple", data := .seq #[.int c tk, x] } → h'.objs.size = h₁.objs.size + 1 →
      (∀ b o, b ≠ e → h₁.get? b = some o → h'.get? b = some o) → Q (.ref h₁.objs.size) { s with heap := h', toks := tk + 1 }) → Qi x { s with heap := h₁, toks := tk }) → wpAny (model prog w) A (nextOf (.ref it)) Qi E s) :
    wpAny (model prog w) A (Builtin.«enumerate.__next__» ⟨[.ref e], []⟩) (fun fin s' => ∃ v, fin = .done (.ret v) ∧ Q v s') E s := by
  obtain ⟨hp, g, d, tk₀, os⟩ := s
  show wpAny _ _ (field (.ref e) 2 >>= _) _ _ _
  refine wpAny_bind (wpAny_field he rfl (x := .ref it) rfl ?_)
  refine wpAny_bind (hQ _ fun x h₁ tk he₁ hQ => ?_)
  show wpAny _ _ (field (.ref e) 3 >>= _) _ _ ⟨h₁, g, d, tk, os⟩
  refine wpAny_bind (wpAny_field he₁ rfl (x := rawInt c) rfl ?_)
  show wpAny _ _ (field (.ref e) 4 >>= _) _ _ ⟨h₁, g, d, tk, os⟩
  refine wpAny_bind (wpAny_field he₁ rfl (x := .none) rfl ?_)
  show wpAny _ _ (mkInt c >>= _) _ _ ⟨h₁, g, d, tk, os⟩
  refine wpAny_bind (wpAny_mkInt ?_)
  show wpAny _ _ (setField (.ref e) 3 (rawInt (c + 1)) >>= _) _ _ ⟨h₁, g, d, tk + 1, os⟩
  refine wpAny_bind (wpAny_setField_rec he₁ (by simp) fun h₂ he₂ hs₂ => ?_)
  replace hs₂ : Heap.SameBut e h₁ h₂ := hs₂
  replace he₂ : IsEnum h₂ e it (c + 1) old := he₂
  show wpAny _ _ (setField (.ref e) 4 .none >>= _) _ _ ⟨h₂, g, d, tk + 1, os⟩
  refine wpAny_bind (wpAny_setField_rec he₂ (by simp) fun h₃ he₃ hs₃ => ?_)
  replace hs₃ : Heap.SameBut e h₂ h₃ := hs₃
  replace he₃ : IsEnum h₃ e it (c + 1) old := he₃
  show wpAny _ _ (newTuple [.int c tk, x] >>= _) _ _ ⟨h₃, g, d, tk + 1, os⟩
  refine wpAny_bind (wpAny_newTuple ?_)
  have he₄ : IsEnum (h₃.push { cls := .type "tuple", data := .seq #[.int c tk, x] }) e it (c + 1) old := Heap.get?_push_of_some _ he₃
  generalize hh₄ : h₃.push { cls := .type "tuple", data := .seq #[.int c tk, x] } = h₄ at he₄
  have hsz : h₃.objs.size = h₁.objs.size := by rw [hs₃.1, hs₂.1]
  have hel : e < h₁.objs.size := Heap.lt_size he₁
  have ht₄ : h₄.get? h₁.objs.size = some { cls := .type "tuple", data := .seq #[.int c tk, x] } := by rw [← hh₄, ← hsz]; exact Heap.get?_push_size _ rfl
  have hz₄ : h₄.objs.size = h₁.objs.size + 1 := by rw [← hh₄, Heap.size_push, hsz]
  have hk₄ : ∀ b o, b ≠ e → h₁.get? b = some o → h₄.get? b = some o := fun b o hbe hb => by
    rw [← hh₄]; exact Heap.get?_push_of_some _ (hs₃.extBut b o hbe (hs₂.extBut b o hbe hb))
  show wpAny _ _ (Builtin.SmallTypes.ownedTupleIsFree (.ref e) >>= _) _ _ ⟨h₄, g, d, tk + 1, os⟩
  rw [hsz]
  clear hh₄ he₃ hs₃ he₂ hs₂ hsz h₃ h₂
  refine wpAny_bind ?_
  · unfold Builtin.SmallTypes.ownedTupleIsFree
    refine wpAny_bind (wpAny_field he₄ rfl (x := .none) rfl (wpAny_pure ?_))
    simp only [if_true]
    refine wpAny_bind (wpAny_rule ?_)
    refine wpAny_bind (wpAny_field he₄ rfl (x := old) rfl ?_)
    refine wpAny_bind (wpAny_setField_rec he₄ (by simp) fun h₅ he₅ hs₅ => ?_)
    replace hs₅ : Heap.SameBut e h₄ h₅ := hs₅
    replace he₅ : IsEnum h₅ e it (c + 1) x := he₅
    show wpAny _ _ (Builtin.SmallTypes.ownedTupleHandOut (.ref e) (.ref h₁.objs.size) >>= _) _ _ ⟨h₅, g, d, tk + 1, os⟩
    refine wpAny_bind ?_
    · unfold Builtin.SmallTypes.ownedTupleHandOut
      refine wpAny_bind (wpAny_setField_rec he₅ (by simp) fun h₆ he₆ hs₆ => ?_)
      replace hs₆ : Heap.SameBut e h₅ h₆ := hs₆
      replace he₆ : IsEnumOut h₆ e it (c + 1) x h₁.objs.size := he₆
      refine wpAny_setField_rec he₆ (by simp) fun h₇ he₇ hs₇ => ?_
      replace hs₇ : Heap.SameBut e h₆ h₇ := hs₇
      replace he₇ : IsEnumOut h₇ e it (c + 1) x h₁.objs.size := he₇
      refine wpAny_bind (wpAny_letGo (wpAny_pure ⟨_, rfl, hQ h₇ he₇ ?_ ?_ ?_⟩))
      · exact hs₇.extBut _ _ (Nat.ne_of_gt hel) (hs₆.extBut _ _ (Nat.ne_of_gt hel) (hs₅.extBut _ _ (Nat.ne_of_gt hel) ht₄))
      · rw [hs₇.1, hs₆.1, hs₅.1, hz₄]
      · exact fun b o hbe hb => hs₇.extBut b o hbe (hs₆.extBut b o hbe (hs₅.extBut b o hbe (hk₄ b o hbe hb)))
theorem pyNext_enum_itemG {e it : Addr} {c : Int} {old : Value} {Q : Option Value → Shared → Prop}
    (he : IsEnum s.heap e it c old)
    (hQ : ∀ Qi : Value → Shared → Prop, (∀ x h₁ tk, IsEnum h₁ e it c old → (∀ h', IsEnumOut h' e it (c + 1) x h₁.objs.size → h'.get? h₁.objs.size = some { cls := .type "tuple", data := .seq #[.int c tk, x] } → h'.objs.size = h₁.objs.size + 1 →
      (∀ b o, b ≠ e → h₁.get? b = some o → h'.get? b = some o) → Q (some (.ref h₁.objs.size)) { s with heap := h', toks := tk + 1 }) → Qi x { s with heap := h₁, toks := tk }) → ∀ E, wpAny (model prog w) A.in1 (nextOf (.ref it)) Qi E s) :
    wpAny (model prog w) A (pyNext (.ref e)) Q E s := by
  have hT : s.TypeIs (.ref e) "enumerate" := ⟨_, he, rfl⟩
  unfold pyNext
  exact wpAny_bind (wpAny_attempt (wpAny_callSpecial?_slot (name := Str.ofString "__next__") hT F.slot_enumerate_next
    (wpAny_call_entry F.slot_enumerate_next hT F.entry_enumerate_next
      (enumerate_next_itemG he fun Qi h => hQ Qi (fun x h₁ tk a b => h x h₁ tk a fun h' c d e f => wpAny_pure (b h' c d e f)) _) (F.args_enumerate_next_1 _))))
theorem pyNext_enum_endG {e it : Addr} {c : Int} {old : Value} {Q : Option Value → Shared → Prop}
    (he : IsEnum s.heap e it c old)
    (hQ : ∀ (Qi : Value → Shared → Prop) (Ei : Value → Shared → Prop), (∀ h' tk x, (∃ o, h'.get? x = some o ∧ o.cls = .type "StopIteration") → Q none { s with heap := h', toks := tk } → Ei (.ref x) { s with heap := h', toks := tk }) → wpAny (model prog w) A.in1 (nextOf (.ref it)) Qi Ei s) :
    wpAny (model prog w) A (pyNext (.ref e)) Q E s := by
  have hT : s.TypeIs (.ref e) "enumerate" := ⟨_, he, rfl⟩
  unfold pyNext
  refine wpAny_bind (wpAny_attempt (wpAny_callSpecial?_slot (name := Str.ofString "__next__") hT F.slot_enumerate_next
    (wpAny_call_entry F.slot_enumerate_next hT F.entry_enumerate_next ?_ (F.args_enumerate_next_1 _))))
  show wpAny _ _ (field (.ref e) 2 >>= _) _ _ _
  refine wpAny_bind (wpAny_field he rfl (x := .ref it) rfl ?_)
  refine wpAny_bind (hQ _ _ fun h' tk x hx' q => ?_)
  obtain ⟨o, ho, hc⟩ := hx'
  refine wpAny_bind (wpAny_isInstance (T := "StopIteration") (b := true) ⟨o, ho, hc⟩ isSubtype_stop ?_)
  exact wpAny_pure q
end

/-- enumerate over J: each item in a new pair -/
def ItE (J : It) : It := ⟨J.go, fun i H v H' => ∃ T x H1, J.yld i H x H1 ∧ v = .ref T ∧ H1 T = none ∧ H' = upd H1 T (.tup [.int (i : Nat), x]), J.stop⟩
theorem turn_enumG {P : Program} {w : World} {K : PySem.W.Frag} {elts : List Expr} {kk : Nat} {tpos : Pos} {J : It} {fp : List Addr} {it : Addr} {tn : Nat → Heap → Prop} (e : Addr) (D : InDr P w K J fp it tn) :
    Turn P w K (.Tuple elts kk tpos) (ItE J) (e :: fp) e (fun i h => (∃ old, IsEnum h e it ((i : Nat) : Int) old) ∧ tn i h ∧ e ∉ fp) where
  mem := by simp
  obj := fun i h st b hb => by
    obtain ⟨⟨old, he⟩, ht, _⟩ := st
    rcases List.mem_cons.mp hb with z | z
    · rw [z]; exact ⟨_, he, fun v q => nomatch q⟩
    · exact D.obj i h ht b z
  keep := fun i h h' st k => let ⟨⟨old, he⟩, ht, hne⟩ := st; ⟨⟨old, k e (by simp) _ he⟩, D.keep i h h' ht fun b hb => k b (List.mem_cons_of_mem _ hb), hne⟩
  item := by
    intro X hP hw hK hc i pins s σ H E I hf st hg
    subst hP hw hK
    obtain ⟨⟨old, he⟩, ht, hne⟩ := st
    refine pyNext_enum_itemG he fun Qi hq Ei => ?_
    refine D.item X rfl rfl rfl hc i pins s σ H _ Qi Ei I (fun b hb => hf b (List.mem_cons_of_mem _ hb)) ht hg fun u h1 tk x H1 I1 ru y t1 n1 k1 sz => ?_
    have he1 : IsEnum h1 e it ((i : Nat) : Int) old := k1 e _ hne he
    refine hq u h1 tk he1 fun h' ho hT hsz hk => ?_
    refine ⟨_, rfl, wpAny_letOwnedTupleGo_enum (s := { s with heap := h', toks := tk + 1 }) ho fun h'' he' sb => ?_⟩
    have hel : e < h1.objs.size := Heap.lt_size he1
    have hT2 : h''.get? h1.objs.size = some { cls := .type "tuple", data := .seq #[.int i tk, u] } := (sb.2 _ (Nat.ne_of_gt hel)).trans hT
    have new : ObjOk X.prog X.w (upd H1 h1.objs.size (.tup [.int (i : Nat), x])) h'' h1.objs.size (.tup [.int (i : Nat), x]) :=
      ⟨by show 2 ≤ sizeLine; decide, [.int i tk, u], .cons ⟨_, rfl⟩ (.cons ru .nil), ⟨_, hT2, rfl, _, rfl⟩⟩
    have hf1 : ∀ b ∈ [e], FpOk X pins H1 b := fun b hb => by
      have e1 : b = e := by simpa using hb
      subst e1
      obtain ⟨f0, f1⟩ := hf b (by simp)
      exact ⟨n1 b f0 (Heap.lt_size he), f1⟩
    have I2 : Inv X pins σ (upd H1 h1.objs.size (.tup [.int (i : Nat), x])) { s with heap := h'', toks := tk + 1 } :=
      I1.turnedNew (ch := [e]) (fun b ob hb q => (sb.2 b (fun z => hb (by simp [z]))).trans (hk b ob (fun z => hb (by simp [z])) q)) hf1 (Nat.le_refl _) new
    have keepF : ∀ b ∈ fp, ∀ o, h1.get? b = some o → h''.get? b = some o := fun b hb o q => (sb.2 b (fun z => hne (z ▸ hb))).trans (hk b o (fun z => hne (z ▸ hb)) q)
    refine ⟨.ref h1.objs.size, _, I2, rfl, ⟨_, x, H1, y, rfl, I1.hok.fresh (Nat.le_refl _), rfl⟩, ⟨⟨u, ?_⟩, D.keep _ _ _ t1 keepF, hne⟩, fun b hb => ?_⟩
    · have e1 : ((i + 1 : Nat) : Int) = (i : Int) + 1 := by omega
      rw [e1]; exact he'
    · have hb' : b < h1.objs.size := by
        rcases List.mem_cons.mp hb with z | z
        · rw [z]; exact hel
        · obtain ⟨o, q, _⟩ := D.obj _ _ t1 b z
          exact Heap.lt_size q
      rw [upd_ne (Nat.ne_of_lt hb')]
      rcases List.mem_cons.mp hb with z | z
      · rw [z]; exact (hf1 e (by simp)).1
      · obtain ⟨o, q, _⟩ := D.obj _ _ ht b z
        exact n1 b (hf b (List.mem_cons_of_mem _ z)).1 (Heap.lt_size q)
  done := by
    intro X hP hw hK hc i pins s σ H E I hf st hg
    subst hP hw hK
    obtain ⟨⟨old, he⟩, ht, hne⟩ := st
    refine pyNext_enum_endG he fun Qi Ei hq => ?_
    refine D.done X rfl rfl rfl hc i pins s σ H _ Qi Ei (by first | exact (I.ok.hd hc) | rfl) I (fun b hb => hf b (List.mem_cons_of_mem _ hb)) ht hg fun h' tk x k1 hx => ?_
    refine hq h' tk x hx ⟨rfl, ?_⟩
    exact I.turnedL (t' := tk) (ch := e :: fp) (fun c o hb q => k1 c o (fun z => hb (List.mem_cons_of_mem _ z)) q) hf
  self := fun A i s Q E st h => let ⟨⟨_, he⟩, _⟩ := st; wpAny_pyIter_enum he h
/-! ### the inner ones -/
theorem in_list {P : Program} {w : World} {K : PySem.W.Frag} (a it : Addr) : InDr P w K (Itl K a) [it] it (fun i h => h.IsListIter it a i) where
  mem := by simp
  obj := fun i h st b hb => by
    have e : b = it := by simpa using hb
    subst e
    obtain ⟨o, e, c, d⟩ := st
    exact ⟨o, e, fun v z => by rw [d] at z; cases z⟩
  keep := fun i h h' st k => st.at fun o e => k it (by simp) o e
  item := by
    intro X hP hw hK hc i pins s σ H A Q E I hf st hg q
    subst hP hw hK
    obtain ⟨xs, x, hq, hx⟩ := hg
    obtain ⟨its, rv, p, hz⟩ := I.list hq
    obtain ⟨u, hu, ru⟩ := rv.get hx
    obtain ⟨f0, f1, f2, f3, f4, f5⟩ := hf it (by simp)
    refine wpAny_nextOf_list_item st p.isList (x := u) (by simpa using hu) fun h' st' sb => ?_
    have I1 : Inv X pins σ H { s with heap := h' } := I.turned (t' := s.toks) (fun b o hb e => (sb.2 b hb).trans e) f0 f1 f3 f4 f5
    exact q u h' s.toks x H I1 ru ⟨rfl, fun ys hy => by rw [I.list_inj hy hq]; exact hx⟩ st' (fun b hb _ => hb) (fun b o hb e => (sb.2 b (by simpa using hb)).trans e) (by rw [sb.1]; exact Nat.le_refl _)
  done := by
    intro X hP hw hK hc i pins s σ H A Q E hh I hf st hg q
    subst hP hw hK
    obtain ⟨xs, hq, hx⟩ := hg
    obtain ⟨its, rv, p, hz⟩ := I.list hq
    have hl := rv.length
    exact wpAny_nextOf_list_end hh st p.isList (by simp; omega) fun h' e eb hx => q h' s.toks e (fun b o hb e => eb b o (by simpa using hb) e) hx
theorem in_tuple {P : Program} {w : World} {K : PySem.W.Frag} (a it : Addr) : InDr P w K (Itt K a) [it] it (fun i h => h.IsTupleIter it a i) where
  mem := by simp
  obj := fun i h st b hb => by
    have e : b = it := by simpa using hb
    subst e
    obtain ⟨o, e, c, d⟩ := st
    exact ⟨o, e, fun v z => by rw [d] at z; cases z⟩
  keep := fun i h h' st k => st.at fun o e => k it (by simp) o e
  item := by
    intro X hP hw hK hc i pins s σ H A Q E I hf st hg q
    subst hP hw hK
    obtain ⟨xs, x, hq, hx⟩ := hg
    obtain ⟨its, rv, p, hz⟩ := I.tuple hq
    obtain ⟨u, hu, ru⟩ := rv.get hx
    obtain ⟨f0, f1, f2, f3, f4, f5⟩ := hf it (by simp)
    refine RZ.nextOf_tuple_item st (show s.heap.IsTuple a its.toArray from p) (x := u) (by simpa using hu) fun h' st' sb => ?_
    have I1 : Inv X pins σ H { s with heap := h' } := I.turned (t' := s.toks) (fun b o hb e => (sb.2 b hb).trans e) f0 f1 f3 f4 f5
    exact q u h' s.toks x H I1 ru ⟨rfl, fun ys hy => by rw [I.tuple_inj hy hq]; exact hx⟩ st' (fun b hb _ => hb) (fun b o hb e => (sb.2 b (by simpa using hb)).trans e) (by rw [sb.1]; exact Nat.le_refl _)
  done := by
    intro X hP hw hK hc i pins s σ H A Q E hh I hf st hg q
    subst hP hw hK
    obtain ⟨xs, hq, hx⟩ := hg
    obtain ⟨its, rv, p, hz⟩ := I.tuple hq
    have hl := rv.length
    exact RZ.nextOf_tuple_end hh st (show s.heap.IsTuple a its.toArray from p) (by simp; omega) fun h' e eb hx => q h' s.toks e (fun b o hb e => eb b o (by simpa using hb) e) hx
theorem in_str {P : Program} {w : World} {K : PySem.W.Frag} (it : Addr) (x : Str) (t : Tok) : InDr P w K (Its x) [it] it (fun i h => h.IsStrIter it (strIterType x) x t i) where
  mem := by simp
  obj := fun i h st b hb => by
    have e : b = it := by simpa using hb
    subst e
    obtain ⟨o, e, c, d⟩ := st
    exact ⟨o, e, fun v z => by rw [d] at z; cases z⟩
  keep := fun i h h' st k => let ⟨o, ho, r⟩ := st; ⟨o, k it (by simp) o ho, r⟩
  item := by
    intro X hP hw hK hc i pins s σ H A Q E I hf st hg q
    subst hP hw hK
    obtain ⟨f0, f1, f2, f3, f4, f5⟩ := hf it (by simp)
    have hx : x.cps[i]? = some x.cps[i] := Array.getElem?_eq_getElem hg
    have fin : ∀ h', h'.IsStrIter it (strIterType x) x t (i + 1) → Heap.SameBut it s.heap h' → Q (.str ⟨#[x.cps[i]]⟩ s.toks) { s with heap := h', toks := s.toks + 1 } := fun h' st' sb => by
      have I1 : Inv X pins σ H { s with heap := h', toks := s.toks + 1 } := I.turned (fun b o hb e => (sb.2 b hb).trans e) f0 f1 f3 f4 f5
      exact q _ h' _ (.str ⟨#[x.cps[i]]⟩) H I1 ⟨_, rfl⟩ ⟨rfl, _, hx, rfl⟩ st' (fun b hb _ => hb) (fun b o hb e => (sb.2 b (by simpa using hb)).trans e) (by rw [sb.1]; exact Nat.le_refl _)
    unfold strIterType at st fin
    split at st
    · rename_i hc
      simp only [hc, if_true] at fin
      exact wpAny_nextOf_ascii_item st hx fin
    · rename_i hc
      simp only [hc, if_false] at fin
      exact wpAny_nextOf_wide_item st hx fin
  done := by
    intro X hP hw hK hc i pins s σ H A Q E hh I hf st hg q
    subst hP hw hK
    have hx : x.cps[i]? = none := Array.getElem?_eq_none hg
    unfold strIterType at st
    split at st
    · exact wpAny_nextOf_ascii_end hh st hx fun h' e eb hx => q h' s.toks e (fun b o hb e => eb b o (by simpa using hb) e) hx
    · exact wpAny_nextOf_wide_end hh st hx fun h' e eb hx => q h' s.toks e (fun b o hb e => eb b o (by simpa using hb) e) hx
/-! ### zip of two, whatever became of the pair it gave out -/
abbrev ZipO (h : Heap) (z TI TO : Addr) (own : Value) (f : Bool) : Prop :=
  h.get? z = some { cls := .type "zip", dict := none, data := .fields #[own, .bool f, .bool false, .ref TI, .ref TO], slots := #[] }
def OwnV (own : Value) : Prop := own = .none ∨ ∃ T : Nat, own = rawInt T
section
variable {prog : Program} {w : World} {A : Around} {E : Value → Shared → Prop} {s : Shared}
theorem alive_any {a : Addr} {Q : Option Obj → Shared → Prop} (h : Q (s.heap.get? a) s) : wpAny (model prog w) A (loadIfAlive a) Q E s := fun _ _ _ => h
theorem zip_free {z TI TO : Addr} {own : Value} {f : Bool} {Q : Bool → Shared → Prop} (ho : OwnV own) (hz : ZipO s.heap z TI TO own f)
    (h : ∀ b h' f', ZipO h' z TI TO own f' → Heap.SameBut z s.heap h' → Q b { s with heap := h' }) : wpAny (model prog w) A (Builtin.SmallTypes.ownedTupleIsFree (.ref z)) Q E s := by
  unfold Builtin.SmallTypes.ownedTupleIsFree
  rcases ho with rfl | ⟨T, rfl⟩
  · exact wpAny_bind (wpAny_field hz rfl (x := .none) rfl (wpAny_pure (h true s.heap f hz (Heap.SameBut.refl _ _))))
  · refine wpAny_bind (wpAny_field hz rfl (x := rawInt T) rfl ?_)
    show wpAny _ _ (loadIfAlive ((T : Int).toNat) >>= _) _ _ _
    refine wpAny_bind (alive_any ?_)
    cases hq : s.heap.get? ((T : Int).toNat) with
    | none =>
      simp only [Option.isNone_none, if_true]
      exact wpAny_pure (h true s.heap f hz (Heap.SameBut.refl _ _))
    | some o =>
      simp only [Option.isNone_some, Bool.false_eq_true, if_false]
      refine wpAny_bind (wpAny_field hz rfl (x := .bool f) rfl ?_)
      cases f with
      | true =>
        rw [if_neg (show ¬ ((Value.bool true != Value.bool true) = true) from Bool.false_ne_true)]
        exact wpAny_pure (h false s.heap true hz (Heap.SameBut.refl _ _))
      | false =>
        rw [if_pos (show (Value.bool false != Value.bool true) = true from rfl)]
        exact wpAny_bind (wpAny_setField_rec hz (by simp) fun h₁ hz₁ hs₁ => wpAny_pure (h false h₁ true hz₁ hs₁))
end
structure ZipS (z TI TO : Addr) (fp1 fp2 : List Addr) : Prop where
  TIz : TI ≠ z
  TOz : TO ≠ z
  TITO : TI ≠ TO
  z1 : z ∉ fp1
  z2 : z ∉ fp2
  TI1 : TI ∉ fp1
  TI2 : TI ∉ fp2
  TO1 : TO ∉ fp1
  TO2 : TO ∉ fp2
  ap : ∀ b ∈ fp1, b ∉ fp2
def ItZ (J1 J2 : It) : It := ⟨fun i H => J1.go i H ∧ J2.go i H, fun i H v H' => ∃ T x y, v = .ref T ∧ H T = none ∧ H' = upd H T (.tup [x, y]) ∧ J1.yld i H x H ∧ J2.yld i H y H, fun i H => J1.stop i H ∨ (J1.go i H ∧ J2.stop i H)⟩
def zipT (z TI TO i1 i2 : Addr) (t1 t2 : Nat → Heap → Prop) (i : Nat) (h : Heap) : Prop := (∃ own f, OwnV own ∧ ZipO h z TI TO own f) ∧ IsPair h TI (.ref i1) (.ref i2) ∧ (∃ a b, IsPair h TO a b) ∧ t1 i h ∧ t2 i h
section
variable {P : Program} {w : World} {K : PySem.W.Frag} {J1 J2 : It} {fp1 fp2 : List Addr} {z TI TO i1 i2 : Addr} {t1 t2 : Nat → Heap → Prop}
theorem zip_next_itemG (S : ZipS z TI TO fp1 fp2) (D1 : InDr P w K J1 fp1 i1 t1) (D2 : InDr P w K J2 fp2 i2 t2) (p1 : ∀ i H x H', J1.yld i H x H' → H' = H) (p2 : ∀ i H x H', J2.yld i H x H' → H' = H)
    (X : Cx) (hP : X.prog = P) (hw : X.w = w) (hK : X.K = K) (hc : X.calm = true) (i : Nat) (pins : List (Addr × Obj)) (s : Shared) (σ : L2.St) (H : Hp) (A : Around) (Q : Value → Shared → Prop) (E : Value → Shared → Prop) (I : Inv X pins σ H s) (hf : ∀ b ∈ z :: TI :: TO :: (fp1 ++ fp2), FpOk X pins H b)
    (st : zipT z TI TO i1 i2 t1 t2 i s.heap) (hg : (ItZ J1 J2).go i H)
    (q : ∀ h' tk x y u v T, s.heap.objs.size ≤ T → RelV x u → RelV y v → J1.yld i H x H → J2.yld i H y H → Inv X pins σ H { s with heap := h', toks := tk } → IsPair h' T u v → ZipO h' z TI TO (rawInt T) false ∨ (∃ own f, OwnV own ∧ ZipO h' z TI TO own f) → zipT z TI TO i1 i2 t1 t2 (i + 1) h' → (∀ b o, b ∉ z :: TI :: TO :: (fp1 ++ fp2) → s.heap.get? b = some o → h'.get? b = some o) → s.heap.objs.size ≤ h'.objs.size →
      Q (.ref T) { s with heap := h', toks := tk }) :
    wpAny (model P w) A (Builtin.«zip.__next__» ⟨[.ref z], []⟩) (fun fin s' => ∃ v, fin = .done (.ret v) ∧ Q v s') E s := by
  obtain ⟨⟨own, f, ho, hz⟩, hTI, ⟨a, b, hTO⟩, ht1, ht2⟩ := st
  obtain ⟨g1, g2⟩ := hg
  have m1 : ∀ b ∈ fp1, FpOk X pins H b := fun b hb => hf b (by simp [hb])
  have m2 : ∀ b ∈ fp2, FpOk X pins H b := fun b hb => hf b (by simp [hb])
  show wpAny _ _ (field (.ref z) 2 >>= _) _ _ _
  refine wpAny_bind (wpAny_field hz rfl (x := .bool false) rfl ?_)
  show wpAny _ _ (field (.ref z) 3 >>= _) _ _ _
  refine wpAny_bind (wpAny_field hz rfl (x := .ref TI) rfl ?_)
  refine wpAny_bind (wpAny_seqItems hTI rfl ?_)
  show wpAny _ _ (Builtin.SmallTypes.ownedTupleIsFree (.ref z) >>= _) _ _ _
  refine wpAny_bind (zip_free ho hz fun bb h₁ f₁ hz₁ hs₁ => ?_)
  have I1 : Inv X pins σ H { s with heap := h₁ } := I.turnedL (t' := s.toks) (ch := [z]) (fun c o hb e => (hs₁.2 c (by simpa using hb)).trans e) (fun c hcm => hf c (by rw [List.mem_singleton.mp hcm]; simp))
  have ht1₁ : t1 i h₁ := D1.keep _ _ _ ht1 fun c hcm o e => (hs₁.2 c (fun q' => S.z1 (q' ▸ hcm))).trans e
  have ht2₁ : t2 i h₁ := D2.keep _ _ _ ht2 fun c hcm o e => (hs₁.2 c (fun q' => S.z2 (q' ▸ hcm))).trans e
  have hTI₁ : IsPair h₁ TI (.ref i1) (.ref i2) := (hs₁.2 TI S.TIz).trans hTI
  have hTO₁ : IsPair h₁ TO a b := (hs₁.2 TO S.TOz).trans hTO
  cases bb with
  | false =>
    simp only [Bool.false_eq_true, if_false]
    refine wpAny_bind ?_
    rw [← Array.forIn_toList]
    simp only [List.forIn_cons, List.forIn_nil]
    refine wpAny_bind (wpAny_bind (wpAny_holding ?_))
    show wpAny _ _ (nextOf (.ref i1) >>= _) _ _ _
    refine wpAny_bind (D1.item X hP hw hK hc i pins _ σ H _ _ _ I1 m1 ht1₁ g1 fun u h₂ tk₂ x H' I2 ru y1 t1₂ n₂ k₂ sz₂ => wpAny_pure ?_)
    have e1 := p1 _ _ _ _ y1
    subst e1
    refine wpAny_pure ?_
    refine wpAny_bind (wpAny_bind (wpAny_holding ?_))
    show wpAny _ _ (nextOf (.ref i2) >>= _) _ _ _
    have ht2₂ : t2 i h₂ := D2.keep _ _ _ ht2₁ fun c hcm o e => k₂ c o (fun q' => S.ap c q' hcm) e
    refine wpAny_bind (D2.item X hP hw hK hc i pins _ σ _ _ _ _ I2 m2 ht2₂ g2 fun v h₃ tk₃ y H'' I3 rv y2 t2₃ n₃ k₃ sz₃ => wpAny_pure ?_)
    have e2 := p2 _ _ _ _ y2
    subst e2
    refine wpAny_pure (wpAny_pure ?_)
    show wpAny _ _ (newTuple [u, v] >>= _) _ _ _
    refine wpAny_bind (wpAny_newTuple ?_)
    have t1₃ : t1 (i + 1) h₃ := D1.keep _ _ _ t1₂ fun c hcm o e => k₃ c o (fun q' => S.ap c hcm q') e
    have hz₃ : ZipO h₃ z TI TO own f₁ := k₃ z _ S.z2 (k₂ z _ S.z1 hz₁)
    have hTI₃ : IsPair h₃ TI (.ref i1) (.ref i2) := k₃ TI _ S.TI2 (k₂ TI _ S.TI1 hTI₁)
    have hTO₃ : IsPair h₃ TO a b := k₃ TO _ S.TO2 (k₂ TO _ S.TO1 hTO₁)
    have up : ∀ c o, h₃.get? c = some o → (h₃.push { cls := .type "tuple", data := .seq #[u, v] }).get? c = some o := fun c o e => Heap.get?_push_of_some _ e
    have s1 : s.heap.objs.size ≤ h₃.objs.size := Nat.le_trans (Nat.le_of_eq hs₁.1.symm) (Nat.le_trans sz₂ sz₃)
    refine wpAny_pure ⟨_, rfl, ?_⟩
    show Q (.ref h₃.objs.size) _
    refine q _ tk₃ x y u v h₃.objs.size s1 ru rv y1 y2 (I3.kept (t' := tk₃) up) (Heap.get?_push_size _ rfl) (.inr ⟨own, f₁, ho, up _ _ hz₃⟩) ⟨⟨own, f₁, ho, up _ _ hz₃⟩, up _ _ hTI₃, ⟨a, b, up _ _ hTO₃⟩, D1.keep _ _ _ t1₃ fun c _ o e => up c o e, D2.keep _ _ _ t2₃ fun c _ o e => up c o e⟩ (fun c o hb e => up c o ?_) (by rw [Heap.size_push]; exact Nat.le_succ_of_le s1)
    simp only [List.mem_cons, List.mem_append, not_or] at hb
    exact k₃ c o hb.2.2.2.2 (k₂ c o hb.2.2.2.1 ((hs₁.2 c hb.1).trans e))
  | true =>
    simp only [if_true]
    refine wpAny_bind (wpAny_rule ?_)
    refine wpAny_bind (wpAny_field hz₁ rfl (x := .ref TO) rfl ?_)
    refine wpAny_bind (wpAny_setField_rec hz₁ (by simp) fun h₁' hz₁' hs₁' => ?_)
    replace hz₁' : ZipO h₁' z TI TO .ellipsis f₁ := hz₁'
    replace hs₁' : Heap.SameBut z h₁ h₁' := hs₁'
    have I1' : Inv X pins σ H { s with heap := h₁' } := Inv.turnedL (s := { s with heap := h₁ }) (t' := s.toks) (ch := [z]) I1 (fun c o hb e => (hs₁'.2 c (by simpa using hb)).trans e) (fun c hcm => hf c (by rw [List.mem_singleton.mp hcm]; simp))
    have ht1₁' : t1 i h₁' := D1.keep _ _ _ ht1₁ fun c hcm o e => (hs₁'.2 c (fun q' => S.z1 (q' ▸ hcm))).trans e
    have ht2₁' : t2 i h₁' := D2.keep _ _ _ ht2₁ fun c hcm o e => (hs₁'.2 c (fun q' => S.z2 (q' ▸ hcm))).trans e
    have hTI₁' : IsPair h₁' TI (.ref i1) (.ref i2) := (hs₁'.2 TI S.TIz).trans hTI₁
    have hTO₁' : IsPair h₁' TO a b := (hs₁'.2 TO S.TOz).trans hTO₁
    refine wpAny_bind ?_
    simp only [List.zipIdx_cons, List.zipIdx_nil, List.forIn_cons, List.forIn_nil]
    refine wpAny_bind (wpAny_bind (wpAny_onRaise ?_))
    show wpAny _ _ (nextOf (.ref i1) >>= _) _ _ _
    refine wpAny_bind (D1.item X hP hw hK hc i pins _ σ H _ _ _ I1' m1 ht1₁' g1 fun u h₂ tk₂ x H' I2 ru y1 t1₂ n₂ k₂ sz₂ => wpAny_pure ?_)
    have e1 := p1 _ _ _ _ y1
    subst e1
    have hTO₂ : IsPair h₂ TO a b := k₂ TO _ S.TO1 hTO₁'
    refine wpAny_bind (wpAny_seqItems hTO₂ rfl ?_)
    refine wpAny_bind (wpAny_updateSeq_pair (s := { s with heap := h₂, toks := tk₂ }) hTO₂ fun h₃ hTO₃ hs₃ => ?_)
    replace hTO₃ : IsPair h₃ TO u b := hTO₃
    replace hs₃ : Heap.SameBut TO h₂ h₃ := hs₃
    refine wpAny_bind (wpAny_letGo (wpAny_pure ?_))
    have I3 : Inv X pins σ _ { s with heap := h₃, toks := tk₂ } := Inv.turnedL (s := { s with heap := h₂, toks := tk₂ }) (t' := tk₂) (ch := [TO]) I2 (fun c o hb e => (hs₃.2 c (by simpa using hb)).trans e) (fun c hcm => hf c (by rw [List.mem_singleton.mp hcm]; simp))
    refine wpAny_bind (wpAny_bind (wpAny_onRaise ?_))
    show wpAny _ _ (nextOf (.ref i2) >>= _) _ _ _
    have ht2₃ : t2 i h₃ := D2.keep _ _ _ ht2₁' fun c hcm o e => (hs₃.2 c (fun q' => S.TO2 (q' ▸ hcm))).trans (k₂ c o (fun q' => S.ap c q' hcm) e)
    refine wpAny_bind (D2.item X hP hw hK hc i pins _ σ _ _ _ _ I3 m2 ht2₃ g2 fun v h₄ tk₄ y H'' I4 rv y2 t2₄ n₄ k₄ sz₄ => wpAny_pure ?_)
    have e2 := p2 _ _ _ _ y2
    subst e2
    have hTO₄ : IsPair h₄ TO u b := k₄ TO _ S.TO2 hTO₃
    refine wpAny_bind (wpAny_seqItems hTO₄ rfl ?_)
    refine wpAny_bind (wpAny_updateSeq_pair (s := { s with heap := h₄, toks := tk₄ }) hTO₄ fun h₅ hTO₅ hs₅ => ?_)
    replace hTO₅ : IsPair h₅ TO u v := hTO₅
    replace hs₅ : Heap.SameBut TO h₄ h₅ := hs₅
    refine wpAny_bind (wpAny_letGo (wpAny_pure (wpAny_pure ?_)))
    refine wpAny_bind (wpAny_seqItems hTO₅ rfl ?_)
    refine wpAny_bind (wpAny_newTuple ?_)
    have I5 : Inv X pins σ _ { s with heap := h₅, toks := tk₄ } := Inv.turnedL (s := { s with heap := h₄, toks := tk₄ }) (t' := tk₄) (ch := [TO]) I4 (fun c o hb e => (hs₅.2 c (by simpa using hb)).trans e) (fun c hcm => hf c (by rw [List.mem_singleton.mp hcm]; simp))
    have kk : ∀ c o, c ∉ fp1 → c ∉ fp2 → c ≠ TO → c ≠ z → s.heap.get? c = some o → h₅.get? c = some o := fun c o c1 c2 c3 c4 e => (hs₅.2 c c3).trans (k₄ c o c2 ((hs₃.2 c c3).trans (k₂ c o c1 ((hs₁'.2 c c4).trans ((hs₁.2 c c4).trans e)))))
    have t1₅ : t1 (i + 1) h₅ := D1.keep _ _ _ t1₂ fun c hcm o e => (hs₅.2 c (fun q' => S.TO1 (q' ▸ hcm))).trans (k₄ c o (fun q' => S.ap c hcm q') ((hs₃.2 c (fun q' => S.TO1 (q' ▸ hcm))).trans e))
    have t2₅ : t2 (i + 1) h₅ := D2.keep _ _ _ t2₄ fun c hcm o e => (hs₅.2 c (fun q' => S.TO2 (q' ▸ hcm))).trans e
    have hz₅ : ZipO h₅ z TI TO .ellipsis f₁ := (hs₅.2 z S.TOz.symm).trans (k₄ z _ S.z2 ((hs₃.2 z S.TOz.symm).trans (k₂ z _ S.z1 hz₁')))
    have hTI₅ : IsPair h₅ TI (.ref i1) (.ref i2) := kk TI _ S.TI1 S.TI2 S.TITO S.TIz hTI
    have hzlt : z < h₅.objs.size := Heap.lt_size hz₅
    have sz : s.heap.objs.size ≤ h₅.objs.size := by
      rw [hs₅.1]
      refine Nat.le_trans ?_ sz₄
      show _ ≤ h₃.objs.size
      rw [hs₃.1]
      refine Nat.le_trans ?_ sz₂
      show _ ≤ h₁'.objs.size
      rw [hs₁'.1, hs₁.1]
      exact Nat.le_refl _
    show wpAny _ _ (Builtin.SmallTypes.ownedTupleHandOut (.ref z) (.ref h₅.objs.size) >>= _) _ _ _
    refine wpAny_bind ?_
    unfold Builtin.SmallTypes.ownedTupleHandOut
    have hz₆ : ZipO (h₅.push { cls := .type "tuple", data := .seq #[u, v] }) z TI TO .ellipsis f₁ := Heap.get?_push_of_some _ hz₅
    refine wpAny_bind (wpAny_setField_rec hz₆ (by simp) fun h₇ hz₇ hs₇ => ?_)
    replace hz₇ : ZipO h₇ z TI TO (rawInt h₅.objs.size) f₁ := hz₇
    replace hs₇ : Heap.SameBut z (h₅.push { cls := .type "tuple", data := .seq #[u, v] }) h₇ := hs₇
    refine wpAny_setField_rec hz₇ (by simp) fun h₈ hz₈ hs₈ => ?_
    replace hz₈ : ZipO h₈ z TI TO (rawInt h₅.objs.size) false := hz₈
    replace hs₈ : Heap.SameBut z h₇ h₈ := hs₈
    have up : ∀ c o, c ≠ z → h₅.get? c = some o → h₈.get? c = some o := fun c o c1 e => hs₈.extBut _ _ c1 (hs₇.extBut _ _ c1 (Heap.get?_push_of_some _ e))
    have hT₈ : IsPair h₈ h₅.objs.size u v := hs₈.extBut _ _ (Nat.ne_of_gt hzlt) (hs₇.extBut _ _ (Nat.ne_of_gt hzlt) (Heap.get?_push_size _ rfl))
    have hz8 : h₈.objs.size = h₅.objs.size + 1 := by rw [hs₈.1, hs₇.1, Heap.size_push]
    refine wpAny_pure ⟨_, rfl, ?_⟩
    show Q (.ref h₅.objs.size) _
    have I8 : Inv X pins σ _ { s with heap := h₈, toks := tk₄ } := Inv.turnedL (s := { s with heap := h₅, toks := tk₄ }) (t' := tk₄) (ch := [z]) I5 (fun c o hb e => up c o (by simpa using hb) e) (fun c hcm => hf c (by rw [List.mem_singleton.mp hcm]; simp))
    refine q _ tk₄ x y u v h₅.objs.size sz ru rv y1 y2 I8 hT₈ (.inl hz₈) ⟨⟨_, _, .inr ⟨_, rfl⟩, hz₈⟩, up _ _ S.TIz hTI₅, ⟨u, v, up _ _ S.TOz hTO₅⟩, D1.keep _ _ _ t1₅ fun c hcm o e => up c o (fun q' => S.z1 (q' ▸ hcm)) e, D2.keep _ _ _ t2₅ fun c hcm o e => up c o (fun q' => S.z2 (q' ▸ hcm)) e⟩ (fun c o hb e => ?_) (by omega)
    simp only [List.mem_cons, List.mem_append, not_or] at hb
    exact up c o hb.1 (kk c o hb.2.2.2.1 hb.2.2.2.2 hb.2.2.1 hb.1 e)

theorem zip_next_endG (S : ZipS z TI TO fp1 fp2) (D1 : InDr P w K J1 fp1 i1 t1) (D2 : InDr P w K J2 fp2 i2 t2) (p1 : ∀ i H x H', J1.yld i H x H' → H' = H)
    (X : Cx) (hP : X.prog = P) (hw : X.w = w) (hK : X.K = K) (hc : X.calm = true) (i : Nat) (pins : List (Addr × Obj)) (s : Shared) (σ : L2.St) (H : Hp) (A : Around) (Q : Fin → Shared → Prop) (E : Value → Shared → Prop) (hh : A.handled = none) (I : Inv X pins σ H s) (hf : ∀ b ∈ z :: TI :: TO :: (fp1 ++ fp2), FpOk X pins H b)
    (st : zipT z TI TO i1 i2 t1 t2 i s.heap) (hg : (ItZ J1 J2).stop i H)
    (hE : ∀ h' tk e, (∀ b o, b ∉ z :: TI :: TO :: (fp1 ++ fp2) → s.heap.get? b = some o → h'.get? b = some o) → (∃ o, h'.get? e = some o ∧ o.cls = .type "StopIteration") → E (.ref e) { s with heap := h', toks := tk }) :
    wpAny (model P w) A (Builtin.«zip.__next__» ⟨[.ref z], []⟩) Q E s := by
  obtain ⟨⟨own, f, ho, hz⟩, hTI, ⟨a, b, hTO⟩, ht1, ht2⟩ := st
  have m1 : ∀ b ∈ fp1, FpOk X pins H b := fun b hb => hf b (by simp [hb])
  have m2 : ∀ b ∈ fp2, FpOk X pins H b := fun b hb => hf b (by simp [hb])
  show wpAny _ _ (field (.ref z) 2 >>= _) _ _ _
  refine wpAny_bind (wpAny_field hz rfl (x := .bool false) rfl ?_)
  show wpAny _ _ (field (.ref z) 3 >>= _) _ _ _
  refine wpAny_bind (wpAny_field hz rfl (x := .ref TI) rfl ?_)
  refine wpAny_bind (wpAny_seqItems hTI rfl ?_)
  show wpAny _ _ (Builtin.SmallTypes.ownedTupleIsFree (.ref z) >>= _) _ _ _
  refine wpAny_bind (zip_free ho hz fun bb h₁ f₁ hz₁ hs₁ => ?_)
  have I1 : Inv X pins σ H { s with heap := h₁ } := I.turnedL (t' := s.toks) (ch := [z]) (fun c o hb e => (hs₁.2 c (by simpa using hb)).trans e) (fun c hcm => hf c (by rw [List.mem_singleton.mp hcm]; simp))
  have ht1₁ : t1 i h₁ := D1.keep _ _ _ ht1 fun c hcm o e => (hs₁.2 c (fun q' => S.z1 (q' ▸ hcm))).trans e
  have ht2₁ : t2 i h₁ := D2.keep _ _ _ ht2 fun c hcm o e => (hs₁.2 c (fun q' => S.z2 (q' ▸ hcm))).trans e
  have hTI₁ : IsPair h₁ TI (.ref i1) (.ref i2) := (hs₁.2 TI S.TIz).trans hTI
  have hTO₁ : IsPair h₁ TO a b := (hs₁.2 TO S.TOz).trans hTO
  cases bb with
  | false =>
    simp only [Bool.false_eq_true, if_false]
    refine wpAny_bind ?_
    rw [← Array.forIn_toList]
    simp only [List.forIn_cons, List.forIn_nil]
    refine wpAny_bind (wpAny_bind (wpAny_holding ?_))
    show wpAny _ _ (nextOf (.ref i1) >>= _) _ _ _
    rcases hg with g1 | ⟨g1, g2⟩
    · refine wpAny_bind (D1.done X hP hw hK hc i pins _ σ H _ _ _ hh I1 m1 ht1₁ g1 fun h₂ tk₂ e k₂ he => ?_)
      refine hE h₂ tk₂ e (fun c o hb q => ?_) he
      simp only [List.mem_cons, List.mem_append, not_or] at hb
      exact k₂ c o hb.2.2.2.1 ((hs₁.2 c hb.1).trans q)
    · refine wpAny_bind (D1.item X hP hw hK hc i pins _ σ H _ _ _ I1 m1 ht1₁ g1 fun u h₂ tk₂ x H' I2 ru y1 t1₂ n₂ k₂ sz₂ => wpAny_pure ?_)
      have e1 := p1 _ _ _ _ y1
      subst e1
      refine wpAny_pure ?_
      refine wpAny_bind (wpAny_bind (wpAny_holding ?_))
      show wpAny _ _ (nextOf (.ref i2) >>= _) _ _ _
      have ht2₂ : t2 i h₂ := D2.keep _ _ _ ht2₁ fun c hcm o e => k₂ c o (fun q' => S.ap c q' hcm) e
      refine wpAny_bind (D2.done X hP hw hK hc i pins _ σ _ _ _ _ hh I2 m2 ht2₂ g2 fun h₃ tk₃ e k₃ he => ?_)
      refine hE h₃ tk₃ e (fun c o hb q => ?_) he
      simp only [List.mem_cons, List.mem_append, not_or] at hb
      exact k₃ c o hb.2.2.2.2 (k₂ c o hb.2.2.2.1 ((hs₁.2 c hb.1).trans q))
  | true =>
    simp only [if_true]
    refine wpAny_bind (wpAny_rule ?_)
    refine wpAny_bind (wpAny_field hz₁ rfl (x := .ref TO) rfl ?_)
    refine wpAny_bind (wpAny_setField_rec hz₁ (by simp) fun h₁' hz₁' hs₁' => ?_)
    replace hz₁' : ZipO h₁' z TI TO .ellipsis f₁ := hz₁'
    replace hs₁' : Heap.SameBut z h₁ h₁' := hs₁'
    have I1' : Inv X pins σ H { s with heap := h₁' } := Inv.turnedL (s := { s with heap := h₁ }) (t' := s.toks) (ch := [z]) I1 (fun c o hb e => (hs₁'.2 c (by simpa using hb)).trans e) (fun c hcm => hf c (by rw [List.mem_singleton.mp hcm]; simp))
    have ht1₁' : t1 i h₁' := D1.keep _ _ _ ht1₁ fun c hcm o e => (hs₁'.2 c (fun q' => S.z1 (q' ▸ hcm))).trans e
    have ht2₁' : t2 i h₁' := D2.keep _ _ _ ht2₁ fun c hcm o e => (hs₁'.2 c (fun q' => S.z2 (q' ▸ hcm))).trans e
    have hTI₁' : IsPair h₁' TI (.ref i1) (.ref i2) := (hs₁'.2 TI S.TIz).trans hTI₁
    have hTO₁' : IsPair h₁' TO a b := (hs₁'.2 TO S.TOz).trans hTO₁
    refine wpAny_bind ?_
    simp only [List.zipIdx_cons, List.zipIdx_nil, List.forIn_cons, List.forIn_nil]
    refine wpAny_bind (wpAny_bind (wpAny_onRaise ?_))
    show wpAny _ _ (nextOf (.ref i1) >>= _) _ _ _
    rcases hg with g1 | ⟨g1, g2⟩
    · refine wpAny_bind (D1.done X hP hw hK hc i pins _ σ H _ _ _ hh I1' m1 ht1₁' g1 fun h₂ tk₂ e k₂ he => ?_)
      obtain ⟨oe, hoe, hce⟩ := he
      have hz₂ : ZipO h₂ z TI TO .ellipsis f₁ := k₂ _ _ S.z1 hz₁'
      have hez : e ≠ z := fun x => by subst x; rw [hz₂] at hoe; cases hoe; simp at hce
      refine wpAny_setField_rec hz₂ (by simp) fun h₃ _ hs₃ => ?_
      replace hs₃ : Heap.SameBut z h₂ h₃ := hs₃
      refine hE h₃ tk₂ e (fun c o hb q => ?_) ⟨oe, hs₃.extBut _ _ hez hoe, hce⟩
      simp only [List.mem_cons, List.mem_append, not_or] at hb
      exact hs₃.extBut _ _ hb.1 (k₂ c o hb.2.2.2.1 ((hs₁'.2 c hb.1).trans ((hs₁.2 c hb.1).trans q)))
    · refine wpAny_bind (D1.item X hP hw hK hc i pins _ σ H _ _ _ I1' m1 ht1₁' g1 fun u h₂ tk₂ x H' I2 ru y1 t1₂ n₂ k₂ sz₂ => wpAny_pure ?_)
      have e1 := p1 _ _ _ _ y1
      subst e1
      have hTO₂ : IsPair h₂ TO a b := k₂ TO _ S.TO1 hTO₁'
      refine wpAny_bind (wpAny_seqItems hTO₂ rfl ?_)
      refine wpAny_bind (wpAny_updateSeq_pair (s := { s with heap := h₂, toks := tk₂ }) hTO₂ fun h₃ hTO₃ hs₃ => ?_)
      replace hTO₃ : IsPair h₃ TO u b := hTO₃
      replace hs₃ : Heap.SameBut TO h₂ h₃ := hs₃
      refine wpAny_bind (wpAny_letGo (wpAny_pure ?_))
      have I3 : Inv X pins σ _ { s with heap := h₃, toks := tk₂ } := Inv.turnedL (s := { s with heap := h₂, toks := tk₂ }) (t' := tk₂) (ch := [TO]) I2 (fun c o hb e => (hs₃.2 c (by simpa using hb)).trans e) (fun c hcm => hf c (by rw [List.mem_singleton.mp hcm]; simp))
      refine wpAny_bind (wpAny_bind (wpAny_onRaise ?_))
      show wpAny _ _ (nextOf (.ref i2) >>= _) _ _ _
      have ht2₃ : t2 i h₃ := D2.keep _ _ _ ht2₁' fun c hcm o e => (hs₃.2 c (fun q' => S.TO2 (q' ▸ hcm))).trans (k₂ c o (fun q' => S.ap c q' hcm) e)
      have hz₃ : ZipO h₃ z TI TO .ellipsis f₁ := (hs₃.2 z S.TOz.symm).trans (k₂ _ _ S.z1 hz₁')
      refine wpAny_bind (D2.done X hP hw hK hc i pins _ σ _ _ _ _ hh I3 m2 ht2₃ g2 fun h₄ tk₄ e k₄ he => ?_)
      obtain ⟨oe, hoe, hce⟩ := he
      have hz₄ : ZipO h₄ z TI TO .ellipsis f₁ := k₄ _ _ S.z2 hz₃
      have hez : e ≠ z := fun x => by subst x; rw [hz₄] at hoe; cases hoe; simp at hce
      refine wpAny_setField_rec hz₄ (by simp) fun h₅ _ hs₅ => ?_
      replace hs₅ : Heap.SameBut z h₄ h₅ := hs₅
      refine hE h₅ tk₄ e (fun c o hb q => ?_) ⟨oe, hs₅.extBut _ _ hez hoe, hce⟩
      simp only [List.mem_cons, List.mem_append, not_or] at hb
      exact hs₅.extBut _ _ hb.1 (k₄ c o hb.2.2.2.2 ((hs₃.2 c hb.2.2.1).trans (k₂ c o hb.2.2.2.1 ((hs₁'.2 c hb.1).trans ((hs₁.2 c hb.1).trans q)))))
theorem zipT_keep (S : ZipS z TI TO fp1 fp2) (D1 : InDr P w K J1 fp1 i1 t1) (D2 : InDr P w K J2 fp2 i2 t2) (i : Nat) (h h' : Heap) (st : zipT z TI TO i1 i2 t1 t2 i h) (k : ∀ b ∈ z :: TI :: TO :: (fp1 ++ fp2), ∀ o, h.get? b = some o → h'.get? b = some o) : zipT z TI TO i1 i2 t1 t2 i h' := by
  obtain ⟨⟨own, f, ho, hz⟩, hTI, ⟨a, b, hTO⟩, ht1, ht2⟩ := st
  exact ⟨⟨own, f, ho, k z (by simp) _ hz⟩, k TI (by simp) _ hTI, ⟨a, b, k TO (by simp) _ hTO⟩, D1.keep _ _ _ ht1 fun c hc => k c (by simp [hc]), D2.keep _ _ _ ht2 fun c hc => k c (by simp [hc])⟩
theorem zipT_obj (D1 : InDr P w K J1 fp1 i1 t1) (D2 : InDr P w K J2 fp2 i2 t2) (i : Nat) (h : Heap) (st : zipT z TI TO i1 i2 t1 t2 i h) : ∀ b ∈ z :: TI :: TO :: (fp1 ++ fp2), ∃ o, h.get? b = some o ∧ ∀ v, o.data ≠ .cell v := fun c hc => by
  obtain ⟨⟨own, f, ho, hz⟩, hTI, ⟨a, b, hTO⟩, ht1, ht2⟩ := st
  simp only [List.mem_cons, List.mem_append] at hc
  rcases hc with q | q | q | q | q
  · rw [q]; exact ⟨_, hz, fun v q => nomatch q⟩
  · rw [q]; exact ⟨_, hTI, fun v q => nomatch q⟩
  · rw [q]; exact ⟨_, hTO, fun v q => nomatch q⟩
  · exact D1.obj i h ht1 c q
  · exact D2.obj i h ht2 c q
theorem in_zip (S : ZipS z TI TO fp1 fp2) (D1 : InDr P w K J1 fp1 i1 t1) (D2 : InDr P w K J2 fp2 i2 t2) (p1 : ∀ i H x H', J1.yld i H x H' → H' = H) (p2 : ∀ i H x H', J2.yld i H x H' → H' = H) :
    InDr P w K (ItZ J1 J2) (z :: TI :: TO :: (fp1 ++ fp2)) z (zipT z TI TO i1 i2 t1 t2) where
  mem := by simp
  obj := zipT_obj D1 D2
  keep := zipT_keep S D1 D2
  item := by
    intro X hP hw hK hc i pins s σ H A Q E I hf st hg q
    have hTy : s.TypeIs (.ref z) "zip" := by obtain ⟨⟨own, f, ho, hz⟩, _⟩ := st; exact ⟨_, hz, rfl⟩
    unfold nextOf
    refine wpAny_bind (wpAny_callSpecial?_slot (name := Str.ofString "__next__") hTy F.slot_zip_next
      (wpAny_call_entry F.slot_zip_next hTy F.entry_zip_next (zip_next_itemG S D1 D2 p1 p2 X hP hw hK hc i pins s σ H _ _ _ I hf st hg fun h' tk x y u v T hT ru rv y1 y2 I1 hp _ st' kk sz => wpAny_pure ?_) (F.args_zip_next_1 _)))
    subst hP hw hK
    have Tn : H T = none := I.hok.fresh hT
    have new : ObjOk X.prog X.w (upd H T (.tup [x, y])) h' T (.tup [x, y]) :=
      ⟨by show 2 ≤ sizeLine; decide, [u, v], .cons ru (.cons rv .nil), ⟨_, hp, rfl, _, rfl⟩⟩
    have I2 : Inv X pins σ (upd H T (.tup [x, y])) { s with heap := h', toks := tk } := I.turnedNew (t' := tk) (ch := z :: TI :: TO :: (fp1 ++ fp2)) (fun c o hb e => kk c o hb e) hf hT new
    refine q _ h' tk (.ref T) _ I2 rfl ⟨T, x, y, rfl, Tn, rfl, y1, y2⟩ st' (fun b hb hl => ?_) kk sz
    rw [upd_ne (Nat.ne_of_lt (Nat.lt_of_lt_of_le hl hT))]
    exact hb
  done := by
    intro X hP hw hK hc i pins s σ H A Q E hh I hf st hg q
    have hTy : s.TypeIs (.ref z) "zip" := by obtain ⟨⟨own, f, ho, hz⟩, _⟩ := st; exact ⟨_, hz, rfl⟩
    unfold nextOf
    exact wpAny_bind (wpAny_callSpecial?_slot (name := Str.ofString "__next__") hTy F.slot_zip_next
      (wpAny_call_entry F.slot_zip_next hTy F.entry_zip_next (zip_next_endG S D1 D2 p1 X hP hw hK hc i pins s σ H _ _ _ hh I hf st hg q) (F.args_zip_next_1 _)))
theorem letGo_zipO {prog : Program} {A : Around} {E : Value → Shared → Prop} {s : Shared} {elts : List Expr} {x1} {pos : Pos} {z TI TO T : Addr} {own : Value} {f : Bool} {Q : Unit → Shared → Prop} (ho : OwnV own) (hz : ZipO s.heap z TI TO own f)
    (hQ : ∀ h' own', OwnV own' → ZipO h' z TI TO own' f → Heap.SameBut z s.heap h' → Q () { s with heap := h' }) : wpAny (model prog w) A (letOwnedTupleGo (.Tuple elts x1 pos) (.ref z) (.ref T)) Q E s := by
  unfold letOwnedTupleGo
  refine wpAny_bind (wpAny_load hz ?_)
  show wpAny _ _ (if (["enumerate", "zip", "dict_itemiterator", "dict_reverseitemiterator", "odict_iterator", "itertools.zip_longest", "itertools.pairwise"].contains "zip" && (some own == some (rawInt T))) = true then _ else _) Q E s
  split
  · refine wpAny_bind (wpAny_rule ?_)
    show wpAny _ _ (setField (.ref z) 0 .none) Q E s
    exact wpAny_setField_rec hz (by simp) fun h₁ hz₁ hs₁ => hQ h₁ .none (.inl rfl) hz₁ hs₁
  · exact wpAny_pure (hQ s.heap own ho hz (Heap.SameBut.refl _ _))
theorem turn_zipG {elts : List Expr} {kk : Nat} {tpos : Pos} (S : ZipS z TI TO fp1 fp2) (D1 : InDr P w K J1 fp1 i1 t1) (D2 : InDr P w K J2 fp2 i2 t2) (p1 : ∀ i H x H', J1.yld i H x H' → H' = H) (p2 : ∀ i H x H', J2.yld i H x H' → H' = H) :
    Turn P w K (.Tuple elts kk tpos) (ItZ J1 J2) (z :: TI :: TO :: (fp1 ++ fp2)) z (zipT z TI TO i1 i2 t1 t2) where
  mem := by simp
  obj := zipT_obj D1 D2
  keep := zipT_keep S D1 D2
  item := by
    intro X hP hw hK hc i pins s σ H E I hf st hg
    have hTy : s.TypeIs (.ref z) "zip" := by obtain ⟨⟨own, f, ho, hz⟩, _⟩ := st; exact ⟨_, hz, rfl⟩
    unfold pyNext
    refine wpAny_bind (wpAny_attempt (wpAny_callSpecial?_slot (name := Str.ofString "__next__") hTy F.slot_zip_next
      (wpAny_call_entry F.slot_zip_next hTy F.entry_zip_next (zip_next_itemG S D1 D2 p1 p2 X hP hw hK hc i pins s σ H _ _ _ I hf st hg fun h' tk x y u v T hT ru rv y1 y2 I1 hp _ st' ke sz => wpAny_pure ?_) (F.args_zip_next_1 _))))
    obtain ⟨⟨own, f, ho, hz⟩, hTI, hTO, ht1, ht2⟩ := st'
    refine ⟨_, rfl, letGo_zipO (s := { s with heap := h', toks := tk }) ho hz fun h'' own' ho' hz' hs' => ?_⟩
    replace hs' : Heap.SameBut z h' h'' := hs'
    subst hP hw hK
    have Tn : H T = none := I.hok.fresh hT
    have zl : z < s.heap.objs.size := by obtain ⟨⟨own, f, ho, hz⟩, _⟩ := st; exact Heap.lt_size hz
    have Tz : T ≠ z := Nat.ne_of_gt (Nat.lt_of_lt_of_le zl hT)
    have new : ObjOk X.prog X.w (upd H T (.tup [x, y])) h'' T (.tup [x, y]) :=
      ⟨by show 2 ≤ sizeLine; decide, [u, v], .cons ru (.cons rv .nil), ⟨_, (hs'.2 T Tz).trans hp, rfl, _, rfl⟩⟩
    have I2 : Inv X pins σ (upd H T (.tup [x, y])) { s with heap := h'', toks := tk } := I.turnedNew (t' := tk) (ch := z :: TI :: TO :: (fp1 ++ fp2)) (fun c o hb e => (hs'.2 c (fun q => hb (by simp [q]))).trans (ke c o hb e)) hf hT new
    refine ⟨.ref T, _, I2, rfl, ⟨T, x, y, rfl, Tn, rfl, y1, y2⟩, ⟨⟨own', f, ho', hz'⟩, (hs'.2 TI S.TIz).trans hTI, let ⟨a, b, q⟩ := hTO; ⟨a, b, (hs'.2 TO S.TOz).trans q⟩, D1.keep _ _ _ ht1 fun c hcm o e => (hs'.2 c (fun q' => S.z1 (q' ▸ hcm))).trans e, D2.keep _ _ _ ht2 fun c hcm o e => (hs'.2 c (fun q' => S.z2 (q' ▸ hcm))).trans e⟩, fun b hb => ?_⟩
    obtain ⟨o, q, _⟩ := zipT_obj D1 D2 i _ st b hb
    rw [upd_ne (Nat.ne_of_lt (Nat.lt_of_lt_of_le (Heap.lt_size q) hT))]
    exact (hf b hb).1
  done := by
    intro X hP hw hK hc i pins s σ H E I hf st hg
    have hTy : s.TypeIs (.ref z) "zip" := by obtain ⟨⟨own, f, ho, hz⟩, _⟩ := st; exact ⟨_, hz, rfl⟩
    unfold pyNext
    refine wpAny_bind (wpAny_attempt (wpAny_callSpecial?_slot (name := Str.ofString "__next__") hTy F.slot_zip_next
      (wpAny_call_entry F.slot_zip_next hTy F.entry_zip_next (zip_next_endG S D1 D2 p1 X hP hw hK hc i pins s σ H _ _ _ (by subst hP hw hK; exact (I.ok.hd hc)) I hf st hg fun h' tk e ke he => ?_) (F.args_zip_next_1 _))))
    obtain ⟨o, ho, hc'⟩ := he
    refine wpAny_bind (wpAny_isInstance (T := "StopIteration") (b := true) ⟨o, ho, hc'⟩ isSubtype_stop ?_)
    subst hP hw hK
    exact wpAny_pure ⟨rfl, I.turnedL (t' := tk) (ch := z :: TI :: TO :: (fp1 ++ fp2)) (fun c o hb e => ke c o hb e) hf⟩
  self := fun A i s Q E st h => by
    obtain ⟨⟨own, f, ho, hz⟩, _⟩ := st
    have hT : s.TypeIs (.ref z) "zip" := ⟨_, hz, rfl⟩
    refine wpAny_pyIter_slot hT F.slot_zip_iter (wpAny_call_entry F.slot_zip_iter hT F.entry_zip_iter ?_ (F.args_zip_iter_1 _))
    show wpAny _ _ (ret (.ref z)) _ _ s
    exact wpAny_pure ⟨_, rfl, "zip", _, hT, F.slot_zip_next.lookup, h⟩
end

/-! ### sources -/
def SrcV (K : PySem.W.Frag) (H : Hp) (x : V) (J : It) : Prop := (∃ a xs, x = .ref a ∧ SqL K H a xs ∧ J = Itl K a) ∨ (∃ a xs, x = .ref a ∧ SqT K H a xs ∧ J = Itt K a) ∨ ∃ z, x = .str z ∧ J = Its z
theorem SrcV.pure {K : PySem.W.Frag} {H : Hp} {x : V} {J : It} (h : SrcV K H x J) : ∀ i H x H', J.yld i H x H' → H' = H := by
  rcases h with ⟨a, xs, _, _, rfl⟩ | ⟨a, xs, _, _, rfl⟩ | ⟨z, _, rfl⟩ <;> exact fun i H x H' y => y.1
theorem SrcV.begins {X : Cx} {pins : List (Addr × Obj)} {σ : L2.St} {H : Hp} {s : Shared} (I : Inv X pins σ H s) {x : V} {u : Value} {J : It} (r : RelV x u) (h : SrcV X.K H x J) :
    ∃ o Hc, Begins u o Hc ∧ Hc s.heap ∧ ∀ (it : Addr) (h' : Heap), h'.get? it = some o → ∃ tn, InDr X.prog X.w X.K J [it] it tn ∧ tn 0 h' := by
  rcases h with ⟨a, xs, rfl, hq, rfl⟩ | ⟨a, xs, rfl, hq, rfl⟩ | ⟨z, rfl, rfl⟩
  · cases r
    obtain ⟨its, rv, p, hz⟩ := I.list hq
    exact ⟨_, _, begins_list a its.toArray, p.isList, fun it h' e => ⟨_, in_list a it, ⟨_, e, rfl, rfl⟩⟩⟩
  · cases r
    obtain ⟨its, rv, p, hz⟩ := I.tuple hq
    exact ⟨_, _, begins_tuple a its.toArray, (show s.heap.IsTuple a its.toArray from p), fun it h' e => ⟨_, in_tuple a it, ⟨_, e, rfl, rfl⟩⟩⟩
  · obtain ⟨t, rfl⟩ := r
    exact ⟨_, _, begins_text z t, trivial, fun it h' e => ⟨_, in_str it z t, ⟨_, e, rfl, rfl⟩⟩⟩
set_option maxHeartbeats 1000000 in
theorem meets_enum_newV (v it : Value) (h1 : Heap) :
    Meets (Builtin.«enumerate.__new__» ⟨[.type "enumerate", v], []⟩) (fun _ R s => (∀ (prog : Program) (w : World) (A : Around) (E : Value → Shared → Prop) (Q : Value → Shared → Prop), Q it { s with heap := h1 } → wpAny (model prog w) A (pyIter v) Q E s) ∧
      R (.ok (.ret (.ref h1.objs.size))) { s with heap := h1.push { cls := .type "enumerate", data := .fields #[.none, .bool false, it, rawInt 0, .none, .none] } }) :=
  .of_wp fun prog w A R s h => by
    obtain ⟨hp, g, d, tk, os⟩ := s; obtain ⟨q0, h⟩ := h
    have hsub := sub_enumerate
    have q1 : ∀ {A' : Around} {E : Value → Shared → Prop} {Q : Value → Shared → Prop}, Q it ⟨h1, g, d, tk, os⟩ → wpAny (model prog w) A' (pyIter v) Q E ⟨hp, g, d, tk, os⟩ :=
      fun q => q0 prog w _ _ _ q
    clear q0
    wp_walk using q1
    refine wpAny_stack_any fun st => wpAny_pure ?_
    split
    · rename_i c _ _ _ _ _
      cases (c == Value.type "enumerate")
      · wp_walk using q1
        exact ⟨_, rfl, h⟩
      · wp_walk using q1
        exact ⟨_, rfl, h⟩
    · wp_walk using q1
      exact ⟨_, rfl, h⟩
theorem call_enumV {prog : Program} {w : World} {A : Around} {E : Value → Shared → Prop} {s : Shared} {v : Value} {it : Addr} {h1 : Heap} {Q : Value → Shared → Prop}
    (hi : ∀ (prog : Program) (w : World) (A : Around) (E : Value → Shared → Prop) (Q : Value → Shared → Prop), Q (.ref it) { s with heap := h1 } → wpAny (model prog w) A (pyIter v) Q E s)
    (h : ∀ h', IsEnum h' h1.objs.size it 0 .none → h'.objs.size = h1.objs.size + 1 → (∀ b o, h1.get? b = some o → h'.get? b = some o) → Q (.ref h1.objs.size) { s with heap := h' }) :
    wpAny (model prog w) A (call (.type "enumerate") [v]) Q E s := by
  refine callType_new F.called_enumerate (by decide) (F.typeCall_enumerate_1 _) (F.newCall_enumerate_1 _) (fun obj => F.args_object_init_2 obj _) F.entry_enumerate_new
    (meets_enum_newV v (.ref it) h1) ⟨hi, ?_⟩
  have he : IsEnum (h1.push { cls := .type "enumerate", data := .fields #[.none, .bool false, .ref it, rawInt 0, .none, .none] }) h1.objs.size it 0 .none := Heap.get?_push_size _ rfl
  exact ⟨⟨_, he, rfl⟩, h _ he (Heap.size_push ..) fun b o x => Heap.get?_push_of_some _ x⟩
def iEnumG (K : PySem.W.Frag) (ta : TA) : TI := fun σ H R => ta σ H fun vs H1 => ∃ x J, vs = [x] ∧ SrcV K H1 x J ∧ R (ItE J) H1
section
variable {X : Cx} {e e2 : Expr} {ta : TA} {p p2 pos pos2 tpos : Pos} {elts : List Expr} {kk : Nat}
theorem pi_enumG (hg : Gl X "enumerate") (hm : X.mg "enumerate" = none) (ha : PA X [e] ta) (hs : starEach [e] X.env = [(false, eval e X.env)] := by rfl) :
    PI X (.Tuple elts kk tpos) (.Call (.Name "enumerate" p) [e] [] pos) (iEnumG X.K ta) := by
  refine ⟨fun pins s σ H R I h => ?_⟩
  refine Call_ (ld_blt I hg hm boot_enumerate (PyProof.Rows.callWith_type1 (thn (ha.run pos pins s σ H _ I h) fun us s1 ⟨vs, H1, I1, r1, q1⟩ => ?_) hs rfl))
  obtain ⟨x, J, ex, hq, q⟩ := q1
  subst ex
  cases r1 with
  | cons r rr =>
    cases rr
    rename_i u
    obtain ⟨o, Hc, B, hc, D⟩ := hq.begins I1 r
    refine call_enumV (it := s1.heap.objs.size) (h1 := s1.heap.push o) (fun prog w A E Q q => B.iter prog w A E s1 Q hc q) fun h' he hsz hk => wpAny_pyIter_enum he ?_
    have z1 : (s1.heap.push o).objs.size = s1.heap.objs.size + 1 := Heap.size_push ..
    have up : ∀ b ob, s1.heap.get? b = some ob → h'.get? b = some ob := fun b ob e => hk b ob (Heap.get?_push_of_some _ e)
    obtain ⟨tn, dr, t0⟩ := D s1.heap.objs.size h' (hk _ _ (Heap.get?_push_size _ B.free))
    have I2 : Inv X pins σ H1 { s1 with heap := h' } := I1.kept (t' := s1.toks) up
    rw [z1] at he ⊢
    refine ⟨s1.heap.objs.size + 1, [s1.heap.objs.size + 1, s1.heap.objs.size], _, _, H1, rfl, I2, turn_enumG (s1.heap.objs.size + 1) dr, ⟨⟨.none, he⟩, t0, by simp⟩, fun b hb => ?_, q⟩
    have hle : s1.heap.objs.size ≤ b := by
      have e' : b = s1.heap.objs.size + 1 ∨ b = s1.heap.objs.size := by simpa using hb
      rcases e' with z | z
      · rw [z]; exact Nat.le_add_right _ _
      · rw [z]; exact Nat.le_refl _
    exact I1.fpOk hle (I1.hok.fresh hle)
def iZipG (K : PySem.W.Frag) (ta : TA) : TI := fun σ H R => ta σ H fun vs H1 => ∃ x y J1 J2, vs = [x, y] ∧ SrcV K H1 x J1 ∧ SrcV K H1 y J2 ∧ R (ItZ J1 J2) H1
theorem zip_made {pins : List (Addr × Obj)} {σ : L2.St} {s : Shared} {H : Hp} (I : Inv X pins σ H s) {x y : V} {u v : Value} {J1 J2 : It} (r1 : RelV x u) (r2 : RelV y v) (h1 : SrcV X.K H x J1) (h2 : SrcV X.K H y J2) {Q : Value → Shared → Prop} {A : Around} {E : Value → Shared → Prop}
    (q : ∀ (h' : Heap) (z TI TO i1 i2 : Addr) (t1 t2 : Nat → Heap → Prop), ZipS z TI TO [i1] [i2] → InDr X.prog X.w X.K J1 [i1] i1 t1 → InDr X.prog X.w X.K J2 [i2] i2 t2 → zipT z TI TO i1 i2 t1 t2 0 h' → (∀ b ∈ z :: TI :: TO :: ([i1] ++ [i2]), s.heap.objs.size ≤ b) → (∀ b o, s.heap.get? b = some o → h'.get? b = some o) → IsZip h' z TI TO .none → Q (.ref z) { s with heap := h' }) :
    wpAny (model X.prog X.w) A (call (.type "zip") [u, v]) Q E s := by
  obtain ⟨o1, H1, B1, c1, D1⟩ := h1.begins I r1
  obtain ⟨o2, H2, B2, c2, D2⟩ := h2.begins I r2
  refine zip_begins2 B1 B2 c1 c2 fun h' hz hTI hTO g1 g2 hsz hk => ?_
  obtain ⟨t1, d1, s1⟩ := D1 _ _ g1
  obtain ⟨t2, d2, s2⟩ := D2 _ _ g2
  refine q h' _ (s.heap.objs.size + 2) (s.heap.objs.size + 3) s.heap.objs.size (s.heap.objs.size + 1) t1 t2 ?_ d1 d2 ⟨⟨.none, false, .inl rfl, hz⟩, hTI, ⟨_, _, hTO⟩, s1, s2⟩ (fun b hb => ?_) hk hz
  · generalize s.heap.objs.size = N
    exact { TIz := by (show (N + 2 : Nat) ≠ N + 4); omega, TOz := by (show (N + 3 : Nat) ≠ N + 4); omega, TITO := by (show (N + 2 : Nat) ≠ N + 3); omega, z1 := by (show (N + 4 : Nat) ∉ [N]); simp, z2 := by (show (N + 4 : Nat) ∉ [N + 1]); simp,
            TI1 := by (show (N + 2 : Nat) ∉ [N]); simp, TI2 := by (show (N + 2 : Nat) ∉ [N + 1]); simp, TO1 := by (show (N + 3 : Nat) ∉ [N]); simp, TO2 := by (show (N + 3 : Nat) ∉ [N + 1]); simp, ap := by (show ∀ b ∈ [(N : Nat)], b ∉ [N + 1]); simp }
  · revert hb
    generalize s.heap.objs.size = N
    intro hb
    have e' : b = N + 4 ∨ b = N + 2 ∨ b = N + 3 ∨ b = N ∨ b = N + 1 := by simpa using hb
    rcases e' with z | z | z | z | z
    · rw [z]; exact Nat.le_add_right _ _
    · rw [z]; exact Nat.le_add_right _ _
    · rw [z]; exact Nat.le_add_right _ _
    · rw [z]; exact Nat.le_refl _
    · rw [z]; exact Nat.le_add_right _ _
theorem pi_zipG (hg : Gl X "zip") (hm : X.mg "zip" = none) (ha : PA X [e, e2] ta)
    (hs : starEach [e, e2] X.env = (false, eval e X.env) :: starEach [e2] X.env := by rfl) (hpl : (backTo pos (starEach [e2] X.env)).any (·.1) = false := by rfl) :
    PI X (.Tuple elts kk tpos) (.Call (.Name "zip" p) [e, e2] [] pos) (iZipG X.K ta) := by
  refine ⟨fun pins s σ H R I h => ?_⟩
  refine Call_ (ld_blt I hg hm PyProof.Rows.boot_zip (PyProof.Rows.callWith_type1 (thn (ha.run pos pins s σ H _ I h) fun us s1 ⟨vs, H1, I1, r1, q1⟩ => ?_) hs hpl))
  obtain ⟨x, y, J1, J2, ex, hx, hy, q⟩ := q1
  subst ex
  cases r1 with
  | cons r rr =>
    cases rr with
    | cons r' rr =>
      cases rr
      refine zip_made I1 r r' hx hy fun h' z TI TO i1 i2 t1 t2 S d1 d2 zt fr hk hz => wpAny_pyIter_zip hz ?_
      exact ⟨z, z :: TI :: TO :: ([i1] ++ [i2]), _, _, H1, rfl, I1.kept (t' := s1.toks) hk, turn_zipG S d1 d2 hx.pure hy.pure, zt, fun b hb => I1.fpOk (fr b hb) (I1.hok.fresh (fr b hb)), q⟩
def iEnZ (K : PySem.W.Frag) (ta : TA) : TI := fun σ H R => ta σ H fun vs H1 => ∃ x y J1 J2, vs = [x, y] ∧ SrcV K H1 x J1 ∧ SrcV K H1 y J2 ∧ R (ItE (ItZ J1 J2)) H1
theorem pi_enumZ (hg : Gl X "zip") (hm : X.mg "zip" = none) (hg2 : Gl X "enumerate") (hm2 : X.mg "enumerate" = none) (ha : PA X [e, e2] ta)
    (hs : starEach [e, e2] X.env = (false, eval e X.env) :: starEach [e2] X.env := by rfl) (hpl : (backTo pos (starEach [e2] X.env)).any (·.1) = false := by rfl)
    (hs2 : starEach [.Call (.Name "zip" p) [e, e2] [] pos] X.env = [(false, eval (.Call (.Name "zip" p) [e, e2] [] pos) X.env)] := by rfl) :
    PI X (.Tuple elts kk tpos) (.Call (.Name "enumerate" p2) [.Call (.Name "zip" p) [e, e2] [] pos] [] pos2) (iEnZ X.K ta) := by
  refine ⟨fun pins s σ H R I h => ?_⟩
  refine Call_ (ld_blt I hg2 hm2 boot_enumerate (PyProof.Rows.callWith_type1 ?_ hs2 rfl))
  rw [hs2]
  show wpAny _ _ (spliced ((false, eval (.Call (.Name "zip" p) [e, e2] [] pos) X.env) :: backTo pos2 (starEach [] X.env))) _ _ s
  refine Calls.spliced_cons (Call_ (ld_blt I hg hm PyProof.Rows.boot_zip (PyProof.Rows.callWith_type1 (thn (ha.run pos pins s σ H _ I h) fun us s1 ⟨vs, H1, I1, r1, q1⟩ => ?_) hs hpl)))
  obtain ⟨x, y, J1, J2, ex, hx, hy, q⟩ := q1
  subst ex
  cases r1 with
  | cons r rr =>
    cases rr with
    | cons r' rr =>
      cases rr
      refine zip_made I1 r r' hx hy fun h1 z TI TO i1 i2 t1 t2 S d1 d2 zt fr hk hz => Calls.spliced_nil ?_
      refine call_enumV (it := z) (h1 := h1) (fun prog w A E Q q => wpAny_pyIter_zip hz q) fun h' he hsz hk2 => wpAny_pyIter_enum he ?_
      have dz := in_zip S d1 d2 hx.pure hy.pure
      have I2 : Inv X pins σ H1 { s1 with heap := h' } := I1.kept (t' := s1.toks) fun b o e => hk2 b o (hk b o e)
      have ne : h1.objs.size ∉ z :: TI :: TO :: ([i1] ++ [i2]) := fun hm => by
        obtain ⟨o, g, _⟩ := dz.obj _ _ zt _ hm
        exact absurd (Heap.lt_size g) (Nat.lt_irrefl _)
      have le1 : s1.heap.objs.size ≤ h1.objs.size := Nat.le_of_lt (Nat.lt_of_le_of_lt (fr z (by simp)) (Heap.lt_size hz))
      refine ⟨h1.objs.size, h1.objs.size :: z :: TI :: TO :: ([i1] ++ [i2]), _, _, H1, rfl, I2, turn_enumG h1.objs.size dz, ⟨⟨.none, he⟩, dz.keep _ _ _ zt fun b hb o g => hk2 b o g, ne⟩, fun b hb => ?_, q⟩
      have hle : s1.heap.objs.size ≤ b := by
        rcases List.mem_cons.mp hb with z | z
        · rw [z]; exact le1
        · exact fr b z
      exact I1.fpOk hle (I1.hok.fresh hle)
end
end DZ


/-! D-layer, part p: enumerate, zip, parallel assignment, names that hold either. -/
namespace DL
open PySem PySem.Spec PyProof.Rows L2 DZ
variable [Tabs]
/-! ### a name that holds data or an object of its own, looked at -/
section
variable {X : Cx} {W : WX} {pin : List Nat} {e : Expr} {pos : Pos}
@[simp] def gAny (i : Nat) : Gn Vl := fun env => match env[i]? with
  | some (some (.val d)) => .ok (.d d) env
  | some (some _) => .ok (.sl i) env
  | _ => .bad
theorem ve_any {i : Nat} {x : Str} (h : PE X (.Name x pos) (tVar i)) : VE X W (.Name x pos) (gAny i) := PE.imp h fun σ H Q ⟨G, Fm, env, w, q⟩ => by
  have q : tR X.K W σ G Fm (match env[i]? with | some (some (.val d)) => .ok (.d d) env | some (some _) => .ok (.sl i) env | _ => .bad) (PV X.K Fm σ Q) := q
  split at q
  · rename_i d hd
    obtain ⟨v, h1, h2⟩ := w.rd hd
    exact ⟨v, h1, q G H (Same.refl G) v w h2⟩
  · rename_i t _ ht
    obtain ⟨v, h1, _⟩ := w.out ht
    exact ⟨v, h1, q G H (Same.refl G) v w h1⟩
  · exact q.elim
end
/-! ### sources -/
def WalksP (K : PySem.W.Frag) (J : It) (G0 : Hp) (ds : List D) : Prop := ∀ (i : Nat) (G H : Hp), Same G0 G → Same G H →
  (∀ d, ds[i]? = some d → J.go i H ∧ ∀ x H', J.yld i H x H' → H' = H ∧ RD K G d x) ∧ (ds[i]? = none → J.stop i H)
theorem walksP_list {K : PySem.W.Frag} {G : Hp} {a : Addr} {ds : List D} {vs : List V} (h : SqL K G a vs) (r : RDs K G ds vs) : WalksP K (Itl K a) G ds := fun i G1 H s1 s2 => by
  have h1 : SqL K H a vs := (s1.trans s2).seq h
  refine ⟨fun d e => ?_, fun e => ⟨vs, h1, by rw [← r.length]; exact List.getElem?_eq_none_iff.mp e⟩⟩
  obtain ⟨v, e1, r1⟩ := r.get e
  exact ⟨⟨vs, v, h1, e1⟩, fun x H' ⟨e2, q⟩ => ⟨e2, by rw [Option.some.inj ((q vs h1).symm.trans e1)]; exact r1.mono s1⟩⟩
theorem walksP_tup {K : PySem.W.Frag} {G : Hp} {a : Addr} {ds : List D} {vs : List V} (h : SqT K G a vs) (r : RDs K G ds vs) : WalksP K (Itt K a) G ds := fun i G1 H s1 s2 => by
  have h1 : SqT K H a vs := sqT_mono (s1.trans s2) h
  refine ⟨fun d e => ?_, fun e => ⟨vs, h1, by rw [← r.length]; exact List.getElem?_eq_none_iff.mp e⟩⟩
  obtain ⟨v, e1, r1⟩ := r.get e
  exact ⟨⟨vs, v, h1, e1⟩, fun x H' ⟨e2, q⟩ => ⟨e2, by rw [Option.some.inj ((q vs h1).symm.trans e1)]; exact r1.mono s1⟩⟩
theorem walksP_str {K : PySem.W.Frag} {G : Hp} {x : Str} : WalksP K (Its x) G (strDs x) := fun i G1 H s1 s2 => by
  obtain ⟨h1, h2⟩ := walks_str (K := K) (G := G) (x := x) i G1 H s1 s2
  refine ⟨fun d e => ?_, h2⟩
  obtain ⟨h3, h4⟩ := h1 d e
  refine ⟨h3, fun y H' z => ?_⟩
  rcases h4 y H' z with q | ⟨p, o, hp, e1, _⟩ | ⟨p, o, p2, o2, hp, hp2, e1, _⟩
  · exact q
  · exfalso
    have e2 : H' = H := z.1
    rw [e2] at e1
    have := congrFun e1 p
    rw [hp, upd_same] at this
    cases this
  · exfalso
    have e2 : H' = H := z.1
    rw [e2] at e1
    have := congrFun e1 p2
    rw [upd_same] at this
    by_cases hh : p2 = p
    · subst hh; rw [upd_same] at hp2; cases hp2
    · rw [upd_ne hh] at hp2
      rw [hp2] at this
      cases this
@[simp] def D.src : D → Option (List D)
  | .lst ds => some ds
  | .ro ds => some ds
  | .tup ds => some ds
  | .str x => some (strDs x)
  | _ => none
theorem RD.src {K : PySem.W.Frag} {G H : Hp} {d : D} {v : V} {ds : List D} (s : Same G H) (h : RD K G d v) (e : d.src = some ds) : ∃ J, SrcV K H v J ∧ WalksP K J G ds := by
  cases h with
  | lst h r => cases (Option.some.inj e); exact ⟨_, .inl ⟨_, _, rfl, .inl (.inl (s _ _ h)), rfl⟩, walksP_list (.inl (.inl h)) r⟩
  | ro h r => cases (Option.some.inj e); exact ⟨_, .inl ⟨_, _, rfl, s.seq h, rfl⟩, walksP_list h r⟩
  | tup h r => cases (Option.some.inj e); exact ⟨_, .inr (.inl ⟨_, _, rfl, sqT_mono s h, rfl⟩), walksP_tup h r⟩
  | str x => cases (Option.some.inj e); exact ⟨_, .inr (.inr ⟨_, rfl, rfl⟩), walksP_str⟩
  | _ => cases e
def enumFromD (k : Nat) : List D → List D
  | [] => []
  | d :: ds => .tup [.int (k : Nat), d] :: enumFromD (k + 1) ds
@[simp] def enumD (ds : List D) : List D := enumFromD 0 ds
theorem enumFromD_get : ∀ (k : Nat) (ds : List D) (i : Nat), (enumFromD k ds)[i]? = (ds[i]?).map fun d => D.tup [.int ((k + i : Nat) : Int), d]
  | k, [], i => rfl
  | k, d :: ds, 0 => rfl
  | k, d :: ds, i + 1 => by
    show (enumFromD (k + 1) ds)[i]? = _
    rw [enumFromD_get (k + 1) ds i]
    rw [show k + 1 + i = k + (i + 1) by omega]
    rfl
def zipD : List D → List D → List D
  | a :: as, b :: bs => .tup [a, b] :: zipD as bs
  | _, _ => []
theorem zipD_get : ∀ (as bs : List D) (i : Nat), (zipD as bs)[i]? = (as[i]?).bind fun a => (bs[i]?).map fun b => D.tup [a, b]
  | [], bs, i => by simp [zipD]
  | a :: as, [], i => by
    show (([] : List D)[i]?) = _
    cases h : (a :: as)[i]? <;> simp
  | a :: as, b :: bs, 0 => rfl
  | a :: as, b :: bs, i + 1 => zipD_get as bs i
theorem tup2 {K : PySem.W.Frag} {G : Hp} {p : Addr} {a b : D} {v u : V} (h : G p = some (.tup [v, u])) (r1 : RD K G a v) (r2 : RD K G b u) : RD K G (.tup [a, b]) (.ref p) := .tup (.inl (.inl h)) (.cons r1 (.cons r2 .nil))
theorem walks_E {K : PySem.W.Frag} {J : It} {G0 : Hp} {ds : List D} (h : WalksP K J G0 ds) : Walks K (ItE J) G0 (enumD ds) := fun i G H s1 s2 => by
  obtain ⟨h1, h2⟩ := h i G H s1 s2
  unfold enumD
  rw [enumFromD_get]
  cases hd : ds[i]? with
  | none => exact ⟨fun d e => (by cases e), fun _ => h2 hd⟩
  | some d =>
    obtain ⟨h3, h4⟩ := h1 d hd
    refine ⟨fun d' e => ?_, fun e => (by cases e)⟩
    cases (Option.some.inj e)
    refine ⟨h3, fun x H' ⟨T, y, H1, q1, q2, q3, q4⟩ => ?_⟩
    obtain ⟨rfl, r⟩ := h4 y H1 q1
    subst q2
    refine .inr (.inl ⟨T, _, q3, q4, fun G1 s3 g => tup2 g ?_ (r.mono s3)⟩)
    rw [Nat.zero_add]
    exact .int _
theorem walks_Z {K : PySem.W.Frag} {J1 J2 : It} {G0 : Hp} {as bs : List D} (ha : WalksP K J1 G0 as) (hb : WalksP K J2 G0 bs) : Walks K (ItZ J1 J2) G0 (zipD as bs) := fun i G H s1 s2 => by
  obtain ⟨a1, a2⟩ := ha i G H s1 s2
  obtain ⟨b1, b2⟩ := hb i G H s1 s2
  rw [zipD_get]
  cases hd : as[i]? with
  | none => exact ⟨fun d e => (by cases e), fun _ => .inl (a2 hd)⟩
  | some a =>
    obtain ⟨a3, a4⟩ := a1 a hd
    cases hd2 : bs[i]? with
    | none => exact ⟨fun d e => (by cases e), fun _ => .inr ⟨a3, b2 hd2⟩⟩
    | some b =>
      obtain ⟨b3, b4⟩ := b1 b hd2
      refine ⟨fun d' e => ?_, fun e => (by cases e)⟩
      cases (Option.some.inj e)
      refine ⟨⟨a3, b3⟩, fun v H' ⟨T, x, y, q1, q2, q3, q4, q5⟩ => ?_⟩
      subst q1
      exact .inr (.inl ⟨T, _, q2, q3, fun G1 s3 g => tup2 g ((a4 _ _ q4).2.mono s3) ((b4 _ _ q5).2.mono s3)⟩)
theorem walks_EZ {K : PySem.W.Frag} {J1 J2 : It} {G0 : Hp} {as bs : List D} (ha : WalksP K J1 G0 as) (hb : WalksP K J2 G0 bs) : Walks K (ItE (ItZ J1 J2)) G0 (enumD (zipD as bs)) := fun i G H s1 s2 => by
  obtain ⟨a1, a2⟩ := ha i G H s1 s2
  obtain ⟨b1, b2⟩ := hb i G H s1 s2
  unfold enumD
  rw [enumFromD_get, zipD_get]
  cases hd : as[i]? with
  | none => exact ⟨fun d e => (by cases e), fun _ => .inl (a2 hd)⟩
  | some a =>
    obtain ⟨a3, a4⟩ := a1 a hd
    cases hd2 : bs[i]? with
    | none => exact ⟨fun d e => (by cases e), fun _ => .inr ⟨a3, b2 hd2⟩⟩
    | some b =>
      obtain ⟨b3, b4⟩ := b1 b hd2
      refine ⟨fun d' e => ?_, fun e => (by cases e)⟩
      cases (Option.some.inj e)
      refine ⟨⟨a3, b3⟩, fun v H' ⟨T2, z, H1, ⟨T, x, y, q1, q2, q3, q4, q5⟩, p2, p3, p4⟩ => ?_⟩
      subst p2 q1 q3
      refine .inr (.inr ⟨T, _, T2, _, q2, p3, p4, fun G1 s3 g g2 => tup2 g2 ?_ (tup2 g ((a4 _ _ q4).2.mono s3) ((b4 _ _ q5).2.mono s3))⟩)
      rw [Nat.zero_add]
      exact .int _
section
variable {X : Cx} {W : WX} {pin : List Nat} {e e2 : Expr} {p p2 pos pos2 tpos : Pos} {elts : List Expr} {kk : Nat} {k : Gn (List D)}
@[simp] def gEnum (k : Gn (List D)) : Gn (List D) := fun env => (k env).bind fun ds e => match ds with
  | [d] => .lift (d.src.map enumD) e
  | _ => .bad
@[simp] def gZip (k : Gn (List D)) : Gn (List D) := fun env => (k env).bind fun ds e => match ds with
  | [a, b] => .lift (a.src.bind fun as => b.src.map fun bs => zipD as bs) e
  | _ => .bad
@[simp] def gEnZ (k : Gn (List D)) : Gn (List D) := fun env => (k env).bind fun ds e => match ds with
  | [a, b] => .lift (a.src.bind fun as => b.src.map fun bs => enumD (zipD as bs)) e
  | _ => .bad
theorem di_enum (hg : Gl X "enumerate") (hm : X.mg "enumerate" = none) (ha : DA X W [e] k) (hs : starEach [e] X.env = [(false, eval e X.env)] := by rfl) :
    DI X W (.Tuple elts kk tpos) (.Call (.Name "enumerate" p) [e] [] pos) (gEnum k) := PI.imp (pi_enumG hg hm ha hs) fun σ H Rr ⟨G, Fm, env, w, q⟩ => seqDs w q fun ds e G1 H1 vs s w1 r1 q1 => by
  split at q1
  · rename_i d
    obtain ⟨l, hl, q2⟩ := q1.lift
    obtain ⟨l0, h0, rfl⟩ := Option.map_eq_some_iff.mp hl
    cases r1 with
    | cons r rr =>
      cases rr
      obtain ⟨J, sv, wk⟩ := r.src w1.gh h0
      exact ⟨_, J, rfl, sv, q2 G1 H1 (Same.refl G1) _ w1 (walks_E wk)⟩
  · exact q1.elim
theorem di_zip (hg : Gl X "zip") (hm : X.mg "zip" = none) (ha : DA X W [e, e2] k)
    (hs : starEach [e, e2] X.env = (false, eval e X.env) :: starEach [e2] X.env := by rfl) (hpl : (backTo pos (starEach [e2] X.env)).any (·.1) = false := by rfl) :
    DI X W (.Tuple elts kk tpos) (.Call (.Name "zip" p) [e, e2] [] pos) (gZip k) := PI.imp (pi_zipG hg hm ha hs hpl) fun σ H Rr ⟨G, Fm, env, w, q⟩ => seqDs w q fun ds e G1 H1 vs s w1 r1 q1 => by
  split at q1
  · rename_i a b
    obtain ⟨l, hl, q2⟩ := q1.lift
    obtain ⟨la, h0, hl⟩ := bind_some hl
    obtain ⟨lb, h1, rfl⟩ := Option.map_eq_some_iff.mp hl
    cases r1 with
    | cons r rr =>
      cases rr with
      | cons r' rr =>
        cases rr
        obtain ⟨J1, sv1, wk1⟩ := r.src w1.gh h0
        obtain ⟨J2, sv2, wk2⟩ := r'.src w1.gh h1
        exact ⟨_, _, J1, J2, rfl, sv1, sv2, q2 G1 H1 (Same.refl G1) _ w1 (walks_Z wk1 wk2)⟩
  · exact q1.elim
theorem di_enZ (hg : Gl X "zip") (hm : X.mg "zip" = none) (hg2 : Gl X "enumerate") (hm2 : X.mg "enumerate" = none) (ha : DA X W [e, e2] k)
    (hs : starEach [e, e2] X.env = (false, eval e X.env) :: starEach [e2] X.env := by rfl) (hpl : (backTo pos (starEach [e2] X.env)).any (·.1) = false := by rfl)
    (hs2 : starEach [.Call (.Name "zip" p) [e, e2] [] pos] X.env = [(false, eval (.Call (.Name "zip" p) [e, e2] [] pos) X.env)] := by rfl) :
    DI X W (.Tuple elts kk tpos) (.Call (.Name "enumerate" p2) [.Call (.Name "zip" p) [e, e2] [] pos] [] pos2) (gEnZ k) := PI.imp (pi_enumZ hg hm hg2 hm2 ha hs hpl hs2) fun σ H Rr ⟨G, Fm, env, w, q⟩ => seqDs w q fun ds e G1 H1 vs s w1 r1 q1 => by
  split at q1
  · rename_i a b
    obtain ⟨l, hl, q2⟩ := q1.lift
    obtain ⟨la, h0, hl⟩ := bind_some hl
    obtain ⟨lb, h1, rfl⟩ := Option.map_eq_some_iff.mp hl
    cases r1 with
    | cons r rr =>
      cases rr with
      | cons r' rr =>
        cases rr
        obtain ⟨J1, sv1, wk1⟩ := r.src w1.gh h0
        obtain ⟨J2, sv2, wk2⟩ := r'.src w1.gh h1
        exact ⟨_, _, J1, J2, rfl, sv1, sv2, q2 G1 H1 (Same.refl G1) _ w1 (walks_EZ wk1 wk2)⟩
  · exact q1.elim
/-- a, b = x, y, data to two locals -/
@[simp] def gPar (i j : Nat) (k : Gn (List D)) : Gs := fun env => .of (k env) fun ds e => match ds with
  | [a, b] => .nx ((e.set i (some (.val a))).set j (some (.val b)))
  | _ => .bad
theorem ds_par {i j : Nat} {x y : Str} {a b : Expr} {px py pt : Pos} {kt k2 pt2} (hc : X.calm = true) (hN : X.N.Nodup) (hi : X.N[i]? = some x) (hj : X.N[j]? = some y) (hij : i ≠ j) (hpi : i ∉ pin) (hpj : j ∉ pin)
    (hx : X.env.scope.names.lookup x = some .local) (hy : X.env.scope.names.lookup y = some .local) (ha : DA X W [a, b] k)
    (hw : swappedStores [.Tuple [.Name x px, .Name y py] kt pt] (.Tuple [a, b] k2 pt2) X.env = pure (some [x, y]))
    (hs : swapsWithSole [.Tuple [.Name x px, .Name y py] kt pt] (.Tuple [a, b] k2 pt2) pos.line X.env = pure false := by rfl) :
    DS X W pin (.Assign [.Tuple [.Name x px, .Name y py] kt pt] (.Tuple [a, b] k2 pt2) pos) (gPar i j k) := PS.impL (ps_par hc hN hi hj hij hx hy ha hw hs) fun D σ H hl ⟨G, Fm, env, w, q⟩ => by
  have q := q.of
  refine ⟨G, Fm, env, w, q.imp fun ds e G1 H1 s1 q1 vs w1 r1 => ?_⟩
  split at q1
  · rename_i a b
    cases r1 with
    | cons r rr =>
      cases rr with
      | cons r' rr =>
        cases rr
        refine ⟨_, _, rfl, ?_⟩
        have li : i < e.length := by rw [← w1.len, hl]; exact (List.getElem?_eq_some_iff.mp hi).1
        have lj : j < e.length := by rw [← w1.len, hl]; exact (List.getElem?_eq_some_iff.mp hj).1
        exact q1 G1 H1 _ (Same.refl G1) ((Pn.set hpi).trans (Pn.set hpj)) ((w1.set r li).set r' (by rw [List.length_set]; exact lj))
  · exact q1.elim
/-- t + u, tuples -/
@[simp] def gCatT (a b : Gn Vl) : Gn D := fun env => (a env).bind fun x e1 => (b e1).bind fun y e2 => .lift (((x.get e2).bind T.seqT).bind fun ds => ((y.get e2).bind T.seqT).bind fun es => if ds.length + es.length ≤ sizeLine then some (.tup (ds ++ es)) else none) e2
theorem tup_back {K : PySem.W.Frag} {G H : Hp} {t : T} {v : V} {f : List Addr} {ds : List D} (r : RT K G H t v f) (e : t.seqT = some ds) : RD K G (.tup ds) v := by
  cases r with
  | val r =>
    cases r with
    | tup h r => cases (Option.some.inj e); exact .tup h r
    | _ => cases e
  | _ => cases e
theorem de_catT {a b : Expr} {va vb : Gn Vl} (ha : VE X W a va) (hb : VE X W b vb) : DE X W (.BinOp a .Add b pos) (gCatT va vb) := PE.imp (pe_op op_catA ha hb) fun σ H Q ⟨G, Fm, env, w, q⟩ =>
  seqV w q fun x e1 G1 H1 v s1 w1 r1 q1 => seqV w1 q1 fun y e2 G2 H2 u s2 w2 r2 q2 => by
    obtain ⟨z, hz, q3⟩ := q2.lift
    obtain ⟨ds, hd, hz⟩ := bind_some hz
    obtain ⟨es, he, hz⟩ := bind_some hz
    obtain ⟨t, ht, hd⟩ := bind_some hd
    obtain ⟨t', ht', he⟩ := bind_some he
    split at hz
    · rename_i hsz
      cases (Option.some.inj hz)
      obtain ⟨fa, ra⟩ := (r1.mono s2).tree w2 ht
      obtain ⟨fb, rb⟩ := r2.tree w2 ht'
      obtain ⟨p1, vs, rfl, h1, h2⟩ := ra.seqT w2.gh hd
      obtain ⟨p2, us, rfl, h3, h4⟩ := rb.seqT w2.gh he
      refine ⟨p1, p2, vs, us, rfl, rfl, h1, h3, by rw [← h2.length, ← h4.length]; exact hsz, fun z => ?_, fun _ z => ?_, fun _ _ p hp => ?_⟩
      · subst z
        cases h2
        rw [List.nil_append] at q3
        exact q3 G2 H2 (Same.refl G2) _ w2 (tup_back rb he)
      · subst z
        cases h4
        rw [List.append_nil] at q3
        exact q3 G2 H2 (Same.refl G2) _ w2 (tup_back ra hd)
      · obtain ⟨w4, s4, r4⟩ := w2.tup hp (h2.append h4)
        exact q3 _ _ s4 _ w4 r4
    · cases hz
end
end DL


/-! D-layer, part q: plain lemmas for the mirrors. -/
namespace DL
open PySem PySem.Spec PyProof.Rows L2
variable [Tabs]
/-! ### places and slices -/
@[simp] theorem cutD_to {α : Type} (ds : List α) (p : Nat) : DL.cutD ds none (some (p : Int)) = ds.take p := by
  unfold DL.cutD
  rw [HT.sIx_none, HT.sIx_nat]
  simp
@[simp] theorem cutD_from {α : Type} (ds : List α) (p : Nat) : DL.cutD ds (some (p : Int)) none = ds.drop p := by
  unfold DL.cutD
  rw [HT.sIx_none, HT.sIx_nat]
  apply List.ext_getElem?
  intro i
  rw [List.getElem?_take, List.getElem?_drop, List.getElem?_drop]
  by_cases h : p ≤ ds.length
  · rw [Nat.min_eq_left h]
    split
    · rfl
    · rw [List.getElem?_eq_none (by omega)]
  · rw [Nat.min_eq_right (by omega)]
    rw [if_neg (by omega), List.getElem?_eq_none (by omega)]
@[simp] theorem cutD_from1 {α : Type} (ds : List α) : DL.cutD ds (some 1) none = ds.drop 1 := cutD_from ds 1
@[simp] theorem cutD_to1 {α : Type} (ds : List α) : DL.cutD ds none (some 1) = ds.take 1 := cutD_to ds 1
theorem cutD_fromI {α : Type} (ds : List α) (p : Int) (a : Nat) (h : p = (a : Int)) : DL.cutD ds (some p) none = ds.drop a := by
  rw [h]
  exact cutD_from ds a
theorem cutD_toI {α : Type} (ds : List α) (p : Int) (a : Nat) (h : p = (a : Int)) : DL.cutD ds none (some p) = ds.take a := by
  rw [h]
  exact cutD_to ds a
@[simp] theorem atI_nat {α : Type} (xs : List α) (k : Nat) : L2.atI xs (k : Int) = xs[k]? := by
  unfold L2.atI L2.ixN
  rw [if_pos (by omega)]
  by_cases h : k < xs.length
  · rw [if_pos (by omega)]
    simp
  · rw [if_neg (by omega), List.getElem?_eq_none (by omega)]
    rfl
@[simp] theorem atI_0 {α : Type} (xs : List α) : L2.atI xs 0 = xs[0]? := atI_nat xs 0
@[simp] theorem atI_1 {α : Type} (xs : List α) : L2.atI xs 1 = xs[1]? := atI_nat xs 1
@[simp] theorem atI_2 {α : Type} (xs : List α) : L2.atI xs 2 = xs[2]? := atI_nat xs 2
@[simp] theorem atI_3 {α : Type} (xs : List α) : L2.atI xs 3 = xs[3]? := atI_nat xs 3
@[simp] theorem atI_4 {α : Type} (xs : List α) : L2.atI xs 4 = xs[4]? := atI_nat xs 4
theorem ixN_nat {n k : Nat} (h : k < n) : L2.ixN n (k : Int) = some k := by
  unfold L2.ixN
  rw [if_pos (by omega), if_pos (by omega)]
  simp
theorem len1 {α : Type} (t : List α) : ¬ ((t.length : Int) + 1 = 0) := by omega
theorem sz1000 : 1000 ≤ sizeLine := by rw [sizeLine_eq]; omega
theorem inR_small {n : Nat} (h : n ≤ 1000000) : DL.inR (n : Int) = true := by
  have h1 : (-(2 ^ 62) : Int) ≤ (n : Int) := by omega
  have h2 : (n : Int) < 2 ^ 62 := by omega
  unfold DL.inR
  rw [decide_eq_true h1, decide_eq_true h2]
  rfl
/-! ### steps -/
theorem gSeq_nx {f g : Gs} {env e : DL.Env} (h : f env = .nx e) : gSeq f g env = g e := by simp [h]
theorem gRng1_ok {k : Gn (List D)} {env e : DL.Env} {j : Int} (h : k env = .ok [.int j] e) (hr : DL.inR j = true) : gRng1 k env = .ok (rangeD 0 j.toNat) e := by
  unfold gRng1
  rw [h]
  show (if DL.inR j = true then R.ok (rangeD 0 j.toNat) e else .bad) = _
  rw [if_pos hr]
theorem gRng2_ok {k : Gn (List D)} {env e : DL.Env} {i j : Int} (h : k env = .ok [.int i, .int j] e) (hi : DL.inR i = true) (hr : DL.inR j = true) : gRng2 k env = .ok (rangeD i (j - i).toNat) e := by
  unfold gRng2
  rw [h]
  show (if (DL.inR i && DL.inR j) = true then R.ok (rangeD i (j - i).toNat) e else .bad) = _
  rw [if_pos (by rw [hi, hr]; rfl)]
theorem gRet_ok {g : Gn T} {env e : DL.Env} {t : T} (h : g env = .ok t e) : gRet g env = .rt t e := by
  unfold gRet
  rw [h]
  rfl
theorem gOd_ok {g : Gn D} {env e : DL.Env} {d : D} (h : g env = .ok d e) : gOd g env = .ok (.val d) e := by
  unfold gOd
  rw [h]
  rfl
theorem gAndV_tt {g k : Gn D} {env e : DL.Env} (h : g env = .ok (.bl true) e) : gAndV g k env = k e := by
  unfold gAndV
  rw [h]
  rfl
theorem gIf_no {c : Gn Bool} {a : Gs} {env e : DL.Env} (h : c env = .ok false e) : gIfS c a gNx env = .nx e := by
  unfold gIfS
  rw [h]
  rfl
theorem gIf_ff {c : Gn Bool} {a b : Gs} {env e : DL.Env} (h : c env = .ok false e) : gIfS c a b env = b e := by
  unfold gIfS
  rw [h]
  rfl
theorem gIf_tt {c : Gn Bool} {a b : Gs} {env e : DL.Env} (h : c env = .ok true e) : gIfS c a b env = a e := by
  unfold gIfS
  rw [h]
  rfl
theorem gSet_ok {i : Nat} {g : Gn D} {env e : DL.Env} {d : D} (h : g env = .ok d e) : gSet i g env = .nx (e.set i (some (.val d))) := by
  unfold gSet
  rw [h]
  rfl
theorem gSetT_ok {i : Nat} {g : Gn T} {env e : DL.Env} {t : T} (h : g env = .ok t e) : gSetT i g env = .nx (e.set i (some t)) := by
  unfold gSetT
  rw [h]
  rfl
theorem gFor_ok {gi : Gn (List D)} {f : Tg} {b : Gs} {env e e' : DL.Env} {ds : List D} (h : gi env = .ok ds e) (h2 : forD f b ds e = .nx e') : gFor gi f b env = .nx e' := by
  unfold gFor
  rw [h]
  exact h2
theorem forD_inv {f : Tg} {b : Gs} {P : DL.Env → Prop} : ∀ (ds : List D) (e : DL.Env), (∀ d ∈ ds, ∀ e, P e → ∃ e1 e2, f d e = some e1 ∧ b e1 = .nx e2 ∧ P e2) → P e → ∃ e', P e' ∧ forD f b ds e = .nx e'
  | [], e, _, p => ⟨e, p, rfl⟩
  | d :: ds, e, h, p => by
    obtain ⟨e1, e2, h1, h2, h3⟩ := h d (by simp) e p
    obtain ⟨e', h4, h5⟩ := forD_inv ds e2 (fun d hd => h d (List.mem_cons_of_mem _ hd)) h3
    refine ⟨e', h4, ?_⟩
    simp only [forD, h1, h2]
    exact h5
/-- a list comprehension without a test, by what each turn makes -/
theorem lcD_inv {f : Tg} {g : Gn D} {vs : List Nat} {P : DL.Env → Prop} {R : D → Prop} : ∀ (ds acc : List D) (e : DL.Env), (∀ d ∈ ds, ∀ e, P e → ∃ e1 y e2, f d e = some e1 ∧ g e1 = .ok y e2 ∧ R y ∧ P (wipeE e2 vs)) → P e → ∃ l e', P e' ∧ (∀ y ∈ l, R y) ∧ l.length = ds.length ∧ lcD f gYes g vs ds acc e = .ok (acc ++ l) e'
  | [], acc, e, _, p => ⟨[], e, p, fun _ h => (by cases h), rfl, by simp [lcD]⟩
  | d :: ds, acc, e, h, p => by
    obtain ⟨e1, y, e2, h1, h2, h3, h4⟩ := h d (by simp) e p
    obtain ⟨l, e', k1, k2, k3, k4⟩ := lcD_inv ds (acc ++ [y]) _ (fun d hd => h d (List.mem_cons_of_mem _ hd)) h4
    refine ⟨y :: l, e', k1, fun z hz => (List.mem_cons.mp hz).elim (fun e => by rw [e]; exact h3) (k2 z), by simp [k3], ?_⟩
    simp only [lcD, h1, gYes, h2, k4]
    simp
theorem gLc_ok {gi : Gn (List D)} {f : Tg} {tt : Gn Bool} {g : Gn D} {vs : List Nat} {env e e' : DL.Env} {ds l : List D} (h1 : gi env = .ok ds e) (hz : ds.length ≤ sizeLine) (h2 : lcD f tt g vs ds [] (wipeE e vs) = .ok l e') : gLc gi f tt g vs env = .ok (.lst l) (DL.rest e' e vs) := by
  show ((gi env).bind fun ds e => if ds.length ≤ sizeLine then (match lcD f tt g vs ds [] (wipeE e vs) with | .ok l e' => R.ok (T.lst l) (DL.rest e' e vs) | _ => .bad) else .bad) = _
  rw [h1]
  simp only [R.bind_ok, hz, if_true, h2]
theorem gFz_ok {g : Gn T} {env e : DL.Env} {t : T} (h : g env = .ok t e) : gFz g env = .ok t.frz e := by
  unfold gFz
  rw [h]
  rfl
theorem gVd_ok {g : Gn D} {env e : DL.Env} {d : D} (h : g env = .ok d e) : gVd g env = .ok (.d d) e := by
  unfold gVd
  rw [h]
  rfl
theorem gConsV_ok {g : Gn Vl} {k : Gn (List Vl)} {env e e2 : DL.Env} {d : Vl} {ds : List Vl} (h : g env = .ok d e) (h2 : k e = .ok ds e2) : gConsV g k env = .ok (d :: ds) e2 := by
  unfold gConsV
  rw [h]
  show (k e).map (d :: ·) = _
  rw [h2]
  rfl
theorem gConsA_ok {g : Gn D} {k : Gn (List D)} {env e e2 : DL.Env} {d : D} {ds : List D} (h : g env = .ok d e) (h2 : k e = .ok ds e2) : gConsA g k env = .ok (d :: ds) e2 := by
  unfold gConsA
  rw [h]
  show (k e).map (d :: ·) = _
  rw [h2]
  rfl
theorem gCallD_ok {f : List T → Option D} {k : Gn (List Vl)} {env e : DL.Env} {ls : List Vl} {ts : List T} {d : D} (h : k env = .ok ls e) (h2 : gets e ls = some ts) (h3 : f ts = some d) : gCallD f k env = .ok d e := by
  unfold gCallD
  rw [h]
  show R.lift ((gets e ls).bind f) e = _
  rw [h2]
  show R.lift (f ts) e = _
  rw [h3]
  rfl
theorem gBin_ok {f : D → D → Option D} {a b : Gn D} {env e e2 : DL.Env} {x y d : D} (h : a env = .ok x e) (h2 : b e = .ok y e2) (h5 : f x y = some d) : gBin f a b env = .ok d e2 := by
  unfold gBin
  rw [h]
  show ((b e).bind fun y e2 => R.lift (f x y) e2) = _
  rw [h2]
  show R.lift (f x y) e2 = _
  rw [h5]
  rfl
theorem gDB_ok {g : Gn D} {env e : DL.Env} {b : Bool} (h : g env = .ok (.bl b) e) : gDB g env = .ok b e := by
  unfold gDB
  rw [h]
  rfl
theorem gNot_ok {g : Gn Bool} {env e : DL.Env} {b : Bool} (h : g env = .ok b e) : gNot g env = .ok (!b) e := by
  unfold gNot
  rw [h]
  rfl
theorem gVar_ok {i : Nat} {env : DL.Env} {d : D} (h : env[i]? = some (some (.val d))) : gVar i env = .ok d env := by
  unfold gVar
  rw [h]
theorem gLook_ok {f : T → T → Option D} {a b : Gn Vl} {env e e2 : DL.Env} {x y : Vl} {t u : T} {d : D} (h : a env = .ok x e) (h2 : b e = .ok y e2) (h3 : x.get e2 = some t) (h4 : y.get e2 = some u) (h5 : f t u = some d) : gLook f a b env = .ok d e2 := by
  unfold gLook
  rw [h]
  show ((b e).bind fun y e2 => R.lift ((x.get e2).bind fun t => (y.get e2).bind fun u => f t u) e2) = _
  rw [h2]
  show R.lift ((x.get e2).bind fun t => (y.get e2).bind fun u => f t u) e2 = _
  rw [h3, h4]
  show R.lift (f t u) e2 = _
  rw [h5]
  rfl
/-- a pure comprehension: each item's image, the tests' answers -/
theorem lcD_map {f : Tg} {tt : Gn Bool} {g : Gn D} {vs : List Nat} {α : Type} (en : α → D) (keep : α → Bool) (im : α → D) {e : DL.Env} : ∀ (xs : List α) (acc : List D),
    (∀ x ∈ xs, ∃ e1 e2, f (en x) e = some e1 ∧ tt e1 = .ok (keep x) e2 ∧ (keep x = false → wipeE e2 vs = e) ∧ (keep x = true → ∃ e3, g e2 = .ok (im x) e3 ∧ wipeE e3 vs = e)) →
    lcD f tt g vs (xs.map en) acc e = .ok (acc ++ ((xs.filter keep).map im)) e
  | [], acc, _ => by simp [lcD]
  | x :: xs, acc, h => by
    obtain ⟨e1, e2, h1, h2, h3, h4⟩ := h x (by simp)
    rw [List.map_cons, lcD]
    simp only [h1, h2]
    cases hk : keep x with
    | false =>
      simp only [h3 hk]
      rw [lcD_map en keep im xs acc fun y hy => h y (List.mem_cons_of_mem _ hy)]
      simp [hk]
    | true =>
      obtain ⟨e3, h5, h6⟩ := h4 hk
      simp only [h5, h6]
      rw [lcD_map en keep im xs (acc ++ [im x]) fun y hy => h y (List.mem_cons_of_mem _ hy)]
      simp [hk]

/-! ### equality of plain data -/
mutual
def D.pu : D → Bool
  | .non => true
  | .int _ => true
  | .str x => PySem.PyData.strOk x
  | .lst ds => pus ds
  | .tup ds => pus ds
  | _ => false
def pus : List D → Bool
  | [] => true
  | d :: ds => D.pu d && pus ds
end
mutual
def D.dp : D → Nat
  | .lst ds => dps ds + 1
  | .tup ds => dps ds + 1
  | _ => 0
def dps : List D → Nat
  | [] => 0
  | d :: ds => max (D.dp d) (dps ds)
end
mutual
theorem py_pu : ∀ d : D, d.pu = true → ∃ p, d.py = some p ∧ p.canLay0 = true ∧ p.depth = d.dp
  | .non, _ => ⟨.none, rfl, rfl, rfl⟩
  | .int i, _ => ⟨.int i, rfl, rfl, rfl⟩
  | .str x, h => ⟨.str x, rfl, h, rfl⟩
  | .lst ds, h => by
    obtain ⟨ps, h1, h2, h3⟩ := pys_pu ds h
    exact ⟨.list ps, by rw [D.py, h1]; rfl, h2, by rw [PyData.depth, D.dp, h3]⟩
  | .tup ds, h => by
    obtain ⟨ps, h1, h2, h3⟩ := pys_pu ds h
    exact ⟨.tuple ps, by rw [D.py, h1]; rfl, h2, by rw [PyData.depth, D.dp, h3]⟩
  | .bl _, h => by simp [D.pu] at h
  | .ref _, h => by simp [D.pu] at h
  | .ro _, h => by simp [D.pu] at h
  | .dK _, h => by simp [D.pu] at h
  | .dT _, h => by simp [D.pu] at h
  | .obj _ _, h => by simp [D.pu] at h
theorem pys_pu : ∀ ds : List D, pus ds = true → ∃ ps, pys ds = some ps ∧ PyData.canLayAll0 ps = true ∧ PyData.depthAll ps = dps ds
  | [], _ => ⟨[], rfl, rfl, rfl⟩
  | d :: ds, h => by
    rw [pus, Bool.and_eq_true] at h
    obtain ⟨p, h1, h2, h3⟩ := py_pu d h.1
    obtain ⟨ps, h4, h5, h6⟩ := pys_pu ds h.2
    exact ⟨p :: ps, by rw [pys, h1, h4]; rfl, by rw [PyData.canLayAll0, h2, h5]; rfl, by rw [PyData.depthAll, dps, h3, h6]⟩
end
mutual
theorem eqv_pu : ∀ (d d' : D) (p p' : PyData), d.pu = true → d'.pu = true → d.py = some p → d'.py = some p' → PyData.eqv p p' = true → d = d'
  | .non, d', p, p', h, h', e, e', q => by
    cases d' <;> simp [D.pu] at h' <;> simp [D.py] at e e' <;> (try (obtain ⟨a, b, c⟩ := e'; subst c)) <;> (try subst e) <;> (try subst e') <;> simp [PyData.eqv] at q ⊢
  | .int i, d', p, p', h, h', e, e', q => by
    cases d' <;> simp [D.pu] at h' <;> simp [D.py] at e e' <;> (try (obtain ⟨a, b, c⟩ := e'; subst c)) <;> (try subst e) <;> (try subst e') <;> simp [PyData.eqv] at q ⊢
    exact q
  | .str x, d', p, p', h, h', e, e', q => by
    cases d' <;> simp [D.pu] at h' <;> simp [D.py] at e e' <;> (try (obtain ⟨a, b, c⟩ := e'; subst c)) <;> (try subst e) <;> (try subst e') <;> simp [PyData.eqv] at q ⊢
    exact q
  | .lst ds, d', p, p', h, h', e, e', q => by
    obtain ⟨ps, h1, h2, h3⟩ := pys_pu ds h
    have ep : p = .list ps := by rw [D.py, h1] at e; cases e; rfl
    subst ep
    cases d' <;> simp [D.pu] at h' <;> simp [D.py] at e e' <;> (try (obtain ⟨a, b, c⟩ := e'; subst c)) <;> (try subst e') <;> simp [PyData.eqv] at q ⊢
    exact eqvAll_pu _ _ _ _ h h' h1 (by assumption) q
  | .tup ds, d', p, p', h, h', e, e', q => by
    obtain ⟨ps, h1, h2, h3⟩ := pys_pu ds h
    have ep : p = .tuple ps := by rw [D.py, h1] at e; cases e; rfl
    subst ep
    cases d' <;> simp [D.pu] at h' <;> simp [D.py] at e e' <;> (try (obtain ⟨a, b, c⟩ := e'; subst c)) <;> (try subst e') <;> simp [PyData.eqv] at q ⊢
    exact eqvAll_pu _ _ _ _ h h' h1 (by assumption) q
  | .bl _, _, _, _, h, _, _, _, _ => by simp [D.pu] at h
  | .ref _, _, _, _, h, _, _, _, _ => by simp [D.pu] at h
  | .ro _, _, _, _, h, _, _, _, _ => by simp [D.pu] at h
  | .dK _, _, _, _, h, _, _, _, _ => by simp [D.pu] at h
  | .dT _, _, _, _, h, _, _, _, _ => by simp [D.pu] at h
  | .obj _ _, _, _, _, h, _, _, _, _ => by simp [D.pu] at h
theorem eqvAll_pu : ∀ (ds ds' : List D) (ps ps' : List PyData), pus ds = true → pus ds' = true → pys ds = some ps → pys ds' = some ps' → PyData.eqvAll ps ps' = true → ds = ds'
  | [], [], _, _, _, _, _, _, _ => rfl
  | [], d' :: ds', ps, ps', h, h', e, e', q => by
    cases (Option.some.inj e)
    obtain ⟨p, h1, e'⟩ := bind_some (show (D.py d').bind _ = some ps' from e')
    obtain ⟨ps, h2, rfl⟩ := Option.map_eq_some_iff.mp e'
    simp [PyData.eqvAll] at q
  | d :: ds, [], ps, ps', h, h', e, e', q => by
    cases (Option.some.inj e')
    obtain ⟨p, h1, e⟩ := bind_some (show (D.py d).bind _ = some ps from e)
    obtain ⟨ps, h2, rfl⟩ := Option.map_eq_some_iff.mp e
    simp [PyData.eqvAll] at q
  | d :: ds, d' :: ds', ps, ps', h, h', e, e', q => by
    rw [pus, Bool.and_eq_true] at h h'
    obtain ⟨p, h1, e⟩ := bind_some (show (D.py d).bind _ = some ps from e)
    obtain ⟨ps, h2, rfl⟩ := Option.map_eq_some_iff.mp e
    obtain ⟨p', h3, e'⟩ := bind_some (show (D.py d').bind _ = some ps' from e')
    obtain ⟨ps', h4, rfl⟩ := Option.map_eq_some_iff.mp e'
    rw [PyData.eqvAll, Bool.and_eq_true] at q
    rw [eqv_pu d d' p p' h.1 h'.1 h1 h3 q.1, eqvAll_pu ds ds' ps ps' h.2 h'.2 h2 h4 q.2]
end
noncomputable def eqD (a b : D) : Bool := @decide (a = b) (Classical.propDecidable _)
theorem eqD_iff {a b : D} : eqD a b = true ↔ a = b := by unfold eqD; simp
theorem tEq_pu {a b : D} (ha : a.pu = true) (hb : b.pu = true) (da : a.dp ≤ 64) (db : b.dp ≤ 64) : tEq (.val a) (.val b) = some (eqD a b) := by
  obtain ⟨p, h1, h2, h3⟩ := py_pu a ha
  obtain ⟨q, h4, h5, h6⟩ := py_pu b hb
  have s1 : SeqAt.shaped p = true := by unfold SeqAt.shaped; rw [h2, h3]; simpa using da
  have s2 : SeqAt.shaped q = true := by unfold SeqAt.shaped; rw [h5, h6]; simpa using db
  simp only [tEq, T.py, h1, h4, Option.bind_some, pyEq, s1, s2, Bool.and_self, if_true]
  congr 1
  by_cases e : a = b
  · subst e
    rw [h1] at h4
    cases h4
    rw [eqD_iff.mpr rfl, SeqAt.eqv_refl _ h2]
  · have n1 : eqD a b = false := by
      cases hq : eqD a b with
      | false => rfl
      | true => exact absurd (eqD_iff.mp hq) e
    rw [n1]
    cases hq : PyData.eqv p q with
    | false => rfl
    | true => exact absurd (eqv_pu a b p q ha hb h1 h4 hq) e
theorem eqD_false {a b : D} : eqD a b = false ↔ ¬ a = b := by unfold eqD; simp
theorem map_inj {α β : Type} {f : α → β} (h : ∀ a b, f a = f b → a = b) : ∀ {xs ys : List α}, xs.map f = ys.map f → xs = ys
  | [], [], _ => rfl
  | [], _ :: _, e => by simp at e
  | _ :: _, [], e => by simp at e
  | x :: xs, y :: ys, e => by
    rw [List.map_cons, List.map_cons, List.cons.injEq] at e
    rw [h x y e.1, map_inj h e.2]
theorem ints_inj {xs ys : List Int} (h : xs.map D.int = ys.map D.int) : xs = ys := map_inj (fun a b e => by cases e; rfl) h
noncomputable def memD (a : D) (ds : List D) : Bool := @decide (a ∈ ds) (Classical.propDecidable _)
theorem memD_iff {a : D} {ds : List D} : memD a ds = true ↔ a ∈ ds := by unfold memD; simp
theorem memD_false {a : D} {ds : List D} : memD a ds = false ↔ ¬ a ∈ ds := by unfold memD; simp
theorem any_pu {a : D} {p : PyData} (ha : a.pu = true) (ea : a.py = some p) : ∀ {ds : List D} {ps : List PyData}, pus ds = true → pys ds = some ps → (ps.any fun z => PyData.eqv z p) = memD a ds
  | [], ps, _, e => by
    cases (Option.some.inj e)
    rw [memD_false.mpr (by simp)]
    rfl
  | d :: ds, ps, h, e => by
    rw [pus, Bool.and_eq_true] at h
    obtain ⟨q, h1, e⟩ := bind_some (show (D.py d).bind _ = some ps from e)
    obtain ⟨qs, h2, rfl⟩ := Option.map_eq_some_iff.mp e
    rw [List.any_cons, any_pu ha ea h.2 h2]
    obtain ⟨q', h3, h4, h5⟩ := py_pu d h.1
    rw [h1] at h3
    cases h3
    by_cases e1 : d = a
    · subst e1
      rw [ea] at h1
      cases h1
      have m : memD d (d :: ds) = true := memD_iff.mpr (List.mem_cons_self)
      rw [SeqAt.eqv_refl _ h4, m, Bool.true_or]
    · have n1 : PyData.eqv q p = false := by
        cases hq : PyData.eqv q p with
        | false => rfl
        | true => exact absurd (eqv_pu d a q p h.1 ha h1 ea hq) e1
      rw [n1, Bool.false_or]
      by_cases e2 : a ∈ ds
      · rw [memD_iff.mpr e2, memD_iff.mpr (List.mem_cons_of_mem _ e2)]
      · rw [memD_false.mpr e2, memD_false.mpr (by simp only [List.mem_cons, not_or]; exact ⟨fun z => e1 z.symm, e2⟩)]
theorem fInL_pu {neg : Bool} {a : D} {ds : List D} (ha : a.pu = true) (hd : pus ds = true) (da : a.dp ≤ 64) (dd : dps ds ≤ 63) : fInL neg (.val a) (.val (.lst ds)) = some (.bl (neg ^^ memD a ds)) := by
  obtain ⟨p, h1, h2, h3⟩ := py_pu a ha
  obtain ⟨ps, h4, h5, h6⟩ := pys_pu ds hd
  have s1 : SeqAt.shaped p = true := by unfold SeqAt.shaped; rw [h2, h3]; simpa using da
  have s2 : SeqAt.shaped (.list ps) = true := by
    unfold SeqAt.shaped
    rw [show (PyData.list ps).canLay0 = true from h5, PyData.depth, h6]
    simp; omega
  simp only [fInL, T.py, D.py, h1, h4, Option.map_some, Option.bind_some, s1, s2, Bool.and_self, if_true, any_pu ha h1 hd h4]
theorem pus_iff : ∀ {ds : List D}, pus ds = true ↔ ∀ d ∈ ds, d.pu = true
  | [] => by simp [pus]
  | d :: ds => by rw [pus, Bool.and_eq_true, pus_iff]; simp
theorem dps_le {n : Nat} : ∀ {ds : List D}, dps ds ≤ n ↔ ∀ d ∈ ds, d.dp ≤ n
  | [] => by simp [dps]
  | d :: ds => by
    rw [dps, Nat.max_le, dps_le]
    simp
@[simp] theorem pus_ints (ns : List Int) : pus (ns.map D.int) = true := pus_iff.mpr fun d h => by
  obtain ⟨n, _, rfl⟩ := List.mem_map.mp h; rfl
@[simp] theorem dps_ints (ns : List Int) : dps (ns.map D.int) = 0 := Nat.le_zero.mp (dps_le.mpr fun d h => by
  obtain ⟨n, _, rfl⟩ := List.mem_map.mp h; exact Nat.le_refl 0)

/-! ### the draws -/
def takeR (ns : List Int) (l : Int) : Int := match ns.getLast? with
  | none => 0
  | some x => x % l
theorem takeR_lt (ns : List Int) {l : Int} (h : 0 < l) : 0 ≤ takeR ns l ∧ takeR ns l < l := by
  unfold takeR
  split
  · omega
  · exact ⟨Int.emod_nonneg _ (by omega), Int.emod_lt_of_pos _ h⟩
def mTake : Gs :=
  (gSeq (gIfS (gDB (gLook fEq (gVd (gCallD fLen (gConsV (gOwn 0) gNilV))) (gVd (gC (.int 0)))))
  (gRet (gOd (gC (.int 0))))
  gNx)
  (gRet (gOd (gBin fMod (gCallD (f1 fInt) (gConsV (gVd (gMut 0 fPop gNilA)) gNilV)) (gVar 1)))))
def FTake : List T → FR := bodyF mTake [true, false] 2
theorem run_take (ns : List Int) (l : Int) (h : 0 < l) : FTake [.lst (ns.map D.int), .val (.int l)] = .ok (.val (.int (takeR ns l))) [some (.lst (ns.dropLast.map D.int)), none] := by
  rcases List.eq_nil_or_concat ns with rfl | ⟨xs, x, rfl⟩
  · simp [FTake, bodyF, mTake, takeR]
  · have n1 : ¬ ((xs.length : Int) + 1 = 0) := by omega
    simp [FTake, bodyF, mTake, takeR, n1, h]
@[simp] theorem cMulM (a j : Int) : cMul (a % 2147483647) j = true := cMul_l _ _ ⟨by have := Int.emod_nonneg a (show (2147483647 : Int) ≠ 0 by decide); omega, by have := Int.emod_lt_of_pos a (show (0 : Int) < 2147483647 by decide); omega⟩
def sD6 : Gs := gSet 6 (gBin fMod (gVar 5) (gCallD fLen (gConsV (gOwn 2) gNilV)))
def sD7 : Gs := gSet 7 (gLook fIx (gOwn 2) (gVd (gVar 6)))
def sD4 : Gs := gSet 4 (gBin fMod (gCallD (f1 fInt) (gConsV (gVd (gBin fAdd (gBin fAdd (gBin fAdd (gBin fMul (gVar 4) (gC (.int 48271))) (gBin fMul (gBin fMod (gCallD (f1 fInt) (gConsV (gVd (gVar 7)) gNilV)) (gC (.int 1000003))) (gC (.int 69621)))) (gBin fMul (gVar 5) (gC (.int 7919)))) (gC (.int 11)))) gNilV)) (gC (.int 2147483647)))
def sD8 : Gs := gSet 8 (gBin fMod (gCallD (f1 fInt) (gConsV (gVd (gBin fAdd (gBin fAdd (gBin fMul (gVar 4) (gVar 4)) (gBin fMul (gC (.int 31)) (gVar 4))) (gVar 5))) gNilV)) (gC (.int 1000003)))
def sDE : Gs := gIfS (gDB (gBin fGe (gVar 7) (gBin fPow (gC (.int 10)) (gC (.int 18)))))
  (gSeq (gExpr (gMut 3 fAppend (gConsA (gBin fMod (gCallD (f1 fInt) (gConsV (gVd (gVar 7)) gNilV)) (gC (.int 1000))) gNilA)))
  (gPut 2 (gBin fDiv (gVar 7) (gC (.int 1000))) (gVar 6)))
  (gExpr (gMut 3 fAppend (gConsA (gBin fMod (gCallD (f1 fInt) (gConsV (gVd (gVar 8)) gNilV)) (gC (.int 1000))) gNilA)))
def bodyDraws : Gs := gSeq sD6 (gSeq sD7 (gSeq sD4 (gSeq sD8 sDE)))
theorem step4 (o0 o1 o2 o3 o6 o8 : Option T) (mixed k cell : Int) : ∃ m : Int, (-(2 ^ 64) < m ∧ m < 2 ^ 64) ∧ sD4 [o0, o1, o2, o3, some (.val (.int mixed)), some (.val (.int k)), o6, some (.val (.int cell)), o8] = .nx [o0, o1, o2, o3, some (.val (.int m)), some (.val (.int k)), o6, some (.val (.int cell)), o8] := by
  have c1 : cMul mixed 48271 = true := cMul_r _ _ (by decide)
  have c2 : cMul (cell % 1000003) 69621 = true := cMul_r _ _ (by decide)
  have c3 : cMul k 7919 = true := cMul_r _ _ (by decide)
  refine ⟨(mixed * 48271 + cell % 1000003 * 69621 + k * 7919 + 11) % 2147483647, ?_, ?_⟩
  · have h1 := Int.emod_nonneg (mixed * 48271 + cell % 1000003 * 69621 + k * 7919 + 11) (show (2147483647 : Int) ≠ 0 by decide)
    have h2 := Int.emod_lt_of_pos (mixed * 48271 + cell % 1000003 * 69621 + k * 7919 + 11) (show (0 : Int) < 2147483647 by decide)
    revert h1 h2
    generalize (mixed * 48271 + cell % 1000003 * 69621 + k * 7919 + 11) % 2147483647 = z
    intro h1 h2
    omega
  · simp only [sD4, gSet, gBin, gCallD, gConsV, gNilV, gVd, gVar, gC, gets, f1, fInt, Vl.get, R.bind_ok, R.map_ok, R.lift_some, Sr.of_ok, List.getElem?_cons_zero, List.getElem?_cons_succ, List.set_cons_zero, List.set_cons_succ, Option.bind_some, Option.map_some, fAdd_i, fMul_i, fMod_i, c1, c2, c3, cPos_i, if_true, show decide ((0 : Int) < 1000003) = true from by decide, show decide ((0 : Int) < 2147483647) = true from by decide]
theorem step8 (o0 o1 o2 o3 o6 o7 o8 : Option T) (m k : Int) (h : -(2 ^ 64) < m ∧ m < 2 ^ 64) : ∃ a : Int, sD8 [o0, o1, o2, o3, some (.val (.int m)), some (.val (.int k)), o6, o7, o8] = .nx [o0, o1, o2, o3, some (.val (.int m)), some (.val (.int k)), o6, o7, some (.val (.int a))] := by
  have c1 : cMul m m = true := cMul_r _ _ h
  have c2 : cMul 31 m = true := cMul_r _ _ h
  refine ⟨(m * m + 31 * m + k) % 1000003, ?_⟩
  simp only [sD8, gSet, gBin, gCallD, gConsV, gNilV, gVd, gVar, gC, gets, f1, fInt, Vl.get, R.bind_ok, R.map_ok, R.lift_some, Sr.of_ok, List.getElem?_cons_zero, List.getElem?_cons_succ, List.set_cons_zero, List.set_cons_succ, Option.bind_some, Option.map_some, fAdd_i, fMul_i, fMod_i, c1, c2, cPos_i, if_true, show decide ((0 : Int) < 1000003) = true from by decide]
theorem fGe18 (cell : Int) : gDB (gBin fGe (gVar 7) (gBin fPow (gC (.int 10)) (gC (.int 18)))) = gDB (gBin fGe (gVar 7) (gC (.int 1000000000000000000))) := by
  funext env
  rfl
theorem stepE (j : Nat) (o0 o1 : Option T) (cells found : List Int) (m a k cell : Int) (hi : L2.ixN cells.length (j : Int) = some j) (hf2 : found.length < 16777216) : ∃ cells' found' : List Int, cells'.length = cells.length ∧ found'.length = found.length + 1 ∧
    sDE [o0, o1, some (.lst (cells.map D.int)), some (.lst (found.map D.int)), some (.val (.int m)), some (.val (.int k)), some (.val (.int j)), some (.val (.int cell)), some (.val (.int a))] = .nx [o0, o1, some (.lst (cells'.map D.int)), some (.lst (found'.map D.int)), some (.val (.int m)), some (.val (.int k)), some (.val (.int j)), some (.val (.int cell)), some (.val (.int a))] := by
  have hf3 : found.length < sizeLine := by rw [sizeLine_eq]; exact hf2
  have cP : ∀ z : Int, cPos z 1000 = true := fun z => rfl
  have cD : ∀ z : Int, cDiv z 1000 = true := fun z => rfl
  unfold sDE
  rw [fGe18 0]
  by_cases hb : cell ≥ 1000000000000000000
  · refine ⟨cells.set j (cell / 1000), found ++ [cell % 1000], by simp, by simp, ?_⟩
    have e1 : gExpr (gMut 3 fAppend (gConsA (gBin fMod (gCallD (f1 fInt) (gConsV (gVd (gVar 7)) gNilV)) (gC (.int 1000))) gNilA)) [o0, o1, some (.lst (cells.map D.int)), some (.lst (found.map D.int)), some (.val (.int m)), some (.val (.int k)), some (.val (.int j)), some (.val (.int cell)), some (.val (.int a))] =
      .nx [o0, o1, some (.lst (cells.map D.int)), some (.lst ((found ++ [cell % 1000]).map D.int)), some (.val (.int m)), some (.val (.int k)), some (.val (.int j)), some (.val (.int cell)), some (.val (.int a))] := by
      simp only [gExpr, gMut, gBin, gCallD, gConsV, gNilV, gVd, gVar, gC, gets, f1, fInt, Vl.get, gConsA, gNilA, fAppend, R.bind_ok, R.map_ok, R.lift_some, Sr.of_ok, List.getElem?_cons_zero, List.getElem?_cons_succ, List.set_cons_zero, List.set_cons_succ, Option.bind_some, Option.map_some, fMod_i, cP, if_true, List.length_map, hf3, List.map_append, List.map_cons, List.map_nil]
    have e2 : gPut 2 (gBin fDiv (gVar 7) (gC (.int 1000))) (gVar 6) [o0, o1, some (.lst (cells.map D.int)), some (.lst ((found ++ [cell % 1000]).map D.int)), some (.val (.int m)), some (.val (.int k)), some (.val (.int j)), some (.val (.int cell)), some (.val (.int a))] =
      .nx [o0, o1, some (.lst ((cells.set j (cell / 1000)).map D.int)), some (.lst ((found ++ [cell % 1000]).map D.int)), some (.val (.int m)), some (.val (.int k)), some (.val (.int j)), some (.val (.int cell)), some (.val (.int a))] := by
      simp only [gPut, gBin, gVar, gC, R.bind_ok, R.lift_some, Sr.of_ok, List.getElem?_cons_zero, List.getElem?_cons_succ, List.set_cons_zero, List.set_cons_succ, fDiv_i, cD, if_true, List.length_map, hi, List.map_set]
    simp only [gIfS, gDB, gBin, gVar, gC, R.bind_ok, R.lift_some, Sr.of_ok, List.getElem?_cons_zero, List.getElem?_cons_succ, fGe_i, decide_eq_true hb, if_true]
    rw [gSeq_nx e1]
    exact e2
  · refine ⟨cells, found ++ [a % 1000], rfl, by simp, ?_⟩
    have e1 : gExpr (gMut 3 fAppend (gConsA (gBin fMod (gCallD (f1 fInt) (gConsV (gVd (gVar 8)) gNilV)) (gC (.int 1000))) gNilA)) [o0, o1, some (.lst (cells.map D.int)), some (.lst (found.map D.int)), some (.val (.int m)), some (.val (.int k)), some (.val (.int j)), some (.val (.int cell)), some (.val (.int a))] =
      .nx [o0, o1, some (.lst (cells.map D.int)), some (.lst ((found ++ [a % 1000]).map D.int)), some (.val (.int m)), some (.val (.int k)), some (.val (.int j)), some (.val (.int cell)), some (.val (.int a))] := by
      simp only [gExpr, gMut, gBin, gCallD, gConsV, gNilV, gVd, gVar, gC, gets, f1, fInt, Vl.get, gConsA, gNilA, fAppend, R.bind_ok, R.map_ok, R.lift_some, Sr.of_ok, List.getElem?_cons_zero, List.getElem?_cons_succ, List.set_cons_zero, List.set_cons_succ, Option.bind_some, Option.map_some, fMod_i, cP, if_true, List.length_map, hf3, List.map_append, List.map_cons, List.map_nil]
    simp only [gIfS, gDB, gBin, gVar, gC, R.bind_ok, R.lift_some, Sr.of_ok, List.getElem?_cons_zero, List.getElem?_cons_succ, fGe_i, decide_eq_false hb, Bool.false_eq_true, if_false]
    exact e1
theorem step_draws (k : Nat) (o0 o1 o6 o7 o8 : Option T) (cells found : List Int) (mixed : Int) (hc : cells ≠ []) (hf : found.length < 1000) : ∃ (cells' found' : List Int) (mixed' : Int) (p6 p7 p8 : Option T), cells' ≠ [] ∧ found'.length = found.length + 1 ∧
    bodyDraws [o0, o1, some (.lst (cells.map D.int)), some (.lst (found.map D.int)), some (.val (.int mixed)), some (.val (.int k)), o6, o7, o8] = .nx [o0, o1, some (.lst (cells'.map D.int)), some (.lst (found'.map D.int)), some (.val (.int mixed')), some (.val (.int k)), p6, p7, p8] := by
  have hl : 0 < cells.length := List.length_pos_iff.mpr hc
  have hl2 : (0 : Int) < (cells.length : Int) := by omega
  have hk : k % cells.length < cells.length := Nat.mod_lt _ hl
  have e : (k : Int) % (cells.length : Int) = ((k % cells.length : Nat) : Int) := by omega
  have hget : cells[k % cells.length]? = some (cells[k % cells.length]'hk) := List.getElem?_eq_getElem hk
  generalize cells[k % cells.length]'hk = cell at hget
  have hi := ixN_nat hk
  have hf2 : found.length < 16777216 := by omega
  have h6 : sD6 [o0, o1, some (.lst (cells.map D.int)), some (.lst (found.map D.int)), some (.val (.int mixed)), some (.val (.int k)), o6, o7, o8] = .nx [o0, o1, some (.lst (cells.map D.int)), some (.lst (found.map D.int)), some (.val (.int mixed)), some (.val (.int k)), some (.val (.int (k % cells.length : Nat))), o7, o8] := by
    simp only [sD6, gSet, gBin, gOwn, gCallD, gConsV, gNilV, gVar, gets, Vl.get, fLen, lenT, T.seqL, Option.or, R.bind_ok, R.map_ok, R.lift_some, Sr.of_ok, List.getElem?_cons_zero, List.getElem?_cons_succ, List.set_cons_zero, List.set_cons_succ, Option.bind_some, Option.map_some, Option.join_some, fMod_i, cPos_i, List.length_map, decide_eq_true hl2, if_true, e]
  have h7 : sD7 [o0, o1, some (.lst (cells.map D.int)), some (.lst (found.map D.int)), some (.val (.int mixed)), some (.val (.int k)), some (.val (.int (k % cells.length : Nat))), o7, o8] = .nx [o0, o1, some (.lst (cells.map D.int)), some (.lst (found.map D.int)), some (.val (.int mixed)), some (.val (.int k)), some (.val (.int (k % cells.length : Nat))), some (.val (.int cell)), o8] := by
    simp only [sD7, gSet, gLook, gOwn, gVd, gVar, Vl.get, fIx, T.seqL, R.bind_ok, R.map_ok, List.getElem?_cons_zero, List.getElem?_cons_succ, Option.bind_some, Option.join_some, Option.or, atI_nat, List.getElem?_map, hget, Option.map_some, R.lift_some, Sr.of_ok, List.set_cons_zero, List.set_cons_succ]
  obtain ⟨m, hm, h4⟩ := step4 o0 o1 (some (.lst (cells.map D.int))) (some (.lst (found.map D.int))) (some (.val (.int (k % cells.length : Nat)))) o8 mixed k cell
  obtain ⟨a, h8⟩ := step8 o0 o1 (some (.lst (cells.map D.int))) (some (.lst (found.map D.int))) (some (.val (.int (k % cells.length : Nat)))) (some (.val (.int cell))) o8 m k hm
  unfold bodyDraws
  rw [gSeq_nx h6, gSeq_nx h7, gSeq_nx h4, gSeq_nx h8]
  rcases stepE (k % cells.length) o0 o1 cells found m a k cell hi hf2 with ⟨cells', found', h1, h2, h3⟩
  exact ⟨cells', found', m, _, _, _, by rw [← List.length_pos_iff, h1]; exact hl, h2, h3⟩
theorem loop_draws : ∀ (ks : List Nat) (o0 o1 o5 o6 o7 o8 : Option T) (cells found : List Int) (mixed : Int), cells ≠ [] → found.length + ks.length ≤ 1000 → ∃ (cells' found' : List Int) (mixed' : Int) (p5 p6 p7 p8 : Option T),
    forD (fName 5) bodyDraws (ks.map fun (i : Nat) => D.int (i : Int)) [o0, o1, some (.lst (cells.map D.int)), some (.lst (found.map D.int)), some (.val (.int mixed)), o5, o6, o7, o8] = .nx [o0, o1, some (.lst (cells'.map D.int)), some (.lst (found'.map D.int)), some (.val (.int mixed')), p5, p6, p7, p8]
  | [], o0, o1, o5, o6, o7, o8, cells, found, mixed, _, _ => ⟨cells, found, mixed, o5, o6, o7, o8, rfl⟩
  | k :: ks, o0, o1, o5, o6, o7, o8, cells, found, mixed, h1, h2 => by
    simp only [List.length_cons] at h2
    obtain ⟨c, f, m, p6, p7, p8, a1, a2, a3⟩ := step_draws k o0 o1 o6 o7 o8 cells found mixed h1 (by omega)
    obtain ⟨c2, f2, m2, q5, q6, q7, q8, b⟩ := loop_draws ks o0 o1 (some (.val (.int k))) p6 p7 p8 c f m a1 (by omega)
    refine ⟨c2, f2, m2, q5, q6, q7, q8, ?_⟩
    simp only [List.map_cons, forD, fName, List.set_cons_zero, List.set_cons_succ, a3]
    exact b
def restD : Gs := gSeq (gSetT 3 (gLst gNilA)) (gSeq (gSet 4 (gC (.int 12345))) (gSeq (gFor (gRng1 (gConsA (gVar 1) gNilA)) (fName 5) bodyDraws) (gSeq (gExpr (gMut 3 fReverse gNilA)) (gRet (gMov 3)))))
theorem run_rest (n : Nat) (hn : n ≤ 1000) (ns cells : List Int) (hc : cells ≠ []) : ∃ (ds : List Int) (o4 o5 o6 o7 o8 : Option T) (cells' : List Int), restD [some (.val (.ro (ns.map D.int))), some (.val (.int n)), some (.lst (cells.map D.int)), none, none, none, none, none, none] = .rt (.lst (ds.map D.int)) [some (.val (.ro (ns.map D.int))), some (.val (.int n)), some (.lst (cells'.map D.int)), none, o4, o5, o6, o7, o8] := by
  obtain ⟨c2, f2, m2, q5, q6, q7, q8, b⟩ := loop_draws (List.range n) (some (.val (.ro (ns.map D.int)))) (some (.val (.int n))) none none none none cells [] 12345 hc (by simpa using hn)
  have er : rangeD 0 n = (List.range n).map fun (i : Nat) => D.int (i : Int) := by
    unfold rangeD
    simp
  rw [← er] at b
  refine ⟨f2.reverse, some (.val (.int m2)), q5, q6, q7, q8, c2, ?_⟩
  unfold restD
  have h1 : gSetT 3 (gLst gNilA) [some (.val (.ro (ns.map D.int))), some (.val (.int n)), some (.lst (cells.map D.int)), none, none, none, none, none, none] = .nx [some (.val (.ro (ns.map D.int))), some (.val (.int n)), some (.lst (cells.map D.int)), some (.lst []), none, none, none, none, none] := by simp
  have h2 : gSet 4 (gC (.int 12345)) [some (.val (.ro (ns.map D.int))), some (.val (.int n)), some (.lst (cells.map D.int)), some (.lst []), none, none, none, none, none] = .nx [some (.val (.ro (ns.map D.int))), some (.val (.int n)), some (.lst (cells.map D.int)), some (.lst []), some (.val (.int 12345)), none, none, none, none] := by simp
  have h3 : gFor (gRng1 (gConsA (gVar 1) gNilA)) (fName 5) bodyDraws [some (.val (.ro (ns.map D.int))), some (.val (.int n)), some (.lst (cells.map D.int)), some (.lst []), some (.val (.int 12345)), none, none, none, none] = .nx [some (.val (.ro (ns.map D.int))), some (.val (.int n)), some (.lst (c2.map D.int)), some (.lst (f2.map D.int)), some (.val (.int m2)), q5, q6, q7, q8] := by
    have hr : gRng1 (gConsA (gVar 1) gNilA) [some (.val (.ro (ns.map D.int))), some (.val (.int n)), some (.lst (cells.map D.int)), some (.lst []), some (.val (.int 12345)), none, none, none, none] = .ok (rangeD 0 n) [some (.val (.ro (ns.map D.int))), some (.val (.int n)), some (.lst (cells.map D.int)), some (.lst []), some (.val (.int 12345)), none, none, none, none] := gRng1_ok (j := (n : Int)) rfl (inR_small (by omega))
    unfold gFor
    rw [hr]
    exact b
  rw [gSeq_nx h1, gSeq_nx h2, gSeq_nx h3]
  simp
def mDraws : Gs := gSeq (gSetT 2 (gCallT fList (gConsV (gVd (gVar 0)) gNilV))) (gSeq (gIfS (gDB (gLook fEq (gVd (gCallD fLen (gConsV (gOwn 2) gNilV))) (gVd (gC (.int 0))))) (gSetT 2 (gLst (gConsA (gC (.int 7)) gNilA))) gNx) restD)
def FDraws : List T → FR := bodyF mDraws [false, false] 9
theorem run_draws (n : Nat) (hn : n ≤ 1000) (ns : List Int) : ∃ ds : List Int, FDraws [.val (.ro (ns.map D.int)), .val (.int n)] = .ok (.lst (ds.map D.int)) [none, none] := by
  have h1 : gSetT 2 (gCallT fList (gConsV (gVd (gVar 0)) gNilV)) [some (.val (.ro (ns.map D.int))), some (.val (.int n)), none, none, none, none, none, none, none] = .nx [some (.val (.ro (ns.map D.int))), some (.val (.int n)), some (.lst (ns.map D.int)), none, none, none, none, none, none] := by simp
  have h2 : ∃ cells : List Int, cells ≠ [] ∧ gIfS (gDB (gLook fEq (gVd (gCallD fLen (gConsV (gOwn 2) gNilV))) (gVd (gC (.int 0))))) (gSetT 2 (gLst (gConsA (gC (.int 7)) gNilA))) gNx [some (.val (.ro (ns.map D.int))), some (.val (.int n)), some (.lst (ns.map D.int)), none, none, none, none, none, none] = .nx [some (.val (.ro (ns.map D.int))), some (.val (.int n)), some (.lst (cells.map D.int)), none, none, none, none, none, none] := by
    cases ns with
    | nil => exact ⟨[7], by simp, by simp [sizeLine_eq]⟩
    | cons n ns => exact ⟨n :: ns, by simp, by simp [len1]⟩
  obtain ⟨cells, hc, h2⟩ := h2
  obtain ⟨ds, o4, o5, o6, o7, o8, c', h3⟩ := run_rest n hn ns cells hc
  refine ⟨ds, ?_⟩
  unfold FDraws bodyF
  have e0 : List.map some [T.val (D.ro (ns.map D.int)), T.val (D.int n)] ++ List.replicate (9 - [T.val (D.ro (ns.map D.int)), T.val (D.int n)].length) none = [some (.val (.ro (ns.map D.int))), some (.val (.int n)), none, none, none, none, none, none, none] := rfl
  rw [e0]
  unfold mDraws
  rw [gSeq_nx h1, gSeq_nx h2, h3]
  rfl
/-! ### _law_same -/
mutual
def D.nc : D → Bool
  | .non => true
  | .bl _ => true
  | .int _ => true
  | .str x => PySem.PyData.strOk x
  | .lst ds => ncs ds && decide (ds.length ≤ 1000000)
  | .tup ds => ncs ds && decide (ds.length ≤ 1000000)
  | _ => false
def ncs : List D → Bool
  | [] => true
  | d :: ds => D.nc d && ncs ds
end
theorem ncs_iff : ∀ {ds : List D}, ncs ds = true ↔ ∀ d ∈ ds, d.nc = true
  | [] => by simp [ncs]
  | d :: ds => by rw [ncs, Bool.and_eq_true, ncs_iff]; simp
def mSame (rec : List T → FR) : Gs :=
  (gSeq (gIfS (gDB (gBin fIsN (gVar 1) (gC .non)))
  (gRet (gOd (gBin fIsN (gVar 0) (gC .non))))
  gNx)
  (gSeq (gIfS (gTruth (gVd (gIsi "bool" (gVd (gVar 1)))))
  (gRet (gOd (gAndV (gIsi "bool" (gVd (gVar 0))) (gLook fEq (gVd (gVar 0)) (gVd (gVar 1))))))
  gNx)
  (gSeq (gIfS (gTruth (gVd (gIsi "int" (gVd (gVar 1)))))
  (gRet (gOd (gAndV (gIsi "int" (gVd (gVar 0))) (gAndV (gNotV (gIsi "bool" (gVd (gVar 0)))) (gLook fEq (gVd (gVar 0)) (gVd (gVar 1)))))))
  gNx)
  (gSeq (gIfS (gTruth (gVd (gIsi "str" (gVd (gVar 1)))))
  (gRet (gOd (gAndV (gIsi "str" (gVd (gVar 0))) (gLook fEq (gVd (gVar 0)) (gVd (gVar 1))))))
  gNx)
  (gSeq (gIfS (gTruth (gVd (gIsi "dict" (gVd (gVar 1)))))
  (gRet (gOd (gAndV (gIsi "dict" (gVd (gVar 0))) (gLook fEq (gVd (gVar 0)) (gVd (gVar 1))))))
  gNx)
  (gSeq (gIfS (gOr (gDB (gLook fNe (gVd (gIsi "tuple" (gVd (gVar 1)))) (gVd (gIsi "tuple" (gVd (gVar 0)))))) (gDB (gLook fNe (gVd (gIsi "list" (gVd (gVar 1)))) (gVd (gIsi "list" (gVd (gVar 0)))))))
  (gRet (gOd (gC (.bl false))))
  gNx)
  (gRet (gOd (gAndV (gLook fEq (gVd (gCallD fLen (gConsV (gVd (gVar 0)) gNilV))) (gVd (gCallD fLen (gConsV (gVd (gVar 1)) gNilV)))) (gCallD (fSeq1 fAll) (gConsV (gVd (gFz (gLc (gRng1 (gConsA (gCallD fLen (gConsV (gVd (gVar 1)) gNilV)) gNilA)) (fName 2) gYes (gFz (gCall rec (gConsV (gVd (gLook fIx (gVd (gVar 0)) (gVd (gVar 2)))) (gConsV (gVd (gLook fIx (gVd (gVar 1)) (gVd (gVar 2)))) gNilV)))) [2]))) gNilV)))))))))))
def FSame : Nat → List T → FR
  | 0 => fun _ => .bad
  | n + 1 => bodyF (mSame (FSame n)) [false, false] 3
theorem kb1 : kitB "bool" "bool" = some true := by decide +kernel
theorem kb2 : kitB "int" "bool" = some false := by decide +kernel
theorem kb3 : kitB "int" "int" = some true := by decide +kernel
theorem kb4 : kitB "str" "bool" = some false := by decide +kernel
theorem kb5 : kitB "str" "int" = some false := by decide +kernel
theorem kb6 : kitB "str" "str" = some true := by decide +kernel
theorem kl1 : kitB "list" "bool" = some false := by decide +kernel
theorem kl2 : kitB "list" "int" = some false := by decide +kernel
theorem kl3 : kitB "list" "str" = some false := by decide +kernel
theorem kl4 : kitB "list" "dict" = some false := by decide +kernel
theorem kl5 : kitB "list" "tuple" = some false := by decide +kernel
theorem kl6 : kitB "list" "list" = some true := by decide +kernel
theorem kt1 : kitB "tuple" "bool" = some false := by decide +kernel
theorem kt2 : kitB "tuple" "int" = some false := by decide +kernel
theorem kt3 : kitB "tuple" "str" = some false := by decide +kernel
theorem kt4 : kitB "tuple" "dict" = some false := by decide +kernel
theorem kt5 : kitB "tuple" "tuple" = some true := by decide +kernel
theorem kt6 : kitB "tuple" "list" = some false := by decide +kernel
theorem rangeD_map (n : Nat) : rangeD 0 n = (List.range n).map fun (i : Nat) => D.int (i : Int) := by
  unfold rangeD
  simp
theorem rangeD_len (i : Int) (n : Nat) : (rangeD i n).length = n := by unfold rangeD; simp
theorem same_all {rec : List T → FR} (L : D) (ds : List D) (hix : ∀ k : Nat, fIx (.val L) (.val (.int k)) = ds[k]?) (hlen : fLen [.val L] = some (.int ds.length)) (hl : ds.length ≤ 1000000) (hr : ∀ d ∈ ds, rec [.val d, .val d] = .ok (.val (.bl true)) [none, none]) :
    gCallD (fSeq1 fAll) (gConsV (gVd (gFz (gLc (gRng1 (gConsA (gCallD fLen (gConsV (gVd (gVar 1)) gNilV)) gNilA)) (fName 2) gYes (gFz (gCall rec (gConsV (gVd (gLook fIx (gVd (gVar 0)) (gVd (gVar 2)))) (gConsV (gVd (gLook fIx (gVd (gVar 1)) (gVd (gVar 2)))) gNilV)))) [2]))) gNilV) [some (.val L), some (.val L), none] = .ok (.bl true) [some (.val L), some (.val L), none] := by
  have h : lcD (fName 2) gYes (gFz (gCall rec (gConsV (gVd (gLook fIx (gVd (gVar 0)) (gVd (gVar 2)))) (gConsV (gVd (gLook fIx (gVd (gVar 1)) (gVd (gVar 2)))) gNilV)))) [2] ((List.range ds.length).map fun (i : Nat) => D.int (i : Int)) [] [some (.val L), some (.val L), none] =
      .ok ([] ++ (((List.range ds.length).filter fun _ => true).map fun _ => D.bl true)) [some (.val L), some (.val L), none] := lcD_map (fun (i : Nat) => D.int (i : Int)) (fun _ => true) (fun _ => .bl true) (List.range ds.length) [] fun k hk => by
    have hk : k < ds.length := List.mem_range.mp hk
    have hg : ds[k]? = some (ds[k]'hk) := List.getElem?_eq_getElem hk
    have q := hr _ (List.getElem_mem hk)
    have i1 := hix k
    rw [hg] at i1
    refine ⟨[some (.val L), some (.val L), some (.val (.int k))], _, rfl, rfl, fun z => (by cases z), fun _ => ⟨[some (.val L), some (.val L), some (.val (.int k))], ?_, rfl⟩⟩
    simp [-fIx, i1, q]
  have hz : (rangeD 0 ds.length).length ≤ sizeLine := by rw [rangeD_len, sizeLine_eq]; omega
  have h0 : gRng1 (gConsA (gCallD fLen (gConsV (gVd (gVar 1)) gNilV)) gNilA) [some (.val L), some (.val L), none] = .ok (rangeD 0 ds.length) [some (.val L), some (.val L), none] := gRng1_ok (j := (ds.length : Int)) (by simp [-fLen, hlen]) (inR_small hl)
  rw [← rangeD_map] at h
  have h1 := gFz_ok (gLc_ok (vs := [2]) h0 hz h)
  have ha : (((List.range ds.length).map fun _ => true).all id) = true := by simp
  have e1 : (T.lst ([] ++ List.map (fun x => D.bl true) (List.filter (fun x => true) (List.range ds.length)))).frz = .lst (((List.range ds.length).map fun _ => true).map D.bl) := by
    rw [List.filter_eq_self.mpr fun _ _ => rfl, List.map_map]
    rfl
  rw [e1] at h1
  exact gCallD_ok (gConsV_ok (gVd_ok h1) rfl) rfl (by simp only [fSeq1, T.seqL, T.seqT, Option.or, Option.bind_some, fAll, blsOf_map, ha, Option.map_some])
theorem same_seq {rec : List T → FR} (L : D) (ds : List D) (k1 : fIsN L .non = some (.bl false)) (tb : fIsi "bool" (.val L) = some (.bl false)) (ti : fIsi "int" (.val L) = some (.bl false)) (ts : fIsi "str" (.val L) = some (.bl false)) (td : fIsi "dict" (.val L) = some (.bl false)) (bt bl : Bool) (tt : fIsi "tuple" (.val L) = some (.bl bt)) (tl : fIsi "list" (.val L) = some (.bl bl))
    (hix : ∀ k : Nat, fIx (.val L) (.val (.int k)) = ds[k]?) (hlen : fLen [.val L] = some (.int ds.length)) (hl : ds.length ≤ 1000000) (hr : ∀ d ∈ ds, rec [.val d, .val d] = .ok (.val (.bl true)) [none, none]) :
    bodyF (mSame rec) [false, false] 3 [.val L, .val L] = .ok (.val (.bl true)) [none, none] := by
  have hg := same_all L ds hix hlen hl hr
  have e0 : List.map some [T.val L, T.val L] ++ List.replicate (3 - [T.val L, T.val L].length) none = [some (.val L), some (.val L), none] := rfl
  unfold bodyF mSame
  rw [e0]
  have A : ∀ n, ∀ b, fIsi n (.val L) = some (.bl b) → gTruth (gVd (gIsi n (gVd (gVar 1)))) [some (.val L), some (.val L), none] = .ok b [some (.val L), some (.val L), none] := fun n b h => by
    simp [-fIsi, h]
  rw [gSeq_nx (gIf_no (c := gDB (gBin fIsN (gVar 1) (gC .non))) (gDB_ok (gBin_ok (gVar_ok rfl) rfl k1))), gSeq_nx (gIf_no (A "bool" false tb)), gSeq_nx (gIf_no (A "int" false ti)), gSeq_nx (gIf_no (A "str" false ts)), gSeq_nx (gIf_no (A "dict" false td)),
    gSeq_nx (gIf_no (e := [some (.val L), some (.val L), none]) (by simp [-fIsi, tt, tl]))]
  have hle : gLook fEq (gVd (gCallD fLen (gConsV (gVd (gVar 0)) gNilV))) (gVd (gCallD fLen (gConsV (gVd (gVar 1)) gNilV))) [some (.val L), some (.val L), none] = .ok (.bl true) [some (.val L), some (.val L), none] := by
    simp [-fLen, hlen]
  rw [gRet_ok (gOd_ok ((gAndV_tt hle).trans hg))]
  rfl
theorem run_same : ∀ (n : Nat) (d : D), d.nc = true → d.dp ≤ n → FSame (n + 1) [.val d, .val d] = .ok (.val (.bl true)) [none, none]
  | n, .non, h, _ => by simp [FSame, bodyF, mSame]
  | n, .bl b, h, _ => by simp [FSame, bodyF, mSame, kb1]
  | n, .int i, h, _ => by simp [FSame, bodyF, mSame, kb2, kb3]
  | n, .str x, h, _ => by
    have e := tEq_pu (a := .str x) (b := .str x) h h (by simp [D.dp]) (by simp [D.dp])
    rw [eqD_iff.mpr rfl] at e
    simp [FSame, bodyF, mSame, kb4, kb5, kb6, e]
  | 0, .lst ds, h, hd => by simp [D.dp] at hd
  | 0, .tup ds, h, hd => by simp [D.dp] at hd
  | n + 1, .lst ds, h, hd => by
    simp only [D.nc, Bool.and_eq_true, decide_eq_true_eq] at h
    have hd' : ∀ d ∈ ds, d.dp ≤ n := dps_le.mp (by simp only [D.dp] at hd; omega)
    exact same_seq (.lst ds) ds rfl (by simp [kl1]) (by simp [kl2]) (by simp [kl3]) (by simp [kl4]) false true (by simp [kl5]) (by simp [kl6]) (fun k => by simp) (by simp) h.2
      fun d hm => run_same n d (ncs_iff.mp h.1 d hm) (hd' d hm)
  | n + 1, .tup ds, h, hd => by
    simp only [D.nc, Bool.and_eq_true, decide_eq_true_eq] at h
    have hd' : ∀ d ∈ ds, d.dp ≤ n := dps_le.mp (by simp only [D.dp] at hd; omega)
    exact same_seq (.tup ds) ds rfl (by simp [kt1]) (by simp [kt2]) (by simp [kt3]) (by simp [kt4]) true false (by simp [kt5]) (by simp [kt6]) (fun k => by simp) (by simp) h.2
      fun d hm => run_same n d (ncs_iff.mp h.1 d hm) (hd' d hm)
  | _, .ref _, h, _ => by simp [D.nc] at h
  | _, .ro _, h, _ => by simp [D.nc] at h
  | _, .dK _, h, _ => by simp [D.nc] at h
  | _, .dT _, h, _ => by simp [D.nc] at h
  | _, .obj _ _, h, _ => by simp [D.nc] at h
end DL


/-! D-layer, part r: comprehensions that draw. The env: the script, the draws, the rest. -/
namespace DL
open PySem PySem.Spec PyProof.Rows L2
variable [Tabs]
abbrev dr (ds : List Int) : Option T := some (.lst (ds.map D.int))
def clr (r : List (Option T)) (v : Nat) (r0 : List (Option T)) : List (Option T) := r.set v (valO ((r0[v]?).join))
theorem take_at {c : Gn D} {s : Option T} {ds : List Int} {r : DL.Env} {l : Int} (hl : 0 < l) (hc : c (s :: dr ds :: r) = .ok (.int l) (s :: dr ds :: r)) :
    gFz (gCall FTake (gConsV (gOwn 1) (gConsV (gVd c) gNilV))) (s :: dr ds :: r) = .ok (.int (takeR ds l)) (s :: dr ds.dropLast :: r) := by
  have h := run_take ds l hl
  have h1 : gOwn 1 (s :: dr ds :: r) = .ok (.sl 1) (s :: dr ds :: r) := rfl
  have h2 : gConsV (gOwn 1) (gConsV (gVd c) gNilV) (s :: dr ds :: r) = .ok [.sl 1, .d (.int l)] (s :: dr ds :: r) := gConsV_ok h1 (gConsV_ok (gVd_ok hc) rfl)
  refine gFz_ok (t := .val (.int (takeR ds l))) ?_
  unfold gCall
  rw [h2]
  simp only [R.bind_ok, callR, splitA, List.getElem?_cons_zero, List.getElem?_cons_succ, Option.map_some, List.set_cons_zero, List.set_cons_succ, h, joinA]
theorem lc_dr {α : Type} (en : α → D) (Rx : α → Prop) (Q : List (Option T) → Prop) {g : Gn D} {gi : Gn (List D)} {s : Option T} {ds ds1 : List Int} {r : List (Option T)} {v n : Nat} (hn : n ≤ 1000000)
    (hi : gi (s :: dr ds :: r) = .ok (rangeD 0 n) (s :: dr ds1 :: r)) (hq : Q (r.set v none))
    (h : ∀ (ds : List Int) (ρ : List (Option T)) (d : D), Q ρ → ∃ (x : α) (ds' : List Int) (ρ' : List (Option T)), Rx x ∧ g (s :: dr ds :: ρ.set v (some (.val d))) = .ok (en x) (s :: dr ds' :: ρ') ∧ Q (ρ'.set v none)) :
    ∃ (xs : List α) (ds' : List Int) (ρ' : List (Option T)), xs.length = n ∧ (∀ x ∈ xs, Rx x) ∧ Q ρ' ∧ gLc gi (fName (v + 2)) gYes g [v + 2] (s :: dr ds :: r) = .ok (.lst (xs.map en)) (s :: dr ds' :: clr ρ' v r) := by
  have hz : (rangeD 0 n).length ≤ sizeLine := by rw [rangeD_len, sizeLine_eq]; omega
  obtain ⟨l, e', ⟨ds', ρ', he, q'⟩, k2, k3, k4⟩ := lcD_inv (f := fName (v + 2)) (g := g) (vs := [v + 2]) (P := fun e => ∃ ds' ρ, e = s :: dr ds' :: ρ ∧ Q ρ) (R := fun y => ∃ x, y = en x ∧ Rx x) (rangeD 0 n) [] (s :: dr ds1 :: r.set v none) (fun d hd e ⟨dd, ρ, he, q⟩ => by
    subst he
    obtain ⟨x, dd', ρ', h1, h2, h3⟩ := h dd ρ d q
    exact ⟨_, en x, _, rfl, h2, ⟨x, rfl, h1⟩, dd', _, rfl, h3⟩) ⟨_, _, rfl, hq⟩
  subst he
  obtain ⟨xs, rfl, hx⟩ : ∃ xs : List α, l = xs.map en ∧ ∀ x ∈ xs, Rx x := by
    clear k3 k4
    induction l with
    | nil => exact ⟨[], rfl, fun _ h => (by cases h)⟩
    | cons y l ih =>
      obtain ⟨i, rfl, hi⟩ := k2 y (by simp)
      obtain ⟨it, rfl, hj⟩ := ih fun z hz => k2 z (List.mem_cons_of_mem _ hz)
      exact ⟨i :: it, rfl, fun z hz => (List.mem_cons.mp hz).elim (fun e => by rw [e]; exact hi) (hj z)⟩
  exact ⟨xs, ds', ρ', by simpa [rangeD_len] using k3, hx, q', gLc_ok hi hz k4⟩
/-- the same without anything of the rest being touched but the comprehension's own name -/
theorem lc_dr0 {α : Type} (en : α → D) (Rx : α → Prop) {g : Gn D} {gi : Gn (List D)} {s : Option T} {ds ds1 : List Int} {r : List (Option T)} {v n : Nat} (hn : n ≤ 1000000)
    (hi : gi (s :: dr ds :: r) = .ok (rangeD 0 n) (s :: dr ds1 :: r))
    (h : ∀ (ds : List Int) (r : List (Option T)), ∃ (x : α) (ds' : List Int), Rx x ∧ g (s :: dr ds :: r) = .ok (en x) (s :: dr ds' :: r)) :
    ∃ (xs : List α) (ds' : List Int), xs.length = n ∧ (∀ x ∈ xs, Rx x) ∧ gLc gi (fName (v + 2)) gYes g [v + 2] (s :: dr ds :: r) = .ok (.lst (xs.map en)) (s :: dr ds' :: clr r v r) := by
  obtain ⟨xs, ds', ρ', h1, h2, h3, h4⟩ := lc_dr en Rx (fun ρ => ρ = r.set v none) (v := v) hn hi rfl fun ds ρ d hq => by
    obtain ⟨x, ds', h1, h2⟩ := h ds (ρ.set v (some (.val d)))
    subst hq
    exact ⟨x, ds', _, h1, h2, by rw [List.set_set, List.set_set]⟩
  refine ⟨xs, ds', h1, h2, ?_⟩
  rw [h4, h3]
  unfold clr
  rw [List.set_set]
/-- ints drawn -/
theorem lc_ints {c : Int} (hc : 0 < c) {gi : Gn (List D)} {s : Option T} {ds ds1 : List Int} {r : List (Option T)} {v n : Nat} (hn : n ≤ 1000000)
    (hi : gi (s :: dr ds :: r) = .ok (rangeD 0 n) (s :: dr ds1 :: r)) :
    ∃ (xs ds' : List Int), xs.length = n ∧ (∀ x ∈ xs, 0 ≤ x ∧ x < c) ∧ gLc gi (fName (v + 2)) gYes (gFz (gCall FTake (gConsV (gOwn 1) (gConsV (gVd (gC (.int c))) gNilV)))) [v + 2] (s :: dr ds :: r) = .ok (.lst (xs.map D.int)) (s :: dr ds' :: clr r v r) :=
  lc_dr0 D.int (fun x => 0 ≤ x ∧ x < c) hn hi fun ds r => ⟨_, _, takeR_lt ds hc, take_at hc rfl⟩
theorem rng_take {c : Gn D} {s : Option T} {ds : List Int} {r : DL.Env} {l : Int} (hl : 0 < l) (hl2 : l ≤ 1000000) (hc : c (s :: dr ds :: r) = .ok (.int l) (s :: dr ds :: r)) :
    ∃ n : Nat, (n : Int) < l ∧ (n : Int) = takeR ds l ∧ gRng1 (gConsA (gFz (gCall FTake (gConsV (gOwn 1) (gConsV (gVd c) gNilV)))) gNilA) (s :: dr ds :: r) = .ok (rangeD 0 n) (s :: dr ds.dropLast :: r) := by
  have bd := takeR_lt ds hl
  obtain ⟨n, hn⟩ := Int.eq_ofNat_of_zero_le bd.1
  refine ⟨n, by omega, hn.symm, ?_⟩
  have := gRng1_ok (j := takeR ds l) (gConsA_ok (take_at hl hc) rfl) (by rw [hn]; exact inR_small (by omega))
  rw [hn] at this
  exact this
theorem rng_take1 {c : Gn D} {s : Option T} {ds : List Int} {r : DL.Env} {l : Int} (hl : 0 < l) (hl2 : l ≤ 1000) (hc : c (s :: dr ds :: r) = .ok (.int l) (s :: dr ds :: r)) :
    ∃ n : Nat, (n : Int) < l ∧ (n : Int) = takeR ds l ∧ gRng1 (gConsA (gBin fAdd (gC (.int 1)) (gFz (gCall FTake (gConsV (gOwn 1) (gConsV (gVd c) gNilV))))) gNilA) (s :: dr ds :: r) = .ok (rangeD 0 (n + 1)) (s :: dr ds.dropLast :: r) := by
  have bd := takeR_lt ds hl
  obtain ⟨n, hn⟩ := Int.eq_ofNat_of_zero_le bd.1
  refine ⟨n, by omega, hn.symm, ?_⟩
  have h := gBin_ok (f := fAdd) (a := gC (.int 1)) (env := s :: dr ds :: r) rfl (take_at hl hc) (fAdd_i _ _)
  have e : (1 : Int) + takeR ds l = ((n + 1 : Nat) : Int) := by omega
  rw [e] at h
  have := gRng1_ok (gConsA_ok h rfl) (inR_small (by omega))
  exact this
theorem gCallT_ok {f : List T → Option T} {k : Gn (List Vl)} {env e : DL.Env} {ls : List Vl} {ts : List T} {d : T} (h : k env = .ok ls e) (h2 : gets e ls = some ts) (h3 : f ts = some d) : gCallT f k env = .ok d e := by
  unfold gCallT
  rw [h]
  show R.lift ((gets e ls).bind f) e = _
  rw [h2]
  show R.lift (f ts) e = _
  rw [h3]
  rfl
/-- a pure comprehension with one name -/
theorem lcD_pure {tt : Gn Bool} {g : Gn D} {i : Nat} {α : Type} (en : α → D) (keep : α → Bool) (im : α → D) {e : DL.Env} (he : e.set i none = e) (xs : List α)
    (h1 : ∀ x ∈ xs, tt (e.set i (some (.val (en x)))) = .ok (keep x) (e.set i (some (.val (en x)))))
    (h2 : ∀ x ∈ xs, keep x = true → g (e.set i (some (.val (en x)))) = .ok (im x) (e.set i (some (.val (en x))))) :
    lcD (fName i) tt g [i] (xs.map en) [] e = .ok ((xs.filter keep).map im) e := by
  have w : ∀ x : D, wipeE (e.set i (some (.val x))) [i] = e := fun x => by
    show (e.set i _).set i none = e
    rw [List.set_set, he]
  exact lcD_map en keep im xs [] fun x hx => ⟨_, _, rfl, h1 x hx, fun _ => w _, fun hk => ⟨_, h2 x hx hk, w _⟩⟩
theorem lcD_pure1 {g : Gn D} {i : Nat} {α : Type} (en : α → D) (im : α → D) {e : DL.Env} (he : e.set i none = e) (xs : List α)
    (h2 : ∀ x ∈ xs, g (e.set i (some (.val (en x)))) = .ok (im x) (e.set i (some (.val (en x))))) :
    lcD (fName i) gYes g [i] (xs.map en) [] e = .ok (xs.map im) e := by
  have := lcD_pure (tt := gYes) (g := g) en (fun _ => true) im he xs (fun _ _ => rfl) fun x hx _ => h2 x hx
  rw [this, List.filter_eq_self.mpr fun _ _ => rfl]
/-- .. as an expression over a list -/
theorem gLc_pure1 {gi : Gn (List D)} {g : Gn D} {i : Nat} {α : Type} (en : α → D) (im : α → D) {env e : DL.Env} (xs : List α) (hi : gi env = .ok (xs.map en) e) (hz : xs.length ≤ 1000000)
    (h2 : ∀ x ∈ xs, g (e.set i (some (.val (en x)))) = .ok (im x) (e.set i (some (.val (en x))))) :
    gLc gi (fName i) gYes g [i] env = .ok (.lst (xs.map im)) (e.set i (valO ((e[i]?).join))) := by
  have h := lcD_pure1 (g := g) (i := i) en im (e := e.set i none) (by rw [List.set_set]) xs (fun x hx => by rw [List.set_set]; exact h2 x hx)
  rw [gLc_ok (vs := [i]) hi (by rw [List.length_map, sizeLine_eq]; omega) h]
  show R.ok _ ((e.set i none).set i _) = _
  rw [List.set_set]
theorem gLc_pure {gi : Gn (List D)} {tt : Gn Bool} {g : Gn D} {i : Nat} {α : Type} (en : α → D) (keep : α → Bool) (im : α → D) {env e : DL.Env} (xs : List α) (hi : gi env = .ok (xs.map en) e) (hz : xs.length ≤ 1000000)
    (h1 : ∀ x ∈ xs, tt (e.set i (some (.val (en x)))) = .ok (keep x) (e.set i (some (.val (en x)))))
    (h2 : ∀ x ∈ xs, keep x = true → g (e.set i (some (.val (en x)))) = .ok (im x) (e.set i (some (.val (en x))))) :
    gLc gi (fName i) tt g [i] env = .ok (.lst ((xs.filter keep).map im)) (e.set i (valO ((e[i]?).join))) := by
  have h := lcD_pure (tt := tt) (g := g) (i := i) en keep im (e := e.set i none) (by rw [List.set_set]) xs (fun x hx => by rw [List.set_set]; exact h1 x hx) (fun x hx => by rw [List.set_set]; exact h2 x hx)
  rw [gLc_ok (vs := [i]) hi (by rw [List.length_map, sizeLine_eq]; omega) h]
  show R.ok _ ((e.set i none).set i _) = _
  rw [List.set_set]
end DL


/-! D-layer, part s: mirrors evaluated by lemmas, syntax-directed (tactic ev). -/
namespace DL
open PySem PySem.Spec PyProof.Rows L2
variable [Tabs]
section
variable {env e e1 e2 e3 : DL.Env} {d x y : D} {t u : T} {i j : Nat}
theorem gC_ok : gC d env = .ok d env := rfl
theorem gOwn_ok (h : env[i]? = some (some t)) (hv : ∀ d, t ≠ .val d) : gOwn i env = .ok (.sl i) env := by
  unfold gOwn
  rw [h]
  cases t <;> first | rfl | exact absurd rfl (hv _)
theorem gOwnL_ok {ds : List D} (h : env[i]? = some (some (.lst ds))) : gOwn i env = .ok (.sl i) env := gOwn_ok h fun _ => T.noConfusion
theorem gAnyV_ok (h : env[i]? = some (some (.val d))) : gAny i env = .ok (.d d) env := by
  unfold gAny
  rw [h]
theorem gAnyL_ok {ds : List D} (h : env[i]? = some (some (.lst ds))) : gAny i env = .ok (.sl i) env := by
  unfold gAny
  rw [h]
theorem gFrz_ok (h : env[i]? = some (some t)) : gFrz i env = .ok t.frz (env.set i (some (.val t.frz))) := by
  unfold gFrz
  rw [h]
theorem gMov_ok (h : env[i]? = some (some t)) : gMov i env = .ok t (env.set i none) := by
  unfold gMov
  rw [h]
theorem gNilV_ok : gNilV env = .ok [] env := rfl
theorem gNilA_ok : gNilA env = .ok [] env := rfl
theorem gYes_ok : gYes env = .ok true env := rfl
theorem gNoPart_ok : gNoPart env = .ok none env := rfl
theorem gPart_ok {g : Gn D} {n : Int} (h : g env = .ok (.int n) e) : gPart g env = .ok (some n) e := by
  unfold gPart
  rw [h]
  rfl
theorem gLst_ok {k : Gn (List D)} {ds : List D} (h : k env = .ok ds e) (hz : ds.length ≤ 16777216) : gLst k env = .ok (.lst ds) e := by
  unfold gLst
  rw [h]
  show (if ds.length ≤ sizeLine then R.ok (T.lst ds) e else .bad) = _
  rw [if_pos (by rw [sizeLine_eq]; exact hz)]
theorem gTup_ok {k : Gn (List D)} {ds : List D} (h : k env = .ok ds e) (hz : ds.length ≤ 16777216) : gTup k env = .ok (.tup ds) e := by
  unfold gTup
  rw [h]
  show (if ds.length ≤ sizeLine then R.ok (D.tup ds) e else .bad) = _
  rw [if_pos (by rw [sizeLine_eq]; exact hz)]
theorem gILst_ok {g : Gn D} {ds : List D} (h : g env = .ok (.lst ds) e) : gILst g env = .ok ds e := by
  unfold gILst
  rw [h]
  rfl
theorem gITup_ok {g : Gn D} {ds : List D} (h : g env = .ok (.tup ds) e) : gITup g env = .ok ds e := by
  unfold gITup
  rw [h]
  rfl
theorem gIStr_ok {g : Gn D} {z : Str} (h : g env = .ok (.str z) e) : gIStr g env = .ok (strDs z) e := by
  unfold gIStr
  rw [h]
  rfl
theorem gEnum_ok {k : Gn (List D)} {ds : List D} (h : k env = .ok [d] e) (h2 : d.src = some ds) : gEnum k env = .ok (enumD ds) e := by
  unfold gEnum
  rw [h]
  show R.lift (d.src.map enumD) e = _
  rw [h2]
  rfl
theorem gZip_ok {k : Gn (List D)} {as bs : List D} (h : k env = .ok [x, y] e) (h2 : x.src = some as) (h3 : y.src = some bs) : gZip k env = .ok (zipD as bs) e := by
  unfold gZip
  rw [h]
  show R.lift (x.src.bind fun as => y.src.map fun bs => zipD as bs) e = _
  rw [h2, h3]
  rfl
theorem gSlL_ok {a : Gn Vl} {l h : Gn (Option Int)} {v : Vl} {lo hi : Option Int} {ds : List D} (h1 : a env = .ok v e1) (h2 : l e1 = .ok lo e2) (h3 : h e2 = .ok hi e3) (h4 : v.get e3 = some t) (h5 : t.seqL = some ds) : gSlL a l h env = .ok (.lst (cutD ds lo hi)) e3 := by
  unfold gSlL
  rw [h1]
  show ((l e1).bind fun lo e2 => (h e2).bind fun hi e3 => R.lift (((v.get e3).bind T.seqL).map fun ds => T.lst (cutD ds lo hi)) e3) = _
  rw [h2]
  show ((h e2).bind fun hi e3 => R.lift (((v.get e3).bind T.seqL).map fun ds => T.lst (cutD ds lo hi)) e3) = _
  rw [h3]
  show R.lift (((v.get e3).bind T.seqL).map fun ds => T.lst (cutD ds lo hi)) e3 = _
  rw [h4]
  show R.lift ((t.seqL).map fun ds => T.lst (cutD ds lo hi)) e3 = _
  rw [h5]
  rfl
theorem gSlT_ok {a : Gn Vl} {l h : Gn (Option Int)} {v : Vl} {lo hi : Option Int} {ds : List D} (h1 : a env = .ok v e1) (h2 : l e1 = .ok lo e2) (h3 : h e2 = .ok hi e3) (h4 : v.get e3 = some t) (h5 : t.seqT = some ds) : gSlT a l h env = .ok (.tup (cutD ds lo hi)) e3 := by
  unfold gSlT
  rw [h1]
  show ((l e1).bind fun lo e2 => (h e2).bind fun hi e3 => R.lift (((v.get e3).bind T.seqT).map fun ds => D.tup (cutD ds lo hi)) e3) = _
  rw [h2]
  show ((h e2).bind fun hi e3 => R.lift (((v.get e3).bind T.seqT).map fun ds => D.tup (cutD ds lo hi)) e3) = _
  rw [h3]
  show R.lift (((v.get e3).bind T.seqT).map fun ds => D.tup (cutD ds lo hi)) e3 = _
  rw [h4]
  show R.lift ((t.seqT).map fun ds => D.tup (cutD ds lo hi)) e3 = _
  rw [h5]
  rfl
theorem gMake_ok {f : T → T → Option T} {a b : Gn Vl} {v w : Vl} {z : T} (h : a env = .ok v e) (h2 : b e = .ok w e2) (h3 : v.get e2 = some t) (h4 : w.get e2 = some u) (h5 : f t u = some z) : gMake f a b env = .ok z e2 := by
  unfold gMake
  rw [h]
  show ((b e).bind fun y e2 => R.lift ((v.get e2).bind fun t => (y.get e2).bind fun u => f t u) e2) = _
  rw [h2]
  show R.lift ((v.get e2).bind fun t => (w.get e2).bind fun u => f t u) e2 = _
  rw [h3, h4]
  show R.lift (f t u) e2 = _
  rw [h5]
  rfl
theorem gCatT_ok {a b : Gn Vl} {v w : Vl} {ds es : List D} (h : a env = .ok v e) (h2 : b e = .ok w e2) (h3 : v.get e2 = some t) (h4 : w.get e2 = some u) (h5 : t.seqT = some ds) (h6 : u.seqT = some es) (hz : ds.length + es.length ≤ 16777216) : gCatT a b env = .ok (.tup (ds ++ es)) e2 := by
  unfold gCatT
  rw [h]
  show ((b e).bind fun y e2 => R.lift (((v.get e2).bind T.seqT).bind fun ds => ((y.get e2).bind T.seqT).bind fun es => if ds.length + es.length ≤ sizeLine then some (D.tup (ds ++ es)) else none) e2) = _
  rw [h2]
  show R.lift (((v.get e2).bind T.seqT).bind fun ds => ((w.get e2).bind T.seqT).bind fun es => if ds.length + es.length ≤ sizeLine then some (D.tup (ds ++ es)) else none) e2 = _
  rw [h3, h4]
  show R.lift ((t.seqT).bind fun ds => (u.seqT).bind fun es => if ds.length + es.length ≤ sizeLine then some (D.tup (ds ++ es)) else none) e2 = _
  rw [h5, h6]
  show R.lift (if ds.length + es.length ≤ sizeLine then some (D.tup (ds ++ es)) else none) e2 = _
  rw [if_pos (by rw [sizeLine_eq]; exact hz)]
  rfl
theorem gUn_ok {f : D → Option D} {a : Gn D} (h : a env = .ok x e) (h2 : f x = some y) : gUn f a env = .ok y e := by
  unfold gUn
  rw [h]
  show R.lift (f x) e = _
  rw [h2]
  rfl
theorem gNotV_ok {a : Gn D} {b : Bool} (h : a env = .ok (.bl b) e) : gNotV a env = .ok (.bl (!b)) e := gUn_ok h rfl
theorem gTruth_ok {a : Gn Vl} {v : Vl} {b : Bool} (h : a env = .ok v e) (h2 : v.get e = some t) (h3 : truD t = some b) : gTruth a env = .ok b e := by
  unfold gTruth
  rw [h]
  show R.lift ((v.get e).bind truD) e = _
  rw [h2]
  show R.lift (truD t) e = _
  rw [h3]
  rfl
theorem gIsi_ok {n : String} {a : Gn Vl} {v : Vl} (h : a env = .ok v e) (h2 : v.get e = some t) (h3 : fIsi n t = some d) : gIsi n a env = .ok d e := by
  unfold gIsi
  rw [h]
  show R.lift ((v.get e).bind (fIsi n)) e = _
  rw [h2]
  show R.lift (fIsi n t) e = _
  rw [h3]
  rfl
theorem gAnd_tt {g k : Gn Bool} {r : R Bool} (h : g env = .ok true e) (h2 : k e = r) : gAnd g k env = r := by
  unfold gAnd
  rw [h]
  exact h2
theorem gAnd_ff {g k : Gn Bool} (h : g env = .ok false e) : gAnd g k env = .ok false e := by
  unfold gAnd
  rw [h]
  rfl
theorem gOr_tt {g k : Gn Bool} (h : g env = .ok true e) : gOr g k env = .ok true e := by
  unfold gOr
  rw [h]
  rfl
theorem gOr_ff {g k : Gn Bool} {r : R Bool} (h : g env = .ok false e) (h2 : k e = r) : gOr g k env = r := by
  unfold gOr
  rw [h]
  exact h2
/-- both sides leave the env as it is -/
theorem gAnd_ok {g k : Gn Bool} {a b : Bool} (h : g env = .ok a env) (h2 : k env = .ok b env) : gAnd g k env = .ok (a && b) env := by
  cases a with
  | true => exact gAnd_tt h h2
  | false => exact gAnd_ff h
theorem gOr_ok {g k : Gn Bool} {a b : Bool} (h : g env = .ok a env) (h2 : k env = .ok b env) : gOr g k env = .ok (a || b) env := by
  cases a with
  | true => exact gOr_tt h
  | false => exact gOr_ff h h2
theorem gAndV_ff {g k : Gn D} (h : g env = .ok (.bl false) e) : gAndV g k env = .ok (.bl false) e := by
  unfold gAndV
  rw [h]
  rfl
theorem gAndV_ok {g k : Gn D} {a b : Bool} (h : g env = .ok (.bl a) env) (h2 : k env = .ok (.bl b) env) : gAndV g k env = .ok (.bl (a && b)) env := by
  cases a with
  | true => exact (gAndV_tt h).trans h2
  | false => exact gAndV_ff h
theorem gOrV_tt {g k : Gn D} (h : g env = .ok (.bl true) e) : gOrV g k env = .ok (.bl true) e := by
  unfold gOrV
  rw [h]
  rfl
theorem gOrV_ff {g k : Gn D} {r : R D} (h : g env = .ok (.bl false) e) (h2 : k e = r) : gOrV g k env = r := by
  unfold gOrV
  rw [h]
  exact h2
theorem gOrV_ok {g k : Gn D} {a b : Bool} (h : g env = .ok (.bl a) env) (h2 : k env = .ok (.bl b) env) : gOrV g k env = .ok (.bl (a || b)) env := by
  cases a with
  | true => exact gOrV_tt h
  | false => exact gOrV_ff h h2
theorem gIfE_tt {α : Type} {c : Gn Bool} {g k : Gn α} {r : R α} (h : c env = .ok true e) (h2 : g e = r) : gIf c g k env = r := by
  unfold gIf
  rw [h]
  exact h2
theorem gIfE_ff {α : Type} {c : Gn Bool} {g k : Gn α} {r : R α} (h : c env = .ok false e) (h2 : k e = r) : gIf c g k env = r := by
  unfold gIf
  rw [h]
  exact h2
theorem gIfE_of {α : Type} {c : Gn Bool} {g k : Gn α} {r : R α} {b : Bool} (h : c env = .ok b e) (h2 : (if b = true then g e else k e) = r) : gIf c g k env = r := by
  unfold gIf
  rw [h]
  exact h2
theorem gChain_ok {f f' : D → D → Option D} {a b c : Gn D} {z : D} {p q : Bool} (h1 : a env = .ok x env) (h2 : b env = .ok y env) (h3 : c env = .ok z env) (h4 : f x y = some (.bl p)) (h5 : f' y z = some (.bl q)) : gChain f f' a b c env = .ok (.bl (p && q)) env := by
  unfold gChain
  rw [h1]
  show ((b env).bind fun y e2 => match f x y with
    | some (.bl true) => (c e2).bind fun z e3 => .lift (f' y z) e3
    | some (.bl false) => .ok (.bl false) e2
    | _ => .bad) = _
  rw [h2]
  simp only [R.bind_ok, h4]
  cases p with
  | true => simp only [h3, R.bind_ok, h5, R.lift_some, Bool.true_and]
  | false => rfl
theorem gOd_ok' {g : Gn D} (h : g env = .ok d e) : gOd g env = .ok (.val d) e := gOd_ok h
/-! statements -/
theorem gSeq_st {f g : Gs} {r : Sr} (h : f env = .nx e) (h2 : g e = r) : gSeq f g env = r := by rw [gSeq_nx h, h2]
theorem gIf_of {c : Gn Bool} {f g : Gs} {b : Bool} {r : Sr} (h : c env = .ok b e) (h2 : (if b = true then f e else g e) = r) : gIfS c f g env = r := by
  unfold gIfS
  rw [h]
  exact h2
theorem gExpr_ok {g : Gn D} (h : g env = .ok d e) : gExpr g env = .nx e := by
  unfold gExpr
  rw [h]
  rfl
theorem gAsg_ok {f : Tg} {g : Gn D} (h : g env = .ok d e) (h2 : f d e = some e2) : gAsg f g env = .nx e2 := by
  unfold gAsg
  rw [h]
  show (match f d e with | some e' => Sr.nx e' | none => .bad) = _
  rw [h2]
theorem gPar_ok {k : Gn (List D)} (h : k env = .ok [x, y] e) : gPar i j k env = .nx ((e.set i (some (.val x))).set j (some (.val y))) := by
  unfold gPar
  rw [h]
  rfl
theorem gMut_ok {f : List D → List D → Option (D × List D)} {k : Gn (List D)} {l0 l l' args : List D} {z : D} (h0 : env[i]? = some (some (.lst l0))) (h : k env = .ok args e) (h1 : e[i]? = some (some (.lst l))) (h2 : f l args = some (z, l')) : gMut i f k env = .ok z (e.set i (some (.lst l'))) := by
  unfold gMut
  rw [h0]
  show ((k env).bind fun args e => match e[i]? with
    | some (some (.lst l)) => match f l args with
      | some (z, l') => .ok z (e.set i (some (.lst l')))
      | none => .bad
    | _ => .bad) = _
  rw [h]
  simp only [R.bind_ok, h1, h2]
theorem fAppend_ok {l : List D} (h : l.length < 16777216) : fAppend l [d] = some (.non, l ++ [d]) := by
  unfold fAppend
  show (if l.length < sizeLine then some (D.non, l ++ [d]) else none) = _
  rw [if_pos (by rw [sizeLine_eq]; exact h)]
theorem gPut_ok {g gi : Gn D} {l0 l : List D} {n : Int} {j : Nat} (h : g env = .ok d e) (h0 : e[i]? = some (some (.lst l0))) (h1 : gi e = .ok (.int n) e2) (h2 : e2[i]? = some (some (.lst l))) (h3 : ixN l.length n = some j) : gPut i g gi env = .nx (e2.set i (some (.lst (l.set j d)))) := by
  unfold gPut
  rw [h]
  simp only [Sr.of_ok, h0, h1, h2, h3]
theorem gAug_ok {f : D → D → Option D} {g : Gn D} (h0 : env[i]? = some (some (.val x))) (h : g env = .ok y e) (h2 : f x y = some d) : gAug i f g env = .nx (e.set i (some (.val d))) := by
  unfold gAug
  rw [h0]
  simp only [h, Sr.of_ok, h2]
theorem gCall_ok {F : List T → FR} {k : Gn (List Vl)} {ls : List Vl} {ts : List T} {es : DL.Env} (h : k env = .ok ls e) (h2 : splitA ls e = some (ts, e2)) (h3 : F ts = .ok t es) : gCall F k env = .ok t (joinA ls es e2) := by
  unfold gCall
  rw [h]
  simp only [R.bind_ok, callR, h2, h3]
def allD : List Vl → Option (List T)
  | [] => some []
  | .d x :: ls => (allD ls).map (.val x :: ·)
  | .sl _ :: _ => none
theorem allD_split : ∀ {ls : List Vl} {ts : List T} {e : DL.Env}, allD ls = some ts → splitA ls e = some (ts, e)
  | [], ts, e, h => by cases (Option.some.inj h); rfl
  | .d x :: ls, ts, e, h => by
    obtain ⟨us, h1, rfl⟩ := Option.map_eq_some_iff.mp (show (allD ls).map (.val x :: ·) = some ts from h)
    simp [splitA, allD_split h1]
  | .sl i :: ls, ts, e, h => by cases h
theorem allD_join : ∀ {ls : List Vl} {ts : List T} {es e : DL.Env}, allD ls = some ts → joinA ls es e = e
  | [], ts, es, e, h => by cases es <;> rfl
  | .d x :: ls, ts, es, e, h => by
    obtain ⟨us, h1, rfl⟩ := Option.map_eq_some_iff.mp (show (allD ls).map (.val x :: ·) = some ts from h)
    cases es with
    | nil => rfl
    | cons a as => exact allD_join (ls := ls) (ts := us) h1
  | .sl i :: ls, ts, es, e, h => by cases h
theorem gCall1_ok {F : List T → FR} {k : Gn (List Vl)} {ls : List Vl} {ts : List T} {es : DL.Env} (h : k env = .ok ls e) (h2 : allD ls = some ts) (h3 : F ts = .ok t es) : gCall F k env = .ok t e := by
  have := gCall_ok (F := F) h (allD_split h2) h3
  rw [allD_join h2] at this
  exact this
theorem fIx_lst {ds : List D} {n : Int} (h : L2.atI ds n = some d) : fIx (.val (.lst ds)) (.val (.int n)) = some d := by
  unfold fIx
  simp [h]
theorem fIx_tup {ds : List D} {n : Int} (h : L2.atI ds n = some d) : fIx (.val (.tup ds)) (.val (.int n)) = some d := by
  unfold fIx
  simp [h]
theorem fIx_own {ds : List D} {n : Int} (h : L2.atI ds n = some d) : fIx (.lst ds) (.val (.int n)) = some d := by
  unfold fIx
  simp [h]
theorem fMod_ok {a b : Int} (h : 0 < b) : fMod (.int a) (.int b) = some (.int (a % b)) := by
  rw [fMod_i, cPos_i, if_pos (by simpa using h)]
theorem fDiv_ok {a b : Int} (h : 0 < b) (h2 : b < 1073741824) : fDiv (.int a) (.int b) = some (.int (a / b)) := by
  rw [fDiv_i, cDiv_i, if_pos (by simp [h, h2])]
theorem fMul_ok {a b : Int} (h : (-(2 ^ 64) < a ∧ a < 2 ^ 64) ∨ (-(2 ^ 64) < b ∧ b < 2 ^ 64)) : fMul (.int a) (.int b) = some (.int (a * b)) := by
  rw [fMul_i, if_pos]
  rcases h with h | h
  · exact cMul_l _ _ h
  · exact cMul_r _ _ h
theorem fEq_int {a b : Int} : fEq (.val (.int a)) (.val (.int b)) = some (.bl (decide (a = b))) := by simp
theorem fNe_int {a b : Int} : fNe (.val (.int a)) (.val (.int b)) = some (.bl (!decide (a = b))) := by simp
theorem fEq_pu {a b : D} (ha : a.pu = true) (hb : b.pu = true) (da : a.dp ≤ 64) (db : b.dp ≤ 64) : fEq (.val a) (.val b) = some (.bl (eqD a b)) := by
  rw [fEq_eq, tEq_pu ha hb da db]; rfl
theorem fNe_pu {a b : D} (ha : a.pu = true) (hb : b.pu = true) (da : a.dp ≤ 64) (db : b.dp ≤ 64) : fNe (.val a) (.val b) = some (.bl (!eqD a b)) := by
  rw [fNe_eq, tEq_pu ha hb da db]; rfl
end
def D.asL : D → Option (List D)
  | .lst ds => some ds
  | .ro ds => some ds
  | _ => none
def D.asT : D → Option (List D)
  | .tup ds => some ds
  | _ => none
def D.asB : D → Option Bool
  | .bl b => some b
  | _ => none
def D.asI : D → Option Int
  | .int b => some b
  | _ => none
def D.asS : D → Option Str
  | .str b => some b
  | _ => none
theorem asB_eq {d : D} {b : Bool} (h : d.asB = some b) : d = .bl b := by cases d <;> first | (cases (Option.some.inj h); rfl) | (cases h; done)
theorem asI_eq {d : D} {b : Int} (h : d.asI = some b) : d = .int b := by cases d <;> first | (cases (Option.some.inj h); rfl) | (cases h; done)
theorem asS_eq {d : D} {b : Str} (h : d.asS = some b) : d = .str b := by cases d <;> first | (cases (Option.some.inj h); rfl) | (cases h; done)
theorem asT_eq {d : D} {b : List D} (h : d.asT = some b) : d = .tup b := by cases d <;> first | (cases (Option.some.inj h); rfl) | (cases h; done)
section
variable {env e : DL.Env} {d : D}
theorem gILst_ok' {g : Gn D} {ds : List D} (h : g env = .ok d e) (h2 : d.asL = some ds) : gILst g env = .ok ds e := by
  unfold gILst
  rw [h]
  cases d <;> first | (cases (Option.some.inj h2); rfl) | (cases h2; done)
theorem gITup_ok' {g : Gn D} {ds : List D} (h : g env = .ok d e) (h2 : d.asT = some ds) : gITup g env = .ok ds e := gITup_ok (by rw [h, asT_eq h2])
theorem gIStr_ok' {g : Gn D} {z : Str} (h : g env = .ok d e) (h2 : d.asS = some z) : gIStr g env = .ok (strDs z) e := gIStr_ok (by rw [h, asS_eq h2])
theorem gPart_ok' {g : Gn D} {n : Int} (h : g env = .ok d e) (h2 : d.asI = some n) : gPart g env = .ok (some n) e := gPart_ok (by rw [h, asI_eq h2])
theorem gDB_ok' {g : Gn D} {b : Bool} (h : g env = .ok d e) (h2 : d.asB = some b) : gDB g env = .ok b e := gDB_ok (by rw [h, asB_eq h2])
theorem gNotV_ok' {g : Gn D} {b : Bool} (h : g env = .ok d e) (h2 : d.asB = some b) : gNotV g env = .ok (.bl (!b)) e := gNotV_ok (by rw [h, asB_eq h2])
theorem gAndV_ok' {g k : Gn D} {x y : D} {a b : Bool} (h : g env = .ok x env) (h1 : x.asB = some a) (h2 : k env = .ok y env) (h3 : y.asB = some b) : gAndV g k env = .ok (.bl (a && b)) env := gAndV_ok (by rw [h, asB_eq h1]) (by rw [h2, asB_eq h3])
theorem gOrV_ok' {g k : Gn D} {x y : D} {a b : Bool} (h : g env = .ok x env) (h1 : x.asB = some a) (h2 : k env = .ok y env) (h3 : y.asB = some b) : gOrV g k env = .ok (.bl (a || b)) env := gOrV_ok (by rw [h, asB_eq h1]) (by rw [h2, asB_eq h3])
end
/-- evaluate: the goal is g env = .ok ?d ?e (or a list of arguments, a part, a test) -/
theorem ev_of {p : Prop} (h : p := by
  repeat' first
    | with_reducible exact gC_ok | with_reducible exact gNilV_ok | with_reducible exact gNilA_ok | with_reducible exact gYes_ok | with_reducible exact gNoPart_ok | with_reducible assumption
    | ((with_reducible apply gVar_ok); rfl) | ((with_reducible apply gOwnL_ok); rfl) | ((with_reducible apply gAnyV_ok); rfl) | ((with_reducible apply gAnyL_ok); rfl)
    | with_reducible apply gVd_ok | with_reducible apply gConsV_ok | with_reducible apply gConsA_ok | with_reducible apply gBin_ok
    | with_reducible apply gLook_ok | with_reducible apply gCall1_ok | with_reducible apply gCallD_ok | with_reducible apply gCallT_ok
    | with_reducible apply gTup_ok | with_reducible apply gLst_ok | with_reducible apply gFz_ok | with_reducible apply gOd_ok'
    | with_reducible apply gDB_ok' | with_reducible apply gNot_ok | with_reducible apply gNotV_ok' | with_reducible apply gPart_ok'
    | with_reducible apply gSlL_ok | with_reducible apply gSlT_ok | with_reducible apply gMake_ok | with_reducible apply gCatT_ok
    | with_reducible apply gUn_ok | with_reducible apply gTruth_ok | with_reducible apply gIsi_ok | with_reducible apply gILst_ok'
    | with_reducible apply gITup_ok' | with_reducible apply gIStr_ok' | with_reducible apply gEnum_ok | with_reducible apply gZip_ok
    | with_reducible apply gAnd_ok | with_reducible apply gOr_ok | with_reducible apply gAndV_ok' | with_reducible apply gOrV_ok'
    | with_reducible apply gChain_ok
    | ((with_reducible apply gFrz_ok); rfl) | ((with_reducible apply gMov_ok); rfl)
    | with_reducible exact fEq_int | with_reducible exact fNe_int | with_reducible exact fMod_ok (by omega) | with_reducible exact fDiv_ok (by omega) (by omega) | with_reducible exact fMul_ok (by first | (left; omega) | (right; omega))
    | (refine (?_ : (_ : FR) = _); dsimp only [T.frz]; with_reducible assumption) | (refine (?_ : (_ : Option _) = _); dsimp only [T.frz]; with_reducible assumption) | (refine (?_ : (_ : Option _) = _); rfl) | (refine (?_ : (_ : Nat) ≤ _); first | omega | (simp; done) | (simp; omega))) : p := h
theorem ok_eq {α : Type} {r : R α} {d d' : α} {e e' : DL.Env} (h : r = .ok d e) (h1 : d = d') (h2 : e = e') : r = .ok d' e' := by rw [h, h1, h2]
theorem nx_eq {r : Sr} {e e' : DL.Env} (h : r = .nx e) (h2 : e = e') : r = .nx e' := by rw [h, h2]
theorem evr_of {p : Prop} (h : p := by (apply ok_eq; (· exact ev_of); (· rfl); (· rfl))) : p := h
theorem whileD_tt {c : Gn Bool} {b : Gs} {n : Nat} {env e e2 : DL.Env} (h : c env = .ok true e) (h2 : b e = .nx e2) : whileD c b (n + 1) env = whileD c b n e2 := by
  rw [whileD]
  simp only [h, Sr.of_ok, if_true, h2]
theorem whileD_ff {c : Gn Bool} {b : Gs} {n : Nat} {env e : DL.Env} (h : c env = .ok false e) : whileD c b (n + 1) env = .nx e := by
  rw [whileD]
  simp only [h, Sr.of_ok, Bool.false_eq_true, if_false]
theorem whileD_count {c : Gn Bool} {b : Gs} (St : Nat → DL.Env) (n : Nat) (hc : ∀ j, j < n → c (St j) = .ok true (St j) ∧ b (St j) = .nx (St (j + 1))) (hn : c (St n) = .ok false (St n)) : ∀ (m j fuel : Nat), j + m = n → m < fuel → whileD c b fuel (St j) = .nx (St n)
  | 0, j, 0, _, h => by omega
  | 0, j, fuel + 1, e, _ => by
    have : j = n := by omega
    subst this
    exact whileD_ff hn
  | m + 1, j, 0, _, h => by omega
  | m + 1, j, fuel + 1, e, h => by
    obtain ⟨h1, h2⟩ := hc j (by omega)
    rw [whileD_tt h1 h2]
    exact whileD_count St n hc hn m (j + 1) fuel (by omega) (by omega)
/-- evaluates to what is stated, up to plain reasoning -/
theorem evd_of {p : Prop} (h : p := by (apply ok_eq; (· exact ev_of); (· first | rfl | omega | (simp; done) | (simp; omega) | (simp [*]; done)); (· rfl))) : p := h
/-- a lambda that raises what is caught -/
theorem lamsR_one {m : Addr → Option Bool} {j : Nat} {g : Gn D} {gs : List (Gn D)} {env e : DL.Env} {z : Ex} {r : Sr} (h : g (env.set j none) = .exc z e) (hm : m z.C = some true) (hr : lamsR m j gs e = r) : lamsR m j (g :: gs) env = r := by
  rw [lamsR]
  simp only [h, hm, hr]
theorem gCall_exc {F : List T → FR} {k : Gn (List Vl)} {ls : List Vl} {ts : List T} {es env e : DL.Env} {z : Ex} (h : k env = .ok ls e) (h2 : allD ls = some ts) (h3 : F ts = .exc z es) : gCall F k env = .exc z e := by
  unfold gCall
  rw [h]
  simp only [R.bind_ok, callR, allD_split h2, h3, allD_join h2]
theorem exc1 {F : List T → FR} {k : Gn (List Vl)} {ls : List Vl} {ts : List T} {es env e : DL.Env} {z : Ex} (h : k env = .ok ls e) (h2 : allD ls = some ts) (h3 : F ts = .exc z es) : gFz (gCall F k) env = .exc z e := by
  unfold gFz
  rw [gCall_exc h h2 h3]
  rfl
/-- a call with the draws lent, in slot 1 -/
theorem call_dr {F : List T → FR} {k : Gn (List Vl)} {ls : List Vl} {ts : List T} {os : DL.Env} {s : Option T} {l l' : List D} {r : DL.Env} {t : T} (hk : k (s :: some (.lst l) :: r) = .ok ls (s :: some (.lst l) :: r)) (hd : allD ls = some ts) (h : F (.lst l :: ts) = .ok t (some (.lst l') :: os)) :
    gCall F (gConsV (gOwn 1) k) (s :: some (.lst l) :: r) = .ok t (s :: some (.lst l') :: r) := by
  have h2 : gConsV (gOwn 1) k (s :: some (.lst l) :: r) = .ok (.sl 1 :: ls) (s :: some (.lst l) :: r) := gConsV_ok (gOwnL_ok rfl) hk
  have h3 : splitA (.sl 1 :: ls) (s :: some (.lst l) :: r) = some (.lst l :: ts, s :: none :: r) := by
    show ((splitA ls (s :: none :: r)).map fun p => (T.lst l :: p.1, p.2)) = _
    rw [allD_split hd]
    rfl
  rw [gCall_ok h2 h3 h]
  show R.ok t (joinA ls os (s :: some (.lst l') :: r)) = _
  rw [allD_join hd]
theorem evexc_of {p : Prop} (h : p := by (apply exc1; (· exact ev_of); (· rfl); (· (dsimp only [T.frz]; assumption)))) : p := h
end DL


set_option maxHeartbeats 4000000
namespace L94
open PySem PySem.Spec PyProof.Rows L2 DL
def topS (i : Nat) : Stmt := PySem.Challenge.pw_paperark_k94_forks.main.body.getD i (.Pass ⟨0, 0, 0, 0⟩)
/-- addresses of classes -/
structure Ad where
  dummy : Nat := 0
  InvalidProof : Addr

/-- what the top has left -/
structure Txt [Tabs] (K : PySem.W.Frag) (mg : Str → Option Value) (base : Heap) (A : Ad) : Prop where
  d_sum_of : Df K mg "sum_of" (topS 8) ["octets"]
  d_leaf_sum : Df K mg "leaf_sum" (topS 9) ["octets"]
  d_joint_sum : Df K mg "joint_sum" (topS 10) ["first", "second"]
  d_cut_of : Df K mg "cut_of" (topS 11) ["count"]
  d_root_of : Df K mg "root_of" (topS 12) ["items"]
  d_item_proof : Df K mg "item_proof" (topS 13) ["items", "index"]
  d_climbed : Df K mg "climbed" (topS 14) ["count", "index", "found", "proof"]
  d_takes_item : Df K mg "takes_item" (topS 15) ["root", "count", "index", "octets", "proof"]
  d_fork_index : Df K mg "fork_index" (topS 17) ["first", "second"]
  d_fork_paper : Df K mg "fork_paper" (topS 18) ["first", "second"]
  d_takes_fork : Df K mg "takes_fork" (topS 19) ["root", "count", "other", "many", "told"]
  d__law_draws : Df K mg "_law_draws" (topS 21) ["script", "count"]
  d__law_take : Df K mg "_law_take" (topS 22) ["draws", "limit"]
  d__law_same : Df K mg "_law_same" (topS 23) ["found", "due"]
  d__law_sum : Df K mg "_law_sum" (topS 24) ["octets"]
  d__law_leaf : Df K mg "_law_leaf" (topS 25) ["octets"]
  d__law_joint : Df K mg "_law_joint" (topS 26) ["a", "b"]
  d__law_cut : Df K mg "_law_cut" (topS 27) ["count"]
  d__law_root : Df K mg "_law_root" (topS 28) ["sums"]
  d__law_proof : Df K mg "_law_proof" (topS 29) ["sums", "index"]
  d__law_climb : Df K mg "_law_climb" (topS 30) ["count", "index", "mine", "proof"]
  d__law_takes : Df K mg "_law_takes" (topS 31) ["root", "count", "index", "octets", "proof"]
  d__law_is_fork : Df K mg "_law_is_fork" (topS 32) ["root", "count", "other", "many", "told"]
  d__law_bent : Df K mg "_law_bent" (topS 33) ["draws", "told"]
  d_law : Df K mg "law" (topS 35) ["script"]
  b_all : mg "all" = none
  b_bool : mg "bool" = none
  b_dict : mg "dict" = none
  b_enumerate : mg "enumerate" = none
  b_int : mg "int" = none
  b_isinstance : mg "isinstance" = none
  b_len : mg "len" = none
  b_list : mg "list" = none
  b_min : mg "min" = none
  b_range : mg "range" = none
  b_str : mg "str" = none
  b_tuple : mg "tuple" = none
  b_zip : mg "zip" = none
  c_FIRST : Gd K mg "FIRST" (.int 7)
  c_FACTOR : Gd K mg "FACTOR" (.int 263)
  c_MODULUS : Gd K mg "MODULUS" (.int 34359738337)
  c_DIGITS : Gd K mg "DIGITS" (.int 5)
  x_InvalidProof : Xc K mg "InvalidProof" A.InvalidProof
  e_InvalidProof_InvalidProof : PySem.W.exmOne K (.ref A.InvalidProof) (.ref A.InvalidProof) = some true
  r__law_is_refused : Ref K mg "_law_is_refused" (topS 34) ["call"] "call"
  k_law : MkF K mg base "law" (topS 35)

abbrev s__law_is_refused : Stmt := topS 34
theorem sc__law_is_refused : FnScope ["call"] ["call"] (defScope s__law_is_refused) := ⟨rfl, rfl, rfl, by decide +kernel, rfl, by decide +kernel, by decide +kernel⟩
/-! ### sum_of -/
abbrev s_sum_of : Stmt := topS 8
abbrev N_sum_of : List Str := ["octets", "found", "octet"]
theorem sc_sum_of : FnScope N_sum_of ["octets"] (defScope s_sum_of) := ⟨rfl, rfl, rfl, by decide +kernel, rfl, by decide +kernel, by decide +kernel⟩
def m_sum_of (A : Ad) : Gs :=
  (gSeq (gSet 1 (gC (.int 7)))
  (gSeq (gFor (gILst (gVar 0)) (fName 2)
  (gSet 1 (gBin fMod (gBin fAdd (gBin fAdd (gBin fMul (gC (.int 263)) (gVar 1)) (gVar 2)) (gC (.int 1))) (gC (.int 34359738337)))))
  (gRet (gOd (gVar 1)))))
def F_sum_of (A : Ad) : List T → FR := bodyF (m_sum_of A) [false] 3
theorem ok_sum_of [Tabs] {P : Program} {w : World} {K : PySem.W.Frag} {mg : Str → Option Value} {base : Heap} {A : Ad} (Tx : Txt K mg base A)  : Cl P w K mg base 1 "sum_of" ["octets"] (F_sum_of A) :=
  Cl.mk (k := 0) (pin := []) [false] Tx.d_sum_of sc_sum_of rfl (by decide) (pin_of (by decide)) fun f cdv hcf B outer s H E hr tk => by exact (dss_cons (ds_set sc_sum_of.nd rfl (by first | exact Or.inl rfl | exact Or.inr rfl) (by decide) (de_gd Tx.c_FIRST rfl))
    (dss_cons (ds_for (passes_of rfl) rfl (di_list (de_var (pv 0))) (dg_name sc_sum_of.nd rfl (by first | exact Or.inl rfl | exact Or.inr rfl) (by decide))
    (dss_one (ds_set sc_sum_of.nd rfl (by first | exact Or.inl rfl | exact Or.inr rfl) (by decide) (de_bin op_mod pure_mod (de_bin op_addIS pure_add (de_bin op_addIS pure_add (de_bin op_mul pure_mul (de_gd Tx.c_FACTOR rfl) (de_var (pv 1))) (de_var (pv 2))) de_int) (de_gd Tx.c_MODULUS rfl)))))
    (dss_one (ds_ret (oe_de (de_var (pv 1)))))))
/-! ### leaf_sum -/
abbrev s_leaf_sum : Stmt := topS 9
abbrev N_leaf_sum : List Str := ["octets"]
theorem sc_leaf_sum : FnScope N_leaf_sum ["octets"] (defScope s_leaf_sum) := ⟨rfl, rfl, rfl, by decide +kernel, rfl, by decide +kernel, by decide +kernel⟩
def m_leaf_sum (A : Ad) : Gs :=
  (gRet (gCall (F_sum_of A) (gConsV (gVd (gFz (gMake fCat (gVd (gFz (gLst (gConsA (gC (.int 0)) gNilA)))) (gVd (gFz (gCallT fList (gConsV (gVd (gVar 0)) gNilV))))))) gNilV)))
def F_leaf_sum (A : Ad) : List T → FR := bodyF (m_leaf_sum A) [false] 1
theorem ok_leaf_sum [Tabs] {P : Program} {w : World} {K : PySem.W.Frag} {mg : Str → Option Value} {base : Heap} {A : Ad} (Tx : Txt K mg base A) (c_sum_of : Cl P w K mg base 1 "sum_of" ["octets"] (F_sum_of A)) : Cl P w K mg base 2 "leaf_sum" ["octets"] (F_leaf_sum A) :=
  Cl.mk (k := 1) (pin := []) [false] Tx.d_leaf_sum sc_leaf_sum rfl (by decide) (pin_of (by decide)) fun f cdv hcf B outer s H E hr tk => by exact (dss_one (ds_ret (oe_cl c_sum_of tk (hr.mono (by omega)) (by rfl) (va_cons (ve_de (de_oe (oe_bin op_cat make_cat (ve_de (de_oe (oe_lst (da_cons de_int da_nil)))) (ve_de (de_oe (oe_callTy call_list_of mc_list (by rfl) Tx.b_list (by decide +kernel) (va_cons (ve_de (de_var (pv 0))) va_nil))))))) va_nil) (lenSV len0V))))
/-! ### joint_sum -/
abbrev s_joint_sum : Stmt := topS 10
abbrev N_joint_sum : List Str := ["first", "second", "number", "at"]
theorem sc_joint_sum : FnScope N_joint_sum ["first", "second"] (defScope s_joint_sum) := ⟨rfl, rfl, rfl, by decide +kernel, rfl, by decide +kernel, by decide +kernel⟩
def m_joint_sum (A : Ad) : Gs :=
  (gRet (gCall (F_sum_of A) (gConsV (gVd (gFz (gMake fCat (gVd (gFz (gLst (gConsA (gC (.int 1)) gNilA)))) (gVd (gFz (gLc2 (gITup (gTup (gConsA (gVar 0) (gConsA (gVar 1) gNilA)))) (fName 2) gYes (gRng1 (gConsA (gC (.int 5)) gNilA)) (fName 3) gYes (gBin fAnd (gBin fShr (gVar 2) (gBin fMul (gC (.int 8)) (gVar 3))) (gC (.int 255))) [2, 3] [3])))))) gNilV)))
def F_joint_sum (A : Ad) : List T → FR := bodyF (m_joint_sum A) [false, false] 4
theorem ok_joint_sum [Tabs] {P : Program} {w : World} {K : PySem.W.Frag} {mg : Str → Option Value} {base : Heap} {A : Ad} (Tx : Txt K mg base A) (c_sum_of : Cl P w K mg base 1 "sum_of" ["octets"] (F_sum_of A)) : Cl P w K mg base 2 "joint_sum" ["first", "second"] (F_joint_sum A) :=
  Cl.mk (k := 1) (pin := []) [false, false] Tx.d_joint_sum sc_joint_sum rfl (by decide) (pin_of (by decide)) fun f cdv hcf B outer s H E hr tk => by exact (dss_one (ds_ret (oe_cl c_sum_of tk (hr.mono (by omega)) (by rfl) (va_cons (ve_de (de_oe (oe_bin op_cat make_cat (ve_de (de_oe (oe_lst (da_cons de_int da_nil)))) (ve_de (de_oe (oe_lc2 (own := [("number", 2), ("at", 3)]) (vs1 := [3]) rfl sc_joint_sum.nd (di_tup (de_tup (da_cons (de_var (pv 0)) (da_cons (de_var (pv 1)) da_nil)))) (blkOk_by (N := N_joint_sum) (sc := (defScope s_joint_sum)) (by decide +kernel)) (by decide) (fun _ _ _ _ _ => (dg_name sc_joint_sum.nd rfl (by first | exact Or.inl rfl | exact Or.inr rfl) (show 2 ∉ compl N_joint_sum.length [2, 3] from by decide))) (fun _ _ _ _ _ => bt_nil) (fun _ _ _ _ _ => (di_range1 (by rfl) Tx.b_range (da_cons (de_gd Tx.c_DIGITS rfl) da_nil))) (fun _ _ _ _ _ => (dg_name sc_joint_sum.nd rfl (by first | exact Or.inl rfl | exact Or.inr rfl) (show 3 ∉ compl N_joint_sum.length [3] from by decide))) (fun _ _ _ _ _ => bt_nil) (fun _ _ _ _ _ => (de_bin op_and pure_and (de_bin op_shr pure_shr (de_var (pv 2)) (de_bin op_mul pure_mul de_int (de_var (pv 3)))) de_int)))))))) va_nil) (lenSV len0V))))
/-! ### cut_of -/
abbrev s_cut_of : Stmt := topS 11
abbrev N_cut_of : List Str := ["count"]
theorem sc_cut_of : FnScope N_cut_of ["count"] (defScope s_cut_of) := ⟨rfl, rfl, rfl, by decide +kernel, rfl, by decide +kernel, by decide +kernel⟩
def m_cut_of (A : Ad) : Gs :=
  (gRet (gOd (gBin fShl (gC (.int 1)) (gBin fSub (gUn fBits (gBin fSub (gVar 0) (gC (.int 1)))) (gC (.int 1))))))
def F_cut_of (A : Ad) : List T → FR := bodyF (m_cut_of A) [false] 1
theorem ok_cut_of [Tabs] {P : Program} {w : World} {K : PySem.W.Frag} {mg : Str → Option Value} {base : Heap} {A : Ad} (Tx : Txt K mg base A)  : Cl P w K mg base 1 "cut_of" ["count"] (F_cut_of A) :=
  Cl.mk (k := 0) (pin := []) [false] Tx.d_cut_of sc_cut_of rfl (by decide) (pin_of (by decide)) fun f cdv hcf B outer s H E hr tk => by exact (dss_one (ds_ret (oe_de (de_bin op_shl pure_shl de_int (de_bin op_sub pure_sub (de_bits (de_bin op_sub pure_sub (de_var (pv 0)) de_int)) de_int)))))
/-! ### root_of -/
abbrev s_root_of : Stmt := topS 12
abbrev N_root_of : List Str := ["items", "cut"]
theorem sc_root_of : FnScope N_root_of ["items"] (defScope s_root_of) := ⟨rfl, rfl, rfl, by decide +kernel, rfl, by decide +kernel, by decide +kernel⟩
def m_root_of (A : Ad) (rec : List T → FR) : Gs :=
  (gSeq (gIfS (gDB (gLook fEq (gVd (gCallD fLen (gConsV (gVd (gVar 0)) gNilV))) (gVd (gC (.int 0)))))
  (gRaise A.InvalidProof)
  gNx)
  (gSeq (gIfS (gDB (gLook fEq (gVd (gCallD fLen (gConsV (gVd (gVar 0)) gNilV))) (gVd (gC (.int 1)))))
  (gRet (gCall (F_leaf_sum A) (gConsV (gVd (gLook fIx (gVd (gVar 0)) (gVd (gC (.int 0))))) gNilV)))
  gNx)
  (gSeq (gSet 1 (gFz (gCall (F_cut_of A) (gConsV (gVd (gCallD fLen (gConsV (gVd (gVar 0)) gNilV))) gNilV))))
  (gRet (gCall (F_joint_sum A) (gConsV (gVd (gFz (gCall rec (gConsV (gVd (gFz (gSlL (gVd (gVar 0)) gNoPart (gPart (gVar 1))))) gNilV)))) (gConsV (gVd (gFz (gCall rec (gConsV (gVd (gFz (gSlL (gVd (gVar 0)) (gPart (gVar 1)) gNoPart))) gNilV)))) gNilV)))))))
def F_root_of (A : Ad) : Nat → List T → FR
  | 0 => fun _ => .bad
  | n + 1 => bodyF (m_root_of A (F_root_of A n)) [false] 2
theorem ok_root_of  [Tabs] {P : Program} {w : World} {K : PySem.W.Frag} {mg : Str → Option Value} {base : Heap} {A : Ad} (Tx : Txt K mg base A) (c_leaf_sum : Cl P w K mg base 2 "leaf_sum" ["octets"] (F_leaf_sum A)) (c_cut_of : Cl P w K mg base 1 "cut_of" ["count"] (F_cut_of A)) (c_joint_sum : Cl P w K mg base 2 "joint_sum" ["first", "second"] (F_joint_sum A)) : ∀ n : Nat, Cl P w K mg base (n + 2) "root_of" ["items"] (F_root_of A n)
  | 0 => Cl.none Tx.d_root_of
  | n + 1 => by
    have ih := ok_root_of (P := P) (w := w) Tx c_leaf_sum c_cut_of c_joint_sum n
    exact Cl.mk (pin := []) [false] Tx.d_root_of sc_root_of rfl (by decide) (pin_of (by decide)) fun f cdv hcf B outer s H E hr tk => by exact (dss_cons (ds_if (be_lcmp (op_eqD hr.units) look_eq (ve_de (de_callB call_len pc_len (by rfl) Tx.b_len (by decide +kernel) (va_cons (ve_de (de_var (pv 0))) va_nil))) (ve_de de_int) (nomark _))
    (dss_one (ds_raiseC Tx.x_InvalidProof rfl tk (by rfl)))
    dss_nil)
    (dss_cons (ds_if (be_lcmp (op_eqD hr.units) look_eq (ve_de (de_callB call_len pc_len (by rfl) Tx.b_len (by decide +kernel) (va_cons (ve_de (de_var (pv 0))) va_nil))) (ve_de de_int) (nomark _))
    (dss_one (ds_ret (oe_cl c_leaf_sum tk (hr.mono (by omega)) (by rfl) (va_cons (ve_de (de_ix ix_seq look_ix (ve_de (de_var (pv 0))) (ve_de de_int) (fun _ _ => rfl))) va_nil) (lenSV len0V))))
    dss_nil)
    (dss_cons (ds_set sc_root_of.nd rfl (by first | exact Or.inl rfl | exact Or.inr rfl) (by decide) (de_oe (oe_cl c_cut_of tk (hr.mono (by omega)) (by rfl) (va_cons (ve_de (de_callB call_len pc_len (by rfl) Tx.b_len (by decide +kernel) (va_cons (ve_de (de_var (pv 0))) va_nil))) va_nil) (lenSV len0V))))
    (dss_one (ds_ret (oe_cl c_joint_sum tk (hr.mono (by omega)) (by rfl) (va_cons (ve_de (de_oe (oe_cl ih tk hr (by rfl) (va_cons (ve_de (de_oe (oe_slL (ve_de (de_var (pv 0))) pt_no (pt_some (de_var (pv 1)))))) va_nil) (lenSV len0V)))) (va_cons (ve_de (de_oe (oe_cl ih tk hr (by rfl) (va_cons (ve_de (de_oe (oe_slL (ve_de (de_var (pv 0))) (pt_some (de_var (pv 1))) pt_no))) va_nil) (lenSV len0V)))) va_nil)) (lenSV (lenSV len0V))))))))
/-! ### item_proof -/
abbrev s_item_proof : Stmt := topS 13
abbrev N_item_proof : List Str := ["items", "index", "cut"]
theorem sc_item_proof : FnScope N_item_proof ["items", "index"] (defScope s_item_proof) := ⟨rfl, rfl, rfl, by decide +kernel, rfl, by decide +kernel, by decide +kernel⟩
def m_item_proof (A : Ad) (rec : List T → FR) : Gs :=
  (gSeq (gIfS (gNot (gDB (gChain fLe fLt (gC (.int 0)) (gVar 1) (gCallD fLen (gConsV (gVd (gVar 0)) gNilV)))))
  (gRaise A.InvalidProof)
  gNx)
  (gSeq (gIfS (gDB (gLook fEq (gVd (gCallD fLen (gConsV (gVd (gVar 0)) gNilV))) (gVd (gC (.int 1)))))
  (gRet (gLst gNilA))
  gNx)
  (gSeq (gSet 2 (gFz (gCall (F_cut_of A) (gConsV (gVd (gCallD fLen (gConsV (gVd (gVar 0)) gNilV))) gNilV))))
  (gSeq (gIfS (gDB (gBin fLt (gVar 1) (gVar 2)))
  (gRet (gMake fCat (gVd (gFz (gCall rec (gConsV (gVd (gFz (gSlL (gVd (gVar 0)) gNoPart (gPart (gVar 2))))) (gConsV (gVd (gVar 1)) gNilV))))) (gVd (gFz (gLst (gConsA (gFz (gCall (F_root_of A 12) (gConsV (gVd (gFz (gSlL (gVd (gVar 0)) (gPart (gVar 2)) gNoPart))) gNilV))) gNilA))))))
  gNx)
  (gRet (gMake fCat (gVd (gFz (gCall rec (gConsV (gVd (gFz (gSlL (gVd (gVar 0)) (gPart (gVar 2)) gNoPart))) (gConsV (gVd (gBin fSub (gVar 1) (gVar 2))) gNilV))))) (gVd (gFz (gLst (gConsA (gFz (gCall (F_root_of A 12) (gConsV (gVd (gFz (gSlL (gVd (gVar 0)) gNoPart (gPart (gVar 2))))) gNilV))) gNilA))))))))))
def F_item_proof (A : Ad) : Nat → List T → FR
  | 0 => fun _ => .bad
  | n + 1 => bodyF (m_item_proof A (F_item_proof A n)) [false, false] 3
theorem ok_item_proof  [Tabs] {P : Program} {w : World} {K : PySem.W.Frag} {mg : Str → Option Value} {base : Heap} {A : Ad} (Tx : Txt K mg base A) (c_cut_of : Cl P w K mg base 1 "cut_of" ["count"] (F_cut_of A)) (c_root_of : Cl P w K mg base 14 "root_of" ["items"] (F_root_of A 12)) : ∀ n : Nat, Cl P w K mg base (n + 14) "item_proof" ["items", "index"] (F_item_proof A n)
  | 0 => Cl.none Tx.d_item_proof
  | n + 1 => by
    have ih := ok_item_proof (P := P) (w := w) Tx c_cut_of c_root_of n
    exact Cl.mk (pin := []) [false, false] Tx.d_item_proof sc_item_proof rfl (by decide) (pin_of (by decide)) fun f cdv hcf B outer s H E hr tk => by exact (dss_cons (ds_if (be_not (be_chain op_leIS op_ltIS pure_le pure_lt de_int (de_var (pv 1)) (de_callB call_len pc_len (by rfl) Tx.b_len (by decide +kernel) (va_cons (ve_de (de_var (pv 0))) va_nil))))
    (dss_one (ds_raiseC Tx.x_InvalidProof rfl tk (by rfl)))
    dss_nil)
    (dss_cons (ds_if (be_lcmp (op_eqD hr.units) look_eq (ve_de (de_callB call_len pc_len (by rfl) Tx.b_len (by decide +kernel) (va_cons (ve_de (de_var (pv 0))) va_nil))) (ve_de de_int) (nomark _))
    (dss_one (ds_ret (oe_lst da_nil)))
    dss_nil)
    (dss_cons (ds_set sc_item_proof.nd rfl (by first | exact Or.inl rfl | exact Or.inr rfl) (by decide) (de_oe (oe_cl c_cut_of tk (hr.mono (by omega)) (by rfl) (va_cons (ve_de (de_callB call_len pc_len (by rfl) Tx.b_len (by decide +kernel) (va_cons (ve_de (de_var (pv 0))) va_nil))) va_nil) (lenSV len0V))))
    (dss_cons (ds_if (be_cmp op_ltIS pure_lt (de_var (pv 1)) (de_var (pv 2)) (nomark _))
    (dss_one (ds_ret (oe_bin op_cat make_cat (ve_de (de_oe (oe_cl ih tk hr (by rfl) (va_cons (ve_de (de_oe (oe_slL (ve_de (de_var (pv 0))) pt_no (pt_some (de_var (pv 2)))))) (va_cons (ve_de (de_var (pv 1))) va_nil)) (lenSV (lenSV len0V))))) (ve_de (de_oe (oe_lst (da_cons (de_oe (oe_cl c_root_of tk (hr.mono (by omega)) (by rfl) (va_cons (ve_de (de_oe (oe_slL (ve_de (de_var (pv 0))) (pt_some (de_var (pv 2))) pt_no))) va_nil) (lenSV len0V))) da_nil)))))))
    dss_nil)
    (dss_one (ds_ret (oe_bin op_cat make_cat (ve_de (de_oe (oe_cl ih tk hr (by rfl) (va_cons (ve_de (de_oe (oe_slL (ve_de (de_var (pv 0))) (pt_some (de_var (pv 2))) pt_no))) (va_cons (ve_de (de_bin op_sub pure_sub (de_var (pv 1)) (de_var (pv 2)))) va_nil)) (lenSV (lenSV len0V))))) (ve_de (de_oe (oe_lst (da_cons (de_oe (oe_cl c_root_of tk (hr.mono (by omega)) (by rfl) (va_cons (ve_de (de_oe (oe_slL (ve_de (de_var (pv 0))) pt_no (pt_some (de_var (pv 2)))))) va_nil) (lenSV len0V))) da_nil)))))))))))
/-! ### climbed -/
abbrev s_climbed : Stmt := topS 14
abbrev N_climbed : List Str := ["count", "index", "found", "proof", "cut", "told", "mine", "rest"]
theorem sc_climbed : FnScope N_climbed ["count", "index", "found", "proof"] (defScope s_climbed) := ⟨rfl, rfl, rfl, by decide +kernel, rfl, by decide +kernel, by decide +kernel⟩
def m_climbed (A : Ad) (rec : List T → FR) : Gs :=
  (gSeq (gIfS (gDB (gLook fEq (gVd (gVar 0)) (gVd (gC (.int 1)))))
  (gRet (gOd (gTup (gConsA (gVar 2) (gConsA (gVar 3) gNilA)))))
  gNx)
  (gSeq (gSet 4 (gFz (gCall (F_cut_of A) (gConsV (gVd (gVar 0)) gNilV))))
  (gSeq (gSet 5 (gFz (gIf (gDB (gBin fLt (gVar 1) (gVar 4))) (gCall rec (gConsV (gVd (gVar 4)) (gConsV (gVd (gVar 1)) (gConsV (gVd (gVar 2)) (gConsV (gVd (gVar 3)) gNilV))))) (gCall rec (gConsV (gVd (gBin fSub (gVar 0) (gVar 4))) (gConsV (gVd (gBin fSub (gVar 1) (gVar 4))) (gConsV (gVd (gVar 2)) (gConsV (gVd (gVar 3)) gNilV))))))))
  (gSeq (gIfS (gOr (gDB (gBin fIsN (gVar 5) (gC .non))) (gNot (gTruth (gVd (gLook fIx (gVd (gVar 5)) (gVd (gC (.int 1))))))))
  (gRet (gOd (gC .non)))
  gNx)
  (gSeq (gAsg (fTup (fConsG (fName 6) (fConsG (fName 7) fNilG))) (gVar 5))
  (gRet (gOd (gTup (gConsA (gFz (gIf (gDB (gBin fLt (gVar 1) (gVar 4))) (gCall (F_joint_sum A) (gConsV (gVd (gVar 6)) (gConsV (gVd (gLook fIx (gVd (gVar 7)) (gVd (gC (.int 0))))) gNilV))) (gCall (F_joint_sum A) (gConsV (gVd (gLook fIx (gVd (gVar 7)) (gVd (gC (.int 0))))) (gConsV (gVd (gVar 6)) gNilV))))) (gConsA (gFz (gSlL (gVd (gVar 7)) (gPart (gC (.int 1))) gNoPart)) gNilA))))))))))
def F_climbed (A : Ad) : Nat → List T → FR
  | 0 => fun _ => .bad
  | n + 1 => bodyF (m_climbed A (F_climbed A n)) [false, false, false, false] 8
theorem ok_climbed  [Tabs] {P : Program} {w : World} {K : PySem.W.Frag} {mg : Str → Option Value} {base : Heap} {A : Ad} (Tx : Txt K mg base A) (c_cut_of : Cl P w K mg base 1 "cut_of" ["count"] (F_cut_of A)) (c_joint_sum : Cl P w K mg base 2 "joint_sum" ["first", "second"] (F_joint_sum A)) : ∀ n : Nat, Cl P w K mg base (n + 2) "climbed" ["count", "index", "found", "proof"] (F_climbed A n)
  | 0 => Cl.none Tx.d_climbed
  | n + 1 => by
    have ih := ok_climbed (P := P) (w := w) Tx c_cut_of c_joint_sum n
    exact Cl.mk (pin := []) [false, false, false, false] Tx.d_climbed sc_climbed rfl (by decide) (pin_of (by decide)) fun f cdv hcf B outer s H E hr tk => by exact (dss_cons (ds_if (be_lcmp (op_eqD hr.units) look_eq (ve_de (de_var (pv 0))) (ve_de de_int) (nomark _))
    (dss_one (ds_ret (oe_de (de_tup (da_cons (de_var (pv 2)) (da_cons (de_var (pv 3)) da_nil))))))
    dss_nil)
    (dss_cons (ds_set sc_climbed.nd rfl (by first | exact Or.inl rfl | exact Or.inr rfl) (by decide) (de_oe (oe_cl c_cut_of tk (hr.mono (by omega)) (by rfl) (va_cons (ve_de (de_var (pv 0))) va_nil) (lenSV len0V))))
    (dss_cons (ds_set sc_climbed.nd rfl (by first | exact Or.inl rfl | exact Or.inr rfl) (by decide) (de_oe (oe_if (be_cmp op_ltIS pure_lt (de_var (pv 1)) (de_var (pv 4)) (nomark _)) (oe_cl ih tk hr (by rfl) (va_cons (ve_de (de_var (pv 4))) (va_cons (ve_de (de_var (pv 1))) (va_cons (ve_de (de_var (pv 2))) (va_cons (ve_de (de_var (pv 3))) va_nil)))) (lenSV (lenSV (lenSV (lenSV len0V))))) (oe_cl ih tk hr (by rfl) (va_cons (ve_de (de_bin op_sub pure_sub (de_var (pv 0)) (de_var (pv 4)))) (va_cons (ve_de (de_bin op_sub pure_sub (de_var (pv 1)) (de_var (pv 4)))) (va_cons (ve_de (de_var (pv 2))) (va_cons (ve_de (de_var (pv 3))) va_nil)))) (lenSV (lenSV (lenSV (lenSV len0V))))))))
    (dss_cons (ds_if ((bw_or (be_cmp op_isN pure_isN (de_var (pv 5)) de_non (nomark _)) (bw_one_or (be_not (be_truth (ve_de (de_ix ix_seq look_ix (ve_de (de_var (pv 5))) (ve_de de_int) (fun _ _ => rfl)))))))).pt
    (dss_one (ds_ret (oe_de de_non)))
    dss_nil)
    (dss_cons (ds_asg (de_var (pv 5)) (dg_tup rfl (dgs_cons (dg_name sc_climbed.nd rfl (by first | exact Or.inl rfl | exact Or.inr rfl) (by decide)) (dgs_cons (dg_name sc_climbed.nd rfl (by first | exact Or.inl rfl | exact Or.inr rfl) (by decide)) dgs_nil)) (lenGs (lenGs len0))))
    (dss_one (ds_ret (oe_de (de_tup (da_cons (de_oe (oe_if (be_cmp op_ltIS pure_lt (de_var (pv 1)) (de_var (pv 4)) (nomark _)) (oe_cl c_joint_sum tk (hr.mono (by omega)) (by rfl) (va_cons (ve_de (de_var (pv 6))) (va_cons (ve_de (de_ix ix_seq look_ix (ve_de (de_var (pv 7))) (ve_de de_int) (fun _ _ => rfl))) va_nil)) (lenSV (lenSV len0V))) (oe_cl c_joint_sum tk (hr.mono (by omega)) (by rfl) (va_cons (ve_de (de_ix ix_seq look_ix (ve_de (de_var (pv 7))) (ve_de de_int) (fun _ _ => rfl))) (va_cons (ve_de (de_var (pv 6))) va_nil)) (lenSV (lenSV len0V))))) (da_cons (de_oe (oe_slL (ve_de (de_var (pv 7))) (pt_some de_int) pt_no)) da_nil)))))))))))
/-! ### takes_item -/
abbrev s_takes_item : Stmt := topS 15
abbrev N_takes_item : List Str := ["root", "count", "index", "octets", "proof"]
theorem sc_takes_item : FnScope N_takes_item ["root", "count", "index", "octets", "proof"] (defScope s_takes_item) := ⟨rfl, rfl, rfl, by decide +kernel, rfl, by decide +kernel, by decide +kernel⟩
def m_takes_item (A : Ad) : Gs :=
  (gSeq (gIfS (gNot (gDB (gChain fLe fLt (gC (.int 0)) (gVar 2) (gVar 1))))
  (gRet (gOd (gC (.bl false))))
  gNx)
  (gRet (gOd (gLook fEq (gVd (gFz (gCall (F_climbed A 12) (gConsV (gVd (gVar 1)) (gConsV (gVd (gVar 2)) (gConsV (gVd (gFz (gCall (F_leaf_sum A) (gConsV (gVd (gVar 3)) gNilV)))) (gConsV (gVd (gFz (gCallT fList (gConsV (gVd (gVar 4)) gNilV)))) gNilV))))))) (gVd (gTup (gConsA (gVar 0) (gConsA (gFz (gLst gNilA)) gNilA))))))))
def F_takes_item (A : Ad) : List T → FR := bodyF (m_takes_item A) [false, false, false, false, false] 5
theorem ok_takes_item [Tabs] {P : Program} {w : World} {K : PySem.W.Frag} {mg : Str → Option Value} {base : Heap} {A : Ad} (Tx : Txt K mg base A) (c_leaf_sum : Cl P w K mg base 2 "leaf_sum" ["octets"] (F_leaf_sum A)) (c_climbed : Cl P w K mg base 14 "climbed" ["count", "index", "found", "proof"] (F_climbed A 12)) : Cl P w K mg base 15 "takes_item" ["root", "count", "index", "octets", "proof"] (F_takes_item A) :=
  Cl.mk (k := 14) (pin := []) [false, false, false, false, false] Tx.d_takes_item sc_takes_item rfl (by decide) (pin_of (by decide)) fun f cdv hcf B outer s H E hr tk => by exact (dss_cons (ds_if (be_not (be_chain op_leIS op_ltIS pure_le pure_lt de_int (de_var (pv 2)) (de_var (pv 1))))
    (dss_one (ds_ret (oe_de de_bl)))
    dss_nil)
    (dss_one (ds_ret (oe_de (de_lcmp (op_eqD hr.units) look_eq (ve_de (de_oe (oe_cl c_climbed tk (hr.mono (by omega)) (by rfl) (va_cons (ve_de (de_var (pv 1))) (va_cons (ve_de (de_var (pv 2))) (va_cons (ve_de (de_oe (oe_cl c_leaf_sum tk (hr.mono (by omega)) (by rfl) (va_cons (ve_de (de_var (pv 3))) va_nil) (lenSV len0V)))) (va_cons (ve_de (de_oe (oe_callTy call_list_of mc_list (by rfl) Tx.b_list (by decide +kernel) (va_cons (ve_de (de_var (pv 4))) va_nil)))) va_nil)))) (lenSV (lenSV (lenSV (lenSV len0V))))))) (ve_de (de_tup (da_cons (de_var (pv 0)) (da_cons (de_oe (oe_lst da_nil)) da_nil)))) (nomark _))))))
/-! ### fork_index -/
abbrev s_fork_index : Stmt := topS 17
abbrev N_fork_index : List Str := ["first", "second", "at", "one", "other"]
theorem sc_fork_index : FnScope N_fork_index ["first", "second"] (defScope s_fork_index) := ⟨rfl, rfl, rfl, by decide +kernel, rfl, by decide +kernel, by decide +kernel⟩
def m_fork_index (A : Ad) : Gs :=
  (gSeq (gFor (gEnZ (gConsA (gVar 0) (gConsA (gVar 1) gNilA))) (fTup (fConsG (fName 2) (fConsG (fTup (fConsG (fName 3) (fConsG (fName 4) fNilG))) fNilG)))
  (gIfS (gDB (gLook fNe (gVd (gFz (gCallT fList (gConsV (gVd (gVar 3)) gNilV)))) (gVd (gFz (gCallT fList (gConsV (gVd (gVar 4)) gNilV))))))
  (gRet (gOd (gVar 2)))
  gNx))
  (gRet (gOd (gC .non))))
def F_fork_index (A : Ad) : List T → FR := bodyF (m_fork_index A) [false, false] 5
theorem ok_fork_index [Tabs] {P : Program} {w : World} {K : PySem.W.Frag} {mg : Str → Option Value} {base : Heap} {A : Ad} (Tx : Txt K mg base A)  : Cl P w K mg base 1 "fork_index" ["first", "second"] (F_fork_index A) :=
  Cl.mk (k := 0) (pin := []) [false, false] Tx.d_fork_index sc_fork_index rfl (by decide) (pin_of (by decide)) fun f cdv hcf B outer s H E hr tk => by exact (dss_cons (ds_for (passes_of rfl) rfl (di_enZ (by rfl) Tx.b_zip (by rfl) Tx.b_enumerate (da_cons (de_var (pv 0)) (da_cons (de_var (pv 1)) da_nil))) (dg_tup rfl (dgs_cons (dg_name sc_fork_index.nd rfl (by first | exact Or.inl rfl | exact Or.inr rfl) (by decide)) (dgs_cons (dg_tup rfl (dgs_cons (dg_name sc_fork_index.nd rfl (by first | exact Or.inl rfl | exact Or.inr rfl) (by decide)) (dgs_cons (dg_name sc_fork_index.nd rfl (by first | exact Or.inl rfl | exact Or.inr rfl) (by decide)) dgs_nil)) (lenGs (lenGs len0))) dgs_nil)) (lenGs (lenGs len0)))
    (dss_one (ds_if (be_lcmp (op_neD hr.units) look_ne (ve_de (de_oe (oe_callTy call_list_of mc_list (by rfl) Tx.b_list (by decide +kernel) (va_cons (ve_de (de_var (pv 3))) va_nil)))) (ve_de (de_oe (oe_callTy call_list_of mc_list (by rfl) Tx.b_list (by decide +kernel) (va_cons (ve_de (de_var (pv 4))) va_nil)))) (nomark _))
    (dss_one (ds_ret (oe_de (de_var (pv 2)))))
    dss_nil)))
    (dss_one (ds_ret (oe_de de_non))))
/-! ### fork_paper -/
abbrev s_fork_paper : Stmt := topS 18
abbrev N_fork_paper : List Str := ["first", "second", "at", "one", "other"]
theorem sc_fork_paper : FnScope N_fork_paper ["first", "second"] (defScope s_fork_paper) := ⟨rfl, rfl, rfl, by decide +kernel, rfl, by decide +kernel, by decide +kernel⟩
def m_fork_paper (A : Ad) : Gs :=
  (gSeq (gIfS (gOr (gDB (gLook fEq (gVd (gCallD fLen (gConsV (gVd (gVar 0)) gNilV))) (gVd (gC (.int 0))))) (gDB (gLook fEq (gVd (gCallD fLen (gConsV (gVd (gVar 1)) gNilV))) (gVd (gC (.int 0))))))
  (gRaise A.InvalidProof)
  gNx)
  (gSeq (gSet 2 (gFz (gCall (F_fork_index A) (gConsV (gVd (gVar 0)) (gConsV (gVd (gVar 1)) gNilV)))))
  (gSeq (gIfS (gDB (gBin fIsN (gVar 2) (gC .non)))
  (gRet (gOd (gC .non)))
  gNx)
  (gSeq (gPar 3 4 (gConsA (gFz (gCallT fTuple (gConsV (gVd (gFz (gCall (F_item_proof A 12) (gConsV (gVd (gVar 0)) (gConsV (gVd (gVar 2)) gNilV))))) gNilV))) (gConsA (gFz (gCallT fTuple (gConsV (gVd (gFz (gCall (F_item_proof A 12) (gConsV (gVd (gVar 1)) (gConsV (gVd (gVar 2)) gNilV))))) gNilV))) gNilA)))
  (gRet (gOd (gTup (gConsA (gVar 2) (gConsA (gFz (gCallT fTuple (gConsV (gVd (gLook fIx (gVd (gVar 0)) (gVd (gVar 2)))) gNilV))) (gConsA (gVar 3) (gConsA (gFz (gCallT fTuple (gConsV (gVd (gLook fIx (gVd (gVar 1)) (gVd (gVar 2)))) gNilV))) (gConsA (gVar 4) gNilA))))))))))))
def F_fork_paper (A : Ad) : List T → FR := bodyF (m_fork_paper A) [false, false] 5
theorem ok_fork_paper [Tabs] {P : Program} {w : World} {K : PySem.W.Frag} {mg : Str → Option Value} {base : Heap} {A : Ad} (Tx : Txt K mg base A) (c_fork_index : Cl P w K mg base 1 "fork_index" ["first", "second"] (F_fork_index A)) (c_item_proof : Cl P w K mg base 26 "item_proof" ["items", "index"] (F_item_proof A 12)) : Cl P w K mg base 27 "fork_paper" ["first", "second"] (F_fork_paper A) :=
  Cl.mk (k := 26) (pin := []) [false, false] Tx.d_fork_paper sc_fork_paper rfl (by decide) (pin_of (by decide)) fun f cdv hcf B outer s H E hr tk => by exact (dss_cons (ds_if ((bw_or (be_lcmp (op_eqD hr.units) look_eq (ve_de (de_callB call_len pc_len (by rfl) Tx.b_len (by decide +kernel) (va_cons (ve_de (de_var (pv 0))) va_nil))) (ve_de de_int) (nomark _)) (bw_one_or (be_lcmp (op_eqD hr.units) look_eq (ve_de (de_callB call_len pc_len (by rfl) Tx.b_len (by decide +kernel) (va_cons (ve_de (de_var (pv 1))) va_nil))) (ve_de de_int) (nomark _))))).pt
    (dss_one (ds_raiseC Tx.x_InvalidProof rfl tk (by rfl)))
    dss_nil)
    (dss_cons (ds_set sc_fork_paper.nd rfl (by first | exact Or.inl rfl | exact Or.inr rfl) (by decide) (de_oe (oe_cl c_fork_index tk (hr.mono (by omega)) (by rfl) (va_cons (ve_de (de_var (pv 0))) (va_cons (ve_de (de_var (pv 1))) va_nil)) (lenSV (lenSV len0V)))))
    (dss_cons (ds_if (be_cmp op_isN pure_isN (de_var (pv 2)) de_non (nomark _))
    (dss_one (ds_ret (oe_de de_non)))
    dss_nil)
    (dss_cons (ds_par rfl sc_fork_paper.nd rfl rfl (by decide) (by decide) (by decide) rfl rfl (da_cons (de_oe (oe_callTy call_tuple_of mc_tuple (by rfl) Tx.b_tuple (by decide +kernel) (va_cons (ve_de (de_oe (oe_cl c_item_proof tk (hr.mono (by omega)) (by rfl) (va_cons (ve_de (de_var (pv 0))) (va_cons (ve_de (de_var (pv 2))) va_nil)) (lenSV (lenSV len0V))))) va_nil))) (da_cons (de_oe (oe_callTy call_tuple_of mc_tuple (by rfl) Tx.b_tuple (by decide +kernel) (va_cons (ve_de (de_oe (oe_cl c_item_proof tk (hr.mono (by omega)) (by rfl) (va_cons (ve_de (de_var (pv 1))) (va_cons (ve_de (de_var (pv 2))) va_nil)) (lenSV (lenSV len0V))))) va_nil))) da_nil)) (by rfl))
    (dss_one (ds_ret (oe_de (de_tup (da_cons (de_var (pv 2)) (da_cons (de_oe (oe_callTy call_tuple_of mc_tuple (by rfl) Tx.b_tuple (by decide +kernel) (va_cons (ve_de (de_ix ix_seq look_ix (ve_de (de_var (pv 0))) (ve_de (de_var (pv 2))) (fun _ _ => rfl))) va_nil))) (da_cons (de_var (pv 3)) (da_cons (de_oe (oe_callTy call_tuple_of mc_tuple (by rfl) Tx.b_tuple (by decide +kernel) (va_cons (ve_de (de_ix ix_seq look_ix (ve_de (de_var (pv 1))) (ve_de (de_var (pv 2))) (fun _ _ => rfl))) va_nil))) (da_cons (de_var (pv 4)) da_nil)))))))))))))
/-! ### takes_fork -/
abbrev s_takes_fork : Stmt := topS 19
abbrev N_takes_fork : List Str := ["root", "count", "other", "many", "told", "index", "octets", "proof", "others", "second"]
theorem sc_takes_fork : FnScope N_takes_fork ["root", "count", "other", "many", "told"] (defScope s_takes_fork) := ⟨rfl, rfl, rfl, by decide +kernel, rfl, by decide +kernel, by decide +kernel⟩
def m_takes_fork (A : Ad) : Gs :=
  (gSeq (gIfS (gOr (gDB (gBin fLt (gVar 1) (gC (.int 1)))) (gDB (gBin fLt (gVar 3) (gC (.int 1)))))
  (gRaise A.InvalidProof)
  gNx)
  (gSeq (gAsg (fTup (fConsG (fName 5) (fConsG (fName 6) (fConsG (fName 7) (fConsG (fName 8) (fConsG (fName 9) fNilG)))))) (gVar 4))
  (gSeq (gIfS (gDB (gLook fEq (gVd (gFz (gCallT fTuple (gConsV (gVd (gVar 6)) gNilV)))) (gVd (gFz (gCallT fTuple (gConsV (gVd (gVar 8)) gNilV))))))
  (gRet (gOd (gC (.bl false))))
  gNx)
  (gRet (gOd (gAndV (gFz (gCall (F_takes_item A) (gConsV (gVd (gVar 0)) (gConsV (gVd (gVar 1)) (gConsV (gVd (gVar 5)) (gConsV (gVd (gVar 6)) (gConsV (gVd (gVar 7)) gNilV))))))) (gFz (gCall (F_takes_item A) (gConsV (gVd (gVar 2)) (gConsV (gVd (gVar 3)) (gConsV (gVd (gVar 5)) (gConsV (gVd (gVar 8)) (gConsV (gVd (gVar 9)) gNilV)))))))))))))
def F_takes_fork (A : Ad) : List T → FR := bodyF (m_takes_fork A) [false, false, false, false, false] 10
theorem ok_takes_fork [Tabs] {P : Program} {w : World} {K : PySem.W.Frag} {mg : Str → Option Value} {base : Heap} {A : Ad} (Tx : Txt K mg base A) (c_takes_item : Cl P w K mg base 15 "takes_item" ["root", "count", "index", "octets", "proof"] (F_takes_item A)) : Cl P w K mg base 16 "takes_fork" ["root", "count", "other", "many", "told"] (F_takes_fork A) :=
  Cl.mk (k := 15) (pin := []) [false, false, false, false, false] Tx.d_takes_fork sc_takes_fork rfl (by decide) (pin_of (by decide)) fun f cdv hcf B outer s H E hr tk => by exact (dss_cons (ds_if ((bw_or (be_cmp op_ltIS pure_lt (de_var (pv 1)) de_int (nomark _)) (bw_one_or (be_cmp op_ltIS pure_lt (de_var (pv 3)) de_int (nomark _))))).pt
    (dss_one (ds_raiseC Tx.x_InvalidProof rfl tk (by rfl)))
    dss_nil)
    (dss_cons (ds_asg (de_var (pv 4)) (dg_tup rfl (dgs_cons (dg_name sc_takes_fork.nd rfl (by first | exact Or.inl rfl | exact Or.inr rfl) (by decide)) (dgs_cons (dg_name sc_takes_fork.nd rfl (by first | exact Or.inl rfl | exact Or.inr rfl) (by decide)) (dgs_cons (dg_name sc_takes_fork.nd rfl (by first | exact Or.inl rfl | exact Or.inr rfl) (by decide)) (dgs_cons (dg_name sc_takes_fork.nd rfl (by first | exact Or.inl rfl | exact Or.inr rfl) (by decide)) (dgs_cons (dg_name sc_takes_fork.nd rfl (by first | exact Or.inl rfl | exact Or.inr rfl) (by decide)) dgs_nil))))) (lenGs (lenGs (lenGs (lenGs (lenGs len0)))))))
    (dss_cons (ds_if (be_lcmp (op_eqD hr.units) look_eq (ve_de (de_oe (oe_callTy call_tuple_of mc_tuple (by rfl) Tx.b_tuple (by decide +kernel) (va_cons (ve_de (de_var (pv 6))) va_nil)))) (ve_de (de_oe (oe_callTy call_tuple_of mc_tuple (by rfl) Tx.b_tuple (by decide +kernel) (va_cons (ve_de (de_var (pv 8))) va_nil)))) (nomark _))
    (dss_one (ds_ret (oe_de de_bl)))
    dss_nil)
    (dss_one (ds_ret (oe_de (de_and (de_oe (oe_cl c_takes_item tk (hr.mono (by omega)) (by rfl) (va_cons (ve_de (de_var (pv 0))) (va_cons (ve_de (de_var (pv 1))) (va_cons (ve_de (de_var (pv 5))) (va_cons (ve_de (de_var (pv 6))) (va_cons (ve_de (de_var (pv 7))) va_nil))))) (lenSV (lenSV (lenSV (lenSV (lenSV len0V))))))) (de_one (de_oe (oe_cl c_takes_item tk (hr.mono (by omega)) (by rfl) (va_cons (ve_de (de_var (pv 2))) (va_cons (ve_de (de_var (pv 3))) (va_cons (ve_de (de_var (pv 5))) (va_cons (ve_de (de_var (pv 8))) (va_cons (ve_de (de_var (pv 9))) va_nil))))) (lenSV (lenSV (lenSV (lenSV (lenSV len0V)))))))))))))))
/-! ### _law_draws -/
abbrev s__law_draws : Stmt := topS 21
abbrev N__law_draws : List Str := ["script", "count", "cells", "found", "mixed", "k", "j", "cell", "again"]
theorem sc__law_draws : FnScope N__law_draws ["script", "count"] (defScope s__law_draws) := ⟨rfl, rfl, rfl, by decide +kernel, rfl, by decide +kernel, by decide +kernel⟩
def m__law_draws (A : Ad) : Gs :=
  (gSeq (gSetT 2 (gCallT fList (gConsV (gVd (gVar 0)) gNilV)))
  (gSeq (gIfS (gDB (gLook fEq (gVd (gCallD fLen (gConsV (gOwn 2) gNilV))) (gVd (gC (.int 0)))))
  (gSetT 2 (gLst (gConsA (gC (.int 7)) gNilA)))
  gNx)
  (gSeq (gSetT 3 (gLst gNilA))
  (gSeq (gSet 4 (gC (.int 12345)))
  (gSeq (gFor (gRng1 (gConsA (gVar 1) gNilA)) (fName 5)
  (gSeq (gSet 6 (gBin fMod (gVar 5) (gCallD fLen (gConsV (gOwn 2) gNilV))))
  (gSeq (gSet 7 (gLook fIx (gOwn 2) (gVd (gVar 6))))
  (gSeq (gSet 4 (gBin fMod (gCallD (f1 fInt) (gConsV (gVd (gBin fAdd (gBin fAdd (gBin fAdd (gBin fMul (gVar 4) (gC (.int 48271))) (gBin fMul (gBin fMod (gCallD (f1 fInt) (gConsV (gVd (gVar 7)) gNilV)) (gC (.int 1000003))) (gC (.int 69621)))) (gBin fMul (gVar 5) (gC (.int 7919)))) (gC (.int 11)))) gNilV)) (gC (.int 2147483647))))
  (gSeq (gSet 8 (gBin fMod (gCallD (f1 fInt) (gConsV (gVd (gBin fAdd (gBin fAdd (gBin fMul (gVar 4) (gVar 4)) (gBin fMul (gC (.int 31)) (gVar 4))) (gVar 5))) gNilV)) (gC (.int 1000003))))
  (gIfS (gDB (gBin fGe (gVar 7) (gBin fPow (gC (.int 10)) (gC (.int 18)))))
  (gSeq (gExpr (gMut 3 fAppend (gConsA (gBin fMod (gCallD (f1 fInt) (gConsV (gVd (gVar 7)) gNilV)) (gC (.int 1000))) gNilA)))
  (gPut 2 (gBin fDiv (gVar 7) (gC (.int 1000))) (gVar 6)))
  (gExpr (gMut 3 fAppend (gConsA (gBin fMod (gCallD (f1 fInt) (gConsV (gVd (gVar 8)) gNilV)) (gC (.int 1000))) gNilA)))))))))
  (gSeq (gExpr (gMut 3 fReverse gNilA))
  (gRet (gMov 3))))))))
def F__law_draws (A : Ad) : List T → FR := bodyF (m__law_draws A) [false, false] 9
theorem ok__law_draws [Tabs] {P : Program} {w : World} {K : PySem.W.Frag} {mg : Str → Option Value} {base : Heap} {A : Ad} (Tx : Txt K mg base A)  : Cl P w K mg base 1 "_law_draws" ["script", "count"] (F__law_draws A) :=
  Cl.mk (k := 0) (pin := []) [false, false] Tx.d__law_draws sc__law_draws rfl (by decide) (pin_of (by decide)) fun f cdv hcf B outer s H E hr tk => by exact (dss_cons (ds_setT sc__law_draws.nd rfl (by first | exact Or.inl rfl | exact Or.inr rfl) (by decide) (oe_callTy call_list_of mc_list (by rfl) Tx.b_list (by decide +kernel) (va_cons (ve_de (de_var (pv 0))) va_nil)))
    (dss_cons (ds_if (be_lcmp (op_eqD hr.units) look_eq (ve_de (de_callB call_len pc_len (by rfl) Tx.b_len (by decide +kernel) (va_cons (ve_own (pv 2)) va_nil))) (ve_de de_int) (nomark _))
    (dss_one (ds_setT sc__law_draws.nd rfl (by first | exact Or.inl rfl | exact Or.inr rfl) (by decide) (oe_lst (da_cons de_int da_nil))))
    dss_nil)
    (dss_cons (ds_setT sc__law_draws.nd rfl (by first | exact Or.inl rfl | exact Or.inr rfl) (by decide) (oe_lst da_nil))
    (dss_cons (ds_set sc__law_draws.nd rfl (by first | exact Or.inl rfl | exact Or.inr rfl) (by decide) de_int)
    (dss_cons (ds_for (passes_of rfl) rfl (di_range1 (by rfl) Tx.b_range (da_cons (de_var (pv 1)) da_nil)) (dg_name sc__law_draws.nd rfl (by first | exact Or.inl rfl | exact Or.inr rfl) (by decide))
    (dss_cons (ds_set sc__law_draws.nd rfl (by first | exact Or.inl rfl | exact Or.inr rfl) (by decide) (de_bin op_mod pure_mod (de_var (pv 5)) (de_callB call_len pc_len (by rfl) Tx.b_len (by decide +kernel) (va_cons (ve_own (pv 2)) va_nil))))
    (dss_cons (ds_set sc__law_draws.nd rfl (by first | exact Or.inl rfl | exact Or.inr rfl) (by decide) (de_ix ix_seq look_ix (ve_own (pv 2)) (ve_de (de_var (pv 6))) (fun _ _ => rfl)))
    (dss_cons (ds_set sc__law_draws.nd rfl (by first | exact Or.inl rfl | exact Or.inr rfl) (by decide) (de_bin op_mod pure_mod (de_callTy call_int1 pc_int (by rfl) Tx.b_int (by decide +kernel) (va_cons (ve_de (de_bin op_addIS pure_add (de_bin op_addIS pure_add (de_bin op_addIS pure_add (de_bin op_mul pure_mul (de_var (pv 4)) de_int) (de_bin op_mul pure_mul (de_bin op_mod pure_mod (de_callTy call_int1 pc_int (by rfl) Tx.b_int (by decide +kernel) (va_cons (ve_de (de_var (pv 7))) va_nil)) de_int) de_int)) (de_bin op_mul pure_mul (de_var (pv 5)) de_int)) de_int)) va_nil)) de_int))
    (dss_cons (ds_set sc__law_draws.nd rfl (by first | exact Or.inl rfl | exact Or.inr rfl) (by decide) (de_bin op_mod pure_mod (de_callTy call_int1 pc_int (by rfl) Tx.b_int (by decide +kernel) (va_cons (ve_de (de_bin op_addIS pure_add (de_bin op_addIS pure_add (de_bin op_mul pure_mul (de_var (pv 4)) (de_var (pv 4))) (de_bin op_mul pure_mul de_int (de_var (pv 4)))) (de_var (pv 5)))) va_nil)) de_int))
    (dss_one (ds_if (be_cmp op_geIS pure_ge (de_var (pv 7)) (de_bin op_pow pure_pow de_int de_int) (nomark _))
    (dss_cons (ds_expr (de_mut (T := "list") PySem.F.plainAttrs_list PySem.F.slot_list_append PySem.F.type_list_append mt_append mut_append (pv 3) (da_cons (de_bin op_mod pure_mod (de_callTy call_int1 pc_int (by rfl) Tx.b_int (by decide +kernel) (va_cons (ve_de (de_var (pv 7))) va_nil)) de_int) da_nil)))
    (dss_one (ds_put (pv 2) (de_var (pv 6)) (de_bin op_fdiv pure_div (de_var (pv 7)) de_int))))
    (dss_one (ds_expr (de_mut (T := "list") PySem.F.plainAttrs_list PySem.F.slot_list_append PySem.F.type_list_append mt_append mut_append (pv 3) (da_cons (de_bin op_mod pure_mod (de_callTy call_int1 pc_int (by rfl) Tx.b_int (by decide +kernel) (va_cons (ve_de (de_var (pv 8))) va_nil)) de_int) da_nil)))))))))))
    (dss_cons (ds_expr (de_mut0 PySem.F.plainAttrs_list PySem.F.slot_list_reverse PySem.F.type_list_reverse mt_reverse mut_reverse (pv 3)))
    (dss_one (ds_ret (oe_mov (pv 3))))))))))
/-! ### _law_take -/
abbrev s__law_take : Stmt := topS 22
abbrev N__law_take : List Str := ["draws", "limit"]
theorem sc__law_take : FnScope N__law_take ["draws", "limit"] (defScope s__law_take) := ⟨rfl, rfl, rfl, by decide +kernel, rfl, by decide +kernel, by decide +kernel⟩
def m__law_take (A : Ad) : Gs :=
  (gSeq (gIfS (gDB (gLook fEq (gVd (gCallD fLen (gConsV (gOwn 0) gNilV))) (gVd (gC (.int 0)))))
  (gRet (gOd (gC (.int 0))))
  gNx)
  (gRet (gOd (gBin fMod (gCallD (f1 fInt) (gConsV (gVd (gMut 0 fPop gNilA)) gNilV)) (gVar 1)))))
def F__law_take (A : Ad) : List T → FR := bodyF (m__law_take A) [true, false] 2
theorem ok__law_take [Tabs] {P : Program} {w : World} {K : PySem.W.Frag} {mg : Str → Option Value} {base : Heap} {A : Ad} (Tx : Txt K mg base A)  : Cl P w K mg base 1 "_law_take" ["draws", "limit"] (F__law_take A) :=
  Cl.mk (k := 0) (pin := [0]) [true, false] Tx.d__law_take sc__law_take rfl (by decide) (pin_of (by decide)) fun f cdv hcf B outer s H E hr tk => by exact (dss_cons (ds_if (be_lcmp (op_eqD hr.units) look_eq (ve_de (de_callB call_len pc_len (by rfl) Tx.b_len (by decide +kernel) (va_cons (ve_own (pv 0)) va_nil))) (ve_de de_int) (nomark _))
    (dss_one (ds_ret (oe_de de_int)))
    dss_nil)
    (dss_one (ds_ret (oe_de (de_bin op_mod pure_mod (de_callTy call_int1 pc_int (by rfl) Tx.b_int (by decide +kernel) (va_cons (ve_de (de_mut0 PySem.F.plainAttrs_list PySem.F.slot_list_pop PySem.F.type_list_pop mt_pop mut_pop (pv 0))) va_nil)) (de_var (pv 1)))))))
/-! ### _law_same -/
abbrev s__law_same : Stmt := topS 23
abbrev N__law_same : List Str := ["found", "due", "k"]
theorem sc__law_same : FnScope N__law_same ["found", "due"] (defScope s__law_same) := ⟨rfl, rfl, rfl, by decide +kernel, rfl, by decide +kernel, by decide +kernel⟩
def m__law_same (A : Ad) (rec : List T → FR) : Gs :=
  (gSeq (gIfS (gDB (gBin fIsN (gVar 1) (gC .non)))
  (gRet (gOd (gBin fIsN (gVar 0) (gC .non))))
  gNx)
  (gSeq (gIfS (gTruth (gVd (gIsi "bool" (gVd (gVar 1)))))
  (gRet (gOd (gAndV (gIsi "bool" (gVd (gVar 0))) (gLook fEq (gVd (gVar 0)) (gVd (gVar 1))))))
  gNx)
  (gSeq (gIfS (gTruth (gVd (gIsi "int" (gVd (gVar 1)))))
  (gRet (gOd (gAndV (gIsi "int" (gVd (gVar 0))) (gAndV (gNotV (gIsi "bool" (gVd (gVar 0)))) (gLook fEq (gVd (gVar 0)) (gVd (gVar 1)))))))
  gNx)
  (gSeq (gIfS (gTruth (gVd (gIsi "str" (gVd (gVar 1)))))
  (gRet (gOd (gAndV (gIsi "str" (gVd (gVar 0))) (gLook fEq (gVd (gVar 0)) (gVd (gVar 1))))))
  gNx)
  (gSeq (gIfS (gTruth (gVd (gIsi "dict" (gVd (gVar 1)))))
  (gRet (gOd (gAndV (gIsi "dict" (gVd (gVar 0))) (gLook fEq (gVd (gVar 0)) (gVd (gVar 1))))))
  gNx)
  (gSeq (gIfS (gOr (gDB (gLook fNe (gVd (gIsi "tuple" (gVd (gVar 1)))) (gVd (gIsi "tuple" (gVd (gVar 0)))))) (gDB (gLook fNe (gVd (gIsi "list" (gVd (gVar 1)))) (gVd (gIsi "list" (gVd (gVar 0)))))))
  (gRet (gOd (gC (.bl false))))
  gNx)
  (gRet (gOd (gAndV (gLook fEq (gVd (gCallD fLen (gConsV (gVd (gVar 0)) gNilV))) (gVd (gCallD fLen (gConsV (gVd (gVar 1)) gNilV)))) (gCallD (fSeq1 fAll) (gConsV (gVd (gFz (gLc (gRng1 (gConsA (gCallD fLen (gConsV (gVd (gVar 1)) gNilV)) gNilA)) (fName 2) gYes (gFz (gCall rec (gConsV (gVd (gLook fIx (gVd (gVar 0)) (gVd (gVar 2)))) (gConsV (gVd (gLook fIx (gVd (gVar 1)) (gVd (gVar 2)))) gNilV)))) [2]))) gNilV)))))))))))
def F__law_same (A : Ad) : Nat → List T → FR
  | 0 => fun _ => .bad
  | n + 1 => bodyF (m__law_same A (F__law_same A n)) [false, false] 3
theorem ok__law_same  [Tabs] {P : Program} {w : World} {K : PySem.W.Frag} {mg : Str → Option Value} {base : Heap} {A : Ad} (Tx : Txt K mg base A)  : ∀ n : Nat, Cl P w K mg base (n + 0) "_law_same" ["found", "due"] (F__law_same A n)
  | 0 => Cl.none Tx.d__law_same
  | n + 1 => by
    have ih := ok__law_same (P := P) (w := w) Tx n
    exact Cl.mk (pin := []) [false, false] Tx.d__law_same sc__law_same rfl (by decide) (pin_of (by decide)) fun f cdv hcf B outer s H E hr tk => by exact (dss_cons (ds_if (be_cmp op_isN pure_isN (de_var (pv 1)) de_non (nomark _))
    (dss_one (ds_ret (oe_de (de_cmp op_isN pure_isN (de_var (pv 0)) de_non (nomark _)))))
    dss_nil)
    (dss_cons (ds_if (be_truth (ve_de (de_isi (by rfl) Tx.b_bool (by decide +kernel) (by rfl) Tx.b_isinstance (by decide +kernel) (ve_de (de_var (pv 1))))))
    (dss_one (ds_ret (oe_de (de_and (de_isi (by rfl) Tx.b_bool (by decide +kernel) (by rfl) Tx.b_isinstance (by decide +kernel) (ve_de (de_var (pv 0)))) (de_one (de_lcmp (op_eqD hr.units) look_eq (ve_de (de_var (pv 0))) (ve_de (de_var (pv 1))) (nomark _)))))))
    dss_nil)
    (dss_cons (ds_if (be_truth (ve_de (de_isi (by rfl) Tx.b_int (by decide +kernel) (by rfl) Tx.b_isinstance (by decide +kernel) (ve_de (de_var (pv 1))))))
    (dss_one (ds_ret (oe_de (de_and (de_isi (by rfl) Tx.b_int (by decide +kernel) (by rfl) Tx.b_isinstance (by decide +kernel) (ve_de (de_var (pv 0)))) (de_and (de_not (de_isi (by rfl) Tx.b_bool (by decide +kernel) (by rfl) Tx.b_isinstance (by decide +kernel) (ve_de (de_var (pv 0))))) (de_one (de_lcmp (op_eqD hr.units) look_eq (ve_de (de_var (pv 0))) (ve_de (de_var (pv 1))) (nomark _))))))))
    dss_nil)
    (dss_cons (ds_if (be_truth (ve_de (de_isi (by rfl) Tx.b_str (by decide +kernel) (by rfl) Tx.b_isinstance (by decide +kernel) (ve_de (de_var (pv 1))))))
    (dss_one (ds_ret (oe_de (de_and (de_isi (by rfl) Tx.b_str (by decide +kernel) (by rfl) Tx.b_isinstance (by decide +kernel) (ve_de (de_var (pv 0)))) (de_one (de_lcmp (op_eqD hr.units) look_eq (ve_de (de_var (pv 0))) (ve_de (de_var (pv 1))) (nomark _)))))))
    dss_nil)
    (dss_cons (ds_if (be_truth (ve_de (de_isi (by rfl) Tx.b_dict (by decide +kernel) (by rfl) Tx.b_isinstance (by decide +kernel) (ve_de (de_var (pv 1))))))
    (dss_one (ds_ret (oe_de (de_and (de_isi (by rfl) Tx.b_dict (by decide +kernel) (by rfl) Tx.b_isinstance (by decide +kernel) (ve_de (de_var (pv 0)))) (de_one (de_lcmp (op_eqD hr.units) look_eq (ve_de (de_var (pv 0))) (ve_de (de_var (pv 1))) (nomark _)))))))
    dss_nil)
    (dss_cons (ds_if ((bw_or (be_lcmp (op_neD hr.units) look_ne (ve_de (de_isi (by rfl) Tx.b_tuple (by decide +kernel) (by rfl) Tx.b_isinstance (by decide +kernel) (ve_de (de_var (pv 1))))) (ve_de (de_isi (by rfl) Tx.b_tuple (by decide +kernel) (by rfl) Tx.b_isinstance (by decide +kernel) (ve_de (de_var (pv 0))))) (nomark _)) (bw_one_or (be_lcmp (op_neD hr.units) look_ne (ve_de (de_isi (by rfl) Tx.b_list (by decide +kernel) (by rfl) Tx.b_isinstance (by decide +kernel) (ve_de (de_var (pv 1))))) (ve_de (de_isi (by rfl) Tx.b_list (by decide +kernel) (by rfl) Tx.b_isinstance (by decide +kernel) (ve_de (de_var (pv 0))))) (nomark _))))).pt
    (dss_one (ds_ret (oe_de de_bl)))
    dss_nil)
    (dss_one (ds_ret (oe_de (de_and (de_lcmp (op_eqD hr.units) look_eq (ve_de (de_callB call_len pc_len (by rfl) Tx.b_len (by decide +kernel) (va_cons (ve_de (de_var (pv 0))) va_nil))) (ve_de (de_callB call_len pc_len (by rfl) Tx.b_len (by decide +kernel) (va_cons (ve_de (de_var (pv 1))) va_nil))) (nomark _)) (de_one (de_callB (cr_all rfl) pc_all (by rfl) Tx.b_all (by decide +kernel) (va_cons (ve_de (de_oe (oe_lc (own := [("k", 2)]) rfl sc__law_same.nd (di_range1 (by rfl) Tx.b_range (da_cons (de_callB call_len pc_len (by rfl) Tx.b_len (by decide +kernel) (va_cons (ve_de (de_var (pv 1))) va_nil)) da_nil)) (blkOk_by (N := N__law_same) (sc := (defScope s__law_same)) (by decide +kernel)) (fun _ _ _ _ _ => (dg_name sc__law_same.nd rfl (by first | exact Or.inl rfl | exact Or.inr rfl) (show 2 ∉ compl N__law_same.length [2] from by decide))) (fun _ _ _ _ _ => bt_nil) (fun _ _ _ _ _ => (de_oe (oe_cl ih takes0 hr (by rfl) (va_cons (ve_de (de_ix ix_seq look_ix (ve_de (de_var (pv 0))) (ve_de (de_var (pv 2))) (fun _ _ => rfl))) (va_cons (ve_de (de_ix ix_seq look_ix (ve_de (de_var (pv 1))) (ve_de (de_var (pv 2))) (fun _ _ => rfl))) va_nil)) (lenSV (lenSV len0V)))))))) va_nil)))))))))))))
/-! ### _law_sum -/
abbrev s__law_sum : Stmt := topS 24
abbrev N__law_sum : List Str := ["octets", "s", "octet"]
theorem sc__law_sum : FnScope N__law_sum ["octets"] (defScope s__law_sum) := ⟨rfl, rfl, rfl, by decide +kernel, rfl, by decide +kernel, by decide +kernel⟩
def m__law_sum (A : Ad) : Gs :=
  (gSeq (gSet 1 (gC (.int 7)))
  (gSeq (gFor (gILst (gVar 0)) (fName 2)
  (gSet 1 (gBin fMod (gCallD (f1 fInt) (gConsV (gVd (gBin fAdd (gBin fAdd (gBin fMul (gC (.int 263)) (gVar 1)) (gVar 2)) (gC (.int 1)))) gNilV)) (gC (.int 34359738337)))))
  (gRet (gOd (gVar 1)))))
def F__law_sum (A : Ad) : List T → FR := bodyF (m__law_sum A) [false] 3
theorem ok__law_sum [Tabs] {P : Program} {w : World} {K : PySem.W.Frag} {mg : Str → Option Value} {base : Heap} {A : Ad} (Tx : Txt K mg base A)  : Cl P w K mg base 1 "_law_sum" ["octets"] (F__law_sum A) :=
  Cl.mk (k := 0) (pin := []) [false] Tx.d__law_sum sc__law_sum rfl (by decide) (pin_of (by decide)) fun f cdv hcf B outer s H E hr tk => by exact (dss_cons (ds_set sc__law_sum.nd rfl (by first | exact Or.inl rfl | exact Or.inr rfl) (by decide) de_int)
    (dss_cons (ds_for (passes_of rfl) rfl (di_list (de_var (pv 0))) (dg_name sc__law_sum.nd rfl (by first | exact Or.inl rfl | exact Or.inr rfl) (by decide))
    (dss_one (ds_set sc__law_sum.nd rfl (by first | exact Or.inl rfl | exact Or.inr rfl) (by decide) (de_bin op_mod pure_mod (de_callTy call_int1 pc_int (by rfl) Tx.b_int (by decide +kernel) (va_cons (ve_de (de_bin op_addIS pure_add (de_bin op_addIS pure_add (de_bin op_mul pure_mul de_int (de_var (pv 1))) (de_var (pv 2))) de_int)) va_nil)) de_int))))
    (dss_one (ds_ret (oe_de (de_var (pv 1)))))))
/-! ### _law_leaf -/
abbrev s__law_leaf : Stmt := topS 25
abbrev N__law_leaf : List Str := ["octets"]
theorem sc__law_leaf : FnScope N__law_leaf ["octets"] (defScope s__law_leaf) := ⟨rfl, rfl, rfl, by decide +kernel, rfl, by decide +kernel, by decide +kernel⟩
def m__law_leaf (A : Ad) : Gs :=
  (gRet (gCall (F__law_sum A) (gConsV (gVd (gFz (gMake fCat (gVd (gFz (gLst (gConsA (gC (.int 0)) gNilA)))) (gVd (gFz (gCallT fList (gConsV (gVd (gVar 0)) gNilV))))))) gNilV)))
def F__law_leaf (A : Ad) : List T → FR := bodyF (m__law_leaf A) [false] 1
theorem ok__law_leaf [Tabs] {P : Program} {w : World} {K : PySem.W.Frag} {mg : Str → Option Value} {base : Heap} {A : Ad} (Tx : Txt K mg base A) (c__law_sum : Cl P w K mg base 1 "_law_sum" ["octets"] (F__law_sum A)) : Cl P w K mg base 2 "_law_leaf" ["octets"] (F__law_leaf A) :=
  Cl.mk (k := 1) (pin := []) [false] Tx.d__law_leaf sc__law_leaf rfl (by decide) (pin_of (by decide)) fun f cdv hcf B outer s H E hr tk => by exact (dss_one (ds_ret (oe_cl c__law_sum tk (hr.mono (by omega)) (by rfl) (va_cons (ve_de (de_oe (oe_bin op_cat make_cat (ve_de (de_oe (oe_lst (da_cons de_int da_nil)))) (ve_de (de_oe (oe_callTy call_list_of mc_list (by rfl) Tx.b_list (by decide +kernel) (va_cons (ve_de (de_var (pv 0))) va_nil))))))) va_nil) (lenSV len0V))))
/-! ### _law_joint -/
abbrev s__law_joint : Stmt := topS 26
abbrev N__law_joint : List Str := ["a", "b", "row", "number", "k"]
theorem sc__law_joint : FnScope N__law_joint ["a", "b"] (defScope s__law_joint) := ⟨rfl, rfl, rfl, by decide +kernel, rfl, by decide +kernel, by decide +kernel⟩
def m__law_joint (A : Ad) : Gs :=
  (gSeq (gSetT 2 (gLst (gConsA (gC (.int 1)) gNilA)))
  (gSeq (gFor (gITup (gTup (gConsA (gVar 0) (gConsA (gVar 1) gNilA)))) (fName 3)
  (gFor (gRng1 (gConsA (gC (.int 5)) gNilA)) (fName 4)
  (gSeq (gExpr (gMut 2 fAppend (gConsA (gBin fMod (gCallD (f1 fInt) (gConsV (gVd (gVar 3)) gNilV)) (gC (.int 256))) gNilA)))
  (gSet 3 (gBin fDiv (gVar 3) (gC (.int 256)))))))
  (gRet (gCall (F__law_sum A) (gConsV (gVd (gFrz 2)) gNilV)))))
def F__law_joint (A : Ad) : List T → FR := bodyF (m__law_joint A) [false, false] 5
theorem ok__law_joint [Tabs] {P : Program} {w : World} {K : PySem.W.Frag} {mg : Str → Option Value} {base : Heap} {A : Ad} (Tx : Txt K mg base A) (c__law_sum : Cl P w K mg base 1 "_law_sum" ["octets"] (F__law_sum A)) : Cl P w K mg base 2 "_law_joint" ["a", "b"] (F__law_joint A) :=
  Cl.mk (k := 1) (pin := []) [false, false] Tx.d__law_joint sc__law_joint rfl (by decide) (pin_of (by decide)) fun f cdv hcf B outer s H E hr tk => by exact (dss_cons (ds_setT sc__law_joint.nd rfl (by first | exact Or.inl rfl | exact Or.inr rfl) (by decide) (oe_lst (da_cons de_int da_nil)))
    (dss_cons (ds_for (passes_of rfl) rfl (di_tup (de_tup (da_cons (de_var (pv 0)) (da_cons (de_var (pv 1)) da_nil)))) (dg_name sc__law_joint.nd rfl (by first | exact Or.inl rfl | exact Or.inr rfl) (by decide))
    (dss_one (ds_for (passes_of rfl) rfl (di_range1 (by rfl) Tx.b_range (da_cons de_int da_nil)) (dg_name sc__law_joint.nd rfl (by first | exact Or.inl rfl | exact Or.inr rfl) (by decide))
    (dss_cons (ds_expr (de_mut (T := "list") PySem.F.plainAttrs_list PySem.F.slot_list_append PySem.F.type_list_append mt_append mut_append (pv 2) (da_cons (de_bin op_mod pure_mod (de_callTy call_int1 pc_int (by rfl) Tx.b_int (by decide +kernel) (va_cons (ve_de (de_var (pv 3))) va_nil)) de_int) da_nil)))
    (dss_one (ds_set sc__law_joint.nd rfl (by first | exact Or.inl rfl | exact Or.inr rfl) (by decide) (de_bin op_fdiv pure_div (de_var (pv 3)) de_int)))))))
    (dss_one (ds_ret (oe_cl c__law_sum tk (hr.mono (by omega)) (by rfl) (va_cons (ve_de (de_frz (pv 2))) va_nil) (lenSV len0V))))))
/-! ### _law_cut -/
abbrev s__law_cut : Stmt := topS 27
abbrev N__law_cut : List Str := ["count", "p"]
theorem sc__law_cut : FnScope N__law_cut ["count"] (defScope s__law_cut) := ⟨rfl, rfl, rfl, by decide +kernel, rfl, by decide +kernel, by decide +kernel⟩
def m__law_cut (A : Ad) : Gs :=
  (gSeq (gSet 1 (gC (.int 1)))
  (gSeq (whileD (gDB (gBin fLt (gBin fMul (gC (.int 2)) (gVar 1)) (gVar 0)))
  (gSet 1 (gBin fMul (gC (.int 2)) (gVar 1))) 100000)
  (gRet (gOd (gVar 1)))))
def F__law_cut (A : Ad) : List T → FR := bodyF (m__law_cut A) [false] 2
theorem ok__law_cut [Tabs] {P : Program} {w : World} {K : PySem.W.Frag} {mg : Str → Option Value} {base : Heap} {A : Ad} (Tx : Txt K mg base A)  : Cl P w K mg base 1 "_law_cut" ["count"] (F__law_cut A) :=
  Cl.mk (k := 0) (pin := []) [false] Tx.d__law_cut sc__law_cut rfl (by decide) (pin_of (by decide)) fun f cdv hcf B outer s H E hr tk => by exact (dss_cons (ds_set sc__law_cut.nd rfl (by first | exact Or.inl rfl | exact Or.inr rfl) (by decide) de_int)
    (dss_cons (ds_while 100000 (passes_of rfl) (be_cmp op_ltIS pure_lt (de_bin op_mul pure_mul de_int (de_var (pv 1))) (de_var (pv 0)) (nomark _))
    (dss_one (ds_set sc__law_cut.nd rfl (by first | exact Or.inl rfl | exact Or.inr rfl) (by decide) (de_bin op_mul pure_mul de_int (de_var (pv 1))))))
    (dss_one (ds_ret (oe_de (de_var (pv 1)))))))
/-! ### _law_root -/
abbrev s__law_root : Stmt := topS 28
abbrev N__law_root : List Str := ["sums", "p"]
theorem sc__law_root : FnScope N__law_root ["sums"] (defScope s__law_root) := ⟨rfl, rfl, rfl, by decide +kernel, rfl, by decide +kernel, by decide +kernel⟩
def m__law_root (A : Ad) (rec : List T → FR) : Gs :=
  (gSeq (gIfS (gDB (gLook fEq (gVd (gCallD fLen (gConsV (gVd (gVar 0)) gNilV))) (gVd (gC (.int 1)))))
  (gRet (gOd (gLook fIx (gVd (gVar 0)) (gVd (gC (.int 0))))))
  gNx)
  (gSeq (gSet 1 (gFz (gCall (F__law_cut A) (gConsV (gVd (gCallD fLen (gConsV (gVd (gVar 0)) gNilV))) gNilV))))
  (gRet (gCall (F__law_joint A) (gConsV (gVd (gFz (gCall rec (gConsV (gVd (gFz (gSlL (gVd (gVar 0)) gNoPart (gPart (gVar 1))))) gNilV)))) (gConsV (gVd (gFz (gCall rec (gConsV (gVd (gFz (gSlL (gVd (gVar 0)) (gPart (gVar 1)) gNoPart))) gNilV)))) gNilV))))))
def F__law_root (A : Ad) : Nat → List T → FR
  | 0 => fun _ => .bad
  | n + 1 => bodyF (m__law_root A (F__law_root A n)) [false] 2
theorem ok__law_root  [Tabs] {P : Program} {w : World} {K : PySem.W.Frag} {mg : Str → Option Value} {base : Heap} {A : Ad} (Tx : Txt K mg base A) (c__law_cut : Cl P w K mg base 1 "_law_cut" ["count"] (F__law_cut A)) (c__law_joint : Cl P w K mg base 2 "_law_joint" ["a", "b"] (F__law_joint A)) : ∀ n : Nat, Cl P w K mg base (n + 2) "_law_root" ["sums"] (F__law_root A n)
  | 0 => Cl.none Tx.d__law_root
  | n + 1 => by
    have ih := ok__law_root (P := P) (w := w) Tx c__law_cut c__law_joint n
    exact Cl.mk (pin := []) [false] Tx.d__law_root sc__law_root rfl (by decide) (pin_of (by decide)) fun f cdv hcf B outer s H E hr tk => by exact (dss_cons (ds_if (be_lcmp (op_eqD hr.units) look_eq (ve_de (de_callB call_len pc_len (by rfl) Tx.b_len (by decide +kernel) (va_cons (ve_de (de_var (pv 0))) va_nil))) (ve_de de_int) (nomark _))
    (dss_one (ds_ret (oe_de (de_ix ix_seq look_ix (ve_de (de_var (pv 0))) (ve_de de_int) (fun _ _ => rfl)))))
    dss_nil)
    (dss_cons (ds_set sc__law_root.nd rfl (by first | exact Or.inl rfl | exact Or.inr rfl) (by decide) (de_oe (oe_cl c__law_cut tk (hr.mono (by omega)) (by rfl) (va_cons (ve_de (de_callB call_len pc_len (by rfl) Tx.b_len (by decide +kernel) (va_cons (ve_de (de_var (pv 0))) va_nil))) va_nil) (lenSV len0V))))
    (dss_one (ds_ret (oe_cl c__law_joint tk (hr.mono (by omega)) (by rfl) (va_cons (ve_de (de_oe (oe_cl ih tk hr (by rfl) (va_cons (ve_de (de_oe (oe_slL (ve_de (de_var (pv 0))) pt_no (pt_some (de_var (pv 1)))))) va_nil) (lenSV len0V)))) (va_cons (ve_de (de_oe (oe_cl ih tk hr (by rfl) (va_cons (ve_de (de_oe (oe_slL (ve_de (de_var (pv 0))) (pt_some (de_var (pv 1))) pt_no))) va_nil) (lenSV len0V)))) va_nil)) (lenSV (lenSV len0V)))))))
/-! ### _law_proof -/
abbrev s__law_proof : Stmt := topS 29
abbrev N__law_proof : List Str := ["sums", "index", "p"]
theorem sc__law_proof : FnScope N__law_proof ["sums", "index"] (defScope s__law_proof) := ⟨rfl, rfl, rfl, by decide +kernel, rfl, by decide +kernel, by decide +kernel⟩
def m__law_proof (A : Ad) (rec : List T → FR) : Gs :=
  (gSeq (gIfS (gDB (gLook fEq (gVd (gCallD fLen (gConsV (gVd (gVar 0)) gNilV))) (gVd (gC (.int 1)))))
  (gRet (gLst gNilA))
  gNx)
  (gSeq (gSet 2 (gFz (gCall (F__law_cut A) (gConsV (gVd (gCallD fLen (gConsV (gVd (gVar 0)) gNilV))) gNilV))))
  (gSeq (gIfS (gDB (gBin fLt (gVar 1) (gVar 2)))
  (gRet (gMake fCat (gVd (gFz (gCall rec (gConsV (gVd (gFz (gSlL (gVd (gVar 0)) gNoPart (gPart (gVar 2))))) (gConsV (gVd (gVar 1)) gNilV))))) (gVd (gFz (gLst (gConsA (gFz (gCall (F__law_root A 12) (gConsV (gVd (gFz (gSlL (gVd (gVar 0)) (gPart (gVar 2)) gNoPart))) gNilV))) gNilA))))))
  gNx)
  (gRet (gMake fCat (gVd (gFz (gCall rec (gConsV (gVd (gFz (gSlL (gVd (gVar 0)) (gPart (gVar 2)) gNoPart))) (gConsV (gVd (gBin fSub (gVar 1) (gVar 2))) gNilV))))) (gVd (gFz (gLst (gConsA (gFz (gCall (F__law_root A 12) (gConsV (gVd (gFz (gSlL (gVd (gVar 0)) gNoPart (gPart (gVar 2))))) gNilV))) gNilA)))))))))
def F__law_proof (A : Ad) : Nat → List T → FR
  | 0 => fun _ => .bad
  | n + 1 => bodyF (m__law_proof A (F__law_proof A n)) [false, false] 3
theorem ok__law_proof  [Tabs] {P : Program} {w : World} {K : PySem.W.Frag} {mg : Str → Option Value} {base : Heap} {A : Ad} (Tx : Txt K mg base A) (c__law_cut : Cl P w K mg base 1 "_law_cut" ["count"] (F__law_cut A)) (c__law_root : Cl P w K mg base 14 "_law_root" ["sums"] (F__law_root A 12)) : ∀ n : Nat, Cl P w K mg base (n + 14) "_law_proof" ["sums", "index"] (F__law_proof A n)
  | 0 => Cl.none Tx.d__law_proof
  | n + 1 => by
    have ih := ok__law_proof (P := P) (w := w) Tx c__law_cut c__law_root n
    exact Cl.mk (pin := []) [false, false] Tx.d__law_proof sc__law_proof rfl (by decide) (pin_of (by decide)) fun f cdv hcf B outer s H E hr tk => by exact (dss_cons (ds_if (be_lcmp (op_eqD hr.units) look_eq (ve_de (de_callB call_len pc_len (by rfl) Tx.b_len (by decide +kernel) (va_cons (ve_de (de_var (pv 0))) va_nil))) (ve_de de_int) (nomark _))
    (dss_one (ds_ret (oe_lst da_nil)))
    dss_nil)
    (dss_cons (ds_set sc__law_proof.nd rfl (by first | exact Or.inl rfl | exact Or.inr rfl) (by decide) (de_oe (oe_cl c__law_cut tk (hr.mono (by omega)) (by rfl) (va_cons (ve_de (de_callB call_len pc_len (by rfl) Tx.b_len (by decide +kernel) (va_cons (ve_de (de_var (pv 0))) va_nil))) va_nil) (lenSV len0V))))
    (dss_cons (ds_if (be_cmp op_ltIS pure_lt (de_var (pv 1)) (de_var (pv 2)) (nomark _))
    (dss_one (ds_ret (oe_bin op_cat make_cat (ve_de (de_oe (oe_cl ih tk hr (by rfl) (va_cons (ve_de (de_oe (oe_slL (ve_de (de_var (pv 0))) pt_no (pt_some (de_var (pv 2)))))) (va_cons (ve_de (de_var (pv 1))) va_nil)) (lenSV (lenSV len0V))))) (ve_de (de_oe (oe_lst (da_cons (de_oe (oe_cl c__law_root tk (hr.mono (by omega)) (by rfl) (va_cons (ve_de (de_oe (oe_slL (ve_de (de_var (pv 0))) (pt_some (de_var (pv 2))) pt_no))) va_nil) (lenSV len0V))) da_nil)))))))
    dss_nil)
    (dss_one (ds_ret (oe_bin op_cat make_cat (ve_de (de_oe (oe_cl ih tk hr (by rfl) (va_cons (ve_de (de_oe (oe_slL (ve_de (de_var (pv 0))) (pt_some (de_var (pv 2))) pt_no))) (va_cons (ve_de (de_bin op_sub pure_sub (de_var (pv 1)) (de_var (pv 2)))) va_nil)) (lenSV (lenSV len0V))))) (ve_de (de_oe (oe_lst (da_cons (de_oe (oe_cl c__law_root tk (hr.mono (by omega)) (by rfl) (va_cons (ve_de (de_oe (oe_slL (ve_de (de_var (pv 0))) pt_no (pt_some (de_var (pv 2)))))) va_nil) (lenSV len0V))) da_nil))))))))))
/-! ### _law_climb -/
abbrev s__law_climb : Stmt := topS 30
abbrev N__law_climb : List Str := ["count", "index", "mine", "proof", "p", "told"]
theorem sc__law_climb : FnScope N__law_climb ["count", "index", "mine", "proof"] (defScope s__law_climb) := ⟨rfl, rfl, rfl, by decide +kernel, rfl, by decide +kernel, by decide +kernel⟩
def m__law_climb (A : Ad) (rec : List T → FR) : Gs :=
  (gSeq (gIfS (gDB (gLook fEq (gVd (gVar 0)) (gVd (gC (.int 1)))))
  (gRet (gOd (gTup (gConsA (gVar 2) (gConsA (gVar 3) gNilA)))))
  gNx)
  (gSeq (gSet 4 (gFz (gCall (F__law_cut A) (gConsV (gVd (gVar 0)) gNilV))))
  (gSeq (gSet 5 (gFz (gIf (gDB (gBin fLt (gVar 1) (gVar 4))) (gCall rec (gConsV (gVd (gVar 4)) (gConsV (gVd (gVar 1)) (gConsV (gVd (gVar 2)) (gConsV (gVd (gVar 3)) gNilV))))) (gCall rec (gConsV (gVd (gBin fSub (gVar 0) (gVar 4))) (gConsV (gVd (gBin fSub (gVar 1) (gVar 4))) (gConsV (gVd (gVar 2)) (gConsV (gVd (gVar 3)) gNilV))))))))
  (gSeq (gIfS (gOr (gDB (gBin fIsN (gVar 5) (gC .non))) (gDB (gLook fEq (gVd (gCallD fLen (gConsV (gVd (gLook fIx (gVd (gVar 5)) (gVd (gC (.int 1))))) gNilV))) (gVd (gC (.int 0))))))
  (gRet (gOd (gC .non)))
  gNx)
  (gRet (gOd (gTup (gConsA (gFz (gIf (gDB (gBin fLt (gVar 1) (gVar 4))) (gCall (F__law_joint A) (gConsV (gVd (gLook fIx (gVd (gVar 5)) (gVd (gC (.int 0))))) (gConsV (gVd (gLook fIx (gVd (gLook fIx (gVd (gVar 5)) (gVd (gC (.int 1))))) (gVd (gC (.int 0))))) gNilV))) (gCall (F__law_joint A) (gConsV (gVd (gLook fIx (gVd (gLook fIx (gVd (gVar 5)) (gVd (gC (.int 1))))) (gVd (gC (.int 0))))) (gConsV (gVd (gLook fIx (gVd (gVar 5)) (gVd (gC (.int 0))))) gNilV))))) (gConsA (gFz (gSlL (gVd (gLook fIx (gVd (gVar 5)) (gVd (gC (.int 1))))) (gPart (gC (.int 1))) gNoPart)) gNilA)))))))))
def F__law_climb (A : Ad) : Nat → List T → FR
  | 0 => fun _ => .bad
  | n + 1 => bodyF (m__law_climb A (F__law_climb A n)) [false, false, false, false] 6
theorem ok__law_climb  [Tabs] {P : Program} {w : World} {K : PySem.W.Frag} {mg : Str → Option Value} {base : Heap} {A : Ad} (Tx : Txt K mg base A) (c__law_cut : Cl P w K mg base 1 "_law_cut" ["count"] (F__law_cut A)) (c__law_joint : Cl P w K mg base 2 "_law_joint" ["a", "b"] (F__law_joint A)) : ∀ n : Nat, Cl P w K mg base (n + 2) "_law_climb" ["count", "index", "mine", "proof"] (F__law_climb A n)
  | 0 => Cl.none Tx.d__law_climb
  | n + 1 => by
    have ih := ok__law_climb (P := P) (w := w) Tx c__law_cut c__law_joint n
    exact Cl.mk (pin := []) [false, false, false, false] Tx.d__law_climb sc__law_climb rfl (by decide) (pin_of (by decide)) fun f cdv hcf B outer s H E hr tk => by exact (dss_cons (ds_if (be_lcmp (op_eqD hr.units) look_eq (ve_de (de_var (pv 0))) (ve_de de_int) (nomark _))
    (dss_one (ds_ret (oe_de (de_tup (da_cons (de_var (pv 2)) (da_cons (de_var (pv 3)) da_nil))))))
    dss_nil)
    (dss_cons (ds_set sc__law_climb.nd rfl (by first | exact Or.inl rfl | exact Or.inr rfl) (by decide) (de_oe (oe_cl c__law_cut tk (hr.mono (by omega)) (by rfl) (va_cons (ve_de (de_var (pv 0))) va_nil) (lenSV len0V))))
    (dss_cons (ds_set sc__law_climb.nd rfl (by first | exact Or.inl rfl | exact Or.inr rfl) (by decide) (de_oe (oe_if (be_cmp op_ltIS pure_lt (de_var (pv 1)) (de_var (pv 4)) (nomark _)) (oe_cl ih tk hr (by rfl) (va_cons (ve_de (de_var (pv 4))) (va_cons (ve_de (de_var (pv 1))) (va_cons (ve_de (de_var (pv 2))) (va_cons (ve_de (de_var (pv 3))) va_nil)))) (lenSV (lenSV (lenSV (lenSV len0V))))) (oe_cl ih tk hr (by rfl) (va_cons (ve_de (de_bin op_sub pure_sub (de_var (pv 0)) (de_var (pv 4)))) (va_cons (ve_de (de_bin op_sub pure_sub (de_var (pv 1)) (de_var (pv 4)))) (va_cons (ve_de (de_var (pv 2))) (va_cons (ve_de (de_var (pv 3))) va_nil)))) (lenSV (lenSV (lenSV (lenSV len0V))))))))
    (dss_cons (ds_if ((bw_or (be_cmp op_isN pure_isN (de_var (pv 5)) de_non (nomark _)) (bw_one_or (be_lcmp (op_eqD hr.units) look_eq (ve_de (de_callB call_len pc_len (by rfl) Tx.b_len (by decide +kernel) (va_cons (ve_de (de_ix ix_seq look_ix (ve_de (de_var (pv 5))) (ve_de de_int) (fun _ _ => rfl))) va_nil))) (ve_de de_int) (nomark _))))).pt
    (dss_one (ds_ret (oe_de de_non)))
    dss_nil)
    (dss_one (ds_ret (oe_de (de_tup (da_cons (de_oe (oe_if (be_cmp op_ltIS pure_lt (de_var (pv 1)) (de_var (pv 4)) (nomark _)) (oe_cl c__law_joint tk (hr.mono (by omega)) (by rfl) (va_cons (ve_de (de_ix ix_seq look_ix (ve_de (de_var (pv 5))) (ve_de de_int) (fun _ _ => rfl))) (va_cons (ve_de (de_ix ix_seq look_ix (ve_de (de_ix ix_seq look_ix (ve_de (de_var (pv 5))) (ve_de de_int) (fun _ _ => rfl))) (ve_de de_int) (fun _ _ => rfl))) va_nil)) (lenSV (lenSV len0V))) (oe_cl c__law_joint tk (hr.mono (by omega)) (by rfl) (va_cons (ve_de (de_ix ix_seq look_ix (ve_de (de_ix ix_seq look_ix (ve_de (de_var (pv 5))) (ve_de de_int) (fun _ _ => rfl))) (ve_de de_int) (fun _ _ => rfl))) (va_cons (ve_de (de_ix ix_seq look_ix (ve_de (de_var (pv 5))) (ve_de de_int) (fun _ _ => rfl))) va_nil)) (lenSV (lenSV len0V))))) (da_cons (de_oe (oe_slL (ve_de (de_ix ix_seq look_ix (ve_de (de_var (pv 5))) (ve_de de_int) (fun _ _ => rfl))) (pt_some de_int) pt_no)) da_nil))))))))))
/-! ### _law_takes -/
abbrev s__law_takes : Stmt := topS 31
abbrev N__law_takes : List Str := ["root", "count", "index", "octets", "proof", "told"]
theorem sc__law_takes : FnScope N__law_takes ["root", "count", "index", "octets", "proof"] (defScope s__law_takes) := ⟨rfl, rfl, rfl, by decide +kernel, rfl, by decide +kernel, by decide +kernel⟩
def m__law_takes (A : Ad) : Gs :=
  (gSeq (gIfS (gNot (gDB (gChain fLe fLt (gC (.int 0)) (gVar 2) (gVar 1))))
  (gRet (gOd (gC (.bl false))))
  gNx)
  (gSeq (gSet 5 (gFz (gCall (F__law_climb A 12) (gConsV (gVd (gVar 1)) (gConsV (gVd (gVar 2)) (gConsV (gVd (gFz (gCall (F__law_leaf A) (gConsV (gVd (gVar 3)) gNilV)))) (gConsV (gVd (gFz (gCallT fList (gConsV (gVd (gVar 4)) gNilV)))) gNilV)))))))
  (gRet (gOd (gAndV (gBin fNotN (gVar 5) (gC .non)) (gAndV (gLook fEq (gVd (gLook fIx (gVd (gVar 5)) (gVd (gC (.int 0))))) (gVd (gVar 0))) (gLook fEq (gVd (gCallD fLen (gConsV (gVd (gLook fIx (gVd (gVar 5)) (gVd (gC (.int 1))))) gNilV))) (gVd (gC (.int 0))))))))))
def F__law_takes (A : Ad) : List T → FR := bodyF (m__law_takes A) [false, false, false, false, false] 6
theorem ok__law_takes [Tabs] {P : Program} {w : World} {K : PySem.W.Frag} {mg : Str → Option Value} {base : Heap} {A : Ad} (Tx : Txt K mg base A) (c__law_leaf : Cl P w K mg base 2 "_law_leaf" ["octets"] (F__law_leaf A)) (c__law_climb : Cl P w K mg base 14 "_law_climb" ["count", "index", "mine", "proof"] (F__law_climb A 12)) : Cl P w K mg base 15 "_law_takes" ["root", "count", "index", "octets", "proof"] (F__law_takes A) :=
  Cl.mk (k := 14) (pin := []) [false, false, false, false, false] Tx.d__law_takes sc__law_takes rfl (by decide) (pin_of (by decide)) fun f cdv hcf B outer s H E hr tk => by exact (dss_cons (ds_if (be_not (be_chain op_leIS op_ltIS pure_le pure_lt de_int (de_var (pv 2)) (de_var (pv 1))))
    (dss_one (ds_ret (oe_de de_bl)))
    dss_nil)
    (dss_cons (ds_set sc__law_takes.nd rfl (by first | exact Or.inl rfl | exact Or.inr rfl) (by decide) (de_oe (oe_cl c__law_climb tk (hr.mono (by omega)) (by rfl) (va_cons (ve_de (de_var (pv 1))) (va_cons (ve_de (de_var (pv 2))) (va_cons (ve_de (de_oe (oe_cl c__law_leaf tk (hr.mono (by omega)) (by rfl) (va_cons (ve_de (de_var (pv 3))) va_nil) (lenSV len0V)))) (va_cons (ve_de (de_oe (oe_callTy call_list_of mc_list (by rfl) Tx.b_list (by decide +kernel) (va_cons (ve_de (de_var (pv 4))) va_nil)))) va_nil)))) (lenSV (lenSV (lenSV (lenSV len0V)))))))
    (dss_one (ds_ret (oe_de (de_and (de_cmp op_notN pure_notN (de_var (pv 5)) de_non (nomark _)) (de_and (de_lcmp (op_eqD hr.units) look_eq (ve_de (de_ix ix_seq look_ix (ve_de (de_var (pv 5))) (ve_de de_int) (fun _ _ => rfl))) (ve_de (de_var (pv 0))) (nomark _)) (de_one (de_lcmp (op_eqD hr.units) look_eq (ve_de (de_callB call_len pc_len (by rfl) Tx.b_len (by decide +kernel) (va_cons (ve_de (de_ix ix_seq look_ix (ve_de (de_var (pv 5))) (ve_de de_int) (fun _ _ => rfl))) va_nil))) (ve_de de_int) (nomark _))))))))))
/-! ### _law_is_fork -/
abbrev s__law_is_fork : Stmt := topS 32
abbrev N__law_is_fork : List Str := ["root", "count", "other", "many", "told", "index", "octets", "proof", "others", "second"]
theorem sc__law_is_fork : FnScope N__law_is_fork ["root", "count", "other", "many", "told"] (defScope s__law_is_fork) := ⟨rfl, rfl, rfl, by decide +kernel, rfl, by decide +kernel, by decide +kernel⟩
def m__law_is_fork (A : Ad) : Gs :=
  (gSeq (gAsg (fTup (fConsG (fName 5) (fConsG (fName 6) (fConsG (fName 7) (fConsG (fName 8) (fConsG (fName 9) fNilG)))))) (gVar 4))
  (gSeq (gIfS (gDB (gLook fEq (gVd (gFz (gCallT fTuple (gConsV (gVd (gVar 6)) gNilV)))) (gVd (gFz (gCallT fTuple (gConsV (gVd (gVar 8)) gNilV))))))
  (gRet (gOd (gC (.bl false))))
  gNx)
  (gRet (gOd (gAndV (gFz (gCall (F__law_takes A) (gConsV (gVd (gVar 0)) (gConsV (gVd (gVar 1)) (gConsV (gVd (gVar 5)) (gConsV (gVd (gVar 6)) (gConsV (gVd (gVar 7)) gNilV))))))) (gFz (gCall (F__law_takes A) (gConsV (gVd (gVar 2)) (gConsV (gVd (gVar 3)) (gConsV (gVd (gVar 5)) (gConsV (gVd (gVar 8)) (gConsV (gVd (gVar 9)) gNilV))))))))))))
def F__law_is_fork (A : Ad) : List T → FR := bodyF (m__law_is_fork A) [false, false, false, false, false] 10
theorem ok__law_is_fork [Tabs] {P : Program} {w : World} {K : PySem.W.Frag} {mg : Str → Option Value} {base : Heap} {A : Ad} (Tx : Txt K mg base A) (c__law_takes : Cl P w K mg base 15 "_law_takes" ["root", "count", "index", "octets", "proof"] (F__law_takes A)) : Cl P w K mg base 16 "_law_is_fork" ["root", "count", "other", "many", "told"] (F__law_is_fork A) :=
  Cl.mk (k := 15) (pin := []) [false, false, false, false, false] Tx.d__law_is_fork sc__law_is_fork rfl (by decide) (pin_of (by decide)) fun f cdv hcf B outer s H E hr tk => by exact (dss_cons (ds_asg (de_var (pv 4)) (dg_tup rfl (dgs_cons (dg_name sc__law_is_fork.nd rfl (by first | exact Or.inl rfl | exact Or.inr rfl) (by decide)) (dgs_cons (dg_name sc__law_is_fork.nd rfl (by first | exact Or.inl rfl | exact Or.inr rfl) (by decide)) (dgs_cons (dg_name sc__law_is_fork.nd rfl (by first | exact Or.inl rfl | exact Or.inr rfl) (by decide)) (dgs_cons (dg_name sc__law_is_fork.nd rfl (by first | exact Or.inl rfl | exact Or.inr rfl) (by decide)) (dgs_cons (dg_name sc__law_is_fork.nd rfl (by first | exact Or.inl rfl | exact Or.inr rfl) (by decide)) dgs_nil))))) (lenGs (lenGs (lenGs (lenGs (lenGs len0)))))))
    (dss_cons (ds_if (be_lcmp (op_eqD hr.units) look_eq (ve_de (de_oe (oe_callTy call_tuple_of mc_tuple (by rfl) Tx.b_tuple (by decide +kernel) (va_cons (ve_de (de_var (pv 6))) va_nil)))) (ve_de (de_oe (oe_callTy call_tuple_of mc_tuple (by rfl) Tx.b_tuple (by decide +kernel) (va_cons (ve_de (de_var (pv 8))) va_nil)))) (nomark _))
    (dss_one (ds_ret (oe_de de_bl)))
    dss_nil)
    (dss_one (ds_ret (oe_de (de_and (de_oe (oe_cl c__law_takes tk (hr.mono (by omega)) (by rfl) (va_cons (ve_de (de_var (pv 0))) (va_cons (ve_de (de_var (pv 1))) (va_cons (ve_de (de_var (pv 5))) (va_cons (ve_de (de_var (pv 6))) (va_cons (ve_de (de_var (pv 7))) va_nil))))) (lenSV (lenSV (lenSV (lenSV (lenSV len0V))))))) (de_one (de_oe (oe_cl c__law_takes tk (hr.mono (by omega)) (by rfl) (va_cons (ve_de (de_var (pv 2))) (va_cons (ve_de (de_var (pv 3))) (va_cons (ve_de (de_var (pv 5))) (va_cons (ve_de (de_var (pv 8))) (va_cons (ve_de (de_var (pv 9))) va_nil))))) (lenSV (lenSV (lenSV (lenSV (lenSV len0V))))))))))))))
/-! ### _law_bent -/
abbrev s__law_bent : Stmt := topS 33
abbrev N__law_bent : List Str := ["draws", "told", "kind", "index", "octets", "proof", "others", "second"]
theorem sc__law_bent : FnScope N__law_bent ["draws", "told"] (defScope s__law_bent) := ⟨rfl, rfl, rfl, by decide +kernel, rfl, by decide +kernel, by decide +kernel⟩
def m__law_bent (A : Ad) : Gs :=
  (gSeq (gAsg (fTup (fConsG (fName 3) (fConsG (fName 4) (fConsG (fName 5) (fConsG (fName 6) (fConsG (fName 7) fNilG)))))) (gVar 1))
  (gSeq (gSet 2 (gFz (gCall (F__law_take A) (gConsV (gOwn 0) (gConsV (gVd (gC (.int 7))) gNilV)))))
  (gSeq (gIfS (gDB (gLook fEq (gVd (gVar 2)) (gVd (gC (.int 0)))))
  (gRet (gOd (gTup (gConsA (gBin fAdd (gVar 3) (gC (.int 1))) (gConsA (gVar 4) (gConsA (gVar 5) (gConsA (gVar 6) (gConsA (gVar 7) gNilA))))))))
  gNx)
  (gSeq (gIfS (gDB (gLook fEq (gVd (gVar 2)) (gVd (gC (.int 1)))))
  (gRet (gOd (gTup (gConsA (gVar 3) (gConsA (gVar 6) (gConsA (gVar 5) (gConsA (gVar 4) (gConsA (gVar 7) gNilA))))))))
  gNx)
  (gSeq (gIfS (gDB (gLook fEq (gVd (gVar 2)) (gVd (gC (.int 2)))))
  (gRet (gOd (gTup (gConsA (gVar 3) (gConsA (gVar 4) (gConsA (gVar 5) (gConsA (gVar 4) (gConsA (gVar 5) gNilA))))))))
  gNx)
  (gSeq (gIfS (gDB (gLook fEq (gVd (gVar 2)) (gVd (gC (.int 3)))))
  (gRet (gOd (gTup (gConsA (gVar 3) (gConsA (gVar 4) (gConsA (gSlT (gVd (gVar 5)) (gPart (gC (.int 1))) gNoPart) (gConsA (gVar 6) (gConsA (gVar 7) gNilA))))))))
  gNx)
  (gSeq (gIfS (gDB (gLook fEq (gVd (gVar 2)) (gVd (gC (.int 4)))))
  (gRet (gOd (gTup (gConsA (gVar 3) (gConsA (gVar 4) (gConsA (gVar 5) (gConsA (gVar 6) (gConsA (gCatT (gVd (gVar 7)) (gVd (gTup (gConsA (gC (.int 5)) gNilA)))) gNilA))))))))
  gNx)
  (gSeq (gIfS (gDB (gLook fEq (gVd (gVar 2)) (gVd (gC (.int 5)))))
  (gRet (gOd (gTup (gConsA (gBin fSub (gVar 3) (gC (.int 1))) (gConsA (gVar 4) (gConsA (gVar 5) (gConsA (gVar 6) (gConsA (gVar 7) gNilA))))))))
  gNx)
  (gRet (gOd (gTup (gConsA (gVar 3) (gConsA (gCatT (gVd (gVar 4)) (gVd (gTup (gConsA (gC (.int 1)) gNilA)))) (gConsA (gVar 5) (gConsA (gVar 6) (gConsA (gVar 7) gNilA))))))))))))))))
def F__law_bent (A : Ad) : List T → FR := bodyF (m__law_bent A) [true, false] 8
theorem ok__law_bent [Tabs] {P : Program} {w : World} {K : PySem.W.Frag} {mg : Str → Option Value} {base : Heap} {A : Ad} (Tx : Txt K mg base A) (c__law_take : Cl P w K mg base 1 "_law_take" ["draws", "limit"] (F__law_take A)) : Cl P w K mg base 2 "_law_bent" ["draws", "told"] (F__law_bent A) :=
  Cl.mk (k := 1) (pin := [0]) [true, false] Tx.d__law_bent sc__law_bent rfl (by decide) (pin_of (by decide)) fun f cdv hcf B outer s H E hr tk => by exact (dss_cons (ds_asg (de_var (pv 1)) (dg_tup rfl (dgs_cons (dg_name sc__law_bent.nd rfl (by first | exact Or.inl rfl | exact Or.inr rfl) (by decide)) (dgs_cons (dg_name sc__law_bent.nd rfl (by first | exact Or.inl rfl | exact Or.inr rfl) (by decide)) (dgs_cons (dg_name sc__law_bent.nd rfl (by first | exact Or.inl rfl | exact Or.inr rfl) (by decide)) (dgs_cons (dg_name sc__law_bent.nd rfl (by first | exact Or.inl rfl | exact Or.inr rfl) (by decide)) (dgs_cons (dg_name sc__law_bent.nd rfl (by first | exact Or.inl rfl | exact Or.inr rfl) (by decide)) dgs_nil))))) (lenGs (lenGs (lenGs (lenGs (lenGs len0)))))))
    (dss_cons (ds_set sc__law_bent.nd rfl (by first | exact Or.inl rfl | exact Or.inr rfl) (by decide) (de_oe (oe_cl c__law_take tk (hr.mono (by omega)) (by rfl) (va_cons (ve_own (pv 0)) (va_cons (ve_de de_int) va_nil)) (lenSV (lenSV len0V)))))
    (dss_cons (ds_if (be_lcmp (op_eqD hr.units) look_eq (ve_de (de_var (pv 2))) (ve_de de_int) (nomark _))
    (dss_one (ds_ret (oe_de (de_tup (da_cons (de_bin op_addIS pure_add (de_var (pv 3)) de_int) (da_cons (de_var (pv 4)) (da_cons (de_var (pv 5)) (da_cons (de_var (pv 6)) (da_cons (de_var (pv 7)) da_nil)))))))))
    dss_nil)
    (dss_cons (ds_if (be_lcmp (op_eqD hr.units) look_eq (ve_de (de_var (pv 2))) (ve_de de_int) (nomark _))
    (dss_one (ds_ret (oe_de (de_tup (da_cons (de_var (pv 3)) (da_cons (de_var (pv 6)) (da_cons (de_var (pv 5)) (da_cons (de_var (pv 4)) (da_cons (de_var (pv 7)) da_nil)))))))))
    dss_nil)
    (dss_cons (ds_if (be_lcmp (op_eqD hr.units) look_eq (ve_de (de_var (pv 2))) (ve_de de_int) (nomark _))
    (dss_one (ds_ret (oe_de (de_tup (da_cons (de_var (pv 3)) (da_cons (de_var (pv 4)) (da_cons (de_var (pv 5)) (da_cons (de_var (pv 4)) (da_cons (de_var (pv 5)) da_nil)))))))))
    dss_nil)
    (dss_cons (ds_if (be_lcmp (op_eqD hr.units) look_eq (ve_de (de_var (pv 2))) (ve_de de_int) (nomark _))
    (dss_one (ds_ret (oe_de (de_tup (da_cons (de_var (pv 3)) (da_cons (de_var (pv 4)) (da_cons (de_slT (ve_de (de_var (pv 5))) (pt_some de_int) pt_no) (da_cons (de_var (pv 6)) (da_cons (de_var (pv 7)) da_nil)))))))))
    dss_nil)
    (dss_cons (ds_if (be_lcmp (op_eqD hr.units) look_eq (ve_de (de_var (pv 2))) (ve_de de_int) (nomark _))
    (dss_one (ds_ret (oe_de (de_tup (da_cons (de_var (pv 3)) (da_cons (de_var (pv 4)) (da_cons (de_var (pv 5)) (da_cons (de_var (pv 6)) (da_cons (de_catT (ve_de (de_var (pv 7))) (ve_de (de_tup (da_cons de_int da_nil)))) da_nil)))))))))
    dss_nil)
    (dss_cons (ds_if (be_lcmp (op_eqD hr.units) look_eq (ve_de (de_var (pv 2))) (ve_de de_int) (nomark _))
    (dss_one (ds_ret (oe_de (de_tup (da_cons (de_bin op_sub pure_sub (de_var (pv 3)) de_int) (da_cons (de_var (pv 4)) (da_cons (de_var (pv 5)) (da_cons (de_var (pv 6)) (da_cons (de_var (pv 7)) da_nil)))))))))
    dss_nil)
    (dss_one (ds_ret (oe_de (de_tup (da_cons (de_var (pv 3)) (da_cons (de_catT (ve_de (de_var (pv 4))) (ve_de (de_tup (da_cons de_int da_nil)))) (da_cons (de_var (pv 5)) (da_cons (de_var (pv 6)) (da_cons (de_var (pv 7)) da_nil)))))))))))))))))
/-! ### law -/
abbrev s_law : Stmt := topS 35
abbrev N_law : List Str := ["script", "draws", "turn", "first", "second", "kind", "at", "due", "call", "sums", "others", "root", "other", "same", "k", "j", "item", "bent"]
theorem sc_law : FnScope N_law ["script"] (defScope s_law) := ⟨rfl, rfl, rfl, by decide +kernel, rfl, by decide +kernel, by decide +kernel⟩
def l_law_0 (A : Ad) : Gs :=
  (gSetT 1 (gCall (F__law_draws A) (gConsV (gVd (gVar 0)) (gConsV (gVd (gC (.int 300))) gNilV))))
def l_law_1_0 (A : Ad) : Gs :=
  (gSet 3 (gFz (gLc (gRng1 (gConsA (gBin fAdd (gC (.int 1)) (gFz (gCall (F__law_take A) (gConsV (gOwn 1) (gConsV (gVd (gC (.int 25))) gNilV))))) gNilA)) (fName 15) gYes (gFz (gLc (gRng1 (gConsA (gFz (gCall (F__law_take A) (gConsV (gOwn 1) (gConsV (gVd (gC (.int 3))) gNilV)))) gNilA)) (fName 14) gYes (gFz (gCall (F__law_take A) (gConsV (gOwn 1) (gConsV (gVd (gC (.int 6))) gNilV)))) [14])) [15])))
def l_law_1_1 (A : Ad) : Gs :=
  (gSetT 4 (gLc (gILst (gFz (gSlL (gVd (gVar 3)) gNoPart (gPart (gBin fAdd (gC (.int 1)) (gFz (gCall (F__law_take A) (gConsV (gOwn 1) (gConsV (gVd (gCallD fLen (gConsV (gVd (gVar 3)) gNilV))) gNilV))))))))) (fName 16) gYes (gFz (gCallT fList (gConsV (gVd (gVar 16)) gNilV))) [16]))
def l_law_1_2 (A : Ad) : Gs :=
  (gSet 5 (gFz (gCall (F__law_take A) (gConsV (gOwn 1) (gConsV (gVd (gC (.int 4))) gNilV)))))
def l_law_1_3_0 (A : Ad) : Gs :=
  (gPut 4 (gFz (gLst (gConsA (gFz (gCall (F__law_take A) (gConsV (gOwn 1) (gConsV (gVd (gC (.int 6))) gNilV)))) (gConsA (gC (.int 9)) gNilA)))) (gFz (gCall (F__law_take A) (gConsV (gOwn 1) (gConsV (gVd (gCallD fLen (gConsV (gAny 4) gNilV))) gNilV)))))
def l_law_1_3 (A : Ad) : Gs :=
  (gIfS (gDB (gBin fGt (gVar 5) (gC (.int 0))))
  (l_law_1_3_0 A)
  gNx)
def l_law_1_4_0 (A : Ad) : Gs :=
  (gSetT 4 (gMake fCat (gAny 4) (gVd (gFz (gLc (gRng1 (gConsA (gFz (gCall (F__law_take A) (gConsV (gOwn 1) (gConsV (gVd (gC (.int 9))) gNilV)))) gNilA)) (fName 14) gYes (gFz (gLst (gConsA (gFz (gCall (F__law_take A) (gConsV (gOwn 1) (gConsV (gVd (gC (.int 256))) gNilV)))) gNilA))) [14])))))
def l_law_1_4 (A : Ad) : Gs :=
  (gIfS (gDB (gBin fGt (gVar 5) (gC (.int 1))))
  (l_law_1_4_0 A)
  gNx)
def l_law_1_5_0 (A : Ad) : Gs :=
  (gAsg (fTup (fConsG (fName 3) (fConsG (fName 4) fNilG))) (gTup (gConsA (gFrz 4) (gConsA (gVar 3) gNilA))))
def l_law_1_5 (A : Ad) : Gs :=
  (gIfS (gDB (gLook fEq (gVd (gVar 5)) (gVd (gC (.int 3)))))
  (l_law_1_5_0 A)
  gNx)
def l_law_1_6 (A : Ad) : Gs :=
  (gPar 9 10 (gConsA (gFz (gLc (gILst (gVar 3)) (fName 16) gYes (gFz (gCall (F__law_leaf A) (gConsV (gVd (gVar 16)) gNilV))) [16])) (gConsA (gFz (gLc (gILst (gFrz 4)) (fName 16) gYes (gFz (gCall (F__law_leaf A) (gConsV (gVd (gVar 16)) gNilV))) [16])) gNilA)))
def l_law_1_7 (A : Ad) : Gs :=
  (gAsg (fTup (fConsG (fName 11) (fConsG (fName 12) fNilG))) (gTup (gConsA (gFz (gCall (F__law_root A 12) (gConsV (gVd (gVar 9)) gNilV))) (gConsA (gFz (gCall (F__law_root A 12) (gConsV (gVd (gVar 10)) gNilV))) gNilA))))
def l_law_1_9 (A : Ad) : Gs :=
  (whileD (gAnd (gDB (gBin fLt (gVar 6) (gCallD (f2 fMin2) (gConsV (gVd (gCallD fLen (gConsV (gVd (gVar 3)) gNilV))) (gConsV (gVd (gCallD fLen (gConsV (gAny 4) gNilV))) gNilV))))) (gDB (gLook fEq (gVd (gLook fIx (gVd (gVar 3)) (gVd (gVar 6)))) (gVd (gLook fIx (gAny 4) (gVd (gVar 6)))))))
  (gSet 6 (gBin fAdd (gVar 6) (gC (.int 1)))) 100000)
def l_law_1_11_0 (A : Ad) : Gs :=
  (gSet 7 (gTup (gConsA (gVar 6) (gConsA (gFz (gCallT fTuple (gConsV (gVd (gLook fIx (gVd (gVar 3)) (gVd (gVar 6)))) gNilV))) (gConsA (gFz (gCallT fTuple (gConsV (gVd (gFz (gCall (F__law_proof A 12) (gConsV (gVd (gVar 9)) (gConsV (gVd (gVar 6)) gNilV))))) gNilV))) (gConsA (gFz (gCallT fTuple (gConsV (gVd (gLook fIx (gAny 4) (gVd (gVar 6)))) gNilV))) (gConsA (gFz (gCallT fTuple (gConsV (gVd (gFz (gCall (F__law_proof A 12) (gConsV (gVd (gVar 10)) (gConsV (gVd (gVar 6)) gNilV))))) gNilV))) gNilA)))))))
def l_law_1_11 (A : Ad) : Gs :=
  (gIfS (gDB (gBin fLt (gVar 6) (gCallD (f2 fMin2) (gConsV (gVd (gCallD fLen (gConsV (gVd (gVar 3)) gNilV))) (gConsV (gVd (gCallD fLen (gConsV (gAny 4) gNilV))) gNilV)))))
  (l_law_1_11_0 A)
  gNx)
def l_law_1_12 (A : Ad) : Gs :=
  (gIfS (gNot (gDB (gFz (gCall (F__law_same A 4) (gConsV (gVd (gFz (gCall (F_fork_paper A) (gConsV (gVd (gVar 3)) (gConsV (gVd (gFrz 4)) gNilV))))) (gConsV (gVd (gVar 7)) gNilV))))))
  (gRet (gOd (gC (.bl false))))
  gNx)
def l_law_1_13_0 (A : Ad) : Gs :=
  (gSet 13 (gTup (gConsA (gC (.int 0)) (gConsA (gFz (gCallT fTuple (gConsV (gVd (gLook fIx (gVd (gVar 3)) (gVd (gC (.int 0))))) gNilV))) (gConsA (gFz (gCallT fTuple (gConsV (gVd (gFz (gCall (F__law_proof A 12) (gConsV (gVd (gVar 9)) (gConsV (gVd (gC (.int 0))) gNilV))))) gNilV))) (gConsA (gFz (gCallT fTuple (gConsV (gVd (gLook fIx (gAny 4) (gVd (gC (.int 0))))) gNilV))) (gConsA (gFz (gCallT fTuple (gConsV (gVd (gFz (gCall (F__law_proof A 12) (gConsV (gVd (gVar 10)) (gConsV (gVd (gC (.int 0))) gNilV))))) gNilV))) gNilA)))))))
def l_law_1_13_1 (A : Ad) : Gs :=
  (gIfS (gDB (gBin fNotB (gFz (gCall (F_takes_fork A) (gConsV (gVd (gVar 11)) (gConsV (gVd (gCallD fLen (gConsV (gVd (gVar 3)) gNilV))) (gConsV (gVd (gVar 12)) (gConsV (gVd (gCallD fLen (gConsV (gAny 4) gNilV))) (gConsV (gVd (gVar 13)) gNilV))))))) (gC (.bl false))))
  (gRet (gOd (gC (.bl false))))
  gNx)
def l_law_1_13 (A : Ad) : Gs :=
  (gIfS (gDB (gBin fGt (gVar 6) (gC (.int 0))))
  (gSeq (l_law_1_13_0 A)
  (l_law_1_13_1 A))
  gNx)
def l_law_1_14_0 (A : Ad) : Gs :=
  (gIfS (gDB (gBin fNotB (gFz (gCall (F_takes_fork A) (gConsV (gVd (gVar 11)) (gConsV (gVd (gCallD fLen (gConsV (gVd (gVar 3)) gNilV))) (gConsV (gVd (gVar 12)) (gConsV (gVd (gCallD fLen (gConsV (gAny 4) gNilV))) (gConsV (gVd (gVar 7)) gNilV))))))) (gC (.bl true))))
  (gRet (gOd (gC (.bl false))))
  gNx)
def l_law_1_14_1_0 (A : Ad) : Gs :=
  (gSet 17 (gFz (gCall (F__law_bent A) (gConsV (gOwn 1) (gConsV (gVd (gVar 7)) gNilV)))))
def l_law_1_14_1_1 (A : Ad) : Gs :=
  (gIfS (gNot (gDB (gFz (gCall (F__law_same A 4) (gConsV (gVd (gFz (gCall (F_takes_fork A) (gConsV (gVd (gVar 11)) (gConsV (gVd (gCallD fLen (gConsV (gVd (gVar 3)) gNilV))) (gConsV (gVd (gVar 12)) (gConsV (gVd (gCallD fLen (gConsV (gAny 4) gNilV))) (gConsV (gVd (gVar 17)) gNilV)))))))) (gConsV (gVd (gFz (gCall (F__law_is_fork A) (gConsV (gVd (gVar 11)) (gConsV (gVd (gCallD fLen (gConsV (gVd (gVar 3)) gNilV))) (gConsV (gVd (gVar 12)) (gConsV (gVd (gCallD fLen (gConsV (gAny 4) gNilV))) (gConsV (gVd (gVar 17)) gNilV)))))))) gNilV))))))
  (gRet (gOd (gC (.bl false))))
  gNx)
def l_law_1_14_1 (A : Ad) : Gs :=
  (gFor (gRng1 (gConsA (gC (.int 4)) gNilA)) (fName 14)
  (gSeq (l_law_1_14_1_0 A)
  (l_law_1_14_1_1 A)))
def l_law_1_14_2 (A : Ad) : Gs :=
  (gIfS (gDB (gLook fNe (gVd (gFz (gCall (F_takes_fork A) (gConsV (gVd (gVar 12)) (gConsV (gVd (gCallD fLen (gConsV (gVd (gVar 3)) gNilV))) (gConsV (gVd (gVar 11)) (gConsV (gVd (gCallD fLen (gConsV (gAny 4) gNilV))) (gConsV (gVd (gVar 7)) gNilV)))))))) (gVd (gFz (gCall (F__law_is_fork A) (gConsV (gVd (gVar 12)) (gConsV (gVd (gCallD fLen (gConsV (gVd (gVar 3)) gNilV))) (gConsV (gVd (gVar 11)) (gConsV (gVd (gCallD fLen (gConsV (gAny 4) gNilV))) (gConsV (gVd (gVar 7)) gNilV))))))))))
  (gRet (gOd (gC (.bl false))))
  gNx)
def l_law_1_14 (A : Ad) : Gs :=
  (gIfS (gDB (gBin fNotN (gVar 7) (gC .non)))
  (gSeq (l_law_1_14_0 A)
  (gSeq (l_law_1_14_1 A)
  (l_law_1_14_2 A)))
  gNx)
def l_law_1_15 (A : Ad) : Gs :=
  (lamsR (cat1 A.InvalidProof) 8 ((gFz (gCall (F_fork_paper A) (gConsV (gVd (gFz (gLst gNilA))) (gConsV (gVd (gFrz 4)) gNilV)))) ::
    ((gFz (gCall (F_fork_paper A) (gConsV (gVd (gVar 3)) (gConsV (gVd (gFz (gLst gNilA))) gNilV)))) ::
    ((gFz (gCall (F_takes_fork A) (gConsV (gVd (gVar 11)) (gConsV (gVd (gC (.int 0))) (gConsV (gVd (gVar 12)) (gConsV (gVd (gC (.int 1))) (gConsV (gVd (gTup (gConsA (gC (.int 0)) (gConsA (gTup gNilA) (gConsA (gTup gNilA) (gConsA (gTup (gConsA (gC (.int 1)) gNilA)) (gConsA (gTup gNilA) gNilA))))))) gNilV))))))) ::
    ((gFz (gCall (F_takes_fork A) (gConsV (gVd (gVar 11)) (gConsV (gVd (gC (.int 1))) (gConsV (gVd (gVar 12)) (gConsV (gVd (gC (.int 0))) (gConsV (gVd (gTup (gConsA (gC (.int 0)) (gConsA (gTup gNilA) (gConsA (gTup gNilA) (gConsA (gTup (gConsA (gC (.int 1)) gNilA)) (gConsA (gTup gNilA) gNilA))))))) gNilV))))))) ::
    [])))))
def l_law_1b (A : Ad) : Gs :=
  (gSeq (l_law_1_0 A)
  (gSeq (l_law_1_1 A)
  (gSeq (l_law_1_2 A)
  (gSeq (l_law_1_3 A)
  (gSeq (l_law_1_4 A)
  (gSeq (l_law_1_5 A)
  (gSeq (l_law_1_6 A)
  (gSeq (l_law_1_7 A)
  (gSeq (gSet 6 (gC (.int 0)))
  (gSeq (l_law_1_9 A)
  (gSeq (gSet 7 (gC .non))
  (gSeq (l_law_1_11 A)
  (gSeq (l_law_1_12 A)
  (gSeq (l_law_1_13 A)
  (gSeq (l_law_1_14 A)
  (l_law_1_15 A))))))))))))))))
def l_law_1 (A : Ad) : Gs :=
  (gFor (gRng1 (gConsA (gC (.int 3)) gNilA)) (fName 2)
  (l_law_1b A))
def m_law (A : Ad) : Gs :=
  (gSeq (l_law_0 A)
  (gSeq (l_law_1 A)
  (gRet (gOd (gC (.bl true))))))
def F_law (A : Ad) : List T → FR := bodyF (m_law A) [false] 18
theorem ok_law [Tabs] {P : Program} {w : World} {K : PySem.W.Frag} {mg : Str → Option Value} {base : Heap} {A : Ad} (Tx : Txt K mg base A) (c__law_draws : Cl P w K mg base 1 "_law_draws" ["script", "count"] (F__law_draws A)) (c__law_take : Cl P w K mg base 1 "_law_take" ["draws", "limit"] (F__law_take A)) (c__law_leaf : Cl P w K mg base 2 "_law_leaf" ["octets"] (F__law_leaf A)) (c__law_root : Cl P w K mg base 14 "_law_root" ["sums"] (F__law_root A 12)) (c__law_proof : Cl P w K mg base 26 "_law_proof" ["sums", "index"] (F__law_proof A 12)) (c_fork_paper : Cl P w K mg base 27 "fork_paper" ["first", "second"] (F_fork_paper A)) (c__law_same : Cl P w K mg base 4 "_law_same" ["found", "due"] (F__law_same A 4)) (c_takes_fork : Cl P w K mg base 16 "takes_fork" ["root", "count", "other", "many", "told"] (F_takes_fork A)) (c__law_bent : Cl P w K mg base 2 "_law_bent" ["draws", "told"] (F__law_bent A)) (c__law_is_fork : Cl P w K mg base 16 "_law_is_fork" ["root", "count", "other", "many", "told"] (F__law_is_fork A)) : Cl P w K mg base 30 "law" ["script"] (F_law A) :=
  Cl.mk (k := 29) (pin := []) [false] Tx.d_law sc_law rfl (by decide) (pin_of (by decide)) fun f cdv hcf B outer s H E hr tk => by exact (dss_cons (ds_setT sc_law.nd rfl (by first | exact Or.inl rfl | exact Or.inr rfl) (by decide) (oe_cl c__law_draws tk (hr.mono (by omega)) (by rfl) (va_cons (ve_de (de_var (pv 0))) (va_cons (ve_de de_int) va_nil)) (lenSV (lenSV len0V))))
    (dss_cons (ds_for (passes_of rfl) rfl (di_range1 (by rfl) Tx.b_range (da_cons de_int da_nil)) (dg_name sc_law.nd rfl (by first | exact Or.inl rfl | exact Or.inr rfl) (by decide))
    (dss_cons (ds_set sc_law.nd rfl (by first | exact Or.inl rfl | exact Or.inr rfl) (by decide) (de_oe (oe_lc (own := [("j", 15)]) rfl sc_law.nd (di_range1 (by rfl) Tx.b_range (da_cons (de_bin op_addIS pure_add de_int (de_oe (oe_cl c__law_take tk (hr.mono (by omega)) (by rfl) (va_cons (ve_own (pv 1)) (va_cons (ve_de de_int) va_nil)) (lenSV (lenSV len0V))))) da_nil)) (blkOk_by (N := N_law) (sc := (defScope s_law)) (by decide +kernel)) (fun _ _ _ _ _ => (dg_name sc_law.nd rfl (by first | exact Or.inl rfl | exact Or.inr rfl) (show 15 ∉ compl N_law.length [15] from by decide))) (fun _ _ _ _ _ => bt_nil) (fun _ _ _ _ _ => (de_oe (oe_lc (own := [("k", 14)]) rfl sc_law.nd (di_range1 (by rfl) Tx.b_range (da_cons (de_oe (oe_cl c__law_take takes0 (hr.mono (by omega)) (by rfl) (va_cons (ve_own (pv 1)) (va_cons (ve_de de_int) va_nil)) (lenSV (lenSV len0V)))) da_nil)) (blkOk_by (N := N_law) (sc := (relS _ (defScope s_law))) (by decide +kernel)) (fun _ _ _ _ _ => (dg_name sc_law.nd rfl (by first | exact Or.inl rfl | exact Or.inr rfl) (show 14 ∉ compl N_law.length [14] from by decide))) (fun _ _ _ _ _ => bt_nil) (fun _ _ _ _ _ => (de_oe (oe_cl c__law_take takes0 (hr.mono (by omega)) (by rfl) (va_cons (ve_own (pv 1)) (va_cons (ve_de de_int) va_nil)) (lenSV (lenSV len0V)))))))))))
    (dss_cons (ds_setT sc_law.nd rfl (by first | exact Or.inl rfl | exact Or.inr rfl) (by decide) (oe_lc (own := [("item", 16)]) rfl sc_law.nd (di_list (de_oe (oe_slL (ve_de (de_var (pv 3))) pt_no (pt_some (de_bin op_addIS pure_add de_int (de_oe (oe_cl c__law_take tk (hr.mono (by omega)) (by rfl) (va_cons (ve_own (pv 1)) (va_cons (ve_de (de_callB call_len pc_len (by rfl) Tx.b_len (by decide +kernel) (va_cons (ve_de (de_var (pv 3))) va_nil))) va_nil)) (lenSV (lenSV len0V))))))))) (blkOk_by (N := N_law) (sc := (defScope s_law)) (by decide +kernel)) (fun _ _ _ _ _ => (dg_name sc_law.nd rfl (by first | exact Or.inl rfl | exact Or.inr rfl) (show 16 ∉ compl N_law.length [16] from by decide))) (fun _ _ _ _ _ => bt_nil) (fun _ _ _ _ _ => (de_oe (oe_callTy call_list_of mc_list (by rfl) Tx.b_list (by decide +kernel) (va_cons (ve_de (de_var (pv 16))) va_nil))))))
    (dss_cons (ds_set sc_law.nd rfl (by first | exact Or.inl rfl | exact Or.inr rfl) (by decide) (de_oe (oe_cl c__law_take tk (hr.mono (by omega)) (by rfl) (va_cons (ve_own (pv 1)) (va_cons (ve_de de_int) va_nil)) (lenSV (lenSV len0V)))))
    (dss_cons (ds_if (be_cmp op_gtIS pure_gt (de_var (pv 5)) de_int (nomark _))
    (dss_one (ds_put (pv 4) (de_oe (oe_cl c__law_take tk (hr.mono (by omega)) (by rfl) (va_cons (ve_own (pv 1)) (va_cons (ve_de (de_callB call_len pc_len (by rfl) Tx.b_len (by decide +kernel) (va_cons (ve_any (pv 4)) va_nil))) va_nil)) (lenSV (lenSV len0V)))) (de_oe (oe_lst (da_cons (de_oe (oe_cl c__law_take tk (hr.mono (by omega)) (by rfl) (va_cons (ve_own (pv 1)) (va_cons (ve_de de_int) va_nil)) (lenSV (lenSV len0V)))) (da_cons de_int da_nil))))))
    dss_nil)
    (dss_cons (ds_if (be_cmp op_gtIS pure_gt (de_var (pv 5)) de_int (nomark _))
    (dss_one (ds_setT sc_law.nd rfl (by first | exact Or.inl rfl | exact Or.inr rfl) (by decide) (oe_bin op_cat make_cat (ve_any (pv 4)) (ve_de (de_oe (oe_lc (own := [("k", 14)]) rfl sc_law.nd (di_range1 (by rfl) Tx.b_range (da_cons (de_oe (oe_cl c__law_take tk (hr.mono (by omega)) (by rfl) (va_cons (ve_own (pv 1)) (va_cons (ve_de de_int) va_nil)) (lenSV (lenSV len0V)))) da_nil)) (blkOk_by (N := N_law) (sc := (defScope s_law)) (by decide +kernel)) (fun _ _ _ _ _ => (dg_name sc_law.nd rfl (by first | exact Or.inl rfl | exact Or.inr rfl) (show 14 ∉ compl N_law.length [14] from by decide))) (fun _ _ _ _ _ => bt_nil) (fun _ _ _ _ _ => (de_oe (oe_lst (da_cons (de_oe (oe_cl c__law_take takes0 (hr.mono (by omega)) (by rfl) (va_cons (ve_own (pv 1)) (va_cons (ve_de de_int) va_nil)) (lenSV (lenSV len0V)))) da_nil))))))))))
    dss_nil)
    (dss_cons (ds_if (be_lcmp (op_eqD hr.units) look_eq (ve_de (de_var (pv 5))) (ve_de de_int) (nomark _))
    (dss_one (ds_asg (de_tup (da_cons (de_frz (pv 4)) (da_cons (de_var (pv 3)) da_nil))) (dg_tup rfl (dgs_cons (dg_name sc_law.nd rfl (by first | exact Or.inl rfl | exact Or.inr rfl) (by decide)) (dgs_cons (dg_name sc_law.nd rfl (by first | exact Or.inl rfl | exact Or.inr rfl) (by decide)) dgs_nil)) (lenGs (lenGs len0)))))
    dss_nil)
    (dss_cons (ds_par rfl sc_law.nd rfl rfl (by decide) (by decide) (by decide) rfl rfl (da_cons (de_oe (oe_lc (own := [("item", 16)]) rfl sc_law.nd (di_list (de_var (pv 3))) (blkOk_by (N := N_law) (sc := (defScope s_law)) (by decide +kernel)) (fun _ _ _ _ _ => (dg_name sc_law.nd rfl (by first | exact Or.inl rfl | exact Or.inr rfl) (show 16 ∉ compl N_law.length [16] from by decide))) (fun _ _ _ _ _ => bt_nil) (fun _ _ _ _ _ => (de_oe (oe_cl c__law_leaf takes0 (hr.mono (by omega)) (by rfl) (va_cons (ve_de (de_var (pv 16))) va_nil) (lenSV len0V)))))) (da_cons (de_oe (oe_lc (own := [("item", 16)]) rfl sc_law.nd (di_list (de_frz (pv 4))) (blkOk_by (N := N_law) (sc := (defScope s_law)) (by decide +kernel)) (fun _ _ _ _ _ => (dg_name sc_law.nd rfl (by first | exact Or.inl rfl | exact Or.inr rfl) (show 16 ∉ compl N_law.length [16] from by decide))) (fun _ _ _ _ _ => bt_nil) (fun _ _ _ _ _ => (de_oe (oe_cl c__law_leaf takes0 (hr.mono (by omega)) (by rfl) (va_cons (ve_de (de_var (pv 16))) va_nil) (lenSV len0V)))))) da_nil)) (by rfl))
    (dss_cons (ds_asg (de_tup (da_cons (de_oe (oe_cl c__law_root tk (hr.mono (by omega)) (by rfl) (va_cons (ve_de (de_var (pv 9))) va_nil) (lenSV len0V))) (da_cons (de_oe (oe_cl c__law_root tk (hr.mono (by omega)) (by rfl) (va_cons (ve_de (de_var (pv 10))) va_nil) (lenSV len0V))) da_nil))) (dg_tup rfl (dgs_cons (dg_name sc_law.nd rfl (by first | exact Or.inl rfl | exact Or.inr rfl) (by decide)) (dgs_cons (dg_name sc_law.nd rfl (by first | exact Or.inl rfl | exact Or.inr rfl) (by decide)) dgs_nil)) (lenGs (lenGs len0))))
    (dss_cons (ds_set sc_law.nd rfl (by first | exact Or.inl rfl | exact Or.inr rfl) (by decide) de_int)
    (dss_cons (ds_while 100000 (passes_of rfl) ((bw_and (be_cmp op_ltIS pure_lt (de_var (pv 6)) (de_callB (call_min2 rfl) pc_min2 (by rfl) Tx.b_min (by decide +kernel) (va_cons (ve_de (de_callB call_len pc_len (by rfl) Tx.b_len (by decide +kernel) (va_cons (ve_de (de_var (pv 3))) va_nil))) (va_cons (ve_de (de_callB call_len pc_len (by rfl) Tx.b_len (by decide +kernel) (va_cons (ve_any (pv 4)) va_nil))) va_nil))) (nomark _)) (bw_one_and (be_lcmp (op_eqD hr.units) look_eq (ve_de (de_ix ix_seq look_ix (ve_de (de_var (pv 3))) (ve_de (de_var (pv 6))) (fun _ _ => rfl))) (ve_de (de_ix ix_seq look_ix (ve_any (pv 4)) (ve_de (de_var (pv 6))) (fun _ _ => rfl))) (nomark _))))).pt
    (dss_one (ds_set sc_law.nd rfl (by first | exact Or.inl rfl | exact Or.inr rfl) (by decide) (de_bin op_addIS pure_add (de_var (pv 6)) de_int))))
    (dss_cons (ds_set sc_law.nd rfl (by first | exact Or.inl rfl | exact Or.inr rfl) (by decide) de_non)
    (dss_cons (ds_if (be_cmp op_ltIS pure_lt (de_var (pv 6)) (de_callB (call_min2 rfl) pc_min2 (by rfl) Tx.b_min (by decide +kernel) (va_cons (ve_de (de_callB call_len pc_len (by rfl) Tx.b_len (by decide +kernel) (va_cons (ve_de (de_var (pv 3))) va_nil))) (va_cons (ve_de (de_callB call_len pc_len (by rfl) Tx.b_len (by decide +kernel) (va_cons (ve_any (pv 4)) va_nil))) va_nil))) (nomark _))
    (dss_one (ds_set sc_law.nd rfl (by first | exact Or.inl rfl | exact Or.inr rfl) (by decide) (de_tup (da_cons (de_var (pv 6)) (da_cons (de_oe (oe_callTy call_tuple_of mc_tuple (by rfl) Tx.b_tuple (by decide +kernel) (va_cons (ve_de (de_ix ix_seq look_ix (ve_de (de_var (pv 3))) (ve_de (de_var (pv 6))) (fun _ _ => rfl))) va_nil))) (da_cons (de_oe (oe_callTy call_tuple_of mc_tuple (by rfl) Tx.b_tuple (by decide +kernel) (va_cons (ve_de (de_oe (oe_cl c__law_proof tk (hr.mono (by omega)) (by rfl) (va_cons (ve_de (de_var (pv 9))) (va_cons (ve_de (de_var (pv 6))) va_nil)) (lenSV (lenSV len0V))))) va_nil))) (da_cons (de_oe (oe_callTy call_tuple_of mc_tuple (by rfl) Tx.b_tuple (by decide +kernel) (va_cons (ve_de (de_ix ix_seq look_ix (ve_any (pv 4)) (ve_de (de_var (pv 6))) (fun _ _ => rfl))) va_nil))) (da_cons (de_oe (oe_callTy call_tuple_of mc_tuple (by rfl) Tx.b_tuple (by decide +kernel) (va_cons (ve_de (de_oe (oe_cl c__law_proof tk (hr.mono (by omega)) (by rfl) (va_cons (ve_de (de_var (pv 10))) (va_cons (ve_de (de_var (pv 6))) va_nil)) (lenSV (lenSV len0V))))) va_nil))) da_nil))))))))
    dss_nil)
    (dss_cons (ds_if (be_not (be_de (de_oe (oe_cl c__law_same tk (hr.mono (by omega)) (by rfl) (va_cons (ve_de (de_oe (oe_cl c_fork_paper tk (hr.mono (by omega)) (by rfl) (va_cons (ve_de (de_var (pv 3))) (va_cons (ve_de (de_frz (pv 4))) va_nil)) (lenSV (lenSV len0V))))) (va_cons (ve_de (de_var (pv 7))) va_nil)) (lenSV (lenSV len0V))))))
    (dss_one (ds_ret (oe_de de_bl)))
    dss_nil)
    (dss_cons (ds_if (be_cmp op_gtIS pure_gt (de_var (pv 6)) de_int (nomark _))
    (dss_cons (ds_set sc_law.nd rfl (by first | exact Or.inl rfl | exact Or.inr rfl) (by decide) (de_tup (da_cons de_int (da_cons (de_oe (oe_callTy call_tuple_of mc_tuple (by rfl) Tx.b_tuple (by decide +kernel) (va_cons (ve_de (de_ix ix_seq look_ix (ve_de (de_var (pv 3))) (ve_de de_int) (fun _ _ => rfl))) va_nil))) (da_cons (de_oe (oe_callTy call_tuple_of mc_tuple (by rfl) Tx.b_tuple (by decide +kernel) (va_cons (ve_de (de_oe (oe_cl c__law_proof tk (hr.mono (by omega)) (by rfl) (va_cons (ve_de (de_var (pv 9))) (va_cons (ve_de de_int) va_nil)) (lenSV (lenSV len0V))))) va_nil))) (da_cons (de_oe (oe_callTy call_tuple_of mc_tuple (by rfl) Tx.b_tuple (by decide +kernel) (va_cons (ve_de (de_ix ix_seq look_ix (ve_any (pv 4)) (ve_de de_int) (fun _ _ => rfl))) va_nil))) (da_cons (de_oe (oe_callTy call_tuple_of mc_tuple (by rfl) Tx.b_tuple (by decide +kernel) (va_cons (ve_de (de_oe (oe_cl c__law_proof tk (hr.mono (by omega)) (by rfl) (va_cons (ve_de (de_var (pv 10))) (va_cons (ve_de de_int) va_nil)) (lenSV (lenSV len0V))))) va_nil))) da_nil)))))))
    (dss_one (ds_if (be_cmp op_notBl pure_notB (de_oe (oe_cl c_takes_fork tk (hr.mono (by omega)) (by rfl) (va_cons (ve_de (de_var (pv 11))) (va_cons (ve_de (de_callB call_len pc_len (by rfl) Tx.b_len (by decide +kernel) (va_cons (ve_de (de_var (pv 3))) va_nil))) (va_cons (ve_de (de_var (pv 12))) (va_cons (ve_de (de_callB call_len pc_len (by rfl) Tx.b_len (by decide +kernel) (va_cons (ve_any (pv 4)) va_nil))) (va_cons (ve_de (de_var (pv 13))) va_nil))))) (lenSV (lenSV (lenSV (lenSV (lenSV len0V))))))) de_bl (nomark _))
    (dss_one (ds_ret (oe_de de_bl)))
    dss_nil)))
    dss_nil)
    (dss_cons (ds_if (be_cmp op_notN pure_notN (de_var (pv 7)) de_non (nomark _))
    (dss_cons (ds_if (be_cmp op_notBl pure_notB (de_oe (oe_cl c_takes_fork tk (hr.mono (by omega)) (by rfl) (va_cons (ve_de (de_var (pv 11))) (va_cons (ve_de (de_callB call_len pc_len (by rfl) Tx.b_len (by decide +kernel) (va_cons (ve_de (de_var (pv 3))) va_nil))) (va_cons (ve_de (de_var (pv 12))) (va_cons (ve_de (de_callB call_len pc_len (by rfl) Tx.b_len (by decide +kernel) (va_cons (ve_any (pv 4)) va_nil))) (va_cons (ve_de (de_var (pv 7))) va_nil))))) (lenSV (lenSV (lenSV (lenSV (lenSV len0V))))))) de_bl (nomark _))
    (dss_one (ds_ret (oe_de de_bl)))
    dss_nil)
    (dss_cons (ds_for (passes_of rfl) rfl (di_range1 (by rfl) Tx.b_range (da_cons de_int da_nil)) (dg_name sc_law.nd rfl (by first | exact Or.inl rfl | exact Or.inr rfl) (by decide))
    (dss_cons (ds_set sc_law.nd rfl (by first | exact Or.inl rfl | exact Or.inr rfl) (by decide) (de_oe (oe_cl c__law_bent tk (hr.mono (by omega)) (by rfl) (va_cons (ve_own (pv 1)) (va_cons (ve_de (de_var (pv 7))) va_nil)) (lenSV (lenSV len0V)))))
    (dss_one (ds_if (be_not (be_de (de_oe (oe_cl c__law_same tk (hr.mono (by omega)) (by rfl) (va_cons (ve_de (de_oe (oe_cl c_takes_fork tk (hr.mono (by omega)) (by rfl) (va_cons (ve_de (de_var (pv 11))) (va_cons (ve_de (de_callB call_len pc_len (by rfl) Tx.b_len (by decide +kernel) (va_cons (ve_de (de_var (pv 3))) va_nil))) (va_cons (ve_de (de_var (pv 12))) (va_cons (ve_de (de_callB call_len pc_len (by rfl) Tx.b_len (by decide +kernel) (va_cons (ve_any (pv 4)) va_nil))) (va_cons (ve_de (de_var (pv 17))) va_nil))))) (lenSV (lenSV (lenSV (lenSV (lenSV len0V)))))))) (va_cons (ve_de (de_oe (oe_cl c__law_is_fork tk (hr.mono (by omega)) (by rfl) (va_cons (ve_de (de_var (pv 11))) (va_cons (ve_de (de_callB call_len pc_len (by rfl) Tx.b_len (by decide +kernel) (va_cons (ve_de (de_var (pv 3))) va_nil))) (va_cons (ve_de (de_var (pv 12))) (va_cons (ve_de (de_callB call_len pc_len (by rfl) Tx.b_len (by decide +kernel) (va_cons (ve_any (pv 4)) va_nil))) (va_cons (ve_de (de_var (pv 17))) va_nil))))) (lenSV (lenSV (lenSV (lenSV (lenSV len0V)))))))) va_nil)) (lenSV (lenSV len0V))))))
    (dss_one (ds_ret (oe_de de_bl)))
    dss_nil))))
    (dss_one (ds_if (be_lcmp (op_neD hr.units) look_ne (ve_de (de_oe (oe_cl c_takes_fork tk (hr.mono (by omega)) (by rfl) (va_cons (ve_de (de_var (pv 12))) (va_cons (ve_de (de_callB call_len pc_len (by rfl) Tx.b_len (by decide +kernel) (va_cons (ve_de (de_var (pv 3))) va_nil))) (va_cons (ve_de (de_var (pv 11))) (va_cons (ve_de (de_callB call_len pc_len (by rfl) Tx.b_len (by decide +kernel) (va_cons (ve_any (pv 4)) va_nil))) (va_cons (ve_de (de_var (pv 7))) va_nil))))) (lenSV (lenSV (lenSV (lenSV (lenSV len0V)))))))) (ve_de (de_oe (oe_cl c__law_is_fork tk (hr.mono (by omega)) (by rfl) (va_cons (ve_de (de_var (pv 12))) (va_cons (ve_de (de_callB call_len pc_len (by rfl) Tx.b_len (by decide +kernel) (va_cons (ve_de (de_var (pv 3))) va_nil))) (va_cons (ve_de (de_var (pv 11))) (va_cons (ve_de (de_callB call_len pc_len (by rfl) Tx.b_len (by decide +kernel) (va_cons (ve_any (pv 4)) va_nil))) (va_cons (ve_de (de_var (pv 7))) va_nil))))) (lenSV (lenSV (lenSV (lenSV (lenSV len0V)))))))) (nomark _))
    (dss_one (ds_ret (oe_de de_bl)))
    dss_nil))))
    dss_nil)
    (dss_one (ds_lams (k := 27) (m := cat1 A.InvalidProof) (passes_of rfl) rfl (mkx Tx.k_law hcf) (LamEs.cons ⟨rfl, LamX.lamS_by (sc := defScope s_law) (by decide +kernel), (fun _ _ _ _ _ => rfl), (fun A outer s H E f c' hr tk => by exact (de_oe (oe_cl c_fork_paper tk (hr.mono (by omega)) (by rfl) (va_cons (ve_de (de_oe (oe_lst da_nil))) (va_cons (ve_de (de_frz (pv 4))) va_nil)) (lenSV (lenSV len0V)))))⟩ (LamEs.cons ⟨rfl, LamX.lamS_by (sc := defScope s_law) (by decide +kernel), (fun _ _ _ _ _ => rfl), (fun A outer s H E f c' hr tk => by exact (de_oe (oe_cl c_fork_paper tk (hr.mono (by omega)) (by rfl) (va_cons (ve_de (de_var (pv 3))) (va_cons (ve_de (de_oe (oe_lst da_nil))) va_nil)) (lenSV (lenSV len0V)))))⟩ (LamEs.cons ⟨rfl, LamX.lamS_by (sc := defScope s_law) (by decide +kernel), (fun _ _ _ _ _ => rfl), (fun A outer s H E f c' hr tk => by exact (de_oe (oe_cl c_takes_fork tk (hr.mono (by omega)) (by rfl) (va_cons (ve_de (de_var (pv 11))) (va_cons (ve_de de_int) (va_cons (ve_de (de_var (pv 12))) (va_cons (ve_de de_int) (va_cons (ve_de (de_tup (da_cons de_int (da_cons (de_tup da_nil) (da_cons (de_tup da_nil) (da_cons (de_tup (da_cons de_int da_nil)) (da_cons (de_tup da_nil) da_nil))))))) va_nil))))) (lenSV (lenSV (lenSV (lenSV (lenSV len0V))))))))⟩ (LamEs.cons ⟨rfl, LamX.lamS_by (sc := defScope s_law) (by decide +kernel), (fun _ _ _ _ _ => rfl), (fun A outer s H E f c' hr tk => by exact (de_oe (oe_cl c_takes_fork tk (hr.mono (by omega)) (by rfl) (va_cons (ve_de (de_var (pv 11))) (va_cons (ve_de de_int) (va_cons (ve_de (de_var (pv 12))) (va_cons (ve_de de_int) (va_cons (ve_de (de_tup (da_cons de_int (da_cons (de_tup da_nil) (da_cons (de_tup da_nil) (da_cons (de_tup (da_cons de_int da_nil)) (da_cons (de_tup da_nil) da_nil))))))) va_nil))))) (lenSV (lenSV (lenSV (lenSV (lenSV len0V))))))))⟩ LamEs.nil)))) (pe_ref (CS := A.InvalidProof) Tx.r__law_is_refused sc__law_is_refused rfl (Or.inl rfl) rfl rfl Tx.x_InvalidProof.g (fun _ => rfl) (fun _ _ => rfl) (by rfl) (hr.mono (by omega)) (pv 8)) sc_law.nd rfl (by first | exact Or.inl rfl | exact Or.inr rfl) (by decide) (cat1_ok Tx.e_InvalidProof_InvalidProof) (Nat.le_of_ble_eq_true rfl)))))))))))))))))))
    (dss_one (ds_ret (oe_de de_bl)))))
end L94



namespace L94
open PySem PySem.Spec PyProof.Rows L2 DL
variable [Tabs]
def stepS (s o : Int) : Int := (263 * s + o + 1) % 34359738337
def sumF (ns : List Int) : Int := ns.foldl stepS 7
theorem loop_sum (A : Ad) (o : Option T) : ∀ (ns : List Int) (s : Int) (y : Option T), ∃ z, forD (fName 2) (gSet 1 (gBin fMod (gBin fAdd (gBin fAdd (gBin fMul (gC (.int 263)) (gVar 1)) (gVar 2)) (gC (.int 1))) (gC (.int 34359738337)))) (ns.map D.int) [o, some (.val (.int s)), y] = .nx [o, some (.val (.int (ns.foldl stepS s))), z]
  | [], s, y => ⟨y, rfl⟩
  | n :: ns, s, y => by
    obtain ⟨z, h⟩ := loop_sum A o ns (stepS s n) (some (.val (.int n)))
    refine ⟨z, ?_⟩
    simp [forD]
    exact h
theorem run_sum_of (A : Ad) (ns : List Int) : F_sum_of A [.val (.lst (ns.map D.int))] = .ok (.val (.int (sumF ns))) [none] := by
  obtain ⟨z, h⟩ := loop_sum A (some (.val (.lst (ns.map D.int)))) ns 7 none
  simp [F_sum_of, bodyF, m_sum_of] at h ⊢
  rw [h]
  simp [sumF]
theorem loop_lsum (A : Ad) (o : Option T) : ∀ (ns : List Int) (s : Int) (y : Option T), ∃ z, forD (fName 2) (gSet 1 (gBin fMod (gCallD (f1 fInt) (gConsV (gVd (gBin fAdd (gBin fAdd (gBin fMul (gC (.int 263)) (gVar 1)) (gVar 2)) (gC (.int 1)))) gNilV)) (gC (.int 34359738337)))) (ns.map D.int) [o, some (.val (.int s)), y] = .nx [o, some (.val (.int (ns.foldl stepS s))), z]
  | [], s, y => ⟨y, rfl⟩
  | n :: ns, s, y => by
    obtain ⟨z, h⟩ := loop_lsum A o ns (stepS s n) (some (.val (.int n)))
    refine ⟨z, ?_⟩
    simp [forD]
    exact h
theorem run__law_sum (A : Ad) (ns : List Int) : F__law_sum A [.val (.lst (ns.map D.int))] = .ok (.val (.int (sumF ns))) [none] := by
  obtain ⟨z, h⟩ := loop_lsum A (some (.val (.lst (ns.map D.int)))) ns 7 none
  simp [F__law_sum, bodyF, m__law_sum] at h ⊢
  rw [h]
  simp [sumF]
def leafF (ns : List Int) : Int := sumF (0 :: ns)
theorem run_leaf_sum (A : Ad) (ns : List Int) (hl : ns.length < sizeLine) : F_leaf_sum A [.val (.lst (ns.map D.int))] = .ok (.val (.int (leafF ns))) [none] := by
  have h := run_sum_of A (0 :: ns)
  have h1 : 1 + ns.length ≤ sizeLine := by omega
  have h2 : (1 : Nat) ≤ sizeLine := by omega
  simp [F_leaf_sum, bodyF, m_leaf_sum, h1, h2] at h ⊢
  rw [h]
  simp [leafF]
theorem run__law_leaf (A : Ad) (ns : List Int) (hl : ns.length < sizeLine) : F__law_leaf A [.val (.lst (ns.map D.int))] = .ok (.val (.int (leafF ns))) [none] := by
  have h := run__law_sum A (0 :: ns)
  have h1 : 1 + ns.length ≤ sizeLine := by omega
  have h2 : (1 : Nat) ≤ sizeLine := by omega
  simp [F__law_leaf, bodyF, m__law_leaf, h1, h2] at h ⊢
  rw [h]
  simp [leafF]
def digs (n : Int) : List Int := [n % 256, n / 256 % 256, n / 65536 % 256, n / 16777216 % 256, n / 4294967296 % 256]
def jointF (a b : Int) : Int := sumF (1 :: (digs a ++ digs b))
theorem rng5 : rangeD 0 5 = [.int 0, .int 1, .int 2, .int 3, .int 4] := by rfl
theorem run_joint_sum (A : Ad) (a b : Int) : F_joint_sum A [.val (.int a), .val (.int b)] = .ok (.val (.int (jointF a b))) [none, none] := by
  have h := run_sum_of A (1 :: (digs a ++ digs b))
  simp [digs] at h
  simp [F_joint_sum, bodyF, m_joint_sum, lcO, lcD, rng5, DL.inR, sizeLine_eq, bitAnd_m8, szR]
  rw [h]
  simp [jointF, digs]
theorem run__law_joint (A : Ad) (a b : Int) : F__law_joint A [.val (.int a), .val (.int b)] = .ok (.val (.int (jointF a b))) [none, none] := by
  have h := run__law_sum A (1 :: (digs a ++ digs b))
  have e : ∀ n : Int, n / 256 / 256 = n / 65536 ∧ n / 65536 / 256 = n / 16777216 ∧ n / 16777216 / 256 = n / 4294967296 := fun n => by omega
  simp [digs] at h
  simp [F__law_joint, bodyF, m__law_joint, forD, rng5, DL.inR, sizeLine_eq, (e _).1, (e _).2.1, (e _).2.2]
  rw [h]
  simp [jointF, digs]
def cutF (n : Nat) : Nat := 2 ^ (n - 1).log2
theorem cutF_lt {n : Nat} (h : 2 ≤ n) : cutF n < n := by
  have := Nat.log2_self_le (n := n - 1) (by omega)
  unfold cutF
  omega
theorem cutF_pos (n : Nat) : 1 ≤ cutF n := Nat.one_le_two_pow
theorem cutF_ge {n : Nat} (h : 2 ≤ n) : n ≤ 2 * cutF n := by
  have := Nat.lt_log2_self (n := n - 1)
  unfold cutF
  rw [Nat.pow_succ] at this
  omega
theorem cutF_le {n m : Nat} (h : 2 ≤ n) (hm : n ≤ 2 ^ (m + 1)) : cutF n ≤ 2 ^ m := by
  unfold cutF
  refine Nat.pow_le_pow_right (by omega) ?_
  have : (n - 1).log2 < m + 1 := (Nat.log2_lt (by omega)).mpr (by omega)
  omega
theorem cutF_uniq {n k : Nat} (h : 2 ≤ n) (h1 : 2 ^ k < n) (h2 : n ≤ 2 * 2 ^ k) : cutF n = 2 ^ k := by
  unfold cutF
  have a1 : k < (n - 1).log2 + 1 := by
    have := Nat.lt_log2_self (n := n - 1)
    have h3 : 2 ^ k < 2 ^ ((n - 1).log2 + 1) := by omega
    exact (Nat.pow_lt_pow_iff_right (by omega)).mp h3
  have a2 : (n - 1).log2 < k + 1 := (Nat.log2_lt (by omega)).mpr (by rw [Nat.pow_succ]; omega)
  rw [show (n - 1).log2 = k by omega]
theorem bits_log (n : Nat) (h : 1 ≤ n) : Builtin.Int.intBits (n : Int) = n.log2 + 1 := by
  unfold Builtin.Int.intBits
  have h1 : ((n : Int) == 0) = false := by simp; omega
  rw [h1]
  simp
theorem run_cut_of (A : Ad) (n : Nat) (h : 2 ≤ n) (hn : n ≤ 1000000) : F_cut_of A [.val (.int n)] = .ok (.val (.int (cutF n : Nat))) [none] := by
  have e : (n : Int) - 1 = ((n - 1 : Nat) : Int) := by omega
  have b := bits_log (n - 1) (by omega)
  have hb : (n - 1).log2 ≤ 1000000 := Nat.le_trans (Nat.log2_le_self _) (by omega)
  have hb2 : ((n - 1).log2 : Int) ≤ 1000000 := by omega
  simp [F_cut_of, bodyF, m_cut_of, e, b, cPow, hb2, cutF]
theorem loop_cut (n : Nat) (o : Option T) (ho : o = some (.val (.int n))) : ∀ (fuel k : Nat), 2 ^ k < n → n ≤ 2 ^ (k + fuel) → n ≤ 1000000 → ∃ m, 2 ^ m < n ∧ n ≤ 2 * 2 ^ m ∧
    whileD (gDB (gBin fLt (gBin fMul (gC (.int 2)) (gVar 1)) (gVar 0))) (gSet 1 (gBin fMul (gC (.int 2)) (gVar 1))) (fuel + 1) [o, some (.val (.int (2 ^ k : Nat)))] = .nx [o, some (.val (.int (2 ^ m : Nat)))]
  | 0, k, h1, h2, hn => by simp at h2; omega
  | fuel + 1, k, h1, h2, hn => by
    subst ho
    by_cases hk : 2 * 2 ^ k < n
    · have e : 2 * 2 ^ k = 2 ^ (k + 1) := by rw [Nat.pow_succ]; omega
      obtain ⟨m, a1, a2, a3⟩ := loop_cut n (some (.val (.int n))) rfl fuel (k + 1) (by omega) (by rw [show k + 1 + fuel = k + (fuel + 1) by omega]; exact h2) hn
      refine ⟨m, a1, a2, ?_⟩
      rw [whileD]
      have c : cMul 2 ((2 ^ k : Nat) : Int) = true := cMul_l _ _ (by decide)
      have q : (2 : Int) * ((2 ^ k : Nat) : Int) = ((2 ^ (k + 1) : Nat) : Int) := by rw [← e]; push_cast; rfl
      have q2 : ((2 ^ (k + 1) : Nat) : Int) < n := by rw [← e]; exact_mod_cast hk
      simp only [gDB, gBin, gC, gVar, gSet, R.bind_ok, List.getElem?_cons_zero, List.getElem?_cons_succ, fMul_i, c, if_true, R.lift_some, fLt_i, q, q2, decide_true, Sr.of_ok, List.set_cons_succ, List.set_cons_zero]
      exact a3
    · refine ⟨k, h1, by omega, ?_⟩
      rw [whileD]
      have c : cMul 2 ((2 ^ k : Nat) : Int) = true := cMul_l _ _ (by decide)
      have q2 : ¬ (2 : Int) * ((2 ^ k : Nat) : Int) < n := by
        intro z
        exact hk (by exact_mod_cast z)
      simp only [gDB, gBin, gC, gVar, gSet, R.bind_ok, List.getElem?_cons_zero, List.getElem?_cons_succ, fMul_i, c, if_true, R.lift_some, fLt_i, q2, decide_false, Sr.of_ok, Bool.false_eq_true, if_false]
theorem run__law_cut (A : Ad) (n : Nat) (h : 2 ≤ n) (hn : n ≤ 1000000) : F__law_cut A [.val (.int n)] = .ok (.val (.int (cutF n : Nat))) [none] := by
  obtain ⟨m, a1, a2, a3⟩ := loop_cut n (some (.val (.int n))) rfl 99999 0 (by simp; omega) (Nat.le_trans hn (Nat.le_trans (show 1000000 ≤ 2 ^ 20 by decide) (Nat.pow_le_pow_right (by decide) (by decide)))) hn
  have e := cutF_uniq h a1 a2
  rw [e]
  simp [F__law_cut, bodyF, m__law_cut] at a3 ⊢
  rw [a3]
  simp





def itD (it : List Int) : D := .lst (it.map D.int)
def rootN : Nat → List (List Int) → Int
  | 0, _ => 0
  | n + 1, items => if items.length = 1 then leafF (items.headD []) else jointF (rootN n (items.take (cutF items.length))) (rootN n (items.drop (cutF items.length)))
def rootS : Nat → List Int → Int
  | 0, _ => 0
  | n + 1, items => if items.length = 1 then items.headD 0 else jointF (rootS n (items.take (cutF items.length))) (rootS n (items.drop (cutF items.length)))
theorem rootN_S : ∀ (n : Nat) (items : List (List Int)), 1 ≤ items.length → rootN n items = rootS n (items.map leafF)
  | 0, items, h => rfl
  | n + 1, items, h => by
    unfold rootN rootS
    rw [List.length_map]
    by_cases h1 : items.length = 1
    · rw [if_pos h1, if_pos h1]
      match items, h1 with
      | [it], _ => rfl
    · have h2 : 2 ≤ items.length := by omega
      have a := cutF_lt h2
      have b := cutF_pos items.length
      rw [if_neg h1, if_neg h1, rootN_S n _ (by rw [List.length_take]; omega), rootN_S n _ (by rw [List.length_drop]; omega), List.map_take, List.map_drop]
theorem run_root_of (A : Ad) : ∀ (n : Nat) (items : List (List Int)), 1 ≤ items.length → items.length ≤ 2 ^ n → items.length ≤ 1000000 → (∀ it ∈ items, it.length < sizeLine) → F_root_of A (n + 1) [.val (.lst (items.map itD))] = .ok (.val (.int (rootN (n + 1) items))) [none]
  | n, items, h1, h2, h3, h4 => by
    by_cases e1 : items.length = 1
    · match items, e1 with
      | [it], _ =>
        have hl := run_leaf_sum A it (h4 it (by simp))
        simp [F_root_of, bodyF, m_root_of, itD] at hl ⊢
        rw [hl]
        simp [rootN]
    · have g2 : 2 ≤ items.length := by omega
      cases n with
      | zero => simp at h2; omega
      | succ n =>
        have a := cutF_lt g2
        have b := cutF_pos items.length
        have c := cutF_ge g2
        have d := cutF_le g2 h2
        have l1 : (items.take (cutF items.length)).length = cutF items.length := by rw [List.length_take]; omega
        have l2 : (items.drop (cutF items.length)).length = items.length - cutF items.length := by rw [List.length_drop]
        have i1 := run_root_of A n (items.take (cutF items.length)) (by omega) (by omega) (by omega) fun it hi => h4 it (List.mem_of_mem_take hi)
        have i2 := run_root_of A n (items.drop (cutF items.length)) (by omega) (by omega) (by omega) fun it hi => h4 it (List.mem_of_mem_drop hi)
        have hc := run_cut_of A items.length g2 h3
        have n0 : items ≠ [] := fun z => by rw [z] at g2; simp at g2
        have n1 : ¬ (items.length : Int) = 1 := by omega
        rw [F_root_of]
        simp only [List.map_take, List.map_drop] at i1 i2
        simp [bodyF, m_root_of, n0, n1, hc, i1, i2, run_joint_sum]
        exact (by rw [rootN, if_neg e1] : rootN (n + 1 + 1) items = jointF (rootN (n + 1) (items.take (cutF items.length))) (rootN (n + 1) (items.drop (cutF items.length)))).symm
theorem run__law_root (A : Ad) : ∀ (n : Nat) (s : List Int), 1 ≤ s.length → s.length ≤ 2 ^ n → s.length ≤ 1000000 → F__law_root A (n + 1) [.val (.lst (s.map D.int))] = .ok (.val (.int (rootS (n + 1) s))) [none]
  | n, items, h1, h2, h3 => by
    by_cases e1 : items.length = 1
    · match items, e1 with
      | [it], _ =>
        simp [F__law_root, bodyF, m__law_root]
        simp [rootS]
    · have g2 : 2 ≤ items.length := by omega
      cases n with
      | zero => simp at h2; omega
      | succ n =>
        have a := cutF_lt g2
        have b := cutF_pos items.length
        have c := cutF_ge g2
        have d := cutF_le g2 h2
        have l1 : (items.take (cutF items.length)).length = cutF items.length := by rw [List.length_take]; omega
        have l2 : (items.drop (cutF items.length)).length = items.length - cutF items.length := by rw [List.length_drop]
        have i1 := run__law_root A n (items.take (cutF items.length)) (by omega) (by omega) (by omega)
        have i2 := run__law_root A n (items.drop (cutF items.length)) (by omega) (by omega) (by omega)
        have hc := run__law_cut A items.length g2 h3
        have n1 : ¬ (items.length : Int) = 1 := by omega
        rw [F__law_root]
        simp only [List.map_take, List.map_drop] at i1 i2
        simp [bodyF, m__law_root, n1, hc, i1, i2, run__law_joint]
        exact (by rw [rootS, if_neg e1] : rootS (n + 1 + 1) items = jointF (rootS (n + 1) (items.take (cutF items.length))) (rootS (n + 1) (items.drop (cutF items.length)))).symm
def proofS : Nat → List Int → Nat → List Int
  | 0, _, _ => []
  | n + 1, s, i => if s.length = 1 then [] else if i < cutF s.length then proofS n (s.take (cutF s.length)) i ++ [rootS 12 (s.drop (cutF s.length))] else proofS n (s.drop (cutF s.length)) (i - cutF s.length) ++ [rootS 12 (s.take (cutF s.length))]
theorem proofS_len : ∀ (n : Nat) (s : List Int) (i : Nat), (proofS n s i).length ≤ n
  | 0, _, _ => Nat.le_refl _
  | n + 1, s, i => by
    unfold proofS
    split
    · simp
    · split
      · have := proofS_len n (s.take (cutF s.length)) i
        simp; omega
      · have := proofS_len n (s.drop (cutF s.length)) (i - cutF s.length)
        simp; omega
theorem run__law_proof (A : Ad) : ∀ (n : Nat) (s : List Int) (i : Nat), i < s.length → s.length ≤ 2 ^ n → n ≤ 11 → s.length ≤ 2000 → F__law_proof A (n + 1) [.val (.lst (s.map D.int)), .val (.int i)] = .ok (.lst ((proofS (n + 1) s i).map D.int)) [none, none]
  | n, s, i, h1, h2, h3, h4 => by
    by_cases e1 : s.length = 1
    · have n1 : (s.length : Int) = 1 := by omega
      rw [F__law_proof]
      simp [bodyF, m__law_proof, n1, proofS, e1]
    · have g2 : 2 ≤ s.length := by omega
      cases n with
      | zero => simp at h2; omega
      | succ n =>
        have a := cutF_lt g2
        have b := cutF_pos s.length
        have c := cutF_ge g2
        have d := cutF_le g2 h2
        have l1 : (s.take (cutF s.length)).length = cutF s.length := by rw [List.length_take]; omega
        have l2 : (s.drop (cutF s.length)).length = s.length - cutF s.length := by rw [List.length_drop]
        have hc := run__law_cut A s.length g2 (by omega)
        have n1 : ¬ (s.length : Int) = 1 := by omega
        have r1 := run__law_root A 11 (s.take (cutF s.length)) (by omega) (by omega) (by omega)
        have r2 := run__law_root A 11 (s.drop (cutF s.length)) (by omega) (by omega) (by omega)
        simp only [List.map_take, List.map_drop] at r1 r2
        have e : proofS (n + 1 + 1) s i = if i < cutF s.length then proofS (n + 1) (s.take (cutF s.length)) i ++ [rootS 12 (s.drop (cutF s.length))] else proofS (n + 1) (s.drop (cutF s.length)) (i - cutF s.length) ++ [rootS 12 (s.take (cutF s.length))] := by rw [proofS, if_neg e1]
        rw [F__law_proof, e]
        by_cases hi : i < cutF s.length
        · have i1 := run__law_proof A n (s.take (cutF s.length)) i (by omega) (by omega) (by omega) (by omega)
          simp only [List.map_take, List.map_drop] at i1
          have hi2 : (i : Int) < (cutF s.length : Int) := by omega
          have pl := proofS_len (n + 1) (s.take (cutF s.length)) i
          have pl2 : (proofS (n + 1) (s.take (cutF s.length)) i).length + 1 ≤ 16777216 := by omega
          simp [bodyF, m__law_proof, n1, hc, i1, r2, hi, sizeLine_eq, pl2]
        · have i1 := run__law_proof A n (s.drop (cutF s.length)) (i - cutF s.length) (by omega) (by omega) (by omega) (by omega)
          simp only [List.map_take, List.map_drop] at i1
          have hi2 : ¬ (i : Int) < (cutF s.length : Int) := by omega
          have es : (i : Int) - (cutF s.length : Int) = ((i - cutF s.length : Nat) : Int) := by omega
          have pl := proofS_len (n + 1) (s.drop (cutF s.length)) (i - cutF s.length)
          have pl2 : (proofS (n + 1) (s.drop (cutF s.length)) (i - cutF s.length)).length + 1 ≤ 16777216 := by omega
          simp [bodyF, m__law_proof, n1, hc, i1, r1, hi, sizeLine_eq, pl2, es]
theorem run_item_proof (A : Ad) : ∀ (n : Nat) (s : List (List Int)) (i : Nat), i < s.length → s.length ≤ 2 ^ n → n ≤ 11 → s.length ≤ 2000 → (∀ it ∈ s, it.length < sizeLine) → F_item_proof A (n + 1) [.val (.lst (s.map itD)), .val (.int i)] = .ok (.lst ((proofS (n + 1) (s.map leafF) i).map D.int)) [none, none]
  | n, s, i, h1, h2, h3, h4, h5 => by
    by_cases e1 : s.length = 1
    · have n1 : (s.length : Int) = 1 := by omega
      have i0 : i = 0 := by omega
      subst i0
      rw [F_item_proof]
      simp [bodyF, m_item_proof, n1, proofS, e1]
    · have g2 : 2 ≤ s.length := by omega
      cases n with
      | zero => simp at h2; omega
      | succ n =>
        have a := cutF_lt g2
        have b := cutF_pos s.length
        have c := cutF_ge g2
        have d := cutF_le g2 h2
        have l1 : (s.take (cutF s.length)).length = cutF s.length := by rw [List.length_take]; omega
        have l2 : (s.drop (cutF s.length)).length = s.length - cutF s.length := by rw [List.length_drop]
        have hc := run_cut_of A s.length g2 (by omega)
        have n1 : ¬ (s.length : Int) = 1 := by omega
        have n2 : (i : Int) < (s.length : Int) := by omega
        have r1 := run_root_of A 11 (s.take (cutF s.length)) (by omega) (by omega) (by omega) fun it hi => h5 it (List.mem_of_mem_take hi)
        have r2 := run_root_of A 11 (s.drop (cutF s.length)) (by omega) (by omega) (by omega) fun it hi => h5 it (List.mem_of_mem_drop hi)
        rw [rootN_S _ _ (by omega)] at r1 r2
        simp only [List.map_take, List.map_drop] at r1 r2
        have e : proofS (n + 1 + 1) (s.map leafF) i = if i < cutF s.length then proofS (n + 1) ((s.take (cutF s.length)).map leafF) i ++ [rootS 12 ((s.drop (cutF s.length)).map leafF)] else proofS (n + 1) ((s.drop (cutF s.length)).map leafF) (i - cutF s.length) ++ [rootS 12 ((s.take (cutF s.length)).map leafF)] := by
          rw [proofS, List.length_map, if_neg e1, List.map_take, List.map_drop]
        rw [F_item_proof, e]
        simp only [List.map_take, List.map_drop]
        by_cases hi : i < cutF s.length
        · have i1 := run_item_proof A n (s.take (cutF s.length)) i (by omega) (by omega) (by omega) (by omega) fun it hi => h5 it (List.mem_of_mem_take hi)
          simp only [List.map_take, List.map_drop] at i1
          have pl := proofS_len (n + 1) ((s.map leafF).take (cutF s.length)) i
          have pl2 : (proofS (n + 1) ((s.map leafF).take (cutF s.length)) i).length + 1 ≤ 16777216 := by omega
          simp [bodyF, m_item_proof, n1, n2, h1, hc, i1, r2, hi, sizeLine_eq, pl2]
        · have i1 := run_item_proof A n (s.drop (cutF s.length)) (i - cutF s.length) (by omega) (by omega) (by omega) (by omega) fun it hi => h5 it (List.mem_of_mem_drop hi)
          simp only [List.map_take, List.map_drop] at i1
          have es : (i : Int) - (cutF s.length : Int) = ((i - cutF s.length : Nat) : Int) := by omega
          have pl := proofS_len (n + 1) ((s.map leafF).drop (cutF s.length)) (i - cutF s.length)
          have pl2 : (proofS (n + 1) ((s.map leafF).drop (cutF s.length)) (i - cutF s.length)).length + 1 ≤ 16777216 := by omega
          simp [bodyF, m_item_proof, n1, n2, h1, hc, i1, r1, hi, sizeLine_eq, pl2, es]

theorem len1 (t : List Int) : ¬ ((t.length : Int) + 1 = 0) := by omega
/-- what climbing gives, joined at one level -/
def upF (b : Bool) : Option (Int × List Int) → Option (Int × List Int)
  | some (m, h :: t) => some (if b then jointF m h else jointF h m, t)
  | _ => none
def climbF : Nat → Nat → Nat → Int → List Int → Option (Int × List Int)
  | 0, _, _, _, _ => none
  | n + 1, c, i, m, p => if c = 1 then some (m, p) else upF (decide (i < cutF c)) (if i < cutF c then climbF n (cutF c) i m p else climbF n (c - cutF c) (i - cutF c) m p)
def toD : Option (Int × List Int) → D
  | none => .non
  | some (m, p) => .tup [.int m, .lst (p.map D.int)]
theorem run_climbed (A : Ad) : ∀ (n c i : Nat) (m : Int) (p : List Int), i < c → c ≤ 2 ^ n → c ≤ 2000 → F_climbed A (n + 1) [.val (.int c), .val (.int i), .val (.int m), .val (.lst (p.map D.int))] = .ok (.val (toD (climbF (n + 1) c i m p))) [none, none, none, none]
  | n, c, i, m, p, h1, h2, h3 => by
    by_cases e1 : c = 1
    · subst e1
      rw [F_climbed, climbF]
      simp [bodyF, m_climbed, toD, sizeLine_eq]
    · have g2 : 2 ≤ c := by omega
      cases n with
      | zero => simp at h2; omega
      | succ n =>
        have a := cutF_lt g2
        have b := cutF_pos c
        have cc := cutF_ge g2
        have d := cutF_le g2 h2
        have hc := run_cut_of A c g2 (by omega)
        have n1 : ¬ (c : Int) = 1 := by omega
        rw [F_climbed, climbF, if_neg e1]
        by_cases hi : i < cutF c
        · have i1 := run_climbed A n (cutF c) i m p (by omega) (by omega) (by omega)
          rw [if_pos hi]
          rcases hr : climbF (n + 1) (cutF c) i m p with _ | ⟨m', _ | ⟨h, t⟩⟩ <;> rw [hr] at i1 <;>
            simp [bodyF, m_climbed, n1, hc, i1, hi, toD, upF, sizeLine_eq, run_joint_sum]
        · have es : (c : Int) - (cutF c : Int) = ((c - cutF c : Nat) : Int) := by omega
          have es2 : (i : Int) - (cutF c : Int) = ((i - cutF c : Nat) : Int) := by omega
          have i1 := run_climbed A n (c - cutF c) (i - cutF c) m p (by omega) (by omega) (by omega)
          rw [if_neg hi]
          rcases hr : climbF (n + 1) (c - cutF c) (i - cutF c) m p with _ | ⟨m', _ | ⟨h, t⟩⟩ <;> rw [hr] at i1 <;>
            simp [bodyF, m_climbed, n1, hc, i1, hi, toD, upF, sizeLine_eq, run_joint_sum, es, es2]
theorem run__law_climb (A : Ad) : ∀ (n c i : Nat) (m : Int) (p : List Int), i < c → c ≤ 2 ^ n → c ≤ 2000 → F__law_climb A (n + 1) [.val (.int c), .val (.int i), .val (.int m), .val (.lst (p.map D.int))] = .ok (.val (toD (climbF (n + 1) c i m p))) [none, none, none, none]
  | n, c, i, m, p, h1, h2, h3 => by
    by_cases e1 : c = 1
    · subst e1
      rw [F__law_climb, climbF]
      simp [bodyF, m__law_climb, toD, sizeLine_eq]
    · have g2 : 2 ≤ c := by omega
      cases n with
      | zero => simp at h2; omega
      | succ n =>
        have a := cutF_lt g2
        have b := cutF_pos c
        have cc := cutF_ge g2
        have d := cutF_le g2 h2
        have hc := run__law_cut A c g2 (by omega)
        have n1 : ¬ (c : Int) = 1 := by omega
        rw [F__law_climb, climbF, if_neg e1]
        by_cases hi : i < cutF c
        · have i1 := run__law_climb A n (cutF c) i m p (by omega) (by omega) (by omega)
          rw [if_pos hi]
          rcases hr : climbF (n + 1) (cutF c) i m p with _ | ⟨m', _ | ⟨h, t⟩⟩ <;> rw [hr] at i1 <;>
            simp [bodyF, m__law_climb, n1, hc, i1, hi, toD, upF, sizeLine_eq, run__law_joint, len1]
        · have es : (c : Int) - (cutF c : Int) = ((c - cutF c : Nat) : Int) := by omega
          have es2 : (i : Int) - (cutF c : Int) = ((i - cutF c : Nat) : Int) := by omega
          have i1 := run__law_climb A n (c - cutF c) (i - cutF c) m p (by omega) (by omega) (by omega)
          rw [if_neg hi]
          rcases hr : climbF (n + 1) (c - cutF c) (i - cutF c) m p with _ | ⟨m', _ | ⟨h, t⟩⟩ <;> rw [hr] at i1 <;>
            simp [bodyF, m__law_climb, n1, hc, i1, hi, toD, upF, sizeLine_eq, run__law_joint, len1, es, es2]
end L94


namespace L94
open PySem PySem.Spec PyProof.Rows L2 DL
variable [Tabs]
def tp (ns : List Int) : D := .tup (ns.map D.int)
theorem tEq_tup (xs ys : List Int) : tEq (.val (.tup (xs.map D.int))) (.val (.tup (ys.map D.int))) = some (decide (xs = ys)) := by
  rw [tEq_pu (by simp [D.pu]) (by simp [D.pu]) (by simp [D.dp]) (by simp [D.dp])]
  by_cases h : xs = ys
  · subst h; rw [eqD_iff.mpr rfl]; simp
  · rw [eqD_false.mpr fun e => h (ints_inj (by injection e))]; simp [h]
theorem run_leaf_sum_t (A : Ad) (ns : List Int) (hl : ns.length < sizeLine) : F_leaf_sum A [.val (.tup (ns.map D.int))] = .ok (.val (.int (leafF ns))) [none] := by
  have h := run_sum_of A (0 :: ns)
  have h1 : 1 + ns.length ≤ sizeLine := by omega
  have h2 : (1 : Nat) ≤ sizeLine := by omega
  simp [F_leaf_sum, bodyF, m_leaf_sum, h1, h2] at h ⊢
  rw [h]
  simp [leafF]
theorem run__law_leaf_t (A : Ad) (ns : List Int) (hl : ns.length < sizeLine) : F__law_leaf A [.val (.tup (ns.map D.int))] = .ok (.val (.int (leafF ns))) [none] := by
  have h := run__law_sum A (0 :: ns)
  have h1 : 1 + ns.length ≤ sizeLine := by omega
  have h2 : (1 : Nat) ≤ sizeLine := by omega
  simp [F__law_leaf, bodyF, m__law_leaf, h1, h2] at h ⊢
  rw [h]
  simp [leafF]
def takesF (root count idx : Int) (oct proof : List Int) : Bool := if 0 ≤ idx ∧ idx < count then decide (climbF 12 count.toNat idx.toNat (leafF oct) proof = some (root, [])) else false
theorem toD_pu (x : Option (Int × List Int)) : (toD x).pu = true ∧ (toD x).dp ≤ 64 := by
  rcases x with _ | ⟨m, p⟩
  · exact ⟨rfl, by simp [toD, D.dp]⟩
  · exact ⟨by simp [toD, D.pu, pus], by simp [toD, D.dp, dps]⟩
theorem tEq_toD (x : Option (Int × List Int)) (root : Int) : tEq (.val (toD x)) (.val (.tup [.int root, .lst []])) = some (decide (x = some (root, []))) := by
  have h := tEq_pu (toD_pu x).1 (toD_pu (some (root, []))).1 (toD_pu x).2 (toD_pu (some (root, []))).2
  rw [show toD (some (root, [])) = .tup [.int root, .lst []] from rfl] at h
  rw [h]
  by_cases e : x = some (root, [])
  · subst e; rw [eqD_iff.mpr (show toD (some (root, [])) = .tup [.int root, .lst []] from rfl)]; simp
  · rw [eqD_false.mpr]
    · simp [e]
    · intro q
      refine e ?_
      rcases x with _ | ⟨m, p⟩
      · simp [toD] at q
      · simp [toD] at q
        rw [q.1, q.2]
theorem run_takes_item (A : Ad) (root count idx : Int) (oct proof : List Int) (hc : count ≤ 2000) (ho : oct.length < sizeLine) :
    F_takes_item A [.val (.int root), .val (.int count), .val (.int idx), .val (.tup (oct.map D.int)), .val (.tup (proof.map D.int))] = .ok (.val (.bl (takesF root count idx oct proof))) [none, none, none, none, none] := by
  by_cases h : 0 ≤ idx ∧ idx < count
  · obtain ⟨c, rfl⟩ := Int.eq_ofNat_of_zero_le (show 0 ≤ count by omega)
    obtain ⟨i, rfl⟩ := Int.eq_ofNat_of_zero_le h.1
    have hr := run_climbed A 11 c i (leafF oct) proof (by omega) (by omega) (by omega)
    have hl := run_leaf_sum_t A oct ho
    have ht := tEq_toD (climbF 12 c i (leafF oct) proof) root
    simp [F_takes_item, bodyF, m_takes_item, h.1, h.2, hl, hr, sizeLine_eq, ht, takesF]
  · by_cases h0 : 0 ≤ idx
    · have h1 : ¬ idx < count := fun z => h ⟨h0, z⟩
      simp [F_takes_item, bodyF, m_takes_item, h0, h1, takesF]
    · simp [F_takes_item, bodyF, m_takes_item, h0, takesF]
theorem run__law_takes (A : Ad) (root count idx : Int) (oct proof : List Int) (hc : count ≤ 2000) (ho : oct.length < sizeLine) :
    F__law_takes A [.val (.int root), .val (.int count), .val (.int idx), .val (.tup (oct.map D.int)), .val (.tup (proof.map D.int))] = .ok (.val (.bl (takesF root count idx oct proof))) [none, none, none, none, none] := by
  by_cases h : 0 ≤ idx ∧ idx < count
  · obtain ⟨c, rfl⟩ := Int.eq_ofNat_of_zero_le (show 0 ≤ count by omega)
    obtain ⟨i, rfl⟩ := Int.eq_ofNat_of_zero_le h.1
    have hr := run__law_climb A 11 c i (leafF oct) proof (by omega) (by omega) (by omega)
    have hl := run__law_leaf_t A oct ho
    rcases hx : climbF 12 c i (leafF oct) proof with _ | ⟨m, p⟩ <;> rw [hx] at hr
    · simp [F__law_takes, bodyF, m__law_takes, h.1, h.2, hl, hr, sizeLine_eq, takesF, toD, hx]
    · by_cases hm : m = root
      · cases p with
        | nil => 
          simp [F__law_takes, bodyF, m__law_takes, h.1, h.2, hl, hr, sizeLine_eq, takesF, toD, hx, hm]
        | cons a b => simp [F__law_takes, bodyF, m__law_takes, h.1, h.2, hl, hr, sizeLine_eq, takesF, toD, hx, hm, DL.len1, L94.len1]
      · simp [F__law_takes, bodyF, m__law_takes, h.1, h.2, hl, hr, sizeLine_eq, takesF, toD, hx, hm]
  · by_cases h0 : 0 ≤ idx
    · have h1 : ¬ idx < count := fun z => h ⟨h0, z⟩
      simp [F__law_takes, bodyF, m__law_takes, h0, h1, takesF]
    · simp [F__law_takes, bodyF, m__law_takes, h0, takesF]
/-- the first place at which two lists differ -/
def forkI : List (List Int) → List (List Int) → Option Nat
  | x :: xs, y :: ys => if x = y then (forkI xs ys).map (· + 1) else some 0
  | _, _ => none
def oN (k : Nat) : Option Nat → D
  | none => .non
  | some j => .int ((k + j : Nat) : Int)
theorem loop_fork (A : Ad) (o0 o1 : Option T) : ∀ (k : Nat) (xs ys : List (List Int)) (a b c : Option T),
    (∃ a' b' c', forkI xs ys = none ∧ forD (fTup (fConsG (fName 2) (fConsG (fTup (fConsG (fName 3) (fConsG (fName 4) fNilG))) fNilG))) (gIfS (gDB (gLook fNe (gVd (gFz (gCallT fList (gConsV (gVd (gVar 3)) gNilV)))) (gVd (gFz (gCallT fList (gConsV (gVd (gVar 4)) gNilV))))))
      (gRet (gOd (gVar 2))) gNx) (enumFromD k (zipD (xs.map itD) (ys.map itD))) [o0, o1, a, b, c] = .nx [o0, o1, a', b', c']) ∨
    ∃ j a' b' c', forkI xs ys = some j ∧ forD (fTup (fConsG (fName 2) (fConsG (fTup (fConsG (fName 3) (fConsG (fName 4) fNilG))) fNilG))) (gIfS (gDB (gLook fNe (gVd (gFz (gCallT fList (gConsV (gVd (gVar 3)) gNilV)))) (gVd (gFz (gCallT fList (gConsV (gVd (gVar 4)) gNilV))))))
      (gRet (gOd (gVar 2))) gNx) (enumFromD k (zipD (xs.map itD) (ys.map itD))) [o0, o1, a, b, c] = .rt (.val (.int ((k + j : Nat) : Int))) [o0, o1, a', b', c']
  | k, [], ys, a, b, c => .inl ⟨a, b, c, by simp [forkI], by simp [zipD, enumFromD, forD]⟩
  | k, x :: xs, [], a, b, c => .inl ⟨a, b, c, by simp [forkI], by simp [zipD, enumFromD, forD]⟩
  | k, x :: xs, y :: ys, a, b, c => by
    have t := tEq_ints x y
    by_cases h : x = y
    · have ih := loop_fork A o0 o1 (k + 1) xs ys (some (.val (.int (k : Nat)))) (some (.val (itD x))) (some (.val (itD y)))
      rcases ih with ⟨a', b', c', h1, h2⟩ | ⟨j, a', b', c', h1, h2⟩
      · refine .inl ⟨a', b', c', by simp [forkI, h, h1], ?_⟩
        rw [← h2]
        simp [zipD, enumFromD, forD, itD, h, tEq_ints]
      · refine .inr ⟨j + 1, a', b', c', by simp [forkI, h, h1], ?_⟩
        rw [show k + (j + 1) = k + 1 + j by omega, ← h2]
        simp [zipD, enumFromD, forD, itD, h, tEq_ints]
    · refine .inr ⟨0, some (.val (.int (k : Nat))), some (.val (itD x)), some (.val (itD y)), by simp [forkI, h], ?_⟩
      simp [zipD, enumFromD, forD, itD, h, tEq_ints]
theorem run_fork_index (A : Ad) (xs ys : List (List Int)) : F_fork_index A [.val (.lst (xs.map itD)), .val (.lst (ys.map itD))] = .ok (.val (oN 0 (forkI xs ys))) [none, none] := by
  rcases loop_fork A (some (.val (.lst (xs.map itD)))) (some (.val (.lst (ys.map itD)))) 0 xs ys none none none with ⟨a', b', c', h1, h2⟩ | ⟨j, a', b', c', h1, h2⟩
  · simp [F_fork_index, bodyF, m_fork_index] at h2 ⊢
    rw [h2]
    simp [h1, oN]
  · simp [F_fork_index, bodyF, m_fork_index] at h2 ⊢
    rw [h2]
    simp [h1, oN]
theorem forkI_lt : ∀ {xs ys : List (List Int)} {j : Nat}, forkI xs ys = some j → ∃ x y, xs[j]? = some x ∧ ys[j]? = some y ∧ x ≠ y ∧ j < xs.length ∧ j < ys.length
  | [], _, _, h => by simp [forkI] at h
  | _ :: _, [], _, h => by simp [forkI] at h
  | x :: xs, y :: ys, j, h => by
    rw [forkI] at h
    by_cases e : x = y
    · rw [if_pos e] at h
      obtain ⟨i, hi, rfl⟩ := Option.map_eq_some_iff.mp h
      obtain ⟨a, b, h1, h2, h3, h4, h5⟩ := forkI_lt hi
      exact ⟨a, b, by simpa using h1, by simpa using h2, h3, by simpa using h4, by simpa using h5⟩
    · rw [if_neg e] at h
      cases h
      exact ⟨x, y, rfl, rfl, e, by simp, by simp⟩
/-- a fork paper -/
structure Paper where
  i : Int
  o : List Int
  p : List Int
  o2 : List Int
  p2 : List Int
def Paper.D (q : Paper) : D := .tup [.int q.i, tp q.o, tp q.p, tp q.o2, tp q.p2]
def paperF (xs ys : List (List Int)) : Option Paper := match forkI xs ys with
  | none => none
  | some j => some ⟨j, xs.getD j [], proofS 12 (xs.map leafF) j, ys.getD j [], proofS 12 (ys.map leafF) j⟩
def paperD : Option Paper → D
  | none => .non
  | some q => q.D
theorem getD_of {α : Type} {xs : List α} {j : Nat} {x d : α} (h : xs[j]? = some x) : xs.getD j d = x := by simp [List.getD, h]
theorem run_fork_paper (A : Ad) (xs ys : List (List Int)) (hx : 1 ≤ xs.length) (hy : 1 ≤ ys.length) (lx : xs.length ≤ 1000) (ly : ys.length ≤ 1000) (sx : ∀ it ∈ xs, it.length < sizeLine) (sy : ∀ it ∈ ys, it.length < sizeLine) :
    F_fork_paper A [.val (.lst (xs.map itD)), .val (.lst (ys.map itD))] = .ok (.val (paperD (paperF xs ys))) [none, none] := by
  have hi := run_fork_index A xs ys
  have n1 : xs ≠ [] := fun z => by rw [z] at hx; simp at hx
  have n2 : ys ≠ [] := fun z => by rw [z] at hy; simp at hy
  cases hf : forkI xs ys with
  | none =>
    rw [hf] at hi
    simp [F_fork_paper, bodyF, m_fork_paper, n1, n2, hi, oN, paperF, hf, paperD]
  | some j =>
    rw [hf] at hi
    obtain ⟨x, y, h1, h2, h3, h4, h5⟩ := forkI_lt hf
    have p1 := run_item_proof A 11 xs j h4 (by omega) (by omega) (by omega) sx
    have p2 := run_item_proof A 11 ys j h5 (by omega) (by omega) (by omega) sy
    simp [F_fork_paper, bodyF, m_fork_paper, n1, n2, hi, oN, paperF, hf, paperD, Paper.D, p1, p2, h1, h2, tp, itD, getD_of h1, getD_of h2, sizeLine_eq]
theorem run_fork_paper_e (A : Ad) (xs ys : List D) (h : xs = [] ∨ ys = []) : ∃ e, F_fork_paper A [.val (.lst xs), .val (.lst ys)] = .exc ⟨A.InvalidProof, none⟩ e := by
  rcases h with rfl | rfl
  · exact ⟨_, by simp [F_fork_paper, bodyF, m_fork_paper]; rfl⟩
  · by_cases hx : xs = []
    · subst hx
      exact ⟨_, by simp [F_fork_paper, bodyF, m_fork_paper]; rfl⟩
    · exact ⟨_, by simp [F_fork_paper, bodyF, m_fork_paper, hx]; rfl⟩
def forkF (root count other many : Int) (q : Paper) : Bool := if q.o = q.o2 then false else takesF root count q.i q.o q.p && takesF other many q.i q.o2 q.p2
theorem run_takes_fork (A : Ad) (root count other many : Int) (q : Paper) (h1 : 1 ≤ count) (h2 : 1 ≤ many) (c1 : count ≤ 2000) (c2 : many ≤ 2000) (o1 : q.o.length < sizeLine) (o2 : q.o2.length < sizeLine) :
    F_takes_fork A [.val (.int root), .val (.int count), .val (.int other), .val (.int many), .val q.D] = .ok (.val (.bl (forkF root count other many q))) [none, none, none, none, none] := by
  have t1 := run_takes_item A root count q.i q.o q.p c1 o1
  have t2 := run_takes_item A other many q.i q.o2 q.p2 c2 o2
  have n1 : ¬ count < 1 := by omega
  have n2 : ¬ many < 1 := by omega
  by_cases e : q.o = q.o2
  · simp [F_takes_fork, bodyF, m_takes_fork, n1, n2, Paper.D, tp, tEq_tup, e, forkF]
  · cases ht : takesF root count q.i q.o q.p <;> rw [ht] at t1 <;> simp [F_takes_fork, bodyF, m_takes_fork, n1, n2, Paper.D, tp, tEq_tup, e, forkF, t1, t2, ht]
theorem run__law_is_fork (A : Ad) (root count other many : Int) (q : Paper) (c1 : count ≤ 2000) (c2 : many ≤ 2000) (o1 : q.o.length < sizeLine) (o2 : q.o2.length < sizeLine) :
    F__law_is_fork A [.val (.int root), .val (.int count), .val (.int other), .val (.int many), .val q.D] = .ok (.val (.bl (forkF root count other many q))) [none, none, none, none, none] := by
  have t1 := run__law_takes A root count q.i q.o q.p c1 o1
  have t2 := run__law_takes A other many q.i q.o2 q.p2 c2 o2
  by_cases e : q.o = q.o2
  · simp [F__law_is_fork, bodyF, m__law_is_fork, Paper.D, tp, tEq_tup, e, forkF]
  · cases ht : takesF root count q.i q.o q.p <;> rw [ht] at t1 <;> simp [F__law_is_fork, bodyF, m__law_is_fork, Paper.D, tp, tEq_tup, e, forkF, t1, t2, ht]
theorem run_takes_fork_e (A : Ad) (root count other many : Int) (q : D) (h : count < 1 ∨ many < 1) : ∃ e, F_takes_fork A [.val (.int root), .val (.int count), .val (.int other), .val (.int many), .val q] = .exc ⟨A.InvalidProof, none⟩ e := by
  by_cases h1 : count < 1
  · exact ⟨_, by simp [F_takes_fork, bodyF, m_takes_fork, h1]; rfl⟩
  · have h2 : many < 1 := h.resolve_left h1
    exact ⟨_, by simp [F_takes_fork, bodyF, m_takes_fork, h1, h2]; rfl⟩
theorem take_eq (A : Ad) : F__law_take A = FTake := rfl
theorem run__law_bent (A : Ad) (ds : List Int) (q : Paper) (h1 : q.o.length < 1000000) (h2 : q.o2.length < 1000000) (h3 : q.p2.length < 1000000) : ∃ q' : Paper, q'.o.length ≤ max q.o.length q.o2.length + 1 ∧ q'.o2.length ≤ max q.o.length q.o2.length + 1 ∧
    F__law_bent A [.lst (ds.map D.int), .val q.D] = .ok (.val q'.D) [some (.lst (ds.dropLast.map D.int)), none] := by
  have t := run_take ds 7 (by decide)
  rw [← take_eq A] at t
  have s1 : q.p2.length ≤ 16777215 := by omega
  have s2 : q.o.length ≤ 16777215 := by omega
  by_cases k0 : takeR ds 7 = 0
  · refine ⟨⟨q.i + 1, q.o, q.p, q.o2, q.p2⟩, by simp; omega, by simp; omega, ?_⟩
    simp [-List.map_dropLast, F__law_bent, bodyF, m__law_bent, t, k0, Paper.D, tp, sizeLine_eq]
  by_cases k1 : takeR ds 7 = 1
  · refine ⟨⟨q.i, q.o2, q.p, q.o, q.p2⟩, by simp; omega, by simp; omega, ?_⟩
    simp [-List.map_dropLast, F__law_bent, bodyF, m__law_bent, t, k1, Paper.D, tp, sizeLine_eq]
  by_cases k2 : takeR ds 7 = 2
  · refine ⟨⟨q.i, q.o, q.p, q.o, q.p⟩, by simp; omega, by simp; omega, ?_⟩
    simp [-List.map_dropLast, F__law_bent, bodyF, m__law_bent, t, k2, Paper.D, tp, sizeLine_eq]
  by_cases k3 : takeR ds 7 = 3
  · refine ⟨⟨q.i, q.o, q.p.drop 1, q.o2, q.p2⟩, by simp; omega, by simp; omega, ?_⟩
    simp [-List.map_dropLast, F__law_bent, bodyF, m__law_bent, t, k3, Paper.D, tp, sizeLine_eq]
  by_cases k4 : takeR ds 7 = 4
  · refine ⟨⟨q.i, q.o, q.p, q.o2, q.p2 ++ [5]⟩, by simp; omega, by simp; omega, ?_⟩
    simp [-List.map_dropLast, F__law_bent, bodyF, m__law_bent, t, k4, Paper.D, tp, sizeLine_eq, s1]
  by_cases k5 : takeR ds 7 = 5
  · refine ⟨⟨q.i - 1, q.o, q.p, q.o2, q.p2⟩, by simp; omega, by simp; omega, ?_⟩
    simp [-List.map_dropLast, F__law_bent, bodyF, m__law_bent, t, k5, Paper.D, tp, sizeLine_eq]
  · refine ⟨⟨q.i, q.o ++ [1], q.p, q.o2, q.p2⟩, by simp; omega, by simp; omega, ?_⟩
    simp [-List.map_dropLast, F__law_bent, bodyF, m__law_bent, t, k0, k1, k2, k3, k4, k5, Paper.D, tp, sizeLine_eq, s2]
end L94


namespace L94
open PySem PySem.Spec PyProof.Rows L2 DL
variable [Tabs]
theorem rootS_fuel : ∀ (n m : Nat) (s : List Int), 1 ≤ s.length → s.length ≤ 2 ^ n → n ≤ m → rootS (n + 1) s = rootS (m + 1) s
  | n, m, s, h1, h2, h3 => by
    rw [rootS, rootS]
    by_cases e : s.length = 1
    · rw [if_pos e, if_pos e]
    · rw [if_neg e, if_neg e]
      have g2 : 2 ≤ s.length := by omega
      cases n with
      | zero => simp at h2; omega
      | succ n =>
        cases m with
        | zero => omega
        | succ m =>
          have a := cutF_lt g2
          have b := cutF_pos s.length
          have c := cutF_ge g2
          have d := cutF_le g2 h2
          rw [rootS_fuel n m (s.take (cutF s.length)) (by rw [List.length_take]; omega) (by rw [List.length_take]; omega) (by omega), rootS_fuel n m (s.drop (cutF s.length)) (by rw [List.length_drop]; omega) (by rw [List.length_drop]; omega) (by omega)]
theorem rootS_1 {n : Nat} {s : List Int} (e : s.length = 1) : rootS (n + 1) s = s.headD 0 := by rw [rootS, if_pos e]
theorem rootS_c {n : Nat} {s : List Int} (e : ¬ s.length = 1) : rootS (n + 1) s = jointF (rootS n (s.take (cutF s.length))) (rootS n (s.drop (cutF s.length))) := by rw [rootS, if_neg e]
theorem proofS_1 {n i : Nat} {s : List Int} (e : s.length = 1) : proofS (n + 1) s i = [] := by rw [proofS, if_pos e]
theorem proofS_c {n i : Nat} {s : List Int} (e : ¬ s.length = 1) : proofS (n + 1) s i = if i < cutF s.length then proofS n (s.take (cutF s.length)) i ++ [rootS 12 (s.drop (cutF s.length))] else proofS n (s.drop (cutF s.length)) (i - cutF s.length) ++ [rootS 12 (s.take (cutF s.length))] := by rw [proofS, if_neg e]
theorem climb_proof : ∀ (n : Nat) (s : List Int) (i : Nat) (x : Int) (extra : List Int), s[i]? = some x → s.length ≤ 2 ^ n → n ≤ 11 → climbF (n + 1) s.length i x (proofS (n + 1) s i ++ extra) = some (rootS (n + 1) s, extra)
  | n, s, i, x, extra, hx, h2, h3 => by
    have hi := (List.getElem?_eq_some_iff.mp hx).1
    by_cases e : s.length = 1
    · rw [climbF, if_pos e, proofS_1 e, rootS_1 e]
      match s, e with
      | [y], _ =>
        have i0 : i = 0 := by simp at hi; omega
        subst i0
        simp at hx
        simp [hx]
    · have g2 : 2 ≤ s.length := by omega
      cases n with
      | zero => simp at h2; omega
      | succ n =>
        have a := cutF_lt g2
        have b := cutF_pos s.length
        have c := cutF_ge g2
        have d := cutF_le g2 h2
        have l1 : (s.take (cutF s.length)).length = cutF s.length := by rw [List.length_take]; omega
        have l2 : (s.drop (cutF s.length)).length = s.length - cutF s.length := by rw [List.length_drop]
        have r1 := rootS_fuel n 11 (s.take (cutF s.length)) (by omega) (by omega) (by omega)
        have r2 := rootS_fuel n 11 (s.drop (cutF s.length)) (by omega) (by omega) (by omega)
        rw [climbF, if_neg e, proofS_c e, rootS_c e]
        by_cases hc : i < cutF s.length
        · have ih := climb_proof n (s.take (cutF s.length)) i x (rootS 12 (s.drop (cutF s.length)) :: extra) (by rw [List.getElem?_take, if_pos hc]; exact hx) (by omega) (by omega)
          rw [l1] at ih
          rw [if_pos hc, if_pos hc, List.append_assoc, List.singleton_append, ih]
          simp [upF, hc, r2]
        · have ih := climb_proof n (s.drop (cutF s.length)) (i - cutF s.length) x (rootS 12 (s.take (cutF s.length)) :: extra) (by rw [List.getElem?_drop]; rw [show cutF s.length + (i - cutF s.length) = i by omega]; exact hx) (by omega) (by omega)
          rw [l2] at ih
          rw [if_neg hc, if_neg hc, List.append_assoc, List.singleton_append, ih]
          simp [upF, hc, r1]
theorem takes_own (items : List (List Int)) (i : Nat) (it : List Int) (h : items[i]? = some it) (hl : items.length ≤ 2000) : takesF (rootS 12 (items.map leafF)) items.length i it (proofS 12 (items.map leafF) i) = true := by
  have hi := (List.getElem?_eq_some_iff.mp h).1
  have c := climb_proof 11 (items.map leafF) i (leafF it) [] (by rw [List.getElem?_map, h]; rfl) (by simp; omega) (by omega)
  rw [List.append_nil, List.length_map] at c
  unfold takesF
  rw [if_pos ⟨by omega, by omega⟩]
  simp [c]

theorem takesF_own (items : List (List Int)) (i : Nat) (it : List Int) (h : items[i]? = some it) (hl : items.length ≤ 1000) : takesF (rootS 12 (items.map leafF)) items.length i it (proofS 12 (items.map leafF) i) = true := takes_own items i it h (by omega)
theorem forkI_none : ∀ {xs ys : List (List Int)}, forkI xs ys = none → ∀ (j : Nat) (x y : List Int), xs[j]? = some x → ys[j]? = some y → x = y
  | [], _, _, j, x, y, h1, _ => by simp at h1
  | _ :: _, [], _, j, x, y, _, h2 => by simp at h2
  | x :: xs, y :: ys, h, j, a, b, h1, h2 => by
    rw [forkI] at h
    by_cases e : x = y
    · rw [if_pos e] at h
      have h' : forkI xs ys = none := by
        cases q : forkI xs ys with
        | none => rfl
        | some k => rw [q] at h; simp at h
      cases j with
      | zero => simp at h1 h2; rw [← h1, ← h2]; exact e
      | succ j => exact forkI_none h' j a b (by simpa using h1) (by simpa using h2)
    · rw [if_neg e] at h
      cases h
/-- how far two lists are alike -/
def alikeI (xs ys : List (List Int)) : Nat := (forkI xs ys).getD (min xs.length ys.length)
theorem alikeI_le (xs ys : List (List Int)) : alikeI xs ys ≤ min xs.length ys.length := by
  unfold alikeI
  cases h : forkI xs ys with
  | none => exact Nat.le_refl _
  | some j =>
    obtain ⟨x, y, h1, h2, h3, h4, h5⟩ := forkI_lt h
    show j ≤ _
    omega
theorem forkI_below : ∀ {xs ys : List (List Int)} {j : Nat}, forkI xs ys = some j → ∀ i : Nat, i < j → xs[i]? = ys[i]?
  | [], _, _, h => by simp [forkI] at h
  | _ :: _, [], _, h => by simp [forkI] at h
  | x :: xs, y :: ys, j, h => by
    rw [forkI] at h
    by_cases e : x = y
    · rw [if_pos e] at h
      obtain ⟨k, hk, rfl⟩ := Option.map_eq_some_iff.mp h
      intro i hi
      cases i with
      | zero => simp [e]
      | succ i => simpa using forkI_below hk i (by omega)
    · rw [if_neg e] at h
      cases h
      intro i hi
      omega
theorem alikeI_below (xs ys : List (List Int)) (i : Nat) (h : i < alikeI xs ys) : ∃ x, xs[i]? = some x ∧ ys[i]? = some x := by
  have hl := alikeI_le xs ys
  have i1 : i < xs.length := by omega
  have i2 : i < ys.length := by omega
  refine ⟨xs[i], List.getElem?_eq_getElem i1, ?_⟩
  unfold alikeI at h
  cases hf : forkI xs ys with
  | none =>
    have := forkI_none hf i _ _ (List.getElem?_eq_getElem i1) (List.getElem?_eq_getElem i2)
    rw [List.getElem?_eq_getElem i2, this]
  | some j =>
    rw [hf] at h
    rw [← forkI_below hf i h, List.getElem?_eq_getElem i1]
theorem alikeI_at (xs ys : List (List Int)) (h : alikeI xs ys < min xs.length ys.length) : forkI xs ys = some (alikeI xs ys) := by
  unfold alikeI at h ⊢
  cases hf : forkI xs ys with
  | none => rw [hf] at h; simp at h
  | some j => rfl
theorem alikeI_end (xs ys : List (List Int)) (h : ¬ alikeI xs ys < min xs.length ys.length) : forkI xs ys = none := by
  unfold alikeI at h
  cases hf : forkI xs ys with
  | none => rfl
  | some j =>
    rw [hf] at h
    obtain ⟨x, y, h1, h2, h3, h4, h5⟩ := forkI_lt hf
    exact absurd (show j < _ by omega) h
theorem min2 (a b : Nat) : (if (b : Int) < (a : Int) then (b : Int) else (a : Int)) = ((min a b : Nat) : Int) := by
  split <;> omega
end L94


namespace L94
open PySem PySem.Spec PyProof.Rows L2 DL
variable [Tabs]
theorem st0 (A : Ad) (s : Option T) (ds : List Int) (p0 p1 p2 p3 p4 p5 p6 p7 p8 p9 p10 p11 p12 p13 p14 p15 : Option T) :
    ∃ (first : List (List Int)) (ds' : List Int) (q12 q13 : Option T), 1 ≤ first.length ∧ first.length ≤ 25 ∧ (∀ it ∈ first, it.length ≤ 2) ∧
      l_law_1_0 A (s :: dr ds :: [p0, p1, p2, p3, p4, p5, p6, p7, p8, p9, p10, p11, p12, p13, p14, p15]) = .nx (s :: dr ds' :: [p0, some (.val (.lst (first.map itD))), p2, p3, p4, p5, p6, p7, p8, p9, p10, p11, q12, q13, p14, p15]) := by
  obtain ⟨n, hn, _, hr⟩ := rng_take1 (s := s) (ds := ds) (r := [p0, p1, p2, p3, p4, p5, p6, p7, p8, p9, p10, p11, p12, p13, p14, p15]) (c := gC (.int 25)) (l := 25) (by decide) (by decide) rfl
  obtain ⟨xs, ds', ρ', h1, h2, ⟨a, h3⟩, h4⟩ := lc_dr itD (fun it => it.length ≤ 2) (fun ρ => ∃ a, ρ = [p0, p1, p2, p3, p4, p5, p6, p7, p8, p9, p10, p11, a, none, p14, p15]) (v := 13) (n := n + 1) (by omega) hr ⟨p12, rfl⟩ (fun ds ρ d ⟨a, hq⟩ => by
    subst hq
    obtain ⟨m, hm, _, hr2⟩ := rng_take (s := s) (ds := ds) (r := [p0, p1, p2, p3, p4, p5, p6, p7, p8, p9, p10, p11, a, some (.val d), p14, p15]) (c := gC (.int 3)) (l := 3) (by decide) (by decide) rfl
    obtain ⟨ys, ds2, k1, k2, k3⟩ := lc_ints (c := 6) (by decide) (v := 12) (n := m) (by omega) hr2
    exact ⟨ys, ds2, _, by omega, gFz_ok k3, valO a, rfl⟩)
  subst h3
  refine ⟨xs, ds', a, valO p13, by omega, by omega, h2, ?_⟩
  exact gSet_ok (gFz_ok h4)
theorem st1 (A : Ad) (s : Option T) (ds : List Int) (first : List (List Int)) (hf : 1 ≤ first.length) (hf2 : first.length ≤ 25) (p0 p2 p3 p4 p5 p6 p7 p8 p9 p10 p11 p12 p13 p14 p15 : Option T) :
    ∃ (second : List (List Int)) (ds' : List Int) (q14 : Option T), 1 ≤ second.length ∧ second.length ≤ 25 ∧ (∀ it ∈ second, it ∈ first) ∧
      l_law_1_1 A (s :: dr ds :: [p0, some (.val (.lst (first.map itD))), p2, p3, p4, p5, p6, p7, p8, p9, p10, p11, p12, p13, p14, p15]) = .nx (s :: dr ds' :: [p0, some (.val (.lst (first.map itD))), some (.lst (second.map itD)), p3, p4, p5, p6, p7, p8, p9, p10, p11, p12, p13, q14, p15]) := by
  have ht := take_at (s := s) (ds := ds) (r := [p0, some (.val (.lst (first.map itD))), p2, p3, p4, p5, p6, p7, p8, p9, p10, p11, p12, p13, p14, p15]) (c := gCallD fLen (gConsV (gVd (gVar 3)) gNilV)) (l := first.length) (by omega) (by simp)
  have bd := takeR_lt ds (show (0 : Int) < first.length by omega)
  obtain ⟨n, hn⟩ := Int.eq_ofNat_of_zero_le bd.1
  rw [hn] at ht bd
  refine ⟨first.take (n + 1), ds.dropLast, valO p14, by simp; omega, by simp; omega, fun it hi => List.mem_of_mem_take hi, ?_⟩
  have hg : gILst (gFz (gSlL (gVd (gVar 3)) gNoPart (gPart (gBin fAdd (gC (.int 1)) (gFz (gCall (F__law_take A) (gConsV (gOwn 1) (gConsV (gVd (gCallD fLen (gConsV (gVd (gVar 3)) gNilV))) gNilV)))))))) (s :: dr ds :: [p0, some (.val (.lst (first.map itD))), p2, p3, p4, p5, p6, p7, p8, p9, p10, p11, p12, p13, p14, p15]) =
      .ok ((first.take (n + 1)).map itD) (s :: dr ds.dropLast :: [p0, some (.val (.lst (first.map itD))), p2, p3, p4, p5, p6, p7, p8, p9, p10, p11, p12, p13, p14, p15]) := by
    have c := cutD_toI (first.map itD) (1 + (n : Int)) (n + 1) (by omega)
    rw [List.map_take, ← c]
    rw [take_eq]
    exact evr_of
  have hl := gLc_pure1 (g := gFz (gCallT fList (gConsV (gVd (gVar 16)) gNilV))) (i := 16) itD itD (first.take (n + 1)) hg (by rw [List.length_take]; omega) (fun x hx => by exact evr_of)
  exact gSetT_ok (i := 4) hl
theorem st2 (A : Ad) (s : Option T) (ds : List Int) (p0 p1 p2 p3 p4 p5 p6 p7 p8 p9 p10 p11 p12 p13 p14 p15 : Option T) :
    ∃ k : Nat, l_law_1_2 A (s :: dr ds :: [p0, p1, p2, p3, p4, p5, p6, p7, p8, p9, p10, p11, p12, p13, p14, p15]) = .nx (s :: dr ds.dropLast :: [p0, p1, p2, some (.val (.int k)), p4, p5, p6, p7, p8, p9, p10, p11, p12, p13, p14, p15]) := by
  have bd := takeR_lt ds (show (0 : Int) < 4 by decide)
  obtain ⟨n, hn⟩ := Int.eq_ofNat_of_zero_le bd.1
  refine ⟨n, ?_⟩
  rw [← hn]
  exact gSet_ok (take_at (c := gC (.int 4)) (by decide) rfl)
end L94


namespace L94
open PySem PySem.Spec PyProof.Rows L2 DL
variable [Tabs]
theorem st3 (A : Ad) (s : Option T) (ds : List Int) (second : List (List Int)) (k : Nat) (h1 : 1 ≤ second.length) (h2 : second.length ≤ 1000) (h3 : ∀ it ∈ second, it.length ≤ 2) (p0 p1 p4 p5 p6 p7 p8 p9 p10 p11 p12 p13 p14 p15 : Option T) :
    ∃ (second' : List (List Int)) (ds' : List Int), second'.length = second.length ∧ (∀ it ∈ second', it.length ≤ 2) ∧ l_law_1_3 A (s :: dr ds :: [p0, p1, some (.lst (second.map itD)), some (.val (.int (k : Nat))), p4, p5, p6, p7, p8, p9, p10, p11, p12, p13, p14, p15]) = .nx (s :: dr ds' :: [p0, p1, some (.lst (second'.map itD)), some (.val (.int (k : Nat))), p4, p5, p6, p7, p8, p9, p10, p11, p12, p13, p14, p15]) := by
  by_cases hk : k = 0
  · subst hk
    exact ⟨second, ds, rfl, h3, gIf_no (by exact evr_of)⟩
  · have t6 : gFz (gCall (F__law_take A) (gConsV (gOwn 1) (gConsV (gVd (gC (.int 6))) gNilV))) (s :: dr ds :: [p0, p1, some (.lst (second.map itD)), some (.val (.int (k : Nat))), p4, p5, p6, p7, p8, p9, p10, p11, p12, p13, p14, p15]) = _ := take_at (c := gC (.int 6)) (l := 6) (by decide) rfl
    have tl : gFz (gCall (F__law_take A) (gConsV (gOwn 1) (gConsV (gVd (gCallD fLen (gConsV (gAny 4) gNilV))) gNilV))) (s :: dr ds.dropLast :: [p0, p1, some (.lst (second.map itD)), some (.val (.int (k : Nat))), p4, p5, p6, p7, p8, p9, p10, p11, p12, p13, p14, p15]) = _ := take_at (c := gCallD fLen (gConsV (gAny 4) gNilV)) (l := second.length) (by omega) (by apply ok_eq; (· exact ev_of); (· simp); (· rfl))
    have bd := takeR_lt ds.dropLast (show (0 : Int) < second.length by omega)
    obtain ⟨n, hn⟩ := Int.eq_ofNat_of_zero_le bd.1
    rw [hn] at tl bd
    have hput : l_law_1_3_0 A (s :: dr ds :: [p0, p1, some (.lst (second.map itD)), some (.val (.int (k : Nat))), p4, p5, p6, p7, p8, p9, p10, p11, p12, p13, p14, p15]) = _ := gPut_ok (by exact ev_of) rfl tl rfl (ixN_nat (by simp; omega))
    refine ⟨second.set n [takeR ds 6, 9], ds.dropLast.dropLast, by simp, ?_, ?_⟩
    · intro it hi
      rcases List.mem_or_eq_of_mem_set hi with h | h
      · exact h3 it h
      · rw [h]; simp
    · refine (gIf_tt (e := s :: dr ds :: [p0, p1, some (.lst (second.map itD)), some (.val (.int (k : Nat))), p4, p5, p6, p7, p8, p9, p10, p11, p12, p13, p14, p15]) ?_).trans (nx_eq hput ?_)
      · apply ok_eq
        · exact ev_of
        · simp; omega
        · rfl
      · simp [List.map_set, itD]
theorem st4 (A : Ad) (s : Option T) (ds : List Int) (second : List (List Int)) (k : Nat) (h1 : 1 ≤ second.length) (h2 : second.length ≤ 25) (h3 : ∀ it ∈ second, it.length ≤ 2) (p0 p1 p4 p5 p6 p7 p8 p9 p10 p11 p12 p13 p14 p15 : Option T) :
    ∃ (second' : List (List Int)) (ds' : List Int) (q12 : Option T), 1 ≤ second'.length ∧ second'.length ≤ 34 ∧ (∀ it ∈ second', it.length ≤ 2) ∧ l_law_1_4 A (s :: dr ds :: [p0, p1, some (.lst (second.map itD)), some (.val (.int (k : Nat))), p4, p5, p6, p7, p8, p9, p10, p11, p12, p13, p14, p15]) = .nx (s :: dr ds' :: [p0, p1, some (.lst (second'.map itD)), some (.val (.int (k : Nat))), p4, p5, p6, p7, p8, p9, p10, p11, q12, p13, p14, p15]) := by
  by_cases hk : 1 < k
  · obtain ⟨m, hm, _, hr⟩ := rng_take (s := s) (ds := ds) (r := [p0, p1, some (.lst (second.map itD)), some (.val (.int (k : Nat))), p4, p5, p6, p7, p8, p9, p10, p11, p12, p13, p14, p15]) (c := gC (.int 9)) (l := 9) (by decide) (by decide) rfl
    obtain ⟨xs, ds', k1, k2, k3⟩ := lc_dr0 itD (fun it => it.length ≤ 2) (g := gFz (gLst (gConsA (gFz (gCall FTake (gConsV (gOwn 1) (gConsV (gVd (gC (.int 256))) gNilV)))) gNilA))) (v := 12) (n := m) (by omega) hr (fun ds r => ⟨[takeR ds 256], ds.dropLast, by simp, by
      have t := take_at (c := gC (.int 256)) (s := s) (ds := ds) (r := r) (l := 256) (by decide) rfl
      apply ok_eq
      · exact ev_of
      · rfl
      · rfl⟩)
    refine ⟨second ++ xs, ds', valO p12, by simp; omega, by simp; omega, fun it hi => (List.mem_append.mp hi).elim (h3 it) (k2 it), ?_⟩
    have hcat : fCat (.lst (second.map itD)) (.val (.lst (xs.map itD))) = some (.lst ((second ++ xs).map itD)) := by
      have : second.length + xs.length ≤ sizeLine := by rw [sizeLine_eq]; omega
      simp [this]
    refine (gIf_tt (e := s :: dr ds :: [p0, p1, some (.lst (second.map itD)), some (.val (.int (k : Nat))), p4, p5, p6, p7, p8, p9, p10, p11, p12, p13, p14, p15]) ?_).trans (gSetT_ok (i := 4) (gMake_ok (gAnyL_ok rfl) (gVd_ok (gFz_ok k3)) rfl rfl hcat))
    apply ok_eq
    · exact ev_of
    · simp; omega
    · rfl
  · refine ⟨second, ds, p12, h1, by omega, h3, gIf_no ?_⟩
    apply ok_eq
    · exact ev_of
    · simp; omega
    · rfl
end L94


namespace L94
open PySem PySem.Spec PyProof.Rows L2 DL
variable [Tabs]
theorem st5 (A : Ad) (s : Option T) (ds : List Int) (first second : List (List Int)) (k : Nat) (h1 : 1 ≤ first.length) (h2 : first.length ≤ 34) (h3 : ∀ it ∈ first, it.length ≤ 2) (g1 : 1 ≤ second.length) (g2 : second.length ≤ 34) (g3 : ∀ it ∈ second, it.length ≤ 2) (p0 p4 p5 p6 p7 p8 p9 p10 p11 p12 p13 p14 p15 : Option T) :
    ∃ (f' s' : List (List Int)) (t : T), (1 ≤ f'.length ∧ f'.length ≤ 34 ∧ ∀ it ∈ f', it.length ≤ 2) ∧ (1 ≤ s'.length ∧ s'.length ≤ 34 ∧ ∀ it ∈ s', it.length ≤ 2) ∧ t.frz = .lst (s'.map itD) ∧ l_law_1_5 A (s :: dr ds :: [p0, some (.val (.lst (first.map itD))), some (.lst (second.map itD)), some (.val (.int (k : Nat))), p4, p5, p6, p7, p8, p9, p10, p11, p12, p13, p14, p15]) = .nx (s :: dr ds :: [p0, some (.val (.lst (f'.map itD))), some t, some (.val (.int (k : Nat))), p4, p5, p6, p7, p8, p9, p10, p11, p12, p13, p14, p15]) := by
  by_cases hk : k = 3
  · refine ⟨second, first, .val (.lst (first.map itD)), ⟨g1, g2, g3⟩, ⟨h1, h2, h3⟩, rfl, (gIf_tt (e := s :: dr ds :: [p0, some (.val (.lst (first.map itD))), some (.lst (second.map itD)), some (.val (.int (k : Nat))), p4, p5, p6, p7, p8, p9, p10, p11, p12, p13, p14, p15]) ?_).trans (gAsg_ok (by exact ev_of) rfl)⟩
    apply ok_eq
    · exact ev_of
    · simp [hk]
    · rfl
  · refine ⟨first, second, .lst (second.map itD), ⟨h1, h2, h3⟩, ⟨g1, g2, g3⟩, rfl, gIf_no ?_⟩
    apply ok_eq
    · exact ev_of
    · simp only [decide_eq_false_iff_not]; omega
    · rfl
theorem st6 (A : Ad) (s : Option T) (ds : List Int) (first second : List (List Int)) (t : T) (ht : t.frz = .lst (second.map itD)) (h2 : first.length ≤ 34) (h3 : ∀ it ∈ first, it.length ≤ 2) (g2 : second.length ≤ 34) (g3 : ∀ it ∈ second, it.length ≤ 2) (p0 p3 p4 p5 p6 p7 p8 p9 p10 p11 p12 p13 p14 p15 : Option T) :
    l_law_1_6 A (s :: dr ds :: [p0, some (.val (.lst (first.map itD))), some t, p3, p4, p5, p6, p7, p8, p9, p10, p11, p12, p13, p14, p15]) = .nx (s :: dr ds :: [p0, some (.val (.lst (first.map itD))), some (.val (.lst (second.map itD))), p3, p4, p5, p6, some (.val (.lst ((first.map leafF).map D.int))), some (.val (.lst ((second.map leafF).map D.int))), p9, p10, p11, p12, p13, valO (valO p14), p15]) := by
  have l1 : gFz (gLc (gILst (gVar 3)) (fName 16) gYes (gFz (gCall (F__law_leaf A) (gConsV (gVd (gVar 16)) gNilV))) [16]) (s :: dr ds :: [p0, some (.val (.lst (first.map itD))), some t, p3, p4, p5, p6, p7, p8, p9, p10, p11, p12, p13, p14, p15]) = .ok (.lst (first.map fun it => D.int (leafF it))) (s :: dr ds :: [p0, some (.val (.lst (first.map itD))), some t, p3, p4, p5, p6, p7, p8, p9, p10, p11, p12, p13, valO p14, p15]) := gFz_ok (gLc_pure1 (g := gFz (gCall (F__law_leaf A) (gConsV (gVd (gVar 16)) gNilV))) (i := 16) itD (fun it => .int (leafF it)) (env := s :: dr ds :: [p0, some (.val (.lst (first.map itD))), some t, p3, p4, p5, p6, p7, p8, p9, p10, p11, p12, p13, p14, p15]) (e := s :: dr ds :: [p0, some (.val (.lst (first.map itD))), some t, p3, p4, p5, p6, p7, p8, p9, p10, p11, p12, p13, p14, p15]) first (by exact ev_of) (by omega) (fun it hi => by
    have q : F__law_leaf A [.val (itD it)] = _ := run__law_leaf A it (Nat.lt_of_le_of_lt (h3 it hi) (by rw [sizeLine_eq]; decide))
    exact evr_of))
  have l2 : gFz (gLc (gILst (gFrz 4)) (fName 16) gYes (gFz (gCall (F__law_leaf A) (gConsV (gVd (gVar 16)) gNilV))) [16]) (s :: dr ds :: [p0, some (.val (.lst (first.map itD))), some t, p3, p4, p5, p6, p7, p8, p9, p10, p11, p12, p13, valO p14, p15]) = .ok (.lst (second.map fun it => D.int (leafF it))) (s :: dr ds :: [p0, some (.val (.lst (first.map itD))), some (.val t.frz), p3, p4, p5, p6, p7, p8, p9, p10, p11, p12, p13, valO (valO p14), p15]) := gFz_ok (gLc_pure1 (gi := gILst (gFrz 4)) (g := gFz (gCall (F__law_leaf A) (gConsV (gVd (gVar 16)) gNilV))) (i := 16) itD (fun it => .int (leafF it)) (env := s :: dr ds :: [p0, some (.val (.lst (first.map itD))), some t, p3, p4, p5, p6, p7, p8, p9, p10, p11, p12, p13, valO p14, p15]) (e := s :: dr ds :: [p0, some (.val (.lst (first.map itD))), some (.val t.frz), p3, p4, p5, p6, p7, p8, p9, p10, p11, p12, p13, valO p14, p15]) second (gILst_ok' (gFrz_ok (t := t) rfl) (by rw [ht]; rfl)) (by omega) (fun it hi => by
    have q : F__law_leaf A [.val (itD it)] = _ := run__law_leaf A it (Nat.lt_of_le_of_lt (g3 it hi) (by rw [sizeLine_eq]; decide))
    exact evr_of))
  rw [ht] at l2
  refine nx_eq (gPar_ok (gConsA_ok l1 (gConsA_ok l2 gNilA_ok))) ?_
  simp [List.map_map, Function.comp_def]
theorem st7 (A : Ad) (s : Option T) (ds : List Int) (first second : List (List Int)) (h1 : 1 ≤ first.length) (h2 : first.length ≤ 34) (g1 : 1 ≤ second.length) (g2 : second.length ≤ 34) (p0 p3 p4 p5 p6 p9 p10 p11 p12 p13 p14 p15 : Option T) :
    l_law_1_7 A (s :: dr ds :: [p0, some (.val (.lst (first.map itD))), some (.val (.lst (second.map itD))), p3, p4, p5, p6, some (.val (.lst ((first.map leafF).map D.int))), some (.val (.lst ((second.map leafF).map D.int))), p9, p10, p11, p12, p13, p14, p15]) = .nx (s :: dr ds :: [p0, some (.val (.lst (first.map itD))), some (.val (.lst (second.map itD))), p3, p4, p5, p6, some (.val (.lst ((first.map leafF).map D.int))), some (.val (.lst ((second.map leafF).map D.int))), some (.val (.int (rootS 12 (first.map leafF)))), some (.val (.int (rootS 12 (second.map leafF)))), p11, p12, p13, p14, p15]) := by
  have r1 := run__law_root A 11 (first.map leafF) (by simpa using h1) (by simp; omega) (by simp; omega)
  have r2 := run__law_root A 11 (second.map leafF) (by simpa using g1) (by simp; omega) (by simp; omega)
  exact gAsg_ok (by exact ev_of) rfl
theorem st9 (A : Ad) (s : Option T) (ds : List Int) (first second : List (List Int)) (h1 : 1 ≤ first.length) (h2 : first.length ≤ 34) (g1 : 1 ≤ second.length) (g2 : second.length ≤ 34) (p0 p3 p5 p6 p11 p12 p13 p14 p15 : Option T) :
    l_law_1_9 A (s :: dr ds :: [p0, some (.val (.lst (first.map itD))), some (.val (.lst (second.map itD))), p3, some (.val (.int ((0 : Nat) : Int))), p5, p6, some (.val (.lst ((first.map leafF).map D.int))), some (.val (.lst ((second.map leafF).map D.int))), some (.val (.int (rootS 12 (first.map leafF)))), some (.val (.int (rootS 12 (second.map leafF)))), p11, p12, p13, p14, p15]) = .nx (s :: dr ds :: [p0, some (.val (.lst (first.map itD))), some (.val (.lst (second.map itD))), p3, some (.val (.int (alikeI first second : Nat))), p5, p6, some (.val (.lst ((first.map leafF).map D.int))), some (.val (.lst ((second.map leafF).map D.int))), some (.val (.int (rootS 12 (first.map leafF)))), some (.val (.int (rootS 12 (second.map leafF)))), p11, p12, p13, p14, p15]) := by
  have hl := alikeI_le first second
  refine whileD_count (fun j => s :: dr ds :: [p0, some (.val (.lst (first.map itD))), some (.val (.lst (second.map itD))), p3, some (.val (.int (j : Nat))), p5, p6, some (.val (.lst ((first.map leafF).map D.int))), some (.val (.lst ((second.map leafF).map D.int))), some (.val (.int (rootS 12 (first.map leafF)))), some (.val (.int (rootS 12 (second.map leafF)))), p11, p12, p13, p14, p15]) (alikeI first second) (fun j hj => ?_) ?_ (alikeI first second) 0 100000 (by omega) (by omega)
  · obtain ⟨x, h1, h2⟩ := alikeI_below first second j hj
    have i1 : fIx (.val (.lst (first.map itD))) (.val (.int j)) = some (itD x) := fIx_lst (by simp [h1])
    have i2 : fIx (.val (.lst (second.map itD))) (.val (.int j)) = some (itD x) := fIx_lst (by simp [h2])
    constructor
    · refine gAnd_tt (e := s :: dr ds :: [p0, some (.val (.lst (first.map itD))), some (.val (.lst (second.map itD))), p3, some (.val (.int (j : Nat))), p5, p6, some (.val (.lst ((first.map leafF).map D.int))), some (.val (.lst ((second.map leafF).map D.int))), some (.val (.int (rootS 12 (first.map leafF)))), some (.val (.int (rootS 12 (second.map leafF)))), p11, p12, p13, p14, p15]) ?_ ?_
      · apply ok_eq
        · exact ev_of
        · simp only [List.length_map, min2]; simp; omega
        · rfl
      · have te := tEq_ints x x
        have fe : fEq (.val (itD x)) (.val (itD x)) = some (.bl true) := by rw [fEq_eq, show tEq (.val (itD x)) (.val (itD x)) = _ from te]; simp
        apply ok_eq
        · exact ev_of
        · rfl
        · rfl
    · refine nx_eq (gSet_ok (by exact ev_of)) ?_
      simp
  · by_cases hq : alikeI first second < min first.length second.length
    · have hf := alikeI_at first second hq
      obtain ⟨x, y, h1, h2, h3, _⟩ := forkI_lt hf
      have i1 : fIx (.val (.lst (first.map itD))) (.val (.int (alikeI first second : Nat))) = some (itD x) := fIx_lst (by simp [h1])
      have i2 : fIx (.val (.lst (second.map itD))) (.val (.int (alikeI first second : Nat))) = some (itD y) := fIx_lst (by simp [h2])
      have fe : fEq (.val (itD x)) (.val (itD y)) = some (.bl false) := by rw [fEq_eq, show tEq (.val (itD x)) (.val (itD y)) = _ from tEq_ints x y]; simp [h3]
      refine gAnd_tt (e := s :: dr ds :: [p0, some (.val (.lst (first.map itD))), some (.val (.lst (second.map itD))), p3, some (.val (.int (alikeI first second : Nat))), p5, p6, some (.val (.lst ((first.map leafF).map D.int))), some (.val (.lst ((second.map leafF).map D.int))), some (.val (.int (rootS 12 (first.map leafF)))), some (.val (.int (rootS 12 (second.map leafF)))), p11, p12, p13, p14, p15]) ?_ ?_
      · apply ok_eq
        · exact ev_of
        · simp only [List.length_map, min2]; simp; omega
        · rfl
      · apply ok_eq
        · exact ev_of
        · rfl
        · rfl
    · refine gAnd_ff ?_
      apply ok_eq
      · exact ev_of
      · simp only [List.length_map, min2]; simp; omega
      · rfl
end L94


namespace L94
open PySem PySem.Spec PyProof.Rows L2 DL
variable [Tabs]
theorem nc_tp (ns : List Int) (h : ns.length ≤ 1000000) : (tp ns).nc = true ∧ (tp ns).dp ≤ 1 := by
  refine ⟨?_, by simp [tp, D.dp]⟩
  simp only [tp, D.nc, Bool.and_eq_true, decide_eq_true_eq, List.length_map]
  exact ⟨ncs_iff.mpr fun d hd => by obtain ⟨n, _, rfl⟩ := List.mem_map.mp hd; rfl, h⟩
theorem Paper.nc (q : Paper) (h1 : q.o.length ≤ 1000000) (h2 : q.p.length ≤ 1000000) (h3 : q.o2.length ≤ 1000000) (h4 : q.p2.length ≤ 1000000) : q.D.nc = true ∧ q.D.dp ≤ 3 := by
  obtain ⟨a1, b1⟩ := nc_tp q.o h1
  obtain ⟨a2, b2⟩ := nc_tp q.p h2
  obtain ⟨a3, b3⟩ := nc_tp q.o2 h3
  obtain ⟨a4, b4⟩ := nc_tp q.p2 h4
  refine ⟨by simp [Paper.D, D.nc, ncs, a1, a2, a3, a4], ?_⟩
  simp only [Paper.D, D.dp, dps]
  omega
theorem paperF_some {first second : List (List Int)} {q : Paper} (h : paperF first second = some q) : ∃ j x y, forkI first second = some j ∧ first[j]? = some x ∧ second[j]? = some y ∧ x ≠ y ∧ j < first.length ∧ j < second.length ∧ q = ⟨j, x, proofS 12 (first.map leafF) j, y, proofS 12 (second.map leafF) j⟩ := by
  unfold paperF at h
  cases hf : forkI first second with
  | none => rw [hf] at h; cases h
  | some j =>
    rw [hf] at h
    obtain ⟨x, y, k1, k2, k3, k4, k5⟩ := forkI_lt hf
    refine ⟨j, x, y, rfl, k1, k2, k3, k4, k5, ?_⟩
    have := (Option.some.inj h).symm
    rw [getD_of k1, getD_of k2] at this
    exact this
theorem paperD_nc (first second : List (List Int)) (h2 : first.length ≤ 34) (g2 : second.length ≤ 34) (h3 : ∀ it ∈ first, it.length ≤ 2) (g3 : ∀ it ∈ second, it.length ≤ 2) : (paperD (paperF first second)).nc = true ∧ (paperD (paperF first second)).dp ≤ 3 := by
  cases hp : paperF first second with
  | none => exact ⟨rfl, by simp [paperD, D.dp]⟩
  | some q =>
    obtain ⟨j, x, y, _, k1, k2, k3, k4, k5, rfl⟩ := paperF_some hp
    have lx := h3 x (List.mem_of_getElem? k1)
    have ly := g3 y (List.mem_of_getElem? k2)
    have a := proofS_len 12 (first.map leafF) j
    have b := proofS_len 12 (second.map leafF) j
    exact Paper.nc _ (by show x.length ≤ _; omega) (by show (proofS 12 _ j).length ≤ _; omega) (by show y.length ≤ _; omega) (by show (proofS 12 _ j).length ≤ _; omega)
theorem st11 (A : Ad) (s : Option T) (ds : List Int) (first second : List (List Int)) (h1 : 1 ≤ first.length) (h2 : first.length ≤ 34) (h3 : ∀ it ∈ first, it.length ≤ 2) (g1 : 1 ≤ second.length) (g2 : second.length ≤ 34) (g3 : ∀ it ∈ second, it.length ≤ 2) (p0 p3 p6 p11 p12 p13 p14 p15 : Option T) :
    l_law_1_11 A (s :: dr ds :: [p0, some (.val (.lst (first.map itD))), some (.val (.lst (second.map itD))), p3, some (.val (.int (alikeI first second : Nat))), some (.val .non), p6, some (.val (.lst ((first.map leafF).map D.int))), some (.val (.lst ((second.map leafF).map D.int))), some (.val (.int (rootS 12 (first.map leafF)))), some (.val (.int (rootS 12 (second.map leafF)))), p11, p12, p13, p14, p15]) = .nx (s :: dr ds :: [p0, some (.val (.lst (first.map itD))), some (.val (.lst (second.map itD))), p3, some (.val (.int (alikeI first second : Nat))), some (.val (paperD (paperF first second))), p6, some (.val (.lst ((first.map leafF).map D.int))), some (.val (.lst ((second.map leafF).map D.int))), some (.val (.int (rootS 12 (first.map leafF)))), some (.val (.int (rootS 12 (second.map leafF)))), p11, p12, p13, p14, p15]) := by
  have hl := alikeI_le first second
  by_cases hq : alikeI first second < min first.length second.length
  · have hf := alikeI_at first second hq
    obtain ⟨x, y, k1, k2, k3, k4, k5⟩ := forkI_lt hf
    have i1 : fIx (.val (.lst (first.map itD))) (.val (.int (alikeI first second : Nat))) = some (itD x) := fIx_lst (by simp [k1])
    have i2 : fIx (.val (.lst (second.map itD))) (.val (.int (alikeI first second : Nat))) = some (itD y) := fIx_lst (by simp [k2])
    have p1 := run__law_proof A 11 (first.map leafF) (alikeI first second) (by simpa using k4) (by simp; omega) (by omega) (by simp; omega)
    have p2 := run__law_proof A 11 (second.map leafF) (alikeI first second) (by simpa using k5) (by simp; omega) (by omega) (by simp; omega)
    refine (gIf_tt (e := s :: dr ds :: [p0, some (.val (.lst (first.map itD))), some (.val (.lst (second.map itD))), p3, some (.val (.int (alikeI first second : Nat))), some (.val .non), p6, some (.val (.lst ((first.map leafF).map D.int))), some (.val (.lst ((second.map leafF).map D.int))), some (.val (.int (rootS 12 (first.map leafF)))), some (.val (.int (rootS 12 (second.map leafF)))), p11, p12, p13, p14, p15]) ?_).trans (nx_eq (gSet_ok (by exact ev_of)) ?_)
    · apply ok_eq
      · exact ev_of
      · simp only [List.length_map, min2]; simp; omega
      · rfl
    · simp [paperF, hf, paperD, Paper.D, k1, k2, tp]
  · have hf := alikeI_end first second hq
    rw [paperF, hf]
    refine gIf_no ?_
    apply ok_eq
    · exact ev_of
    · simp only [List.length_map, min2]; simp; omega
    · rfl
theorem st12 (A : Ad) (s : Option T) (ds : List Int) (first second : List (List Int)) (h1 : 1 ≤ first.length) (h2 : first.length ≤ 34) (h3 : ∀ it ∈ first, it.length ≤ 2) (g1 : 1 ≤ second.length) (g2 : second.length ≤ 34) (g3 : ∀ it ∈ second, it.length ≤ 2) (p0 p3 p6 p11 p12 p13 p14 p15 : Option T) :
    l_law_1_12 A (s :: dr ds :: [p0, some (.val (.lst (first.map itD))), some (.val (.lst (second.map itD))), p3, some (.val (.int (alikeI first second : Nat))), some (.val (paperD (paperF first second))), p6, some (.val (.lst ((first.map leafF).map D.int))), some (.val (.lst ((second.map leafF).map D.int))), some (.val (.int (rootS 12 (first.map leafF)))), some (.val (.int (rootS 12 (second.map leafF)))), p11, p12, p13, p14, p15]) = .nx (s :: dr ds :: [p0, some (.val (.lst (first.map itD))), some (.val (.lst (second.map itD))), p3, some (.val (.int (alikeI first second : Nat))), some (.val (paperD (paperF first second))), p6, some (.val (.lst ((first.map leafF).map D.int))), some (.val (.lst ((second.map leafF).map D.int))), some (.val (.int (rootS 12 (first.map leafF)))), some (.val (.int (rootS 12 (second.map leafF)))), p11, p12, p13, p14, p15]) := by
  have f1 := run_fork_paper A first second h1 g1 (by omega) (by omega) (fun it hi => Nat.lt_of_le_of_lt (h3 it hi) (by rw [sizeLine_eq]; decide)) (fun it hi => Nat.lt_of_le_of_lt (g3 it hi) (by rw [sizeLine_eq]; decide))
  have f2 : F__law_same A 4 [.val (paperD (paperF first second)), .val (paperD (paperF first second))] = _ := run_same 3 (paperD (paperF first second)) (paperD_nc first second h2 g2 h3 g3).1 (paperD_nc first second h2 g2 h3 g3).2
  refine gIf_no ?_
  apply ok_eq
  · exact ev_of
  · rfl
  · rfl
theorem st13 (A : Ad) (s : Option T) (ds : List Int) (first second : List (List Int)) (h1 : 1 ≤ first.length) (h2 : first.length ≤ 34) (h3 : ∀ it ∈ first, it.length ≤ 2) (g1 : 1 ≤ second.length) (g2 : second.length ≤ 34) (g3 : ∀ it ∈ second, it.length ≤ 2) (p0 p3 p6 p11 p12 p13 p14 p15 : Option T) :
    ∃ q11 : Option T, l_law_1_13 A (s :: dr ds :: [p0, some (.val (.lst (first.map itD))), some (.val (.lst (second.map itD))), p3, some (.val (.int (alikeI first second : Nat))), some (.val (paperD (paperF first second))), p6, some (.val (.lst ((first.map leafF).map D.int))), some (.val (.lst ((second.map leafF).map D.int))), some (.val (.int (rootS 12 (first.map leafF)))), some (.val (.int (rootS 12 (second.map leafF)))), p11, p12, p13, p14, p15]) = .nx (s :: dr ds :: [p0, some (.val (.lst (first.map itD))), some (.val (.lst (second.map itD))), p3, some (.val (.int (alikeI first second : Nat))), some (.val (paperD (paperF first second))), p6, some (.val (.lst ((first.map leafF).map D.int))), some (.val (.lst ((second.map leafF).map D.int))), some (.val (.int (rootS 12 (first.map leafF)))), some (.val (.int (rootS 12 (second.map leafF)))), q11, p12, p13, p14, p15]) := by
  by_cases hq : 0 < alikeI first second
  · obtain ⟨x, k1, k2⟩ := alikeI_below first second 0 hq
    have i1 : fIx (.val (.lst (first.map itD))) (.val (.int 0)) = some (itD x) := fIx_lst (by simp [k1])
    have i2 : fIx (.val (.lst (second.map itD))) (.val (.int 0)) = some (itD x) := fIx_lst (by simp [k2])
    have p1 : F__law_proof A 12 [.val (.lst ((first.map leafF).map D.int)), .val (.int 0)] = _ := run__law_proof A 11 (first.map leafF) 0 (by simp; omega) (by simp; omega) (by omega) (by simp; omega)
    have p2 : F__law_proof A 12 [.val (.lst ((second.map leafF).map D.int)), .val (.int 0)] = _ := run__law_proof A 11 (second.map leafF) 0 (by simp; omega) (by simp; omega) (by omega) (by simp; omega)
    have lx : x.length ≤ 2 := h3 x (List.mem_of_getElem? k1)
    have t := run_takes_fork A (rootS 12 (first.map leafF)) first.length (rootS 12 (second.map leafF)) second.length ⟨0, x, proofS 12 (first.map leafF) 0, x, proofS 12 (second.map leafF) 0⟩ (by omega) (by omega) (by omega) (by omega) (Nat.lt_of_le_of_lt lx (by rw [sizeLine_eq]; decide)) (Nat.lt_of_le_of_lt lx (by rw [sizeLine_eq]; decide))
    have tf : forkF (rootS 12 (first.map leafF)) first.length (rootS 12 (second.map leafF)) second.length ⟨0, x, proofS 12 (first.map leafF) 0, x, proofS 12 (second.map leafF) 0⟩ = false := by simp [forkF]
    rw [tf] at t
    refine ⟨some (.val (.tup [.int 0, .tup (x.map D.int), .tup ((proofS 12 (first.map leafF) 0).map D.int), .tup (x.map D.int), .tup ((proofS 12 (second.map leafF) 0).map D.int)])), ?_⟩
    refine (gIf_tt (e := s :: dr ds :: [p0, some (.val (.lst (first.map itD))), some (.val (.lst (second.map itD))), p3, some (.val (.int (alikeI first second : Nat))), some (.val (paperD (paperF first second))), p6, some (.val (.lst ((first.map leafF).map D.int))), some (.val (.lst ((second.map leafF).map D.int))), some (.val (.int (rootS 12 (first.map leafF)))), some (.val (.int (rootS 12 (second.map leafF)))), p11, p12, p13, p14, p15]) ?_).trans ?_
    · apply ok_eq
      · exact ev_of
      · simp; omega
      · rfl
    · refine gSeq_st (nx_eq (gSet_ok (by exact ev_of)) rfl) (gIf_no ?_)
      simp only [Paper.D, tp] at t
      have l1 : fLen [.val (.lst (first.map itD))] = some (.int first.length) := by simp
      have l2 : fLen [.val (.lst (second.map itD))] = some (.int second.length) := by simp
      apply ok_eq
      · exact ev_of
      · rfl
      · rfl
  · refine ⟨p11, gIf_no ?_⟩
    apply ok_eq
    · exact ev_of
    · simp; omega
    · rfl
theorem st14_0 (A : Ad) (s : Option T) (ds : List Int) (first second : List (List Int)) (q : Paper) (h1 : 1 ≤ first.length) (h2 : first.length ≤ 34) (h3 : ∀ it ∈ first, it.length ≤ 2) (g1 : 1 ≤ second.length) (g2 : second.length ≤ 34) (g3 : ∀ it ∈ second, it.length ≤ 2) (hq : paperF first second = some q) (p0 p3 p6 p11 p12 p13 p14 p15 : Option T) :
    l_law_1_14_0 A (s :: dr ds :: [p0, some (.val (.lst (first.map itD))), some (.val (.lst (second.map itD))), p3, some (.val (.int (alikeI first second : Nat))), some (.val (Paper.D q)), p6, some (.val (.lst ((first.map leafF).map D.int))), some (.val (.lst ((second.map leafF).map D.int))), some (.val (.int (rootS 12 (first.map leafF)))), some (.val (.int (rootS 12 (second.map leafF)))), p11, p12, p13, p14, p15]) = .nx (s :: dr ds :: [p0, some (.val (.lst (first.map itD))), some (.val (.lst (second.map itD))), p3, some (.val (.int (alikeI first second : Nat))), some (.val (Paper.D q)), p6, some (.val (.lst ((first.map leafF).map D.int))), some (.val (.lst ((second.map leafF).map D.int))), some (.val (.int (rootS 12 (first.map leafF)))), some (.val (.int (rootS 12 (second.map leafF)))), p11, p12, p13, p14, p15]) := by
  have hs := paperF_some hq
  obtain ⟨j, x, y, _, k1, k2, k3, k4, k5, rfl⟩ := hs
  have lx := h3 x (List.mem_of_getElem? k1)
  have ly := g3 y (List.mem_of_getElem? k2)
  have t := run_takes_fork A (rootS 12 (first.map leafF)) first.length (rootS 12 (second.map leafF)) second.length ⟨j, x, proofS 12 (first.map leafF) j, y, proofS 12 (second.map leafF) j⟩ (by omega) (by omega) (by omega) (by omega) (Nat.lt_of_le_of_lt lx (by rw [sizeLine_eq]; decide)) (Nat.lt_of_le_of_lt ly (by rw [sizeLine_eq]; decide))
  have tf : forkF (rootS 12 (first.map leafF)) first.length (rootS 12 (second.map leafF)) second.length ⟨j, x, proofS 12 (first.map leafF) j, y, proofS 12 (second.map leafF) j⟩ = true := by
    have a := takesF_own first j x k1 (by omega)
    have b := takesF_own second j y k2 (by omega)
    simp [forkF, k3, a, b]
  rw [tf] at t
  have l1 : fLen [.val (.lst (first.map itD))] = some (.int first.length) := by simp
  have l2 : fLen [.val (.lst (second.map itD))] = some (.int second.length) := by simp
  refine gIf_no ?_
  apply ok_eq
  · exact ev_of
  · rfl
  · rfl
theorem st14_1b (A : Ad) (s : Option T) (ds : List Int) (first second : List (List Int)) (q : Paper) (h1 : 1 ≤ first.length) (h2 : first.length ≤ 34) (g1 : 1 ≤ second.length) (g2 : second.length ≤ 34) (q1 : q.o.length ≤ 1000) (q2 : q.o2.length ≤ 1000) (q3 : q.p2.length ≤ 1000) (p0 p3 p6 p11 p12 p13 p14 p15 : Option T) :
    ∃ (ds' : List Int) (q15 : Option T), gSeq (l_law_1_14_1_0 A) (l_law_1_14_1_1 A) (s :: dr ds :: [p0, some (.val (.lst (first.map itD))), some (.val (.lst (second.map itD))), p3, some (.val (.int (alikeI first second : Nat))), some (.val (Paper.D q)), p6, some (.val (.lst ((first.map leafF).map D.int))), some (.val (.lst ((second.map leafF).map D.int))), some (.val (.int (rootS 12 (first.map leafF)))), some (.val (.int (rootS 12 (second.map leafF)))), p11, p12, p13, p14, p15]) = .nx (s :: dr ds' :: [p0, some (.val (.lst (first.map itD))), some (.val (.lst (second.map itD))), p3, some (.val (.int (alikeI first second : Nat))), some (.val (Paper.D q)), p6, some (.val (.lst ((first.map leafF).map D.int))), some (.val (.lst ((second.map leafF).map D.int))), some (.val (.int (rootS 12 (first.map leafF)))), some (.val (.int (rootS 12 (second.map leafF)))), p11, p12, p13, p14, q15]) := by
  obtain ⟨q', b1, b2, hb⟩ := run__law_bent A ds q (by omega) (by omega) (by omega)
  have t := run_takes_fork A (rootS 12 (first.map leafF)) first.length (rootS 12 (second.map leafF)) second.length q' (by omega) (by omega) (by omega) (by omega) (by rw [sizeLine_eq]; omega) (by rw [sizeLine_eq]; omega)
  have u := run__law_is_fork A (rootS 12 (first.map leafF)) first.length (rootS 12 (second.map leafF)) second.length q' (by omega) (by omega) (by rw [sizeLine_eq]; omega) (by rw [sizeLine_eq]; omega)
  generalize forkF (rootS 12 (first.map leafF)) first.length (rootS 12 (second.map leafF)) second.length q' = bb at t u
  have f2 : F__law_same A 4 [.val (.bl bb), .val (.bl bb)] = _ := run_same 3 (.bl bb) rfl (by simp [D.dp])
  have l1 : fLen [.val (.lst (first.map itD))] = some (.int first.length) := by simp
  have l2 : fLen [.val (.lst (second.map itD))] = some (.int second.length) := by simp
  refine ⟨ds.dropLast, some (.val q'.D), ?_⟩
  have hc : gFz (gCall (F__law_bent A) (gConsV (gOwn 1) (gConsV (gVd (gVar 7)) gNilV))) (s :: dr ds :: [p0, some (.val (.lst (first.map itD))), some (.val (.lst (second.map itD))), p3, some (.val (.int (alikeI first second : Nat))), some (.val (Paper.D q)), p6, some (.val (.lst ((first.map leafF).map D.int))), some (.val (.lst ((second.map leafF).map D.int))), some (.val (.int (rootS 12 (first.map leafF)))), some (.val (.int (rootS 12 (second.map leafF)))), p11, p12, p13, p14, p15]) = .ok q'.D (s :: dr ds.dropLast :: [p0, some (.val (.lst (first.map itD))), some (.val (.lst (second.map itD))), p3, some (.val (.int (alikeI first second : Nat))), some (.val (Paper.D q)), p6, some (.val (.lst ((first.map leafF).map D.int))), some (.val (.lst ((second.map leafF).map D.int))), some (.val (.int (rootS 12 (first.map leafF)))), some (.val (.int (rootS 12 (second.map leafF)))), p11, p12, p13, p14, p15]) := gFz_ok (t := .val q'.D) (call_dr (k := gConsV (gVd (gVar 7)) gNilV) (by exact ev_of) rfl hb)
  refine gSeq_st (gSet_ok hc) (gIf_no (e := s :: dr ds.dropLast :: [p0, some (.val (.lst (first.map itD))), some (.val (.lst (second.map itD))), p3, some (.val (.int (alikeI first second : Nat))), some (.val (Paper.D q)), p6, some (.val (.lst ((first.map leafF).map D.int))), some (.val (.lst ((second.map leafF).map D.int))), some (.val (.int (rootS 12 (first.map leafF)))), some (.val (.int (rootS 12 (second.map leafF)))), p11, p12, p13, p14, some (.val q'.D)]) ?_)
  apply ok_eq
  · exact ev_of
  · rfl
  · rfl
theorem st14_1 (A : Ad) (s : Option T) (ds : List Int) (first second : List (List Int)) (q : Paper) (h1 : 1 ≤ first.length) (h2 : first.length ≤ 34) (g1 : 1 ≤ second.length) (g2 : second.length ≤ 34) (q1 : q.o.length ≤ 1000) (q2 : q.o2.length ≤ 1000) (q3 : q.p2.length ≤ 1000) (p0 p3 p6 p11 p12 p13 p14 p15 : Option T) :
    ∃ (ds' : List Int) (q12 q15 : Option T), l_law_1_14_1 A (s :: dr ds :: [p0, some (.val (.lst (first.map itD))), some (.val (.lst (second.map itD))), p3, some (.val (.int (alikeI first second : Nat))), some (.val (Paper.D q)), p6, some (.val (.lst ((first.map leafF).map D.int))), some (.val (.lst ((second.map leafF).map D.int))), some (.val (.int (rootS 12 (first.map leafF)))), some (.val (.int (rootS 12 (second.map leafF)))), p11, p12, p13, p14, p15]) = .nx (s :: dr ds' :: [p0, some (.val (.lst (first.map itD))), some (.val (.lst (second.map itD))), p3, some (.val (.int (alikeI first second : Nat))), some (.val (Paper.D q)), p6, some (.val (.lst ((first.map leafF).map D.int))), some (.val (.lst ((second.map leafF).map D.int))), some (.val (.int (rootS 12 (first.map leafF)))), some (.val (.int (rootS 12 (second.map leafF)))), p11, q12, p13, p14, q15]) := by
  obtain ⟨e', ⟨ds', a, b, he⟩, hf⟩ := forD_inv (f := fName 14) (b := gSeq (l_law_1_14_1_0 A) (l_law_1_14_1_1 A)) (P := fun e => ∃ (ds' : List Int) (q12 q15 : Option T), e = (s :: dr ds' :: [p0, some (.val (.lst (first.map itD))), some (.val (.lst (second.map itD))), p3, some (.val (.int (alikeI first second : Nat))), some (.val (Paper.D q)), p6, some (.val (.lst ((first.map leafF).map D.int))), some (.val (.lst ((second.map leafF).map D.int))), some (.val (.int (rootS 12 (first.map leafF)))), some (.val (.int (rootS 12 (second.map leafF)))), p11, q12, p13, p14, q15])) (rangeD 0 4) (s :: dr ds :: [p0, some (.val (.lst (first.map itD))), some (.val (.lst (second.map itD))), p3, some (.val (.int (alikeI first second : Nat))), some (.val (Paper.D q)), p6, some (.val (.lst ((first.map leafF).map D.int))), some (.val (.lst ((second.map leafF).map D.int))), some (.val (.int (rootS 12 (first.map leafF)))), some (.val (.int (rootS 12 (second.map leafF)))), p11, p12, p13, p14, p15])
    (fun d hd e ⟨ds', a, b, he⟩ => by
      subst he
      obtain ⟨ds2, c, h⟩ := st14_1b A s ds' first second q h1 h2 g1 g2 q1 q2 q3 p0 p3 p6 p11 (some (.val d)) p13 p14 b
      exact ⟨_, _, rfl, h, ds2, some (.val d), c, rfl⟩) ⟨ds, p12, p15, rfl⟩
  subst he
  exact ⟨ds', a, b, gFor_ok (gRng1_ok (j := 4) rfl (by rfl)) hf⟩
theorem st14_2 (A : Ad) (s : Option T) (ds : List Int) (first second : List (List Int)) (q : Paper) (h1 : 1 ≤ first.length) (h2 : first.length ≤ 34) (g1 : 1 ≤ second.length) (g2 : second.length ≤ 34) (q1 : q.o.length ≤ 1000) (q2 : q.o2.length ≤ 1000) (p0 p3 p6 p11 p12 p13 p14 p15 : Option T) :
    l_law_1_14_2 A (s :: dr ds :: [p0, some (.val (.lst (first.map itD))), some (.val (.lst (second.map itD))), p3, some (.val (.int (alikeI first second : Nat))), some (.val (Paper.D q)), p6, some (.val (.lst ((first.map leafF).map D.int))), some (.val (.lst ((second.map leafF).map D.int))), some (.val (.int (rootS 12 (first.map leafF)))), some (.val (.int (rootS 12 (second.map leafF)))), p11, p12, p13, p14, p15]) = .nx (s :: dr ds :: [p0, some (.val (.lst (first.map itD))), some (.val (.lst (second.map itD))), p3, some (.val (.int (alikeI first second : Nat))), some (.val (Paper.D q)), p6, some (.val (.lst ((first.map leafF).map D.int))), some (.val (.lst ((second.map leafF).map D.int))), some (.val (.int (rootS 12 (first.map leafF)))), some (.val (.int (rootS 12 (second.map leafF)))), p11, p12, p13, p14, p15]) := by
  have t := run_takes_fork A (rootS 12 (second.map leafF)) first.length (rootS 12 (first.map leafF)) second.length q (by omega) (by omega) (by omega) (by omega) (by rw [sizeLine_eq]; omega) (by rw [sizeLine_eq]; omega)
  have u := run__law_is_fork A (rootS 12 (second.map leafF)) first.length (rootS 12 (first.map leafF)) second.length q (by omega) (by omega) (by rw [sizeLine_eq]; omega) (by rw [sizeLine_eq]; omega)
  generalize forkF (rootS 12 (second.map leafF)) first.length (rootS 12 (first.map leafF)) second.length q = bb at t u
  have l1 : fLen [.val (.lst (first.map itD))] = some (.int first.length) := by simp
  have l2 : fLen [.val (.lst (second.map itD))] = some (.int second.length) := by simp
  have fn : fNe (.val (.bl bb)) (.val (.bl bb)) = some (.bl false) := by simp
  refine gIf_no ?_
  apply ok_eq
  · exact ev_of
  · rfl
  · rfl
theorem st14 (A : Ad) (s : Option T) (ds : List Int) (first second : List (List Int)) (h1 : 1 ≤ first.length) (h2 : first.length ≤ 34) (h3 : ∀ it ∈ first, it.length ≤ 2) (g1 : 1 ≤ second.length) (g2 : second.length ≤ 34) (g3 : ∀ it ∈ second, it.length ≤ 2) (p0 p3 p6 p11 p12 p13 p14 p15 : Option T) :
    ∃ (ds' : List Int) (q12 q15 : Option T), l_law_1_14 A (s :: dr ds :: [p0, some (.val (.lst (first.map itD))), some (.val (.lst (second.map itD))), p3, some (.val (.int (alikeI first second : Nat))), some (.val (paperD (paperF first second))), p6, some (.val (.lst ((first.map leafF).map D.int))), some (.val (.lst ((second.map leafF).map D.int))), some (.val (.int (rootS 12 (first.map leafF)))), some (.val (.int (rootS 12 (second.map leafF)))), p11, p12, p13, p14, p15]) = .nx (s :: dr ds' :: [p0, some (.val (.lst (first.map itD))), some (.val (.lst (second.map itD))), p3, some (.val (.int (alikeI first second : Nat))), some (.val (paperD (paperF first second))), p6, some (.val (.lst ((first.map leafF).map D.int))), some (.val (.lst ((second.map leafF).map D.int))), some (.val (.int (rootS 12 (first.map leafF)))), some (.val (.int (rootS 12 (second.map leafF)))), p11, q12, p13, p14, q15]) := by
  cases hq : paperF first second with
  | none =>
    refine ⟨ds, p12, p15, gIf_no ?_⟩
    apply ok_eq
    · exact ev_of
    · rfl
    · rfl
  | some q =>
    have hs := paperF_some hq
    obtain ⟨j, x, y, _, k1, k2, k3, k4, k5, e⟩ := hs
    have lx := h3 x (List.mem_of_getElem? k1)
    have ly := g3 y (List.mem_of_getElem? k2)
    have b := proofS_len 12 (second.map leafF) j
    have o1 : q.o.length ≤ 1000 := by rw [e]; show x.length ≤ _; omega
    have o2 : q.o2.length ≤ 1000 := by rw [e]; show y.length ≤ _; omega
    have o3 : q.p2.length ≤ 1000 := by rw [e]; show (proofS 12 (second.map leafF) j).length ≤ _; omega
    have a0 := st14_0 A s ds first second q h1 h2 h3 g1 g2 g3 hq p0 p3 p6 p11 p12 p13 p14 p15
    obtain ⟨ds', a, b, a1⟩ := st14_1 A s ds first second q h1 h2 g1 g2 o1 o2 o3 p0 p3 p6 p11 p12 p13 p14 p15
    have a2 := st14_2 A s ds' first second q h1 h2 g1 g2 o1 o2 p0 p3 p6 p11 a p13 p14 b
    refine ⟨ds', a, b, (gIf_tt (e := s :: dr ds :: [p0, some (.val (.lst (first.map itD))), some (.val (.lst (second.map itD))), p3, some (.val (.int (alikeI first second : Nat))), some (.val (Paper.D q)), p6, some (.val (.lst ((first.map leafF).map D.int))), some (.val (.lst ((second.map leafF).map D.int))), some (.val (.int (rootS 12 (first.map leafF)))), some (.val (.int (rootS 12 (second.map leafF)))), p11, p12, p13, p14, p15]) ?_).trans (gSeq_st a0 (gSeq_st a1 a2))⟩
    apply ok_eq
    · exact ev_of
    · rfl
    · rfl
theorem st15 (A : Ad) (s : Option T) (ds : List Int) (first second : List (List Int)) (h1 : 1 ≤ first.length) (h2 : first.length ≤ 34) (h3 : ∀ it ∈ first, it.length ≤ 2) (g1 : 1 ≤ second.length) (g2 : second.length ≤ 34) (g3 : ∀ it ∈ second, it.length ≤ 2) (p0 p3 p6 p11 p12 p13 p14 p15 : Option T) :
    ∃ q6 : Option T, l_law_1_15 A (s :: dr ds :: [p0, some (.val (.lst (first.map itD))), some (.val (.lst (second.map itD))), p3, some (.val (.int (alikeI first second : Nat))), some (.val (paperD (paperF first second))), p6, some (.val (.lst ((first.map leafF).map D.int))), some (.val (.lst ((second.map leafF).map D.int))), some (.val (.int (rootS 12 (first.map leafF)))), some (.val (.int (rootS 12 (second.map leafF)))), p11, p12, p13, p14, p15]) = .nx (s :: dr ds :: [p0, some (.val (.lst (first.map itD))), some (.val (.lst (second.map itD))), p3, some (.val (.int (alikeI first second : Nat))), some (.val (paperD (paperF first second))), q6, some (.val (.lst ((first.map leafF).map D.int))), some (.val (.lst ((second.map leafF).map D.int))), some (.val (.int (rootS 12 (first.map leafF)))), some (.val (.int (rootS 12 (second.map leafF)))), p11, p12, p13, p14, p15]) := by
  obtain ⟨e1, x1⟩ := run_fork_paper_e A [] (second.map itD) (.inl rfl)
  obtain ⟨e2, x2⟩ := run_fork_paper_e A (first.map itD) [] (.inr rfl)
  obtain ⟨e3, x3⟩ := run_takes_fork_e A (rootS 12 (first.map leafF)) 0 (rootS 12 (second.map leafF)) 1 (.tup [.int 0, .tup [], .tup [], .tup [.int 1], .tup []]) (.inl (by decide))
  obtain ⟨e4, x4⟩ := run_takes_fork_e A (rootS 12 (first.map leafF)) 1 (rootS 12 (second.map leafF)) 0 (.tup [.int 0, .tup [], .tup [], .tup [.int 1], .tup []]) (.inr (by decide))
  refine ⟨none, ?_⟩
  have hm : ∀ f, cat1 A.InvalidProof (Ex.mk A.InvalidProof f).C = some true := fun f => by simp [cat1]
  rw [l_law_1_15]
  apply lamsR_one
  · exact evexc_of
  · exact hm _
  apply lamsR_one
  · exact evexc_of
  · exact hm _
  apply lamsR_one
  · exact evexc_of
  · exact hm _
  apply lamsR_one
  · exact evexc_of
  · exact hm _
  rfl
end L94


namespace L94
open PySem PySem.Spec PyProof.Rows L2 DL
variable [Tabs]
theorem turn_ok (A : Ad) (s : Option T) (ds : List Int) (p0 p1 p2 p3 p4 p5 p6 p7 p8 p9 p10 p11 p12 p13 p14 p15 : Option T) :
    ∃ (ds' : List Int) (q0 q1 q2 q3 q4 q5 q6 q7 q8 q9 q10 q11 q12 q13 q14 q15 : Option T), l_law_1b A (s :: dr ds :: [p0, p1, p2, p3, p4, p5, p6, p7, p8, p9, p10, p11, p12, p13, p14, p15]) = .nx (s :: dr ds' :: [q0, q1, q2, q3, q4, q5, q6, q7, q8, q9, q10, q11, q12, q13, q14, q15]) := by
  obtain ⟨first, d0, a12, a13, f1, f2, f3, s0⟩ := st0 A s ds p0 p1 p2 p3 p4 p5 p6 p7 p8 p9 p10 p11 p12 p13 p14 p15
  obtain ⟨second, d1, a14, g1, g2, g3, s1⟩ := st1 A s d0 first f1 f2 p0 p2 p3 p4 p5 p6 p7 p8 p9 p10 p11 a12 a13 p14 p15
  obtain ⟨k, s2⟩ := st2 A s d1 p0 (some (.val (.lst (first.map itD)))) (some (.lst (second.map itD))) p3 p4 p5 p6 p7 p8 p9 p10 p11 a12 a13 a14 p15
  obtain ⟨sec2, d3, h1, h2, s3⟩ := st3 A s d1.dropLast second k g1 (by omega) (fun it hi => f3 it (g3 it hi)) p0 (some (.val (.lst (first.map itD)))) p4 p5 p6 p7 p8 p9 p10 p11 a12 a13 a14 p15
  obtain ⟨sec3, d4, b12, i1, i2, i3, s4⟩ := st4 A s d3 sec2 k (by omega) (by omega) h2 p0 (some (.val (.lst (first.map itD)))) p4 p5 p6 p7 p8 p9 p10 p11 a12 a13 a14 p15
  obtain ⟨f', s', t, ⟨u1, u2, u3⟩, ⟨v1, v2, v3⟩, ht, s5⟩ := st5 A s d4 first sec3 k f1 (by omega) f3 i1 i2 i3 p0 p4 p5 p6 p7 p8 p9 p10 p11 b12 a13 a14 p15
  have s6 := st6 A s d4 f' s' t ht u2 u3 v2 v3 p0 (some (.val (.int k))) p4 p5 p6 p7 p8 p9 p10 p11 b12 a13 a14 p15
  have s7 := st7 A s d4 f' s' u1 u2 v1 v2 p0 (some (.val (.int k))) p4 p5 p6 p9 p10 p11 b12 a13 (valO (valO a14)) p15
  have s9 := st9 A s d4 f' s' u1 u2 v1 v2 p0 (some (.val (.int k))) p5 p6 p11 b12 a13 (valO (valO a14)) p15
  have s11 := st11 A s d4 f' s' u1 u2 u3 v1 v2 v3 p0 (some (.val (.int k))) p6 p11 b12 a13 (valO (valO a14)) p15
  have s12 := st12 A s d4 f' s' u1 u2 u3 v1 v2 v3 p0 (some (.val (.int k))) p6 p11 b12 a13 (valO (valO a14)) p15
  obtain ⟨c11, s13⟩ := st13 A s d4 f' s' u1 u2 u3 v1 v2 v3 p0 (some (.val (.int k))) p6 p11 b12 a13 (valO (valO a14)) p15
  obtain ⟨d14, c12, c15, s14⟩ := st14 A s d4 f' s' u1 u2 u3 v1 v2 v3 p0 (some (.val (.int k))) p6 c11 b12 a13 (valO (valO a14)) p15
  obtain ⟨c6, s15⟩ := st15 A s d14 f' s' u1 u2 u3 v1 v2 v3 p0 (some (.val (.int k))) p6 c11 c12 a13 (valO (valO a14)) c15
  refine ⟨d14, p0, some (.val (.lst (f'.map itD))), some (.val (.lst (s'.map itD))), some (.val (.int k)), some (.val (.int (alikeI f' s' : Nat))), some (.val (paperD (paperF f' s'))), c6, some (.val (.lst ((f'.map leafF).map D.int))), some (.val (.lst ((s'.map leafF).map D.int))), some (.val (.int (rootS 12 (f'.map leafF)))), some (.val (.int (rootS 12 (s'.map leafF)))), c11, c12, a13, valO (valO a14), c15, ?_⟩
  rw [l_law_1b]
  exact gSeq_st s0 (gSeq_st s1 (gSeq_st s2 (gSeq_st s3 (gSeq_st s4 (gSeq_st s5 (gSeq_st s6 (gSeq_st s7 (gSeq_st (gSet_ok gC_ok) (gSeq_st s9 (gSeq_st (gSet_ok gC_ok) (gSeq_st s11 (gSeq_st s12 (gSeq_st s13 (gSeq_st s14 s15))))))))))))))
theorem law_true (A : Ad) (ns : List Int) (hl : ns.length ≤ 63) (hz : ∀ z ∈ ns, Builtin.Int.intBits z ≤ 1048576) : ∃ ts, F_law A [.val (.ro (ns.map D.int))] = .ok (.val (.bl true)) ts := by
  obtain ⟨d0, hd⟩ := run_draws 300 (by decide) ns
  have hd' : F__law_draws A [.val (.ro (ns.map D.int)), .val (.int 300)] = .ok (.lst (d0.map D.int)) [none, none] := hd
  have s0 : l_law_0 A [some (.val (.ro (ns.map D.int))), none, none, none, none, none, none, none, none, none, none, none, none, none, none, none, none, none] = .nx (some (.val (.ro (ns.map D.int))) :: dr d0 :: [none, none, none, none, none, none, none, none, none, none, none, none, none, none, none, none]) :=
    nx_eq (gSetT_ok (by exact ev_of)) rfl
  obtain ⟨e', ⟨ds', q0, q1, q2, q3, q4, q5, q6, q7, q8, q9, q10, q11, q12, q13, q14, q15, he⟩, hf⟩ := forD_inv (f := fName 2) (b := l_law_1b A) (P := fun e => ∃ (ds' : List Int) (q0 q1 q2 q3 q4 q5 q6 q7 q8 q9 q10 q11 q12 q13 q14 q15 : Option T), e = (some (.val (.ro (ns.map D.int))) :: dr ds' :: [q0, q1, q2, q3, q4, q5, q6, q7, q8, q9, q10, q11, q12, q13, q14, q15])) (rangeD 0 3) (some (.val (.ro (ns.map D.int))) :: dr d0 :: [none, none, none, none, none, none, none, none, none, none, none, none, none, none, none, none])
    (fun d hd e ⟨ds', q0, q1, q2, q3, q4, q5, q6, q7, q8, q9, q10, q11, q12, q13, q14, q15, he⟩ => by
      subst he
      obtain ⟨ds2, r0, r1, r2, r3, r4, r5, r6, r7, r8, r9, r10, r11, r12, r13, r14, r15, h⟩ := turn_ok A (some (.val (.ro (ns.map D.int)))) ds' (some (.val d)) q1 q2 q3 q4 q5 q6 q7 q8 q9 q10 q11 q12 q13 q14 q15
      exact ⟨_, _, rfl, h, ds2, r0, r1, r2, r3, r4, r5, r6, r7, r8, r9, r10, r11, r12, r13, r14, r15, rfl⟩) ⟨d0, none, none, none, none, none, none, none, none, none, none, none, none, none, none, none, none, rfl⟩
  subst he
  have s1 : l_law_1 A _ = _ := gFor_ok (gRng1_ok (j := 3) (k := gConsA (gC (.int 3)) gNilA) rfl (by rfl)) hf
  refine ⟨[none], ?_⟩
  unfold F_law bodyF m_law
  have e0 : List.map some [T.val (D.ro (ns.map D.int))] ++ List.replicate (18 - [T.val (D.ro (ns.map D.int))].length) none = [some (.val (.ro (ns.map D.int))), none, none, none, none, none, none, none, none, none, none, none, none, none, none, none, none, none] := rfl
  rw [e0, gSeq_nx s0, gSeq_nx s1]
  rfl
end L94


set_option maxHeartbeats 0
namespace L94
open PySem PySem.Spec PyProof.Rows L2 DL
def fn : List He.DefD := [dOf "sum_of" (topS 8), dOf "leaf_sum" (topS 9), dOf "joint_sum" (topS 10), dOf "cut_of" (topS 11), dOf "root_of" (topS 12), dOf "item_proof" (topS 13), dOf "climbed" (topS 14), dOf "takes_item" (topS 15), dOf "fork_index" (topS 17), dOf "fork_paper" (topS 18), dOf "takes_fork" (topS 19), dOf "_law_draws" (topS 21), dOf "_law_take" (topS 22), dOf "_law_same" (topS 23), dOf "_law_sum" (topS 24), dOf "_law_leaf" (topS 25), dOf "_law_joint" (topS 26), dOf "_law_cut" (topS 27), dOf "_law_root" (topS 28), dOf "_law_proof" (topS 29), dOf "_law_climb" (topS 30), dOf "_law_takes" (topS 31), dOf "_law_is_fork" (topS 32), dOf "_law_bent" (topS 33), dOf "law" (topS 35), dOf "_law_is_refused" (topS 34)]
def fa : List He.Fa := [.glo "sum_of", .glo "leaf_sum", .glo "joint_sum", .glo "cut_of", .glo "root_of", .glo "item_proof", .glo "climbed", .glo "takes_item", .glo "fork_index", .glo "fork_paper", .glo "takes_fork", .glo "_law_draws", .glo "_law_take", .glo "_law_same", .glo "_law_sum", .glo "_law_leaf", .glo "_law_joint", .glo "_law_cut", .glo "_law_root", .glo "_law_proof", .glo "_law_climb", .glo "_law_takes", .glo "_law_is_fork", .glo "_law_bent", .glo "law", .glo "_law_is_refused", .free "all", .free "bool", .free "dict", .free "enumerate", .free "int", .free "isinstance", .free "len", .free "list", .free "min", .free "range", .free "str", .free "tuple", .free "zip", .int "FIRST" 7, .int "FACTOR" 263, .int "MODULUS" 34359738337, .int "DIGITS" 5, .glo "InvalidProof", .exc "InvalidProof", .exm "InvalidProof" "InvalidProof" true]
def tf : List He.Defn := [("law", none)]
def names : List Str := ["__name__", "ArchiveError", "InvalidProof", "FIRST", "FACTOR", "MODULUS", "DIGITS", "sum_of", "leaf_sum", "joint_sum", "cut_of", "root_of", "item_proof", "climbed", "takes_item", "fork_index", "fork_paper", "takes_fork", "_law_draws", "_law_take", "_law_same", "_law_sum", "_law_leaf", "_law_joint", "_law_cut", "_law_root", "_law_proof", "_law_climb", "_law_takes", "_law_is_fork", "_law_bent", "_law_is_refused"]
abbrev Rw : PySem.W.OpenRow := PySem.W.OpenLaw.row PySem.Challenge.rw_paperark_k94_forks
abbrev hk : PySem.W.Hook := He.hookX 6 fa fn [] tf (fun _ => true)
def ob (s : PySem.W.SharedT) : He.AlX := He.obsX 6 fa fn [] tf (fun _ => true) (HandSHeadRun.getT s)
theorem ob_eq (s : PySem.W.SharedT) : ob s = hk.obs s.abs := He.obsX_eq (HandSHeadRun.getT_eq s)
theorem run (w : World) : HandSHeadRun.RunEq Rw (PySem.W.view Rw.prog [35]) hk ob 4000 names w := by
  intro os
  kernel_rfl
def adOf (K : PySem.W.Frag) : Ad := { InvalidProof := He.ga K "InvalidProof" }
theorem txt_of [Tabs] {K : PySem.W.Frag} {h base : Heap} {mg : Str → Option Value} (X : K.In h) (G : h.Ns mainGlobals mg) (c : He.SaysD fa fn K) (tb : ∀ p ∈ tf, LamX.TabB base mg (He.cT K p).1 (He.cT K p).2) (hT : ∀ p ∈ tf, ((He.cT K p).2, p.1 ++ ".<locals>." ++ "<lambda>") ∈ (Tabs.T : List (Addr × Str))) : Txt K mg base (adOf K) where
  d_sum_of := df_of X G c (by simp [fa]) (by simp [fn]) (fun _ _ _ _ _ _ us hl => match us, hl with | [_], _ => rfl)
  d_leaf_sum := df_of X G c (by simp [fa]) (by simp [fn]) (fun _ _ _ _ _ _ us hl => match us, hl with | [_], _ => rfl)
  d_joint_sum := df_of X G c (by simp [fa]) (by simp [fn]) (fun _ _ _ _ _ _ us hl => match us, hl with | [_, _], _ => rfl)
  d_cut_of := df_of X G c (by simp [fa]) (by simp [fn]) (fun _ _ _ _ _ _ us hl => match us, hl with | [_], _ => rfl)
  d_root_of := df_of X G c (by simp [fa]) (by simp [fn]) (fun _ _ _ _ _ _ us hl => match us, hl with | [_], _ => rfl)
  d_item_proof := df_of X G c (by simp [fa]) (by simp [fn]) (fun _ _ _ _ _ _ us hl => match us, hl with | [_, _], _ => rfl)
  d_climbed := df_of X G c (by simp [fa]) (by simp [fn]) (fun _ _ _ _ _ _ us hl => match us, hl with | [_, _, _, _], _ => rfl)
  d_takes_item := df_of X G c (by simp [fa]) (by simp [fn]) (fun _ _ _ _ _ _ us hl => match us, hl with | [_, _, _, _, _], _ => rfl)
  d_fork_index := df_of X G c (by simp [fa]) (by simp [fn]) (fun _ _ _ _ _ _ us hl => match us, hl with | [_, _], _ => rfl)
  d_fork_paper := df_of X G c (by simp [fa]) (by simp [fn]) (fun _ _ _ _ _ _ us hl => match us, hl with | [_, _], _ => rfl)
  d_takes_fork := df_of X G c (by simp [fa]) (by simp [fn]) (fun _ _ _ _ _ _ us hl => match us, hl with | [_, _, _, _, _], _ => rfl)
  d__law_draws := df_of X G c (by simp [fa]) (by simp [fn]) (fun _ _ _ _ _ _ us hl => match us, hl with | [_, _], _ => rfl)
  d__law_take := df_of X G c (by simp [fa]) (by simp [fn]) (fun _ _ _ _ _ _ us hl => match us, hl with | [_, _], _ => rfl)
  d__law_same := df_of X G c (by simp [fa]) (by simp [fn]) (fun _ _ _ _ _ _ us hl => match us, hl with | [_, _], _ => rfl)
  d__law_sum := df_of X G c (by simp [fa]) (by simp [fn]) (fun _ _ _ _ _ _ us hl => match us, hl with | [_], _ => rfl)
  d__law_leaf := df_of X G c (by simp [fa]) (by simp [fn]) (fun _ _ _ _ _ _ us hl => match us, hl with | [_], _ => rfl)
  d__law_joint := df_of X G c (by simp [fa]) (by simp [fn]) (fun _ _ _ _ _ _ us hl => match us, hl with | [_, _], _ => rfl)
  d__law_cut := df_of X G c (by simp [fa]) (by simp [fn]) (fun _ _ _ _ _ _ us hl => match us, hl with | [_], _ => rfl)
  d__law_root := df_of X G c (by simp [fa]) (by simp [fn]) (fun _ _ _ _ _ _ us hl => match us, hl with | [_], _ => rfl)
  d__law_proof := df_of X G c (by simp [fa]) (by simp [fn]) (fun _ _ _ _ _ _ us hl => match us, hl with | [_, _], _ => rfl)
  d__law_climb := df_of X G c (by simp [fa]) (by simp [fn]) (fun _ _ _ _ _ _ us hl => match us, hl with | [_, _, _, _], _ => rfl)
  d__law_takes := df_of X G c (by simp [fa]) (by simp [fn]) (fun _ _ _ _ _ _ us hl => match us, hl with | [_, _, _, _, _], _ => rfl)
  d__law_is_fork := df_of X G c (by simp [fa]) (by simp [fn]) (fun _ _ _ _ _ _ us hl => match us, hl with | [_, _, _, _, _], _ => rfl)
  d__law_bent := df_of X G c (by simp [fa]) (by simp [fn]) (fun _ _ _ _ _ _ us hl => match us, hl with | [_, _], _ => rfl)
  d_law := df_of X G c (by simp [fa]) (by simp [fn]) (fun _ _ _ _ _ _ us hl => match us, hl with | [_], _ => rfl)
  b_all := free_of X G c (by simp [fa])
  b_bool := free_of X G c (by simp [fa])
  b_dict := free_of X G c (by simp [fa])
  b_enumerate := free_of X G c (by simp [fa])
  b_int := free_of X G c (by simp [fa])
  b_isinstance := free_of X G c (by simp [fa])
  b_len := free_of X G c (by simp [fa])
  b_list := free_of X G c (by simp [fa])
  b_min := free_of X G c (by simp [fa])
  b_range := free_of X G c (by simp [fa])
  b_str := free_of X G c (by simp [fa])
  b_tuple := free_of X G c (by simp [fa])
  b_zip := free_of X G c (by simp [fa])
  c_FIRST := gd_int X G c (by simp [fa])
  c_FACTOR := gd_int X G c (by simp [fa])
  c_MODULUS := gd_int X G c (by simp [fa])
  c_DIGITS := gd_int X G c (by simp [fa])
  x_InvalidProof := xc_of X G c (by simp [fa]) (by simp [fa])
  e_InvalidProof_InvalidProof := exm_of c (by simp [fa])
  r__law_is_refused := ref_of X G c (by simp [fa]) (by simp [fn]) (fun _ _ _ _ _ _ us hl => match us, hl with | [_], _ => rfl)
  k_law := mkf_of X G c (by simp [fa]) (by simp [fn]) (tb _ (by simp [tf])) (hT ("law", none) (by simp [tf]))
theorem all_ok [Tabs] {P : Program} {w : World} {K : PySem.W.Frag} {base : Heap} {mg : Str → Option Value} {A : Ad} (Tx : Txt K mg base A) : Cl P w K mg base 30 "law" ["script"] (F_law A) := by
  have k_sum_of := ok_sum_of (P := P) (w := w) Tx
  have k_leaf_sum := ok_leaf_sum (P := P) (w := w) Tx k_sum_of
  have k_joint_sum := ok_joint_sum (P := P) (w := w) Tx k_sum_of
  have k_cut_of := ok_cut_of (P := P) (w := w) Tx
  have k_root_of := ok_root_of (P := P) (w := w) Tx k_leaf_sum k_cut_of k_joint_sum 12
  have k_item_proof := ok_item_proof (P := P) (w := w) Tx k_cut_of k_root_of 12
  have k_climbed := ok_climbed (P := P) (w := w) Tx k_cut_of k_joint_sum 12
  have k_takes_item := ok_takes_item (P := P) (w := w) Tx k_leaf_sum k_climbed
  have k_fork_index := ok_fork_index (P := P) (w := w) Tx
  have k_fork_paper := ok_fork_paper (P := P) (w := w) Tx k_fork_index k_item_proof
  have k_takes_fork := ok_takes_fork (P := P) (w := w) Tx k_takes_item
  have k__law_draws := ok__law_draws (P := P) (w := w) Tx
  have k__law_take := ok__law_take (P := P) (w := w) Tx
  have k__law_same := ok__law_same (P := P) (w := w) Tx 4
  have k__law_sum := ok__law_sum (P := P) (w := w) Tx
  have k__law_leaf := ok__law_leaf (P := P) (w := w) Tx k__law_sum
  have k__law_joint := ok__law_joint (P := P) (w := w) Tx k__law_sum
  have k__law_cut := ok__law_cut (P := P) (w := w) Tx
  have k__law_root := ok__law_root (P := P) (w := w) Tx k__law_cut k__law_joint 12
  have k__law_proof := ok__law_proof (P := P) (w := w) Tx k__law_cut k__law_root 12
  have k__law_climb := ok__law_climb (P := P) (w := w) Tx k__law_cut k__law_joint 12
  have k__law_takes := ok__law_takes (P := P) (w := w) Tx k__law_leaf k__law_climb
  have k__law_is_fork := ok__law_is_fork (P := P) (w := w) Tx k__law_takes
  have k__law_bent := ok__law_bent (P := P) (w := w) Tx k__law_take
  have k_law := ok_law (P := P) (w := w) Tx k__law_draws k__law_take k__law_leaf k__law_root k__law_proof k_fork_paper k__law_same k_takes_fork k__law_bent k__law_is_fork
  exact k_law
theorem law_at {w : World} {K : PySem.W.Frag} {h : Heap} {mg : Str → Option Value} {f : Addr} (X : K.In h) (G : h.Ns mainGlobals mg) (hmg : mg "law" = some (.ref f)) (c : He.SaysX fa fn [] tf (fun _ => true) w h K) :
    LamX.LawAtS PySem.Challenge.rw_paperark_k94_forks w K (L2.CX (PySem.Challenge.rw_paperark_k94_forks).prog w) 30 63 "script" mg f h := by
  letI : Tabs := ⟨tf.map fun p => ((He.cT K p).2, p.1 ++ ".<locals>." ++ "<lambda>")⟩
  have memT : ∀ p ∈ tf, ((He.cT K p).2, p.1 ++ ".<locals>." ++ "<lambda>") ∈ (Tabs.T : List (Addr × Str)) := fun p hp => List.mem_map.mpr ⟨p, hp, rfl⟩
  have nd : ((Tabs.T : List (Addr × Str)).map (·.1)).Nodup := by
    show ((tf.map fun p => ((He.cT K p).2, p.1 ++ ".<locals>." ++ "<lambda>")).map (·.1)).Nodup
    simp [tf]
  obtain ⟨fd, F⟩ := c.t.d.defs (d := dOf "law" s_law) (by simp [fn])
  have F' : Fun K "law" "law" s_law (He.ga K "law") fd := fun_of F
  have eg : mg "law" = some (.ref (He.ga K "law")) := He.glo_ok X G (c.t.d.facts (by simp [fa]))
  rw [hmg] at eg
  cases eg
  have B : Binds K fd ["script"] [] := F'.binds (fun _ _ _ _ _ _ us hl => match us, hl with | [_], _ => rfl)
  have inT : ∀ q ∈ tf.map (He.cT K), ∃ p ∈ tf, He.cT K p = q := fun q hq => by
    obtain ⟨p, hp, e⟩ := List.mem_map.mp hq
    exact ⟨p, hp, e⟩
  refine ⟨fd, tf.map (He.cT K), spD K 1 (F_law (adOf K)), fun q hq => ?_, fun q hq => ?_, fun q hq => ?_, fun s u => ?_, fun H a ns hl hz hT hS => ?_, fun base KX Gb tb => ?_⟩
  · obtain ⟨p, hp, rfl⟩ := inT q hq
    exact c.empty p hp
  · obtain ⟨p, hp, rfl⟩ := inT q hq
    exact c.out p hp
  · obtain ⟨p, hp, rfl⟩ := inT q hq
    exact PySem.W.codeHd_of_K X (c.hd p hp)
  · exact (FunD.bindsA (ps := ["script"]) F fun _ _ _ _ _ _ us hl => match us, hl with | [_], _ => rfl) s [u] rfl
  · refine law_sp nd (law_true (adOf K) ns hl hz) (fun q hq => ?_) hS (fun _ => rfl)
    obtain ⟨p, hp, rfl⟩ := List.mem_map.mp (show q ∈ tf.map fun p => ((He.cT K p).2, p.1 ++ ".<locals>." ++ "<lambda>") from hq)
    exact hT _ (List.mem_map.mpr ⟨p, hp, rfl⟩)
  · have Tx : Txt K mg base (adOf K) := txt_of KX Gb c.t.d (fun p hp => tb _ (List.mem_map.mpr ⟨p, hp, rfl⟩)) memT
    obtain ⟨f, fd2, h1, h2, h3, h4, oc, od, osl, h5⟩ := all_ok (P := (PySem.Challenge.rw_paperark_k94_forks).prog) (w := w) Tx
    rw [hmg] at h1
    cases h1
    obtain ⟨oc2, od2, osl2, h6⟩ := fun_lk F'
    rw [h5] at h6
    cases h6
    exact h4
end L94
open PySem PySem.W PySem.Calls PyProof.Rows
theorem PySem.Challenge.cw_paperark_k94_forks_holds : PySem.Challenge.rw_paperark_k94_forks.Holds := by
  w_on; o_law
  refine HandSHeadRun.head_any (r := OpenLaw.row PySem.Challenge.rw_paperark_k94_forks) (q := view (OpenLaw.row PySem.Challenge.rw_paperark_k94_forks).prog [35]) (H := L94.hk) (ob := L94.ob) (M := 4000) (loose := L94.names) (d := HandSHeadRun.topDef (OpenLaw.row PySem.Challenge.rw_paperark_k94_forks).prog 35) (kwd := []) L94.ob_eq
    (by kernel_rfl) (fun s => by kernel_rfl) L94.run (by kernel_rfl) (by kernel_rfl) (by kernel_rfl) (by rfl) (by first | assumption | decide +kernel) (by decide +kernel) ⟨rfl, rfl, rfl, rfl, rfl, by decide +kernel⟩ ?hw ?hc
  case hw => w_witness2
  case hc =>
    refine LamX.walk_ofTsE (l := PySem.Challenge.rw_paperark_k94_forks) (n := 63) (k := 30) (x := "script") (CX := fun w => L2.CX (PySem.Challenge.rw_paperark_k94_forks).prog w) rfl (by decide) (by kernel_rfl) ⟨rfl, by decide, by decide⟩ ?F (fun w H s e s' z => z.choose_spec.choose_spec.choose_spec.choose_spec.choose_spec.2.2.2.2.2.2.2)
    intro w mg fa h Y G hmg0
    obtain ⟨K, KX, c⟩ := Y
    have hmg : mg ("law" : PySem.Str) = some (.ref fa) := by
      have e : (HandSHeadRun.topDef (OpenLaw.row PySem.Challenge.rw_paperark_k94_forks).prog 35).name = ("law" : PySem.Str) := by kernel_rfl
      rw [← e]
      exact hmg0
    exact ⟨K, KX, L94.law_at KX G hmg c⟩

