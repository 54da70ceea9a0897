import PyProof.Rows.All
import Wide.All
import OpenK.AllK
import Wide.FinOn
import HandS.ForExc
import HandS.ForMost
import HandS.IsInst
import HandS.Evl
import HandS.Walk
import HandS.Lambda
import HandS.Wide
import HandS.SetFor
import HandS.Conv
import HandS.Style
import HandS.List
import OpenK.KMake
import HandS.Dict
import HandS.ExcCtx
import HandS.HotCalls
import HandS.ExcIs
import HandS.WordsExc
import HandS.ForList
import HandS.EndOwn
import KE.RegKIsAll
import PySem.Challenge.RW_leadround_k09_refused
set_option Elab.async false
set_option linter.all false
set_option maxRecDepth 100000
set_option maxHeartbeats 4000000
set_option autoImplicit false
/-! A layer of data over the readings: what an expression is worth by the data of the names, whatever the heap. -/
namespace Lr
open PySem L2
open Evl (Ex)

/-! ### data -/
inductive Pd where
  | non | bl (b : Bool) | int (i : Int) | str (x : Str) | lst (ds : List Pd) | tup (ds : List Pd) | scr (ns : List Int) | raw (v : V) | obj (C : Addr) (ns : List Str) (ds : List Pd) | dic (kvs : List (Int × Int)) | lam (q : Str) (params : Arguments) (body : Expr) (scope : Scope)

/-- a list to be read: tracked or known, not in M; or of the written part -/
def SqM (K : PySem.W.Frag) (M : List Addr) (H : Hp) (a : Addr) (xs : List V) : Prop := (a ∉ M ∧ Rd H a (.lst xs)) ∨
    ∃ (o : Obj) (its : Array Value) (n : Nat), K.lookup a = some o ∧ o.cls = .type "list" ∧ o.dict = none ∧ o.data = .seq its n ∧ its.size ≤ sizeLine ∧ Vals xs its.toList
theorem SqM.sq {K : PySem.W.Frag} {M : List Addr} {H : Hp} {a : Addr} {xs : List V} (h : SqM K M H a xs) : SqL K H a xs := by
  rcases h with h | h
  · exact .inl h.2
  · exact .inr h
/-- a dict of whole numbers -/
def kvP (kvs : List (Int × Int)) : List (L2.Key × V) := kvs.map fun p => (Sum.inl p.1, V.int p.2)
/-- a lambda's object -/
def LamO (f c : Addr) (q : Str) (params : Arguments) (body : Expr) (scope : Scope) : HO := .ext fun h => ∃ (pm ctv : Value), h.get? f = some (PySem.W.kla_obj "<lambda>" q params body scope [] pm c ctv)
mutual
inductive Dt (K : PySem.W.Frag) (M : List Addr) (H : Hp) : V → Pd → Prop
  | non : Dt K M H .non .non
  | bl (b : Bool) : Dt K M H (.bl b) (.bl b)
  | int (i : Int) : Dt K M H (.int i) (.int i)
  | str (x : Str) : Dt K M H (.str x) (.str x)
  | lst {a : Addr} {xs : List V} {ds : List Pd} : a ∉ M → H a = some (.lst xs) → DtAll K M H xs ds → Dt K M H (.ref a) (.lst ds)
  | tup {a : Addr} {xs : List V} {ds : List Pd} : a ∉ M → H a = some (.tup xs) → DtAll K M H xs ds → Dt K M H (.ref a) (.tup ds)
  | scr {a : Addr} {ns : List Int} : SqM K M H a (ns.map V.int) → Dt K M H (.ref a) (.scr ns)
  | raw (v : V) : Dt K M H v (.raw v)
  | obj {a C dx : Addr} {fs : List (Str × V)} {ds : List Pd} : a ∉ M → H a = some (.ins C dx fs) → DtAll K M H (fs.map (·.2)) ds → Dt K M H (.ref a) (.obj C (fs.map (·.1)) ds)
  | dic {a : Addr} {kvs : List (Int × Int)} : a ∉ M → H a = some (.dK (kvP kvs)) → Dt K M H (.ref a) (.dic kvs)
  | lam {a c : Addr} {q : Str} {params : Arguments} {body : Expr} {scope : Scope} : a ∉ M → c ∉ M → H a = some (LamO a c q params body scope) → H c = some (LamX.CodeO c q) → Dt K M H (.ref a) (.lam q params body scope)
inductive DtAll (K : PySem.W.Frag) (M : List Addr) (H : Hp) : List V → List Pd → Prop
  | nil : DtAll K M H [] []
  | cons {v : V} {vs : List V} {d : Pd} {ds : List Pd} : Dt K M H v d → DtAll K M H vs ds → DtAll K M H (v :: vs) (d :: ds)
end

/-- all but what stands in M is as it was -/
def ExM (M : List Addr) (H H' : Hp) : Prop := ∀ a o, a ∉ M → H a = some o → H' a = some o
def Al (M : List Addr) (H : Hp) : Prop := ∀ a ∈ M, ∃ o, H a = some o
section
variable {K : PySem.W.Frag} {M M' : List Addr} {H H' : Hp}
theorem exM (e : Ex H H') : ExM M H H' := fun a o _ h => e a o h
theorem ExM.trans {H1 : Hp} (a : ExM M H H1) (b : ExM M H1 H') : ExM M H H' := fun x o hx h => b x o hx (a x o hx h)
theorem ExM.upd {l : Addr} {o : HO} (h : l ∈ M) : ExM M H (L2.upd H l o) := fun a u ha e => by
  rw [upd_ne (show a ≠ l from fun z => ha (by rw [z]; exact h))]
  exact e
theorem Al.mono (a : Al M H) (e : Ex H H') : Al M H' := fun x hx => by
  obtain ⟨o, h⟩ := a x hx
  exact ⟨o, e x o h⟩
theorem Al.upd {l : Addr} {o : HO} (a : Al M H) : Al M (L2.upd H l o) := fun x hx => by
  by_cases h : x = l
  · exact ⟨o, by rw [h]; exact upd_same⟩
  · rw [upd_ne h]
    exact a x hx
theorem Al.nw {p : Addr} (a : Al M H) (h : H p = none) : p ∉ M := fun hx => by
  obtain ⟨o, e⟩ := a p hx
  rw [h] at e
  cases e
theorem Al.nil : Al [] H := fun _ h => by simp at h
mutual
theorem Dt.monoM (e : ExM M H H') : ∀ (d : Pd) (v : V), Dt K M H v d → Dt K M H' v d
  | .non, _, h => by cases h; exact .non
  | .bl _, _, h => by cases h; exact .bl _
  | .int _, _, h => by cases h; exact .int _
  | .str _, _, h => by cases h; exact .str _
  | .lst ds, _, h => by
    cases h with
    | lst h0 h1 h2 => exact .lst h0 (e _ _ h0 h1) (DtAll.monoM e ds _ h2)
  | .tup ds, _, h => by
    cases h with
    | tup h0 h1 h2 => exact .tup h0 (e _ _ h0 h1) (DtAll.monoM e ds _ h2)
  | .scr ns, _, h => by
    cases h with
    | scr h1 => exact .scr (by
        rcases h1 with ⟨h0, h1 | ⟨o, h1⟩⟩ | h1
        · exact .inl ⟨h0, .inl (e _ _ h0 h1)⟩
        · exact .inl ⟨h0, .inr ⟨o, e _ _ h0 h1⟩⟩
        · exact .inr h1)
  | .raw v, _, h => by cases h; exact .raw _
  | .obj C ns ds, _, h => by
    cases h with
    | obj h0 h1 h2 => exact .obj h0 (e _ _ h0 h1) (DtAll.monoM e ds _ h2)
  | .dic kvs, _, h => by
    cases h with
    | dic h0 h1 => exact .dic h0 (e _ _ h0 h1)
  | .lam _ _ _ _, _, h => by
    cases h with
    | lam h0 h1 h2 h3 => exact .lam h0 h1 (e _ _ h0 h2) (e _ _ h1 h3)
theorem DtAll.monoM (e : ExM M H H') : ∀ (ds : List Pd) (vs : List V), DtAll K M H vs ds → DtAll K M H' vs ds
  | [], _, h => by cases h; exact .nil
  | d :: ds, _, h => by
    cases h with
    | cons h1 h2 => exact .cons (Dt.monoM e d _ h1) (DtAll.monoM e ds _ h2)
end
theorem Dt.mono (e : Ex H H') (d : Pd) (v : V) (h : Dt K M H v d) : Dt K M H' v d := Dt.monoM (exM e) d v h
theorem DtAll.mono (e : Ex H H') (ds : List Pd) (vs : List V) (h : DtAll K M H vs ds) : DtAll K M H' vs ds := DtAll.monoM (exM e) ds vs h
mutual
theorem Dt.less (e : ∀ a, a ∈ M' → a ∈ M) : ∀ (d : Pd) (v : V), Dt K M H v d → Dt K M' H v d
  | .non, _, h => by cases h; exact .non
  | .bl _, _, h => by cases h; exact .bl _
  | .int _, _, h => by cases h; exact .int _
  | .str _, _, h => by cases h; exact .str _
  | .lst ds, _, h => by
    cases h with
    | lst h0 h1 h2 => exact .lst (fun z => h0 (e _ z)) h1 (DtAll.less e ds _ h2)
  | .tup ds, _, h => by
    cases h with
    | tup h0 h1 h2 => exact .tup (fun z => h0 (e _ z)) h1 (DtAll.less e ds _ h2)
  | .scr ns, _, h => by
    cases h with
    | scr h1 => exact .scr (by
        rcases h1 with ⟨h0, h1⟩ | h1
        · exact .inl ⟨fun z => h0 (e _ z), h1⟩
        · exact .inr h1)
  | .raw v, _, h => by cases h; exact .raw _
  | .obj C ns ds, _, h => by
    cases h with
    | obj h0 h1 h2 => exact .obj (fun z => h0 (e _ z)) h1 (DtAll.less e ds _ h2)
  | .dic kvs, _, h => by
    cases h with
    | dic h0 h1 => exact .dic (fun z => h0 (e _ z)) h1
  | .lam _ _ _ _, _, h => by
    cases h with
    | lam h0 h1 h2 h3 => exact .lam (fun z => h0 (e _ z)) (fun z => h1 (e _ z)) h2 h3
theorem DtAll.less (e : ∀ a, a ∈ M' → a ∈ M) : ∀ (ds : List Pd) (vs : List V), DtAll K M H vs ds → DtAll K M' H vs ds
  | [], _, h => by cases h; exact .nil
  | d :: ds, _, h => by
    cases h with
    | cons h1 h2 => exact .cons (Dt.less e d _ h1) (DtAll.less e ds _ h2)
end

mutual
theorem Dt.chg (e : ∀ a, a ∈ M' → a ∈ M ∨ H a = none) : ∀ (d : Pd) (v : V), Dt K M H v d → Dt K M' H v d
  | .non, _, h => by cases h; exact .non
  | .bl _, _, h => by cases h; exact .bl _
  | .int _, _, h => by cases h; exact .int _
  | .str _, _, h => by cases h; exact .str _
  | .lst ds, _, h => by
    cases h with
    | lst h0 h1 h2 => exact .lst (fun z => (e _ z).elim h0 fun y => absurd (h1.symm.trans y) nofun) h1 (DtAll.chg e ds _ h2)
  | .tup ds, _, h => by
    cases h with
    | tup h0 h1 h2 => exact .tup (fun z => (e _ z).elim h0 fun y => absurd (h1.symm.trans y) nofun) h1 (DtAll.chg e ds _ h2)
  | .scr ns, _, h => by
    cases h with
    | scr h1 => exact .scr (by
        rcases h1 with ⟨h0, h1⟩ | h1
        · refine .inl ⟨fun z => (e _ z).elim h0 fun y => ?_, h1⟩
          rcases h1 with h1 | ⟨o, h1⟩
          · exact absurd (h1.symm.trans y) nofun
          · exact absurd (h1.symm.trans y) nofun
        · exact .inr h1)
  | .raw v, _, h => by cases h; exact .raw _
  | .obj C ns ds, _, h => by
    cases h with
    | obj h0 h1 h2 => exact .obj (fun z => (e _ z).elim h0 fun y => absurd (h1.symm.trans y) nofun) h1 (DtAll.chg e ds _ h2)
  | .dic kvs, _, h => by
    cases h with
    | dic h0 h1 => exact .dic (fun z => (e _ z).elim h0 fun y => absurd (h1.symm.trans y) nofun) h1
  | .lam _ _ _ _, _, h => by
    cases h with
    | lam h0 h1 h2 h3 => exact .lam (fun z => (e _ z).elim h0 fun y => absurd (h2.symm.trans y) nofun) (fun z => (e _ z).elim h1 fun y => absurd (h3.symm.trans y) nofun) h2 h3
theorem DtAll.chg (e : ∀ a, a ∈ M' → a ∈ M ∨ H a = none) : ∀ (ds : List Pd) (vs : List V), DtAll K M H vs ds → DtAll K M' H vs ds
  | [], _, h => by cases h; exact .nil
  | d :: ds, _, h => by
    cases h with
    | cons h1 h2 => exact .cons (Dt.chg e d _ h1) (DtAll.chg e ds _ h2)
end
mutual
theorem Dt.more {p : Addr} (e : H p = none) : ∀ (d : Pd) (v : V), Dt K M H v d → Dt K (p :: M) H v d
  | .non, _, h => by cases h; exact .non
  | .bl _, _, h => by cases h; exact .bl _
  | .int _, _, h => by cases h; exact .int _
  | .str _, _, h => by cases h; exact .str _
  | .lst ds, _, h => by
    cases h with
    | lst h0 h1 h2 => exact .lst (fun z => (List.mem_cons.mp z).elim (ne_of_none h1 e) h0) h1 (DtAll.more e ds _ h2)
  | .tup ds, _, h => by
    cases h with
    | tup h0 h1 h2 => exact .tup (fun z => (List.mem_cons.mp z).elim (ne_of_none h1 e) h0) h1 (DtAll.more e ds _ h2)
  | .scr ns, _, h => by
    cases h with
    | scr h1 => exact .scr (by
        rcases h1 with ⟨h0, h1⟩ | h1
        · refine .inl ⟨fun z => (List.mem_cons.mp z).elim (fun q => ?_) h0, h1⟩
          rcases h1 with h1 | ⟨o, h1⟩
          · exact ne_of_none h1 e q
          · exact ne_of_none h1 e q
        · exact .inr h1)
  | .raw v, _, h => by cases h; exact .raw _
  | .obj C ns ds, _, h => by
    cases h with
    | obj h0 h1 h2 => exact .obj (fun z => (List.mem_cons.mp z).elim (ne_of_none h1 e) h0) h1 (DtAll.more e ds _ h2)
  | .dic kvs, _, h => by
    cases h with
    | dic h0 h1 => exact .dic (fun z => (List.mem_cons.mp z).elim (ne_of_none h1 e) h0) h1
  | .lam _ _ _ _, _, h => by
    cases h with
    | lam h0 h1 h2 h3 => exact .lam (fun z => (List.mem_cons.mp z).elim (ne_of_none h2 e) h0) (fun z => (List.mem_cons.mp z).elim (ne_of_none h3 e) h1) h2 h3
theorem DtAll.more {p : Addr} (e : H p = none) : ∀ (ds : List Pd) (vs : List V), DtAll K M H vs ds → DtAll K (p :: M) H vs ds
  | [], _, h => by cases h; exact .nil
  | d :: ds, _, h => by
    cases h with
    | cons h1 h2 => exact .cons (Dt.more e d _ h1) (DtAll.more e ds _ h2)
end
end
section
variable {K : PySem.W.Frag} {M : List Addr} {H H' : Hp}
theorem DtAll.length : ∀ {vs : List V} {ds : List Pd}, DtAll K M H vs ds → vs.length = ds.length
  | _, _, .nil => rfl
  | _, _, .cons _ h => by rw [List.length_cons, List.length_cons, DtAll.length h]
theorem DtAll.app : ∀ {vs ws : List V} {ds es : List Pd}, DtAll K M H vs ds → DtAll K M H ws es → DtAll K M H (vs ++ ws) (ds ++ es)
  | _, _, _, _, .nil, h => h
  | _, _, _, _, .cons a b, h => .cons a (DtAll.app b h)
theorem DtAll.drop : ∀ {vs : List V} {ds : List Pd} (n : Nat), DtAll K M H vs ds → DtAll K M H (vs.drop n) (ds.drop n)
  | _, _, 0, h => h
  | _, _, _ + 1, .nil => .nil
  | _, _, n + 1, .cons _ h => DtAll.drop n h
theorem DtAll.take : ∀ {vs : List V} {ds : List Pd} (n : Nat), DtAll K M H vs ds → DtAll K M H (vs.take n) (ds.take n)
  | _, _, 0, _ => .nil
  | _, _, _ + 1, .nil => .nil
  | _, _, n + 1, .cons a h => .cons a (DtAll.take n h)
theorem DtAll.get : ∀ {vs : List V} {ds : List Pd} {i : Nat} {d : Pd}, DtAll K M H vs ds → ds[i]? = some d → ∃ v, vs[i]? = some v ∧ Dt K M H v d
  | _, _, _, _, .nil, h => by simp at h
  | _, _, 0, _, .cons a _, h => by
    simp at h
    subst h
    exact ⟨_, rfl, a⟩
  | _, _, i + 1, _, .cons _ b, h => by
    obtain ⟨v, h1, h2⟩ := DtAll.get (i := i) b (by simpa using h)
    exact ⟨v, by simpa using h1, h2⟩
theorem DtAll.getV : ∀ {vs : List V} {ds : List Pd} {i : Nat} {v : V}, DtAll K M H vs ds → vs[i]? = some v → ∃ d, ds[i]? = some d ∧ Dt K M H v d
  | _, _, _, _, .nil, h => by simp at h
  | _, _, 0, _, .cons a _, h => by
    simp at h
    subst h
    exact ⟨_, rfl, a⟩
  | _, _, i + 1, _, .cons _ b, h => by
    obtain ⟨d, h1, h2⟩ := DtAll.getV (i := i) b (by simpa using h)
    exact ⟨d, by simpa using h1, h2⟩
theorem DtAll.rep {vs : List V} {ds : List Pd} (h : DtAll K M H vs ds) : ∀ n : Nat, DtAll K M H (List.replicate n vs).flatten (List.replicate n ds).flatten
  | 0 => .nil
  | n + 1 => by
    rw [List.replicate_succ, List.replicate_succ, List.flatten_cons, List.flatten_cons]
    exact h.app (DtAll.rep h n)
/-- ints -/
abbrev dL (ns : List Int) : Pd := .lst (ns.map .int)
abbrev dR (r : List Int × List Int) : Pd := .tup [dL r.1, dL r.2]
theorem dtI : ∀ ns : List Int, DtAll K M H (ns.map V.int) (ns.map Pd.int)
  | [] => .nil
  | n :: ns => .cons (.int n) (dtI ns)
theorem dtI_inv : ∀ {ns : List Int} {vs : List V}, DtAll K M H vs (ns.map Pd.int) → vs = ns.map V.int
  | [], _, h => by cases h; rfl
  | n :: ns, _, h => by
    cases h with
    | cons a b =>
      cases a
      rw [dtI_inv b]
      rfl
theorem dtB : ∀ bs : List Bool, DtAll K M H (bs.map V.bl) (bs.map Pd.bl)
  | [] => .nil
  | n :: ns => .cons (.bl n) (dtB ns)
theorem dtB_inv : ∀ {ns : List Bool} {vs : List V}, DtAll K M H vs (ns.map Pd.bl) → vs = ns.map V.bl
  | [], _, h => by cases h; rfl
  | n :: ns, _, h => by
    cases h with
    | cons a b =>
      cases a
      rw [dtB_inv b]
      rfl
theorem dtS_inv : ∀ {ns : List Str} {vs : List V}, DtAll K M H vs (ns.map Pd.str) → vs = ns.map V.str
  | [], _, h => by cases h; rfl
  | n :: ns, _, h => by
    cases h with
    | cons a b =>
      cases a
      rw [dtS_inv b]
      rfl
theorem dt_sq {v : V} {ds : List Pd} (h : Dt K M H v (.lst ds)) : ∃ a xs, v = .ref a ∧ H a = some (.lst xs) ∧ DtAll K M H xs ds := by
  cases h with
  | lst _ h1 h2 => exact ⟨_, _, rfl, h1, h2⟩
theorem dt_tp {v : V} {ds : List Pd} (h : Dt K M H v (.tup ds)) : ∃ a xs, v = .ref a ∧ H a = some (.tup xs) ∧ DtAll K M H xs ds := by
  cases h with
  | tup _ h1 h2 => exact ⟨_, _, rfl, h1, h2⟩
theorem dt_scr {v : V} {ns : List Int} (h : Dt K M H v (.scr ns)) : ∃ a, v = .ref a ∧ SqL K H a (ns.map V.int) := by
  cases h with
  | scr h1 => exact ⟨_, rfl, h1.sq⟩
theorem dt_dL {v : V} {ns : List Int} (h : Dt K M H v (dL ns)) : ∃ a, v = .ref a ∧ H a = some (.lst (ns.map V.int)) := by
  obtain ⟨a, xs, e, h1, h2⟩ := dt_sq h
  rw [dtI_inv h2] at h1
  exact ⟨a, e, h1⟩
theorem dt_int {v : V} {i : Int} (h : Dt K M H v (.int i)) : v = .int i := by cases h; rfl
theorem dt_bl {v : V} {i : Bool} (h : Dt K M H v (.bl i)) : v = .bl i := by cases h; rfl
theorem dt_str {v : V} {i : Str} (h : Dt K M H v (.str i)) : v = .str i := by cases h; rfl
theorem dt_raw {v u : V} (h : Dt K M H v (.raw u)) : v = u := by cases h; rfl
/-- a new list as data -/
theorem dt_fr {a : Addr} {xs : List V} {ds : List Pd} (al : Al M H) (hn : H a = none) (h1 : H' a = some (.lst xs)) (h2 : DtAll K (a :: M) H' xs ds) : Dt K M H' (.ref a) (.lst ds) :=
  .lst (al.nw hn) h1 (h2.less fun _ h => List.mem_cons_of_mem _ h)
/-- a new object -/
theorem dt_new {a : Addr} {xs : List V} {ds : List Pd} (al : Al M H) (hn : H a = none) (h : DtAll K M H xs ds) : Dt K M (upd H a (.lst xs)) (.ref a) (.lst ds) :=
  .lst (al.nw hn) upd_same (DtAll.mono (Evl.Ex.new hn) ds xs h)
end

/-! ### the readings' weakest forms -/
def TW (X : Cx) (e : Expr) : TE := fun σ H Q => ∃ t, PE X e t ∧ t σ H Q
def TTW (X : Cx) (e : Expr) : TT := fun σ H Q => ∃ t, PT X e t ∧ t σ H Q
def TWW (X : Cx) (e : Expr) : TT := fun σ H Q => ∃ t, PW X e t ∧ t σ H Q
def TAW (X : Cx) (es : List Expr) : TA := fun σ H Q => ∃ t, PA X es t ∧ t σ H Q
def TOW (X : Cx) (e : Option Expr) : TO := fun σ H Q => ∃ t, PO X e t ∧ t σ H Q
def TIW (X : Cx) (tg iter : Expr) : TI := fun σ H R => ∃ t, PI X tg iter t ∧ t σ H R
def Blk (X : Cx) (ss : List Stmt) : TS := fun D σ H => ∃ t, PSs X ss t ∧ t D σ H
section
variable {X : Cx} {e tg iter : Expr} {es : List Expr} {ss : List Stmt} {eo : Option Expr}
theorem pe_w : PE X e (TW X e) := ⟨fun pins s σ H Q I h => by
  obtain ⟨t, p, h⟩ := h
  exact p.run pins s σ H Q I h⟩
theorem pt_w : PT X e (TTW X e) := ⟨fun pins s σ H Q I h => by
  obtain ⟨t, p, h⟩ := h
  exact p.run pins s σ H Q I h⟩
theorem pw_w : PW X e (TWW X e) := ⟨fun wh pins s σ H Q I h => by
  obtain ⟨t, p, h⟩ := h
  exact p.run wh pins s σ H Q I h⟩
theorem pa_w : PA X es (TAW X es) := ⟨fun pos pins s σ H Q I h => by
  obtain ⟨t, p, h⟩ := h
  exact p.run pos pins s σ H Q I h⟩
theorem po_w : PO X eo (TOW X eo) := ⟨fun pins s σ H Q I h => by
  obtain ⟨t, p, h⟩ := h
  exact p.run pins s σ H Q I h⟩
theorem pi_w : PI X tg iter (TIW X tg iter) := ⟨fun pins s σ H R I h => by
  obtain ⟨t, p, h⟩ := h
  exact p.run pins s σ H R I h⟩
theorem pss_w : PSs X ss (Blk X ss) := ⟨fun pins s σ H D I h => by
  obtain ⟨t, p, h⟩ := h
  exact p.run pins s σ H D I h⟩
end

/-! ### what the names hold -/
abbrev Dl := List (Option Pd)
structure Kn (K : PySem.W.Frag) (M : List Addr) (H : Hp) (σ : L2.St) (δ : Dl) : Prop where
  len : σ.length = δ.length
  at_ : ∀ (i : Nat) (d : Pd), δ[i]? = some (some d) → ∃ v, σ[i]? = some (some v) ∧ Dt K M H v d
  al : Al M H
def wipeD (δ : Dl) : List Nat → Dl
  | [] => δ
  | v :: vs => (wipeD δ vs).set v none
section
variable {K : PySem.W.Frag} {M M' : List Addr} {H H' : Hp} {σ : L2.St} {δ : Dl}
theorem Kn.mono (k : Kn K M H σ δ) (e : Ex H H') : Kn K M H' σ δ := ⟨k.len, fun i d h => by
  obtain ⟨v, h1, h2⟩ := k.at_ i d h
  exact ⟨v, h1, h2.mono e⟩, k.al.mono e⟩
theorem Kn.less (k : Kn K M H σ δ) (e : ∀ a, a ∈ M' → a ∈ M) : Kn K M' H σ δ := ⟨k.len, fun i d h => by
  obtain ⟨v, h1, h2⟩ := k.at_ i d h
  exact ⟨v, h1, h2.less e⟩, fun a ha => k.al a (e a ha)⟩
/-- what has come since may be set apart -/
theorem Kn.more (k : Kn K M H σ δ) {p : Addr} {o : HO} (hn : H p = none) (e : Ex H H') (hp : H' p = some o) : Kn K (p :: M) H' σ δ := ⟨k.len, fun i d h => by
  obtain ⟨v, h1, h2⟩ := k.at_ i d h
  exact ⟨v, h1, (h2.more hn).mono e⟩, fun a ha => by
  rcases List.mem_cons.mp ha with h | h
  · exact ⟨o, by rw [h]; exact hp⟩
  · exact (k.al.mono e) a h⟩
theorem Kn.more2 (k : Kn K M H σ δ) {p q : Addr} {o u : HO} (hn : H p = none) (hq : H q = none) (e : Ex H H') (hp : H' p = some o) (hq' : H' q = some u) : Kn K (p :: q :: M) H' σ δ := ⟨k.len, fun i d h => by
  obtain ⟨v, h1, h2⟩ := k.at_ i d h
  exact ⟨v, h1, ((h2.more hq).more hn).mono e⟩, fun a ha => by
  rcases List.mem_cons.mp ha with h | h
  · exact ⟨o, by rw [h]; exact hp⟩
  · rcases List.mem_cons.mp h with h | h
    · exact ⟨u, by rw [h]; exact hq'⟩
    · exact (k.al.mono e) a h⟩
theorem Kn.upd (k : Kn K M H σ δ) {l : Addr} {o : HO} (h : l ∈ M) : Kn K M (L2.upd H l o) σ δ := ⟨k.len, fun i d e => by
  obtain ⟨v, h1, h2⟩ := k.at_ i d e
  exact ⟨v, h1, h2.monoM (ExM.upd h)⟩, k.al.upd⟩
theorem Kn.set (k : Kn K M H σ δ) {v : V} {d : Pd} (i : Nat) (h : Dt K M H v d) : Kn K M H (σ.set i (some v)) (δ.set i (some d)) := by
  refine ⟨by rw [List.length_set, List.length_set, k.len], fun j e hj => ?_, k.al⟩
  by_cases hij : i = j
  · subst hij
    rw [List.getElem?_set_self'] at hj
    cases hd : δ[i]? with
    | none =>
      rw [hd] at hj
      simp at hj
    | some o =>
      rw [hd] at hj
      simp at hj
      subst hj
      have hl : i < σ.length := by
        rw [k.len]
        exact (List.getElem?_eq_some_iff.mp hd).1
      exact ⟨v, by rw [List.getElem?_set_self hl], h⟩
  · rw [List.getElem?_set_ne hij] at hj
    obtain ⟨u, h1, h2⟩ := k.at_ j e hj
    exact ⟨u, by rw [List.getElem?_set_ne hij]; exact h1, h2⟩
theorem Kn.weak (k : Kn K M H σ δ) {δ' : Dl} (hl : δ'.length = δ.length) (h : ∀ (i : Nat) (d : Pd), δ'[i]? = some (some d) → δ[i]? = some (some d)) : Kn K M H σ δ' :=
  ⟨k.len.trans hl.symm, fun i d e => k.at_ i d (h i d e), k.al⟩
theorem Kn.lose (k : Kn K M H σ δ) (i : Nat) : Kn K M H σ (δ.set i none) := by
  refine k.weak List.length_set fun j d h => ?_
  by_cases hij : i = j
  · subst hij
    rw [List.getElem?_set_self'] at h
    cases hd : δ[i]? with
    | none =>
      rw [hd] at h
      simp at h
    | some o =>
      rw [hd] at h
      simp at h
  · rw [List.getElem?_set_ne hij] at h
    exact h
theorem Kn.setNone (k : Kn K M H σ δ) (i : Nat) : Kn K M H (σ.set i none) (δ.set i none) := by
  refine ⟨by rw [List.length_set, List.length_set, k.len], fun j e hj => ?_, k.al⟩
  by_cases hij : i = j
  · subst hij
    rw [List.getElem?_set_self'] at hj
    cases hd : δ[i]? with
    | none =>
      rw [hd] at hj
      simp at hj
    | some o =>
      rw [hd] at hj
      simp at hj
  · rw [List.getElem?_set_ne hij] at hj
    obtain ⟨u, h1, h2⟩ := k.at_ j e hj
    exact ⟨u, by rw [List.getElem?_set_ne hij]; exact h1, h2⟩
theorem Kn.wipe (k : Kn K M H σ δ) : ∀ vs : List Nat, Kn K M H (L2.wipe σ vs) (wipeD δ vs)
  | [] => k
  | v :: vs => (Kn.wipe k vs).setNone v
/-- another data of the same value -/
theorem Kn.turn (k : Kn K M H σ δ) {i : Nat} {d e : Pd} (hd : δ[i]? = some (some d)) (h : ∀ v, Dt K M H v d → Dt K M H v e) : Kn K M H σ (δ.set i (some e)) := by
  obtain ⟨v, h1, h2⟩ := k.at_ i d hd
  have g := k.set i (h v h2)
  have es : σ.set i (some v) = σ := by
    refine List.ext_getElem? fun j => ?_
    by_cases hij : i = j
    · subst hij
      rw [List.getElem?_set_self (List.getElem?_eq_some_iff.mp h1).1, h1]
    · rw [List.getElem?_set_ne hij]
  rw [es] at g
  exact g
theorem wipe_set : ∀ {vs : List Nat} {j : Nat} (τ : L2.St) (x : Option V), j ∈ vs → L2.wipe (τ.set j x) vs = L2.wipe τ vs
  | [], _, _, _, h => by simp at h
  | v :: vs, j, τ, x, h => by
    show (L2.wipe (τ.set j x) vs).set v none = (L2.wipe τ vs).set v none
    by_cases hj : j ∈ vs
    · rw [wipe_set τ x hj]
    · have e : j = v := by
        rcases List.mem_cons.mp h with h | h
        · exact h
        · exact absurd h hj
      subst e
      have gen : ∀ (ws : List Nat), j ∉ ws → L2.wipe (τ.set j x) ws = (L2.wipe τ ws).set j x := by
        intro ws
        induction ws with
        | nil => intro _; rfl
        | cons w ws ih =>
          intro hw
          have h1 : j ≠ w := fun e => hw (by rw [e]; exact List.mem_cons_self ..)
          have h2 : j ∉ ws := fun e => hw (List.mem_cons_of_mem _ e)
          show (L2.wipe (τ.set j x) ws).set w none = ((L2.wipe τ ws).set w none).set j x
          rw [ih h2, List.set_comm _ _ h1]
      rw [gen vs hj, List.set_set]
theorem wipe_idem : ∀ (vs : List Nat) (τ : L2.St), L2.wipe (L2.wipe τ vs) vs = L2.wipe τ vs
  | [], _ => rfl
  | v :: vs, τ => by
    show (L2.wipe ((L2.wipe τ vs).set v none) vs).set v none = (L2.wipe τ vs).set v none
    by_cases hj : v ∈ vs
    · rw [wipe_set _ _ hj, wipe_idem vs τ]
    · have h := wipe_set (vs := v :: vs) (j := v) (L2.wipe τ vs) none (List.mem_cons_self ..)
      have h2 : (L2.wipe ((L2.wipe τ vs).set v none) vs).set v none = (L2.wipe (L2.wipe τ vs) vs).set v none := h
      rw [h2, wipe_idem vs τ]
end
/-- from Hb on, and what the names hold -/
structure EO (K : PySem.W.Frag) (M : List Addr) (Hb H : Hp) (σ : L2.St) (δ : Dl) : Prop where
  ex : Ex Hb H
  kn : Kn K M H σ δ
section
variable {K : PySem.W.Frag} {M M' : List Addr} {Ha Hb H H' : Hp} {σ : L2.St} {δ : Dl}
theorem EO.mono (k : EO K M Hb H σ δ) (e : Ex H H') : EO K M Hb H' σ δ := ⟨k.ex.trans e, k.kn.mono e⟩
theorem EO.set (k : EO K M Hb H σ δ) {v : V} {d : Pd} (i : Nat) (h : Dt K M H v d) : EO K M Hb H (σ.set i (some v)) (δ.set i (some d)) := ⟨k.ex, k.kn.set i h⟩
theorem EO.base (k : EO K M Hb H σ δ) (e : Ex Ha Hb) : EO K M Ha H σ δ := ⟨e.trans k.ex, k.kn⟩
theorem EO.here (k : EO K M Hb H σ δ) : EO K M H H σ δ := ⟨Evl.Ex.refl H, k.kn⟩
theorem EO.lose (k : EO K M Hb H σ δ) (i : Nat) : EO K M Hb H σ (δ.set i none) := ⟨k.ex, k.kn.lose i⟩
end

/-! ### expressions by data -/
def EE (X : Cx) (e : Expr) (δ : Dl) (d : Pd) : Prop := ∀ M σ H, Kn X.K M H σ δ → ∀ Q : VK, (∀ v H', Ex H H' → Dt X.K M H' v d → Q v H') → TW X e σ H Q
/-- a new list -/
def EF (X : Cx) (e : Expr) (δ : Dl) (ds : List Pd) : Prop := ∀ M σ H, Kn X.K M H σ δ → ∀ Q : VK, (∀ a xs H', H a = none → Ex H H' → H' a = some (.lst xs) → DtAll X.K (a :: M) H' xs ds → Q (.ref a) H') → TW X e σ H Q
def ET (X : Cx) (e : Expr) (δ : Dl) (b : Bool) : Prop := ∀ M σ H, Kn X.K M H σ δ → ∀ Q : Bool → Hp → Prop, (∀ H', Ex H H' → Q b H') → TTW X e σ H Q
def EW (X : Cx) (e : Expr) (δ : Dl) (b : Bool) : Prop := ∀ M σ H, Kn X.K M H σ δ → ∀ Q : Bool → Hp → Prop, (∀ H', Ex H H' → Q b H') → TWW X e σ H Q
def EA (X : Cx) (es : List Expr) (δ : Dl) (ds : List Pd) : Prop := ∀ M σ H, Kn X.K M H σ δ → ∀ Q : List V → Hp → Prop, (∀ vs H', Ex H H' → DtAll X.K M H' vs ds → Q vs H') → TAW X es σ H Q
def EP (X : Cx) (eo : Option Expr) (δ : Dl) (o : Option Int) : Prop := ∀ M σ H, Kn X.K M H σ δ → ∀ Q : Option Int → Hp → Prop, (∀ H', Ex H H' → Q o H') → TOW X eo σ H Q
/-- an operation on data -/
def RD (K : PySem.W.Frag) (r : R2) (d e z : Pd) : Prop := ∀ M x y H, Al M H → Dt K M H x d → Dt K M H y e → ∀ Q : VK, (∀ v H', Ex H H' → Dt K M H' v z → Q v H') → r x y H Q
def RDF (K : PySem.W.Frag) (r : R2) (d e : Pd) (zs : List Pd) : Prop := ∀ M x y H, Al M H → Dt K M H x d → Dt K M H y e → ∀ Q : VK, (∀ a xs H', H a = none → Ex H H' → H' a = some (.lst xs) → DtAll K (a :: M) H' xs zs → Q (.ref a) H') → r x y H Q
def RC (K : PySem.W.Frag) (r : List V → Hp → VK → Prop) (ds : List Pd) (z : Pd) : Prop := ∀ M vs H, Al M H → DtAll K M H vs ds → ∀ Q : VK, (∀ v H', Ex H H' → Dt K M H' v z → Q v H') → r vs H Q
def RCF (K : PySem.W.Frag) (r : List V → Hp → VK → Prop) (ds : List Pd) (zs : List Pd) : Prop := ∀ M vs H, Al M H → DtAll K M H vs ds → ∀ Q : VK, (∀ a xs H', H a = none → Ex H H' → H' a = some (.lst xs) → DtAll K (a :: M) H' xs zs → Q (.ref a) H') → r vs H Q

section
variable {X : Cx} {δ : Dl} {a b c e : Expr} {es : List Expr} {pos : Pos} {d z d1 d2 : Pd} {ds : List Pd} {Hb H : Hp} {σ : L2.St}
theorem EE.is (h : EE X e δ d) (q : d = z) : EE X e δ z := q ▸ h
theorem ET.is {p q : Bool} (h : ET X e δ p) (w : p = q) : ET X e δ q := w ▸ h
theorem EF.is {zs : List Pd} (h : EF X e δ ds) (q : ds = zs) : EF X e δ zs := q ▸ h
theorem EF.ee (h : EF X e δ ds) : EE X e δ (.lst ds) := fun M σ H k Q q => h M σ H k Q fun a xs H' n1 e1 h1 h2 => q _ H' e1 (dt_fr k.al n1 h1 h2)
theorem EE.scr {ns : List Int} (h : EE X e δ (dL ns)) : EE X e δ (.scr ns) := fun M σ H k Q q => h M σ H k Q fun v H' e1 h1 => by
  cases h1 with
  | lst h0 h1 h2 => exact q _ H' e1 (.scr (.inl ⟨h0, .inl (by rw [dtI_inv h2] at h1; exact h1)⟩))
theorem ee_var (i : Nat) {x : Str} (hd : δ[i]? = some (some d) := by rfl) (hN : X.N[i]? = some x := by rfl) (hv : Vis X.env.scope x := by first | exact Or.inl rfl | exact Or.inr (Or.inl rfl) | exact Or.inr (Or.inr rfl))
    (h1 : (x == ("__debug__" : Str)) = false := by decide) (h2 : (x == ("__classdict__" : Str)) = false := by decide) : EE X (.Name x pos) δ d := fun M σ H k Q q => by
  obtain ⟨v, e1, e2⟩ := k.at_ i d hd
  exact ⟨_, pe_var hN hv h1 h2, v, e1, q v H (Evl.Ex.refl H) e2⟩
theorem ee_int {i : Int} {j : Nat} : EE X (.Constant (.int i) j pos) δ (.int i) := fun M σ H _ Q q => ⟨_, pe_int, q _ H (Evl.Ex.refl H) (.int i)⟩
theorem ee_bl {i : Bool} {j : Nat} : EE X (.Constant (.bool i) j pos) δ (.bl i) := fun M σ H _ Q q => ⟨_, pe_bl, q _ H (Evl.Ex.refl H) (.bl i)⟩
theorem ee_non {j : Nat} : EE X (.Constant .none j pos) δ .non := fun M σ H _ Q q => ⟨_, pe_non, q _ H (Evl.Ex.refl H) .non⟩
theorem ee_str {x : Str} {j : Nat} : EE X (.Constant (.str x) j pos) δ (.str x) := fun M σ H _ Q q => ⟨_, pe_str, q _ H (Evl.Ex.refl H) (.str x)⟩
theorem ee_bin {op : Operator} {r : R2} (ho : OpR X (binaryOp op) r) (hr : RD X.K r d1 d2 z) (ha : EE X a δ d1) (hb : EE X b δ d2) : EE X (.BinOp a op b pos) δ z := fun M σ H k Q q =>
  ⟨_, pe_op ho pe_w pe_w, ha M σ H k _ fun x H1 e1 h1 => hb M σ H1 (k.mono e1) _ fun y H2 e2 h2 => hr M x y H2 (k.al.mono (e1.trans e2)) (h1.mono e2) h2 Q fun v H3 e3 h3 => q v H3 ((e1.trans e2).trans e3) h3⟩
theorem ef_bin {op : Operator} {r : R2} {zs : List Pd} (ho : OpR X (binaryOp op) r) (hr : RDF X.K r d1 d2 zs) (ha : EE X a δ d1) (hb : EE X b δ d2) : EF X (.BinOp a op b pos) δ zs := fun M σ H k Q q =>
  ⟨_, pe_op ho pe_w pe_w, ha M σ H k _ fun x H1 e1 h1 => hb M σ H1 (k.mono e1) _ fun y H2 e2 h2 => hr M x y H2 (k.al.mono (e1.trans e2)) (h1.mono e2) h2 Q fun v xs H3 n3 e3 h3 h4 => q v xs H3 (Evl.fresh_back (e1.trans e2) n3) ((e1.trans e2).trans e3) h3 h4⟩
theorem ee_cmp {op : CmpOp} {r : R2} (ho : OpR X (compareOp op) r) (hr : RD X.K r d1 d2 z) (ha : EE X a δ d1) (hb : EE X b δ d2) (hm : behindInMarks op b = false) : EE X (.Compare a [op] [b] pos) δ z := fun M σ H k Q q =>
  ⟨_, pe_cmpR ho pe_w pe_w hm, ha M σ H k _ fun x H1 e1 h1 => hb M σ H1 (k.mono e1) _ fun y H2 e2 h2 => hr M x y H2 (k.al.mono (e1.trans e2)) (h1.mono e2) h2 Q fun v H3 e3 h3 => q v H3 ((e1.trans e2).trans e3) h3⟩
theorem et_cmp {op : CmpOp} {r : R2} {k : Bool} (ho : OpR X (compareOp op) r) (hr : RD X.K r d1 d2 (.bl k)) (ha : EE X a δ d1) (hb : EE X b δ d2) (hm : behindInMarks op b = false) : ET X (.Compare a [op] [b] pos) δ k := fun M σ H k0 Q q =>
  ⟨_, pt_cmpR ho pe_w pe_w hm, ha M σ H k0 _ fun x H1 e1 h1 => hb M σ H1 (k0.mono e1) _ fun y H2 e2 h2 => hr M x y H2 (k0.al.mono (e1.trans e2)) (h1.mono e2) h2 _ fun v H3 e3 h3 => ⟨k, dt_bl h3, q H3 ((e1.trans e2).trans e3)⟩⟩
theorem ee_chain {op op' : CmpOp} {r r' : R2} {k k' : Bool} (ho : OpR X (compareOp op) r) (ho' : OpR X (compareOp op') r') (hr : RD X.K r d1 d2 (.bl k)) (hr' : k = true → RD X.K r' d2 d (.bl k')) (ha : EE X a δ d1) (hb : EE X b δ d2) (hc : EE X c δ d)
    (hm : lastMarks [op, op'] [b, c] = false := by with_unfolding_all rfl) : ET X (.Compare a [op, op'] [b, c] pos) δ (k && k') := fun M σ H kn Q q =>
  ⟨_, pt_chain ho ho' pe_w pe_w pe_w hm, ha M σ H kn _ fun x H1 e1 h1 => hb M σ H1 (kn.mono e1) _ fun y H2 e2 h2 => hr M x y H2 (kn.al.mono (e1.trans e2)) (h1.mono e2) h2 _ fun v H3 e3 h3 => ⟨k, dt_bl h3, by
    cases k with
    | true =>
      refine iteT ?_
      refine hc M σ H3 (kn.mono ((e1.trans e2).trans e3)) _ fun u H4 e4 h4 => ?_
      exact hr' rfl M y u H4 (kn.al.mono (((e1.trans e2).trans e3).trans e4)) (h2.mono (e3.trans e4)) h4 _ fun w H5 e5 h5 => ⟨k', dt_bl h5, q H5 (((e1.trans e2).trans e3).trans (e4.trans e5))⟩
    | false =>
      refine iteF ?_
      exact ⟨false, rfl, q H3 ((e1.trans e2).trans e3)⟩⟩⟩
theorem et_val {k : Bool} (h : EE X e δ (.bl k)) (he : ∀ whole, isTrue e X.env whole = (do let v ← whole; standAt e.pos; holding [v] (truthy v)) := by intro _; rfl) : ET X e δ k := fun M σ H kn Q q =>
  ⟨_, pt_val pe_w he, h M σ H kn _ fun v H1 e1 h1 => ⟨k, dt_bl h1, q H1 e1⟩⟩
theorem et_w {k : Bool} (h : EW X e δ k) : ET X e δ k := fun M σ H kn Q q => ⟨_, pw_w.pt, h M σ H kn Q q⟩
theorem ew_and1 {k : Bool} (h : ET X a δ k) : EW X (.BoolOp .And [a] pos) δ k := fun M σ H kn Q q => ⟨_, pw_and1 pt_w, h M σ H kn Q q⟩
theorem ew_or1 {k : Bool} (h : ET X a δ k) : EW X (.BoolOp .Or [a] pos) δ k := fun M σ H kn Q q => ⟨_, pw_or1 pt_w, h M σ H kn Q q⟩
theorem ew_and {k l : Bool} (h : ET X a δ k) (h2 : k = true → EW X (.BoolOp .And (b :: es) pos) δ l) : EW X (.BoolOp .And (a :: b :: es) pos) δ (k && l) := fun M σ H kn Q q =>
  ⟨_, pw_and pt_w pw_w, h M σ H kn _ fun H1 e1 => by
    cases k with
    | true => exact iteT (h2 rfl M σ H1 (kn.mono e1) Q fun H2 e2 => q H2 (e1.trans e2))
    | false => exact iteF (q H1 e1)⟩
theorem ew_or {k l : Bool} (h : ET X a δ k) (h2 : k = false → EW X (.BoolOp .Or (b :: es) pos) δ l) : EW X (.BoolOp .Or (a :: b :: es) pos) δ (k || l) := fun M σ H kn Q q =>
  ⟨_, pw_or pt_w pw_w, h M σ H kn _ fun H1 e1 => by
    cases k with
    | true => exact iteT (q H1 e1)
    | false => exact iteF (h2 rfl M σ H1 (kn.mono e1) Q fun H2 e2 => q H2 (e1.trans e2))⟩
theorem et_not {k : Bool} (h : ET X a δ k) : ET X (.UnaryOp .Not a pos) δ (!k) := fun M σ H kn Q q => ⟨_, pt_not pt_w, h M σ H kn _ fun H1 e1 => q H1 e1⟩
theorem ee_one {op : BoolOp} (h : EE X a δ d) : EE X (.BoolOp op [a] pos) δ d := fun M σ H kn Q q => ⟨_, pe_one pe_w, h M σ H kn Q q⟩
theorem ee_and {k : Bool} {l : Bool} (h : EE X a δ (.bl k)) (h2 : k = true → EE X (.BoolOp .And (b :: es) pos) δ (.bl l)) : EE X (.BoolOp .And (a :: b :: es) pos) δ (.bl (k && l)) := fun M σ H kn Q q =>
  ⟨_, pe_and pe_w pe_w, h M σ H kn _ fun v H1 e1 h1 => ⟨k, dt_bl h1, by
    cases k with
    | true => exact iteT (h2 rfl M σ H1 (kn.mono e1) Q fun w H2 e2 g => q w H2 (e1.trans e2) g)
    | false => exact iteF (q _ H1 e1 (.bl _))⟩⟩
theorem ee_or {k : Bool} {l : Bool} (h : EE X a δ (.bl k)) (h2 : k = false → EE X (.BoolOp .Or (b :: es) pos) δ (.bl l)) : EE X (.BoolOp .Or (a :: b :: es) pos) δ (.bl (k || l)) := fun M σ H kn Q q =>
  ⟨_, pe_or pe_w pe_w, h M σ H kn _ fun v H1 e1 h1 => ⟨k, dt_bl h1, by
    cases k with
    | true => exact iteT (q _ H1 e1 (.bl _))
    | false => exact iteF (h2 rfl M σ H1 (kn.mono e1) Q fun w H2 e2 g => q w H2 (e1.trans e2) g)⟩⟩
theorem ee_not {k : Bool} (h : EE X a δ (.bl k)) : EE X (.UnaryOp .Not a pos) δ (.bl (!k)) := fun M σ H kn Q q => ⟨_, pe_not pe_w, h M σ H kn _ fun v H1 e1 h1 => ⟨k, dt_bl h1, q _ H1 e1 (.bl _)⟩⟩
theorem ee_neg {i : Int} (h : EE X a δ (.int i)) : EE X (.UnaryOp .USub a pos) δ (.int (-i)) := fun M σ H kn Q q => ⟨_, pe_un un_neg pe_w, h M σ H kn _ fun v H1 e1 h1 => ⟨i, dt_int h1, q _ H1 e1 (.int _)⟩⟩
theorem ee_if {k : Bool} (h : ET X c δ k) (h1 : k = true → EE X a δ d) (h2 : k = false → EE X b δ d) : EE X (.IfExp c a b pos) δ d := fun M σ H kn Q q => ⟨_, pe_ifExp pt_w pe_w pe_w, h M σ H kn _ fun H1 e1 => by
  cases k with
  | true => exact iteT (h1 rfl M σ H1 (kn.mono e1) Q fun v H2 e2 g => q v H2 (e1.trans e2) g)
  | false => exact iteF (h2 rfl M σ H1 (kn.mono e1) Q fun v H2 e2 g => q v H2 (e1.trans e2) g)⟩
theorem ea_nil : EA X [] δ [] := fun M σ H kn Q q => ⟨_, pa_nil, q [] H (Evl.Ex.refl H) .nil⟩
theorem ea_cons (h : EE X e δ d) (hr : EA X es δ ds) (hs : starEach (e :: es) X.env = (false, eval e X.env) :: starEach es X.env := by rfl) : EA X (e :: es) δ (d :: ds) := fun M σ H kn Q q =>
  ⟨_, pa_cons pe_w pa_w hs, h M σ H kn _ fun v H1 e1 h1 => hr M σ H1 (kn.mono e1) _ fun vs H2 e2 h2 => q (v :: vs) H2 (e1.trans e2) (.cons (h1.mono e2) h2)⟩
theorem ee_tup {x1 : Nat} (h : EA X es δ ds) (hz : ds.length ≤ 100000 := by first | decide | (simp only [List.length_map, List.length_cons, List.length_nil]; omega)) : EE X (.Tuple es x1 pos) δ (.tup ds) := fun M σ H kn Q q =>
  ⟨_, pe_tup pa_w, h M σ H kn _ fun vs H1 e1 h1 => ⟨Evl.sz_of (by rw [h1.length]; exact hz), fun p hp => q _ _ (e1.trans (Evl.Ex.new hp)) (.tup ((kn.al.mono e1).nw hp) upd_same (DtAll.mono (Evl.Ex.new hp) _ _ h1))⟩⟩
theorem ef_lst (h : EA X es δ ds) (hz : ds.length ≤ 100000 := by first | decide | (simp only [List.length_map, List.length_cons, List.length_nil]; omega)) : EF X (.List es pos) δ ds := fun M σ H kn Q q =>
  ⟨_, pe_lst pa_w, h M σ H kn _ fun vs H1 e1 h1 => ⟨Evl.sz_of (by rw [h1.length]; exact hz), fun p hp => q p vs _ (Evl.fresh_back e1 hp) (e1.trans (Evl.Ex.new hp)) upd_same (DtAll.mono (Evl.Ex.new hp) _ _ (DtAll.more hp _ _ h1))⟩⟩
theorem ee_callB {x : Str} {id : String} {r : List V → Hp → VK → Prop} {p : Pos} (hc : CallR X (.builtin id) r) (hr : RC X.K r (d :: ds) z) (ha : EA X (e :: es) δ (d :: ds)) (hm : X.mg x = none) (hg : Gl X x := by rfl) (hv : bootBuiltins x = some (.builtin id) := by decide +kernel)
    (hn : x ≠ "__name__" := by decide) (hdb : (x == ("__debug__" : Str)) = false := by decide)
    (he : starEach (e :: es) X.env = (false, eval e X.env) :: starEach es X.env := by rfl) (hpl : (backTo pos (starEach es X.env)).any (·.1) = false := by rfl) : EE X (.Call (.Name x p) (e :: es) [] pos) δ z := fun M σ H kn Q q =>
  ⟨_, pe_callB hc hg hm hv pa_w hn hdb he hpl, ha M σ H kn _ fun vs H1 e1 h1 => hr M vs H1 (kn.al.mono e1) h1 Q fun v H2 e2 h2 => q v H2 (e1.trans e2) h2⟩
theorem ee_callT {x : Str} {id : String} {r : List V → Hp → VK → Prop} {p : Pos} (hc : CallR X (.type id) r) (hr : RC X.K r (d :: ds) z) (ha : EA X (e :: es) δ (d :: ds)) (hm : X.mg x = none) (hg : Gl X x := by rfl) (hv : bootBuiltins x = some (.type id) := by decide +kernel)
    (hn : x ≠ "__name__" := by decide) (hdb : (x == ("__debug__" : Str)) = false := by decide)
    (he : starEach (e :: es) X.env = (false, eval e X.env) :: starEach es X.env := by rfl) (hpl : (backTo pos (starEach es X.env)).any (·.1) = false := by rfl) : EE X (.Call (.Name x p) (e :: es) [] pos) δ z := fun M σ H kn Q q =>
  ⟨_, pe_callTy hc hg hm hv pa_w hn hdb he hpl, ha M σ H kn _ fun vs H1 e1 h1 => hr M vs H1 (kn.al.mono e1) h1 Q fun v H2 e2 h2 => q v H2 (e1.trans e2) h2⟩
theorem ef_callT {x : Str} {id : String} {r : List V → Hp → VK → Prop} {p : Pos} {zs : List Pd} (hc : CallR X (.type id) r) (hr : RCF X.K r (d :: ds) zs) (ha : EA X (e :: es) δ (d :: ds)) (hm : X.mg x = none) (hg : Gl X x := by rfl) (hv : bootBuiltins x = some (.type id) := by decide +kernel)
    (hn : x ≠ "__name__" := by decide) (hdb : (x == ("__debug__" : Str)) = false := by decide)
    (he : starEach (e :: es) X.env = (false, eval e X.env) :: starEach es X.env := by rfl) (hpl : (backTo pos (starEach es X.env)).any (·.1) = false := by rfl) : EF X (.Call (.Name x p) (e :: es) [] pos) δ zs := fun M σ H kn Q q =>
  ⟨_, pe_callTy hc hg hm hv pa_w hn hdb he hpl, ha M σ H kn _ fun vs H1 e1 h1 => hr M vs H1 (kn.al.mono e1) h1 Q fun a xs H2 n2 e2 h2 h3 => q a xs H2 (Evl.fresh_back e1 n2) (e1.trans e2) h2 h3⟩
theorem ep_none : EP X none δ none := fun M σ H kn Q q => ⟨_, po_none, q H (Evl.Ex.refl H)⟩
theorem ep_some {i : Int} (h : EE X e δ (.int i)) : EP X (some e) δ (some i) := fun M σ H kn Q q => ⟨_, po_some pe_w, h M σ H kn _ fun v H1 e1 h1 => ⟨i, dt_int h1, q H1 e1⟩⟩
end
end Lr

/-! operations by data -/
namespace Lr
open PySem L2
open Evl (Ex)

/-! ### data as the library's -/
mutual
def py : Pd → PyData
  | .non => .none
  | .bl b => .bool b
  | .int i => .int i
  | .str x => .str x
  | .lst ds => .list (pyAll ds)
  | .tup ds => .tuple (pyAll ds)
  | .scr ns => .list (ns.map PyData.int)
  | .raw _ => .none
  | .obj _ _ _ => .none
  | .dic _ => .none
  | .lam _ _ _ _ => .none
def pyAll : List Pd → List PyData
  | [] => []
  | d :: ds => py d :: pyAll ds
end
mutual
def okP : Pd → Bool
  | .raw _ => false
  | .obj _ _ _ => false
  | .dic _ => false
  | .lam _ _ _ _ => false
  | .str _ => false
  | .lst ds => okAll ds
  | .tup ds => okAll ds
  | _ => true
def okAll : List Pd → Bool
  | [] => true
  | d :: ds => okP d && okAll ds
end
section
variable {K : PySem.W.Frag} {M : List Addr} {H : Hp}
theorem dpI : ∀ ns : List Int, DpAll K H (ns.map V.int) (ns.map PyData.int)
  | [] => .nil
  | n :: ns => .cons (.int n) (dpI ns)
mutual
theorem dt_dp : ∀ (d : Pd) (v : V), okP d = true → Dt K M H v d → Dp K H v (py d)
  | .non, _, _, h => by cases h; exact .non
  | .bl _, _, _, h => by cases h; exact .bl _
  | .int _, _, _, h => by cases h; exact .int _
  | .str _, _, o, _ => by cases o
  | .lst ds, _, o, h => by
    cases h with
    | lst h0 h1 h2 => exact .lst (.of h1) (dt_dpAll ds _ o h2)
  | .tup ds, _, o, h => by
    cases h with
    | tup h0 h1 h2 => exact .tup (.of h1) (dt_dpAll ds _ o h2)
  | .scr ns, _, _, h => by
    cases h with
    | scr h1 => exact .lst h1.sq (dpI ns)
  | .raw v, _, o, _ => by cases o
  | .obj _ _ _, _, o, _ => by cases o
  | .dic _, _, o, _ => by cases o
  | .lam _ _ _ _, _, o, _ => by cases o
theorem dt_dpAll : ∀ (ds : List Pd) (vs : List V), okAll ds = true → DtAll K M H vs ds → DpAll K H vs (pyAll ds)
  | [], _, _, h => by cases h; exact .nil
  | d :: ds, _, o, h => by
    have o2 : (okP d && okAll ds) = true := o
    rw [Bool.and_eq_true] at o2
    cases h with
    | cons h1 h2 => exact .cons (dt_dp d _ o2.1 h1) (dt_dpAll ds _ o2.2 h2)
end
end
mutual
theorem canLay_py : ∀ d : Pd, okP d = true → PyData.canLay0 (py d) = true
  | .non, _ => rfl
  | .bl _, _ => rfl
  | .int _, _ => rfl
  | .str _, o => by cases o
  | .lst ds, o => by
    show PyData.canLay0 (.list (pyAll ds)) = true
    rw [PyData.canLay0]
    exact canLay_pyAll ds o
  | .tup ds, o => by
    show PyData.canLay0 (.tuple (pyAll ds)) = true
    rw [PyData.canLay0]
    exact canLay_pyAll ds o
  | .scr ns, _ => by
    show PyData.canLay0 (.list (ns.map PyData.int)) = true
    rw [PyData.canLay0]
    induction ns with
    | nil => rfl
    | cons n ns ih =>
      rw [List.map_cons, PyData.canLayAll0, ih rfl]
      rfl
  | .raw _, o => by cases o
  | .obj _ _ _, o => by cases o
  | .dic _, o => by cases o
  | .lam _ _ _ _, o => by cases o
theorem canLay_pyAll : ∀ ds : List Pd, okAll ds = true → PyData.canLayAll0 (pyAll ds) = true
  | [], _ => rfl
  | d :: ds, o => by
    have o2 : (okP d && okAll ds) = true := o
    rw [Bool.and_eq_true] at o2
    show PyData.canLayAll0 (py d :: pyAll ds) = true
    rw [PyData.canLayAll0, canLay_py d o2.1, canLay_pyAll ds o2.2]
    rfl
end
theorem pyInts : ∀ ns : List Int, pyAll (ns.map Pd.int) = ns.map PyData.int
  | [] => rfl
  | n :: ns => by
    show py (.int n) :: pyAll (ns.map Pd.int) = _
    rw [pyInts ns]
    rfl
theorem okInts : ∀ ns : List Int, okAll (ns.map Pd.int) = true
  | [] => rfl
  | n :: ns => by
    show (okP (.int n) && okAll (ns.map Pd.int)) = true
    rw [okInts ns]
    rfl
theorem depInts : ∀ ns : List Int, PyData.depthAll (ns.map PyData.int) = 0
  | [] => rfl
  | n :: ns => by
    rw [List.map_cons, PyData.depthAll, depInts ns]
    rfl
theorem eqvInts : ∀ ns ms : List Int, PyData.eqvAll (ns.map PyData.int) (ms.map PyData.int) = decide (ns = ms)
  | [], [] => rfl
  | [], m :: ms => rfl
  | n :: ns, [] => rfl
  | n :: ns, m :: ms => by
    rw [List.map_cons, List.map_cons, PyData.eqvAll, eqvInts ns ms, PyData.eqv]
    by_cases h : n = m
    · subst h
      simp
    · simp [h]
/-- an encoding that == decides -/
structure EqE {α : Type} [DecidableEq α] (f : α → Pd) (n : Nat) : Prop where
  ok : ∀ a, okP (f a) = true
  dep : ∀ a, (py (f a)).depth ≤ n
  eq : ∀ a b, PyData.eqv (py (f a)) (py (f b)) = decide (a = b)
theorem eqI : EqE Pd.int 0 := ⟨fun _ => rfl, fun _ => Nat.le_refl _, fun a b => by
  show PyData.eqv (.int a) (.int b) = _
  rw [PyData.eqv]
  by_cases h : a = b
  · subst h; simp
  · simp [h]⟩
theorem eqL : EqE dL 1 := ⟨fun a => okInts a, fun a => by
  show PyData.depth (.list (pyAll (a.map Pd.int))) ≤ 1
  rw [pyInts, PyData.depth, depInts]
  exact Nat.le_refl _, fun a b => by
  show PyData.eqv (.list (pyAll (a.map Pd.int))) (.list (pyAll (b.map Pd.int))) = _
  rw [pyInts, pyInts, PyData.eqv, eqvInts]⟩
theorem eqPair {α β : Type} [DecidableEq α] [DecidableEq β] {f : α → Pd} {g : β → Pd} {n m : Nat} (E : EqE f n) (F : EqE g m) : EqE (fun p : α × β => .tup [f p.1, g p.2]) (max n m + 1) := ⟨fun p => by
  show (okP (f p.1) && (okP (g p.2) && true)) = true
  rw [E.ok, F.ok]
  rfl, fun p => by
  show PyData.depth (.tuple [py (f p.1), py (g p.2)]) ≤ _
  have h1 := E.dep p.1
  have h2 := F.dep p.2
  simp only [PyData.depth, PyData.depthAll]
  omega, fun p q => by
  show PyData.eqv (.tuple [py (f p.1), py (g p.2)]) (.tuple [py (f q.1), py (g q.2)]) = _
  simp only [PyData.eqv, PyData.eqvAll, E.eq, F.eq]
  obtain ⟨a, b⟩ := p
  obtain ⟨c, d⟩ := q
  by_cases h1 : a = c <;> by_cases h2 : b = d <;> simp [h1, h2]⟩
theorem eqR : EqE dR 2 := eqPair eqL eqL
theorem eqListAll {α : Type} [DecidableEq α] {f : α → Pd} {n : Nat} (E : EqE f n) : ∀ as bs : List α, PyData.eqvAll (pyAll (as.map f)) (pyAll (bs.map f)) = decide (as = bs)
  | [], [] => rfl
  | [], m :: ms => rfl
  | n :: ns, [] => rfl
  | n :: ns, m :: ms => by
    show PyData.eqvAll (py (f n) :: pyAll (ns.map f)) (py (f m) :: pyAll (ms.map f)) = _
    rw [PyData.eqvAll, eqListAll E ns ms, E.eq]
    by_cases h : n = m <;> by_cases h2 : ns = ms <;> simp [h, h2]
theorem eqList {α : Type} [DecidableEq α] {f : α → Pd} {n : Nat} (E : EqE f n) : EqE (fun as : List α => .lst (as.map f)) (n + 1) := ⟨fun as => by
  show okAll (as.map f) = true
  induction as with
  | nil => rfl
  | cons a as ih =>
    show (okP (f a) && okAll (as.map f)) = true
    rw [E.ok, ih]
    rfl, fun as => by
  show PyData.depth (.list (pyAll (as.map f))) ≤ _
  rw [PyData.depth]
  refine Nat.succ_le_succ ?_
  induction as with
  | nil => exact Nat.zero_le _
  | cons a as ih =>
    show PyData.depthAll (py (f a) :: pyAll (as.map f)) ≤ n
    rw [PyData.depthAll]
    exact Nat.max_le.mpr ⟨E.dep a, ih⟩, fun as bs => by
  show PyData.eqv (.list (pyAll (as.map f))) (.list (pyAll (bs.map f))) = _
  rw [PyData.eqv, eqListAll E]⟩
theorem eqB : EqE Pd.bl 0 := ⟨fun _ => rfl, fun _ => Nat.le_refl _, fun a b => by
  show PyData.eqv (.bool a) (.bool b) = _
  rw [PyData.eqv]
  cases a <;> cases b <;> rfl⟩
theorem shaped_py {d : Pd} (o : okP d = true) (h : (py d).depth ≤ 64) : SeqAt.shaped (py d) = true := by
  unfold SeqAt.shaped
  rw [canLay_py d o, decide_eq_true h]
  rfl

/-! ### slices -/
def cutP {α : Type} (xs : List α) (lo hi : Option Int) : List α := (xs.drop (HT.sIx xs.length 0 lo)).take (HT.sIx xs.length xs.length hi - HT.sIx xs.length 0 lo)
theorem cutP_map {α β : Type} (f : α → β) (xs : List α) (lo hi : Option Int) : cutP (xs.map f) lo hi = (cutP xs lo hi).map f := by
  unfold cutP
  rw [List.length_map, List.map_take, List.map_drop]
theorem cutV_eq (xs : List V) (lo hi : Option Int) : cutV xs lo hi = cutP xs lo hi := rfl
theorem cut_to {α : Type} (xs : List α) (k : Nat) : cutP xs none (some (k : Int)) = xs.take k := by
  unfold cutP
  rw [HT.sIx_none, HT.sIx_nat, List.drop_zero, Nat.sub_zero]
  rcases Nat.le_total k xs.length with h | h
  · rw [Nat.min_eq_left h]
  · rw [Nat.min_eq_right h, List.take_of_length_le (Nat.le_refl _), List.take_of_length_le h]
theorem cut_from {α : Type} (xs : List α) (k : Nat) : cutP xs (some (k : Int)) none = xs.drop k := by
  unfold cutP
  rw [HT.sIx_none, HT.sIx_nat]
  rcases Nat.le_total k xs.length with h | h
  · rw [Nat.min_eq_left h]
    exact List.take_of_length_le (by rw [List.length_drop]; omega)
  · rw [Nat.min_eq_right h, List.drop_of_length_le (Nat.le_refl _), List.drop_of_length_le h, List.take_nil]
theorem cut_both {α : Type} (xs : List α) (a b : Nat) (h : b ≤ xs.length) : cutP xs (some (a : Int)) (some (b : Int)) = (xs.drop a).take (b - a) := by
  unfold cutP
  rw [HT.sIx_nat, HT.sIx_nat, Nat.min_eq_left h]
  rcases Nat.le_total a xs.length with h2 | h2
  · rw [Nat.min_eq_left h2]
  · rw [Nat.min_eq_right h2, List.drop_of_length_le (Nat.le_refl _), List.drop_of_length_le h2, List.take_nil, List.take_nil]
theorem cut_len {α : Type} (xs : List α) (lo hi : Option Int) : (cutP xs lo hi).length ≤ xs.length := by
  unfold cutP
  rw [List.length_take, List.length_drop]
  omega
theorem atI_map {α β : Type} (f : α → β) (xs : List α) (i : Int) : atI (xs.map f) i = (atI xs i).map f := by
  unfold atI
  rw [List.length_map]
  cases ixN xs.length i with
  | none => rfl
  | some j =>
    show (xs.map f)[j]? = (xs[j]?).map f
    rw [List.getElem?_map]
theorem atI_lastN {α : Type} {xs : List α} {v : α} (h : xs.getLast? = some v) : atI xs (-1) = some v := by
  obtain ⟨ys, rfl⟩ : ∃ ys, xs = ys ++ [v] := List.getLast?_eq_some_iff.mp h
  exact atI_last ys v

section
variable {X : Cx} {δ : Dl} {a b c e : Expr} {es : List Expr} {pos : Pos} {d z d1 d2 : Pd} {ds : List Pd} {i j : Int}
/-! ### whole numbers -/
theorem rd_I0 {K : PySem.W.Frag} {g : Int → Int → Int} : RD K (rI0 fun i j => .int (g i j)) (.int i) (.int j) (.int (g i j)) := fun M x y H _ hx hy Q q =>
  ⟨i, j, dt_int hx, dt_int hy, q _ H (Evl.Ex.refl H) (.int _)⟩
theorem rd_B0 {K : PySem.W.Frag} {g : Int → Int → Bool} : RD K (rI0 fun i j => .bl (g i j)) (.int i) (.int j) (.bl (g i j)) := fun M x y H _ hx hy Q q =>
  ⟨i, j, dt_int hx, dt_int hy, q _ H (Evl.Ex.refl H) (.bl _)⟩
theorem rd_I {K : PySem.W.Frag} {C : Int → Int → Prop} {g : Int → Int → Int} (h : C i j) : RD K (rI C fun i j => .int (g i j)) (.int i) (.int j) (.int (g i j)) := fun M x y H _ hx hy Q q =>
  ⟨i, j, dt_int hx, dt_int hy, h, q _ H (Evl.Ex.refl H) (.int _)⟩
theorem ee_add (ha : EE X a δ (.int i)) (hb : EE X b δ (.int j)) : EE X (.BinOp a .Add b pos) δ (.int (i + j)) := ee_bin op_add rd_I0 ha hb
theorem ee_sub (ha : EE X a δ (.int i)) (hb : EE X b δ (.int j)) : EE X (.BinOp a .Sub b pos) δ (.int (i - j)) := ee_bin op_sub rd_I0 ha hb
theorem ee_mul (ha : EE X a δ (.int i)) (hb : EE X b δ (.int j)) (h : CMul i j) : EE X (.BinOp a .Mult b pos) δ (.int (i * j)) := ee_bin op_mul (rd_I h) ha hb
theorem ee_mulW (ha : EE X a δ (.int i)) (hb : EE X b δ (.int j)) (h : CMulW i j) : EE X (.BinOp a .Mult b pos) δ (.int (i * j)) := ee_bin op_mulW (rd_I h) ha hb
theorem ee_mod (ha : EE X a δ (.int i)) (hb : EE X b δ (.int j)) (h : 0 < j) : EE X (.BinOp a .Mod b pos) δ (.int (i % j)) := ee_bin op_mod (rd_I (C := fun _ j => 0 < j) h) ha hb
theorem ee_div (ha : EE X a δ (.int i)) (hb : EE X b δ (.int j)) (h : CDiv i j) : EE X (.BinOp a .FloorDiv b pos) δ (.int (i / j)) := ee_bin op_fdiv (rd_I h) ha hb
theorem ee_divW (ha : EE X a δ (.int i)) (hb : EE X b δ (.int j)) (h : CDivW i j) : EE X (.BinOp a .FloorDiv b pos) δ (.int (i / j)) := ee_bin op_fdivW (rd_I h) ha hb
theorem ee_pow (ha : EE X a δ (.int i)) (hb : EE X b δ (.int j)) (h : CPow i j) : EE X (.BinOp a .Pow b pos) δ (.int (i ^ j.toNat)) := ee_bin op_pow (rd_I h) ha hb
theorem ee_lt (ha : EE X a δ (.int i)) (hb : EE X b δ (.int j)) : EE X (.Compare a [.Lt] [b] pos) δ (.bl (decide (i < j))) := ee_cmp op_lt rd_B0 ha hb (nomark _)
theorem et_lt (ha : EE X a δ (.int i)) (hb : EE X b δ (.int j)) : ET X (.Compare a [.Lt] [b] pos) δ (decide (i < j)) := et_cmp op_lt rd_B0 ha hb (nomark _)
theorem et_gt (ha : EE X a δ (.int i)) (hb : EE X b δ (.int j)) : ET X (.Compare a [.Gt] [b] pos) δ (decide (j < i)) := et_cmp op_gt rd_B0 ha hb (nomark _)
theorem et_le (ha : EE X a δ (.int i)) (hb : EE X b δ (.int j)) : ET X (.Compare a [.LtE] [b] pos) δ (decide (i ≤ j)) := et_cmp op_le rd_B0 ha hb (nomark _)
theorem et_ge (ha : EE X a δ (.int i)) (hb : EE X b δ (.int j)) : ET X (.Compare a [.GtE] [b] pos) δ (decide (j ≤ i)) := et_cmp op_ge rd_B0 ha hb (nomark _)
theorem ee_ge (ha : EE X a δ (.int i)) (hb : EE X b δ (.int j)) : EE X (.Compare a [.GtE] [b] pos) δ (.bl (decide (j ≤ i))) := ee_cmp op_ge rd_B0 ha hb (nomark _)
theorem ee_gt (ha : EE X a δ (.int i)) (hb : EE X b δ (.int j)) : EE X (.Compare a [.Gt] [b] pos) δ (.bl (decide (j < i))) := ee_cmp op_gt rd_B0 ha hb (nomark _)
theorem ee_le (ha : EE X a δ (.int i)) (hb : EE X b δ (.int j)) : EE X (.Compare a [.LtE] [b] pos) δ (.bl (decide (i ≤ j))) := ee_cmp op_le rd_B0 ha hb (nomark _)
/-! ### == -/
theorem rd_eq {K : PySem.W.Frag} {α : Type} [DecidableEq α] {f : α → Pd} {n : Nat} (E : EqE f n) (hn : n ≤ 64) {x y : α} : RD K (rEqD K) (f x) (f y) (.bl (decide (x = y))) := fun M u v H _ hx hy Q q =>
  ⟨py (f x), py (f y), dt_dp _ _ (E.ok x) hx, dt_dp _ _ (E.ok y) hy, shaped_py (E.ok x) (Nat.le_trans (E.dep x) hn), shaped_py (E.ok y) (Nat.le_trans (E.dep y) hn), by
    rw [E.eq]
    exact q _ H (Evl.Ex.refl H) (.bl _)⟩
theorem rd_ne {K : PySem.W.Frag} {α : Type} [DecidableEq α] {f : α → Pd} {n : Nat} (E : EqE f n) (hn : n ≤ 64) {x y : α} : RD K (rNeD K) (f x) (f y) (.bl (!decide (x = y))) := fun M u v H _ hx hy Q q =>
  ⟨py (f x), py (f y), dt_dp _ _ (E.ok x) hx, dt_dp _ _ (E.ok y) hy, shaped_py (E.ok x) (Nat.le_trans (E.dep x) hn), shaped_py (E.ok y) (Nat.le_trans (E.dep y) hn), by
    rw [E.eq]
    exact q _ H (Evl.Ex.refl H) (.bl _)⟩
variable {k : Nat}
theorem ee_eq {α : Type} [DecidableEq α] {f : α → Pd} {n : Nat} {x y : α} (E : EqE f n) (hr : Room k X.A) (ha : EE X a δ (f x)) (hb : EE X b δ (f y)) (hn : n ≤ 64 := by decide) : EE X (.Compare a [.Eq] [b] pos) δ (.bl (decide (x = y))) := ee_cmp (op_eqD hr.units) (rd_eq E hn) ha hb (nomark _)
theorem et_eq {α : Type} [DecidableEq α] {f : α → Pd} {n : Nat} {x y : α} (E : EqE f n) (hr : Room k X.A) (ha : EE X a δ (f x)) (hb : EE X b δ (f y)) (hn : n ≤ 64 := by decide) : ET X (.Compare a [.Eq] [b] pos) δ (decide (x = y)) := et_cmp (op_eqD hr.units) (rd_eq E hn) ha hb (nomark _)
theorem ee_ne {α : Type} [DecidableEq α] {f : α → Pd} {n : Nat} {x y : α} (E : EqE f n) (hr : Room k X.A) (ha : EE X a δ (f x)) (hb : EE X b δ (f y)) (hn : n ≤ 64 := by decide) : EE X (.Compare a [.NotEq] [b] pos) δ (.bl (!decide (x = y))) := ee_cmp (op_neD hr.units) (rd_ne E hn) ha hb (nomark _)
theorem et_ne {α : Type} [DecidableEq α] {f : α → Pd} {n : Nat} {x y : α} (E : EqE f n) (hr : Room k X.A) (ha : EE X a δ (f x)) (hb : EE X b δ (f y)) (hn : n ≤ 64 := by decide) : ET X (.Compare a [.NotEq] [b] pos) δ (!decide (x = y)) := et_cmp (op_neD hr.units) (rd_ne E hn) ha hb (nomark _)
/-! ### lists -/
theorem ef_cat {ds es' : List Pd} (ha : EE X a δ (.lst ds)) (hb : EE X b δ (.lst es')) (hz : ds.length + es'.length ≤ 100000) : EF X (.BinOp a .Add b pos) δ (ds ++ es') := ef_bin op_cat (fun M x y H al hx hy Q q => by
  obtain ⟨l, xs, rfl, h1, h2⟩ := dt_sq hx
  obtain ⟨m, ys, rfl, h3, h4⟩ := dt_sq hy
  refine ⟨l, m, xs, ys, rfl, rfl, h1, h3, Evl.sz_of (by rw [h2.length, h4.length]; exact hz), fun p hp => ?_⟩
  exact q p _ _ hp (Evl.Ex.new hp) upd_same (((h2.more hp).app (h4.more hp)).mono (Evl.Ex.new hp))) ha hb
theorem ef_catI {ns ms : List Int} (ha : EE X a δ (dL ns)) (hb : EE X b δ (dL ms)) (hz : ns.length + ms.length ≤ 100000) : EF X (.BinOp a .Add b pos) δ ((ns ++ ms).map .int) :=
  (ef_cat ha hb (by rw [List.length_map, List.length_map]; exact hz)).is (by rw [List.map_append])
theorem ef_repI {ns : List Int} (ha : EE X a δ (dL ns)) (hb : EE X b δ (.int i)) (h0 : 0 ≤ i) (h1 : i ≤ 100000) (hz : ns.length * i.toNat ≤ 100000) : EF X (.BinOp a .Mult b pos) δ ((List.replicate i.toNat ns).flatten.map .int) := ef_bin op_rep (fun M x y H al hx hy Q q => by
  obtain ⟨l, rfl, h2⟩ := dt_dL hx
  refine ⟨l, i, _, rfl, dt_int hy, h2, by omega, by omega, Evl.sz_of (by rw [List.length_map]; exact hz), fun p hp => ?_⟩
  have e : (List.replicate i.toNat (ns.map V.int)).flatten = (List.replicate i.toNat ns).flatten.map V.int := by
    rw [List.map_flatten, List.map_replicate]
  rw [e]
  exact q p _ _ hp (Evl.Ex.new hp) upd_same (dtI _)) ha hb
theorem PlainIx.any {b : Expr} (h : PlainIx b := by exact fun _ _ => rfl) : PlainIx b := h
theorem ee_ix {r : R2} (hr : IxR X r) (hd : RD X.K r d1 d2 z) (ha : EE X a δ d1) (hb : EE X b δ d2) (hs : PlainIx b := by exact fun _ _ => rfl) : EE X (.Subscript a b pos) δ z := fun M σ H k Q q =>
  ⟨_, pe_ix hr pe_w pe_w hs, ha M σ H k _ fun x H1 e1 h1 => hb M σ H1 (k.mono e1) _ fun y H2 e2 h2 => hd M x y H2 (k.al.mono (e1.trans e2)) (h1.mono e2) h2 Q fun v H3 e3 h3 => q v H3 ((e1.trans e2).trans e3) h3⟩
/-- xs[i] of ints -/
theorem ee_ixI {ns : List Int} {w : Int} (ha : EE X a δ (dL ns)) (hb : EE X b δ (.int i)) (h : atI ns i = some w) (hs : PlainIx b := by exact fun _ _ => rfl) : EE X (.Subscript a b pos) δ (.int w) := ee_ix ix_list (fun M x y H al hx hy Q q => by
  obtain ⟨l, rfl, h2⟩ := dt_dL hx
  exact ⟨l, _, i, .int w, rfl, dt_int hy, Evl.sq_of h2, by rw [atI_map, h]; rfl, q _ H (Evl.Ex.refl H) (.int w)⟩) ha hb hs
theorem ee_ixS {ns : List Int} {w : Int} (ha : EE X a δ (.scr ns)) (hb : EE X b δ (.int i)) (h : atI ns i = some w) (hs : PlainIx b := by exact fun _ _ => rfl) : EE X (.Subscript a b pos) δ (.int w) := ee_ix ix_list (fun M x y H al hx hy Q q => by
  obtain ⟨l, rfl, h2⟩ := dt_scr hx
  exact ⟨l, _, i, .int w, rfl, dt_int hy, h2, by rw [atI_map, h]; rfl, q _ H (Evl.Ex.refl H) (.int w)⟩) ha hb hs
theorem dt_atI {K : PySem.W.Frag} {M : List Addr} {H : Hp} {xs : List V} {ds : List Pd} (h : DtAll K M H xs ds) (e : atI ds i = some d) : ∃ v, atI xs i = some v ∧ Dt K M H v d := by
  unfold atI at e ⊢
  rw [h.length]
  cases hj : ixN ds.length i with
  | none =>
    rw [hj] at e
    cases e
  | some j =>
    rw [hj] at e
    exact h.get e
theorem ee_ixT (ha : EE X a δ (.tup ds)) (hb : EE X b δ (.int i)) (h : atI ds i = some d) (hs : PlainIx b := by exact fun _ _ => rfl) : EE X (.Subscript a b pos) δ d := ee_ix ix_tup (fun M x y H al hx hy Q q => by
  obtain ⟨l, xs, rfl, h2, h3⟩ := dt_tp hx
  obtain ⟨v, e1, e2⟩ := dt_atI h3 h
  exact ⟨l, xs, i, v, rfl, dt_int hy, Evl.st_of h2, e1, q v H (Evl.Ex.refl H) e2⟩) ha hb hs
theorem ee_ixL (ha : EE X a δ (.lst ds)) (hb : EE X b δ (.int i)) (h : atI ds i = some d) (hs : PlainIx b := by exact fun _ _ => rfl) : EE X (.Subscript a b pos) δ d := ee_ix ix_list (fun M x y H al hx hy Q q => by
  obtain ⟨l, xs, rfl, h2, h3⟩ := dt_sq hx
  obtain ⟨v, e1, e2⟩ := dt_atI h3 h
  exact ⟨l, xs, i, v, rfl, dt_int hy, Evl.sq_of h2, e1, q v H (Evl.Ex.refl H) e2⟩) ha hb hs
/-- of a row -/
theorem ee_r0 {r : List Int × List Int} {j : Nat} {p : Pos} (ha : EE X a δ (dR r)) : EE X (.Subscript a (.Constant (.int 0) j p) pos) δ (dL r.1) := ee_ixT ha ee_int rfl
theorem ee_r1 {r : List Int × List Int} {j : Nat} {p : Pos} (ha : EE X a δ (dR r)) : EE X (.Subscript a (.Constant (.int 1) j p) pos) δ (dL r.2) := ee_ixT ha ee_int rfl
variable {lo hi : Option Int} {elo ehi : Option Expr} {p2 : Pos}
theorem ef_cut {ds : List Pd} (ha : EE X a δ (.lst ds)) (hl : EP X elo δ lo) (hh : EP X ehi δ hi) : EF X (.Subscript a (.Slice elo ehi none p2) pos) δ (cutP ds lo hi) := fun M σ H k Q q =>
  ⟨_, pe_slice sl_list pe_w po_w po_w, ha M σ H k _ fun x H1 e1 h1 => hl M σ H1 (k.mono e1) _ fun H2 e2 => hh M σ H2 (k.mono (e1.trans e2)) _ fun H3 e3 => by
    obtain ⟨l, xs, rfl, h2, h3⟩ := dt_sq (h1.mono (e2.trans e3))
    refine ⟨l, xs, rfl, Evl.sq_of h2, fun p hp => ?_⟩
    refine q p _ _ (Evl.fresh_back ((e1.trans e2).trans e3) hp) (((e1.trans e2).trans e3).trans (Evl.Ex.new hp)) upd_same ?_
    rw [cutV_eq]
    unfold cutP
    rw [h3.length]
    exact (((h3.more hp).mono (Evl.Ex.new hp)).drop _).take _⟩
theorem ef_cutI {ns : List Int} (ha : EE X a δ (dL ns)) (hl : EP X elo δ lo) (hh : EP X ehi δ hi) : EF X (.Subscript a (.Slice elo ehi none p2) pos) δ ((cutP ns lo hi).map .int) :=
  (ef_cut ha hl hh).is (cutP_map _ _ _ _)
theorem ef_cutS {ns : List Int} (ha : EE X a δ (.scr ns)) (hl : EP X elo δ lo) (hh : EP X ehi δ hi) : EF X (.Subscript a (.Slice elo ehi none p2) pos) δ ((cutP ns lo hi).map .int) := fun M σ H k Q q =>
  ⟨_, pe_slice sl_list pe_w po_w po_w, ha M σ H k _ fun x H1 e1 h1 => hl M σ H1 (k.mono e1) _ fun H2 e2 => hh M σ H2 (k.mono (e1.trans e2)) _ fun H3 e3 => by
    obtain ⟨l, rfl, h2⟩ := dt_scr (h1.mono (e2.trans e3))
    refine ⟨l, _, rfl, h2, fun p hp => ?_⟩
    refine q p _ _ (Evl.fresh_back ((e1.trans e2).trans e3) hp) (((e1.trans e2).trans e3).trans (Evl.Ex.new hp)) upd_same ?_
    rw [cutV_eq, cutP_map]
    exact dtI _⟩
/-! ### built-ins -/
theorem ee_len {p : Pos} (ha : EE X e δ (.lst ds)) (hm : X.mg "len" = none) (hg : Gl X "len" := by rfl) (he : starEach [e] X.env = (false, eval e X.env) :: starEach [] X.env := by rfl) : EE X (.Call (.Name "len" p) [e] [] pos) δ (.int ds.length) :=
  ee_callB call_len_seq (fun M vs H al h Q q => by
    cases h with
    | cons h1 h2 =>
      cases h2
      obtain ⟨l, xs, rfl, h3, h4⟩ := dt_sq h1
      refine ⟨l, xs, rfl, .inl (Evl.sq_of h3), ?_⟩
      rw [h4.length]
      exact q _ H (Evl.Ex.refl H) (.int _)) (ea_cons ha ea_nil he) hm hg (he := he)
theorem ee_lenI {p : Pos} {ns : List Int} (ha : EE X e δ (dL ns)) (hm : X.mg "len" = none) (hg : Gl X "len" := by rfl) (he : starEach [e] X.env = (false, eval e X.env) :: starEach [] X.env := by rfl) : EE X (.Call (.Name "len" p) [e] [] pos) δ (.int ns.length) :=
  (ee_len ha hm hg he).is (by rw [List.length_map])
theorem ee_lenS {p : Pos} {ns : List Int} (ha : EE X e δ (.scr ns)) (hm : X.mg "len" = none) (hg : Gl X "len" := by rfl) (he : starEach [e] X.env = (false, eval e X.env) :: starEach [] X.env := by rfl) : EE X (.Call (.Name "len" p) [e] [] pos) δ (.int ns.length) :=
  ee_callB call_len_seq (fun M vs H al h Q q => by
    cases h with
    | cons h1 h2 =>
      cases h2
      obtain ⟨l, rfl, h3⟩ := dt_scr h1
      refine ⟨l, _, rfl, .inl h3, ?_⟩
      rw [List.length_map]
      exact q _ H (Evl.Ex.refl H) (.int _)) (ea_cons ha ea_nil he) hm hg (he := he)
theorem ee_lenT {p : Pos} (ha : EE X e δ (.tup ds)) (hm : X.mg "len" = none) (hg : Gl X "len" := by rfl) (he : starEach [e] X.env = (false, eval e X.env) :: starEach [] X.env := by rfl) : EE X (.Call (.Name "len" p) [e] [] pos) δ (.int ds.length) :=
  ee_callB call_len_seq (fun M vs H al h Q q => by
    cases h with
    | cons h1 h2 =>
      cases h2
      obtain ⟨l, xs, rfl, h3, h4⟩ := dt_tp h1
      refine ⟨l, xs, rfl, .inr (Evl.st_of h3), ?_⟩
      rw [h4.length]
      exact q _ H (Evl.Ex.refl H) (.int _)) (ea_cons ha ea_nil he) hm hg (he := he)
theorem ee_all {p : Pos} {bs : List Bool} (hc : X.calm = true) (ha : EE X e δ (.lst (bs.map .bl))) (hm : X.mg "all" = none) (hg : Gl X "all" := by rfl) (he : starEach [e] X.env = (false, eval e X.env) :: starEach [] X.env := by rfl) : EE X (.Call (.Name "all" p) [e] [] pos) δ (.bl (bs.all id)) :=
  ee_callB (cr_all hc) (fun M vs H al h Q q => by
    cases h with
    | cons h1 h2 =>
      cases h2
      obtain ⟨l, xs, rfl, h3, h4⟩ := dt_sq h1
      rw [dtB_inv h4] at h3
      exact ⟨l, bs, rfl, Evl.sq_of h3, q _ H (Evl.Ex.refl H) (.bl _)⟩) (ea_cons ha ea_nil he) hm hg (he := he)
theorem ee_any {p : Pos} {bs : List Bool} (hc : X.calm = true) (ha : EE X e δ (.lst (bs.map .bl))) (hm : X.mg "any" = none) (hg : Gl X "any" := by rfl) (he : starEach [e] X.env = (false, eval e X.env) :: starEach [] X.env := by rfl) : EE X (.Call (.Name "any" p) [e] [] pos) δ (.bl (bs.any id)) :=
  ee_callB (cr_any hc) (fun M vs H al h Q q => by
    cases h with
    | cons h1 h2 =>
      cases h2
      obtain ⟨l, xs, rfl, h3, h4⟩ := dt_sq h1
      rw [dtB_inv h4] at h3
      exact ⟨l, bs, rfl, Evl.sq_of h3, q _ H (Evl.Ex.refl H) (.bl _)⟩) (ea_cons ha ea_nil he) hm hg (he := he)
theorem ef_list {p : Pos} (ha : EE X e δ (.lst ds)) (hm : X.mg "list" = none) (hg : Gl X "list" := by rfl) (he : starEach [e] X.env = (false, eval e X.env) :: starEach [] X.env := by rfl) : EF X (.Call (.Name "list" p) [e] [] pos) δ ds :=
  ef_callT call_list_of (fun M vs H al h Q q => by
    cases h with
    | cons h1 h2 =>
      cases h2
      obtain ⟨l, xs, rfl, h3, h4⟩ := dt_sq h1
      exact ⟨l, xs, rfl, .inl (Evl.sq_of h3), fun m hm => q m xs _ hm (Evl.Ex.new hm) upd_same ((h4.more hm).mono (Evl.Ex.new hm))⟩) (ea_cons ha ea_nil he) hm hg (he := he)
theorem ee_max2 {p : Pos} (hc : X.calm = true) (ha : EE X a δ (.int i)) (hb : EE X b δ (.int j)) (hm : X.mg "max" = none) (hg : Gl X "max" := by rfl) (he : starEach [a, b] X.env = (false, eval a X.env) :: starEach [b] X.env := by rfl) (he2 : starEach [b] X.env = (false, eval b X.env) :: starEach [] X.env := by rfl) (hpl : (backTo pos (starEach [b] X.env)).any (·.1) = false := by rfl) : EE X (.Call (.Name "max" p) [a, b] [] pos) δ (.int (max i j)) :=
  ee_callB (call_max2 hc) (fun M vs H al h Q q => by
    cases h with
    | cons h1 h2 =>
      cases h2 with
      | cons h2 h3 =>
        cases h3
        cases dt_int h1
        cases dt_int h2
        refine ⟨i, j, rfl, ?_⟩
        have e : (if j > i then j else i) = max i j := by
          split <;> omega
        rw [e]
        exact q _ H (Evl.Ex.refl H) (.int _)) (ea_cons ha (ea_cons hb ea_nil he2) he) hm hg (he := he) (hpl := hpl)
theorem ee_min2 {p : Pos} (hc : X.calm = true) (ha : EE X a δ (.int i)) (hb : EE X b δ (.int j)) (hm : X.mg "min" = none) (hg : Gl X "min" := by rfl) (he : starEach [a, b] X.env = (false, eval a X.env) :: starEach [b] X.env := by rfl) (he2 : starEach [b] X.env = (false, eval b X.env) :: starEach [] X.env := by rfl) (hpl : (backTo pos (starEach [b] X.env)).any (·.1) = false := by rfl) : EE X (.Call (.Name "min" p) [a, b] [] pos) δ (.int (min i j)) :=
  ee_callB (call_min2 hc) (fun M vs H al h Q q => by
    cases h with
    | cons h1 h2 =>
      cases h2 with
      | cons h2 h3 =>
        cases h3
        cases dt_int h1
        cases dt_int h2
        refine ⟨i, j, rfl, ?_⟩
        have e : (if j < i then j else i) = min i j := by
          split <;> omega
        rw [e]
        exact q _ H (Evl.Ex.refl H) (.int _)) (ea_cons ha (ea_cons hb ea_nil he2) he) hm hg (he := he) (hpl := hpl)
/-! ### isinstance -/
def tyN : Pd → String
  | .non => "NoneType"
  | .bl _ => "bool"
  | .int _ => "int"
  | .str _ => "str"
  | .lst _ => "list"
  | .scr _ => "list"
  | .tup _ => "tuple"
  | .raw _ => ""
  | .obj _ _ _ => ""
  | .dic _ => "dict"
  | .lam _ _ _ _ => ""
end
end Lr

/-! isinstance, calls, comprehensions, statements, loops -/
namespace Lr
open PySem L2
open Evl (Ex)

section
variable {X : Cx} {δ : Dl} {a b c e : Expr} {es : List Expr} {pos : Pos} {d z d1 d2 : Pd} {ds : List Pd} {i j : Int}
/-! ### isinstance -/
theorem tyx_of {K : PySem.W.Frag} {M : List Addr} {H : Hp} {v : V} (hd : tyN d ≠ "") (h : Dt K M H v d) : TyX K H v (.type (tyN d)) := by
  cases h with
  | non => exact .base .non
  | bl b => exact .base (.bl b)
  | int i => exact .base (.int i)
  | str x => exact .base (.str x)
  | lst _ h1 _ => exact .base (.lst h1)
  | tup _ h1 _ => exact .base (.tup h1)
  | scr h1 =>
    rcases h1 with ⟨_, h1 | ⟨o, h1⟩⟩ | ⟨o, _, _, h1, h2, _⟩
    · exact .base (.lst h1)
    · exact .base (.frz h1)
    · exact .kList h1 h2
  | raw _ => exact absurd rfl hd
  | obj _ _ _ => exact absurd rfl hd
  | dic _ h1 => exact .base (.dK h1)
  | lam _ _ _ _ => exact absurd rfl hd
theorem ee_isi {p tp : Pos} {T : Str} {Tn : String} {k : Bool} (ha : EE X e δ d) (hm : X.mg "isinstance" = none) (hT : X.mg T = none) (hb : kitB (tyN d) Tn = some k := by decide +kernel) (hd : tyN d ≠ "" := by decide)
    (hv : bootBuiltins T = some (.type Tn) := by decide +kernel) (hg : Gl X "isinstance" := by rfl) (hgT : Gl X T := by rfl) (hn : T ≠ "__name__" := by decide) (hdb : (T == ("__debug__" : Str)) = false := by decide)
    (he : starEach [e, .Name T tp] X.env = (false, eval e X.env) :: starEach [.Name T tp] X.env := by rfl) (hpl : (backTo pos (starEach [.Name T tp] X.env)).any (·.1) = false := by rfl) : EE X (.Call (.Name "isinstance" p) [e, .Name T tp] [] pos) δ (.bl k) := fun M σ H kn Q q =>
  ⟨_, pe_callB (id := "isinstance") call_isi hg hm (by decide +kernel) (pa_cons pe_w (pa_cons (pe_bltn (v := .ty Tn) hgT hT hv rfl hn hdb) pa_nil (by rfl)) he) (by decide) (by decide) he hpl, ha M σ H kn _ fun v H1 e1 h1 =>
    ⟨v, .ty Tn, _, _, k, rfl, .ty Tn, tyx_of hd h1, kit_ty hb, q _ H1 e1 (.bl k)⟩⟩

/-! ### calls of defs -/
/-- a def that hands back data | a new list | a new row -/
def SpR (K : PySem.W.Frag) (R : List Pd → Pd → Prop) : Sp := fun vs H Q _ => ∃ M ds d, Al M H ∧ DtAll K M H vs ds ∧ R ds d ∧ ∀ v H', Ex H H' → Dt K M H' v d → Q v H'
def SpF (K : PySem.W.Frag) (R : List Pd → List Pd → Prop) : Sp := fun vs H Q _ => ∃ M ds zs, Al M H ∧ DtAll K M H vs ds ∧ R ds zs ∧ ∀ a xs H', H a = none → Ex H H' → H' a = some (.lst xs) → DtAll K (a :: M) H' xs zs → Q (.ref a) H'
def SpW (K : PySem.W.Frag) (R : List Pd → List Int × List Int → Prop) : Sp := fun vs H Q _ => ∃ M ds r, Al M H ∧ DtAll K M H vs ds ∧ R ds r ∧ ∀ p a b H', H p = none → H a = none → H b = none → a ≠ b → Ex H H' → H' p = some (.tup [.ref a, .ref b]) →
  H' a = some (.lst (r.1.map V.int)) → H' b = some (.lst (r.2.map V.int)) → Q (.ref p) H'
/-- a def stands there and keeps its promise -/
def Has (P : Program) (w : World) (K : PySem.W.Frag) (mg : Str → Option Value) (base : Heap) (CX : CXT) (x : Str) (k : Nat) (ps : List Str) (sp : Sp) : Prop :=
  ∃ f fd, FnOk P w K mg base CX k f fd ps sp ∧ mg x = some (.ref f) ∧ PySem.W.keepIn K (.ref f) = true ∧ Binds K fd ps []
variable {CX : CXT} {x : Str} {k : Nat} {ps : List Str} {p : Pos}
theorem ee_call {R : List Pd → Pd → Prop} (F : Has X.prog X.w X.K X.mg X.base CX x k ps (SpR X.K R)) (hr : Room k X.A) (hx : Passes CX X E0) (ha : EA X (e :: es) δ ds) (hR : R ds d) (hg : Gl X x := by rfl)
    (hdb : (x == ("__debug__" : Str)) = false := by decide) (he : starEach (e :: es) X.env = (false, eval e X.env) :: starEach es X.env := by rfl) (hpl : (backTo pos (starEach es X.env)).any (·.1) = false := by rfl) : EE X (.Call (.Name x p) (e :: es) [] pos) δ d := fun M σ H kn Q q => by
  obtain ⟨f, fd, F, g, kp, b⟩ := F
  refine ⟨_, pe_call F hr hg g kp b .nil hx pa_w hdb he hpl, ha M σ H kn _ fun vs H1 e1 h1 => ⟨M, ds, d, kn.al.mono e1, by rw [List.append_nil]; exact h1, hR, fun v H2 e2 h2 => q v H2 (e1.trans e2) h2⟩⟩
theorem ef_call {zs : List Pd} {R : List Pd → List Pd → Prop} (F : Has X.prog X.w X.K X.mg X.base CX x k ps (SpF X.K R)) (hr : Room k X.A) (hx : Passes CX X E0) (ha : EA X (e :: es) δ ds) (hR : R ds zs) (hg : Gl X x := by rfl)
    (hdb : (x == ("__debug__" : Str)) = false := by decide) (he : starEach (e :: es) X.env = (false, eval e X.env) :: starEach es X.env := by rfl) (hpl : (backTo pos (starEach es X.env)).any (·.1) = false := by rfl) : EF X (.Call (.Name x p) (e :: es) [] pos) δ zs := fun M σ H kn Q q => by
  obtain ⟨f, fd, F, g, kp, b⟩ := F
  refine ⟨_, pe_call F hr hg g kp b .nil hx pa_w hdb he hpl, ha M σ H kn _ fun vs H1 e1 h1 => ⟨M, ds, zs, kn.al.mono e1, by rw [List.append_nil]; exact h1, hR, fun a xs H2 hn e2 h2 h3 => q a xs H2 (Evl.fresh_back e1 hn) (e1.trans e2) h2 h3⟩⟩
/-- a new row -/
def EWR (X : Cx) (e : Expr) (δ : Dl) (r : List Int × List Int) : Prop := ∀ M σ H, Kn X.K M H σ δ → ∀ Q : VK, (∀ p a b H', H p = none → H a = none → H b = none → a ≠ b → Ex H H' → H' p = some (.tup [.ref a, .ref b]) →
  H' a = some (.lst (r.1.map V.int)) → H' b = some (.lst (r.2.map V.int)) → Q (.ref p) H') → TW X e σ H Q
theorem EWR.is {r s : List Int × List Int} (h : EWR X e δ r) (q : r = s) : EWR X e δ s := q ▸ h
theorem dt_row {K : PySem.W.Frag} {M : List Addr} {H H' : Hp} {p a b : Addr} {r : List Int × List Int} (al : Al M H) (hp : H p = none) (ha : H a = none) (hb : H b = none) (e1 : H' p = some (.tup [.ref a, .ref b]))
    (e2 : H' a = some (.lst (r.1.map V.int))) (e3 : H' b = some (.lst (r.2.map V.int))) : Dt K M H' (.ref p) (dR r) :=
  .tup (al.nw hp) e1 (.cons (.lst (al.nw ha) e2 (dtI _)) (.cons (.lst (al.nw hb) e3 (dtI _)) .nil))
theorem EWR.ee {r : List Int × List Int} (h : EWR X e δ r) : EE X e δ (dR r) := fun M σ H k Q q => h M σ H k Q fun p a b H' hp ha hb _ e1 h1 h2 h3 => q _ H' e1 (dt_row k.al hp ha hb h1 h2 h3)
theorem ew_call {r : List Int × List Int} {R : List Pd → List Int × List Int → Prop} (F : Has X.prog X.w X.K X.mg X.base CX x k ps (SpW X.K R)) (hr : Room k X.A) (hx : Passes CX X E0) (ha : EA X (e :: es) δ ds) (hR : R ds r) (hg : Gl X x := by rfl)
    (hdb : (x == ("__debug__" : Str)) = false := by decide) (he : starEach (e :: es) X.env = (false, eval e X.env) :: starEach es X.env := by rfl) (hpl : (backTo pos (starEach es X.env)).any (·.1) = false := by rfl) : EWR X (.Call (.Name x p) (e :: es) [] pos) δ r := fun M σ H kn Q q => by
  obtain ⟨f, fd, F, g, kp, b⟩ := F
  refine ⟨_, pe_call F hr hg g kp b .nil hx pa_w hdb he hpl, ha M σ H kn _ fun vs H1 e1 h1 => ⟨M, ds, r, kn.al.mono e1, by rw [List.append_nil]; exact h1, hR, fun p a b H2 hp ha hb ab e2 h2 h3 h4 =>
    q p a b H2 (Evl.fresh_back e1 hp) (Evl.fresh_back e1 ha) (Evl.fresh_back e1 hb) ab (e1.trans e2) h2 h3 h4⟩⟩
/-- (l, m) of two new lists -/
theorem ew_tup {x1 : Nat} {l m : List Int} (ha : EF X a δ (l.map .int)) (hb : EF X b δ (m.map .int)) (he : starEach [a, b] X.env = (false, eval a X.env) :: starEach [b] X.env := by rfl) (he2 : starEach [b] X.env = (false, eval b X.env) :: starEach [] X.env := by rfl) : EWR X (.Tuple [a, b] x1 pos) δ (l, m) := fun M σ H kn Q q =>
  ⟨_, pe_tup (pa_cons pe_w (pa_cons pe_w pa_nil he2) he), ha M σ H kn _ fun u xs H1 hn e1 h1 h2 => hb M σ H1 (kn.mono e1) _ fun w ys H2 hn2 e2 h3 h4 => ⟨by show 2 ≤ sizeLine; decide, fun p hp => by
    rw [dtI_inv h2] at h1
    rw [dtI_inv h4] at h3
    have n1 : u ≠ p := ne_of_none (e2 _ _ h1) hp
    have n2 : w ≠ p := ne_of_none h3 hp
    refine q p u w _ (Evl.fresh_back (e1.trans e2) hp) hn (Evl.fresh_back e1 hn2) (ne_of_none h1 hn2) ((e1.trans e2).trans (Evl.Ex.new hp)) upd_same ?_ ?_
    · rw [upd_ne n1]
      exact e2 _ _ h1
    · rw [upd_ne n2]
      exact h3⟩⟩

/-! ### what is walked -/
def IW (X : Cx) (tg iter : Expr) (δ : Dl) (n : Nat) (Yd : Nat → Pd) : Prop := ∀ M σ H, Kn X.K M H σ δ → ∀ R : It → Hp → Prop,
  (∀ J H1 G Y, Ex H H1 → Walk J n G Y → (∀ H', ExM M H1 H' → G H') → (∀ M' i H2 v H', (∀ a, a ∈ M' → a ∈ M ∨ H1 a = none) → i < n → Y i H2 v H' → ExM M' H1 H2 → Al M' H2 → Ex H2 H' ∧ Dt X.K M' H' v (Yd i)) → R J H1) → TIW X tg iter σ H R
theorem iw_list {tg : Expr} {Yd : Nat → Pd} (h : EE X e δ (.lst ds)) (hY : ∀ i, i < ds.length → ds[i]? = some (Yd i)) : IW X tg e δ ds.length Yd := fun M σ H kn R q =>
  ⟨_, pi_list pe_w, h M σ H kn _ fun v H1 e1 h1 => by
    cases h1 with
    | @lst a xs _ h0 h2 h3 =>
      refine ⟨a, rfl, ⟨xs, Evl.sq_of h2⟩, q _ H1 _ _ e1 (by rw [← h3.length]; exact walk_list (xs := xs)) (fun H' e2 => Evl.sq_of (e2 _ _ h0 h2)) fun M' i H2 v H' hM hi y e2 _ => ?_⟩
      obtain ⟨rfl, hv⟩ := y
      refine ⟨Evl.Ex.refl _, ?_⟩
      obtain ⟨u, hu, g⟩ := ((DtAll.chg hM _ _ h3).monoM e2).get (hY i hi)
      rw [hv] at hu
      cases hu
      exact g⟩
theorem iw_listI {tg : Expr} {ns : List Int} {f : Nat → Int} (h : EE X e δ (dL ns)) (hf : ∀ i, i < ns.length → ns[i]? = some (f i)) : IW X tg e δ ns.length (fun i => .int (f i)) := by
  have g := iw_list (tg := tg) (Yd := fun i => .int (f i)) h (fun i hi => by
    rw [List.length_map] at hi
    rw [List.getElem?_map, hf i hi]
    rfl)
  rw [List.length_map] at g
  exact g
theorem iw_scr {tg : Expr} {ns : List Int} {f : Nat → Int} (h : EE X e δ (.scr ns)) (hf : ∀ i, i < ns.length → ns[i]? = some (f i)) : IW X tg e δ ns.length (fun i => .int (f i)) := fun M σ H kn R q =>
  ⟨_, pi_list pe_w, h M σ H kn _ fun v H1 e1 h1 => by
    cases h1 with
    | @scr a _ h2 =>
      have mono : ∀ H', ExM M H1 H' → SqL X.K H' a (ns.map V.int) := fun H' e2 => by
        rcases h2 with ⟨h0, h2 | ⟨o, h2⟩⟩ | h2
        · exact .inl (.inl (e2 _ _ h0 h2))
        · exact .inl (.inr ⟨o, e2 _ _ h0 h2⟩)
        · exact .inr h2
      refine ⟨a, rfl, ⟨_, h2.sq⟩, q _ H1 _ _ e1 (by rw [← List.length_map (as := ns) V.int]; exact walk_list) mono fun M' i H2 v H' hM hi y e2 _ => ?_⟩
      obtain ⟨rfl, hv⟩ := y
      refine ⟨Evl.Ex.refl _, ?_⟩
      rw [List.getElem?_map, hf i hi] at hv
      cases hv
      exact .int _⟩
theorem iw_tup {tg : Expr} {Yd : Nat → Pd} (h : EE X e δ (.tup ds)) (hY : ∀ i, i < ds.length → ds[i]? = some (Yd i)) : IW X tg e δ ds.length Yd := fun M σ H kn R q =>
  ⟨_, pi_tup pe_w, h M σ H kn _ fun v H1 e1 h1 => by
    cases h1 with
    | @tup a xs _ h0 h2 h3 =>
      refine ⟨a, rfl, ⟨xs, Evl.st_of h2⟩, q _ H1 _ _ e1 (by rw [← h3.length]; exact walk_tup (xs := xs)) (fun H' e2 => Evl.st_of (e2 _ _ h0 h2)) fun M' i H2 v H' hM hi y e2 _ => ?_⟩
      obtain ⟨rfl, hv⟩ := y
      refine ⟨Evl.Ex.refl _, ?_⟩
      obtain ⟨u, hu, g⟩ := ((DtAll.chg hM _ _ h3).monoM e2).get (hY i hi)
      rw [hv] at hu
      cases hu
      exact g⟩
theorem iw_range1 {tg : Expr} {n : Int} (ha : EE X a δ (.int n)) (h1 : n ≤ 2 ^ 61) (h0 : -(2 ^ 61) ≤ n) (hm : X.mg "range" = none) (hg : Gl X "range" := by rfl) (hs : starEach [a] X.env = [(false, eval a X.env)] := by rfl) : IW X tg (.Call (.Name "range" p) [a] [] pos) δ n.toNat (fun i => .int i) := fun M σ H kn R q =>
  ⟨_, pi_range1 hg hm (pa_cons pe_w pa_nil hs) hs, ha M σ H kn _ fun v H1 e1 g1 => ⟨n, by rw [dt_int g1], by omega, by omega, q _ H1 _ _ e1 walk_range (fun _ _ => trivial) fun M' i H2 v H' hM hi y e2 _ => by
    obtain ⟨rfl, rfl⟩ := y
    refine ⟨Evl.Ex.refl _, ?_⟩
    show Dt X.K M' _ (V.int (0 + (i : Int))) (.int i)
    rw [Int.zero_add]
    exact .int _⟩⟩
theorem iw_range2 {tg : Expr} {lo n : Int} (ha : EE X a δ (.int lo)) (hb : EE X b δ (.int n)) (hlo : -(2 ^ 61) ≤ lo ∧ lo ≤ 2 ^ 61) (hn : -(2 ^ 61) ≤ n ∧ n ≤ 2 ^ 61) (hm : X.mg "range" = none) (hg : Gl X "range" := by rfl) (hs : starEach [a, b] X.env = [(false, eval a X.env), (false, eval b X.env)] := by rfl) (hs2 : starEach [b] X.env = [(false, eval b X.env)] := by rfl) :
    IW X tg (.Call (.Name "range" p) [a, b] [] pos) δ (n - lo).toNat (fun i => .int (lo + i)) := fun M σ H kn R q =>
  ⟨_, pi_range2 hg hm (pa_cons pe_w (pa_cons pe_w pa_nil hs2) (by rw [hs, hs2])) hs hs2, ha M σ H kn _ fun v H1 e1 g1 => hb M σ H1 (kn.mono e1) _ fun u H2 e2 g2 => ⟨lo, n, by rw [dt_int g1, dt_int g2], by omega, q _ H2 _ _ (e1.trans e2) walk_range (fun _ _ => trivial) fun M' i H2 v H' hM hi y e2 _ => by
    obtain ⟨rfl, rfl⟩ := y
    exact ⟨Evl.Ex.refl _, .int _⟩⟩⟩
theorem iw_enumS {elts : List Expr} {kk : Nat} {tpos : Pos} {ns : List Int} {f : Nat → Int} (h : EE X e δ (.scr ns)) (hf : ∀ i, i < ns.length → ns[i]? = some (f i)) (hm : X.mg "enumerate" = none) (hg : Gl X "enumerate" := by rfl) (hs : starEach [e] X.env = [(false, eval e X.env)] := by rfl) :
    IW X (.Tuple elts kk tpos) (.Call (.Name "enumerate" p) [e] [] pos) δ ns.length (fun i => .tup [.int i, .int (f i)]) := fun M σ H kn R q =>
  ⟨_, pi_enum hg hm (pa_cons pe_w pa_nil hs) hs, h M σ H kn _ fun v H1 e1 h1 => by
    cases h1 with
    | @scr a _ h2 =>
      have mono : ∀ H', ExM M H1 H' → SqL X.K H' a (ns.map V.int) := fun H' e2 => by
        rcases h2 with ⟨h0, h2 | ⟨o, h2⟩⟩ | h2
        · exact .inl (.inl (e2 _ _ h0 h2))
        · exact .inl (.inr ⟨o, e2 _ _ h0 h2⟩)
        · exact .inr h2
      refine ⟨a, _, rfl, h2.sq, q _ H1 _ _ e1 (by rw [← List.length_map (as := ns) V.int]; exact walk_enum) mono fun M' i H2 v H' hM hi y e2 al2 => ?_⟩
      obtain ⟨T, x, w, rfl, hn, rfl, hx, hw⟩ := y
      refine ⟨Evl.Ex.new hn, ?_⟩
      cases hx
      have hw : (ns.map V.int)[i]? = some w := hw
      rw [List.getElem?_map, hf i hi] at hw
      cases hw
      exact .tup (al2.nw hn) upd_same (.cons (.int _) (.cons (.int _) .nil))⟩
theorem iw_enumI {elts : List Expr} {kk : Nat} {tpos : Pos} {ns : List Int} {f : Nat → Int} (h : EE X e δ (dL ns)) (hf : ∀ i, i < ns.length → ns[i]? = some (f i)) (hm : X.mg "enumerate" = none) (hg : Gl X "enumerate" := by rfl) (hs : starEach [e] X.env = [(false, eval e X.env)] := by rfl) :
    IW X (.Tuple elts kk tpos) (.Call (.Name "enumerate" p) [e] [] pos) δ ns.length (fun i => .tup [.int i, .int (f i)]) := iw_enumS h.scr hf hm hg hs

/-! ### comprehensions of flat things -/
/-- worth the same on every heap -/
def Flat (d : Pd) : Prop := ∀ (K : PySem.W.Frag) (M M' : List Addr) (H H' : Hp) (v : V), Dt K M H v d → Dt K M' H' v d
theorem flat_int {i : Int} : Flat (.int i) := fun K M M' H H' v h => by
  cases h
  exact .int _
theorem flat_bl {i : Bool} : Flat (.bl i) := fun K M M' H H' v h => by
  cases h
  exact .bl _
theorem flat_str {i : Str} : Flat (.str i) := fun K M M' H H' v h => by
  cases h
  exact .str _
theorem flat_non : Flat .non := fun K M M' H H' v h => by
  cases h
  exact .non
/-- the element's weakest reading, at any turn -/
def teW (X : Cx) (elt : Expr) (scope : Scope) : TE := fun σ H Q => ∀ (s : Shared) (Hb : Hp) (C : Addr) (cl : List (Str × Addr)) (fp : List Addr), TW (X.blk s Hb scope (compEnvC scope cl C X.env) fp) elt σ H Q
theorem pe_te {elt : Expr} {scope : Scope} (s : Shared) (H : Hp) (C : Addr) (cl : List (Str × Addr)) (fp : List Addr) : PE (X.blk s H scope (compEnvC scope cl C X.env) fp) elt (teW X elt scope) :=
  ⟨fun pins s' σ H' Q I h => pe_w.run pins s' σ H' Q I (h s H C cl fp)⟩
theorem lcG_read {tg elt iter : Expr} {scope : Scope} {own : List (Str × Nat)} {n : Nat} {Yd : Nat → Pd} {f : Nat → Pd} {δ' : Nat → Dl} {g : TG} (hi : IW X tg iter δ n Yd)
    (hgt : ∀ (i : Nat) M v τ H, i < n → Kn X.K M H τ (wipeD δ (own.map (·.2))) → Dt X.K M H v (Yd i) → ∀ Q : St → Hp → Prop, (∀ τ', Kn X.K M H τ' (δ' i) → L2.wipe τ' (own.map (·.2)) = L2.wipe τ (own.map (·.2)) → Q τ' H) → g v τ H Q)
    (hn : n ≤ 50000)
    (he : ∀ (s : Shared) (H : Hp) (C : Addr) (cl : List (Str × Addr)) (fp : List Addr) (i : Nat), i < n → EE (X.blk s H scope (compEnvC scope cl C X.env) fp) elt (δ' i) (f i))
    {M : List Addr} {σ : L2.St} {H : Hp} (kn : Kn X.K M H σ δ) (Q : VK) (q : ∀ a xs H', H a = none → Ex H H' → H' a = some (.lst xs) → DtAll X.K (a :: M) H' xs ((List.range n).map f) → Q (.ref a) H') :
    tLc (TIW X tg iter) g tYes (teW X elt scope) (own.map (·.2)) σ H Q := by
  refine hi M σ H kn _ fun J H1 G Y e1 w hG hY Dl hD => ?_
  refine lc_it w (g := g) (tt := tYes) (te := teW X elt scope) (vs := own.map (·.2)) (σ := σ) (Qd := fun H' => Q (.ref Dl) H') (fun i H' => Ex H1 H' ∧ ∃ acc, H' Dl = some (.lst acc) ∧ DtAll X.K (Dl :: M) H' acc ((List.range i).map f)) ⟨Evl.Ex.new hD, [], upd_same, .nil⟩ (fun i H' _ p => hG H' (exM p.1)) ?_ ?_
  · intro i v H2 H3 hlt p y
    obtain ⟨p2, acc, p3, p4⟩ := p
    have kn2 : Kn X.K (Dl :: M) H2 σ δ := (kn.mono e1).more hD p2 p3
    obtain ⟨y1, y2⟩ := hY (Dl :: M) i H2 v H3 (fun a ha => (List.mem_cons.mp ha).elim (fun z => .inr (by rw [z]; exact hD)) .inl) hlt y (exM p2) kn2.al
    refine hgt i (Dl :: M) v _ H3 hlt ((kn2.mono y1).wipe _) y2 _ fun τ' kt hw => ⟨by rw [hw, wipe_idem], ?_⟩
    show ∀ (s : Shared) (Hb : Hp) (C : Addr) (cl : List (Str × Addr)) (fp : List Addr), _
    intro s Hb C cl fp
    refine he s Hb C cl fp i hlt (Dl :: M) τ' H3 kt _ fun z H4 e4 h4 => ⟨acc, e4 _ _ (y1 _ _ p3), ?_, ?_⟩
    · rw [p4.length, List.length_map, List.length_range]
      exact Evl.sz_lt (by omega)
    · have exu : Ex H1 (upd H4 Dl (.lst (acc ++ [z]))) := fun a o h => by
        rw [upd_ne (ne_of_none h hD)]
        exact ((p2.trans y1).trans e4) a o h
      refine ⟨exu, _, upd_same, ?_⟩
      rw [List.range_succ, List.map_append]
      exact DtAll.app ((p4.mono (y1.trans e4)).monoM (ExM.upd (List.mem_cons_self ..))) (.cons (h4.monoM (ExM.upd (List.mem_cons_self ..))) .nil)
  · intro H' p
    obtain ⟨p2, acc, p3, p4⟩ := p
    exact q Dl acc H' (Evl.fresh_back e1 hD) (e1.trans p2) p3 p4
theorem ef_lcG {tg elt iter : Expr} {scope : Scope} {own : List (Str × Nat)} {n : Nat} {Yd : Nat → Pd} {f : Nat → Pd} {δ' : Nat → Dl} {g : TG} (hc : X.calm = true) (hN : X.N.Nodup) (hi : IW X tg iter δ n Yd) (ok : BlkOk X.N X.env.scope scope own)
    (hg : ∀ (s : Shared) (H : Hp) (C : Addr) (cl : List (Str × Addr)) (fp : List Addr), PG (X.blk s H scope (compEnvC scope cl C X.env) fp) tg g)
    (hgt : ∀ (i : Nat) M v τ H, i < n → Kn X.K M H τ (wipeD δ (own.map (·.2))) → Dt X.K M H v (Yd i) → ∀ Q : St → Hp → Prop, (∀ τ', Kn X.K M H τ' (δ' i) → L2.wipe τ' (own.map (·.2)) = L2.wipe τ (own.map (·.2)) → Q τ' H) → g v τ H Q)
    (hn : n ≤ 50000)
    (he : ∀ (s : Shared) (H : Hp) (C : Addr) (cl : List (Str × Addr)) (fp : List Addr) (i : Nat), i < n → EE (X.blk s H scope (compEnvC scope cl C X.env) fp) elt (δ' i) (f i)) (hs : ∀ x, foldedSetIterable iter X.env x = pure x := by intro _; rfl) :
    EF X (.ListComp elt [⟨tg, iter, [], 0⟩] scope pos) δ ((List.range n).map f) := fun M σ H kn Q q =>
  ⟨_, pe_lc hc hN pi_w ok hg (fun _ _ _ _ _ => pts_nil) pe_te hs, lcG_read hi hgt hn he kn Q q⟩
/-- one name as the target -/
theorem ef_lc {tx : Str} {tp : Pos} {elt iter : Expr} {scope : Scope} {own : List (Str × Nat)} {n jx : Nat} {Yd : Nat → Pd} {f : Nat → Pd} (hc : X.calm = true) (hN : X.N.Nodup) (hi : IW X (.Name tx tp) iter δ n Yd) (ok : BlkOk X.N X.env.scope scope own)
    (hg : ∀ (s : Shared) (H : Hp) (C : Addr) (cl : List (Str × Addr)) (fp : List Addr), PG (X.blk s H scope (compEnvC scope cl C X.env) fp) (.Name tx tp) (gName jx)) (hj : jx ∈ own.map (·.2)) (hn : n ≤ 50000) (hf : ∀ i, i < n → Flat (f i))
    (he : ∀ (s : Shared) (H : Hp) (C : Addr) (cl : List (Str × Addr)) (fp : List Addr) (i : Nat), i < n → EE (X.blk s H scope (compEnvC scope cl C X.env) fp) elt ((wipeD δ (own.map (·.2))).set jx (some (Yd i))) (f i)) (hs : ∀ x, foldedSetIterable iter X.env x = pure x := by intro _; rfl) :
    EF X (.ListComp elt [⟨.Name tx tp, iter, [], 0⟩] scope pos) δ ((List.range n).map f) :=
  ef_lcG hc hN hi ok hg (fun i M v τ H _ k h Q q => q _ (k.set jx h) (wipe_set _ _ hj)) hn he hs
/-- the same, any elements -/
theorem ef_lcX {tx : Str} {tp : Pos} {elt iter : Expr} {scope : Scope} {own : List (Str × Nat)} {n jx : Nat} {Yd : Nat → Pd} {f : Nat → Pd} (hc : X.calm = true) (hN : X.N.Nodup) (hi : IW X (.Name tx tp) iter δ n Yd) (ok : BlkOk X.N X.env.scope scope own)
    (hg : ∀ (s : Shared) (H : Hp) (C : Addr) (cl : List (Str × Addr)) (fp : List Addr), PG (X.blk s H scope (compEnvC scope cl C X.env) fp) (.Name tx tp) (gName jx)) (hj : jx ∈ own.map (·.2)) (hn : n ≤ 50000)
    (he : ∀ (s : Shared) (H : Hp) (C : Addr) (cl : List (Str × Addr)) (fp : List Addr) (i : Nat), i < n → EE (X.blk s H scope (compEnvC scope cl C X.env) fp) elt ((wipeD δ (own.map (·.2))).set jx (some (Yd i))) (f i)) (hs : ∀ x, foldedSetIterable iter X.env x = pure x := by intro _; rfl) :
    EF X (.ListComp elt [⟨.Name tx tp, iter, [], 0⟩] scope pos) δ ((List.range n).map f) :=
  ef_lcG hc hN hi ok hg (fun i M v τ H _ k h Q q => q _ (k.set jx h) (wipe_set _ _ hj)) hn he hs
/-- a pair of names -/
theorem ef_lc2 {tx ty : Str} {tp tq tpos : Pos} {kk : Nat} {elt iter : Expr} {scope : Scope} {own : List (Str × Nat)} {n jx jy : Nat} {Ya Yb : Nat → Pd} {f : Nat → Pd} (hc : X.calm = true) (hN : X.N.Nodup) (hi : IW X (.Tuple [.Name tx tp, .Name ty tq] kk tpos) iter δ n (fun i => .tup [Ya i, Yb i])) (ok : BlkOk X.N X.env.scope scope own)
    (hg : ∀ (s : Shared) (H : Hp) (C : Addr) (cl : List (Str × Addr)) (fp : List Addr), PG (X.blk s H scope (compEnvC scope cl C X.env) fp) (.Tuple [.Name tx tp, .Name ty tq] kk tpos) (gTup X.K 2 (gCons (gName jx) (gCons (gName jy) gNil)))) (hj : jx ∈ own.map (·.2)) (hj2 : jy ∈ own.map (·.2)) (hn : n ≤ 50000) (hf : ∀ i, i < n → Flat (f i))
    (he : ∀ (s : Shared) (H : Hp) (C : Addr) (cl : List (Str × Addr)) (fp : List Addr) (i : Nat), i < n → EE (X.blk s H scope (compEnvC scope cl C X.env) fp) elt (((wipeD δ (own.map (·.2))).set jx (some (Ya i))).set jy (some (Yb i))) (f i)) (hs : ∀ x, foldedSetIterable iter X.env x = pure x := by intro _; rfl) :
    EF X (.ListComp elt [⟨.Tuple [.Name tx tp, .Name ty tq] kk tpos, iter, [], 0⟩] scope pos) δ ((List.range n).map f) :=
  ef_lcG hc hN hi ok hg (fun i M v τ H _ k h Q q => by
    obtain ⟨a, xs, rfl, h1, h2⟩ := dt_tp h
    cases h2 with
    | @cons v1 _ _ _ g1 h3 =>
      cases h3 with
      | @cons v2 _ _ _ g2 h4 =>
        cases h4
        exact ⟨a, _, rfl, Evl.st_of h1, rfl, v1, [v2], rfl, v2, [], rfl, rfl, q _ ((k.set jx g1).set jy g2) (by rw [wipe_set _ _ hj2, wipe_set _ _ hj])⟩) hn he hs
end
end Lr

/-! statements, loops, defs -/
namespace Lr
open PySem L2
open Evl (Ex)

section
variable {X : Cx} {δ : Dl} {a b c e : Expr} {es : List Expr} {rest body orelse : List Stmt} {pos : Pos} {d z d1 d2 : Pd} {ds : List Pd} {i j : Nat} {x y : Str} {D : Ends} {M : List Addr} {Hb H : Hp} {σ : L2.St}
theorem blk_nil (h : D.nx σ H) : Blk X [] D σ H := ⟨_, pss_nil, h⟩
/-- name = e, by its very value -/
theorem blk_setV (nd : X.N.Nodup) {p' : Pos} (i : Nat) (he : EE X e δ d) (k : EO X.K M Hb H σ δ) (q : ∀ v H', Ex H H' → Dt X.K M H' v d → EO X.K M Hb H' (σ.set i (some v)) (δ.set i (some d)) → Blk X rest D (σ.set i (some v)) H')
    (hi : X.N[i]? = some x := by rfl) (hx : Loc X.env.scope x := by first | exact Or.inl rfl | exact Or.inr rfl) (hs : swapsWith e (some (.Name x p')) pos.line X.env = pure false := by rfl)
    (hf : X.fn x = true ∨ X.env.scope.names.lookup x = some .local := by first | exact .inl rfl | exact .inr rfl) : Blk X (.Assign [.Name x p'] e pos :: rest) D σ H :=
  ⟨_, pss_cons (ps_set nd hi hx pe_w hs hf) pss_w, he M σ H k.kn _ fun v H' e1 h1 => q v H' e1 h1 ((k.mono e1).set i h1)⟩
theorem blk_set (nd : X.N.Nodup) {p' : Pos} (i : Nat) (he : EE X e δ d) (k : EO X.K M Hb H σ δ) (q : ∀ σ' H', Ex H H' → EO X.K M Hb H' σ' (δ.set i (some d)) → Blk X rest D σ' H')
    (hi : X.N[i]? = some x := by rfl) (hx : Loc X.env.scope x := by first | exact Or.inl rfl | exact Or.inr rfl) (hs : swapsWith e (some (.Name x p')) pos.line X.env = pure false := by rfl)
    (hf : X.fn x = true ∨ X.env.scope.names.lookup x = some .local := by first | exact .inl rfl | exact .inr rfl) : Blk X (.Assign [.Name x p'] e pos :: rest) D σ H :=
  blk_setV nd i he k (fun v H' e1 _ k1 => q _ H' e1 k1) hi hx hs hf
/-- name = a new list -/
theorem blk_setF (nd : X.N.Nodup) {p' : Pos} (i : Nat) (he : EF X e δ ds) (k : EO X.K M Hb H σ δ) (q : ∀ a xs H', H a = none → Ex H H' → H' a = some (.lst xs) → DtAll X.K (a :: M) H' xs ds → EO X.K M Hb H' σ δ → Blk X rest D (σ.set i (some (.ref a))) H')
    (hi : X.N[i]? = some x := by rfl) (hx : Loc X.env.scope x := by first | exact Or.inl rfl | exact Or.inr rfl) (hs : swapsWith e (some (.Name x p')) pos.line X.env = pure false := by rfl)
    (hf : X.fn x = true ∨ X.env.scope.names.lookup x = some .local := by first | exact .inl rfl | exact .inr rfl) : Blk X (.Assign [.Name x p'] e pos :: rest) D σ H :=
  ⟨_, pss_cons (ps_set nd hi hx pe_w hs hf) pss_w, he M σ H k.kn _ fun v xs H' n1 e1 h1 h2 => q v xs H' n1 e1 h1 h2 (k.mono e1)⟩
/-- name = a new row -/
theorem blk_setW (nd : X.N.Nodup) {p' : Pos} {r : List Int × List Int} (i : Nat) (he : EWR X e δ r) (k : EO X.K M Hb H σ δ) (q : ∀ p a b H', H p = none → H a = none → H b = none → a ≠ b → Ex H H' → H' p = some (.tup [.ref a, .ref b]) →
  H' a = some (.lst (r.1.map V.int)) → H' b = some (.lst (r.2.map V.int)) → EO X.K M Hb H' (σ.set i (some (.ref p))) (δ.set i (some (dR r))) → Blk X rest D (σ.set i (some (.ref p))) H')
    (hi : X.N[i]? = some x := by rfl) (hx : Loc X.env.scope x := by first | exact Or.inl rfl | exact Or.inr rfl) (hs : swapsWith e (some (.Name x p')) pos.line X.env = pure false := by rfl)
    (hf : X.fn x = true ∨ X.env.scope.names.lookup x = some .local := by first | exact .inl rfl | exact .inr rfl) : Blk X (.Assign [.Name x p'] e pos :: rest) D σ H :=
  ⟨_, pss_cons (ps_set nd hi hx pe_w hs hf) pss_w, he M σ H k.kn _ fun p a b H' hp ha hb ab e1 h1 h2 h3 => q p a b H' hp ha hb ab e1 h1 h2 h3 ((k.mono e1).set i (dt_row k.kn.al hp ha hb h1 h2 h3))⟩
/-- name = [..], the name a local, on one line -/
theorem blk_setLcG {tg elt iter : Expr} {scope : Scope} {own : List (Str × Nat)} {n : Nat} {Yd : Nat → Pd} {f : Nat → Pd} {δ' : Nat → Dl} {g : TG} {py cp : Pos} (nd : X.N.Nodup) (hc : X.calm = true) (hi : IW X tg iter δ n Yd) (ok : BlkOk X.N X.env.scope scope own)
    (hg : ∀ (s : Shared) (H : Hp) (C : Addr) (cl : List (Str × Addr)) (fp : List Addr), PG (X.blk s H scope (compEnvC scope cl C X.env) fp) tg g)
    (hgt : ∀ (i : Nat) M v τ H, i < n → Kn X.K M H τ (wipeD δ (own.map (·.2))) → Dt X.K M H v (Yd i) → ∀ Q : St → Hp → Prop, (∀ τ', Kn X.K M H τ' (δ' i) → L2.wipe τ' (own.map (·.2)) = L2.wipe τ (own.map (·.2)) → Q τ' H) → g v τ H Q)
    (hn : n ≤ 50000)
    (he : ∀ (s : Shared) (H : Hp) (C : Addr) (cl : List (Str × Addr)) (fp : List Addr) (i : Nat), i < n → EE (X.blk s H scope (compEnvC scope cl C X.env) fp) elt (δ' i) (f i))
    (k : EO X.K M Hb H σ δ) (q : ∀ a xs H', H a = none → Ex H H' → H' a = some (.lst xs) → DtAll X.K (a :: M) H' xs ((List.range n).map f) → EO X.K M Hb H' σ δ → Blk X rest D (σ.set i (some (.ref a))) H')
    (hi' : X.N[i]? = some y) (hyl : X.env.scope.names.lookup y = some .local) (hsw : swapsWith (.ListComp elt [⟨tg, iter, [], 0⟩] scope cp) (some (.Name y py)) pos.line X.env = pure true) (hs : ∀ x, foldedSetIterable iter X.env x = pure x) :
    Blk X (.Assign [.Name y py] (.ListComp elt [⟨tg, iter, [], 0⟩] scope cp) pos :: rest) D σ H :=
  ⟨_, pss_cons (ps_setLc hc nd hi' hyl hsw pi_w ok hg (fun _ _ _ _ _ => pts_nil) pe_te hs) pss_w, lcG_read hi hgt hn he k.kn (fun x H1 => gName i x σ H1 (Blk X rest D)) fun a xs H' n1 e1 h1 h2 => q a xs H' n1 e1 h1 h2 (k.mono e1)⟩
theorem blk_setLc {tx : Str} {tp : Pos} {elt iter : Expr} {scope : Scope} {own : List (Str × Nat)} {n jx : Nat} {Yd : Nat → Pd} {f : Nat → Pd} {py cp : Pos} (nd : X.N.Nodup) (i : Nat) (hc : X.calm = true) (hi : IW X (.Name tx tp) iter δ n Yd) (ok : BlkOk X.N X.env.scope scope own)
    (hg : ∀ (s : Shared) (H : Hp) (C : Addr) (cl : List (Str × Addr)) (fp : List Addr), PG (X.blk s H scope (compEnvC scope cl C X.env) fp) (.Name tx tp) (gName jx)) (hj : jx ∈ own.map (·.2))
    (hn : n ≤ 50000) (hf : ∀ i, i < n → Flat (f i))
    (he : ∀ (s : Shared) (H : Hp) (C : Addr) (cl : List (Str × Addr)) (fp : List Addr) (i : Nat), i < n → EE (X.blk s H scope (compEnvC scope cl C X.env) fp) elt ((wipeD δ (own.map (·.2))).set jx (some (Yd i))) (f i))
    (k : EO X.K M Hb H σ δ) (q : ∀ a xs H', H a = none → Ex H H' → H' a = some (.lst xs) → DtAll X.K (a :: M) H' xs ((List.range n).map f) → EO X.K M Hb H' σ δ → Blk X rest D (σ.set i (some (.ref a))) H')
    (hi' : X.N[i]? = some y := by rfl) (hyl : X.env.scope.names.lookup y = some .local := by rfl) (hsw : swapsWith (.ListComp elt [⟨.Name tx tp, iter, [], 0⟩] scope cp) (some (.Name y py)) pos.line X.env = pure true := by exact sw_true rfl rfl rfl (by decide +kernel)) (hs : ∀ x, foldedSetIterable iter X.env x = pure x := by intro _; rfl) :
    Blk X (.Assign [.Name y py] (.ListComp elt [⟨.Name tx tp, iter, [], 0⟩] scope cp) pos :: rest) D σ H :=
  blk_setLcG nd hc hi ok hg (fun i M v τ H _ k h Q q => q _ (k.set jx h) (wipe_set _ _ hj)) hn he k q hi' hyl hsw hs
theorem blk_setLcX {tx : Str} {tp : Pos} {elt iter : Expr} {scope : Scope} {own : List (Str × Nat)} {n jx : Nat} {Yd : Nat → Pd} {f : Nat → Pd} {py cp : Pos} (nd : X.N.Nodup) (i : Nat) (hc : X.calm = true) (hi : IW X (.Name tx tp) iter δ n Yd) (ok : BlkOk X.N X.env.scope scope own)
    (hg : ∀ (s : Shared) (H : Hp) (C : Addr) (cl : List (Str × Addr)) (fp : List Addr), PG (X.blk s H scope (compEnvC scope cl C X.env) fp) (.Name tx tp) (gName jx)) (hj : jx ∈ own.map (·.2))
    (hn : n ≤ 50000)
    (he : ∀ (s : Shared) (H : Hp) (C : Addr) (cl : List (Str × Addr)) (fp : List Addr) (i : Nat), i < n → EE (X.blk s H scope (compEnvC scope cl C X.env) fp) elt ((wipeD δ (own.map (·.2))).set jx (some (Yd i))) (f i))
    (k : EO X.K M Hb H σ δ) (q : ∀ a xs H', H a = none → Ex H H' → H' a = some (.lst xs) → DtAll X.K (a :: M) H' xs ((List.range n).map f) → EO X.K M Hb H' σ δ → Blk X rest D (σ.set i (some (.ref a))) H')
    (hi' : X.N[i]? = some y := by rfl) (hyl : X.env.scope.names.lookup y = some .local := by rfl) (hsw : swapsWith (.ListComp elt [⟨.Name tx tp, iter, [], 0⟩] scope cp) (some (.Name y py)) pos.line X.env = pure true := by exact sw_true rfl rfl rfl (by decide +kernel)) (hs : ∀ x, foldedSetIterable iter X.env x = pure x := by intro _; rfl) :
    Blk X (.Assign [.Name y py] (.ListComp elt [⟨.Name tx tp, iter, [], 0⟩] scope cp) pos :: rest) D σ H :=
  blk_setLcG nd hc hi ok hg (fun i M v τ H _ k h Q q => q _ (k.set jx h) (wipe_set _ _ hj)) hn he k q hi' hyl hsw hs
theorem blk_setLc2 {tx ty : Str} {tp tq tpos : Pos} {kk : Nat} {elt iter : Expr} {scope : Scope} {own : List (Str × Nat)} {n jx jy : Nat} {Ya Yb : Nat → Pd} {f : Nat → Pd} {py cp : Pos} (nd : X.N.Nodup) (i : Nat) (hc : X.calm = true) (hi : IW X (.Tuple [.Name tx tp, .Name ty tq] kk tpos) iter δ n (fun i => .tup [Ya i, Yb i])) (ok : BlkOk X.N X.env.scope scope own)
    (hg : ∀ (s : Shared) (H : Hp) (C : Addr) (cl : List (Str × Addr)) (fp : List Addr), PG (X.blk s H scope (compEnvC scope cl C X.env) fp) (.Tuple [.Name tx tp, .Name ty tq] kk tpos) (gTup X.K 2 (gCons (gName jx) (gCons (gName jy) gNil)))) (hj : jx ∈ own.map (·.2)) (hj2 : jy ∈ own.map (·.2))
    (hn : n ≤ 50000) (hf : ∀ i, i < n → Flat (f i))
    (he : ∀ (s : Shared) (H : Hp) (C : Addr) (cl : List (Str × Addr)) (fp : List Addr) (i : Nat), i < n → EE (X.blk s H scope (compEnvC scope cl C X.env) fp) elt (((wipeD δ (own.map (·.2))).set jx (some (Ya i))).set jy (some (Yb i))) (f i))
    (k : EO X.K M Hb H σ δ) (q : ∀ a xs H', H a = none → Ex H H' → H' a = some (.lst xs) → DtAll X.K (a :: M) H' xs ((List.range n).map f) → EO X.K M Hb H' σ δ → Blk X rest D (σ.set i (some (.ref a))) H')
    (hi' : X.N[i]? = some y := by rfl) (hyl : X.env.scope.names.lookup y = some .local := by rfl) (hsw : swapsWith (.ListComp elt [⟨.Tuple [.Name tx tp, .Name ty tq] kk tpos, iter, [], 0⟩] scope cp) (some (.Name y py)) pos.line X.env = pure true := by exact sw_true rfl rfl rfl (by decide +kernel)) (hs : ∀ x, foldedSetIterable iter X.env x = pure x := by intro _; rfl) :
    Blk X (.Assign [.Name y py] (.ListComp elt [⟨.Tuple [.Name tx tp, .Name ty tq] kk tpos, iter, [], 0⟩] scope cp) pos :: rest) D σ H :=
  blk_setLcG nd hc hi ok hg (fun i M v τ H _ k h Q q => by
    obtain ⟨a, xs, rfl, h1, h2⟩ := dt_tp h
    cases h2 with
    | @cons v1 _ _ _ g1 h3 =>
      cases h3 with
      | @cons v2 _ _ _ g2 h4 =>
        cases h4
        exact ⟨a, _, rfl, Evl.st_of h1, rfl, v1, [v2], rfl, v2, [], rfl, rfl, q _ ((k.set jx g1).set jy g2) (by rw [wipe_set _ _ hj2, wipe_set _ _ hj])⟩) hn he k q hi' hyl hsw hs
/-- a, b = e -/
theorem blk_unpack {px py pt : Pos} {kk : Nat} (nd : X.N.Nodup) (i j : Nat) (hc : X.calm = true) (he : EE X e δ (.tup [d1, d2])) (k : EO X.K M Hb H σ δ) (q : ∀ σ' H', Ex H H' → EO X.K M Hb H' σ' ((δ.set i (some d1)).set j (some d2)) → Blk X rest D σ' H')
    (hi : X.N[i]? = some x := by rfl) (hj : X.N[j]? = some y := by rfl) (hx : Loc X.env.scope x := by first | exact Or.inl rfl | exact Or.inr rfl) (hy : Loc X.env.scope y := by first | exact Or.inl rfl | exact Or.inr rfl)
    (hs : swapsWithSole [.Tuple [.Name x px, .Name y py] kk pt] e pos.line X.env = pure false := by rfl) (hw : swappedStores [.Tuple [.Name x px, .Name y py] kk pt] e X.env = pure none := by rfl)
    (h1 : (assignEach [.Tuple [.Name x px, .Name y py] kk pt] X.env).map (·.2) = [assign (.Tuple [.Name x px, .Name y py] kk pt) X.env] := by rfl)
    (hf : X.fn x = true ∨ X.env.scope.names.lookup x = some .local := by first | exact .inl rfl | exact .inr rfl) (hf2 : X.fn y = true ∨ X.env.scope.names.lookup y = some .local := by first | exact .inl rfl | exact .inr rfl) :
    Blk X (.Assign [.Tuple [.Name x px, .Name y py] kk pt] e pos :: rest) D σ H :=
  ⟨_, pss_cons (ps_asg pe_w (pg_tup hc (pgs_cons (pg_name nd hi hx hf) (pgs_cons (pg_name nd hj hy hf2) pgs_nil))) hs hw h1) pss_w, he M σ H k.kn _ fun v H' e1 h => by
    obtain ⟨a, xs, rfl, h1, h2⟩ := dt_tp h
    cases h2 with
    | @cons v1 _ _ _ g1 h3 =>
      cases h3 with
      | @cons v2 _ _ _ g2 h4 =>
        cases h4
        exact ⟨a, _, rfl, Evl.st_of h1, rfl, v1, [v2], rfl, v2, [], rfl, rfl, q _ H' e1 (((k.mono e1).set i g1).set j g2)⟩⟩
/-- a, b = e1, e2 (both local) -/
theorem blk_par {px py pt pt2 : Pos} {kt k2 : Nat} (nd : X.N.Nodup) (i j : Nat) (hc : X.calm = true) (ha : EE X a δ d1) (hb : EE X b δ d2) (k : EO X.K M Hb H σ δ) (q : ∀ σ' H', Ex H H' → EO X.K M Hb H' σ' ((δ.set i (some d1)).set j (some d2)) → Blk X rest D σ' H')
    (hi : X.N[i]? = some x := by rfl) (hj : X.N[j]? = some y := by rfl) (hij : i ≠ j := by decide) (hx : X.env.scope.names.lookup x = some .local := by rfl) (hy : X.env.scope.names.lookup y = some .local := by rfl)
    (hw : swappedStores [.Tuple [.Name x px, .Name y py] kt pt] (.Tuple [a, b] k2 pt2) X.env = pure (some [x, y]) := by rfl)
    (hs : swapsWithSole [.Tuple [.Name x px, .Name y py] kt pt] (.Tuple [a, b] k2 pt2) pos.line X.env = pure false := by rfl)
    (s1 : starEach [a, b] X.env = (false, eval a X.env) :: starEach [b] X.env := by rfl) (s2 : starEach [b] X.env = (false, eval b X.env) :: starEach [] X.env := by rfl) :
    Blk X (.Assign [.Tuple [.Name x px, .Name y py] kt pt] (.Tuple [a, b] k2 pt2) pos :: rest) D σ H :=
  ⟨_, pss_cons (ps_par hc nd hi hj hij hx hy (pa_cons pe_w (pa_cons pe_w pa_nil s2) s1) hw hs) pss_w, ha M σ H k.kn _ fun v H1 e1 h1 => hb M σ H1 (k.kn.mono e1) _ fun w H2 e2 h2 =>
    ⟨v, w, rfl, q _ H2 (e1.trans e2) (((k.mono (e1.trans e2)).set i (h1.mono e2)).set j h2)⟩⟩
theorem blk_ret (he : EE X e δ d) (k : EO X.K M Hb H σ δ) (q : ∀ v H', Ex Hb H' → Dt X.K M H' v d → D.rt v H') : Blk X (.Return (some e) pos :: rest) D σ H :=
  ⟨_, pss_cons (ps_ret pe_w) (u := tNever) pss_never, he M σ H k.kn _ fun v H' e1 h1 => q v H' (k.ex.trans e1) h1⟩
theorem blk_retF (he : EF X e δ ds) (k : EO X.K M Hb H σ δ) (q : ∀ a xs H', Hb a = none → Ex Hb H' → H' a = some (.lst xs) → DtAll X.K (a :: M) H' xs ds → D.rt (.ref a) H') : Blk X (.Return (some e) pos :: rest) D σ H :=
  ⟨_, pss_cons (ps_ret pe_w) (u := tNever) pss_never, he M σ H k.kn _ fun v xs H' n1 e1 h1 h2 => q v xs H' (Evl.fresh_back k.ex n1) (k.ex.trans e1) h1 h2⟩
theorem blk_retW {r : List Int × List Int} (he : EWR X e δ r) (k : EO X.K M Hb H σ δ) (q : ∀ p a b H', Hb p = none → Hb a = none → Hb b = none → a ≠ b → Ex Hb H' → H' p = some (.tup [.ref a, .ref b]) →
  H' a = some (.lst (r.1.map V.int)) → H' b = some (.lst (r.2.map V.int)) → D.rt (.ref p) H') : Blk X (.Return (some e) pos :: rest) D σ H :=
  ⟨_, pss_cons (ps_ret pe_w) (u := tNever) pss_never, he M σ H k.kn _ fun p a b H' hp ha hb ab e1 h1 h2 h3 => q p a b H' (Evl.fresh_back k.ex hp) (Evl.fresh_back k.ex ha) (Evl.fresh_back k.ex hb) ab (k.ex.trans e1) h1 h2 h3⟩
theorem blk_if {t : Bool} (h : ET X c δ t) (k : EO X.K M Hb H σ δ) (h1 : t = true → ∀ H', Ex H H' → EO X.K M Hb H' σ δ → Blk X body { D with nx := Blk X rest D } σ H')
    (h2 : t = false → ∀ H', Ex H H' → EO X.K M Hb H' σ δ → Blk X orelse { D with nx := Blk X rest D } σ H') : Blk X (.If c body orelse pos :: rest) D σ H :=
  ⟨_, pss_cons (ps_if pt_w pss_w pss_w) pss_w, h M σ H k.kn _ fun H1 e1 => by
    cases t with
    | true => exact iteT (h1 rfl H1 e1 (k.mono e1))
    | false => exact iteF (h2 rfl H1 e1 (k.mono e1))⟩
/-- an if without else -/
theorem blk_when {t : Bool} (h : ET X c δ t) (k : EO X.K M Hb H σ δ) (h1 : t = true → ∀ H', Ex H H' → EO X.K M Hb H' σ δ → Blk X body { D with nx := Blk X rest D } σ H')
    (h2 : t = false → ∀ H', Ex H H' → EO X.K M Hb H' σ δ → Blk X rest D σ H') : Blk X (.If c body [] pos :: rest) D σ H :=
  blk_if h k h1 fun e H' e1 k1 => blk_nil (h2 e H' e1 k1)
/-- a test whose way is known -/
theorem blk_no (h : ET X c δ false) (k : EO X.K M Hb H σ δ) (h2 : ∀ H', Ex H H' → EO X.K M Hb H' σ δ → Blk X rest D σ H') : Blk X (.If c body [] pos :: rest) D σ H :=
  blk_when h k (fun e => Bool.noConfusion e) fun _ => h2
/-- the ways of an if meet in a word -/
theorem blk_ifM {t : Bool} (Mid : L2.St → Hp → Prop) (h : ET X c δ t) (k : EO X.K M Hb H σ δ) (h1 : t = true → ∀ H', Ex H H' → EO X.K M Hb H' σ δ → Blk X body { D with nx := Mid } σ H')
    (h2 : t = false → ∀ H', Ex H H' → EO X.K M Hb H' σ δ → Blk X orelse { D with nx := Mid } σ H') (q : ∀ σ' H', Mid σ' H' → Blk X rest D σ' H') : Blk X (.If c body orelse pos :: rest) D σ H :=
  ⟨_, Evl.pss_cut (ps_if pt_w pss_w pss_w) pss_w, Mid, h M σ H k.kn _ fun H1 e1 => by
    cases t with
    | true => exact iteT (h1 rfl H1 e1 (k.mono e1))
    | false => exact iteF (h2 rfl H1 e1 (k.mono e1)), q⟩
/-- if c: name = e, told by the value that the name has behind it -/
theorem blk_ifSet {t : Bool} {p' ap : Pos} (nd : X.N.Nodup) (i : Nat) (h : ET X c δ t) (he : t = true → EE X e δ d) (hne : t = false → δ[i]? = some (some d)) (k : EO X.K M Hb H σ δ) (q : ∀ σ' H', Ex H H' → EO X.K M Hb H' σ' (δ.set i (some d)) → Blk X rest D σ' H')
    (hi : X.N[i]? = some x := by rfl) (hx : Loc X.env.scope x := by first | exact Or.inl rfl | exact Or.inr rfl) (hs : swapsWith e (some (.Name x p')) ap.line X.env = pure false := by rfl)
    (hf : X.fn x = true ∨ X.env.scope.names.lookup x = some .local := by first | exact .inl rfl | exact .inr rfl) : Blk X (.If c [.Assign [.Name x p'] e ap] [] pos :: rest) D σ H :=
  blk_ifM (fun σ' H' => Ex H H' ∧ EO X.K M Hb H' σ' (δ.set i (some d))) h k (fun ht H1 e1 k1 => blk_set nd i (he ht) k1 (fun σ' H' e2 k2 => blk_nil ⟨e1.trans e2, k2⟩) hi hx hs hf)
    (fun ht H1 e1 k1 => blk_nil ⟨e1, k1.ex, k1.kn.turn (hne ht) fun _ h => h⟩) fun σ' H' m => q σ' H' m.1 m.2
theorem blk_aug {f : Int → Int → Int} {op : Operator} {m n : Int} {p' : Pos} (nd : X.N.Nodup) (i : Nat) (ho : PIp X op (ipI f)) (hd : δ[i]? = some (some (.int m))) (he : EE X e δ (.int n)) (k : EO X.K M Hb H σ δ) (q : ∀ σ' H', Ex H H' → EO X.K M Hb H' σ' (δ.set i (some (.int (f m n)))) → Blk X rest D σ' H')
    (hi : X.N[i]? = some x := by rfl) (hx : Loc X.env.scope x := by first | exact Or.inl rfl | exact Or.inr rfl) (hf : X.fn x = true ∨ X.env.scope.names.lookup x = some .local := by first | exact .inl rfl | exact .inr rfl) :
    Blk X (.AugAssign (.Name x p') op e pos :: rest) D σ H :=
  ⟨_, pss_cons (ps_aug nd hi hx pe_w ho hf) pss_w, by
    obtain ⟨v, h1, h2⟩ := k.kn.at_ i _ hd
    refine ⟨v, h1, he M σ H k.kn _ fun w H' e1 h3 => ⟨m, n, dt_int h2, dt_int h3, q _ H' e1 ((k.mono e1).set i (.int _))⟩⟩⟩
theorem blk_drop (he : EE X e δ d) (k : EO X.K M Hb H σ δ) (q : ∀ H', Ex H H' → EO X.K M Hb H' σ δ → Blk X rest D σ H') (hs : swapsWith e none pos.line X.env = pure false := by rfl) : Blk X (.Expr e pos :: rest) D σ H :=
  ⟨_, pss_cons (ps_expr pe_w hs) pss_w, he M σ H k.kn _ fun v H' e1 h1 => q H' e1 (k.mono e1)⟩
theorem blk_retB {t : Bool} {k0 : Nat} {p1 : Pos} (k : EO X.K M Hb H σ δ) (q : ∀ H', Ex Hb H' → D.rt (.bl t) H') : Blk X (.Return (some (.Constant (.bool t) k0 p1)) pos :: rest) D σ H :=
  blk_ret ee_bl k fun v H' e1 h1 => by
    rw [dt_bl h1]
    exact q H' e1
/-- o.append(e), o a list set apart -/
theorem blk_append {o : Expr} {l : Addr} {xs : List V} {apos cp : Pos} (ho : EE X o δ (.raw (.ref l))) (he : EE X e δ d) (hl : H l = some (.lst xs)) (hz : xs.length < 100000) (hM : l ∈ M) (hb : Hb l = none) (k : EO X.K M Hb H σ δ)
    (q : ∀ v H1, Ex H H1 → Dt X.K M H1 v d → EO X.K M Hb (L2.upd H1 l (.lst (xs ++ [v]))) σ δ → Blk X rest D σ (L2.upd H1 l (.lst (xs ++ [v]))))
    (hs : swapsWith (.Call (.Attribute o "append" apos) [e] [] cp) none pos.line X.env = pure false := by rfl) (hbase : attributeBase o "append" X.env (eval o X.env) = eval o X.env := by rfl)
    (hfew : ((backTo cp (starEach [e] X.env)).all (fun x => !x.1) && (backToKw cp (keywordEach [] X.env)).all (fun x => x.1.isSome)
      && decide ([e].length + ([] : List Keyword).length + (if ([] : List Keyword).isEmpty then 0 else 1) < 30)) = true := by rfl)
    (hline : (apos.endLine == cp.line) = true := by rfl) (hst : starEach [e] X.env = (false, eval e X.env) :: starEach [] X.env := by rfl) (hplain : (backTo cp (starEach [] X.env)).any (·.1) = false := by rfl) :
    Blk X (.Expr (.Call (.Attribute o "append" apos) [e] [] cp) pos :: rest) D σ H :=
  ⟨_, pss_cons (ps_expr (pe_bm PySem.F.plainAttrs_list PySem.F.slot_list_append PySem.F.type_list_append mt_append pe_w (pa_cons pe_w pa_nil hst) hbase hfew hline hst hplain) hs) pss_w, ho M σ H k.kn _ fun v H1 e1 h1 => by
    cases dt_raw h1
    refine ⟨.inl ⟨rfl, xs, Evl.sq_of (e1 _ _ hl)⟩, he M σ H1 (k.kn.mono e1) _ fun u H2 e2 h2 => ⟨l, xs, u, rfl, rfl, e2 _ _ (e1 _ _ hl), Evl.sz_lt hz, ?_⟩⟩
    exact q u H2 (e1.trans e2) h2 ⟨Evl.Ex.mut (k.ex.trans (e1.trans e2)) hb, (k.kn.mono (e1.trans e2)).upd hM⟩⟩
/-! ### loops -/
theorem blk_forG {tg iter : Expr} {n : Nat} {Yd : Nat → Pd} {g : TG} (hp : PassesOwn (model X.prog X.w) X.A X.env X.xe) (hc : X.calm = true) (hi : IW X tg iter δ n Yd) (hg : PG X tg g) (k : EO X.K M Hb H σ δ) (Pv : Hp → Nat → L2.St → Hp → Prop)
    (hM : ∀ B i σ' H', Pv B i σ' H' → ExM M B H' ∧ Al M H')
    (h0 : ∀ H1, Ex H H1 → EO X.K M Hb H1 σ δ → Pv H1 0 σ H1)
    (hs : ∀ B i v σ' H' H2, i < n → Ex H B → Pv B i σ' H' → Ex H' H2 → Dt X.K M H2 v (Yd i) → g v σ' H2 fun σ2 H3 => Blk X body { D with nx := Pv B (i + 1), ct := Pv B (i + 1), bk := Blk X rest D } σ2 H3)
    (hd : ∀ B σ' H', Ex H B → Pv B n σ' H' → Blk X rest D σ' H') (hfs : ∀ x, foldedSetIterable iter X.env x = pure x := by intro _; rfl) : Blk X (.For tg iter body [] pos :: rest) D σ H :=
  ⟨_, pss_cons (ps_for hp hc pi_w hg pss_w hfs) pss_w, hi M σ H k.kn _ fun J H1 G Y e1 w hG hY => for_it w (D := { D with nx := Blk X rest D }) (Pv H1) (h0 H1 e1 (k.mono e1)) (fun i σ' H' _ p => hG H' (hM _ _ _ _ p).1)
    (fun i v σ' H' H2 hlt p y => by
      obtain ⟨m1, m2⟩ := hM _ _ _ _ p
      obtain ⟨y1, y2⟩ := hY M i H' v H2 (fun a ha => .inl ha) hlt y m1 m2
      exact hs H1 i v σ' H' H2 hlt e1 p y1 y2) (fun σ' H' p => hd H1 σ' H' e1 p)⟩
/-- for x in .. -/
theorem blk_for {iter : Expr} {n : Nat} {Yd : Nat → Pd} {p' : Pos} (nd : X.N.Nodup) (j : Nat) (hp : PassesOwn (model X.prog X.w) X.A X.env X.xe) (hc : X.calm = true) (hi : IW X (.Name x p') iter δ n Yd) (k : EO X.K M Hb H σ δ) (Pv : Hp → Nat → L2.St → Hp → Prop)
    (hM : ∀ B i σ' H', Pv B i σ' H' → ExM M B H' ∧ Al M H')
    (h0 : ∀ H1, Ex H H1 → EO X.K M Hb H1 σ δ → Pv H1 0 σ H1)
    (hs : ∀ B i v σ' H' H2, i < n → Ex H B → Pv B i σ' H' → Ex H' H2 → Dt X.K M H2 v (Yd i) → Blk X body { D with nx := Pv B (i + 1), ct := Pv B (i + 1), bk := Blk X rest D } (σ'.set j (some v)) H2)
    (hd : ∀ B σ' H', Ex H B → Pv B n σ' H' → Blk X rest D σ' H') (hj : X.N[j]? = some x := by rfl) (hx : Loc X.env.scope x := by first | exact Or.inl rfl | exact Or.inr rfl)
    (hf : X.fn x = true ∨ X.env.scope.names.lookup x = some .local := by first | exact .inl rfl | exact .inr rfl) (hfs : ∀ x, foldedSetIterable iter X.env x = pure x := by intro _; rfl) : Blk X (.For (.Name x p') iter body [] pos :: rest) D σ H :=
  blk_forG hp hc hi (pg_name nd hj hx hf) k Pv hM h0 (fun B i v σ' H' H2 a b c d e => hs B i v σ' H' H2 a b c d e) hd hfs
theorem blk_while {cnd : Expr} (hp : PassesOwn (model X.prog X.w) X.A X.env X.xe) (W : Nat → L2.St → Hp → Prop) (m0 : Nat) (h0 : W m0 σ H)
    (hs : ∀ m σ' H', W m σ' H' → ∃ δ' t M', Kn X.K M' H' σ' δ' ∧ ET X cnd δ' t ∧ (t = true → ∀ H1, Ex H' H1 → Blk X body { D with nx := fun σ2 H2 => ∃ m', m' < m ∧ W m' σ2 H2, ct := fun σ2 H2 => ∃ m', m' < m ∧ W m' σ2 H2, bk := Blk X rest D } σ' H1) ∧ (t = false → ∀ H1, Ex H' H1 → Blk X rest D σ' H1)) :
    Blk X (.While cnd body [] pos :: rest) D σ H :=
  ⟨_, pss_cons (ps_while hp pt_w pss_w) pss_w, W, ⟨m0, h0⟩, fun m σ' H' hw => by
    obtain ⟨δ', t, M', k, ht, h1, h2⟩ := hs m σ' H' hw
    refine ht M' σ' H' k _ fun H1 e1 => ?_
    cases t with
    | true => exact iteT ⟨_, fun _ _ h => h, h1 rfl H1 e1⟩
    | false => exact iteF (h2 rfl H1 e1)⟩
end

/-! ### defs -/
def startD (N : List Str) (ds : List Pd) : Dl := ds.map some ++ List.replicate (N.length - ds.length) none
theorem start_kn {K : PySem.W.Frag} {M : List Addr} {H : Hp} {N : List Str} {vs : List V} {ds : List Pd} (al : Al M H) (h : DtAll K M H vs ds) : Kn K M H (L2.start N vs) (startD N ds) := by
  refine ⟨?_, fun i d e => ?_, al⟩
  · unfold L2.start startD
    rw [List.length_append, List.length_append, List.length_map, List.length_map, List.length_replicate, List.length_replicate, h.length]
  · unfold L2.start startD at *
    by_cases hi : i < ds.length
    · rw [List.getElem?_append_left (by rw [List.length_map]; exact hi), List.getElem?_map] at e
      cases hd : ds[i]? with
      | none =>
        rw [hd] at e
        cases e
      | some d' =>
        rw [hd] at e
        cases e
        obtain ⟨v, h1, h2⟩ := h.get hd
        refine ⟨v, ?_, h2⟩
        rw [List.getElem?_append_left (by rw [List.length_map, h.length]; exact hi), List.getElem?_map, h1]
        rfl
    · rw [List.getElem?_append_right (by rw [List.length_map]; omega), List.getElem?_replicate] at e
      split at e <;> cases e
section
variable {P : Program} {w : World} {K : PySem.W.Frag} {mg : Str → Option Value} {base : Heap} {x qual : Str} {st : Stmt} {f : Addr} {fd : FuncData} {N ps : List Str} {k : Nat}
theorem ok_R {R : List Pd → Pd → Prop} (F : Fun K x qual st f fd) (S : FnScope N ps (defScope st)) (hl : ∀ ds d, R ds d → ds.length = ps.length)
    (body : ∀ (cdv : Value) (A : Around) (outer : List PySem.Env) (s : Shared) (M : List Addr) (H : Hp) (vs : List V) (ds : List Pd) (d : Pd) (Q : VK) (E : XK), Room k (A.deeper (PyProof.Rows.envOfC qual (defScope st) s.heap.objs.size f cdv)) → R ds d → EO K M H H (L2.start N vs) (startD N ds) →
      (∀ v H', Ex H H' → Dt K M H' v d → Q v H') → Blk (cxOf CX0 P w K mg base N qual (defScope st) f cdv A outer s H E).nox (defBody st) { nx := fun _ H' => Q .non H', rt := Q } (L2.start N vs) H) : FnOk P w K mg base CX0 (k + 1) f fd ps (SpR K R) := by
  refine F.ok S (fun vs H Q E h => ?_) (fun cdv A outer s H vs Q E hr h => ?_)
  · obtain ⟨M, ds, d, _, h1, h2, _⟩ := h
    rw [h1.length]
    exact hl ds d h2
  · obtain ⟨M, ds, d, al, h1, h2, q⟩ := h
    exact body cdv A outer s M H vs ds d Q E hr h2 ⟨Evl.Ex.refl H, start_kn al h1⟩ q
theorem ok_F {R : List Pd → List Pd → Prop} (F : Fun K x qual st f fd) (S : FnScope N ps (defScope st)) (hl : ∀ ds d, R ds d → ds.length = ps.length)
    (body : ∀ (cdv : Value) (A : Around) (outer : List PySem.Env) (s : Shared) (M : List Addr) (H : Hp) (vs : List V) (ds zs : List Pd) (Q : VK) (E : XK), Room k (A.deeper (PyProof.Rows.envOfC qual (defScope st) s.heap.objs.size f cdv)) → R ds zs → EO K M H H (L2.start N vs) (startD N ds) →
      (∀ a xs H', H a = none → Ex H H' → H' a = some (.lst xs) → DtAll K (a :: M) H' xs zs → Q (.ref a) H') → Blk (cxOf CX0 P w K mg base N qual (defScope st) f cdv A outer s H E).nox (defBody st) { nx := fun _ H' => Q .non H', rt := Q } (L2.start N vs) H) : FnOk P w K mg base CX0 (k + 1) f fd ps (SpF K R) := by
  refine F.ok S (fun vs H Q E h => ?_) (fun cdv A outer s H vs Q E hr h => ?_)
  · obtain ⟨M, ds, d, _, h1, h2, _⟩ := h
    rw [h1.length]
    exact hl ds d h2
  · obtain ⟨M, ds, d, al, h1, h2, q⟩ := h
    exact body cdv A outer s M H vs ds d Q E hr h2 ⟨Evl.Ex.refl H, start_kn al h1⟩ q
theorem ok_W {R : List Pd → List Int × List Int → Prop} (F : Fun K x qual st f fd) (S : FnScope N ps (defScope st)) (hl : ∀ ds d, R ds d → ds.length = ps.length)
    (body : ∀ (cdv : Value) (A : Around) (outer : List PySem.Env) (s : Shared) (M : List Addr) (H : Hp) (vs : List V) (ds : List Pd) (r : List Int × List Int) (Q : VK) (E : XK), Room k (A.deeper (PyProof.Rows.envOfC qual (defScope st) s.heap.objs.size f cdv)) → R ds r → EO K M H H (L2.start N vs) (startD N ds) →
      (∀ p a b H', H p = none → H a = none → H b = none → a ≠ b → Ex H H' → H' p = some (.tup [.ref a, .ref b]) → H' a = some (.lst (r.1.map V.int)) → H' b = some (.lst (r.2.map V.int)) → Q (.ref p) H') →
      Blk (cxOf CX0 P w K mg base N qual (defScope st) f cdv A outer s H E).nox (defBody st) { nx := fun _ H' => Q .non H', rt := Q } (L2.start N vs) H) : FnOk P w K mg base CX0 (k + 1) f fd ps (SpW K R) := by
  refine F.ok S (fun vs H Q E h => ?_) (fun cdv A outer s H vs Q E hr h => ?_)
  · obtain ⟨M, ds, d, _, h1, h2, _⟩ := h
    rw [h1.length]
    exact hl ds d h2
  · obtain ⟨M, ds, d, al, h1, h2, q⟩ := h
    exact body cdv A outer s M H vs ds d Q E hr h2 ⟨Evl.Ex.refl H, start_kn al h1⟩ q
end
end Lr

/-! more built-ins by data -/
namespace Lr
open PySem L2
open Evl (Ex)
section
variable {X : Cx} {δ : Dl} {a b c e o : Expr} {es : List Expr} {pos p cp apos : Pos} {d z d1 d2 : Pd} {ds : List Pd} {i j : Int}
theorem ee_divmod (ha : EE X a δ (.int i)) (hb : EE X b δ (.int j)) (h : CDiv i j) (hm : X.mg "divmod" = none) (hg : Gl X "divmod" := by rfl) (he : starEach [a, b] X.env = (false, eval a X.env) :: starEach [b] X.env := by rfl) (he2 : starEach [b] X.env = (false, eval b X.env) :: starEach [] X.env := by rfl) (hpl : (backTo pos (starEach [b] X.env)).any (·.1) = false := by rfl) :
    EE X (.Call (.Name "divmod" p) [a, b] [] pos) δ (.tup [.int (i / j), .int (i % j)]) :=
  ee_callB call_divmod (fun M vs H al hh Q q => by
    cases hh with
    | cons h1 h2 =>
      cases h2 with
      | cons h2 h3 =>
        cases h3
        cases dt_int h1
        cases dt_int h2
        exact ⟨i, j, rfl, h, fun p hp => q _ _ (Evl.Ex.new hp) (.tup (al.nw hp) upd_same (.cons (.int _) (.cons (.int _) .nil)))⟩) (ea_cons ha (ea_cons hb ea_nil he2) he) hm hg (he := he) (hpl := hpl)
theorem ee_intB {k : Bool} (ha : EE X e δ (.bl k)) (hm : X.mg "int" = none) (hg : Gl X "int" := by rfl) (he : starEach [e] X.env = (false, eval e X.env) :: starEach [] X.env := by rfl) : EE X (.Call (.Name "int" p) [e] [] pos) δ (.int (if k then 1 else 0)) :=
  ee_callT call_int1 (fun M vs H al h Q q => by
    cases h with
    | cons h1 h2 =>
      cases h2
      cases dt_bl h1
      exact .inr ⟨k, rfl, q _ H (Evl.Ex.refl H) (.int _)⟩) (ea_cons ha ea_nil he) hm hg (he := he)
/-- o.m(e), the built-in method of a list -/
theorem ee_bmL {name : Str} {id : String} {r : V → List V → Hp → VK → Prop} (slot : Slot "list" name id) (ty : typeOf (.builtin id) = pure (.type "method_descriptor")) (hm : MtR X id r) (ho : EE X o δ (.lst ds)) (he : EE X e δ d)
    (hr : ∀ M x y H, Al M H → Dt X.K M H x (.lst ds) → Dt X.K M H y d → ∀ Q : VK, (∀ v H', Ex H H' → Dt X.K M H' v z → Q v H') → r x [y] H Q)
    (hbase : attributeBase o name X.env (eval o X.env) = eval o X.env := by rfl)
    (hfew : ((backTo cp (starEach [e] X.env)).all (fun x => !x.1) && (backToKw cp (keywordEach [] X.env)).all (fun x => x.1.isSome)
      && decide ([e].length + ([] : List Keyword).length + (if ([] : List Keyword).isEmpty then 0 else 1) < 30)) = true := by rfl)
    (hline : (apos.endLine == cp.line) = true := by rfl) (hst : starEach [e] X.env = (false, eval e X.env) :: starEach [] X.env := by rfl) (hplain : (backTo cp (starEach [] X.env)).any (·.1) = false := by rfl) :
    EE X (.Call (.Attribute o name apos) [e] [] cp) δ z := fun M σ H kn Q q =>
  ⟨_, pe_bm PySem.F.plainAttrs_list slot ty hm pe_w (pa_cons pe_w pa_nil hst) hbase hfew hline hst hplain, ho M σ H kn _ fun v H1 e1 h1 => by
    obtain ⟨l, xs, rfl, h2, h3⟩ := dt_sq h1
    exact ⟨.inl ⟨rfl, xs, Evl.sq_of h2⟩, he M σ H1 (kn.mono e1) _ fun u H2 e2 h4 => hr M _ u H2 (kn.al.mono (e1.trans e2)) (h1.mono e2) h4 Q fun w H3 e3 h5 => q w H3 ((e1.trans e2).trans e3) h5⟩⟩
theorem ee_count {ns : List Int} (ho : EE X o δ (dL ns)) (he : EE X e δ (.int i))
    (hbase : attributeBase o "count" X.env (eval o X.env) = eval o X.env := by rfl)
    (hfew : ((backTo cp (starEach [e] X.env)).all (fun x => !x.1) && (backToKw cp (keywordEach [] X.env)).all (fun x => x.1.isSome)
      && decide ([e].length + ([] : List Keyword).length + (if ([] : List Keyword).isEmpty then 0 else 1) < 30)) = true := by rfl)
    (hline : (apos.endLine == cp.line) = true := by rfl) (hst : starEach [e] X.env = (false, eval e X.env) :: starEach [] X.env := by rfl) (hplain : (backTo cp (starEach [] X.env)).any (·.1) = false := by rfl) :
    EE X (.Call (.Attribute o "count" apos) [e] [] cp) δ (.int (ns.count i : Nat)) :=
  ee_bmL PySem.F.slot_list_count PySem.F.type_list_count mt_lcount ho he (fun M x y H al hx hy Q q => by
    obtain ⟨l, rfl, h2⟩ := dt_dL hx
    exact ⟨l, ns, i, rfl, by rw [dt_int hy], Evl.sq_of h2, q _ H (Evl.Ex.refl H) (.int _)⟩) hbase hfew hline hst hplain
/-- list(range(n)) -/
theorem ef_listRange {n : Nat} {rp rpos : Pos} (hc : X.calm = true) (ha : EE X a δ (.int (n : Int))) (hz : n ≤ 50000) (hm : X.mg "list" = none) (hmr : X.mg "range" = none) (hg : Gl X "list" := by rfl) (hgr : Gl X "range" := by rfl)
    (na : starEach [a] X.env = (false, eval a X.env) :: starEach [] X.env := by rfl) (he : starEach [.Call (.Name "range" rp) [a] [] rpos] X.env = (false, eval (.Call (.Name "range" rp) [a] [] rpos) X.env) :: starEach [] X.env := by rfl) :
    EF X (.Call (.Name "list" p) [.Call (.Name "range" rp) [a] [] rpos] [] pos) δ ((List.range n).map fun (i : Nat) => Pd.int (i : Int)) := fun M σ H kn Q q =>
  ⟨_, pe_listRg hc hg hm (prg_1 hgr hmr pe_w na) he, ha M σ H kn _ fun v H1 e1 h1 => ⟨n, dt_int h1, by
    refine ⟨RgOk.of_le (by decide) (by omega) (by decide) (by omega), fun l hl => q l _ _ (Evl.fresh_back e1 hl) (e1.trans (Evl.Ex.new hl)) upd_same ?_⟩
    have e : rgV 0 (n : Int) = ((List.range n).map fun (i : Nat) => (i : Int)).map V.int := by
      unfold rgV
      rw [List.map_map, show ((n : Int) - 0).toNat = n by omega]
      refine List.map_congr_left fun i _ => ?_
      show V.int (0 + (i : Int)) = V.int (i : Int)
      rw [Int.zero_add]
    rw [e]
    have e2 : (List.range n).map (fun (i : Nat) => Pd.int (i : Int)) = ((List.range n).map fun (i : Nat) => (i : Int)).map Pd.int := by
      rw [List.map_map]
      rfl
    rw [e2]
    exact dtI _⟩⟩
end
end Lr

/-! extend, max of a list, loops over pairs, three names at once -/
namespace Lr
open PySem L2
open Evl (Ex)
section
variable {X : Cx} {δ : Dl} {a b c e o : Expr} {es : List Expr} {rest body : List Stmt} {pos p cp apos : Pos} {d z d1 d2 d3 : Pd} {ds : List Pd} {x y : Str} {D : Ends} {M : List Addr} {Hb H : Hp} {σ : L2.St}
theorem ee_maxL {ns : List Int} {m : Int} (hc : X.calm = true) (ha : EE X e δ (dL ns)) (h1 : m ∈ ns) (h2 : ∀ y ∈ ns, y ≤ m) (hm : X.mg "max" = none) (hg : Gl X "max" := by rfl) (he : starEach [e] X.env = (false, eval e X.env) :: starEach [] X.env := by rfl) : EE X (.Call (.Name "max" p) [e] [] pos) δ (.int m) :=
  ee_callB (cr_max hc) (fun M vs H al h Q q => by
    cases h with
    | cons g1 g2 =>
      cases g2
      obtain ⟨l, rfl, h3⟩ := dt_dL g1
      refine ⟨l, ns, rfl, Evl.sq_of h3, List.length_pos_of_mem h1, fun m' k1 k2 => ?_⟩
      have em : m' = m := Int.le_antisymm (h2 m' k1) (k2 m h1)
      rw [em]
      exact q _ H (Evl.Ex.refl H) (.int _)) (ea_cons ha ea_nil he) hm hg (he := he)
/-- o.extend(e), o a list set apart -/
theorem blk_extend {l : Addr} {xs : List V} {apos cp : Pos} (ho : EE X o δ (.raw (.ref l))) (he : EE X e δ (.lst ds)) (hl : H l = some (.lst xs)) (hz : xs.length + ds.length ≤ 100000) (hM : l ∈ M) (hb : Hb l = none) (k : EO X.K M Hb H σ δ)
    (q : ∀ ys H1, Ex H H1 → DtAll X.K M H1 ys ds → EO X.K M Hb (L2.upd H1 l (.lst (xs ++ ys))) σ δ → Blk X rest D σ (L2.upd H1 l (.lst (xs ++ ys))))
    (hs : swapsWith (.Call (.Attribute o "extend" apos) [e] [] cp) none pos.line X.env = pure false := by rfl) (hbase : attributeBase o "extend" X.env (eval o X.env) = eval o X.env := by rfl)
    (hfew : ((backTo cp (starEach [e] X.env)).all (fun x => !x.1) && (backToKw cp (keywordEach [] X.env)).all (fun x => x.1.isSome)
      && decide ([e].length + ([] : List Keyword).length + (if ([] : List Keyword).isEmpty then 0 else 1) < 30)) = true := by rfl)
    (hline : (apos.endLine == cp.line) = true := by rfl) (hst : starEach [e] X.env = (false, eval e X.env) :: starEach [] X.env := by rfl) (hplain : (backTo cp (starEach [] X.env)).any (·.1) = false := by rfl) :
    Blk X (.Expr (.Call (.Attribute o "extend" apos) [e] [] cp) pos :: rest) D σ H :=
  ⟨_, pss_cons (ps_expr (pe_bm PySem.F.plainAttrs_list PySem.F.slot_list_extend PySem.F.type_list_extend mt_extend pe_w (pa_cons pe_w pa_nil hst) hbase hfew hline hst hplain) hs) pss_w, ho M σ H k.kn _ fun v H1 e1 h1 => by
    cases dt_raw h1
    refine ⟨.inl ⟨rfl, xs, Evl.sq_of (e1 _ _ hl)⟩, he M σ H1 (k.kn.mono e1) _ fun u H2 e2 h2 => ?_⟩
    obtain ⟨b, ys, rfl, h3, h4⟩ := dt_sq h2
    refine ⟨l, b, xs, ys, rfl, rfl, e2 _ _ (e1 _ _ hl), h3, Evl.sz_of (by rw [h4.length]; exact hz), ?_⟩
    exact q ys H2 (e1.trans e2) h4 ⟨Evl.Ex.mut (k.ex.trans (e1.trans e2)) hb, (k.kn.mono (e1.trans e2)).upd hM⟩⟩
/-- for x, y in .. -/
theorem blk_forP {iter : Expr} {n : Nat} {Ya Yb : Nat → Pd} {px py pt : Pos} {kk : Nat} (nd : X.N.Nodup) (i j : Nat) (hp : PassesOwn (model X.prog X.w) X.A X.env X.xe) (hc : X.calm = true) (hi : IW X (.Tuple [.Name x px, .Name y py] kk pt) iter δ n (fun i => .tup [Ya i, Yb i])) (k : EO X.K M Hb H σ δ) (Pv : Hp → Nat → L2.St → Hp → Prop)
    (hM : ∀ B i σ' H', Pv B i σ' H' → ExM M B H' ∧ Al M H')
    (h0 : ∀ H1, Ex H H1 → EO X.K M Hb H1 σ δ → Pv H1 0 σ H1)
    (hs : ∀ B m u v σ' H' H2, m < n → Ex H B → Pv B m σ' H' → Ex H' H2 → Dt X.K M H2 u (Ya m) → Dt X.K M H2 v (Yb m) → Blk X body { D with nx := Pv B (m + 1), ct := Pv B (m + 1), bk := Blk X rest D } ((σ'.set i (some u)).set j (some v)) H2)
    (hd : ∀ B σ' H', Ex H B → Pv B n σ' H' → Blk X rest D σ' H') (hxi : X.N[i]? = some x := by rfl) (hyj : X.N[j]? = some y := by rfl) (hx : Loc X.env.scope x := by first | exact Or.inl rfl | exact Or.inr rfl) (hy : Loc X.env.scope y := by first | exact Or.inl rfl | exact Or.inr rfl)
    (hf : X.fn x = true ∨ X.env.scope.names.lookup x = some .local := by first | exact .inl rfl | exact .inr rfl) (hf2 : X.fn y = true ∨ X.env.scope.names.lookup y = some .local := by first | exact .inl rfl | exact .inr rfl)
    (hfs : ∀ x, foldedSetIterable iter X.env x = pure x := by intro _; rfl) : Blk X (.For (.Tuple [.Name x px, .Name y py] kk pt) iter body [] pos :: rest) D σ H :=
  blk_forG hp hc hi (pg_tup hc (pgs_cons (pg_name nd hxi hx hf) (pgs_cons (pg_name nd hyj hy hf2) pgs_nil))) k Pv hM h0 (fun B m v σ' H' H2 a b c d h => by
    obtain ⟨t, xs, rfl, h1, h2⟩ := dt_tp h
    cases h2 with
    | @cons v1 _ _ _ g1 h3 =>
      cases h3 with
      | @cons v2 _ _ _ g2 h4 =>
        cases h4
        exact ⟨t, _, rfl, Evl.st_of h1, rfl, v1, [v2], rfl, v2, [], rfl, rfl, hs B m v1 v2 σ' H' H2 a b c d g1 g2⟩) hd hfs
/-- x, y, z = (e1, e2, e3), by the tuple -/
theorem blk_unpack3 {z : Str} {px py pz pt : Pos} {kk : Nat} (nd : X.N.Nodup) (i j l : Nat) (hc : X.calm = true) (he : EE X e δ (.tup [d1, d2, d3])) (k : EO X.K M Hb H σ δ) (q : ∀ σ' H', Ex H H' → EO X.K M Hb H' σ' (((δ.set i (some d1)).set j (some d2)).set l (some d3)) → Blk X rest D σ' H')
    (hi : X.N[i]? = some x := by rfl) (hj : X.N[j]? = some y := by rfl) (hl : X.N[l]? = some z := by rfl) (hx : Loc X.env.scope x := by first | exact Or.inl rfl | exact Or.inr rfl) (hy : Loc X.env.scope y := by first | exact Or.inl rfl | exact Or.inr rfl) (hz : Loc X.env.scope z := by first | exact Or.inl rfl | exact Or.inr rfl)
    (hs : swapsWithSole [.Tuple [.Name x px, .Name y py, .Name z pz] kk pt] e pos.line X.env = pure false := by rfl) (hw : swappedStores [.Tuple [.Name x px, .Name y py, .Name z pz] kk pt] e X.env = pure none := by rfl)
    (h1 : (assignEach [.Tuple [.Name x px, .Name y py, .Name z pz] kk pt] X.env).map (·.2) = [assign (.Tuple [.Name x px, .Name y py, .Name z pz] kk pt) X.env] := by rfl)
    (hf : X.fn x = true ∨ X.env.scope.names.lookup x = some .local := by first | exact .inl rfl | exact .inr rfl) (hf2 : X.fn y = true ∨ X.env.scope.names.lookup y = some .local := by first | exact .inl rfl | exact .inr rfl) (hf3 : X.fn z = true ∨ X.env.scope.names.lookup z = some .local := by first | exact .inl rfl | exact .inr rfl) :
    Blk X (.Assign [.Tuple [.Name x px, .Name y py, .Name z pz] kk pt] e pos :: rest) D σ H :=
  ⟨_, pss_cons (ps_asg pe_w (pg_tup hc (pgs_cons (pg_name nd hi hx hf) (pgs_cons (pg_name nd hj hy hf2) (pgs_cons (pg_name nd hl hz hf3) pgs_nil)))) hs hw h1) pss_w, he M σ H k.kn _ fun v H' e1 h => by
    obtain ⟨a, xs, rfl, h1, h2⟩ := dt_tp h
    cases h2 with
    | @cons v1 _ _ _ g1 h3 =>
      cases h3 with
      | @cons v2 _ _ _ g2 h4 =>
        cases h4 with
        | @cons v3 _ _ _ g3 h5 =>
          cases h5
          exact ⟨a, _, rfl, Evl.st_of h1, rfl, v1, [v2, v3], rfl, v2, [v3], rfl, v3, [], rfl, rfl, q _ H' e1 ((((k.mono e1).set i g1).set j g2).set l g3)⟩⟩
/-- x, y, z = e1, e2, e3 (all local) -/
theorem blk_par3 {z : Str} {px py pz pt pt2 : Pos} {kt k2 : Nat} (nd : X.N.Nodup) (i j l : Nat) (hc : X.calm = true) (ha : EE X a δ d1) (hb : EE X b δ d2) (hcc : EE X c δ d3) (k : EO X.K M Hb H σ δ) (q : ∀ σ' H', Ex H H' → EO X.K M Hb H' σ' (((δ.set i (some d1)).set j (some d2)).set l (some d3)) → Blk X rest D σ' H')
    (hi : X.N[i]? = some x := by rfl) (hj : X.N[j]? = some y := by rfl) (hl : X.N[l]? = some z := by rfl) (hij : i ≠ j := by decide) (hil : i ≠ l := by decide) (hjl : j ≠ l := by decide) (hx : X.env.scope.names.lookup x = some .local := by rfl) (hy : X.env.scope.names.lookup y = some .local := by rfl) (hz : X.env.scope.names.lookup z = some .local := by rfl)
    (hw : swappedStores [.Tuple [.Name x px, .Name y py, .Name z pz] kt pt] (.Tuple [a, b, c] k2 pt2) X.env = pure (some [x, y, z]) := by rfl)
    (hs : swapsWithSole [.Tuple [.Name x px, .Name y py, .Name z pz] kt pt] (.Tuple [a, b, c] k2 pt2) pos.line X.env = pure false := by rfl)
    (s1 : starEach [a, b, c] X.env = (false, eval a X.env) :: starEach [b, c] X.env := by rfl) (s2 : starEach [b, c] X.env = (false, eval b X.env) :: starEach [c] X.env := by rfl) (s3 : starEach [c] X.env = (false, eval c X.env) :: starEach [] X.env := by rfl) :
    Blk X (.Assign [.Tuple [.Name x px, .Name y py, .Name z pz] kt pt] (.Tuple [a, b, c] k2 pt2) pos :: rest) D σ H :=
  ⟨_, pss_cons (ps_par3 hc nd hi hj hl hij hil hjl hx hy hz (pa_cons pe_w (pa_cons pe_w (pa_cons pe_w pa_nil s3) s2) s1) hw hs) pss_w, ha M σ H k.kn _ fun u H1 e1 h1 => hb M σ H1 (k.kn.mono e1) _ fun v H2 e2 h2 => hcc M σ H2 (k.kn.mono (e1.trans e2)) _ fun w H3 e3 h3 =>
    ⟨u, v, w, rfl, q _ H3 ((e1.trans e2).trans e3) ((((k.mono ((e1.trans e2).trans e3)).set i (h1.mono (e2.trans e3))).set j (h2.mono e3)).set l h3)⟩⟩
end
end Lr

/-! objects of own classes -/
namespace Lr
open PySem L2
open Evl (Ex)
/-- what isinstance asks of an own class -/
structure OwnTy (K : PySem.W.Frag) (C : Addr) : Prop where
  cl : Cls K C
  ha : PySem.W.findIn K (.ref C) "__class__" = some (some (.builtin "object.__class__"))
  hn : PySem.W.specialIn K (.builtin "object.__class__") "__get__" = some (some (.builtin "getset_descriptor.__get__"))
  htk : PySem.W.takesIn K (.builtin "object.__class__") = some true
  hm : PySem.W.mroIn K C (.type "object") = some true
section
variable {X : Cx} {δ : Dl} {a b c e o : Expr} {es : List Expr} {rest body : List Stmt} {pos p cp apos : Pos} {d z d1 d2 d3 : Pd} {ds : List Pd} {x y f : Str} {D : Ends} {M : List Addr} {Hb H : Hp} {σ : L2.St} {C : Addr} {ns : List Str}
theorem dt_obj {K : PySem.W.Frag} {v : V} (h : Dt K M H v (.obj C ns ds)) : ∃ a dx fs, v = .ref a ∧ H a = some (.ins C dx fs) ∧ fs.map (·.1) = ns ∧ DtAll K M H (fs.map (·.2)) ds := by
  cases h with
  | obj h0 h1 h2 => exact ⟨_, _, _, rfl, h1, rfl, h2⟩
/-! ### fields -/
theorem ee_fldG (cl : Cls X.K C) (na : NoAttr X.K C f) (ho : EE X o δ (.obj C ns ds)) (hl : ∀ (K : PySem.W.Frag) (M : List Addr) (H : Hp) (fs : List (Str × V)), fs.map (·.1) = ns → DtAll K M H (fs.map (·.2)) ds → ∃ v, fs.lookup f = some v ∧ Dt K M H v d)
    (hb : attributeBase o f X.env (eval o X.env) = eval o X.env := by rfl) : EE X (.Attribute o f pos) δ d := fun M σ H kn Q q =>
  ⟨_, pe_fld pe_w hb, ho M σ H kn _ fun v H1 e1 h1 => by
    obtain ⟨a, dx, fs, rfl, h2, h3, h4⟩ := dt_obj h1
    obtain ⟨v, h5, h6⟩ := hl _ _ _ fs h3 h4
    exact ⟨a, C, dx, fs, v, rfl, h2, cl, na, h5, q v H1 e1 h6⟩⟩
theorem look1 {d1 : Pd} (K : PySem.W.Frag) (M : List Addr) (H : Hp) (fs : List (Str × V)) (h : fs.map (·.1) = [f]) (g : DtAll K M H (fs.map (·.2)) [d1]) : ∃ v, fs.lookup f = some v ∧ Dt K M H v d1 := by
  match fs, h, g with
  | [(n, v)], h, g =>
    have e : n = f := (List.cons.inj h).1
    subst e
    cases g with
    | cons g1 _ => exact ⟨v, by simp [List.lookup], g1⟩
theorem look2a {g : Str} {d1 d2 : Pd} (K : PySem.W.Frag) (M : List Addr) (H : Hp) (fs : List (Str × V)) (h : fs.map (·.1) = [f, g]) (k : DtAll K M H (fs.map (·.2)) [d1, d2]) : ∃ v, fs.lookup f = some v ∧ Dt K M H v d1 := by
  match fs, h, k with
  | [(n, v), (m, w)], h, k =>
    have e : n = f := (List.cons.inj h).1
    subst e
    cases k with
    | cons g1 _ => exact ⟨v, by simp [List.lookup], g1⟩
theorem look2b {g : Str} {d1 d2 : Pd} (hne : (g == f) = false) (K : PySem.W.Frag) (M : List Addr) (H : Hp) (fs : List (Str × V)) (h : fs.map (·.1) = [f, g]) (k : DtAll K M H (fs.map (·.2)) [d1, d2]) : ∃ v, fs.lookup g = some v ∧ Dt K M H v d2 := by
  match fs, h, k with
  | [(n, v), (m, w)], h, k =>
    have e : n = f := (List.cons.inj h).1
    have e2 : m = g := (List.cons.inj (List.cons.inj h).2).1
    subst e
    subst e2
    cases k with
    | cons _ g2 =>
      cases g2 with
      | cons g2 _ => exact ⟨w, by simp only [List.lookup, hne]; simp, g2⟩
theorem ee_fld1 (cl : Cls X.K C) (na : NoAttr X.K C f) (ho : EE X o δ (.obj C [f] [d])) (hb : attributeBase o f X.env (eval o X.env) = eval o X.env := by rfl) : EE X (.Attribute o f pos) δ d := ee_fldG cl na ho look1 hb
theorem ee_fld2a {g : Str} {d2 : Pd} (cl : Cls X.K C) (na : NoAttr X.K C f) (ho : EE X o δ (.obj C [f, g] [d, d2])) (hb : attributeBase o f X.env (eval o X.env) = eval o X.env := by rfl) : EE X (.Attribute o f pos) δ d := ee_fldG cl na ho look2a hb
theorem ee_fld2b {g : Str} {d2 : Pd} (cl : Cls X.K C) (na : NoAttr X.K C g) (hne : (g == f) = false) (ho : EE X o δ (.obj C [f, g] [d2, d])) (hb : attributeBase o g X.env (eval o X.env) = eval o X.env := by rfl) : EE X (.Attribute o g pos) δ d := ee_fldG cl na ho (look2b hne) hb
/-! ### isinstance of own classes -/
theorem ee_isiC {tp : Pos} {T : Str} {C' : Addr} {k : Bool} (ho : EE X e δ (.obj C ns ds)) (ty : OwnTy X.K C) (hk : PySem.W.kitOne X.K (.ref C) (.ref C') = some k) (hm : X.mg "isinstance" = none) (hT : X.mg T = some (.ref C'))
    (hg : Gl X "isinstance" := by rfl) (hgT : Gl X T := by rfl) (hdb : (T == ("__debug__" : Str)) = false := by decide)
    (he : starEach [e, .Name T tp] X.env = (false, eval e X.env) :: starEach [.Name T tp] X.env := by rfl) (hpl : (backTo pos (starEach [.Name T tp] X.env)).any (·.1) = false := by rfl) : EE X (.Call (.Name "isinstance" p) [e, .Name T tp] [] pos) δ (.bl k) := fun M σ H kn Q q =>
  ⟨_, pe_callB (id := "isinstance") call_isi hg hm (by decide +kernel) (pa_cons pe_w (pa_cons (pe_glob (v := .ref C') hgT hT rfl hdb) pa_nil (by rfl)) he) (by decide) (by decide) he hpl, ho M σ H kn _ fun v H1 e1 h1 => by
    obtain ⟨a, dx, fs, rfl, h2, h3, h4⟩ := dt_obj h1
    exact ⟨.ref a, .ref C', _, _, k, rfl, .own C', .base (.ins h2 ty.cl ty.ha ty.hn ty.htk ty.hm), hk, q _ H1 e1 (.bl k)⟩⟩
/-! ### methods: o.m(e, ..) -/
def lookNo : List Str → Str → Bool
  | [], _ => true
  | n :: ns, m => !(m == n) && lookNo ns m
theorem lookup_no {m : Str} : ∀ {fs : List (Str × V)} {ns : List Str}, fs.map (·.1) = ns → lookNo ns m = true → fs.lookup m = none
  | [], _, _, _ => rfl
  | (n, v) :: fs, ns, h, g => by
    subst h
    have g2 : (!(m == n) && lookNo (fs.map (·.1)) m) = true := g
    rw [Bool.and_eq_true] at g2
    have g3 : (m == n) = false := by
      have := g2.1
      simpa using this
    simp only [List.lookup, g3]
    exact lookup_no rfl g2.2
variable {CX : CXT} {k : Nat} {ps : List Str} {m : Str} {fa : Addr} {fd : FuncData}
theorem ee_meth {pl : Sem Bool} {R : List Pd → Pd → Prop} {ds2 : List Pd} (cl : Cls X.K C) (hm : Meth X.K C m fa) (F : FnOk X.prog X.w X.K X.mg X.base CX k fa fd ps (SpR X.K R)) (hr : Room k X.A) (hbi : Binds X.K fd ps []) (hx : Passes CX X E0) (ho : EE X o δ (.obj C ns ds)) (hno : lookNo ns m = true)
    (ha : EA X (e :: es) δ ds2) (hR : R (.obj C ns ds :: ds2) d)
    (hst : starEach (e :: es) X.env = (false, eval e X.env) :: starEach es X.env := by rfl) (hpl : (backTo cp (starEach es X.env)).any (·.1) = false := by rfl)
    (ht : eval (.Call (.Attribute o m apos) (e :: es) [] cp) X.env = (do
      let ov ← eval o X.env
      standAt apos.atName
      let (f, first) ← holding [ov] (getMethod ov m pl)
      callWith cp f first (backTo cp (starEach (e :: es) X.env)) (backToKw cp (keywordEach [] X.env))) := by rfl) :
    EE X (.Call (.Attribute o m apos) (e :: es) [] cp) δ d := fun M σ H kn Q q =>
  ⟨_, pe_meth pe_w cl hm F hr hbi .nil hx pa_w hst hpl ht, ho M σ H kn _ fun v H1 e1 h1 => by
    obtain ⟨a, dx, fs, rfl, h2, h3, h4⟩ := dt_obj h1
    refine ⟨a, dx, fs, rfl, h2, lookup_no h3 hno, ha M σ H1 (kn.mono e1) _ fun vs H2 e2 h5 => ?_⟩
    exact ⟨M, _, d, kn.al.mono (e1.trans e2), by rw [List.append_nil]; exact .cons (h1.mono e2) h5, hR, fun u H3 e3 h6 => q u H3 ((e1.trans e2).trans e3) h6⟩⟩
/-! ### objects made -/
/-- __init__ that keeps its one argument at a name -/
def SpI1 (C : Addr) (nm : Str) : Sp := fun vs H Q _ => ∃ (x dx : Addr) (v : V), vs = [.ref x, v] ∧ H x = some (.ins C dx []) ∧ ∀ H', (∀ y o, y ≠ x → H y = some o → H' y = some o) → H' x = some (.ins C dx [(nm, v)]) → Q .non H'
/-- __init__ that copies its two lists -/
def SpI2 (C : Addr) (nm nm2 : Str) : Sp := fun vs H Q _ => ∃ (x dx p q : Addr) (xs ys : List V), vs = [.ref x, .ref p, .ref q] ∧ H x = some (.ins C dx []) ∧ H p = some (.lst xs) ∧ H q = some (.lst ys) ∧
  ∀ a b H', H a = none → H b = none → a ≠ b → (∀ y o, y ≠ x → H y = some o → H' y = some o) → H' x = some (.ins C dx [(nm, .ref a), (nm2, .ref b)]) → H' a = some (.lst xs) → H' b = some (.lst ys) → Q .non H'
theorem ee_make1 {T nm : Str} {fa : Addr} {fd : FuncData} {k : Nat} {ps : List Str} (Mk_ : Mk X.K C fa) (F : FnOk X.prog X.w X.K X.mg X.base CX k fa fd ps (SpI1 C nm)) (hr : Room (k + 1) X.A) (hT : X.mg T = some (.ref C)) (hbi : Binds X.K fd ps []) (hx : Passes CX X E0) (ha : EE X e δ d) (hg : Gl X T := by rfl)
    (hdb : (T == ("__debug__" : Str)) = false := by decide) (he : starEach [e] X.env = (false, eval e X.env) :: starEach [] X.env := by rfl) (hpl : (backTo pos (starEach [] X.env)).any (·.1) = false := by rfl) : EE X (.Call (.Name T p) [e] [] pos) δ (.obj C [nm] [d]) := fun M σ H kn Q q =>
  ⟨_, pe_make Mk_ F hr hg hT hbi .nil hx (pa_cons pe_w pa_nil he) hdb he hpl, ha M σ H kn _ fun v H1 e1 h1 x dx nx ndx hne => by
    refine ⟨x, dx, v, rfl, upd_same, fun H2 keep hx2 => ⟨rfl, ?_⟩⟩
    have e2 : Ex H1 H2 := fun y o hy => keep y o (ne_of_none hy nx) (by rw [upd_ne (ne_of_none hy nx), upd_ne (ne_of_none hy ndx)]; exact hy)
    refine q _ H2 (e1.trans e2) ?_
    have hxM : x ∉ M := (kn.al.mono e1).nw nx
    exact .obj (fs := [(nm, v)]) hxM hx2 (.cons (h1.mono e2) .nil)⟩
/-- a new object of two new lists of ints -/
def EOA (X : Cx) (e : Expr) (δ : Dl) (C : Addr) (nm nm2 : Str) (l c : List Int) : Prop := ∀ M σ H, Kn X.K M H σ δ → ∀ Q : VK, (∀ x dx a b H', H x = none → H a = none → H b = none → a ≠ b → Ex H H' → H' x = some (.ins C dx [(nm, .ref a), (nm2, .ref b)]) →
  H' a = some (.lst (l.map V.int)) → H' b = some (.lst (c.map V.int)) → Q (.ref x) H') → TW X e σ H Q
theorem dt_oa {K : PySem.W.Frag} {M : List Addr} {H H' : Hp} {x dx a b : Addr} {nm nm2 : Str} {l c : List Int} (al : Al M H) (hx : H x = none) (ha : H a = none) (hb : H b = none) (e1 : H' x = some (.ins C dx [(nm, .ref a), (nm2, .ref b)]))
    (e2 : H' a = some (.lst (l.map V.int))) (e3 : H' b = some (.lst (c.map V.int))) : Dt K M H' (.ref x) (.obj C [nm, nm2] [dL l, dL c]) :=
  .obj (fs := [(nm, .ref a), (nm2, .ref b)]) (al.nw hx) e1 (.cons (.lst (al.nw ha) e2 (dtI _)) (.cons (.lst (al.nw hb) e3 (dtI _)) .nil))
theorem eoa_make {T nm nm2 : Str} {l c' : List Int} {fa : Addr} {fd : FuncData} {k : Nat} {ps : List Str} (Mk_ : Mk X.K C fa) (F : FnOk X.prog X.w X.K X.mg X.base CX k fa fd ps (SpI2 C nm nm2)) (hr : Room (k + 1) X.A) (hT : X.mg T = some (.ref C)) (hbi : Binds X.K fd ps []) (hx : Passes CX X E0) (ha : EE X a δ (dL l)) (hb : EE X b δ (dL c')) (hg : Gl X T := by rfl)
    (hdb : (T == ("__debug__" : Str)) = false := by decide) (he : starEach [a, b] X.env = (false, eval a X.env) :: starEach [b] X.env := by rfl) (he2 : starEach [b] X.env = (false, eval b X.env) :: starEach [] X.env := by rfl) (hpl : (backTo pos (starEach [b] X.env)).any (·.1) = false := by rfl) : EOA X (.Call (.Name T p) [a, b] [] pos) δ C nm nm2 l c' := fun M σ H kn Q q =>
  ⟨_, pe_make Mk_ F hr hg hT hbi .nil hx (pa_cons pe_w (pa_cons pe_w pa_nil he2) he) hdb he hpl, ha M σ H kn _ fun v H1 e1 h1 => hb M σ H1 (kn.mono e1) _ fun u H2 e2 h2 x dx nx ndx hne => by
    obtain ⟨i, rfl, g1⟩ := dt_dL h1
    obtain ⟨j, rfl, g2⟩ := dt_dL h2
    have up : ∀ y o, H2 y = some o → (upd (upd H2 dx (.own x)) x (.ins C dx [])) y = some o := fun y o hy => by
      rw [upd_ne (ne_of_none hy nx), upd_ne (ne_of_none hy ndx)]
      exact hy
    refine ⟨x, dx, i, j, _, _, rfl, upd_same, up _ _ (e2 _ _ g1), up _ _ g2, fun a' b' H3 na nb ab keep hx3 ha3 hb3 => ⟨rfl, ?_⟩⟩
    have nx3 : ∀ y, (upd (upd H2 dx (.own x)) x (.ins C dx [])) y = none → H2 y = none := fun y hy => by
      cases hz : H2 y with
      | none => rfl
      | some o =>
        rw [up y o hz] at hy
        cases hy
    have e3 : Ex H2 H3 := fun y o hy => keep y o (ne_of_none hy nx) (up y o hy)
    exact q x dx a' b' H3 (Evl.fresh_back (e1.trans e2) nx) (Evl.fresh_back (e1.trans e2) (nx3 a' na)) (Evl.fresh_back (e1.trans e2) (nx3 b' nb)) ab ((e1.trans e2).trans e3) hx3 ha3 hb3⟩
theorem EOA.ee {nm nm2 : Str} {l c : List Int} (h : EOA X e δ C nm nm2 l c) : EE X e δ (.obj C [nm, nm2] [dL l, dL c]) := fun M σ H k Q q => h M σ H k Q fun x dx a b H' hx ha hb _ e1 h1 h2 h3 => q _ H' e1 (dt_oa k.al hx ha hb h1 h2 h3)
end
end Lr

/-! xs[::-1] of the script, is not, o[i] = e, append by two views -/
namespace Lr
open PySem L2
open Evl (Ex)
theorem dt_objM {K : PySem.W.Frag} {M : List Addr} {H : Hp} {v : V} {C : Addr} {ns : List Str} {ds : List Pd} (h : Dt K M H v (.obj C ns ds)) : ∃ a dx fs, v = .ref a ∧ a ∉ M ∧ H a = some (.ins C dx fs) ∧ fs.map (·.1) = ns ∧ DtAll K M H (fs.map (·.2)) ds := by
  cases h with
  | obj h0 h1 h2 => exact ⟨_, _, _, rfl, h0, h1, rfl, h2⟩
theorem EO.more {K : PySem.W.Frag} {M : List Addr} {Hb H H' : Hp} {σ : L2.St} {δ : Dl} {p : Addr} {o : HO} (k : EO K M Hb H σ δ) (hn : H p = none) (e : Ex H H') (hp : H' p = some o) : EO K (p :: M) Hb H' σ δ := ⟨k.ex.trans e, k.kn.more hn e hp⟩
section
variable {X : Cx} {δ δ' : Dl} {a b c e o ix : Expr} {rest : List Stmt} {pos : Pos} {d z : Pd} {D : Ends} {M M' : List Addr} {Hb H : Hp} {σ : L2.St}
theorem ef_revS {ns : List Int} {k : Nat} {p1 p2 p3 : Pos} (ha : EE X a δ (.scr ns)) : EF X (.Subscript a (.Slice none none (some (.UnaryOp .USub (.Constant (.int 1) k p1) p2)) p3) pos) δ (ns.reverse.map .int) := fun M σ H kn Q q =>
  ⟨_, pe_revL pe_w, ha M σ H kn _ fun v H1 e1 h1 => by
    obtain ⟨l, rfl, h2⟩ := dt_scr h1
    refine ⟨l, _, rfl, h2, fun p hp => ?_⟩
    rw [← List.map_reverse]
    exact q p _ _ (Evl.fresh_back e1 hp) (e1.trans (Evl.Ex.new hp)) upd_same (dtI _)⟩
theorem rd_not {K : PySem.W.Frag} {i j : Bool} : RD K rNotB (.bl i) (.bl j) (.bl (!decide (i = j))) := fun M x y H _ hx hy Q q => ⟨i, j, dt_bl hx, dt_bl hy, q _ H (Evl.Ex.refl H) (.bl _)⟩
theorem et_isnot {i j : Bool} (ha : EE X a δ (.bl i)) (hb : EE X b δ (.bl j)) : ET X (.Compare a [.IsNot] [b] pos) δ (!decide (i = j)) := et_cmp op_notBl rd_not ha hb (nomark _)
/-- o[i] = e, o a list of whole numbers set apart in one view -/
theorem blk_putI {a : Addr} {s : List Int} {y j : Int} {n : Nat} {sp : Pos} (he : EE X e δ (.int y)) (ho : EE X o δ' (.raw (.ref a))) (hx : EE X ix δ' (.int j)) (hj : ixN s.length j = some n) (hH : H a = some (.lst (s.map V.int))) (k : Kn X.K M H σ δ) (k' : EO X.K M' Hb H σ δ') (hM : a ∈ M') (hb : Hb a = none)
    (q : ∀ H1, Ex H H1 → EO X.K M' Hb (upd H1 a (.lst ((s.set n y).map V.int))) σ δ' → Blk X rest D σ (upd H1 a (.lst ((s.set n y).map V.int))))
    (hs : swapsWithSole [.Subscript o ix sp] e pos.line X.env = pure false := by rfl) (hw : swappedStores [.Subscript o ix sp] e X.env = pure none := by rfl)
    (h1 : (assignEach [.Subscript o ix sp] X.env).map (·.2) = [assign (.Subscript o ix sp) X.env] := by rfl)
    (ha : ∀ v, assign (.Subscript o ix sp) X.env v = (do
      let ov ← holding [v] (eval o X.env)
      let iv ← holding [v, ov] (eval ix X.env)
      standAt sp
      holding [v, ov, iv] (setItem ov iv v)
      release [v, ov, iv] []) := by intro _; rfl) : Blk X (.Assign [.Subscript o ix sp] e pos :: rest) D σ H :=
  ⟨_, pss_cons (ps_asg pe_w (pg_sub pe_w pe_w set_list ha) hs hw h1) pss_w, he M σ H k _ fun v H1 e1 g1 => by
    cases dt_int g1
    refine ho M' σ H1 (k'.kn.mono e1) _ fun u H2 e2 g2 => ?_
    cases dt_raw g2
    refine hx M' σ H2 (k'.kn.mono (e1.trans e2)) _ fun w H3 e3 g3 => ?_
    cases dt_int g3
    refine ⟨a, _, j, n, rfl, rfl, (e1.trans (e2.trans e3)) _ _ hH, by rw [List.length_map]; exact hj, ?_⟩
    have es : (s.map V.int).set n (.int y) = (s.set n y).map V.int := by rw [List.map_set]
    rw [es]
    have ee := e1.trans (e2.trans e3)
    exact q H3 ee ⟨Evl.Ex.mut (k'.ex.trans ee) hb, (k'.kn.mono ee).upd hM⟩⟩
/-- o.append(e) by two views: o's list set apart in the one, e by the other -/
theorem blk_appendX {l : Addr} {xs : List V} {apos cp : Pos} (ho : EE X o δ' (.raw (.ref l))) (he : EE X e δ d) (hl : H l = some (.lst xs)) (hz : xs.length < 100000) (hM : l ∈ M') (hb : Hb l = none) (k : Kn X.K M H σ δ) (k' : EO X.K M' Hb H σ δ')
    (q : ∀ v H1, Ex H H1 → Dt X.K M H1 v d → EO X.K M' Hb (L2.upd H1 l (.lst (xs ++ [v]))) σ δ' → Blk X rest D σ (L2.upd H1 l (.lst (xs ++ [v]))))
    (hs : swapsWith (.Call (.Attribute o "append" apos) [e] [] cp) none pos.line X.env = pure false := by rfl) (hbase : attributeBase o "append" X.env (eval o X.env) = eval o X.env := by rfl)
    (hfew : ((backTo cp (starEach [e] X.env)).all (fun x => !x.1) && (backToKw cp (keywordEach [] X.env)).all (fun x => x.1.isSome)
      && decide ([e].length + ([] : List Keyword).length + (if ([] : List Keyword).isEmpty then 0 else 1) < 30)) = true := by rfl)
    (hline : (apos.endLine == cp.line) = true := by rfl) (hst : starEach [e] X.env = (false, eval e X.env) :: starEach [] X.env := by rfl) (hplain : (backTo cp (starEach [] X.env)).any (·.1) = false := by rfl) :
    Blk X (.Expr (.Call (.Attribute o "append" apos) [e] [] cp) pos :: rest) D σ H :=
  ⟨_, pss_cons (ps_expr (pe_bm PySem.F.plainAttrs_list PySem.F.slot_list_append PySem.F.type_list_append mt_append pe_w (pa_cons pe_w pa_nil hst) hbase hfew hline hst hplain) hs) pss_w, ho M' σ H k'.kn _ fun v H1 e1 h1 => by
    cases dt_raw h1
    refine ⟨.inl ⟨rfl, xs, Evl.sq_of (e1 _ _ hl)⟩, he M σ H1 (k.mono e1) _ fun u H2 e2 h2 => ⟨l, xs, u, rfl, rfl, e2 _ _ (e1 _ _ hl), Evl.sz_lt hz, ?_⟩⟩
    exact q u H2 (e1.trans e2) h2 ⟨Evl.Ex.mut (k'.ex.trans (e1.trans e2)) hb, (k'.kn.mono (e1.trans e2)).upd hM⟩⟩
end
end Lr

/-! objects of classes without an __init__ of their own -/
namespace Lr
open PySem PySem.Spec PyProof.Rows L2
open Evl (Ex)
structure Mk0 (K : PySem.W.Frag) (C : Addr) : Prop where
  makes : PySem.W.makesIn K C = true
  init : PySem.W.findIn K (.ref C) "__init__" = some (some (.builtin "object.__init__"))
  kp : PySem.W.keepIn K (.ref C) = true
  top : PySem.W.mroIn K C (.type "object") = some true
section
variable {X : Cx} {C : Addr}
theorem run_mk0 {pins : List (Addr × Obj)} {σ : L2.St} {H : Hp} {s : Shared} {Q : VK} (M : Mk0 X.K C) (I : Inv X pins σ H s)
    (h : ∀ x dx, H x = none → H dx = none → dx ≠ x → Q (.ref x) (upd (upd H dx (.own x)) x (.ins C dx []))) : wpAny (model X.prog X.w) X.A (call (.ref C) []) (L2.EP X pins σ Q) X.xe s := by
  have hq := h (s.heap.objs.size + 1) s.heap.objs.size (I.hok.fresh (Nat.le_succ _)) (I.hok.fresh (Nat.le_refl _)) (Nat.ne_of_lt (Nat.lt_succ_self _))
  have I2 := Inv.made (C := C) I
  have e2 : ((s.heap.push PySem.W.emptyDict).push (PySem.W.instObj C s.heap.objs.size)).get? (s.heap.objs.size + 1) = some (PySem.W.instObj C s.heap.objs.size) := by
    have := Heap.get?_push_size (s.heap.push PySem.W.emptyDict) (o := PySem.W.instObj C s.heap.objs.size) rfl
    rwa [Heap.size_push] at this
  have t1 : PySem.W.Looks (model X.prog X.w) ((s.heap.push PySem.W.emptyDict).push (PySem.W.instObj C s.heap.objs.size)) (typeOf (.ref (s.heap.objs.size + 1))) (.ref C) := (PySem.W.Looks.ld e2).andThen .now
  have t2 : PySem.W.Looks (model X.prog X.w) ((s.heap.push PySem.W.emptyDict).push (PySem.W.instObj C s.heap.objs.size)) (isInstance (.ref (s.heap.objs.size + 1)) (.type "object")) true := t1.andThen (PySem.W.looks_mroIn I2.kIn M.top)
  refine wpAny_call (make_map0 I.kIn M.makes M.init (fun self => PySem.W.Looks.of_pure (PySem.W.oi_bind _)) ?_)
  refine codeAny_call_builtin PySem.W.oi_plain PySem.W.entry_oi (@PySem.W.check_slot (model X.prog X.w) _ _ _ "object.__init__" "object" "__init__" (.ref (s.heap.objs.size + 1)) [] [] _ PySem.W.oi_kind PySem.W.oi_split t2 (PySem.W.oi_args (.ref _)) ?_)
  rw [PySem.W.oi_run]
  exact wpAny_pure (And.intro rfl ⟨V.ref (s.heap.objs.size + 1), _, I2, rfl, hq⟩)
theorem pe_mk0 {x : Str} {p pos : Pos} (M : Mk0 X.K C) (hg : Gl X x) (hm : X.mg x = some (.ref C)) (hdb : (x == ("__debug__" : Str)) = false := by decide) :
    PE X (.Call (.Name x p) [] [] pos) (fun σ H Q => ∀ y dx, H y = none → H dx = none → dx ≠ y → Q (.ref y) (upd (upd H dx (.own y)) y (.ins C dx []))) := by
  refine ⟨fun pins s σ H Q I h => ?_⟩
  refine wpAny_Call_Name_kw (ld_glob I hg hm ?_ hdb)
  exact PySem.W.callWith_K0 I.kIn M.kp (run_mk0 M I h)
theorem ee_make0 {T : Str} {p pos : Pos} {δ : Dl} (M : Mk0 X.K C) (hT : X.mg T = some (.ref C)) (hg : Gl X T := by rfl) (hdb : (T == ("__debug__" : Str)) = false := by decide) : EE X (.Call (.Name T p) [] [] pos) δ (.obj C [] []) := fun M' σ H kn Q q =>
  ⟨_, pe_mk0 M hg hT hdb, fun y dx ny ndx hne => q _ _ (fun a o ha => by
    rw [upd_ne (ne_of_none ha ny), upd_ne (ne_of_none ha ndx)]
    exact ha) (.obj (fs := []) (kn.al.nw ny) upd_same .nil)⟩
end
end Lr

/-! classes and methods that stand there -/
namespace Lr
open PySem L2
open Evl (Ex)
/-- the class stands there, its __init__ keeps one thing | copies two lists -/
def Mk1 (P : Program) (w : World) (K : PySem.W.Frag) (mg : Str → Option Value) (base : Heap) (T : Str) (C : Addr) (nm : Str) : Prop := ∃ fa fd ps, Mk K C fa ∧ FnOk P w K mg base CX0 1 fa fd ps (SpI1 C nm) ∧ mg T = some (.ref C) ∧ Binds K fd ps []
def Mk2 (P : Program) (w : World) (K : PySem.W.Frag) (mg : Str → Option Value) (base : Heap) (T : Str) (C : Addr) (nm nm2 : Str) : Prop := ∃ fa fd ps, Mk K C fa ∧ FnOk P w K mg base CX0 1 fa fd ps (SpI2 C nm nm2) ∧ mg T = some (.ref C) ∧ Binds K fd ps []
/-- a method stands there -/
def HM (P : Program) (w : World) (K : PySem.W.Frag) (mg : Str → Option Value) (base : Heap) (C : Addr) (m : Str) (k : Nat) (ps : List Str) (sp : Sp) : Prop := ∃ fa fd, Meth K C m fa ∧ FnOk P w K mg base CX0 k fa fd ps sp ∧ Binds K fd ps []
section
variable {X : Cx} {δ : Dl} {e : Expr} {rest : List Stmt} {pos : Pos} {D : Ends} {M : List Addr} {Hb H : Hp} {σ : L2.St} {C : Addr} {nm nm2 : Str} {l c : List Int}
theorem blk_retO (he : EOA X e δ C nm nm2 l c) (k : EO X.K M Hb H σ δ) (q : ∀ x dx a b H', Hb x = none → Hb a = none → Hb b = none → a ≠ b → Ex Hb H' → H' x = some (.ins C dx [(nm, .ref a), (nm2, .ref b)]) →
  H' a = some (.lst (l.map V.int)) → H' b = some (.lst (c.map V.int)) → D.rt (.ref x) H') : Blk X (.Return (some e) pos :: rest) D σ H :=
  ⟨_, pss_cons (ps_ret pe_w) (u := tNever) pss_never, he M σ H k.kn _ fun x dx a b H' hx ha hb ab e1 h1 h2 h3 => q x dx a b H' (Evl.fresh_back k.ex hx) (Evl.fresh_back k.ex ha) (Evl.fresh_back k.ex hb) ab (k.ex.trans e1) h1 h2 h3⟩
end
section
variable {X : Cx} {δ : Dl} {e o : Expr} {es : List Expr} {rest : List Stmt} {pos apos cp : Pos} {d z : Pd} {ds ds2 : List Pd} {D : Ends} {M : List Addr} {Hb H : Hp} {σ : L2.St} {C CA CU : Addr} {ns : List Str} {k : Nat} {ps : List Str} {m : Str}
theorem ee_hm {pl : Sem Bool} {R : List Pd → Pd → Prop} (cl : Cls X.K C) (hm : HM X.prog X.w X.K X.mg X.base C m k ps (SpR X.K R)) (hr : Room k X.A) (hx : Passes CX0 X E0) (ho : EE X o δ (.obj C ns ds)) (hno : lookNo ns m = true)
    (ha : EA X (e :: es) δ ds2) (hR : R (.obj C ns ds :: ds2) d)
    (hst : starEach (e :: es) X.env = (false, eval e X.env) :: starEach es X.env := by rfl) (hpl : (backTo cp (starEach es X.env)).any (·.1) = false := by rfl)
    (ht : eval (.Call (.Attribute o m apos) (e :: es) [] cp) X.env = (do
      let ov ← eval o X.env
      standAt apos.atName
      let (f, first) ← holding [ov] (getMethod ov m pl)
      callWith cp f first (backTo cp (starEach (e :: es) X.env)) (backToKw cp (keywordEach [] X.env))) := by rfl) :
    EE X (.Call (.Attribute o m apos) (e :: es) [] cp) δ d := by
  obtain ⟨fa, fd, h1, h2, h3⟩ := hm
  exact ee_meth cl h1 h2 hr h3 hx ho hno ha hR hst hpl ht
end
end Lr

/-! comprehensions with a test -/
namespace Lr
open PySem L2
open Evl (Ex)
section
variable {X : Cx} {δ : Dl} {a b c e : Expr} {rest : List Stmt} {pos : Pos} {d z : Pd} {x y : Str} {D : Ends} {M : List Addr} {Hb H : Hp} {σ : L2.St}
def ttW (X : Cx) (c : Expr) (scope : Scope) : TT := fun σ H Q => ∀ (s : Shared) (Hb : Hp) (C : Addr) (cl : List (Str × Addr)) (fp : List Addr), TTW (X.blk s Hb scope (compEnvC scope cl C X.env) fp) c σ H Q
theorem pts_tt {c : Expr} {scope : Scope} (s : Shared) (H : Hp) (C : Addr) (cl : List (Str × Addr)) (fp : List Addr) : PTs (X.blk s H scope (compEnvC scope cl C X.env) fp) [c] (ttW X c scope) :=
  pts_one ⟨fun pins s' σ H' Q I h => pt_w.run pins s' σ H' Q I (h s H C cl fp)⟩
theorem filter_succ (p : Nat → Bool) (i : Nat) : (List.range (i + 1)).filter p = (List.range i).filter p ++ (if p i then [i] else []) := by
  rw [List.range_succ, List.filter_append]
  congr 1
  cases h : p i <;> simp [List.filter, h]
theorem lcIf_read {tg elt iter : Expr} {scope : Scope} {own : List (Str × Nat)} {n : Nat} {Yd : Nat → Pd} {f : Nat → Pd} {p : Nat → Bool} {δ' : Nat → Dl} {g : TG} (hi : IW X tg iter δ n Yd)
    (hgt : ∀ (i : Nat) M v τ H, i < n → Kn X.K M H τ (wipeD δ (own.map (·.2))) → Dt X.K M H v (Yd i) → ∀ Q : St → Hp → Prop, (∀ τ', Kn X.K M H τ' (δ' i) → L2.wipe τ' (own.map (·.2)) = L2.wipe τ (own.map (·.2)) → Q τ' H) → g v τ H Q)
    (hn : n ≤ 50000)
    (hc : ∀ (s : Shared) (H : Hp) (C : Addr) (cl : List (Str × Addr)) (fp : List Addr) (i : Nat), i < n → ET (X.blk s H scope (compEnvC scope cl C X.env) fp) c (δ' i) (p i))
    (he : ∀ (s : Shared) (H : Hp) (C : Addr) (cl : List (Str × Addr)) (fp : List Addr) (i : Nat), i < n → p i = true → EE (X.blk s H scope (compEnvC scope cl C X.env) fp) elt (δ' i) (f i))
    {M : List Addr} {σ : L2.St} {H : Hp} (kn : Kn X.K M H σ δ) (Q : VK) (q : ∀ a xs H', H a = none → Ex H H' → H' a = some (.lst xs) → DtAll X.K (a :: M) H' xs (((List.range n).filter p).map f) → Q (.ref a) H') :
    tLc (TIW X tg iter) g (ttW X c scope) (teW X elt scope) (own.map (·.2)) σ H Q := by
  refine hi M σ H kn _ fun J H1 G Y e1 w hG hY Dl hD => ?_
  refine lc_it w (g := g) (tt := ttW X c scope) (te := teW X elt scope) (vs := own.map (·.2)) (σ := σ) (Qd := fun H' => Q (.ref Dl) H') (fun i H' => Ex H1 H' ∧ ∃ acc, H' Dl = some (.lst acc) ∧ DtAll X.K (Dl :: M) H' acc (((List.range i).filter p).map f)) ⟨Evl.Ex.new hD, [], upd_same, .nil⟩ (fun i H' _ p => hG H' (exM p.1)) ?_ ?_
  · intro i v H2 H3 hlt pv y
    obtain ⟨p2, acc, p3, p4⟩ := pv
    have kn2 : Kn X.K (Dl :: M) H2 σ δ := (kn.mono e1).more hD p2 p3
    obtain ⟨y1, y2⟩ := hY (Dl :: M) i H2 v H3 (fun a ha => (List.mem_cons.mp ha).elim (fun z => .inr (by rw [z]; exact hD)) .inl) hlt y (exM p2) kn2.al
    refine hgt i (Dl :: M) v _ H3 hlt ((kn2.mono y1).wipe _) y2 _ fun τ' kt hw => ⟨by rw [hw, wipe_idem], ?_⟩
    show ∀ (s : Shared) (Hb : Hp) (C : Addr) (cl : List (Str × Addr)) (fp : List Addr), _
    intro s Hb C cl fp
    refine hc s Hb C cl fp i hlt (Dl :: M) τ' H3 kt _ fun H4 e4 => ?_
    cases hp : p i with
    | true =>
      refine iteT ?_
      show ∀ (s : Shared) (Hb : Hp) (C : Addr) (cl : List (Str × Addr)) (fp : List Addr), _
      intro s Hb C cl fp
      refine he s Hb C cl fp i hlt hp (Dl :: M) τ' H4 (kt.mono e4) _ fun z H5 e5 h5 => ⟨acc, e5 _ _ (e4 _ _ (y1 _ _ p3)), ?_, ?_⟩
      · rw [p4.length, List.length_map]
        have := List.length_filter_le p (List.range i)
        rw [List.length_range] at this
        exact Evl.sz_lt (by omega)
      · have exu : Ex H1 (upd H5 Dl (.lst (acc ++ [z]))) := fun a o h => by
          rw [upd_ne (ne_of_none h hD)]
          exact (((p2.trans y1).trans e4).trans e5) a o h
        refine ⟨exu, _, upd_same, ?_⟩
        rw [filter_succ, hp, List.map_append]
        exact DtAll.app ((p4.mono ((y1.trans e4).trans e5)).monoM (ExM.upd (List.mem_cons_self ..))) (.cons (h5.monoM (ExM.upd (List.mem_cons_self ..))) .nil)
    | false =>
      refine iteF ⟨(p2.trans y1).trans e4, acc, e4 _ _ (y1 _ _ p3), ?_⟩
      rw [filter_succ, hp, List.map_append]
      have := p4.mono (y1.trans e4)
      simpa using this
  · intro H' pv
    obtain ⟨p2, acc, p3, p4⟩ := pv
    exact q Dl acc H' (Evl.fresh_back e1 hD) (e1.trans p2) p3 p4
/-- [e for name in iter if c] -/
theorem ef_lcIf {tx : Str} {tp : Pos} {elt iter : Expr} {scope : Scope} {own : List (Str × Nat)} {n jx : Nat} {Yd : Nat → Pd} {f : Nat → Pd} {p : Nat → Bool} (hc : X.calm = true) (hN : X.N.Nodup) (hi : IW X (.Name tx tp) iter δ n Yd) (ok : BlkOk X.N X.env.scope scope own)
    (hg : ∀ (s : Shared) (H : Hp) (C : Addr) (cl : List (Str × Addr)) (fp : List Addr), PG (X.blk s H scope (compEnvC scope cl C X.env) fp) (.Name tx tp) (gName jx)) (hj : jx ∈ own.map (·.2)) (hn : n ≤ 50000)
    (ht : ∀ (s : Shared) (H : Hp) (C : Addr) (cl : List (Str × Addr)) (fp : List Addr) (i : Nat), i < n → ET (X.blk s H scope (compEnvC scope cl C X.env) fp) c ((wipeD δ (own.map (·.2))).set jx (some (Yd i))) (p i))
    (he : ∀ (s : Shared) (H : Hp) (C : Addr) (cl : List (Str × Addr)) (fp : List Addr) (i : Nat), i < n → p i = true → EE (X.blk s H scope (compEnvC scope cl C X.env) fp) elt ((wipeD δ (own.map (·.2))).set jx (some (Yd i))) (f i)) (hs : ∀ x, foldedSetIterable iter X.env x = pure x := by intro _; rfl) :
    EF X (.ListComp elt [⟨.Name tx tp, iter, [c], 0⟩] scope pos) δ (((List.range n).filter p).map f) := fun M σ H kn Q q =>
  ⟨_, pe_lc hc hN pi_w ok hg pts_tt pe_te hs, lcIf_read hi (fun i M v τ H _ k h Q q => q _ (k.set jx h) (wipe_set _ _ hj)) hn ht he kn Q q⟩
theorem blk_setLcIf {tx : Str} {tp : Pos} {elt iter : Expr} {scope : Scope} {own : List (Str × Nat)} {n jx : Nat} {Yd : Nat → Pd} {f : Nat → Pd} {p : Nat → Bool} {py cp : Pos} (nd : X.N.Nodup) (i : Nat) (hc : X.calm = true) (hi : IW X (.Name tx tp) iter δ n Yd) (ok : BlkOk X.N X.env.scope scope own)
    (hg : ∀ (s : Shared) (H : Hp) (C : Addr) (cl : List (Str × Addr)) (fp : List Addr), PG (X.blk s H scope (compEnvC scope cl C X.env) fp) (.Name tx tp) (gName jx)) (hj : jx ∈ own.map (·.2)) (hn : n ≤ 50000)
    (ht : ∀ (s : Shared) (H : Hp) (C : Addr) (cl : List (Str × Addr)) (fp : List Addr) (i : Nat), i < n → ET (X.blk s H scope (compEnvC scope cl C X.env) fp) c ((wipeD δ (own.map (·.2))).set jx (some (Yd i))) (p i))
    (he : ∀ (s : Shared) (H : Hp) (C : Addr) (cl : List (Str × Addr)) (fp : List Addr) (i : Nat), i < n → p i = true → EE (X.blk s H scope (compEnvC scope cl C X.env) fp) elt ((wipeD δ (own.map (·.2))).set jx (some (Yd i))) (f i))
    (k : EO X.K M Hb H σ δ) (q : ∀ a xs H', H a = none → Ex H H' → H' a = some (.lst xs) → DtAll X.K (a :: M) H' xs (((List.range n).filter p).map f) → EO X.K M Hb H' σ δ → Blk X rest D (σ.set i (some (.ref a))) H')
    (hi' : X.N[i]? = some y := by rfl) (hyl : X.env.scope.names.lookup y = some .local := by rfl) (hsw : swapsWith (.ListComp elt [⟨.Name tx tp, iter, [c], 0⟩] scope cp) (some (.Name y py)) pos.line X.env = pure true := by exact sw_true rfl rfl rfl (by decide +kernel)) (hs : ∀ x, foldedSetIterable iter X.env x = pure x := by intro _; rfl) :
    Blk X (.Assign [.Name y py] (.ListComp elt [⟨.Name tx tp, iter, [c], 0⟩] scope cp) pos :: rest) D σ H :=
  ⟨_, pss_cons (ps_setLc hc nd hi' hyl hsw pi_w ok hg pts_tt pe_te hs) pss_w, lcIf_read hi (fun i M v τ H _ k h Q q => q _ (k.set jx h) (wipe_set _ _ hj)) hn ht he k.kn (fun x H1 => gName i x σ H1 (Blk X rest D)) fun a xs H' n1 e1 h1 h2 => q a xs H' n1 e1 h1 h2 (k.mono e1)⟩
end
end Lr

/-! great divisions, dicts of ints, constants, chains as values -/
namespace Lr
open PySem PySem.Spec PyProof.Rows L2
open Evl (Ex)
/-- // of a number of fewer than 13000 bits: never by way of _pylong -/
def CDivV (i j : Int) : Prop := 0 < j ∧ i.natAbs.log2 < 13000
theorem noPy {x y : Int} (h : x.natAbs.log2 < 13000) : Builtin.divisionGoesByPylong x y = false := by
  have key : (if x == 0 then 0 else x.natAbs.log2 / 30 + 1) ≤ 450 := by
    by_cases hx : (x == 0) = true
    · rw [if_pos hx]; exact Nat.zero_le _
    · rw [if_neg hx]; omega
  show (decide ((if y == 0 then 0 else y.natAbs.log2 / 30 + 1) > 300) && decide ((if x == 0 then 0 else x.natAbs.log2 / 30 + 1) > (if y == 0 then 0 else y.natAbs.log2 / 30 + 1) + 150)) = false
  generalize (if x == 0 then 0 else x.natAbs.log2 / 30 + 1) = u at key
  generalize (if y == 0 then 0 else y.natAbs.log2 / 30 + 1) = v
  rw [Bool.and_eq_false_iff, decide_eq_false_iff_not, decide_eq_false_iff_not]
  omega
theorem div_bits {i j : Int} {n : Nat} (hj : 0 < j) (hi : i.natAbs < 2 ^ n) (h0 : 0 < n) (h1 : n ≤ 13000) : CDivV i j := ⟨hj, Nat.lt_of_lt_of_le (PySem.Flt.log2_lt_of h0 hi) h1⟩
def lookI (kvs : List (Int × Int)) (n : Int) : Option Int := (kvs.find? fun p => decide (p.1 = n)).map (·.2)
theorem look_kv (n : Int) : ∀ kvs : List (Int × Int), valV (kvP kvs) (Sum.inl n : Key) = (lookI kvs n).map V.int
  | [] => rfl
  | (m, v) :: kvs => by
    show valV (((Sum.inl m : Key), V.int v) :: kvP kvs) (Sum.inl n) = _
    by_cases h : m = n
    · rw [valV_pos (by rw [h])]
      unfold lookI
      simp [List.find?, h]
    · rw [valV_neg (by intro z; exact h (Sum.inl.inj z)), look_kv n kvs]
      unfold lookI
      simp [List.find?, h]
section
variable {X : Cx} {δ δ' : Dl} {a b c e o ix : Expr} {rest : List Stmt} {pos : Pos} {d z d1 d2 : Pd} {ds : List Pd} {i j n : Int} {x y : Str} {D : Ends} {M M' : List Addr} {Hb H : Hp} {σ : L2.St}
theorem op_fdivV : OpR X (binaryOp .FloorDiv) (rI CDivV fun i j => .int (i / j)) := opI fun i j _ _ _ _ _ hc q => by
  have h1 : (0 : Int) < j := hc.1
  exact floordiv_int (by omega) (by rw [Int.fdiv_eq_ediv_of_nonneg i (by omega)]; exact q) (.inl (noPy hc.2))
theorem ee_divV (ha : EE X a δ (.int i)) (hb : EE X b δ (.int j)) (h : CDivV i j) : EE X (.BinOp a .FloorDiv b pos) δ (.int (i / j)) := ee_bin op_fdivV (rd_I h) ha hb
/-- a module's whole number -/
theorem ee_globI {p : Pos} {t : Nat} (hm : X.mg x = some (.int i t)) (hg : Gl X x := by rfl) (hd : (x == ("__debug__" : Str)) = false := by decide) : EE X (.Name x p) δ (.int i) := fun M σ H _ Q q =>
  ⟨_, pe_glob (v := .int i) hg hm ⟨t, rfl⟩ hd, q _ H (Evl.Ex.refl H) (.int i)⟩
theorem ee_chainV {op op' : CmpOp} {r r' : R2} {k k' : Bool} (ho : OpR X (compareOp op) r) (ho' : OpR X (compareOp op') r') (hr : RD X.K r d1 d2 (.bl k)) (hr' : k = true → RD X.K r' d2 d (.bl k')) (ha : EE X a δ d1) (hb : EE X b δ d2) (hc : EE X c δ d)
    (hm : lastMarks [op, op'] [b, c] = false := by with_unfolding_all rfl) : EE X (.Compare a [op, op'] [b, c] pos) δ (.bl (k && k')) := fun M σ H kn Q q =>
  ⟨_, pe_chain ho ho' pe_w pe_w pe_w hm, ha M σ H kn _ fun x H1 e1 h1 => hb M σ H1 (kn.mono e1) _ fun y H2 e2 h2 => hr M x y H2 (kn.al.mono (e1.trans e2)) (h1.mono e2) h2 _ fun v H3 e3 h3 => ⟨k, dt_bl h3, by
    cases k with
    | true =>
      refine iteT ?_
      refine hc M σ H3 (kn.mono ((e1.trans e2).trans e3)) _ fun u H4 e4 h4 => ?_
      exact hr' rfl M y u H4 (kn.al.mono (((e1.trans e2).trans e3).trans e4)) (h2.mono (e3.trans e4)) h4 _ fun w H5 e5 h5 => q w H5 ((((e1.trans e2).trans e3).trans e4).trans e5) h5
    | false =>
      refine iteF ?_
      exact q _ H3 ((e1.trans e2).trans e3) (.bl _)⟩⟩
/-! dicts of ints -/
theorem dt_dic {K : PySem.W.Frag} {v : V} {kvs : List (Int × Int)} (h : Dt K M H v (.dic kvs)) : ∃ p, v = .ref p ∧ H p = some (.dK (kvP kvs)) := by
  cases h with
  | dic _ h1 => exact ⟨_, rfl, h1⟩
theorem ee_dnew : EE X (.Dict [] [] pos) δ (.dic []) := fun M σ H k Q q => ⟨_, pe_dnewK, fun p hp => q _ _ (Evl.Ex.new hp) (.dic (k.al.nw hp) upd_same)⟩
theorem et_dnotin {kvs : List (Int × Int)} (hu : X.A.units + 1 < cLine) (hi : EE X ix δ (.int n)) (ho : EE X o δ (.dic kvs)) (hm : behindInMarks .NotIn o = false := by rfl) : ET X (.Compare ix [.NotIn] [o] pos) δ (!(lookI kvs n).isSome) := fun M σ H k Q q =>
  ⟨_, pt_cmp (pc_dnotin hu pe_w pe_w) hm, hi M σ H k _ fun y H1 e1 h1 => ho M σ H1 (k.mono e1) _ fun x H2 e2 h2 => by
    cases dt_int h1
    obtain ⟨p, rfl, g⟩ := dt_dic h2
    refine ⟨p, _, rfl, DGet.k (k := Sum.inl n) g, _, rfl, ?_⟩
    rw [look_kv, Option.isSome_map]
    exact q H2 (e1.trans e2)⟩
theorem ee_dget {kvs : List (Int × Int)} (hu : X.A.units + 1 < cLine) (ho : EE X o δ (.dic kvs)) (hi : EE X ix δ (.int n)) (hv : lookI kvs n = some j) (hs : NoSl ix := by exact fun _ _ => rfl) : EE X (.Subscript o ix pos) δ (.int j) := fun M σ H k Q q =>
  ⟨_, pe_dget hu pe_w pe_w hs, ho M σ H k _ fun x H1 e1 h1 => hi M σ H1 (k.mono e1) _ fun y H2 e2 h2 => by
    cases dt_int h2
    obtain ⟨p, rfl, g⟩ := dt_dic (h1.mono e2)
    refine ⟨p, .int j, rfl, ?_, q _ H2 (e1.trans e2) (.int j)⟩
    have := DGet.k (k := Sum.inl n) g
    rw [look_kv, hv] at this
    exact this⟩
/-- name = {} -/
theorem blk_dnew (nd : X.N.Nodup) {p' dp : Pos} (i : Nat) (q : ∀ p, H p = none → Blk X rest D (σ.set i (some (.ref p))) (upd H p (.dK [])))
    (hi : X.N[i]? = some x := by rfl) (hx : Loc X.env.scope x := by first | exact Or.inl rfl | exact Or.inr rfl) (hs : swapsWith (.Dict [] [] dp) (some (.Name x p')) pos.line X.env = pure false := by rfl)
    (hf : X.fn x = true ∨ X.env.scope.names.lookup x = some .local := by first | exact .inl rfl | exact .inr rfl) : Blk X (.Assign [.Name x p'] (.Dict [] [] dp) pos :: rest) D σ H :=
  ⟨_, pss_cons (ps_set nd hi hx pe_dnewK hs hf) pss_w, fun p hp => q p hp⟩
/-- o[ix] = e, o a dict set apart in the one view, the key new -/
theorem blk_dput {p : Addr} {kvs : List (Int × Int)} {v : Int} {sp : Pos} (hu : X.A.units + 1 < cLine) (he : EE X e δ (.int v)) (ho : EE X o δ' (.raw (.ref p))) (hi : EE X ix δ' (.int n)) (hH : H p = some (.dK (kvP kvs))) (hn : lookI kvs n = none) (hl : kvs.length < 100000)
    (k : Kn X.K M H σ δ) (k' : EO X.K M' Hb H σ δ') (hM : p ∈ M') (hb : Hb p = none)
    (q : ∀ H1, Ex H H1 → EO X.K M' Hb (upd H1 p (.dK (kvP (kvs ++ [(n, v)])))) σ δ' → Blk X rest D σ (upd H1 p (.dK (kvP (kvs ++ [(n, v)])))))
    (hs : swapsWith e (some (.Subscript o ix sp)) pos.line X.env = pure false := by rfl) : Blk X (.Assign [.Subscript o ix sp] e pos :: rest) D σ H :=
  ⟨_, pss_cons (ps_dput hu pe_w pe_w pe_w hs) pss_w, he M σ H k _ fun w H1 e1 g1 => by
    cases dt_int g1
    refine ho M' σ H1 (k'.kn.mono e1) _ fun u H2 e2 g2 => ?_
    cases dt_raw g2
    refine hi M' σ H2 (k'.kn.mono (e1.trans e2)) _ fun y H3 e3 g3 => ?_
    cases dt_int g3
    have ee := e1.trans (e2.trans e3)
    have hp := ee _ _ hH
    have hz : (kvP kvs).length < sizeLine := by
      unfold kvP
      rw [List.length_map]
      exact Evl.sz_lt hl
    refine ⟨p, _, rfl, DPut.k (k := Sum.inl n) hp hz, ?_⟩
    have ep : putK (kvP kvs) (Sum.inl n) (V.int v) = kvP (kvs ++ [(n, v)]) := by
      unfold putK
      rw [if_neg (by rw [valV_any, look_kv, hn]; simp)]
      unfold kvP
      rw [List.map_append]
      rfl
    rw [ep]
    exact q H3 ee ⟨Evl.Ex.mut (k'.ex.trans ee) hb, (k'.kn.mono ee).upd hM⟩⟩
/-- a, b = e1, a new list (both local) -/
theorem blk_parF {px py pt pt2 : Pos} {kt k2 : Nat} (nd : X.N.Nodup) (i j : Nat) (hc : X.calm = true) (ha : EE X a δ d1) (hb : EF X b δ ds) (k : EO X.K M Hb H σ δ) (q : ∀ v p xs H', H p = none → Ex H H' → Dt X.K (p :: M) H' v d1 → H' p = some (.lst xs) → DtAll X.K (p :: M) H' xs ds → EO X.K M Hb H' σ δ → Blk X rest D ((σ.set i (some v)).set j (some (.ref p))) H')
    (hi : X.N[i]? = some x := by rfl) (hj : X.N[j]? = some y := by rfl) (hij : i ≠ j := by decide) (hx : X.env.scope.names.lookup x = some .local := by rfl) (hy : X.env.scope.names.lookup y = some .local := by rfl)
    (hw : swappedStores [.Tuple [.Name x px, .Name y py] kt pt] (.Tuple [a, b] k2 pt2) X.env = pure (some [x, y]) := by rfl)
    (hs : swapsWithSole [.Tuple [.Name x px, .Name y py] kt pt] (.Tuple [a, b] k2 pt2) pos.line X.env = pure false := by rfl)
    (s1 : starEach [a, b] X.env = (false, eval a X.env) :: starEach [b] X.env := by rfl) (s2 : starEach [b] X.env = (false, eval b X.env) :: starEach [] X.env := by rfl) :
    Blk X (.Assign [.Tuple [.Name x px, .Name y py] kt pt] (.Tuple [a, b] k2 pt2) pos :: rest) D σ H :=
  ⟨_, pss_cons (ps_par hc nd hi hj hij hx hy (pa_cons pe_w (pa_cons pe_w pa_nil s2) s1) hw hs) pss_w, ha M σ H k.kn _ fun v H1 e1 h1 => hb M σ H1 (k.kn.mono e1) _ fun p xs H2 n2 e2 h2 h3 =>
    ⟨v, .ref p, rfl, q v p xs H2 (Evl.fresh_back e1 n2) (e1.trans e2) ((h1.more n2).mono e2) h2 h3 (k.mono (e1.trans e2))⟩⟩
end
end Lr

/-! defs that raise an error of an own class; a def called in an except suite with the error -/
namespace Lr
open PySem PySem.Spec PyProof.Rows L2
open Evl (Ex)
/-- an own error class -/
structure XC (K : PySem.W.Frag) (mg : Str → Option Value) (T : Str) (C : Addr) : Prop where
  x : PySem.W.excIn K C [.type "ValueError", .type "Exception", .type "BaseException", .type "object"] "ValueError.__new__" = true
  g : mg T = some (.ref C)
  k : PySem.W.keepIn K (.ref C) = true
  b : PySem.W.subIn K (.ref C) (.type "BaseException") = some true
  t : PySem.W.typeIn K (.ref C) = some (.type "type")
/-- a def that raises, told by the data of its arguments -/
def SpX (K : PySem.W.Frag) (R : List Pd → Addr → Prop) : Sp := fun vs H _ E => ∃ M ds C, Al M H ∧ DtAll K M H vs ds ∧ R ds C ∧ ∀ H', Ex H H' → E (.ref C) none H'
/-- e raises -/
def EX (X : Cx) (E : XK) (e : Expr) (δ : Dl) (C : Addr) : Prop := ∀ M σ H, Kn X.K M H σ δ → (∀ H', Ex H H' → E (.ref C) none H') → ∀ Q : VK, TW X e σ H Q
abbrev TkX (X : Cx) (E : XK) : Prop := L2N.Takes X (fun cls d _ H => E cls d H)
theorem takesX {P : Program} {w : World} {K : PySem.W.Frag} {mg : Str → Option Value} {base : Heap} {N : List Str} {qual : Str} {scope : Scope} {f : Addr} {cd : Value} {A : Around} {outer : List PySem.Env} {s : Shared} {H : Hp} {E : XK} : TkX (cxOf (L2N.CX P w) P w K mg base N qual scope f cd A outer s H E) E :=
  L2N.takes_of rfl rfl rfl rfl
theorem takesN0 {X : Cx} : L2N.Takes X (fun _ _ _ _ => False) := fun _ _ x => by
  obtain ⟨_, _, _, _, _, _, _, _, _, _, _, _, _, _, _, _, z⟩ := x
  exact z.elim
section
variable {X : Cx} {E : XK} {δ : Dl} {a b c e o : Expr} {es : List Expr} {rest body orelse : List Stmt} {pos cp p : Pos} {d : Pd} {ds : List Pd} {x y : Str} {D : Ends} {M : List Addr} {Hb H : Hp} {σ : L2.St} {C : Addr} {k : Nat} {ps : List Str} {R : List Pd → Addr → Prop}
theorem ex_call (F : Has X.prog X.w X.K X.mg X.base (L2N.CX X.prog X.w) x k ps (SpX X.K R)) (hr : Room k X.A) (tk : TkX X E) (ha : EA X (e :: es) δ ds) (hR : R ds C) (hg : Gl X x := by rfl)
    (hdb : (x == ("__debug__" : Str)) = false := by decide) (he : starEach (e :: es) X.env = (false, eval e X.env) :: starEach es X.env := by rfl) (hpl : (backTo pos (starEach es X.env)).any (·.1) = false := by rfl) : EX X E (.Call (.Name x p) (e :: es) [] pos) δ C := fun M σ H kn h Q => by
  obtain ⟨f, fd, F, g, kp, bn⟩ := F
  refine ⟨_, pe_call (E := E) F hr hg g kp bn .nil (L2N.passes_call tk fun _ _ _ _ z => z) pa_w hdb he hpl, ha M σ H kn _ fun vs H1 e1 h1 => ⟨M, ds, C, kn.al.mono e1, by rw [List.append_nil]; exact h1, hR, fun H2 e2 => h H2 (e1.trans e2)⟩⟩
theorem ex_if {t : Bool} (h : ET X c δ t) (h1 : t = true → EX X E a δ C) (h2 : t = false → EX X E b δ C) : EX X E (.IfExp c a b pos) δ C := fun M σ H kn q Q => ⟨_, pe_ifExp pt_w pe_w pe_w, h M σ H kn _ fun H1 e1 => by
  cases t with
  | true => exact iteT (h1 rfl M σ H1 (kn.mono e1) (fun H2 e2 => q H2 (e1.trans e2)) Q)
  | false => exact iteF (h2 rfl M σ H1 (kn.mono e1) (fun H2 e2 => q H2 (e1.trans e2)) Q)⟩
theorem blk_dropX (he : EX X E e δ C) (k : EO X.K M Hb H σ δ) (q : ∀ H', Ex Hb H' → E (.ref C) none H') (hs : swapsWith e none pos.line X.env = pure false := by rfl) : Blk X (.Expr e pos :: rest) D σ H :=
  ⟨_, pss_cons (ps_expr pe_w hs) pss_w, he M σ H k.kn (fun H' e1 => q H' (k.ex.trans e1)) _⟩
theorem blk_retX (he : EX X E e δ C) (k : EO X.K M Hb H σ δ) (q : ∀ H', Ex Hb H' → E (.ref C) none H') : Blk X (.Return (some e) pos :: rest) D σ H :=
  ⟨_, pss_cons (ps_ret pe_w) (u := tNever) pss_never, he M σ H k.kn (fun H' e1 => q H' (k.ex.trans e1)) _⟩
/-- a, b = e that raises -/
theorem blk_unpackX {px py pt : Pos} {kk : Nat} (nd : X.N.Nodup) (i j : Nat) (hc : X.calm = true) (he : EX X E e δ C) (k : EO X.K M Hb H σ δ) (q : ∀ H', Ex Hb H' → E (.ref C) none H')
    (hi : X.N[i]? = some x := by rfl) (hj : X.N[j]? = some y := by rfl) (hx : Loc X.env.scope x := by first | exact Or.inl rfl | exact Or.inr rfl) (hy : Loc X.env.scope y := by first | exact Or.inl rfl | exact Or.inr rfl)
    (hs : swapsWithSole [.Tuple [.Name x px, .Name y py] kk pt] e pos.line X.env = pure false := by rfl) (hw : swappedStores [.Tuple [.Name x px, .Name y py] kk pt] e X.env = pure none := by rfl)
    (h1 : (assignEach [.Tuple [.Name x px, .Name y py] kk pt] X.env).map (·.2) = [assign (.Tuple [.Name x px, .Name y py] kk pt) X.env] := by rfl)
    (hf : X.fn x = true ∨ X.env.scope.names.lookup x = some .local := by first | exact .inl rfl | exact .inr rfl) (hf2 : X.fn y = true ∨ X.env.scope.names.lookup y = some .local := by first | exact .inl rfl | exact .inr rfl) :
    Blk X (.Assign [.Tuple [.Name x px, .Name y py] kk pt] e pos :: rest) D σ H :=
  ⟨_, pss_cons (ps_asg pe_w (pg_tup hc (pgs_cons (pg_name nd hi hx hf) (pgs_cons (pg_name nd hj hy hf2) pgs_nil))) hs hw h1) pss_w, he M σ H k.kn (fun H' e1 => q H' (k.ex.trans e1)) _⟩
/-- raise T("..") -/
theorem blk_raise {T m : Str} {j : Nat} {p2 p3 : Pos} (xc : XC X.K X.mg T C) (tk : TkX X E) (hc : X.calm = true) (k : EO X.K M Hb H σ δ) (q : ∀ H', Ex Hb H' → E (.ref C) none H') (hg : Gl X T := by rfl) (hdb : (T == ("__debug__" : Str)) = false := by decide) :
    Blk X (.Raise (some (.Call (.Name T p) [.Constant (.str m) j p2] [] p3)) none pos :: rest) D σ H :=
  ⟨_, pss_cons (L2N.ps_raise hc tk (L2N.pmk_own PySem.F.excBase_ValueError xc.x xc.g xc.k (raises_own xc.b xc.t) hg hdb)) (u := tNever) pss_never, q H k.ex⟩
/-- if c: raise T("..") -/
theorem blk_yesX {t : Bool} {T m : Str} {j : Nat} {p2 p3 rp : Pos} (h : ET X c δ t) (ht : t = true) (xc : XC X.K X.mg T C) (tk : TkX X E) (hc : X.calm = true) (k : EO X.K M Hb H σ δ) (q : ∀ H', Ex Hb H' → E (.ref C) none H') (hg : Gl X T := by rfl) (hdb : (T == ("__debug__" : Str)) = false := by decide) :
    Blk X (.If c [.Raise (some (.Call (.Name T p) [.Constant (.str m) j p2] [] p3)) none rp] [] pos :: rest) D σ H :=
  blk_when h k (fun _ H' e1 k1 => blk_raise xc tk hc k1 q hg hdb) fun z => by
    rw [ht] at z
    cases z
theorem ee_abs {i : Int} (ha : EE X e δ (.int i)) (hm : X.mg "abs" = none) (hg : Gl X "abs" := by rfl) (he : starEach [e] X.env = (false, eval e X.env) :: starEach [] X.env := by rfl) : EE X (.Call (.Name "abs" p) [e] [] pos) δ (.int (if i < 0 then -i else i)) :=
  ee_callB call_abs (fun M vs H al h Q q => by
    cases h with
    | cons h1 h2 =>
      cases h2
      exact ⟨i, by rw [dt_int h1], q _ H (Evl.Ex.refl H) (.int _)⟩) (ea_cons ha ea_nil he) hm hg (he := he)
end
section
variable {P : Program} {w : World} {K : PySem.W.Frag} {mg : Str → Option Value} {base : Heap} {x qual : Str} {st : Stmt} {f : Addr} {fd : FuncData} {N ps : List Str} {k : Nat}
theorem ok_X {R : List Pd → Addr → Prop} (F : Fun K x qual st f fd) (S : FnScope N ps (defScope st)) (hl : ∀ ds C, R ds C → ds.length = ps.length)
    (body : ∀ (cdv : Value) (A : Around) (outer : List PySem.Env) (s : Shared) (M : List Addr) (H : Hp) (vs : List V) (ds : List Pd) (C : Addr) (Q : VK) (E : XK), Room k (A.deeper (PyProof.Rows.envOfC qual (defScope st) s.heap.objs.size f cdv)) → R ds C → EO K M H H (L2.start N vs) (startD N ds) →
      (∀ H', Ex H H' → E (.ref C) none H') → Blk (cxOf (L2N.CX P w) P w K mg base N qual (defScope st) f cdv A outer s H E) (defBody st) { nx := fun _ H' => Q .non H', rt := Q } (L2.start N vs) H) : FnOk P w K mg base (L2N.CX P w) (k + 1) f fd ps (SpX K R) := by
  obtain ⟨oc, od, kV, doc, pm, an, cdv, ct, osl, rfl, lk, hcd⟩ := F.ex
  refine fn_of lk hcd S (fun vs H Q E h => ?_) fun A outer s H vs Q E hr h => ?_
  · obtain ⟨M, ds, C, _, h1, h2, _⟩ := h
    rw [h1.length]
    exact hl ds C h2
  · obtain ⟨M, ds, C, al, h1, h2, q⟩ := h
    exact body cdv A outer s M H vs ds C Q E hr h2 ⟨Evl.Ex.refl H, start_kn al h1⟩ q
end
/-! ### a def called in an except suite, with the error -/
structure FnP (P : Program) (w : World) (K : PySem.W.Frag) (mg : Str → Option Value) (base : Heap) (CX : CXT) (k : Nat) (f : Addr) (fd : FuncData) (ps : List Str) (sp : Addr × Obj → Sp) : Prop where
  len : ∀ p vs H Q E, sp p vs H Q E → vs.length = ps.length
  run : ∀ (A : Around) (outer : List PySem.Env) (s : Shared) (H : Hp) (args : Args) (us : List Value) (vs : List V) (Q : VK) (E : XK) (p : Addr × Obj), L2H.RoomH k A → L2H.PinOk outer H s p → Env0 P w K mg base A outer s H → BindsTo s fd args (ps.zip us) → Vals vs us → sp p vs H Q E →
    codeAny (model P w) A (.call (.ref f) args) (CR CX outer P w H s Q E) s
theorem fn_ofP {CX : CXT} {P : Program} {w : World} {K : PySem.W.Frag} {mg : Str → Option Value} {base : Heap} {k : Nat} {f : Addr} {name qual : Str} {params : Arguments} {body : List Stmt} {scope : Scope} {dV kV doc pm cdv ct oc : Value} {an od : Option Addr}
    {osl : Array (Option Value)} {N ps : List Str} {sp : Addr × Obj → Sp} (lk : K.lookup f = some ⟨oc, od, .func (PySem.W.fnOf name qual params body scope dV kV doc pm an cdv ct), osl⟩) (hcd : PySem.W.codeIn K cdv qual = true) (S : FnScope N ps scope)
    (len : ∀ p vs H Q E, sp p vs H Q E → vs.length = ps.length)
    (hbody : ∀ (A : Around) (outer : List PySem.Env) (s : Shared) (H : Hp) (vs : List V) (Q : VK) (E : XK) (p : Addr × Obj), L2H.RoomH k (A.deeper (envOfC qual scope s.heap.objs.size f cdv)) → sp p vs H Q E →
      ∃ t, PSs (L2H.cxH CX P w K mg base N qual scope f cdv A outer s H E p) body t ∧ t { nx := fun _ H' => Q .non H', rt := Q } (L2.start N vs) H) :
    FnP P w K mg base CX (k + 1) f (PySem.W.fnOf name qual params body scope dV kV doc pm an cdv ct) ps sp := by
  refine ⟨len, fun A outer s H args us vs Q E p hr hpin e0 hb r hsp => ?_⟩
  have hl := len _ _ _ _ _ hsp
  have KX : K.In s.heap := e0.mod.kin.keeps fun b o e => (e0.bs b o e).1
  have lim : s.heap.NoLimit := e0.mod.nolimit.keeps fun b o e => (e0.bs b o e).1
  have hkind : ∀ y ∈ ps.zip us, scope.names.lookup y.1 = some .local ∨ (scope.names.lookup y.1 = some .cell ∧ ((cellsFrom (s.heap.objs.size + 1) scope.names []).lookup y.1).isSome = true) := fun ⟨n, v⟩ hy => by
    rcases S.par n (List.of_mem_zip hy).1 with q | q
    · exact .inl q
    · exact .inr ⟨q, PySem.W.cellsFrom_some _ _ _ (.inl q)⟩
  refine codeAny_call_function hr.depth (KX _ _ lk) rfl S.co S.gen rfl (PySem.W.codeRec_of KX hcd) (hb _ _ _ _ ?_)
  refine wpAny_newFunctionEnv_cells S.kind hkind fun env he s1 x => ?_
  subst he
  refine ⟨lim.keeps x.toInCall.keep, codeAny_func ?_⟩
  obtain ⟨t, ht, hq⟩ := hbody A outer s H vs Q E p (hr.deeper _) hsp
  have I : Inv (L2H.cxH CX P w K mg base N qual scope f cdv A outer s H E p) [] (L2.start N vs) H s1 := L2H.inv_startH S hpin e0 hl r x
  refine wpAny_mono (ht.run [] s1 (L2.start N vs) H _ I hq) (fun fl s' hs => ?_) fun e s' hs => hs
  have fin : ∀ {σ' : L2.St} {H' : Hp} {v : V} {u : Value}, Inv (L2H.cxH CX P w K mg base N qual scope f cdv A outer s H E p) [] σ' H' s' → RelV v u → Q v H' → CE outer P w H s Q u s' :=
    fun {σ' H' v u} J rv q => ⟨v, H', J.os, J.bare, J.base, J.hok, rv, q⟩
  cases fl with
  | ret u =>
    obtain ⟨v, σ', H', J, rv, q⟩ := hs
    exact fin J rv q
  | next =>
    obtain ⟨σ', H', J, q⟩ := hs
    exact fin (v := V.non) (u := Value.none) J rfl q
  | brk =>
    obtain ⟨_, _, _, q⟩ := hs
    exact False.elim q
  | cont =>
    obtain ⟨_, _, _, q⟩ := hs
    exact False.elim q
section
variable {X : Cx} {k : Nat} {f C : Addr} {fd : FuncData} {ps : List Str} {sp : Addr × Obj → Sp} {x : Str} {q pos : Pos} {e : Expr} {es : List Expr} {t : TA} {p : Addr × Obj}
theorem pe_callP (F : FnP X.prog X.w X.K X.mg X.base CX0 k f fd ps sp) (hr : L2H.RoomH k X.A) (hp : p ∈ X.pn) (hg : Gl X x) (hm : X.mg x = some (.ref f)) (hk : PySem.W.keepIn X.K (.ref f) = true) (hb : Binds X.K fd ps [])
    (ha : PA X (e :: es) t) (hdb : (x == ("__debug__" : Str)) = false := by decide) (he : starEach (e :: es) X.env = (false, eval e X.env) :: starEach es X.env := by rfl) (hpl : (backTo pos (starEach es X.env)).any (·.1) = false := by rfl) :
    PE X (.Call (.Name x q) (e :: es) [] pos) (fun σ H Q => t σ H fun vs H1 => sp p vs H1 Q (fun _ _ _ => False)) := by
  refine ⟨fun pins s σ H Q I h => ?_⟩
  refine wpAny_Call_Name_kw (ld_glob I hg hm ?_ hdb)
  refine PySem.W.callWith_K (h₀ := X.base) I.ok.mod.kin hk (thn (ha.run pos pins s σ H _ I h) fun us s1 ⟨vs, H1, I1, r, q⟩ => ⟨I1.kIn, ?_⟩) he hpl
  have hl : us.length = ps.length := by rw [← r.length]; exact F.len _ _ _ _ _ q
  have b := hb s1 us I1.kIn (by rw [List.append_nil]; exact hl)
  rw [List.append_nil] at b
  have P1 := I1.pin p (List.mem_append_left _ hp)
  have hpin : L2H.PinOk X.stack H1 s1 p := ⟨P1.1, P1.2.1, fun hm => (List.mem_cons.mp (I1.stkSub p.1 hm)).elim P1.2.2.1 P1.2.2.2.1, P1.2.2.2.2⟩
  show wpAny _ _ (call (.ref f) us) _ _ _
  refine wpAny_call (codeAny_mono (F.run X.A X.stack s1 H1 ⟨us, []⟩ us vs Q (fun _ _ _ => False) p hr hpin I1.env0 b r q) fun r s' hq => ?_)
  cases r with
  | error e => exact (show False from hq).elim
  | ok fl =>
    cases fl with
    | ret u => exact I1.after hq
    | next => exact False.elim hq
    | brk => exact False.elim hq
    | cont => exact False.elim hq
/-- isinstance of the error that the context bears -/
theorem call_isP {a D : Addr} {oe : Obj} (C : ExcC X.K D) (hp : (a, oe) ∈ X.pn) (hz : Zc (.ref D) none oe) (hf : ∃ vs, oe.data = .fields vs) : CallR X (.builtin "isinstance") (rIsE X.K D a) := by
  intro pins s σ H xs us Q I r h
  obtain ⟨c, cv, b, rfl, hcv, e, q⟩ := h
  cases r with
  | cons rx rr =>
    cases rr with
    | cons rt rr =>
      cases rr
      cases rx
      have ec := hcv _ rt
      subst ec
      obtain ⟨hget, _⟩ := I.pin (a, oe) (List.mem_append.mpr (.inl hp))
      obtain ⟨vs, hv⟩ := hf
      have J : PySem.W.InstAt s.heap a oe D none := by
        obtain ⟨oc, od, oda, osl⟩ := oe
        obtain ⟨h1, h2⟩ := hz
        dsimp only at h1 h2 hv
        subst h1 h2 hv
        exact ⟨hget, rfl, rfl, trivial⟩
      exact PySem.W.kia_one (PySem.W.handS_kitx_exc C.hg C.hk C.hs C.hd C.ha C.hn C.ht C.hm) I.kIn J e (fun z => nomatch z) fun tk => ⟨.bl b, H, I.kept (t' := tk) fun _ _ z => z, rfl, q⟩
end
/-- what the context's error is -/
structure Err (X : Cx) (a D : Addr) : Prop where
  c : ExcC X.K D
  ex : ∃ oe : Obj, (a, oe) ∈ X.pn ∧ Zc (.ref D) none oe ∧ ∃ vs, oe.data = .fields vs
section
variable {X : Cx} {δ : Dl} {e : Expr} {p tp pos : Pos} {T : Str} {a D C' : Addr} {k : Bool}
theorem ee_isE (er : Err X a D) (ho : EE X e δ (.raw (.ref a))) (hk : PySem.W.kitOne X.K (.ref D) (.ref C') = some k) (hm : X.mg "isinstance" = none) (hT : X.mg T = some (.ref C'))
    (hg : Gl X "isinstance" := by rfl) (hgT : Gl X T := by rfl) (hdb : (T == ("__debug__" : Str)) = false := by decide)
    (he : starEach [e, .Name T tp] X.env = (false, eval e X.env) :: starEach [.Name T tp] X.env := by rfl) (hpl : (backTo pos (starEach [.Name T tp] X.env)).any (·.1) = false := by rfl) : EE X (.Call (.Name "isinstance" p) [e, .Name T tp] [] pos) δ (.bl k) := fun M σ H kn Q q => by
  obtain ⟨oe, h1, h2, h3⟩ := er.ex
  refine ⟨_, pe_callB (id := "isinstance") (call_isP er.c h1 h2 h3) hg hm (by decide +kernel) (pa_cons pe_w (pa_cons (pe_glob (v := .ref C') hgT hT rfl hdb) pa_nil (by rfl)) he) (by decide) (by decide) he hpl, ho M σ H kn _ fun v H1 e1 h4 => ?_⟩
  cases dt_raw h4
  exact ⟨.ref C', .ref C', k, rfl, fun u r => r, hk, q _ H1 e1 (.bl k)⟩
theorem ee_isET {Tn : String} (er : Err X a D) (ho : EE X e δ (.raw (.ref a))) (hk : PySem.W.kitOne X.K (.ref D) (.type Tn) = some k) (hm : X.mg "isinstance" = none) (hT : X.mg T = none)
    (hv : bootBuiltins T = some (.type Tn) := by decide +kernel) (hg : Gl X "isinstance" := by rfl) (hgT : Gl X T := by rfl) (hn : T ≠ "__name__" := by decide) (hdb : (T == ("__debug__" : Str)) = false := by decide)
    (he : starEach [e, .Name T tp] X.env = (false, eval e X.env) :: starEach [.Name T tp] X.env := by rfl) (hpl : (backTo pos (starEach [.Name T tp] X.env)).any (·.1) = false := by rfl) : EE X (.Call (.Name "isinstance" p) [e, .Name T tp] [] pos) δ (.bl k) := fun M σ H kn Q q => by
  obtain ⟨oe, h1, h2, h3⟩ := er.ex
  refine ⟨_, pe_callB (id := "isinstance") (call_isP er.c h1 h2 h3) hg hm (by decide +kernel) (pa_cons pe_w (pa_cons (pe_bltn (v := .ty Tn) hgT hT hv rfl hn hdb) pa_nil (by rfl)) he) (by decide) (by decide) he hpl, ho M σ H kn _ fun v H1 e1 h4 => ?_⟩
  cases dt_raw h4
  exact ⟨.ty Tn, .type Tn, k, rfl, fun u r => r, hk, q _ H1 e1 (.bl k)⟩
end
end Lr

/-! lambdas with parameters and without captured names: made, handed on, called -/
namespace Lr
open PySem PySem.Spec PyProof.Rows L2
open Evl (Ex)
section
variable {X : Cx} {pins : List (Addr × Obj)} {σ : L2.St} {H : Hp} {s : Shared}
theorem lamO_ok {P : Program} {w : World} {H : Hp} {h : Heap} {f c : Addr} {q : Str} {params : Arguments} {body : Expr} {scope : Scope} {pm ctv : Value} (e : h.get? f = some (PySem.W.kla_obj "<lambda>" q params body scope [] pm c ctv)) : ObjOk P w H h f (LamO f c q params body scope) :=
  ⟨⟨pm, ctv, e⟩, ⟨_, e⟩, fun h1 h2 ⟨pm, ctv, a⟩ st => ⟨pm, ctv, st _ a⟩⟩
theorem lam_make3 {c P : Addr} {params : Arguments} {body : Expr} {scope : Scope} {pos : Pos} {E : Value → Shared → Prop} {Q : Value → Shared → Prop} (I : Inv X pins σ H s) (TB : LamX.TabB X.base X.mg c P) (hcode : X.env.code = .ref c)
    (hT : LamX.TabS H P (X.env.qual ++ "<lambda>")) (hdef : defaultsOf params X.env = ([], [])) (hfree : ∀ y ∈ scope.names, y.2 ≠ .free) (hclo : cloFrom X.env.cells scope.names [] = [])
    (h : ∀ (f c' : Addr) (H1 : Hp) (s' : Shared), Inv X pins σ H1 s' → ExM [P] H H1 → LamX.TabS H1 P (X.env.qual ++ "<lambda>") → H1 f = some (LamO f c' (X.env.qual ++ "<lambda>") params body scope) → H1 c' = some (LamX.CodeO c' (X.env.qual ++ "<lambda>")) → f ≠ P → c' ≠ P → Q (.ref f) s') :
    wpAny (model X.prog X.w) X.A (eval (.Lambda params body scope pos) X.env) Q E s := by
  obtain ⟨ps, hP, ht, ha⟩ := hT
  refine PySem.W.kla_eval hdef ?_
  have bP : s.heap.BuiltinsAt X.mg P := TB.bm.keeps I.bk
  have hP' : s.heap.get? P = some { cls := .none, data := .fields ps } := I.hok P _ hP
  have hf' : ∀ y ∈ scope.names, y.2 = .free → ∃ c, X.env.cells.lookup y.1 = some c := fun y hy e => absurd e (hfree y hy)
  cases hc : codeAmong pos ps.toList with
  | none =>
    refine PySem.W.kla_makeFunction (mg := X.mg) (c := c) (P := P) (ps := ps) (closure_ok hf') I.ok.glob (I.mod.glob.keeps I.bk) hcode (TB.code.keeps I.bk) hP' ht hc TB.gP bP fun c' ctv h' tk hx hge hlt hrec htb => ?_
    obtain ⟨c2, oc, vs, t, e2, hoc, hd, hv⟩ := hrec
    cases e2
    have hsz : s.heap.objs.size ≤ h'.objs.size := Nat.le_trans hge (Nat.le_of_lt hlt)
    have nC : H c' = none := I.hok.fresh hge
    have nF : H h'.objs.size = none := I.hok.fresh hsz
    have I0 := LamX.inv_table (t' := tk) (more := #[rawInt pos.line, rawInt pos.col, .ref c']) (h' := h') I hP hx htb hge ⟨oc, vs, t, hoc, hd, hv⟩
    have cP : c' ≠ P := (ne_of_none hP nC).symm
    have fP : h'.objs.size ≠ P := (ne_of_none hP nF).symm
    have fc : h'.objs.size ≠ c' := Nat.ne_of_gt hlt
    have I1 := I0.laid (t' := tk) (a := h'.objs.size) (o := LamO h'.objs.size c' (X.env.qual ++ "<lambda>") params body scope) (h' := h'.push (PySem.W.kla_obj "<lambda>" (X.env.qual ++ "<lambda>") params body scope (cloFrom X.env.cells scope.names []) ((X.mg "__name__").getD .none) c' ctv))
      (fun b o e => Heap.get?_push_of_some _ e) (Nat.le_refl _) (lamO_ok (by rw [hclo]; exact Heap.get?_push_size _ rfl))
    have eL : (ps ++ #[rawInt pos.line, rawInt pos.col, .ref c']).toList = ps.toList ++ [rawInt pos.line, rawInt pos.col, .ref c'] := by simp
    have hE : ∀ b o, b ≠ P → H b = some o → (upd (upd (upd H P (.tbl (ps ++ #[rawInt pos.line, rawInt pos.col, .ref c']))) c' (LamX.CodeO c' (X.env.qual ++ "<lambda>"))) h'.objs.size (LamO h'.objs.size c' (X.env.qual ++ "<lambda>") params body scope)) b = some o := fun b o nb e => by
      rw [upd_ne (ne_of_none e nF), upd_ne (ne_of_none e nC), upd_ne nb]
      exact e
    refine h h'.objs.size c' _ _ I1 (fun b o nb e => hE b o (fun z => nb (by rw [z]; exact List.mem_cons_self ..)) e) ?_ upd_same ?_ fP cP
    · refine ⟨_, by rw [upd_ne fP.symm, upd_ne cP.symm, upd_same], by rw [eL]; exact PySem.TriplesOk_snoc _ _ _ _ ht, fun p' cv hcv => ?_⟩
      rw [eL] at hcv
      rcases LamX.among_app _ ht hcv with z | z
      · obtain ⟨c0, e1, e2⟩ := ha p' cv z
        refine ⟨c0, e1, hE _ _ (fun y => ?_) e2⟩
        rw [y, hP] at e2
        exact LamX.codeO_ne _ (Option.some.inj e2).symm
      · exact ⟨c', z, by rw [upd_ne fc.symm]; exact upd_same⟩
    · rw [upd_ne fc.symm]
      exact upd_same
  | some cv =>
    obtain ⟨c', e, hco⟩ := ha pos cv hc
    subst e
    refine PySem.W.kla_makeFunctionHit (mg := X.mg) (c := c) (P := P) (ps := ps) (closure_ok hf') I.ok.glob (I.mod.glob.keeps I.bk) hcode (TB.code.keeps I.bk) hP' ht hc bP fun ctv h' tk hx hsz => ?_
    have nF : H h'.objs.size = none := I.hok.fresh hsz
    have I1 := I.laid (t' := tk) (a := h'.objs.size) (o := LamO h'.objs.size c' (X.env.qual ++ "<lambda>") params body scope) (h' := h'.push (PySem.W.kla_obj "<lambda>" (X.env.qual ++ "<lambda>") params body scope (cloFrom X.env.cells scope.names []) ((X.mg "__name__").getD .none) c' ctv))
      (fun b o e => Heap.get?_push_of_some _ (hx b o e)) hsz (lamO_ok (by rw [hclo]; exact Heap.get?_push_size _ rfl))
    have hE : ∀ b o, H b = some o → (upd H h'.objs.size (LamO h'.objs.size c' (X.env.qual ++ "<lambda>") params body scope)) b = some o := fun b o e => by
      rw [upd_ne (ne_of_none e nF)]
      exact e
    refine h h'.objs.size c' _ _ I1 (fun b o _ e => hE b o e) ⟨ps, hE _ _ hP, ht, fun p' cv hcv => ?_⟩ upd_same (hE _ _ hco) (ne_of_none hP nF).symm fun y => ?_
    · obtain ⟨c0, e1, e2⟩ := ha p' cv hcv
      exact ⟨c0, e1, hE _ _ e2⟩
    · rw [y, hP] at hco
      exact LamX.codeO_ne _ (Option.some.inj hco).symm
end
/-- the reading of a lambda's making -/
def tLam (P : Addr) (q : Str) (params : Arguments) (body : Expr) (scope : Scope) : TE := fun _ H Q => LamX.TabS H P q ∧ ∀ f c' H1, ExM [P] H H1 → LamX.TabS H1 P q → H1 f = some (LamO f c' q params body scope) → H1 c' = some (LamX.CodeO c' q) → f ≠ P → c' ≠ P → Q (.ref f) H1
theorem pe_lam {X : Cx} {c P : Addr} {params : Arguments} {body : Expr} {scope : Scope} {pos : Pos} (TB : LamX.TabB X.base X.mg c P) (hcode : X.env.code = .ref c) (hfree : ∀ y ∈ scope.names, y.2 ≠ .free) (hclo : cloFrom X.env.cells scope.names [] = []) (hdef : defaultsOf params X.env = ([], []) := by rfl) :
    PE X (.Lambda params body scope pos) (tLam P (X.env.qual ++ "<lambda>") params body scope) :=
  ⟨fun pins s σ H Q I h => lam_make3 I TB hcode h.1 hdef hfree hclo fun f c' H1 s' I1 e1 t1 h1 h2 n1 n2 => ⟨.ref f, H1, I1, rfl, h.2 f c' H1 e1 t1 h1 h2 n1 n2⟩⟩
/-- what a lambda keeps, wherever it stands -/
structure LamOk (P : Program) (w : World) (K : PySem.W.Frag) (mg : Str → Option Value) (base : Heap) (CX : CXT) (k : Nat) (q : Str) (params : Arguments) (body : Expr) (scope : Scope) (ps : List Str) (sp : Sp) : Prop where
  len : ∀ vs H Q E, sp vs H Q E → vs.length = ps.length
  run : ∀ (f c' : Addr) (A : Around) (outer : List PySem.Env) (s : Shared) (H : Hp) (us : List Value) (vs : List V) (Q : VK) (E : XK), Room k A → Env0 P w K mg base A outer s H → H f = some (LamO f c' q params body scope) → H c' = some (LamX.CodeO c' q) → Vals vs us → sp vs H Q E →
    codeAny (model P w) A (.call (.ref f) ⟨us, []⟩) (CR CX outer P w H s Q E) s
theorem lam_of {CX : CXT} {P : Program} {w : World} {K : PySem.W.Frag} {mg : Str → Option Value} {base : Heap} {k : Nat} {q : Str} {params : Arguments} {body : Expr} {scope : Scope} {N ps : List Str} {sp : Sp} (S : FnScope N ps scope)
    (len : ∀ vs H Q E, sp vs H Q E → vs.length = ps.length)
    (hbind : ∀ (pm cv ctv : Value) (us : List Value), us.length = ps.length → bindArgs (PySem.W.kla_fn "<lambda>" q params body scope [] pm cv ctv) ⟨us, []⟩ = pure (ps.zip us))
    (hbody : ∀ (f c' : Addr) (A : Around) (outer : List PySem.Env) (s : Shared) (H : Hp) (vs : List V) (Q : VK) (E : XK), Room k (A.deeper (envOfC q scope s.heap.objs.size f (.ref c'))) → sp vs H Q E →
      ∃ t, PE (cxOf CX P w K mg base N q scope f (.ref c') A outer s H E) body t ∧ t (L2.start N vs) H Q) :
    LamOk P w K mg base CX (k + 1) q params body scope ps sp := by
  refine ⟨len, fun f c' A outer s H us vs Q E hr e0 hf hc r hsp => ?_⟩
  have hl := len _ _ _ _ hsp
  have lim : s.heap.NoLimit := e0.mod.nolimit.keeps fun b o e => (e0.bs b o e).1
  obtain ⟨⟨pm, ctv, of1⟩, _, _⟩ := e0.hok f _ hf
  obtain ⟨⟨oc, fv, t, hoc, hdc, hvc⟩, _, _⟩ := e0.hok c' _ hc
  have hkind : ∀ y ∈ ps.zip us, scope.names.lookup y.1 = some .local ∨ (scope.names.lookup y.1 = some .cell ∧ ((cellsFrom (s.heap.objs.size + 1) scope.names []).lookup y.1).isSome = true) := fun ⟨n, v⟩ hy => by
    rcases S.par n (List.of_mem_zip hy).1 with q | q
    · exact .inl q
    · exact .inr ⟨q, PySem.W.cellsFrom_some _ _ _ (.inl q)⟩
  refine PySem.W.kla_callFunE hr.depth of1 rfl S.co S.gen rfl ⟨c', oc, fv, t, rfl, hoc, hdc, hvc⟩ ?_
  rw [hbind _ _ _ _ (by rw [← r.length]; exact hl)]
  refine wpAny_pure ?_
  refine wpAny_newFunctionEnv_cells S.kind hkind fun env he s1 x => ?_
  subst he
  refine ⟨lim.keeps x.toInCall.keep, ?_⟩
  obtain ⟨t, ht, hq⟩ := hbody f c' A outer s H vs Q E (hr.deeper _) hsp
  have I : Inv (cxOf CX P w K mg base N q scope f (.ref c') A outer s H E) [] (L2.start N vs) H s1 := inv_start S hr.hd e0 hl r x
  refine PySem.W.kla_codeExpr (wpAny_mono (ht.run [] s1 (L2.start N vs) H Q I hq) (fun v s' hs => ?_) fun e s' hs => hs)
  obtain ⟨u, H', J, rv, q⟩ := hs
  exact ⟨u, H', J.os, J.bare, J.base, J.hok, rv, q⟩
theorem lam_okX {P : Program} {w : World} {K : PySem.W.Frag} {mg : Str → Option Value} {base : Heap} {k : Nat} {q : Str} {params : Arguments} {body : Expr} {scope : Scope} {N ps : List Str} {R : List Pd → Addr → Prop} (S : FnScope N ps scope) (hl : ∀ ds C, R ds C → ds.length = ps.length)
    (hbind : ∀ (pm cv ctv : Value) (us : List Value), us.length = ps.length → bindArgs (PySem.W.kla_fn "<lambda>" q params body scope [] pm cv ctv) ⟨us, []⟩ = pure (ps.zip us))
    (hbody : ∀ (f c' : Addr) (A : Around) (outer : List PySem.Env) (s : Shared) (H : Hp) (ds : List Pd) (C : Addr) (E : XK), Room k (A.deeper (envOfC q scope s.heap.objs.size f (.ref c'))) → R ds C →
      EX (cxOf (L2N.CX P w) P w K mg base N q scope f (.ref c') A outer s H E) E body (startD N ds) C) :
    LamOk P w K mg base (L2N.CX P w) (k + 1) q params body scope ps (SpX K R) := by
  refine lam_of S (fun vs H Q E h => ?_) hbind fun f c' A outer s H vs Q E hr h => ?_
  · obtain ⟨M, ds, C, _, h1, h2, _⟩ := h
    rw [h1.length]
    exact hl ds C h2
  · obtain ⟨M, ds, C, al, h1, h2, q⟩ := h
    exact ⟨_, pe_w, hbody f c' A outer s H ds C E hr h2 M _ H (start_kn al h1) q Q⟩
/-! ### a thing that is called and raises: a def or a lambda -/
section
variable {X : Cx} {k i : Nat} {f : Addr} {fd : FuncData} {ps : List Str} {sp : Sp} {E : L2.St → XK} {x q : Str} {p pos : Pos} {e : Expr} {es : List Expr} {t : TA} {params : Arguments} {body : Expr} {scope : Scope}
theorem pe_callLS {CX : CXT} (F : FnOk X.prog X.w X.K X.mg X.base CX k f fd ps sp) (hr : Room k X.A) (hN : X.N[i]? = some x) (hv : Vis X.env.scope x) (hk : PySem.W.keepIn X.K (.ref f) = true) (hb : Binds X.K fd ps []) (hx : ∀ σ, PassesAt CX X σ (E σ)) (ha : PA X (e :: es) t)
    (hdb : (x == ("__debug__" : Str)) = false := by decide) (hcd : (x == ("__classdict__" : Str)) = false := by decide)
    (he : starEach (e :: es) X.env = (false, eval e X.env) :: starEach es X.env := by rfl) (hpl : (backTo pos (starEach es X.env)).any (·.1) = false := by rfl) :
    PE X (.Call (.Name x p) (e :: es) [] pos) (fun σ H Q => σ[i]? = some (some (.ref f)) ∧ t σ H fun vs H1 => sp vs H1 Q (E σ)) := by
  refine ⟨fun pins s σ H Q I h => ?_⟩
  obtain ⟨hs, ht⟩ := h
  refine wpAny_Call_Name_kw (thn ((pe_var (pos := p) hN hv hdb hcd).run pins s σ H (fun v H1 => v = .ref f ∧ H1 = H) I ⟨.ref f, hs, rfl, rfl⟩) fun u s1 ⟨v, H1, I1, r1, q1⟩ => ?_)
  obtain ⟨rfl, rfl⟩ := q1
  cases r1
  refine PySem.W.callWith_K (h₀ := X.base) I.ok.mod.kin hk (thn (ha.run pos pins s1 σ _ _ I1 ht) fun us s2 ⟨vs, H2, I2, r, q⟩ => ⟨I2.kIn, ?_⟩) he hpl
  exact run_fnS F hr hb (hx σ) I2 r q
theorem pe_callLam {CX : CXT} (L : LamOk X.prog X.w X.K X.mg X.base CX k q params body scope ps sp) (hr : Room k X.A) (hN : X.N[i]? = some x) (hv : Vis X.env.scope x) (hx : ∀ σ, PassesAt CX X σ (E σ)) (ha : PA X (e :: es) t)
    (hdb : (x == ("__debug__" : Str)) = false := by decide) (hcd : (x == ("__classdict__" : Str)) = false := by decide)
    (he : starEach (e :: es) X.env = (false, eval e X.env) :: starEach es X.env := by rfl) (hpl : (backTo pos (starEach es X.env)).any (·.1) = false := by rfl) :
    PE X (.Call (.Name x p) (e :: es) [] pos) (fun σ H Q => ∃ f c', σ[i]? = some (some (.ref f)) ∧ H f = some (LamO f c' q params body scope) ∧ t σ H fun vs H1 => H1 f = some (LamO f c' q params body scope) ∧ H1 c' = some (LamX.CodeO c' q) ∧ sp vs H1 Q (E σ)) := by
  refine ⟨fun pins s σ H Q I h => ?_⟩
  obtain ⟨f, c', hs, h0, ht⟩ := h
  refine wpAny_Call_Name_kw (thn ((pe_var (pos := p) hN hv hdb hcd).run pins s σ H (fun v H1 => v = .ref f ∧ H1 = H) I ⟨.ref f, hs, rfl, rfl⟩) fun u s1 ⟨v, H1, I1, r1, q1⟩ => ?_)
  obtain ⟨rfl, rfl⟩ := q1
  cases r1
  have at_ : ∀ {s2 : Shared} {H2 : Hp}, Inv X pins σ H2 s2 → H2 f = some (LamO f c' q params body scope) → PySem.W.FnAt f s2.heap := fun {s2 H2} I2 h => by
    obtain ⟨⟨pm, ctv, of1⟩, _, _⟩ := I2.hok f _ h
    exact ⟨_, _, _, _, of1⟩
  refine PySem.W.callWith_F (at_ I1 h0) (thn (ha.run pos pins s1 σ _ _ I1 ht) fun us s2 ⟨vs, H2, I2, r, h1, h2, q⟩ => ⟨at_ I2 h1, ?_⟩) he hpl
  show wpAny _ _ (call (.ref f) us) _ _ _
  refine wpAny_call (codeAny_mono (L.run f c' X.A X.stack s2 H2 us vs Q (E σ) hr I2.env0 h1 h2 r q) fun r s' hq => ?_)
  cases r with
  | error e => exact hx σ pins H2 s2 e s' I2 hq
  | ok fl =>
    cases fl with
    | ret u => exact I2.after hq
    | next => exact False.elim hq
    | brk => exact False.elim hq
    | cont => exact False.elim hq
end
end Lr

namespace Lr
/-! rows by a lead and a round: the plain law -/
abbrev Row := List Int × List Int
def cz (c : List Int) (z : Int) : Int := c.getD (z % (c.length : Int)).toNat 0
def cyc (c : List Int) (i : Nat) : Int := c.getD (i % c.length) 0
def sgn (r : Row) (p : Nat) : Int := if p < r.1.length then r.1.getD p 0 else cyc r.2 (p - r.1.length)
theorem cz_nat (c : List Int) (i : Nat) : cz c (i : Int) = cyc c i := by
  unfold cz cyc
  rw [← Int.natCast_emod, Int.toNat_natCast]
theorem cz_add (c : List Int) (z : Int) : cz c (z + c.length) = cz c z := by
  unfold cz
  rw [Int.add_emod_right]
theorem cz_emod (c : List Int) (z w : Int) : cz c (z + w % (c.length : Int)) = cz c (z + w) := by
  unfold cz
  rw [Int.add_emod_emod]
def Per (f : Nat → Int) (a n : Nat) : Prop := ∀ p, a ≤ p → f (p + n) = f p
section
variable {f : Nat → Int} {a b m n : Nat}
theorem Per.mul (h : Per f a n) : ∀ k, Per f a (n * k)
  | 0 => fun p _ => rfl
  | k + 1 => fun p hp => by
    rw [Nat.mul_succ, ← Nat.add_assoc, h _ (by omega), Per.mul h k p hp]
theorem Per.sub (h : Per f a m) (g : Per f a n) (hle : n ≤ m) : Per f a (m - n) := fun p hp => by
  have e1 := g (p + (m - n)) (by omega)
  rw [← e1, show p + (m - n) + n = p + m by omega]
  exact h p hp
theorem per_gcd (m n : Nat) : Per f a m → Per f a n → Per f a (Nat.gcd m n) := by
  refine Nat.gcd.induction (P := fun m n => Per f a m → Per f a n → Per f a (Nat.gcd m n)) m n (fun n _ h => by rw [Nat.gcd_zero_left]; exact h) (fun m n hm ih h1 h2 => ?_)
  rw [Nat.gcd_rec]
  refine ih ?_ h1
  have e : n % m = n - m * (n / m) := by
    have := Nat.div_add_mod n m
    omega
  rw [e]
  exact h2.sub (h1.mul _) (Nat.mul_div_le n m)
theorem Per.shift (h : Per f a n) (hn : 0 < n) (g : Per f b m) : Per f a m := fun p hp => by
  have e : b ≤ p + n * b := Nat.le_trans (Nat.le_mul_of_pos_left b hn) (Nat.le_add_left _ _)
  have h1 := h.mul b (p + m) (by omega)
  have h2 := h.mul b p hp
  have h3 := g (p + n * b) e
  rw [← h1, ← h2, ← h3, Nat.add_right_comm]
end
theorem cyc_per (c : List Int) : Per (cyc c) 0 c.length := fun p _ => by
  unfold cyc
  rw [Nat.add_mod_right]
theorem getD_lt {l : List Int} {i : Nat} (h : i < l.length) : l.getD i 0 = l[i] := by
  rw [List.getD_eq_getElem?_getD, List.getElem?_eq_getElem h]
  rfl
theorem getElem?_getD {l : List Int} {i : Nat} (h : i < l.length) : l[i]? = some (l.getD i 0) := by
  rw [getD_lt h, List.getElem?_eq_getElem h]
theorem ext_getD {l m : List Int} (hl : l.length = m.length) (h : ∀ i, i < l.length → l.getD i 0 = m.getD i 0) : l = m := by
  refine List.ext_getElem hl fun i h1 h2 => ?_
  rw [← getD_lt h1, ← getD_lt h2]
  exact h i h1
theorem getD_app_l {l m : List Int} {i : Nat} (h : i < l.length) : (l ++ m).getD i 0 = l.getD i 0 := by
  rw [getD_lt h, getD_lt (by rw [List.length_append]; omega), List.getElem_append_left h]
theorem getD_app_r {l m : List Int} {i : Nat} (h : l.length ≤ i) : (l ++ m).getD i 0 = m.getD (i - l.length) 0 := by
  rw [List.getD_eq_getElem?_getD, List.getElem?_append_right h, List.getD_eq_getElem?_getD]
theorem getD_take {l : List Int} {i k : Nat} (h : i < k) : (l.take k).getD i 0 = l.getD i 0 := by
  rw [List.getD_eq_getElem?_getD, List.getElem?_take, if_pos h, List.getD_eq_getElem?_getD]
theorem getD_drop {l : List Int} {i k : Nat} : (l.drop k).getD i 0 = l.getD (k + i) 0 := by
  rw [List.getD_eq_getElem?_getD, List.getElem?_drop, List.getD_eq_getElem?_getD]
theorem cyc_lt {c : List Int} {i : Nat} (h : i < c.length) : cyc c i = c.getD i 0 := by
  unfold cyc
  rw [Nat.mod_eq_of_lt h]
/-! ### a list gone round -/
def rep (s : List Int) (k : Nat) : List Int := (List.replicate k s).flatten
theorem rep_len (s : List Int) : ∀ k, (rep s k).length = s.length * k
  | 0 => rfl
  | k + 1 => by
    unfold rep
    rw [List.replicate_succ, List.flatten_cons, List.length_append]
    have := rep_len s k
    unfold rep at this
    rw [this, Nat.mul_succ, Nat.add_comm]
theorem rep_get (s : List Int) : ∀ k i, i < s.length * k → (rep s k).getD i 0 = s.getD (i % s.length) 0
  | 0, i, h => by omega
  | k + 1, i, h => by
    have e : rep s (k + 1) = s ++ rep s k := by
      unfold rep
      rw [List.replicate_succ, List.flatten_cons]
    rw [e]
    by_cases hi : i < s.length
    · rw [getD_app_l hi, Nat.mod_eq_of_lt hi]
    · rw [Nat.mul_succ] at h
      rw [getD_app_r (by omega), rep_get s k _ (by omega), Nat.mod_eq_sub_mod (show s.length ≤ i by omega)]
theorem rep_cyc {s : List Int} {k : Nat} (hk : 0 < k) (i : Nat) : cyc (rep s k) i = cyc s i := by
  unfold cyc
  rw [rep_len]
  by_cases hs : s.length = 0
  · have e : s = [] := List.length_eq_zero_iff.mp hs
    subst e
    have e2 : rep [] k = [] := List.length_eq_zero_iff.mp (by rw [rep_len]; exact Nat.zero_mul _)
    rw [e2]
    rfl
  · have hp : 0 < s.length * k := Nat.mul_pos (by omega) hk
    rw [rep_get s k _ (Nat.mod_lt _ hp), Nat.mod_mul_right_mod]
theorem rep_iff {c : List Int} {d : Nat} (hd : 0 < d) (h1 : d ≤ c.length) (h2 : c.length % d = 0) : c = rep (c.take d) (c.length / d) ↔ Per (cyc c) 0 d := by
  have hlt : (c.take d).length = d := by rw [List.length_take]; omega
  have hmul : d * (c.length / d) = c.length := Nat.mul_div_cancel' (Nat.dvd_of_mod_eq_zero h2)
  constructor
  · intro e p _
    have key : ∀ i, cyc c i = c.getD (i % d) 0 := fun i => by
      have hi : i % c.length < c.length := Nat.mod_lt _ (by omega)
      unfold cyc
      have g := rep_get (c.take d) (c.length / d) (i % c.length) (by rw [hlt, hmul]; exact hi)
      rw [← e, hlt, getD_take (Nat.mod_lt _ hd), Nat.mod_mod_of_dvd _ (Nat.dvd_of_mod_eq_zero h2)] at g
      exact g
    rw [key, key, Nat.add_mod_right]
  · intro hp
    refine ext_getD (by rw [rep_len, hlt, hmul]) fun i hi => ?_
    rw [rep_get _ _ _ (by rw [hlt, hmul]; exact hi), hlt, getD_take (Nat.mod_lt _ hd)]
    have hlt2 : i % d < d := Nat.mod_lt _ hd
    have e1 : cyc c (i % d) = c.getD (i % d) 0 := cyc_lt (by omega)
    have e2 := hp.mul (i / d) (i % d) (Nat.zero_le _)
    rw [Nat.mod_add_div] at e2
    rw [← e1, ← e2, cyc_lt hi]
/-! ### rounds not gone round several times -/
def Prim (c : List Int) : Prop := ∀ d, 0 < d → d < c.length → c.length % d = 0 → ¬ Per (cyc c) 0 d
theorem prim_dvd {c : List Int} (hc : 0 < c.length) (h : Prim c) {m : Nat} (hm : Per (cyc c) 0 m) : c.length ∣ m := by
  have g := per_gcd _ _ (cyc_per c) hm
  have hg : 0 < Nat.gcd c.length m := Nat.gcd_pos_of_pos_left _ hc
  have h1 : Nat.gcd c.length m ∣ c.length := Nat.gcd_dvd_left ..
  have h2 : ¬ Nat.gcd c.length m < c.length := fun z => h _ hg z (Nat.mod_eq_zero_of_dvd h1) g
  have h3 : Nat.gcd c.length m = c.length := Nat.le_antisymm (Nat.le_of_dvd hc h1) (Nat.not_lt.mp h2)
  rw [← h3]
  exact Nat.gcd_dvd_right ..
/-! ### a round begun later -/
def rot (c : List Int) (t : Nat) : List Int := c.drop t ++ c.take t
theorem rot_len (c : List Int) (t : Nat) : (rot c t).length = c.length := by
  unfold rot
  rw [List.length_append, List.length_drop, List.length_take]
  omega
theorem rot_cyc {c : List Int} {t : Nat} (ht : t ≤ c.length) (i : Nat) : cyc (rot c t) i = cyc c (i + t) := by
  by_cases hc : c.length = 0
  · have e : c = [] := List.length_eq_zero_iff.mp hc
    subst e
    simp [rot, cyc]
  have hlt : i % c.length < c.length := Nat.mod_lt _ (by omega)
  unfold cyc
  rw [rot_len]
  have e : (i + t) % c.length = (i % c.length + t) % c.length := by rw [Nat.mod_add_mod]
  rw [e]
  unfold rot
  by_cases h : i % c.length < c.length - t
  · rw [getD_app_l (by rw [List.length_drop]; exact h), getD_drop, Nat.mod_eq_of_lt (show i % c.length + t < c.length by omega), Nat.add_comm]
  · rw [getD_app_r (by rw [List.length_drop]; omega), List.length_drop, getD_take (by omega), Nat.mod_eq_sub_mod (show c.length ≤ i % c.length + t by omega), Nat.mod_eq_of_lt (show i % c.length + t - c.length < c.length by omega)]
    congr 1
    omega
theorem rot_cz {c : List Int} {t : Nat} (ht : t ≤ c.length) (i : Nat) : cyc (rot c t) i = cz c ((i : Int) + t) := by
  rw [rot_cyc ht, ← cz_nat]
  rfl
theorem prim_rot {c : List Int} {t : Nat} (hc : 0 < c.length) (ht : t ≤ c.length) (h : Prim c) : Prim (rot c t) := fun d h1 h2 h3 hp => by
  rw [rot_len] at h2 h3
  refine h d h1 h2 h3 ((cyc_per c).shift (b := t) hc fun p hp2 => ?_)
  have g := hp (p - t) (Nat.zero_le _)
  rw [rot_cyc ht, rot_cyc ht, show p - t + d + t = p + d by omega, show p - t + t = p by omega] at g
  exact g
/-! ### the least telling is one -/
def Told (r : Row) : Prop := r.2 ≠ [] ∧ Prim r.2 ∧ (r.1 = [] ∨ r.1.getLast? ≠ r.2.getLast?)
theorem sgn_lo {r : Row} {p : Nat} (h : p < r.1.length) : sgn r p = r.1.getD p 0 := if_pos h
theorem sgn_hi (r : Row) (i : Nat) : sgn r (r.1.length + i) = cyc r.2 i := by
  unfold sgn
  rw [if_neg (by omega), Nat.add_sub_cancel_left]
theorem sgn_per (r : Row) : Per (sgn r) r.1.length r.2.length := fun p hp => by
  obtain ⟨i, rfl⟩ : ∃ i, p = r.1.length + i := ⟨p - r.1.length, by omega⟩
  rw [Nat.add_assoc, sgn_hi, sgn_hi]
  exact cyc_per _ i (Nat.zero_le _)
theorem last_get {l : List Int} (h : l ≠ []) : l.getLast? = some (l.getD (l.length - 1) 0) := by
  have hp : 0 < l.length := List.length_pos_iff.mpr h
  rw [List.getLast?_eq_getElem?, getElem?_getD (by omega)]
theorem told_len {r s : Row} (hr : Told r) (hs : s.2 ≠ []) (h : ∀ p, sgn r p = sgn s p) : r.2.length ∣ s.2.length := by
  have hc : 0 < r.2.length := List.length_pos_iff.mpr hr.1
  have e : sgn r = sgn s := funext h
  have h1 : Per (sgn r) s.1.length s.2.length := e ▸ sgn_per s
  have h2 := (sgn_per r).shift hc h1
  refine prim_dvd hc hr.2.1 fun p _ => ?_
  have g := h2 (r.1.length + p) (by omega)
  rw [Nat.add_assoc, sgn_hi, sgn_hi] at g
  exact g
theorem told_lead {r s : Row} (hs : Told s) (he : r.2.length = s.2.length) (h : ∀ p, sgn r p = sgn s p) : s.1.length ≤ r.1.length := by
  refine Nat.not_lt.mp fun hlt => ?_
  have hc : 0 < s.2.length := List.length_pos_iff.mpr hs.1
  have hne : s.1 ≠ [] := fun z => by
    rw [z] at hlt
    exact Nat.not_lt_zero _ hlt
  rcases hs.2.2 with z | z
  · exact hne z
  · apply z
    rw [last_get hne, last_get hs.1]
    have g := sgn_per r (s.1.length - 1) (by omega)
    have e1 : sgn s (s.1.length - 1) = s.1.getD (s.1.length - 1) 0 := sgn_lo (by omega)
    have e2 : sgn s (s.1.length - 1 + r.2.length) = s.2.getD (s.2.length - 1) 0 := by
      rw [he, show s.1.length - 1 + s.2.length = s.1.length + (s.2.length - 1) by omega, sgn_hi, cyc_lt (by omega)]
    rw [h, h, e1, e2] at g
    rw [g]
theorem told_unique {r s : Row} (hr : Told r) (hs : Told s) (h : ∀ p, sgn r p = sgn s p) : r = s := by
  have e1 : r.2.length = s.2.length := Nat.dvd_antisymm (told_len hr hs.1 h) (told_len hs hr.1 fun p => (h p).symm)
  have e2 : r.1.length = s.1.length := Nat.le_antisymm (told_lead hr e1.symm fun p => (h p).symm) (told_lead hs e1 h)
  have a1 : r.1 = s.1 := ext_getD e2 fun i hi => by
    have g := h i
    rw [sgn_lo hi, sgn_lo (by omega)] at g
    exact g
  have a2 : r.2 = s.2 := ext_getD e1 fun i hi => by
    have g := h (r.1.length + i)
    rw [sgn_hi, e2, sgn_hi, cyc_lt hi, cyc_lt (by omega)] at g
    exact g
  exact Prod.ext a1 a2
/-! ### so many signs are enough -/
theorem same_enough {r s : Row} (hr : r.2 ≠ []) (hs : s.2 ≠ []) (h : ∀ p, p < max r.1.length s.1.length + r.2.length + s.2.length → sgn r p = sgn s p) : ∀ p, sgn r p = sgn s p := by
  have hc : 0 < r.2.length := List.length_pos_iff.mpr hr
  have hd : 0 < s.2.length := List.length_pos_iff.mpr hs
  intro p
  induction p using Nat.strongRecOn with
  | ind p ih =>
    by_cases hp : p < max r.1.length s.1.length + r.2.length + s.2.length
    · exact h p hp
    · have m1 : r.1.length ≤ max r.1.length s.1.length := Nat.le_max_left _ _
      have m2 : s.1.length ≤ max r.1.length s.1.length := Nat.le_max_right _ _
      have a1 := sgn_per r (p - r.2.length) (by omega)
      have a2 := sgn_per s (p - r.2.length - s.2.length) (by omega)
      have a3 := sgn_per r (p - r.2.length - s.2.length) (by omega)
      have a4 := sgn_per s (p - s.2.length) (by omega)
      rw [show p - r.2.length + r.2.length = p by omega] at a1
      rw [show p - r.2.length - s.2.length + s.2.length = p - r.2.length by omega] at a2
      rw [show p - r.2.length - s.2.length + r.2.length = p - s.2.length by omega] at a3
      rw [show p - s.2.length + s.2.length = p by omega] at a4
      rw [a1, ih _ (by omega), a2, ← ih _ (by omega), ← a3, ih _ (by omega), a4]
/-! ### the shortest round -/
def isPart (c : List Int) (d : Nat) : Bool := decide (c.length % d = 0) && decide (c = rep (c.take d) (c.length / d))
def short (c : List Int) : List Int := match (List.range (c.length - 1)).find? (fun d => isPart c (d + 1)) with
  | some d => c.take (d + 1)
  | none => c
theorem find_range {p : Nat → Bool} : ∀ {n d : Nat}, d < n → p d = true → (∀ e, e < d → p e = false) → (List.range n).find? p = some d := by
  intro n d hd hp h
  rw [List.find?_range_eq_some]
  exact ⟨hp, List.mem_range.mpr hd, fun e he => by rw [h e he]; rfl⟩
theorem short_at {c : List Int} {d : Nat} (hd : d < c.length - 1) (hp : isPart c (d + 1) = true) (h : ∀ e, e < d → isPart c (e + 1) = false) : short c = c.take (d + 1) := by
  unfold short
  rw [find_range hd hp h]
theorem short_none {c : List Int} (h : ∀ e, e < c.length - 1 → isPart c (e + 1) = false) : short c = c := by
  unfold short
  have e : (List.range (c.length - 1)).find? (fun d => isPart c (d + 1)) = none := by
    rw [List.find?_eq_none]
    intro x hx
    rw [h x (List.mem_range.mp hx)]
    exact Bool.false_ne_true
  rw [e]
theorem short_cases (c : List Int) : (∃ d, d < c.length - 1 ∧ isPart c (d + 1) = true ∧ (∀ e, e < d → isPart c (e + 1) = false) ∧ short c = c.take (d + 1)) ∨ ((∀ e, e < c.length - 1 → isPart c (e + 1) = false) ∧ short c = c) := by
  cases e : (List.range (c.length - 1)).find? (fun d => isPart c (d + 1)) with
  | some d =>
    rw [List.find?_range_eq_some] at e
    obtain ⟨h1, h2, h3⟩ := e
    have hall : ∀ e, e < d → isPart c (e + 1) = false := fun e he => by
      have := h3 e he
      simpa using this
    exact .inl ⟨d, List.mem_range.mp h2, h1, hall, short_at (List.mem_range.mp h2) h1 hall⟩
  | none =>
    rw [List.find?_eq_none] at e
    have hall : ∀ e, e < c.length - 1 → isPart c (e + 1) = false := fun x hx => by
      have := e x (List.mem_range.mpr hx)
      simpa using this
    exact .inr ⟨hall, short_none hall⟩
theorem isPart_iff {c : List Int} {d : Nat} (hd : 0 < d) (h1 : d ≤ c.length) : isPart c d = true ↔ c.length % d = 0 ∧ Per (cyc c) 0 d := by
  unfold isPart
  rw [Bool.and_eq_true, decide_eq_true_iff, decide_eq_true_iff]
  constructor
  · intro ⟨a, b⟩
    exact ⟨a, (rep_iff hd h1 a).mp b⟩
  · intro ⟨a, b⟩
    exact ⟨a, (rep_iff hd h1 a).mpr b⟩
theorem short_cyc (c : List Int) (i : Nat) : cyc (short c) i = cyc c i := by
  rcases short_cases c with ⟨d, h1, h2, _, e⟩ | ⟨_, e⟩
  · unfold isPart at h2
    rw [Bool.and_eq_true, decide_eq_true_iff, decide_eq_true_iff] at h2
    have hk : 0 < c.length / (d + 1) := Nat.div_pos (by omega) (by omega)
    rw [e]
    conv => rhs; rw [h2.2]
    exact (rep_cyc hk i).symm
  · rw [e]
theorem short_ne {c : List Int} (h : c ≠ []) : short c ≠ [] := by
  rcases short_cases c with ⟨d, h1, _, _, e⟩ | ⟨_, e⟩
  · rw [e]
    intro z
    have := congrArg List.length z
    rw [List.length_take] at this
    have h2 : min (d + 1) c.length = 0 := this
    omega
  · rw [e]
    exact h
theorem short_le (c : List Int) : (short c).length ≤ c.length := by
  rcases short_cases c with ⟨d, h1, _, _, e⟩ | ⟨_, e⟩
  · rw [e, List.length_take]
    omega
  · rw [e]
    exact Nat.le_refl _
theorem short_prim (c : List Int) : Prim (short c) := by
  rcases short_cases c with ⟨d, h1, h2, h3, e⟩ | ⟨h3, e⟩
  · intro x hx hlt hdiv hper
    have hl : (short c).length = d + 1 := by rw [e, List.length_take]; omega
    rw [hl] at hlt hdiv
    have hp : Per (cyc c) 0 x := by
      have ef : cyc (short c) = cyc c := funext (short_cyc c)
      rw [ef] at hper
      exact hper
    have h4 := ((isPart_iff (by omega) (by omega)).mp h2).1
    have hd2 : c.length % x = 0 := Nat.mod_eq_zero_of_dvd (Nat.dvd_trans (Nat.dvd_of_mod_eq_zero hdiv) (Nat.dvd_of_mod_eq_zero h4))
    have g := (isPart_iff (c := c) hx (by omega)).mpr ⟨hd2, hp⟩
    have k := h3 (x - 1) (by omega)
    rw [show x - 1 + 1 = x by omega, g] at k
    cases k
  · rw [e]
    intro x hx hlt hdiv hper
    have g := (isPart_iff (c := c) hx (by omega)).mpr ⟨hdiv, hper⟩
    have k := h3 (x - 1) (by omega)
    rw [show x - 1 + 1 = x by omega, g] at k
    cases k
/-! ### the least telling -/
def keepF (l c : List Int) : Nat → Nat
  | 0 => 0
  | k + 1 => if l.getD k 0 = cz c (-1 - ((l.length : Int) - (k + 1))) then keepF l c k else k + 1
theorem keepF_le (l c : List Int) : ∀ k, keepF l c k ≤ k
  | 0 => Nat.le_refl _
  | k + 1 => by
    unfold keepF
    split
    · exact Nat.le_trans (keepF_le l c k) (Nat.le_succ _)
    · exact Nat.le_refl _
theorem keepF_eq (l c : List Int) : ∀ k j, keepF l c k ≤ j → j < k → l.getD j 0 = cz c ((j : Int) - l.length)
  | 0, _, _, h => by omega
  | k + 1, j, h1, h2 => by
    unfold keepF at h1
    split at h1
    · next e =>
      by_cases hj : j = k
      · subst hj
        rw [e]
        congr 1
        omega
      · exact keepF_eq l c k j h1 (by omega)
    · omega
theorem keepF_ne (l c : List Int) : ∀ k, 0 < keepF l c k → l.getD (keepF l c k - 1) 0 ≠ cz c (-1 - ((l.length : Int) - keepF l c k))
  | 0, h => by
    unfold keepF at h
    omega
  | k + 1, h => by
    unfold keepF at h ⊢
    split
    · next e =>
      rw [if_pos e] at h
      exact keepF_ne l c k h
    · next e =>
      rw [Nat.add_sub_cancel]
      exact e
def turnF (c : List Int) (gone : Int) : Nat := (-gone % (c.length : Int)).toNat
def leastF (r : Row) : Row :=
  let s := short r.2
  let k := keepF r.1 s r.1.length
  (r.1.take k, rot s (turnF s ((r.1.length : Int) - k)))
theorem turnF_lt {c : List Int} (h : c ≠ []) (g : Int) : turnF c g < c.length := by
  have hc : 0 < c.length := List.length_pos_iff.mpr h
  unfold turnF
  have h1 := Int.emod_lt_of_pos (-g) (show (0 : Int) < c.length by omega)
  have h2 := Int.emod_nonneg (-g) (show (c.length : Int) ≠ 0 by omega)
  omega
theorem turn_cz {c : List Int} (h : c ≠ []) (g : Int) (i : Nat) : cyc (rot c (turnF c g)) i = cz c ((i : Int) - g) := by
  have hc : 0 < c.length := List.length_pos_iff.mpr h
  rw [rot_cz (Nat.le_of_lt (turnF_lt h g))]
  unfold turnF
  have h2 := Int.emod_nonneg (-g) (show (c.length : Int) ≠ 0 by omega)
  rw [Int.toNat_of_nonneg h2, cz_emod]
  rfl
theorem least_sgn {r : Row} (h : r.2 ≠ []) (p : Nat) : sgn (leastF r) p = sgn r p := by
  have hs := short_ne h
  have hk := keepF_le r.1 (short r.2) r.1.length
  have hl : (leastF r).1.length = keepF r.1 (short r.2) r.1.length := by
    show (r.1.take _).length = _
    rw [List.length_take]
    omega
  by_cases h1 : p < keepF r.1 (short r.2) r.1.length
  · rw [sgn_lo (by omega), sgn_lo (by omega)]
    exact getD_take h1
  · obtain ⟨i, rfl⟩ : ∃ i, p = (leastF r).1.length + i := ⟨p - (leastF r).1.length, by omega⟩
    rw [sgn_hi]
    show cyc (rot (short r.2) (turnF (short r.2) ((r.1.length : Int) - keepF r.1 (short r.2) r.1.length))) i = _
    rw [turn_cz hs]
    by_cases h2 : keepF r.1 (short r.2) r.1.length + i < r.1.length
    · rw [hl, sgn_lo h2, keepF_eq r.1 (short r.2) r.1.length _ (by omega) h2]
      congr 1
      omega
    · obtain ⟨j, hj⟩ : ∃ j, keepF r.1 (short r.2) r.1.length + i = r.1.length + j := ⟨keepF r.1 (short r.2) r.1.length + i - r.1.length, by omega⟩
      rw [hl, hj, sgn_hi, ← short_cyc, ← cz_nat]
      congr 1
      omega
theorem least_told {r : Row} (h : r.2 ≠ []) : Told (leastF r) := by
  have hs := short_ne h
  have hsl : 0 < (short r.2).length := List.length_pos_iff.mpr hs
  have hk := keepF_le r.1 (short r.2) r.1.length
  have ht := turnF_lt hs ((r.1.length : Int) - keepF r.1 (short r.2) r.1.length)
  have hne : (leastF r).2 ≠ [] := fun z => by
    have e : (rot (short r.2) (turnF (short r.2) ((r.1.length : Int) - keepF r.1 (short r.2) r.1.length))).length = 0 := by
      have := congrArg List.length z
      exact this
    rw [rot_len] at e
    omega
  refine ⟨hne, prim_rot hsl (Nat.le_of_lt ht) (short_prim _), ?_⟩
  by_cases h0 : keepF r.1 (short r.2) r.1.length = 0
  · left
    show r.1.take _ = []
    rw [h0]
    rfl
  · right
    intro z
    have hl : (leastF r).1.length = keepF r.1 (short r.2) r.1.length := by
      show (r.1.take _).length = _
      rw [List.length_take]
      omega
    have hne1 : (leastF r).1 ≠ [] := fun y => by
      rw [y] at hl
      exact h0 hl.symm
    rw [last_get hne1, last_get hne, hl] at z
    have e1 := Option.some.inj z
    have e2 : (leastF r).1.getD (keepF r.1 (short r.2) r.1.length - 1) 0 = r.1.getD (keepF r.1 (short r.2) r.1.length - 1) 0 := getD_take (by omega)
    have hl2 : (leastF r).2.length = (short r.2).length := rot_len _ _
    have e3 : (leastF r).2.getD ((leastF r).2.length - 1) 0 = cz (short r.2) (-1 - ((r.1.length : Int) - keepF r.1 (short r.2) r.1.length)) := by
      rw [← cyc_lt (by omega), hl2]
      show cyc (rot (short r.2) (turnF (short r.2) ((r.1.length : Int) - keepF r.1 (short r.2) r.1.length))) _ = _
      rw [turn_cz hs, ← cz_add (short r.2) (-1 - _)]
      congr 1
      omega
    rw [e2, e3] at e1
    exact keepF_ne _ _ _ (by omega) e1
theorem least_one {r s : Row} (hr : r.2 ≠ []) (hs : s.2 ≠ []) (h : ∀ p, sgn r p = sgn s p) : leastF r = leastF s :=
  told_unique (least_told hr) (least_told hs) fun p => by rw [least_sgn hr, least_sgn hs, h]
theorem least_of_told {r : Row} (h : Told r) : leastF r = r := told_unique (least_told h.1) h fun p => least_sgn h.1 p
end Lr

namespace Lr
/-! the law's own draws and rows -/
def primesL : List Int := [1000003, 1000033, 1000037, 1000039, 1000081, 1000099, 1000117, 1000121, 1000133, 1000151, 1000159, 1000171, 1000183, 1000187, 1000193, 1000199]
def drawF (cell k many : Int) : Int := (cell * 48271 + k * 69621) % primesL.getD (k % 16).toNat 0 % many
theorem prime_pos {k : Int} : 0 < primesL.getD (k % 16).toNat 0 := by
  have h1 := Int.emod_nonneg k (show (16 : Int) ≠ 0 by decide)
  have h2 := Int.emod_lt_of_pos k (show (0 : Int) < 16 by decide)
  have h3 : (k % 16).toNat < 16 := by omega
  have all : ∀ j : Fin 16, 0 < primesL.getD j.1 0 := by decide
  exact all ⟨_, h3⟩
theorem draw_nn {c k m : Int} (h : 0 < m) : 0 ≤ drawF c k m := Int.emod_nonneg _ (by omega)
theorem draw_lt {c k m : Int} (h : 0 < m) : drawF c k m < m := Int.emod_lt_of_pos _ h
def mostF (ns : List Int) (by_ : Int) : Int := ([2, 3, 10, 1000000] : List Int).getD (drawF (ns.getD 0 0) by_ 4).toNat 0
theorem most_in (ns : List Int) (b : Int) : mostF ns b = 2 ∨ mostF ns b = 3 ∨ mostF ns b = 10 ∨ mostF ns b = 1000000 := by
  unfold mostF
  have h1 := draw_nn (c := ns.getD 0 0) (k := b) (show (0 : Int) < 4 by decide)
  have h2 := draw_lt (c := ns.getD 0 0) (k := b) (show (0 : Int) < 4 by decide)
  generalize hd : (drawF (ns.getD 0 0) b 4).toNat = j
  have h3 : j < 4 := by omega
  have all : ∀ j : Fin 4, ([2, 3, 10, 1000000] : List Int).getD j.1 0 = 2 ∨ ([2, 3, 10, 1000000] : List Int).getD j.1 0 = 3 ∨ ([2, 3, 10, 1000000] : List Int).getD j.1 0 = 10 ∨ ([2, 3, 10, 1000000] : List Int).getD j.1 0 = 1000000 := by decide
  exact all ⟨j, h3⟩
def signsF (ns : List Int) (b : Int) : List Int := (List.range ns.length).map fun i => drawF (ns.getD i 0) ((i : Int) % 5 + b) (mostF ns b) - mostF ns b / 3
def greatF (c : Int) : Int := c / 2 % 10 ^ 60 * (1 - c % 2 * 2)
def circ0 (s : List Int) (b cut : Int) : List Int := if s.drop cut.toNat = [] then [b % 2] else s.drop cut.toNat
def rowF (ns : List Int) (b : Int) : Row :=
  if (ns.length : Int) % 3 = 1 then
    let s := (ns.drop 1).map greatF
    let cut := ns.getD 0 0 % (((ns.drop 1).length : Int) + 1)
    (s.take cut.toNat, if cut < ((ns.drop 1).length : Int) then s.drop cut.toNat else [b % 2])
  else
    let s := signsF ns b
    let cut := drawF (ns.getD 1 0) (b + 1) ((ns.length : Int) + 1)
    let kind := drawF (ns.getD 2 0) (b + 2) 5
    let l0 := s.take cut.toNat
    let c0 := circ0 s b cut
    let c1 := if kind = 1 then rep (c0.take (1 + c0.length / 4)) 3 else c0
    let l1 := if kind = 2 then l0 ++ c1.drop (c1.length / 2) else l0
    let c2 := if kind = 3 then c1 ++ c1 else c1
    let l2 := if kind = 4 then rep l1 (1 + drawF (ns.getD 2 0) (b + 3) 4).toNat else l1
    (l2, c2)
/-- what is known of such a row -/
def Big (x : Int) : Prop := -(10 ^ 60) < x ∧ x < 10 ^ 60
theorem great_big (c : Int) : Big (greatF c) := by
  unfold Big greatF
  have h1 := Int.emod_nonneg (c / 2) (show (10 : Int) ^ 60 ≠ 0 by decide)
  have h2 := Int.emod_lt_of_pos (c / 2) (show (0 : Int) < 10 ^ 60 by decide)
  have h3 : c % 2 = 0 ∨ c % 2 = 1 := by omega
  rcases h3 with h | h
  · rw [h, show (1 : Int) - 0 * 2 = 1 by decide, Int.mul_one]
    omega
  · rw [h, show (1 : Int) - 1 * 2 = -1 by decide, Int.mul_neg_one]
    omega
theorem signs_big (ns : List Int) (b : Int) : ∀ x ∈ signsF ns b, Big x := by
  intro x hx
  unfold signsF at hx
  obtain ⟨i, _, rfl⟩ := List.mem_map.mp hx
  unfold Big
  rcases most_in ns b with h | h | h | h
  all_goals
    rw [h]
    have h1 := draw_nn (c := ns.getD i 0) (k := (i : Int) % 5 + b) (m := mostF ns b) (by rw [h]; decide)
    have h2 := draw_lt (c := ns.getD i 0) (k := (i : Int) % 5 + b) (m := mostF ns b) (by rw [h]; decide)
    rw [h] at h1 h2
    omega
theorem rep_mem {s : List Int} {k : Nat} {x : Int} (h : x ∈ rep s k) : x ∈ s := by
  unfold rep at h
  obtain ⟨l, h1, h2⟩ := List.mem_flatten.mp h
  rw [(List.mem_replicate.mp h1).2] at h2
  exact h2
structure RowOk (r : Row) : Prop where
  ne : r.2 ≠ []
  l : r.1.length ≤ 400
  c : r.2.length ≤ 200
  bl : ∀ x ∈ r.1, Big x
  bc : ∀ x ∈ r.2, Big x
theorem mod2_big (b : Int) : Big (b % 2) := by
  unfold Big
  omega
theorem row_ok {ns : List Int} {b : Int} (hn : ns.length ≤ 63) : RowOk (rowF ns b) := by
  unfold rowF
  split
  · next h =>
    have hs : ∀ x ∈ (ns.drop 1).map greatF, Big x := fun x hx => by
      obtain ⟨c, _, rfl⟩ := List.mem_map.mp hx
      exact great_big c
    have hl : ((ns.drop 1).map greatF).length = ns.length - 1 := by rw [List.length_map, List.length_drop]
    have hl2 : (ns.drop 1).length = ns.length - 1 := by rw [List.length_drop]
    have c0 := Int.emod_nonneg (ns.getD 0 0) (show (((ns.drop 1).length : Int) + 1) ≠ 0 by omega)
    refine ⟨?_, ?_, ?_, ?_, ?_⟩
    · show (if _ then _ else _) ≠ []
      split
      · next h2 =>
        intro z
        have := congrArg List.length z
        rw [List.length_drop, hl] at this
        have h3 : ([] : List Int).length = 0 := rfl
        omega
      · exact fun z => by cases z
    · show (List.take _ _).length ≤ 400
      rw [List.length_take, hl]
      omega
    · show (if _ then _ else _ : List Int).length ≤ 200
      split
      · rw [List.length_drop, hl]
        omega
      · show 1 ≤ 200
        omega
    · intro x hx
      exact hs x (List.mem_of_mem_take hx)
    · intro x hx
      have hx : x ∈ (if ns.getD 0 0 % (((ns.drop 1).length : Int) + 1) < ((ns.drop 1).length : Int) then ((ns.drop 1).map greatF).drop (ns.getD 0 0 % (((ns.drop 1).length : Int) + 1)).toNat else [b % 2]) := hx
      split at hx
      · exact hs x (List.mem_of_mem_drop hx)
      · rw [List.mem_singleton.mp hx]
        exact mod2_big b
  · next h =>
    dsimp only
    have hs := signs_big ns b
    have hl : (signsF ns b).length = ns.length := by
      unfold signsF
      rw [List.length_map, List.length_range]
    generalize signsF ns b = s at hs hl
    generalize drawF (ns.getD 1 0) (b + 1) ((ns.length : Int) + 1) = cut
    generalize hk : drawF (ns.getD 2 0) (b + 2) 5 = kind
    have d1 := draw_nn (c := ns.getD 2 0) (k := b + 3) (show (0 : Int) < 4 by decide)
    have d2 := draw_lt (c := ns.getD 2 0) (k := b + 3) (show (0 : Int) < 4 by decide)
    generalize drawF (ns.getD 2 0) (b + 3) 4 = dr at d1 d2
    have c0n : circ0 s b cut ≠ [] := by
      unfold circ0
      split
      · exact fun z => by cases z
      · assumption
    have c0l : (circ0 s b cut).length ≤ 63 := by
      unfold circ0
      split
      · show 1 ≤ 63
        omega
      · rw [List.length_drop]
        omega
    have c0b : ∀ x ∈ circ0 s b cut, Big x := by
      intro x hx
      unfold circ0 at hx
      split at hx
      · rw [List.mem_singleton.mp hx]
        exact mod2_big b
      · exact hs x (List.mem_of_mem_drop hx)
    have l0l : (s.take cut.toNat).length ≤ 63 := by
      rw [List.length_take]
      omega
    have l0b : ∀ x ∈ s.take cut.toNat, Big x := fun x hx => hs x (List.mem_of_mem_take hx)
    generalize circ0 s b cut = c0 at c0n c0l c0b
    generalize s.take cut.toNat = l0 at l0l l0b
    have c0p : 0 < c0.length := List.length_pos_iff.mpr c0n
    by_cases k1 : kind = 1
    · subst k1
      simp only [if_pos, if_neg (show ¬ (1 : Int) = 2 by decide), if_neg (show ¬ (1 : Int) = 3 by decide), if_neg (show ¬ (1 : Int) = 4 by decide)]
      have hlr : (rep (c0.take (1 + c0.length / 4)) 3).length = min (1 + c0.length / 4) c0.length * 3 := by rw [rep_len, List.length_take]
      refine ⟨fun z => ?_, by show l0.length ≤ 400; omega, by show (rep _ 3).length ≤ 200; rw [hlr]; omega, l0b, fun x hx => c0b x (List.mem_of_mem_take (rep_mem hx))⟩
      have := congrArg List.length z
      rw [hlr] at this
      have h3 : ([] : List Int).length = 0 := rfl
      omega
    · rw [if_neg k1]
      by_cases k2 : kind = 2
      · subst k2
        simp only [if_pos, if_neg (show ¬ (2 : Int) = 3 by decide), if_neg (show ¬ (2 : Int) = 4 by decide)]
        refine ⟨c0n, by show (l0 ++ _).length ≤ 400; rw [List.length_append, List.length_drop]; omega, by show c0.length ≤ 200; omega, fun x hx => ?_, c0b⟩
        rcases List.mem_append.mp hx with h | h
        · exact l0b x h
        · exact c0b x (List.mem_of_mem_drop h)
      · rw [if_neg k2]
        by_cases k3 : kind = 3
        · subst k3
          simp only [if_pos, if_neg (show ¬ (3 : Int) = 4 by decide)]
          refine ⟨fun z => c0n (List.append_eq_nil_iff.mp z).1, by show l0.length ≤ 400; omega, by show (c0 ++ c0).length ≤ 200; rw [List.length_append]; omega, l0b, fun x hx => ?_⟩
          rcases List.mem_append.mp hx with h | h
          · exact c0b x h
          · exact c0b x h
        · rw [if_neg k3]
          by_cases k4 : kind = 4
          · subst k4
            simp only [if_pos]
            refine ⟨c0n, ?_, by show c0.length ≤ 200; omega, fun x hx => l0b x (rep_mem hx), c0b⟩
            show (rep l0 (1 + dr).toNat).length ≤ 400
            rw [rep_len]
            have : (1 + dr).toNat ≤ 4 := by omega
            exact Nat.le_trans (Nat.mul_le_mul l0l this) (by omega)
          · rw [if_neg k4]
            exact ⟨c0n, by show l0.length ≤ 400; omega, by show c0.length ≤ 200; omega, l0b, c0b⟩
end Lr

namespace Lr
/-! rows made of rows -/
theorem row_len (ns : List Int) (b : Int) : (rowF ns b).1.length ≤ 4 * ns.length + 1 ∧ (rowF ns b).2.length ≤ max 3 (2 * ns.length) := by
  unfold rowF
  split
  · next h =>
    have hl : ((ns.drop 1).map greatF).length = ns.length - 1 := by rw [List.length_map, List.length_drop]
    constructor
    · show (List.take _ _).length ≤ _
      rw [List.length_take, hl]
      omega
    · show (if _ then _ else _ : List Int).length ≤ _
      split
      · rw [List.length_drop, hl]
        omega
      · show 1 ≤ _
        omega
  · next h =>
    dsimp only
    have hl : (signsF ns b).length = ns.length := by
      unfold signsF
      rw [List.length_map, List.length_range]
    generalize signsF ns b = s at hl
    generalize drawF (ns.getD 1 0) (b + 1) ((ns.length : Int) + 1) = cut
    generalize hk : drawF (ns.getD 2 0) (b + 2) 5 = kind
    have d1 := draw_nn (c := ns.getD 2 0) (k := b + 3) (show (0 : Int) < 4 by decide)
    have d2 := draw_lt (c := ns.getD 2 0) (k := b + 3) (show (0 : Int) < 4 by decide)
    generalize drawF (ns.getD 2 0) (b + 3) 4 = dr at d1 d2
    have c0l : (circ0 s b cut).length = 1 ∧ (s.take cut.toNat).length ≤ ns.length ∨ (circ0 s b cut).length + (s.take cut.toNat).length = ns.length := by
      unfold circ0
      split
      · left
        constructor
        · rfl
        · rw [List.length_take]
          omega
      · right
        rw [List.length_drop, List.length_take]
        omega
    generalize circ0 s b cut = c0 at c0l
    generalize s.take cut.toNat = l0 at c0l
    by_cases k1 : kind = 1
    · subst k1
      simp only [if_pos, if_neg (show ¬ (1 : Int) = 2 by decide), if_neg (show ¬ (1 : Int) = 3 by decide), if_neg (show ¬ (1 : Int) = 4 by decide)]
      have hlr : (rep (c0.take (1 + c0.length / 4)) 3).length = min (1 + c0.length / 4) c0.length * 3 := by rw [rep_len, List.length_take]
      rw [hlr]
      omega
    · rw [if_neg k1]
      by_cases k2 : kind = 2
      · subst k2
        simp only [if_pos, if_neg (show ¬ (2 : Int) = 3 by decide), if_neg (show ¬ (2 : Int) = 4 by decide)]
        rw [List.length_append, List.length_drop]
        omega
      · rw [if_neg k2]
        by_cases k3 : kind = 3
        · subst k3
          simp only [if_pos, if_neg (show ¬ (3 : Int) = 4 by decide)]
          rw [List.length_append]
          omega
        · rw [if_neg k3]
          by_cases k4 : kind = 4
          · subst k4
            simp only [if_pos]
            have h4 : (1 + dr).toNat ≤ 4 := by omega
            have h5 : l0.length * (1 + dr).toNat ≤ l0.length * 4 := Nat.mul_le_mul_left _ h4
            rw [rep_len]
            omega
          · rw [if_neg k4]
            omega
/-- a row of what f gives, periodic from m on -/
def madeR (f : Nat → Int) (m a : Nat) : Row := (((List.range (m + a)).map f).take m, ((List.range (m + a)).map f).drop m)
theorem madeR_1 (f : Nat → Int) (m a : Nat) : (madeR f m a).1.length = m := by
  show (((List.range (m + a)).map f).take m).length = m
  rw [List.length_take, List.length_map, List.length_range]
  omega
theorem madeR_2 (f : Nat → Int) (m a : Nat) : (madeR f m a).2.length = a := by
  show (((List.range (m + a)).map f).drop m).length = a
  rw [List.length_drop, List.length_map, List.length_range]
  omega
theorem getD_mapR (f : Nat → Int) {n i : Nat} (h : i < n) : ((List.range n).map f).getD i 0 = f i := by
  rw [getD_lt (by rw [List.length_map, List.length_range]; exact h), List.getElem_map, List.getElem_range]
theorem made_ne (f : Nat → Int) (m : Nat) {a : Nat} (h : 0 < a) : (madeR f m a).2 ≠ [] := fun z => by
  have := madeR_2 f m a
  rw [z] at this
  simp at this
  omega
theorem made_sgn {f : Nat → Int} {m a : Nat} (ha : 0 < a) (hp : Per f m a) (k : Nat) : sgn (madeR f m a) k = f k := by
  by_cases h : k < m
  · rw [sgn_lo (by rw [madeR_1]; exact h)]
    show (((List.range (m + a)).map f).take m).getD k 0 = f k
    rw [getD_take h, getD_mapR f (by omega)]
  · obtain ⟨i, rfl⟩ : ∃ i, k = (madeR f m a).1.length + i := ⟨k - (madeR f m a).1.length, by rw [madeR_1]; omega⟩
    rw [sgn_hi, madeR_1]
    unfold cyc
    rw [madeR_2]
    show (((List.range (m + a)).map f).drop m).getD (i % a) 0 = _
    have hm : i % a < a := Nat.mod_lt _ ha
    rw [getD_drop, getD_mapR f (by omega)]
    have g := hp.mul (i / a) (m + i % a) (by omega)
    rw [← g, Nat.add_assoc, Nat.mod_add_div]
/-! every -/
def everyM (r : Row) (s t : Nat) : Nat := (max 0 (-(((s : Int) - r.1.length) / (t : Int)))).toNat
def everyA (r : Row) (t : Nat) : Nat := r.2.length / Nat.gcd r.2.length t
theorem everyM_ge {r : Row} {s t : Nat} (ht : 0 < t) : r.1.length ≤ s + t * everyM r s t := by
  unfold everyM
  have h1 := Int.emod_nonneg ((s : Int) - r.1.length) (show (t : Int) ≠ 0 by omega)
  have h2 := Int.mul_ediv_add_emod ((s : Int) - r.1.length) (t : Int)
  generalize hq : ((s : Int) - r.1.length) / (t : Int) = q at h2
  have h3 : (t : Int) * (-q) ≤ (t : Int) * (((max 0 (-q)).toNat : Nat) : Int) := Int.mul_le_mul_of_nonneg_left (by omega) (by omega)
  rw [Int.mul_neg] at h3
  have h4 : ((t * (max 0 (-q)).toNat : Nat) : Int) = (t : Int) * (((max 0 (-q)).toNat : Nat) : Int) := Int.natCast_mul _ _
  omega
theorem everyM_le {r : Row} {s t : Nat} (ht : 0 < t) : everyM r s t ≤ r.1.length := by
  unfold everyM
  have h1 := Int.emod_lt_of_pos ((s : Int) - r.1.length) (show (0 : Int) < (t : Int) by omega)
  have h2 := Int.mul_ediv_add_emod ((s : Int) - r.1.length) (t : Int)
  generalize hq : ((s : Int) - r.1.length) / (t : Int) = q at h2
  refine Nat.not_lt.mp fun h => ?_
  have h3 : (r.1.length : Int) + 1 ≤ -q := by omega
  have h4 : (t : Int) * ((r.1.length : Int) + 1) ≤ (t : Int) * (-q) := Int.mul_le_mul_of_nonneg_left h3 (by omega)
  rw [Int.mul_neg, Int.mul_add, Int.mul_one] at h4
  have h5 : (1 : Int) * (r.1.length : Int) ≤ (t : Int) * (r.1.length : Int) := Int.mul_le_mul_of_nonneg_right (by omega) (by omega)
  omega
theorem everyA_pos {r : Row} (t : Nat) (hne : r.2 ≠ []) : 0 < everyA r t := by
  have hc : 0 < r.2.length := List.length_pos_iff.mpr hne
  exact Nat.div_pos (Nat.le_of_dvd hc (Nat.gcd_dvd_left ..)) (Nat.gcd_pos_of_pos_left _ hc)
theorem everyA_le (r : Row) (t : Nat) : everyA r t ≤ r.2.length := Nat.div_le_self _ _
theorem per_at (r : Row) {p n : Nat} (hp : r.1.length ≤ p) (hn : r.2.length ∣ n) : sgn r (p + n) = sgn r p := by
  obtain ⟨k, rfl⟩ := hn
  exact (sgn_per r).mul k p hp
theorem every_per {r : Row} {s t : Nat} (ht : 0 < t) : Per (fun k => sgn r (s + t * k)) (everyM r s t) (everyA r t) := fun k hk => by
  show sgn r (s + t * (k + everyA r t)) = sgn r (s + t * k)
  have h1 : r.2.length ∣ t * everyA r t := by
    unfold everyA
    obtain ⟨x, hx⟩ := Nat.gcd_dvd_left r.2.length t
    obtain ⟨y, hy⟩ := Nat.gcd_dvd_right r.2.length t
    by_cases hg : Nat.gcd r.2.length t = 0
    · rw [hg, Nat.zero_mul] at hy
      omega
    · have e : r.2.length / Nat.gcd r.2.length t = x := by
        conv => lhs; lhs; rw [hx]
        exact Nat.mul_div_cancel_left _ (by omega)
      rw [e]
      refine ⟨y, ?_⟩
      conv => lhs; rw [hy]
      conv => rhs; lhs; rw [hx]
      rw [Nat.mul_right_comm]
  rw [Nat.mul_add, ← Nat.add_assoc]
  have h2 := everyM_ge (r := r) (s := s) ht
  have h3 : t * everyM r s t ≤ t * k := Nat.mul_le_mul_left _ hk
  exact per_at r (by omega) h1
/-! lengths -/
def longF (a : Nat) (rs : List Row) : Nat := rs.foldl (fun a r => max a r.1.length) a
def aroF (a : Nat) (rs : List Row) : Nat := rs.foldl (fun a r => a / Nat.gcd a r.2.length * r.2.length) a
theorem longF_ge : ∀ (rs : List Row) (a : Nat), a ≤ longF a rs ∧ ∀ r ∈ rs, r.1.length ≤ longF a rs
  | [], a => ⟨Nat.le_refl _, fun r h => by cases h⟩
  | x :: rs, a => by
    obtain ⟨h1, h2⟩ := longF_ge rs (max a x.1.length)
    refine ⟨Nat.le_trans (Nat.le_max_left _ _) h1, fun r hr => ?_⟩
    rcases List.mem_cons.mp hr with e | e
    · rw [e]
      exact Nat.le_trans (Nat.le_max_right _ _) h1
    · exact h2 r e
theorem longF_le {B : Nat} : ∀ (rs : List Row) (a : Nat), a ≤ B → (∀ r ∈ rs, r.1.length ≤ B) → longF a rs ≤ B
  | [], a, h, _ => h
  | x :: rs, a, h, hr => longF_le rs _ (Nat.max_le.mpr ⟨h, hr x (List.mem_cons_self ..)⟩) fun r h => hr r (List.mem_cons_of_mem _ h)
theorem lcm_dvd {a n : Nat} (ha : 0 < a) : a ∣ a / Nat.gcd a n * n ∧ n ∣ a / Nat.gcd a n * n := by
  obtain ⟨y, hy⟩ := Nat.gcd_dvd_right a n
  have hg : 0 < Nat.gcd a n := Nat.gcd_pos_of_pos_left _ ha
  constructor
  · refine ⟨y, ?_⟩
    conv => lhs; rhs; rw [hy]
    rw [← Nat.mul_assoc, Nat.div_mul_cancel (Nat.gcd_dvd_left ..)]
  · exact Nat.dvd_mul_left ..
theorem aroF_dvd : ∀ (rs : List Row) (a : Nat), 0 < a → (∀ r ∈ rs, r.2 ≠ []) → 0 < aroF a rs ∧ a ∣ aroF a rs ∧ ∀ r ∈ rs, r.2.length ∣ aroF a rs
  | [], a, h, _ => ⟨h, Nat.dvd_refl _, fun r h => by cases h⟩
  | x :: rs, a, h, hr => by
    have hx : 0 < x.2.length := List.length_pos_iff.mpr (hr x (List.mem_cons_self ..))
    have hp : 0 < a / Nat.gcd a x.2.length * x.2.length := Nat.mul_pos (Nat.div_pos (Nat.le_of_dvd h (Nat.gcd_dvd_left ..)) (Nat.gcd_pos_of_pos_left _ h)) hx
    obtain ⟨h0, h1, h2⟩ := aroF_dvd rs _ hp fun r h => hr r (List.mem_cons_of_mem _ h)
    have hd := lcm_dvd (n := x.2.length) h
    refine ⟨h0, Nat.dvd_trans hd.1 h1, fun r hr => ?_⟩
    rcases List.mem_cons.mp hr with e | e
    · rw [e]
      exact Nat.dvd_trans hd.2 h1
    · exact h2 r e
theorem aroF_le {B : Nat} : ∀ (rs : List Row) (a : Nat), (∀ r ∈ rs, r.2.length ≤ B) → aroF a rs ≤ a * B ^ rs.length
  | [], a, _ => by
    show a ≤ a * B ^ 0
    rw [Nat.pow_zero, Nat.mul_one]
    exact Nat.le_refl _
  | x :: rs, a, hr => by
    refine Nat.le_trans (aroF_le rs _ fun r h => hr r (List.mem_cons_of_mem _ h)) ?_
    rw [List.length_cons, Nat.pow_succ, Nat.mul_comm (B ^ _) B, ← Nat.mul_assoc]
    refine Nat.mul_le_mul_right _ ?_
    exact Nat.mul_le_mul (Nat.div_le_self _ _) (hr x (List.mem_cons_self ..))
/-! woven -/
def wovF (rs : List Row) (k : Nat) : Int := sgn (rs.getD (k % rs.length) ([], [])) (k / rs.length)
theorem wov_per {rs : List Row} (h0 : 0 < rs.length) (hr : ∀ r ∈ rs, r.2 ≠ []) : Per (wovF rs) (longF 0 rs * rs.length) (aroF 1 rs * rs.length) := fun k hk => by
  unfold wovF
  have e1 : (k + aroF 1 rs * rs.length) % rs.length = k % rs.length := Nat.add_mul_mod_self_right ..
  have e2 : (k + aroF 1 rs * rs.length) / rs.length = k / rs.length + aroF 1 rs := Nat.add_mul_div_right _ _ h0
  rw [e1, e2]
  have hlt : k % rs.length < rs.length := Nat.mod_lt _ h0
  have hm : rs.getD (k % rs.length) ([], []) ∈ rs := by
    rw [List.getD_eq_getElem?_getD, List.getElem?_eq_getElem hlt]
    exact List.getElem_mem hlt
  have h3 : longF 0 rs ≤ k / rs.length := (Nat.le_div_iff_mul_le h0).mpr hk
  exact per_at _ (Nat.le_trans ((longF_ge rs 0).2 _ hm) h3) ((aroF_dvd rs 1 (by decide) hr).2.2 _ hm)
theorem wov_next (rs : List Row) (h0 : 0 < rs.length) (p : Nat) : (List.range ((p + 1) * rs.length)).map (wovF rs) = (List.range (p * rs.length)).map (wovF rs) ++ rs.map (fun r => sgn r p) := by
  rw [Nat.succ_mul, List.range_add, List.map_append, List.map_map]
  congr 1
  refine List.ext_getElem (by rw [List.length_map, List.length_range, List.length_map]) fun i h1 h2 => ?_
  rw [List.length_map, List.length_range] at h1
  rw [List.getElem_map, List.getElem_map, List.getElem_range]
  show wovF rs (p * rs.length + i) = _
  unfold wovF
  have e1 : (p * rs.length + i) % rs.length = i := by
    rw [Nat.add_comm, Nat.add_mul_mod_self_right, Nat.mod_eq_of_lt h1]
  have e2 : (p * rs.length + i) / rs.length = p := by
    rw [Nat.add_comm, Nat.add_mul_div_right _ _ h0, Nat.div_eq_of_lt h1, Nat.zero_add]
  rw [e1, e2, List.getD_eq_getElem?_getD, List.getElem?_eq_getElem h1]
  rfl
/-! added -/
def addF (a b : Row) (k : Nat) : Int := sgn a k + sgn b k
theorem add_per {a b : Row} (ha : a.2 ≠ []) (hb : b.2 ≠ []) : Per (addF a b) (longF 0 [a, b]) (aroF 1 [a, b]) := fun k hk => by
  have h1 := (longF_ge [a, b] 0).2
  have h2 := (aroF_dvd [a, b] 1 (by decide) (by
    intro r hr
    simp only [List.mem_cons, List.not_mem_nil, or_false] at hr
    rcases hr with e | e
    · rw [e]; exact ha
    · rw [e]; exact hb)).2.2
  have m1 : a ∈ [a, b] := List.mem_cons_self ..
  have m2 : b ∈ [a, b] := List.mem_cons_of_mem _ (List.mem_cons_self ..)
  unfold addF
  rw [per_at a (Nat.le_trans (h1 a m1) hk) (h2 a m1), per_at b (Nat.le_trans (h1 b m2) hk) (h2 b m2)]
/-! behind, ahead -/
def behindF (r : Row) (p : Nat) : Row := if p < r.1.length then (r.1.drop p, r.2) else ([], rot r.2 ((p - r.1.length) % r.2.length))
theorem behind_ne {r : Row} (p : Nat) (hne : r.2 ≠ []) : (behindF r p).2 ≠ [] := by
  unfold behindF
  split
  · exact hne
  · intro z
    have e := rot_len r.2 ((p - r.1.length) % r.2.length)
    have z2 : rot r.2 ((p - r.1.length) % r.2.length) = [] := z
    rw [z2] at e
    exact hne (List.length_eq_zero_iff.mp e.symm)
theorem behind_len (r : Row) (p : Nat) : (behindF r p).1.length ≤ r.1.length ∧ (behindF r p).2.length = r.2.length := by
  unfold behindF
  split
  · exact ⟨by rw [List.length_drop]; omega, rfl⟩
  · exact ⟨Nat.zero_le _, rot_len _ _⟩
theorem behind_sgn {r : Row} (p : Nat) (hne : r.2 ≠ []) (k : Nat) : sgn (behindF r p) k = sgn r (p + k) := by
  have hc : 0 < r.2.length := List.length_pos_iff.mpr hne
  unfold behindF
  by_cases h : p < r.1.length
  · rw [if_pos h]
    by_cases h2 : p + k < r.1.length
    · rw [sgn_lo h2, sgn_lo (show k < (r.1.drop p).length by rw [List.length_drop]; omega)]
      exact getD_drop
    · obtain ⟨i, hi⟩ : ∃ i, p + k = r.1.length + i := ⟨p + k - r.1.length, by omega⟩
      have hd : (r.1.drop p).length = r.1.length - p := List.length_drop
      have e : k = (r.1.drop p).length + i := by omega
      rw [hi, sgn_hi, e]
      exact sgn_hi (r.1.drop p, r.2) i
  · rw [if_neg h]
    obtain ⟨i, rfl⟩ : ∃ i, p = r.1.length + i := ⟨p - r.1.length, by omega⟩
    have e1 := sgn_hi (([] : List Int), rot r.2 ((r.1.length + i - r.1.length) % r.2.length)) k
    have e2 : ([] : List Int).length + k = k := Nat.zero_add k
    rw [e2] at e1
    rw [e1, Nat.add_assoc, sgn_hi, Nat.add_sub_cancel_left, rot_cyc (Nat.le_of_lt (Nat.mod_lt _ hc))]
    unfold cyc
    rw [Nat.add_mod_mod, Nat.add_comm]
theorem ahead_sgn (s : List Int) (r : Row) (k : Nat) : sgn (s ++ r.1, r.2) k = if k < s.length then s.getD k 0 else sgn r (k - s.length) := by
  by_cases h : k < s.length
  · rw [if_pos h, sgn_lo (show k < (s ++ r.1).length by rw [List.length_append]; omega)]
    exact getD_app_l h
  · rw [if_neg h]
    obtain ⟨j, rfl⟩ : ∃ j, k = s.length + j := ⟨k - s.length, by omega⟩
    rw [Nat.add_sub_cancel_left]
    by_cases h2 : j < r.1.length
    · rw [sgn_lo h2, sgn_lo (show s.length + j < (s ++ r.1).length by rw [List.length_append]; omega)]
      show (s ++ r.1).getD _ 0 = _
      rw [getD_app_r (by omega), Nat.add_sub_cancel_left]
    · obtain ⟨i, rfl⟩ : ∃ i, j = r.1.length + i := ⟨j - r.1.length, by omega⟩
      rw [sgn_hi]
      have e := sgn_hi (s ++ r.1, r.2) i
      have e2 : (s ++ r.1).length + i = s.length + (r.1.length + i) := by rw [List.length_append, Nat.add_assoc]
      rw [e2] at e
      exact e
end Lr

namespace Lr
/-! rows of figures and fractions: the plain law -/
/-- one number's rests and the figures that it gives -/
def Sts (b : Int) (d : Nat → Int) (B : Int) (A : Nat → Int) : Prop := ∀ p, A (p + 1) = A p * b - d p * B
theorem pow_add_fix {b x : Int} {X : Nat → Int} (h : ∀ p, X (p + 1) = b * X p) (p : Nat) : ∀ k : Nat, X (p + k) = b ^ k * X p
  | 0 => by simp
  | k + 1 => by
    rw [← Nat.add_assoc, h, pow_add_fix (x := x) h p k, Int.pow_succ, ← Int.mul_assoc, Int.mul_comm b]
theorem st_same {b B B' : Int} {d A A' : Nat → Int} {a a' n n' : Nat} (hb : 2 ≤ b) (h : Sts b d B A) (h' : Sts b d B' A') (g : Per A a n) (g' : Per A' a' n') (hn : 0 < n) (hn' : 0 < n') : A 0 * B' = A' 0 * B := by
  have hX : ∀ p, (A (p + 1) * B' - A' (p + 1) * B) = b * (A p * B' - A' p * B) := fun p => by
    rw [h p, h' p, Int.sub_mul, Int.sub_mul, Int.mul_sub]
    have e1 : d p * B * B' = d p * B' * B := by rw [Int.mul_assoc, Int.mul_comm B, ← Int.mul_assoc]
    have e2 : A p * b * B' = b * (A p * B') := by rw [Int.mul_comm (A p) b, Int.mul_assoc]
    have e3 : A' p * b * B = b * (A' p * B) := by rw [Int.mul_comm (A' p) b, Int.mul_assoc]
    omega
  have hk := pow_add_fix (x := 0) (X := fun p => A p * B' - A' p * B) hX
  have hper : A (max a a' + n * n') * B' - A' (max a a' + n * n') * B = A (max a a') * B' - A' (max a a') * B := by
    have e1 := g.mul n' (max a a') (Nat.le_max_left ..)
    have e2 := g'.mul n (max a a') (Nat.le_max_right ..)
    rw [e1]
    rw [Nat.mul_comm n' n] at e2
    rw [e2]
  have h1 := hk (max a a') (n * n')
  have h1 : A (max a a' + n * n') * B' - A' (max a a' + n * n') * B = b ^ (n * n') * (A (max a a') * B' - A' (max a a') * B) := h1
  rw [hper] at h1
  have hz : A (max a a') * B' - A' (max a a') * B = 0 := by
    generalize A (max a a') * B' - A' (max a a') * B = x at h1
    have hp : 1 < b ^ (n * n') := by
      have : 0 < n * n' := Nat.mul_pos hn hn'
      obtain ⟨m, hm⟩ : ∃ m, n * n' = m + 1 := ⟨n * n' - 1, by omega⟩
      rw [hm, Int.pow_succ]
      have h0 : 0 < b ^ m := Int.pow_pos (by omega)
      have : 1 * b ≤ b ^ m * b := Int.mul_le_mul_of_nonneg_right (by omega) (by omega)
      omega
    have h2 : (b ^ (n * n') - 1) * x = 0 := by rw [Int.sub_mul, ← h1]; omega
    rcases Int.mul_eq_zero.mp h2 with e | e
    · omega
    · exact e
  have h0 := hk 0 (max a a')
  have h0 : A (0 + max a a') * B' - A' (0 + max a a') * B = b ^ (max a a') * (A 0 * B' - A' 0 * B) := h0
  rw [Nat.zero_add, hz] at h0
  rcases Int.mul_eq_zero.mp h0.symm with e | e
  · have : 0 < b ^ (max a a') := Int.pow_pos (by omega)
    omega
  · omega
/-- lowest terms are one -/
theorem low_one {a b a' b' : Nat} (hb : 0 < b) (hb' : 0 < b') (h : a * b' = a' * b) : a / Nat.gcd a b = a' / Nat.gcd a' b' ∧ b / Nat.gcd a b = b' / Nat.gcd a' b' := by
  have e1 : Nat.gcd a b * b' = Nat.gcd a' b' * b := by
    rw [← Nat.gcd_mul_right, ← Nat.gcd_mul_right, h, Nat.mul_comm b b']
  have g0 : 0 < Nat.gcd a b := Nat.gcd_pos_of_pos_right _ hb
  have g0' : 0 < Nat.gcd a' b' := Nat.gcd_pos_of_pos_right _ hb'
  obtain ⟨x, hx⟩ := Nat.gcd_dvd_left a b
  obtain ⟨y, hy⟩ := Nat.gcd_dvd_right a b
  obtain ⟨x', hx'⟩ := Nat.gcd_dvd_left a' b'
  obtain ⟨y', hy'⟩ := Nat.gcd_dvd_right a' b'
  generalize Nat.gcd a b = g at *
  generalize Nat.gcd a' b' = g' at *
  subst hx
  subst hy
  subst hx'
  subst hy'
  rw [Nat.mul_div_cancel_left _ g0, Nat.mul_div_cancel_left _ g0, Nat.mul_div_cancel_left _ g0', Nat.mul_div_cancel_left _ g0']
  have p : 0 < g * g' := Nat.mul_pos g0 g0'
  have ey : y = y' := by
    have : g * g' * y' = g * g' * y := by
      rw [Nat.mul_assoc, e1, ← Nat.mul_assoc, Nat.mul_comm g' g]
    exact (Nat.eq_of_mul_eq_mul_left p this).symm
  subst ey
  have yp : 0 < y := by
    rcases Nat.eq_zero_or_pos y with e | e
    · subst e
      simp at hb
    · exact e
  refine ⟨?_, rfl⟩
  have : (g * g' * y) * x = (g * g' * y) * x' := by
    have e2 : g * x * (g' * y) = g * g' * y * x := by
      simp only [Nat.mul_comm, Nat.mul_left_comm]
    have e3 : g' * x' * (g * y) = g * g' * y * x' := by
      simp only [Nat.mul_comm, Nat.mul_left_comm]
    rw [← e2, ← e3]
    exact h
  exact Nat.eq_of_mul_eq_mul_left (Nat.mul_pos p yp) this
/-! ### the fraction of a row -/
def numF (b : Int) : Int → List Int → Int
  | a, [] => a
  | a, f :: fs => numF b (a * b + f) fs
theorem numF_add (b : Int) : ∀ (fs : List Int) (a : Int), numF b a fs = a * b ^ fs.length + numF b 0 fs
  | [], a => by simp [numF]
  | f :: fs, a => by
    show numF b (a * b + f) fs = a * b ^ (fs.length + 1) + numF b (0 * b + f) fs
    rw [numF_add b fs (a * b + f), numF_add b fs (0 * b + f), Int.pow_succ, Int.add_mul, Int.zero_mul, Int.zero_add, Int.mul_assoc, Int.mul_comm b, Int.add_assoc]
theorem numF_cons (b f : Int) (fs : List Int) : numF b 0 (f :: fs) = f * b ^ fs.length + numF b 0 fs := by
  show numF b (0 * b + f) fs = _
  rw [Int.zero_mul, Int.zero_add, numF_add]
def Figs (b : Int) (fs : List Int) : Prop := ∀ f ∈ fs, 0 ≤ f ∧ f < b
theorem num_bd {b : Int} (hb : 2 ≤ b) : ∀ {fs : List Int}, Figs b fs → 0 ≤ numF b 0 fs ∧ numF b 0 fs + 1 ≤ b ^ fs.length
  | [], _ => by simp [numF]
  | f :: fs, h => by
    obtain ⟨h1, h2⟩ := num_bd hb (fs := fs) fun x hx => h x (List.mem_cons_of_mem _ hx)
    obtain ⟨f0, f1⟩ := h f (List.mem_cons_self ..)
    have hp : 0 < b ^ fs.length := Int.pow_pos (by omega)
    rw [numF_cons, List.length_cons, Int.pow_succ]
    have e1 : 0 ≤ f * b ^ fs.length := Int.mul_nonneg f0 (Int.le_of_lt hp)
    have e2 : (f + 1) * b ^ fs.length ≤ b * b ^ fs.length := Int.mul_le_mul_of_nonneg_right (by omega) (Int.le_of_lt hp)
    rw [Int.add_mul, Int.one_mul, Int.mul_comm b] at e2
    omega
def aboveF (b : Int) (r : Row) : Int := numF b 0 r.1 * (b ^ r.2.length - 1) + numF b 0 r.2
def belowF (b : Int) (r : Row) : Int := b ^ r.1.length * (b ^ r.2.length - 1)
def byF (b : Int) (r : Row) : Nat := Nat.gcd (aboveF b r).toNat (belowF b r).toNat
def frA (b : Int) (r : Row) : Int := aboveF b r / byF b r
def frB (b : Int) (r : Row) : Int := belowF b r / byF b r
structure FigR (b : Int) (r : Row) : Prop where
  b2 : 2 ≤ b
  ne : r.2 ≠ []
  l : Figs b r.1
  c : Figs b r.2
theorem ar_pos {b : Int} {r : Row} (h : FigR b r) : 0 < b ^ r.2.length - 1 := by
  have hc : 0 < r.2.length := List.length_pos_iff.mpr h.ne
  have := h.b2
  obtain ⟨m, hm⟩ : ∃ m, r.2.length = m + 1 := ⟨r.2.length - 1, by omega⟩
  rw [hm, Int.pow_succ]
  have h0 : 0 < b ^ m := Int.pow_pos (by omega)
  have : 1 * b ≤ b ^ m * b := Int.mul_le_mul_of_nonneg_right (by omega) (by omega)
  omega
theorem below_pos {b : Int} {r : Row} (h : FigR b r) : 0 < belowF b r :=
  Int.mul_pos (Int.pow_pos (by have := h.b2; omega)) (ar_pos h)
theorem above_bd {b : Int} {r : Row} (h : FigR b r) : 0 ≤ aboveF b r ∧ aboveF b r ≤ belowF b r := by
  have ar := ar_pos h
  obtain ⟨l1, l2⟩ := num_bd h.b2 h.l
  obtain ⟨c1, c2⟩ := num_bd h.b2 h.c
  unfold aboveF belowF
  have e1 : 0 ≤ numF b 0 r.1 * (b ^ r.2.length - 1) := Int.mul_nonneg l1 (Int.le_of_lt ar)
  have e2 : (numF b 0 r.1 + 1) * (b ^ r.2.length - 1) ≤ b ^ r.1.length * (b ^ r.2.length - 1) := Int.mul_le_mul_of_nonneg_right l2 (Int.le_of_lt ar)
  rw [Int.add_mul, Int.one_mul] at e2
  omega
theorem by_pos {b : Int} {r : Row} (h : FigR b r) : 0 < byF b r := Nat.gcd_pos_of_pos_right _ (by have := below_pos h; omega)
theorem by_dvd {b : Int} {r : Row} (h : FigR b r) : frA b r * byF b r = aboveF b r ∧ frB b r * byF b r = belowF b r := by
  have g := by_pos h
  obtain ⟨a0, a1⟩ := above_bd h
  have b0 := below_pos h
  have d1 : (byF b r : Int) ∣ aboveF b r := by
    have := Int.natCast_dvd_natCast.mpr (Nat.gcd_dvd_left (aboveF b r).toNat (belowF b r).toNat)
    rw [Int.toNat_of_nonneg a0] at this
    exact this
  have d2 : (byF b r : Int) ∣ belowF b r := by
    have := Int.natCast_dvd_natCast.mpr (Nat.gcd_dvd_right (aboveF b r).toNat (belowF b r).toNat)
    rw [Int.toNat_of_nonneg (Int.le_of_lt b0)] at this
    exact this
  exact ⟨Int.ediv_mul_cancel d1, Int.ediv_mul_cancel d2⟩
theorem frB_pos {b : Int} {r : Row} (h : FigR b r) : 1 ≤ frB b r := by
  have g := by_pos h
  have b0 := below_pos h
  rw [← (by_dvd h).2] at b0
  have : 0 < frB b r := Int.pos_of_mul_pos_left b0 (by omega)
  omega
theorem frA_bd {b : Int} {r : Row} (h : FigR b r) : 0 ≤ frA b r ∧ frA b r ≤ frB b r := by
  obtain ⟨a0, a1⟩ := above_bd h
  exact ⟨Int.ediv_nonneg a0 (by omega), Int.ediv_le_ediv (by have := by_pos h; omega) a1⟩
/-- the states -/
theorem fr_cross {b : Int} {r : Row} (h : FigR b r) : frA b r * belowF b r = frB b r * aboveF b r := by
  obtain ⟨e1, e2⟩ := by_dvd h
  rw [← e1, ← e2, ← Int.mul_assoc, ← Int.mul_assoc, Int.mul_comm (frA b r) (frB b r)]
/-- what the fraction lacks behind so many figures -/
def lackF (b B : Int) : Int → List Int → Int
  | a, [] => a
  | a, f :: fs => lackF b B (a * b - f * B) fs
theorem lackF_app (b B : Int) : ∀ (l m : List Int) (a : Int), lackF b B a (l ++ m) = lackF b B (lackF b B a l) m
  | [], _, _ => rfl
  | f :: l, m, a => lackF_app b B l m _
/-- all of its rests lie within -/
def lackOk (b B : Int) : Int → List Int → Bool
  | _, [] => true
  | a, f :: fs => (decide (0 ≤ a * b - f * B) && decide (a * b - f * B ≤ B)) && lackOk b B (a * b - f * B) fs
theorem lead_lack {b B N : Int} (hb : 2 ≤ b) (hB : 0 < B) (hN : 0 < N) {part : Int} (hp : 0 ≤ part) (hp2 : part ≤ N) : ∀ {fs : List Int} {a : Int}, Figs b fs → a * (b ^ fs.length * N) = B * (numF b 0 fs * N + part) →
    lackOk b B a fs = true ∧ lackF b B a fs * N = B * part
  | [], a, _, h => by
    refine ⟨rfl, ?_⟩
    show a * N = B * part
    simpa [numF] using h
  | f :: fs, a, hf, h => by
    have hfs : Figs b fs := fun x hx => hf x (List.mem_cons_of_mem _ hx)
    have hpw : 0 < b ^ fs.length := Int.pow_pos (by omega)
    have key : (a * b - f * B) * (b ^ fs.length * N) = B * (numF b 0 fs * N + part) := by
      rw [numF_cons, List.length_cons, Int.pow_succ] at h
      rw [Int.sub_mul]
      have e1 : a * b * (b ^ fs.length * N) = a * (b ^ fs.length * b * N) := by
        rw [Int.mul_assoc, ← Int.mul_assoc b, Int.mul_comm b (b ^ fs.length)]
      have e2 : B * ((f * b ^ fs.length + numF b 0 fs) * N + part) = f * B * (b ^ fs.length * N) + B * (numF b 0 fs * N + part) := by
        rw [Int.add_mul, Int.add_assoc, Int.mul_add B (f * b ^ fs.length * N), Int.mul_assoc f (b ^ fs.length), ← Int.mul_assoc B f, Int.mul_comm B f]
      rw [e1, h, e2]
      omega
    obtain ⟨n1, n2⟩ := num_bd hb hfs
    have hX : 0 < b ^ fs.length * N := Int.mul_pos hpw hN
    have y0 : 0 ≤ numF b 0 fs * N + part := by
      have := Int.mul_nonneg n1 (Int.le_of_lt hN)
      omega
    have y1 : numF b 0 fs * N + part ≤ b ^ fs.length * N := by
      have := Int.mul_le_mul_of_nonneg_right n2 (Int.le_of_lt hN)
      rw [Int.add_mul, Int.one_mul] at this
      omega
    have z0 : 0 ≤ a * b - f * B := by
      refine Int.nonneg_of_mul_nonneg_left (b := b ^ fs.length * N) ?_ hX
      rw [key]
      exact Int.mul_nonneg (Int.le_of_lt hB) y0
    have z1 : a * b - f * B ≤ B := by
      refine Int.le_of_mul_le_mul_right (a := b ^ fs.length * N) ?_ hX
      rw [key]
      exact Int.mul_le_mul_of_nonneg_left y1 (Int.le_of_lt hB)
    obtain ⟨i1, i2⟩ := lead_lack hb hB hN hp hp2 (a := a * b - f * B) hfs key
    refine ⟨?_, i2⟩
    show ((decide (0 ≤ a * b - f * B) && decide (a * b - f * B ≤ B)) && lackOk b B (a * b - f * B) fs) = true
    rw [decide_eq_true z0, decide_eq_true z1, i1]
    rfl
theorem round_lack {b B k : Int} (hb : 2 ≤ b) (hB : 0 < B) (hk : 0 ≤ k) (hk2 : k ≤ B) : ∀ {fs : List Int} {a : Int}, Figs b fs → a * b ^ fs.length = k + B * numF b 0 fs → lackOk b B a fs = true ∧ lackF b B a fs = k
  | [], a, _, h => by
    refine ⟨rfl, ?_⟩
    show a = k
    simpa [numF] using h
  | f :: fs, a, hf, h => by
    have hfs : Figs b fs := fun x hx => hf x (List.mem_cons_of_mem _ hx)
    have hpw : 0 < b ^ fs.length := Int.pow_pos (by omega)
    have key : (a * b - f * B) * b ^ fs.length = k + B * numF b 0 fs := by
      rw [numF_cons, List.length_cons, Int.pow_succ] at h
      rw [Int.sub_mul]
      have e1 : a * b * b ^ fs.length = a * (b ^ fs.length * b) := by
        rw [Int.mul_assoc, Int.mul_comm b (b ^ fs.length)]
      have e2 : B * (f * b ^ fs.length + numF b 0 fs) = f * B * b ^ fs.length + B * numF b 0 fs := by
        rw [Int.mul_add, ← Int.mul_assoc, Int.mul_comm B f]
      rw [e1, h, e2]
      omega
    obtain ⟨n1, n2⟩ := num_bd hb hfs
    have y0 : 0 ≤ B * numF b 0 fs := Int.mul_nonneg (Int.le_of_lt hB) n1
    have y1 : B * numF b 0 fs + B ≤ B * b ^ fs.length := by
      have := Int.mul_le_mul_of_nonneg_left n2 (Int.le_of_lt hB)
      rw [Int.mul_add, Int.mul_one] at this
      exact this
    have z0 : 0 ≤ a * b - f * B := by
      refine Int.nonneg_of_mul_nonneg_left (b := b ^ fs.length) ?_ hpw
      rw [key]
      omega
    have z1 : a * b - f * B ≤ B := by
      refine Int.le_of_mul_le_mul_right (a := b ^ fs.length) ?_ hpw
      rw [key]
      omega
    obtain ⟨i1, i2⟩ := round_lack hb hB hk hk2 (a := a * b - f * B) hfs key
    refine ⟨?_, i2⟩
    show ((decide (0 ≤ a * b - f * B) && decide (a * b - f * B ≤ B)) && lackOk b B (a * b - f * B) fs) = true
    rw [decide_eq_true z0, decide_eq_true z1, i1]
    rfl
theorem lackOk_bd {b B : Int} : ∀ {fs : List Int} {a : Int}, 0 ≤ a → a ≤ B → lackOk b B a fs = true → 0 ≤ lackF b B a fs ∧ lackF b B a fs ≤ B
  | [], a, h1, h2, _ => ⟨h1, h2⟩
  | f :: fs, a, h1, h2, h => by
    have h : ((decide (0 ≤ a * b - f * B) && decide (a * b - f * B ≤ B)) && lackOk b B (a * b - f * B) fs) = true := h
    rw [Bool.and_eq_true, Bool.and_eq_true, decide_eq_true_iff, decide_eq_true_iff] at h
    exact lackOk_bd (fs := fs) (a := a * b - f * B) h.1.1 h.1.2 h.2
/-- what the law looks at -/
theorem frac_lack {b : Int} {r : Row} (h : FigR b r) : lackOk b (frB b r) (frA b r) r.1 = true ∧ lackOk b (frB b r) (lackF b (frB b r) (frA b r) r.1) r.2 = true ∧
    lackF b (frB b r) (lackF b (frB b r) (frA b r) r.1) r.2 = lackF b (frB b r) (frA b r) r.1 := by
  have hB : 0 < frB b r := by have := frB_pos h; omega
  have ar := ar_pos h
  obtain ⟨c1, c2⟩ := num_bd h.b2 h.c
  obtain ⟨i1, i2⟩ := lead_lack h.b2 hB ar c1 (by omega) h.l (fr_cross h)
  obtain ⟨z0, z1⟩ := lackOk_bd (frA_bd h).1 (frA_bd h).2 i1
  generalize lackF b (frB b r) (frA b r) r.1 = t at i2 z0 z1
  have e : t * b ^ r.2.length = t + frB b r * numF b 0 r.2 := by
    rw [← i2, Int.mul_sub, Int.mul_one]
    omega
  obtain ⟨j1, j2⟩ := round_lack h.b2 hB z0 z1 h.c e
  exact ⟨i1, j1, j2⟩
/-- as a run of states -/
def runF (b B : Int) (d : Nat → Int) (a : Int) : Nat → Int
  | 0 => a
  | p + 1 => runF b B d a p * b - d p * B
theorem run_st (b B : Int) (d : Nat → Int) (a : Int) : Sts b d B (runF b B d a) := fun _ => rfl
theorem run_lack (b B : Int) (d : Nat → Int) (a : Int) : ∀ (fs : List Int) (p : Nat), (∀ i, i < fs.length → fs.getD i 0 = d (p + i)) → runF b B d a (p + fs.length) = lackF b B (runF b B d a p) fs
  | [], p, _ => rfl
  | f :: fs, p, h => by
    have h0 : f = d p := h 0 (by show 0 < fs.length + 1; omega)
    have hs := run_lack b B d a fs (p + 1) fun i hi => by
      have := h (i + 1) (by show i + 1 < fs.length + 1; omega)
      rw [show p + 1 + i = p + (i + 1) by omega]
      exact this
    show runF b B d a (p + (fs.length + 1)) = lackF b B (runF b B d a p * b - f * B) fs
    rw [show p + (fs.length + 1) = p + 1 + fs.length by omega, hs, h0]
    rfl
theorem run_per {b : Int} {r : Row} (h : FigR b r) : Per (runF b (frB b r) (sgn r) (frA b r)) r.1.length r.2.length := by
  have hc : 0 < r.2.length := List.length_pos_iff.mpr h.ne
  obtain ⟨i1, j1, j2⟩ := frac_lack h
  have e1 := run_lack b (frB b r) (sgn r) (frA b r) r.1 0 fun i hi => by
    rw [Nat.zero_add, sgn_lo hi]
  have e2 := run_lack b (frB b r) (sgn r) (frA b r) r.2 r.1.length fun i hi => by
    rw [sgn_hi, cyc_lt hi]
  rw [Nat.zero_add] at e1
  have base : runF b (frB b r) (sgn r) (frA b r) (r.1.length + r.2.length) = runF b (frB b r) (sgn r) (frA b r) r.1.length := by
    rw [e2, e1]
    exact j2
  intro p hp
  obtain ⟨i, rfl⟩ : ∃ i, p = r.1.length + i := ⟨p - r.1.length, by omega⟩
  clear hp
  induction i with
  | zero => exact base
  | succ i ih =>
    have e3 := sgn_per r (r.1.length + i) (by omega)
    rw [show r.1.length + (i + 1) + r.2.length = r.1.length + i + r.2.length + 1 by omega, show r.1.length + (i + 1) = r.1.length + i + 1 by omega, run_st, run_st, ih, e3]
theorem low_int {a b a' b' : Int} (ha : 0 ≤ a) (hb : 0 < b) (ha' : 0 ≤ a') (hb' : 0 < b') (h : a * b' = a' * b) (g : Nat.gcd a.toNat b.toNat = 1) : a = a' / (Nat.gcd a'.toNat b'.toNat : Nat) ∧ b = b' / (Nat.gcd a'.toNat b'.toNat : Nat) := by
  obtain ⟨x, rfl⟩ := Int.eq_ofNat_of_zero_le ha
  obtain ⟨y, rfl⟩ := Int.eq_ofNat_of_zero_le (Int.le_of_lt hb)
  obtain ⟨x', rfl⟩ := Int.eq_ofNat_of_zero_le ha'
  obtain ⟨y', rfl⟩ := Int.eq_ofNat_of_zero_le (Int.le_of_lt hb')
  have h2 : x * y' = x' * y := by exact_mod_cast h
  obtain ⟨e1, e2⟩ := low_one (by omega) (by omega) h2
  have g : Nat.gcd x y = 1 := g
  rw [g, Nat.div_one] at e1
  rw [g, Nat.div_one] at e2
  refine ⟨?_, ?_⟩
  · show (x : Int) = (x' : Int) / ((Nat.gcd x' y' : Nat) : Int)
    rw [← Int.natCast_ediv, ← e1]
  · show (y : Int) = (y' : Int) / ((Nat.gcd x' y' : Nat) : Int)
    rw [← Int.natCast_ediv, ← e2]
theorem frac_low {b : Int} {r : Row} (h : FigR b r) : Nat.gcd (frA b r).toNat (frB b r).toNat = 1 := by
  have g := by_pos h
  obtain ⟨a0, a1⟩ := above_bd h
  have b0 := below_pos h
  unfold frA frB byF
  generalize aboveF b r = a at *
  generalize belowF b r = c at *
  obtain ⟨x, rfl⟩ := Int.eq_ofNat_of_zero_le a0
  obtain ⟨y, rfl⟩ := Int.eq_ofNat_of_zero_le (Int.le_of_lt b0)
  show Nat.gcd ((x : Int) / ((Nat.gcd x y : Nat) : Int)).toNat ((y : Int) / ((Nat.gcd x y : Nat) : Int)).toNat = 1
  rw [← Int.natCast_ediv, ← Int.natCast_ediv, Int.toNat_natCast, Int.toNat_natCast]
  exact Nat.gcd_div_gcd_div_gcd_of_pos_right (by omega)
/-- the fraction by any run of states that comes round -/
theorem frac_of {b : Int} {r : Row} (h : FigR b r) {A : Nat → Int} {B : Int} {a n : Nat} (hs : Sts b (sgn r) B A) (hp : Per A a n) (hn : 0 < n) (hA : 0 ≤ A 0) (hB : 0 < B) :
    frA b r = A 0 / (Nat.gcd (A 0).toNat B.toNat : Nat) ∧ frB b r = B / (Nat.gcd (A 0).toNat B.toNat : Nat) := by
  have hc : 0 < r.2.length := List.length_pos_iff.mpr h.ne
  have e := st_same h.b2 (run_st b (frB b r) (sgn r) (frA b r)) hs (run_per h) hp hc hn
  exact low_int (frA_bd h).1 (by have := frB_pos h; omega) hA hB e (frac_low h)
theorem frac_same {b : Int} {r s : Row} (h : FigR b r) (g : FigR b s) (e : ∀ p, sgn r p = sgn s p) : frA b r = frA b s ∧ frB b r = frB b s := by
  have hc : 0 < s.2.length := List.length_pos_iff.mpr g.ne
  have ef : sgn s = sgn r := funext fun p => (e p).symm
  have hs := run_st b (frB b s) (sgn s) (frA b s)
  have hp := run_per g
  rw [ef] at hs hp
  obtain ⟨e1, e2⟩ := frac_of h hs hp hc (frA_bd g).1 (by have := frB_pos g; omega)
  have one : Nat.gcd (runF b (frB b s) (sgn r) (frA b s) 0).toNat (frB b s).toNat = 1 := frac_low g
  rw [one] at e1 e2
  refine ⟨e1.trans ?_, e2.trans ?_⟩
  · show frA b s / ((1 : Nat) : Int) = _
    exact Int.ediv_one _
  · exact Int.ediv_one _
end Lr

namespace Lr
/-! a fraction's rests and figures -/
def restF (a d b : Int) : Nat → Int
  | 0 => a
  | p + 1 => restF a d b p * b % d
def digF (a d b : Int) (p : Nat) : Int := restF a d b p * b / d
section
variable {a d b : Int}
theorem rest_bd (h0 : 0 ≤ a) (h1 : a < d) : ∀ p, 0 ≤ restF a d b p ∧ restF a d b p < d
  | 0 => ⟨h0, h1⟩
  | p + 1 => ⟨Int.emod_nonneg _ (by omega), Int.emod_lt_of_pos _ (by omega)⟩
theorem rest_st : Sts b (digF a d b) d (restF a d b) := fun p => by
  show restF a d b p * b % d = restF a d b p * b - restF a d b p * b / d * d
  rw [Int.emod_def, Int.mul_comm d]
theorem dig_bd (hb : 2 ≤ b) (h0 : 0 ≤ a) (h1 : a < d) (p : Nat) : 0 ≤ digF a d b p ∧ digF a d b p < b := by
  obtain ⟨r0, r1⟩ := rest_bd (b := b) h0 h1 p
  refine ⟨Int.ediv_nonneg (Int.mul_nonneg r0 (by omega)) (by omega), Int.ediv_lt_of_lt_mul (by omega) ?_⟩
  rw [Int.mul_comm b]
  exact Int.mul_lt_mul_of_pos_right r1 (by omega)
theorem rest_per {i n : Nat} (h : restF a d b (i + n) = restF a d b i) : Per (restF a d b) i n := fun p hp => by
  obtain ⟨k, rfl⟩ : ∃ k, p = i + k := ⟨p - i, by omega⟩
  clear hp
  induction k with
  | zero => exact h
  | succ k ih =>
    rw [show i + (k + 1) + n = i + k + n + 1 by omega, show i + (k + 1) = i + k + 1 by omega]
    show restF a d b (i + k + n) * b % d = restF a d b (i + k) * b % d
    rw [ih]
/-- met before -/
def metB (a d b : Int) (k : Nat) : Bool := (List.range k).any fun j => decide (restF a d b j = restF a d b k)
theorem met_iff {k : Nat} : metB a d b k = true ↔ ∃ j, j < k ∧ restF a d b j = restF a d b k := by
  unfold metB
  rw [List.any_eq_true]
  constructor
  · intro ⟨j, h1, h2⟩
    exact ⟨j, List.mem_range.mp h1, of_decide_eq_true h2⟩
  · intro ⟨j, h1, h2⟩
    exact ⟨j, List.mem_range.mpr h1, decide_eq_true h2⟩
theorem rests_new {k : Nat} (h : ∀ e, e < k → metB a d b e = false) : ∀ i j, i < k → j < k → restF a d b i = restF a d b j → i = j := by
  have key : ∀ i j, i < j → j < k → restF a d b i = restF a d b j → False := fun i j h1 h2 h3 => by
    have := met_iff.mpr ⟨i, h1, h3⟩
    rw [h j h2] at this
    cases this
  intro i j hi hj e
  rcases Nat.lt_trichotomy i j with x | x | x
  · exact (key i j x hj e).elim
  · exact x
  · exact (key j i x hi e.symm).elim
theorem rests_few (h0 : 0 ≤ a) (h1 : a < d) {k : Nat} (h : ∀ e, e < k → metB a d b e = false) : (k : Int) ≤ d := by
  have nd : ((List.range k).map fun j => (restF a d b j).toNat).Nodup := by
    unfold List.Nodup
    rw [List.pairwise_iff_getElem]
    intro i j hi hj hij e
    rw [List.length_map, List.length_range] at hi hj
    rw [List.getElem_map, List.getElem_map, List.getElem_range, List.getElem_range] at e
    have := rests_new h i j (by omega) hj (by
      have r1 := (rest_bd (b := b) h0 h1 i).1
      have r2 := (rest_bd (b := b) h0 h1 j).1
      have e : (restF a d b i).toNat = (restF a d b j).toNat := e
      omega)
    omega
  have sub : ((List.range k).map fun j => (restF a d b j).toNat) ⊆ List.range d.toNat := by
    intro x hx
    obtain ⟨j, _, rfl⟩ := List.mem_map.mp hx
    have := rest_bd (b := b) h0 h1 j
    exact List.mem_range.mpr (by omega)
  have := nd.length_le_of_subset sub
  rw [List.length_map, List.length_range, List.length_range] at this
  omega
/-- the row of a fraction's figures -/
def Fig (a d b : Int) (r : Row) : Prop := Told r ∧ ∀ p, sgn r p = digF a d b p
def digL (a d b : Int) (k : Nat) : List Int := (List.range k).map (digF a d b)
theorem digL_len (k : Nat) : (digL a d b k).length = k := by
  unfold digL
  rw [List.length_map, List.length_range]
theorem digL_get {k i : Nat} (h : i < k) : (digL a d b k).getD i 0 = digF a d b i := by
  unfold digL
  rw [List.getD_eq_getElem?_getD, List.getElem?_map, List.getElem?_range h]
  rfl
theorem fig_sgn {l c : List Int} (hc : c ≠ []) (hr : restF a d b (l.length + c.length) = restF a d b l.length) (h : ∀ i, i < l.length + c.length → (l ++ c).getD i 0 = digF a d b i) (p : Nat) : sgn (l, c) p = digF a d b p := by
  have hp : 0 < c.length := List.length_pos_iff.mpr hc
  have per := rest_per hr
  induction p using Nat.strongRecOn with
  | ind p ih =>
    by_cases h1 : p < l.length
    · rw [sgn_lo (show p < (l, c).1.length from h1), ← h p (by omega)]
      exact (getD_app_l h1).symm
    · by_cases h2 : p < l.length + c.length
      · obtain ⟨i, rfl⟩ : ∃ i, p = l.length + i := ⟨p - l.length, by omega⟩
        have e : sgn (l, c) (l.length + i) = cyc c i := sgn_hi (l, c) i
        rw [e, cyc_lt (by omega), ← h _ h2, getD_app_r (by omega), Nat.add_sub_cancel_left]
      · obtain ⟨q, rfl⟩ : ∃ q, p = q + c.length := ⟨p - c.length, by omega⟩
        have e1 : sgn (l, c) (q + c.length) = sgn (l, c) q := sgn_per (l, c) q (by show l.length ≤ q; omega)
        have e2 := per q (by omega)
        rw [e1, ih q (by omega)]
        unfold digF
        rw [e2]
theorem fig_at {k j : Nat} (hj : j < k) (h : restF a d b j = restF a d b k) : Fig a d b (leastF ((digL a d b k).take j, (digL a d b k).drop j)) := by
  have hl : ((digL a d b k).take j).length = j := by rw [List.length_take, digL_len]; omega
  have hd : ((digL a d b k).drop j).length = k - j := by rw [List.length_drop, digL_len]
  have ne : (digL a d b k).drop j ≠ [] := fun z => by
    rw [z] at hd
    have hd : 0 = k - j := hd
    omega
  refine ⟨least_told (r := (_, _)) ne, fun p => ?_⟩
  rw [least_sgn (r := (_, _)) ne]
  refine fig_sgn ne ?_ (fun i hi => ?_) p
  · rw [hl, hd, show j + (k - j) = k by omega, h]
  · rw [hl, hd] at hi
    rw [List.take_append_drop]
    exact digL_get (by omega)
theorem least_lens {r : Row} : (leastF r).1.length ≤ r.1.length ∧ (leastF r).2.length ≤ r.2.length := by
  refine ⟨?_, ?_⟩
  · show (r.1.take _).length ≤ _
    rw [List.length_take]
    omega
  · show (rot (short r.2) _).length ≤ _
    rw [rot_len]
    exact short_le _
theorem fig_ex (h0 : 0 ≤ a) (h1 : a < d) : ∃ r, Fig a d b r ∧ ((r.1.length + r.2.length : Nat) : Int) ≤ d := by
  have ex : ∃ k, metB a d b k = true ∧ (k : Int) ≤ d ∧ ∀ e, e < k → metB a d b e = false := by
    cases hf : (List.range (d.toNat + 1)).find? (metB a d b) with
    | none =>
      rw [List.find?_eq_none] at hf
      have := rests_few (b := b) h0 h1 (k := d.toNat + 1) fun e he => by
        have := hf e (List.mem_range.mpr he)
        simpa using this
      omega
    | some k =>
      rw [List.find?_range_eq_some] at hf
      obtain ⟨f1, f2, f3⟩ := hf
      refine ⟨k, f1, by have := List.mem_range.mp f2; omega, fun e he => ?_⟩
      have := f3 e he
      simpa using this
  obtain ⟨k, k1, k2, _⟩ := ex
  obtain ⟨j, j1, j2⟩ := met_iff.mp k1
  refine ⟨_, fig_at j1 j2, ?_⟩
  obtain ⟨x1, x2⟩ := least_lens (r := ((digL a d b k).take j, (digL a d b k).drop j))
  have x1 : (leastF ((digL a d b k).take j, (digL a d b k).drop j)).1.length ≤ ((digL a d b k).take j).length := x1
  have x2 : (leastF ((digL a d b k).take j, (digL a d b k).drop j)).2.length ≤ ((digL a d b k).drop j).length := x2
  rw [List.length_take, digL_len] at x1
  rw [List.length_drop, digL_len] at x2
  omega
theorem fig_one {r s : Row} (h : Fig a d b r) (g : Fig a d b s) : r = s := told_unique h.1 g.1 fun p => by rw [h.2, g.2]
/-- the rests come round with the figures -/
theorem fig_round {r : Row} (hb : 2 ≤ b) (h0 : 0 ≤ a) (h1 : a < d) (h : Fig a d b r) : restF a d b (r.1.length + r.2.length) = restF a d b r.1.length := by
  have hc : 0 < r.2.length := List.length_pos_iff.mpr h.1.1
  have ex : ∃ i n, 0 < n ∧ restF a d b (i + n) = restF a d b i := by
    obtain ⟨i, j, hij, e⟩ : ∃ i j, i < j ∧ restF a d b i = restF a d b j := by
      cases hf : (List.range (d.toNat + 1)).find? (metB a d b) with
      | none =>
        rw [List.find?_eq_none] at hf
        have := rests_few (b := b) h0 h1 (k := d.toNat + 1) fun e he => by
          have := hf e (List.mem_range.mpr he)
          simpa using this
        omega
      | some k =>
        rw [List.find?_range_eq_some] at hf
        obtain ⟨j, j1, j2⟩ := met_iff.mp hf.1
        exact ⟨j, k, j1, j2⟩
    exact ⟨i, j - i, by omega, by rw [show i + (j - i) = j by omega, e]⟩
  obtain ⟨i, n, hn, e⟩ := ex
  have per := rest_per e
  have sh : ∀ t, Per (fun p => restF a d b (t + p)) i n := fun t p hp => by
    show restF a d b (t + (p + n)) = _
    rw [← Nat.add_assoc]
    exact per (t + p) (by omega)
  have st : ∀ t, Sts b (fun p => digF a d b (t + p)) d (fun p => restF a d b (t + p)) := fun t p => rest_st (a := a) (d := d) (b := b) (t + p)
  have ed : (fun p => digF a d b (r.1.length + r.2.length + p)) = fun p => digF a d b (r.1.length + p) := funext fun p => by
    have := sgn_per r (r.1.length + p) (by omega)
    rw [h.2, h.2] at this
    rw [← this]
    congr 1
    omega
  have s1 := st (r.1.length + r.2.length)
  rw [ed] at s1
  have := st_same hb s1 (st r.1.length) (sh _) (sh _) hn hn
  have : restF a d b (r.1.length + r.2.length) * d = restF a d b r.1.length * d := this
  exact Int.eq_of_mul_eq_mul_right (by omega) this
/-- never the greatest alone for ever -/
theorem fig_nine {r : Row} (hb : 2 ≤ b) (h0 : 0 ≤ a) (h1 : a < d) (h : Fig a d b r) : r.2 ≠ [b - 1] := fun z => by
  have e := fig_round hb h0 h1 h
  rw [z] at e
  have e : restF a d b r.1.length * b % d = restF a d b r.1.length := e
  have hd := h.2 r.1.length
  have hs : sgn r r.1.length = b - 1 := by
    have := sgn_hi r 0
    rw [Nat.add_zero] at this
    rw [this, z]
    rfl
  rw [hs] at hd
  have st := rest_st (a := a) (d := d) (b := b) r.1.length
  have st : restF a d b r.1.length * b % d = restF a d b r.1.length * b - digF a d b r.1.length * d := st
  rw [e, ← hd] at st
  obtain ⟨r0, r1⟩ := rest_bd (b := b) h0 h1 r.1.length
  generalize restF a d b r.1.length = x at *
  have e2 : (b - 1) * (d - x) = 0 := by
    rw [Int.mul_sub, Int.sub_mul b 1 x, Int.one_mul, Int.mul_comm b x]
    omega
  rcases Int.mul_eq_zero.mp e2 with y | y <;> omega
theorem mem_sgn {r : Row} {x : Int} (h : x ∈ r.1 ∨ x ∈ r.2) : ∃ p, x = sgn r p := by
  rcases h with h | h
  · obtain ⟨i, hi, e⟩ := List.mem_iff_getElem.mp h
    exact ⟨i, by rw [sgn_lo hi, getD_lt hi, e]⟩
  · obtain ⟨i, hi, e⟩ := List.mem_iff_getElem.mp h
    exact ⟨r.1.length + i, by rw [sgn_hi, cyc_lt hi, getD_lt hi, e]⟩
theorem figR_of {r : Row} (hb : 2 ≤ b) (ne : r.2 ≠ []) (h : ∀ p, 0 ≤ sgn r p ∧ sgn r p < b) : FigR b r := ⟨hb, ne, fun x hx => by
  obtain ⟨p, rfl⟩ := mem_sgn (.inl hx)
  exact h p, fun x hx => by
  obtain ⟨p, rfl⟩ := mem_sgn (.inr hx)
  exact h p⟩
theorem figR_sgn {r : Row} (h : FigR b r) (p : Nat) : 0 ≤ sgn r p ∧ sgn r p < b := by
  have hc : 0 < r.2.length := List.length_pos_iff.mpr h.ne
  by_cases h1 : p < r.1.length
  · rw [sgn_lo h1, getD_lt h1]
    exact h.l _ (List.getElem_mem h1)
  · obtain ⟨i, rfl⟩ : ∃ i, p = r.1.length + i := ⟨p - r.1.length, by omega⟩
    have hi : i % r.2.length < r.2.length := Nat.mod_lt _ hc
    rw [sgn_hi]
    unfold cyc
    rw [getD_lt hi]
    exact h.c _ (List.getElem_mem hi)
theorem fig_R {r : Row} (hb : 2 ≤ b) (h0 : 0 ≤ a) (h1 : a < d) (h : Fig a d b r) : FigR b r := figR_of hb h.1.1 fun p => by
  rw [h.2]
  exact dig_bd hb h0 h1 p
theorem fig_frac {r : Row} (hb : 2 ≤ b) (h0 : 0 ≤ a) (h1 : a < d) (h : Fig a d b r) : frA b r = a / (Nat.gcd a.toNat d.toNat : Nat) ∧ frB b r = d / (Nat.gcd a.toNat d.toNat : Nat) := by
  have hc : 0 < r.2.length := List.length_pos_iff.mpr h.1.1
  have e : sgn r = digF a d b := funext h.2
  have hs := rest_st (a := a) (d := d) (b := b)
  rw [← e] at hs
  exact frac_of (fig_R hb h0 h1 h) hs (rest_per (fig_round hb h0 h1 h)) hc h0 (by show 0 < d; omega)
end
/-! sizes -/
theorem pow_lt_bits {b : Int} (h0 : 0 ≤ b) (hb : b ≤ 1000) (n : Nat) : (b ^ n).natAbs ≤ 2 ^ (10 * n) := by
  rw [Int.natAbs_pow, Nat.pow_mul]
  exact Nat.pow_le_pow_left (by omega) n
theorem below_bits {b : Int} {r : Row} (h : FigR b r) (hb : b ≤ 1000) : (belowF b r).natAbs < 2 ^ (10 * (r.1.length + r.2.length)) := by
  have ar := ar_pos h
  have b2 := h.b2
  have e : belowF b r < b ^ (r.1.length + r.2.length) := by
    unfold belowF
    rw [Int.pow_add]
    exact Int.mul_lt_mul_of_pos_left (by omega) (Int.pow_pos (by omega))
  have p := below_pos h
  have := pow_lt_bits (by omega) hb (r.1.length + r.2.length)
  have q : 0 < b ^ (r.1.length + r.2.length) := Int.pow_pos (by omega)
  omega
end Lr

namespace Lr
open PySem L2
open Evl (Ex)
structure Bi (mg : Str → Option Value) : Prop where
  isinstance : mg "isinstance" = none
  int : mg "int" = none
  bool : mg "bool" = none
  list : mg "list" = none
  tuple : mg "tuple" = none
  len : mg "len" = none
  all : mg "all" = none
  range : mg "range" = none
  max : mg "max" = none
  enumerate : mg "enumerate" = none
  any : mg "any" = none
  divmod : mg "divmod" = none
  min : mg "min" = none
  abs : mg "abs" = none
  str : mg "str" = none
def wholeP : Pd → Bool
  | .int _ => true
  | _ => false
def isIntB : Pd → Bool
  | .int _ => true
  | .bl _ => true
  | _ => false
def isBoolB : Pd → Bool
  | .bl _ => true
  | _ => false
theorem kit_int (d : Pd) (h : tyN d ≠ "") : kitB (tyN d) "int" = some (isIntB d) := by
  cases d with
  | raw v => exact absurd rfl h
  | obj _ _ _ => exact absurd rfl h
  | non => show kitB "NoneType" "int" = some false; decide +kernel
  | bl b => show kitB "bool" "int" = some true; decide +kernel
  | int b => show kitB "int" "int" = some true; decide +kernel
  | str b => show kitB "str" "int" = some false; decide +kernel
  | lst b => show kitB "list" "int" = some false; decide +kernel
  | scr b => show kitB "list" "int" = some false; decide +kernel
  | tup b => show kitB "tuple" "int" = some false; decide +kernel
  | dic b => show kitB "dict" "int" = some false; decide +kernel
  | lam _ _ _ _ => exact absurd rfl h
theorem kit_bool (d : Pd) (h : tyN d ≠ "") : kitB (tyN d) "bool" = some (isBoolB d) := by
  cases d with
  | raw v => exact absurd rfl h
  | obj _ _ _ => exact absurd rfl h
  | non => show kitB "NoneType" "bool" = some false; decide +kernel
  | bl b => show kitB "bool" "bool" = some true; decide +kernel
  | int b => show kitB "int" "bool" = some false; decide +kernel
  | str b => show kitB "str" "bool" = some false; decide +kernel
  | lst b => show kitB "list" "bool" = some false; decide +kernel
  | scr b => show kitB "list" "bool" = some false; decide +kernel
  | tup b => show kitB "tuple" "bool" = some false; decide +kernel
  | dic b => show kitB "dict" "bool" = some false; decide +kernel
  | lam _ _ _ _ => exact absurd rfl h
theorem whole_and (d : Pd) : (isIntB d && !isBoolB d) = wholeP d := by cases d <;> rfl
/-! small helps -/
theorem range_map {α β : Type} (l : List α) (z : α) (g : α → β) : (List.range l.length).map (fun i => g (l.getD i z)) = l.map g := by
  refine List.ext_getElem (by rw [List.length_map, List.length_range, List.length_map]) fun i h1 h2 => ?_
  rw [List.length_map, List.length_range] at h1
  rw [List.getElem_map, List.getElem_map, List.getElem_range, List.getD_eq_getElem?_getD, List.getElem?_eq_getElem h1]
  rfl
theorem getD_some {α : Type} {l : List α} {z : α} (i : Nat) (h : i < l.length) : l[i]? = some (l.getD i z) := by
  rw [List.getD_eq_getElem?_getD, List.getElem?_eq_getElem h]
  rfl
theorem atI_at {l : List Int} {z : Int} {j : Nat} (h : z = (j : Int)) (hj : j < l.length) : atI l z = some (l.getD j 0) := by
  rw [h]
  exact atI_nat (getD_some j hj)
theorem atI_cz {c : List Int} (h : c ≠ []) (z : Int) : atI c (z % (c.length : Int)) = some (cz c z) := by
  have hc : 0 < c.length := List.length_pos_iff.mpr h
  have h1 := Int.emod_nonneg z (show (c.length : Int) ≠ 0 by omega)
  have h2 := Int.emod_lt_of_pos z (show (0 : Int) < c.length by omega)
  unfold cz
  exact atI_at (by omega) (by omega)
theorem all_map_id {α : Type} (l : List α) (g : α → Bool) : (l.map g).all id = l.all g := by
  rw [List.all_map]
  rfl
theorem kit_ll : kitB "list" "list" = some true := by decide +kernel
theorem kit_tt : kitB "tuple" "tuple" = some true := by decide +kernel
theorem nn_int : ("int" : String) ≠ "" := by decide
theorem nn_list : ("list" : String) ≠ "" := by decide
theorem nn_tuple : ("tuple" : String) ≠ "" := by decide
theorem ee_nilL {X : Cx} {δ : Dl} {pos : Pos} : EE X (.List [] pos) δ (dL []) := (ef_lst ea_nil).ee
theorem most_at (ns : List Int) (b : Int) : atI [Pd.int 2, Pd.int 3, Pd.int 10, Pd.int 1000000] (drawF (ns.getD 0 0) b 4) = some (.int (mostF ns b)) := by
  have h1 := draw_nn (c := ns.getD 0 0) (k := b) (show (0 : Int) < 4 by decide)
  have h2 := draw_lt (c := ns.getD 0 0) (k := b) (show (0 : Int) < 4 by decide)
  show atI (([2, 3, 10, 1000000] : List Int).map Pd.int) _ = _
  rw [atI_map, atI_at (l := ([2, 3, 10, 1000000] : List Int)) (j := (drawF (ns.getD 0 0) b 4).toNat) (by omega) (by show _ < 4; omega)]
  rfl
theorem most_pos (ns : List Int) (b : Int) : 0 < mostF ns b := by
  rcases most_in ns b with h | h | h | h <;> rw [h] <;> decide
theorem most_lt (ns : List Int) (b : Int) : mostF ns b < 1073741824 := by
  rcases most_in ns b with h | h | h | h <;> rw [h] <;> decide
theorem signs_len (ns : List Int) (b : Int) : (signsF ns b).length = ns.length := by
  unfold signsF
  rw [List.length_map, List.length_range]
theorem circ0_len (s : List Int) (b cut : Int) : (circ0 s b cut).length ≤ max 1 s.length := by
  unfold circ0
  split
  · exact Nat.le_max_left _ _
  · rw [List.length_drop]
    omega
theorem pow60 : (10 : Int) ^ (60 : Int).toNat = 10 ^ 60 := rfl
/-! told -/
def toldB (r : Row) : Bool := decide (r.2 ≠ []) && ((List.range (r.2.length - 1)).all (fun e => !isPart r.2 (e + 1)) && (decide (r.1 = []) || !decide (r.1.getD (r.1.length - 1) 0 = r.2.getD (r.2.length - 1) 0)))
theorem toldB_iff (r : Row) : toldB r = true ↔ Told r := by
  unfold toldB Told
  rw [Bool.and_eq_true, Bool.and_eq_true, decide_eq_true_iff, List.all_eq_true, Bool.or_eq_true, decide_eq_true_iff]
  refine and_congr_right fun hne => and_congr ?_ ?_
  · have hp : 0 < r.2.length := List.length_pos_iff.mpr hne
    constructor
    · intro h d h1 h2 h3 h4
      have g := h (d - 1) (List.mem_range.mpr (by omega))
      rw [show d - 1 + 1 = d by omega, (isPart_iff h1 (by omega)).mpr ⟨h3, h4⟩] at g
      cases g
    · intro h e he
      have he := List.mem_range.mp he
      cases hb : isPart r.2 (e + 1) with
      | false => rfl
      | true =>
        obtain ⟨g1, g2⟩ := (isPart_iff (Nat.succ_pos e) (by omega)).mp hb
        exact absurd g2 (h (e + 1) (Nat.succ_pos e) (by omega) g1)
  · by_cases hl : r.1 = []
    · simp [hl]
    · rw [last_get hl, last_get hne]
      simp [hl]
/-! same -/
def sameB (r s : Row) : Bool := (List.range (max r.1.length s.1.length + r.2.length + s.2.length)).all fun p => decide (sgn r p = sgn s p)
theorem sameB_iff {r s : Row} (hr : r.2 ≠ []) (hs : s.2 ≠ []) : sameB r s = true ↔ ∀ p, sgn r p = sgn s p := by
  unfold sameB
  rw [List.all_eq_true]
  constructor
  · intro h
    exact same_enough hr hs fun p hp => of_decide_eq_true (h p (List.mem_range.mpr hp))
  · intro h p _
    exact decide_eq_true (h p)
theorem sgn_app (l c : List Int) (hc : c ≠ []) (p : Nat) : sgn (l ++ c, c) p = sgn (l, c) p := by
  by_cases h1 : p < l.length
  · rw [sgn_lo (show p < (l ++ c).length by rw [List.length_append]; omega), sgn_lo (show p < l.length from h1)]
    exact getD_app_l h1
  · obtain ⟨i, rfl⟩ : ∃ i, p = l.length + i := ⟨p - l.length, by omega⟩
    have e1 : sgn (l, c) (l.length + i) = cyc c i := sgn_hi (l, c) i
    rw [e1]
    by_cases h2 : i < c.length
    · rw [sgn_lo (show l.length + i < (l ++ c).length by rw [List.length_append]; omega), cyc_lt h2]
      show (l ++ c).getD (l.length + i) 0 = _
      rw [getD_app_r (by omega), Nat.add_sub_cancel_left]
    · obtain ⟨j, rfl⟩ : ∃ j, i = c.length + j := ⟨i - c.length, by omega⟩
      have e2 : sgn (l ++ c, c) ((l ++ c).length + j) = cyc c j := sgn_hi (l ++ c, c) j
      rw [List.length_append] at e2
      rw [← Nat.add_assoc, e2, Nat.add_comm c.length j]
      exact (cyc_per c j (Nat.zero_le _)).symm
theorem rep_two (c : List Int) : c ++ c = rep c 2 := by
  unfold rep
  simp [List.replicate]
theorem sgn_cyc {l c d : List Int} (h : ∀ i, cyc d i = cyc c i) (p : Nat) : sgn (l, d) p = sgn (l, c) p := by
  by_cases h1 : p < l.length
  · rw [sgn_lo (show p < l.length from h1), sgn_lo (show p < l.length from h1)]
  · obtain ⟨i, rfl⟩ : ∃ i, p = l.length + i := ⟨p - l.length, by omega⟩
    have e1 : sgn (l, c) (l.length + i) = cyc c i := sgn_hi (l, c) i
    have e2 : sgn (l, d) (l.length + i) = cyc d i := sgn_hi (l, d) i
    rw [e1, e2, h]
theorem sgn_rot (l c : List Int) (t : Nat) (ht : t ≤ c.length) (p : Nat) : sgn (l ++ c.take t, rot c t) p = sgn (l, c) p := by
  by_cases h1 : p < l.length
  · rw [sgn_lo (show p < (l ++ c.take t).length by rw [List.length_append]; omega), sgn_lo (show p < l.length from h1)]
    exact getD_app_l h1
  · obtain ⟨i, rfl⟩ : ∃ i, p = l.length + i := ⟨p - l.length, by omega⟩
    have e1 : sgn (l, c) (l.length + i) = cyc c i := sgn_hi (l, c) i
    have hl : (c.take t).length = t := by rw [List.length_take]; omega
    rw [e1]
    by_cases h2 : i < t
    · rw [sgn_lo (show l.length + i < (l ++ c.take t).length by rw [List.length_append]; omega), cyc_lt (by omega)]
      show (l ++ c.take t).getD (l.length + i) 0 = _
      rw [getD_app_r (by omega), Nat.add_sub_cancel_left, getD_take h2]
    · obtain ⟨j, rfl⟩ : ∃ j, i = t + j := ⟨i - t, by omega⟩
      have e2 : sgn (l ++ c.take t, rot c t) ((l ++ c.take t).length + j) = cyc (rot c t) j := sgn_hi (l ++ c.take t, rot c t) j
      rw [List.length_append, hl] at e2
      rw [← Nat.add_assoc, e2, rot_cyc ht, Nat.add_comm]
section
variable {P : Program} {w : World} {K : PySem.W.Frag} {mg : Str → Option Value} {base : Heap} {f : Addr} {fd : FuncData}
theorem has_of {CX : CXT} {x : Str} {k : Nat} {ps : List Str} {sp : Sp} {st : Stmt} (F : Fun K x x st f fd) (o : FnOk P w K mg base CX k f fd ps sp) (g : mg x = some (.ref f)) (b : Binds K fd ps []) : Has P w K mg base CX x k ps sp := ⟨f, fd, o, g, F.kp, b⟩
abbrev H0 (P : Program) (w : World) (K : PySem.W.Frag) (mg : Str → Option Value) (base : Heap) := Has P w K mg base CX0
def RisWhole : List Pd → Pd → Prop := fun ds d => ∃ x, ds = [x] ∧ tyN x ≠ "" ∧ d = .bl (wholeP x)
/-! are_signs: of a list without raw things | of another thing -/
def RareSigns : List Pd → Pd → Prop := fun ds d => ∃ x, ds = [x] ∧ ((∃ l, x = .lst l ∧ l.length ≤ 50000 ∧ (∀ e ∈ l, tyN e ≠ "") ∧ d = .bl (l.all wholeP)) ∨ ((∀ l, x ≠ .lst l) ∧ (∀ l, x ≠ .scr l) ∧ tyN x ≠ "" ∧ d = .bl false))
theorem whole_ints (ns : List Int) : (ns.map Pd.int).all wholeP = true := by
  rw [List.all_map]
  exact List.all_eq_true.mpr fun _ _ => rfl
theorem signs_ints {ns : List Int} (h : ns.length ≤ 50000) : RareSigns [dL ns] (.bl true) := ⟨_, rfl, .inl ⟨_, rfl, by rw [List.length_map]; exact h, fun e he => by
  obtain ⟨i, _, rfl⟩ := List.mem_map.mp he
  exact nn_int, by rw [whole_ints]⟩⟩
def RcheckRow : List Pd → Pd → Prop := fun ds d => ∃ r : Row, ds = [dR r] ∧ r.2 ≠ [] ∧ r.1.length ≤ 50000 ∧ r.2.length ≤ 50000 ∧ d = .non
def Rshort : List Pd → List Pd → Prop := fun ds zs => ∃ c : List Int, ds = [dL c] ∧ c.length ≤ 50000 ∧ zs = (short c).map .int
theorem isPart_eq {c : List Int} {i : Nat} (hi : i < c.length) : (decide ((c.length : Int) % ((i + 1 : Nat) : Int) = 0) && decide (c = (List.replicate (((c.length : Int) / ((i + 1 : Nat) : Int)).toNat) (cutP c none (some ((i + 1 : Nat) : Int)))).flatten)) = isPart c (i + 1) := by
  unfold isPart rep
  rw [cut_to, ← Int.natCast_ediv, Int.toNat_natCast, ← Int.natCast_emod]
  congr 1
  refine decide_eq_decide.mpr ?_
  omega
def RleastOf : List Pd → Row → Prop := fun ds r => ∃ l c : List Int, ds = [dL l, dL c] ∧ c ≠ [] ∧ l.length ≤ 50000 ∧ c.length ≤ 50000 ∧ r = leastF (l, c)
def Rleast : List Pd → Row → Prop := fun ds s => ∃ r : Row, ds = [dR r] ∧ r.2 ≠ [] ∧ r.1.length ≤ 50000 ∧ r.2.length ≤ 50000 ∧ s = leastF r
def Rcell : List Pd → Pd → Prop := fun ds d => ∃ (ns : List Int) (j : Nat), ds = [.scr ns, .int j] ∧ d = .int (ns.getD j 0)
def Rdraw : List Pd → Pd → Prop := fun ds d => ∃ c j m : Int, ds = [.int c, .int j, .int m] ∧ 0 < m ∧ 0 ≤ j ∧ j ≤ 1000000 ∧ d = .int (drawF c j m)
def Rsign : List Pd → Pd → Prop := fun ds d => ∃ (r : Row) (p : Nat), ds = [dR r, .int p] ∧ r.2 ≠ [] ∧ d = .int (sgn r p)
def Rtold : List Pd → Pd → Prop := fun ds d => ∃ r : Row, ds = [dR r] ∧ r.1.length ≤ 25000 ∧ r.2.length ≤ 25000 ∧ d = .bl (toldB r)
def Rsame : List Pd → Pd → Prop := fun ds d => ∃ r s : Row, ds = [dR r, dR s] ∧ r.2 ≠ [] ∧ s.2 ≠ [] ∧ max r.1.length s.1.length + r.2.length + s.2.length ≤ 50000 ∧ d = .bl (sameB r s)
def Rrow : List Pd → Pd → Prop := fun ds d => ∃ (ns : List Int) (b : Int), ds = [.scr ns, .int b] ∧ ns.length ≤ 63 ∧ 0 ≤ b ∧ b ≤ 1000 ∧ d = dR (rowF ns b)
def Rlaw : List Pd → Pd → Prop := fun ds d => ∃ ns : List Int, ds = [.scr ns] ∧ ns.length ≤ 63 ∧ d = .bl true
end
end Lr

namespace Lr
open PySem L2
def top (i : Nat) : Stmt := PySem.Challenge.pw_leadround_k09_refused.main.body.getD i (.Pass ⟨0, 0, 0, 0⟩)
abbrev mostFig : Str := "MOST_figures"
abbrev mostTxt : Str := "MOST_texts"
abbrev s_wall : Stmt := top 0
abbrev ns_wall : List Str := ["k"]
theorem cs_wall : FnScope ns_wall ["k"] (defScope s_wall) := ⟨rfl, rfl, rfl, by decide +kernel, rfl, by decide +kernel, by decide +kernel⟩
abbrev s_is_whole : Stmt := top 11
abbrev ns_is_whole : List Str := ["thing"]
theorem cs_is_whole : FnScope ns_is_whole ["thing"] (defScope s_is_whole) := ⟨rfl, rfl, rfl, by decide +kernel, rfl, by decide +kernel, by decide +kernel⟩
abbrev s_are_signs : Stmt := top 12
abbrev ns_are_signs : List Str := ["thing", "sign"]
theorem cs_are_signs : FnScope ns_are_signs ["thing"] (defScope s_are_signs) := ⟨rfl, rfl, rfl, by decide +kernel, rfl, by decide +kernel, by decide +kernel⟩
abbrev s_check_row : Stmt := top 13
abbrev ns_check_row : List Str := ["row"]
theorem cs_check_row : FnScope ns_check_row ["row"] (defScope s_check_row) := ⟨rfl, rfl, rfl, by decide +kernel, rfl, by decide +kernel, by decide +kernel⟩
abbrev s_check_place : Stmt := top 14
abbrev ns_check_place : List Str := ["place", "first"]
theorem cs_check_place : FnScope ns_check_place ["place", "first"] (defScope s_check_place) := ⟨rfl, rfl, rfl, by decide +kernel, rfl, by decide +kernel, by decide +kernel⟩
abbrev s_shortest : Stmt := top 15
abbrev ns_shortest : List Str := ["circle", "many", "part"]
theorem cs_shortest : FnScope ns_shortest ["circle"] (defScope s_shortest) := ⟨rfl, rfl, rfl, by decide +kernel, rfl, by decide +kernel, by decide +kernel⟩
abbrev s_least_of : Stmt := top 16
abbrev ns_least_of : List Str := ["lead", "circle", "kept", "gone", "turn"]
theorem cs_least_of : FnScope ns_least_of ["lead", "circle"] (defScope s_least_of) := ⟨rfl, rfl, rfl, by decide +kernel, rfl, by decide +kernel, by decide +kernel⟩
abbrev s_least : Stmt := top 17
abbrev ns_least : List Str := ["row"]
theorem cs_least : FnScope ns_least ["row"] (defScope s_least) := ⟨rfl, rfl, rfl, by decide +kernel, rfl, by decide +kernel, by decide +kernel⟩
abbrev s_sign_at : Stmt := top 18
abbrev ns_sign_at : List Str := ["row", "place", "lead", "circle"]
theorem cs_sign_at : FnScope ns_sign_at ["row", "place"] (defScope s_sign_at) := ⟨rfl, rfl, rfl, by decide +kernel, rfl, by decide +kernel, by decide +kernel⟩
abbrev s_told_at : Stmt := top 19
abbrev ns_told_at : List Str := ["row", "place"]
theorem cs_told_at : FnScope ns_told_at ["row", "place"] (defScope s_told_at) := ⟨rfl, rfl, rfl, by decide +kernel, rfl, by decide +kernel, by decide +kernel⟩
abbrev s_begin_of : Stmt := top 20
abbrev ns_begin_of : List Str := ["row", "many", "place"]
theorem cs_begin_of : FnScope ns_begin_of ["row", "many"] (defScope s_begin_of) := ⟨rfl, rfl, rfl, by decide +kernel, rfl, by decide +kernel, by decide +kernel⟩
abbrev s_begin : Stmt := top 21
abbrev ns_begin : List Str := ["row", "many"]
theorem cs_begin : FnScope ns_begin ["row", "many"] (defScope s_begin) := ⟨rfl, rfl, rfl, by decide +kernel, rfl, by decide +kernel, by decide +kernel⟩
abbrev s_often : Stmt := top 22
abbrev ns_often : List Str := ["row", "sign", "many", "lead", "circle", "rounds", "rest"]
theorem cs_often : FnScope ns_often ["row", "sign", "many"] (defScope s_often) := ⟨rfl, rfl, rfl, by decide +kernel, rfl, by decide +kernel, by decide +kernel⟩
abbrev s_common : Stmt := top 24
abbrev ns_common : List Str := ["one", "other"]
theorem cs_common : FnScope ns_common ["one", "other"] (defScope s_common) := ⟨rfl, rfl, rfl, by decide +kernel, rfl, by decide +kernel, by decide +kernel⟩
abbrev s_every : Stmt := top 25
abbrev ns_every : List Str := ["row", "start", "step", "many", "around", "found", "k"]
theorem cs_every : FnScope ns_every ["row", "start", "step"] (defScope s_every) := ⟨rfl, rfl, rfl, by decide +kernel, rfl, by decide +kernel, by decide +kernel⟩
abbrev s_lengths : Stmt := top 26
abbrev ns_lengths : List Str := ["rows", "longest", "around", "lead", "circle"]
theorem cs_lengths : FnScope ns_lengths ["rows"] (defScope s_lengths) := ⟨rfl, rfl, rfl, by decide +kernel, rfl, by decide +kernel, by decide +kernel⟩
abbrev s_woven : Stmt := top 27
abbrev ns_woven : List Str := ["rows", "row", "longest", "around", "found", "place"]
theorem cs_woven : FnScope ns_woven ["rows"] (defScope s_woven) := ⟨rfl, rfl, rfl, by decide +kernel, rfl, by decide +kernel, by decide +kernel⟩
abbrev s_added : Stmt := top 28
abbrev ns_added : List Str := ["one", "other", "longest", "around", "found", "place"]
theorem cs_added : FnScope ns_added ["one", "other"] (defScope s_added) := ⟨rfl, rfl, rfl, by decide +kernel, rfl, by decide +kernel, by decide +kernel⟩
abbrev s_behind : Stmt := top 29
abbrev ns_behind : List Str := ["row", "place", "lead", "circle", "turn"]
theorem cs_behind : FnScope ns_behind ["row", "place"] (defScope s_behind) := ⟨rfl, rfl, rfl, by decide +kernel, rfl, by decide +kernel, by decide +kernel⟩
abbrev s_ahead : Stmt := top 30
abbrev ns_ahead : List Str := ["signs", "row"]
theorem cs_ahead : FnScope ns_ahead ["signs", "row"] (defScope s_ahead) := ⟨rfl, rfl, rfl, by decide +kernel, rfl, by decide +kernel, by decide +kernel⟩
abbrev s_check_base : Stmt := top 33
abbrev ns_check_base : List Str := ["base"]
theorem cs_check_base : FnScope ns_check_base ["base"] (defScope s_check_base) := ⟨rfl, rfl, rfl, by decide +kernel, rfl, by decide +kernel, by decide +kernel⟩
abbrev s_number_of : Stmt := top 34
abbrev ns_number_of : List Str := ["figures", "base", "found", "power", "figure"]
theorem cs_number_of : FnScope ns_number_of ["figures", "base"] (defScope s_number_of) := ⟨rfl, rfl, rfl, by decide +kernel, rfl, by decide +kernel, by decide +kernel⟩
abbrev s_fraction : Stmt := top 35
abbrev ns_fraction : List Str := ["row", "base", "whole", "power", "part", "around", "above", "below", "by", "sign"]
theorem cs_fraction : FnScope ns_fraction ["row", "base"] (defScope s_fraction) := ⟨rfl, rfl, rfl, by decide +kernel, rfl, by decide +kernel, by decide +kernel⟩
abbrev s_figured : Stmt := top 36
abbrev ns_figured : List Str := ["above", "below", "base", "met", "found", "rest"]
theorem cs_figured : FnScope ns_figured ["above", "below", "base"] (defScope s_figured) := ⟨rfl, rfl, rfl, by decide +kernel, rfl, by decide +kernel, by decide +kernel⟩
abbrev s_Alike_init : Stmt := inClass (top 39) 0
abbrev ns_Alike_init : List Str := ["self", "lead", "circle"]
theorem cs_Alike_init : FnScope ns_Alike_init ["self", "lead", "circle"] (defScope s_Alike_init) := ⟨rfl, rfl, rfl, by decide +kernel, rfl, by decide +kernel, by decide +kernel⟩
abbrev s_Alike_shows : Stmt := inClass (top 39) 1
abbrev ns_Alike_shows : List Str := ["self", "one", "other"]
theorem cs_Alike_shows : FnScope ns_Alike_shows ["self", "one", "other"] (defScope s_Alike_shows) := ⟨rfl, rfl, rfl, by decide +kernel, rfl, by decide +kernel, by decide +kernel⟩
abbrev s_Unlike_init : Stmt := inClass (top 40) 0
abbrev ns_Unlike_init : List Str := ["self", "place"]
theorem cs_Unlike_init : FnScope ns_Unlike_init ["self", "place"] (defScope s_Unlike_init) := ⟨rfl, rfl, rfl, by decide +kernel, rfl, by decide +kernel, by decide +kernel⟩
abbrev s_Unlike_shows : Stmt := inClass (top 40) 1
abbrev ns_Unlike_shows : List Str := ["self", "one", "other"]
theorem cs_Unlike_shows : FnScope ns_Unlike_shows ["self", "one", "other"] (defScope s_Unlike_shows) := ⟨rfl, rfl, rfl, by decide +kernel, rfl, by decide +kernel, by decide +kernel⟩
abbrev s_enough_for : Stmt := top 41
abbrev ns_enough_for : List Str := ["one", "other"]
theorem cs_enough_for : FnScope ns_enough_for ["one", "other"] (defScope s_enough_for) := ⟨rfl, rfl, rfl, by decide +kernel, rfl, by decide +kernel, by decide +kernel⟩
abbrev s_is_there : Stmt := top 42
abbrev ns_is_there : List Str := ["row", "word", "place", "k", "sign"]
theorem cs_is_there : FnScope ns_is_there ["row", "word", "place"] (defScope s_is_there) := ⟨rfl, rfl, rfl, by decide +kernel, rfl, by decide +kernel, by decide +kernel⟩
abbrev s_starts : Stmt := top 43
abbrev ns_starts : List Str := ["row"]
theorem cs_starts : FnScope ns_starts ["row"] (defScope s_starts) := ⟨rfl, rfl, rfl, by decide +kernel, rfl, by decide +kernel, by decide +kernel⟩
abbrev s_Stands_init : Stmt := inClass (top 44) 0
abbrev ns_Stands_init : List Str := ["self", "place"]
theorem cs_Stands_init : FnScope ns_Stands_init ["self", "place"] (defScope s_Stands_init) := ⟨rfl, rfl, rfl, by decide +kernel, rfl, by decide +kernel, by decide +kernel⟩
abbrev s_Stands_shows : Stmt := inClass (top 44) 1
abbrev ns_Stands_shows : List Str := ["self", "row", "word"]
theorem cs_Stands_shows : FnScope ns_Stands_shows ["self", "row", "word"] (defScope s_Stands_shows) := ⟨rfl, rfl, rfl, by decide +kernel, rfl, by decide +kernel, by decide +kernel⟩
abbrev s_Never_shows : Stmt := inClass (top 45) 0
abbrev ns_Never_shows : List Str := ["self", "row", "word"]
theorem cs_Never_shows : FnScope ns_Never_shows ["self", "row", "word"] (defScope s_Never_shows) := ⟨rfl, rfl, rfl, by decide +kernel, rfl, by decide +kernel, by decide +kernel⟩
abbrev s_unlike : Stmt := top 47
abbrev ns_unlike : List Str := ["one", "other", "place", "lead", "circle"]
theorem cs_unlike : FnScope ns_unlike ["one", "other"] (defScope s_unlike) := ⟨rfl, rfl, rfl, by decide +kernel, rfl, by decide +kernel, by decide +kernel⟩
abbrev s_stands : Stmt := top 48
abbrev ns_stands : List Str := ["row", "word", "place"]
theorem cs_stands : FnScope ns_stands ["row", "word"] (defScope s_stands) := ⟨rfl, rfl, rfl, by decide +kernel, rfl, by decide +kernel, by decide +kernel⟩
abbrev s_written : Stmt := top 51
abbrev ns_written : List Str := ["row", "lead", "circle", "ahead", "sign"]
theorem cs_written : FnScope ns_written ["row"] (defScope s_written) := ⟨rfl, rfl, rfl, by decide +kernel, rfl, by decide +kernel, by decide +kernel⟩
abbrev s_law_cell_at : Stmt := top 53
abbrev ns_law_cell_at : List Str := ["_law_script", "_law_k"]
theorem cs_law_cell_at : FnScope ns_law_cell_at ["_law_script", "_law_k"] (defScope s_law_cell_at) := ⟨rfl, rfl, rfl, by decide +kernel, rfl, by decide +kernel, by decide +kernel⟩
abbrev s_law_draw : Stmt := top 54
abbrev ns_law_draw : List Str := ["_law_cell", "_law_k", "_law_many", "_law_primes"]
theorem cs_law_draw : FnScope ns_law_draw ["_law_cell", "_law_k", "_law_many"] (defScope s_law_draw) := ⟨rfl, rfl, rfl, by decide +kernel, rfl, by decide +kernel, by decide +kernel⟩
abbrev s_law_row : Stmt := top 55
abbrev ns_law_row : List Str := ["_law_script", "_law_by", "_law_most", "_law_signs", "_law_cut", "_law_lead", "_law_circle", "_law_kind", "_law_k", "_law_cell"]
theorem cs_law_row : FnScope ns_law_row ["_law_script", "_law_by"] (defScope s_law_row) := ⟨rfl, rfl, rfl, by decide +kernel, rfl, by decide +kernel, by decide +kernel⟩
abbrev s_law_sign : Stmt := top 56
abbrev ns_law_sign : List Str := ["_law_row_here", "_law_place"]
theorem cs_law_sign : FnScope ns_law_sign ["_law_row_here", "_law_place"] (defScope s_law_sign) := ⟨rfl, rfl, rfl, by decide +kernel, rfl, by decide +kernel, by decide +kernel⟩
abbrev s_law_whole : Stmt := top 57
abbrev ns_law_whole : List Str := ["_law_number"]
theorem cs_law_whole : FnScope ns_law_whole ["_law_number"] (defScope s_law_whole) := ⟨rfl, rfl, rfl, by decide +kernel, rfl, by decide +kernel, by decide +kernel⟩
abbrev s_law_told : Stmt := top 58
abbrev ns_law_told : List Str := ["_law_found", "_law_many", "_law_part", "_law_sign_here"]
theorem cs_law_told : FnScope ns_law_told ["_law_found"] (defScope s_law_told) := ⟨rfl, rfl, rfl, by decide +kernel, rfl, by decide +kernel, by decide +kernel⟩
abbrev s_law_same : Stmt := top 59
abbrev ns_law_same : List Str := ["_law_one", "_law_other", "_law_enough", "_law_place"]
theorem cs_law_same : FnScope ns_law_same ["_law_one", "_law_other"] (defScope s_law_same) := ⟨rfl, rfl, rfl, by decide +kernel, rfl, by decide +kernel, by decide +kernel⟩
abbrev s_law_kinds : Stmt := top 60
abbrev ns_law_kinds : List Str := ["_law_error", "_law_found"]
theorem cs_law_kinds : FnScope ns_law_kinds ["_law_error"] (defScope s_law_kinds) := ⟨rfl, rfl, rfl, by decide +kernel, rfl, by decide +kernel, by decide +kernel⟩
abbrev s_law_with_row : Stmt := top 61
abbrev ns_law_with_row : List Str := ["_law_door", "_law_row_here", "_law_good"]
theorem cs_law_with_row : FnScope ns_law_with_row ["_law_door", "_law_row_here"] (defScope s_law_with_row) := ⟨rfl, rfl, rfl, by decide +kernel, rfl, by decide +kernel, by decide +kernel⟩
abbrev s_law_more : Stmt := top 62
abbrev ns_law_more : List Str := ["_law_door", "_law_row_here"]
theorem cs_law_more : FnScope ns_law_more ["_law_door", "_law_row_here"] (defScope s_law_more) := ⟨rfl, rfl, rfl, by decide +kernel, rfl, by decide +kernel, by decide +kernel⟩
abbrev s_law_with_place : Stmt := top 63
abbrev ns_law_with_place : List Str := ["_law_door", "_law_place", "_law_row_here"]
theorem cs_law_with_place : FnScope ns_law_with_place ["_law_door", "_law_place"] (defScope s_law_with_place) := ⟨rfl, rfl, rfl, by decide +kernel, rfl, by decide +kernel, by decide +kernel⟩
abbrev s_law_with_step : Stmt := top 64
abbrev ns_law_with_step : List Str := ["_law_start", "_law_step"]
theorem cs_law_with_step : FnScope ns_law_with_step ["_law_start", "_law_step"] (defScope s_law_with_step) := ⟨rfl, rfl, rfl, by decide +kernel, rfl, by decide +kernel, by decide +kernel⟩
abbrev s_law_with_signs : Stmt := top 65
abbrev ns_law_with_signs : List Str := ["_law_door", "_law_signs"]
theorem cs_law_with_signs : FnScope ns_law_with_signs ["_law_door", "_law_signs"] (defScope s_law_with_signs) := ⟨rfl, rfl, rfl, by decide +kernel, rfl, by decide +kernel, by decide +kernel⟩
abbrev s_law_with_sign : Stmt := top 66
abbrev ns_law_with_sign : List Str := ["_law_sign_here", "_law_many"]
theorem cs_law_with_sign : FnScope ns_law_with_sign ["_law_sign_here", "_law_many"] (defScope s_law_with_sign) := ⟨rfl, rfl, rfl, by decide +kernel, rfl, by decide +kernel, by decide +kernel⟩
abbrev s_law_with_base : Stmt := top 67
abbrev ns_law_with_base : List Str := ["_law_door", "_law_base"]
theorem cs_law_with_base : FnScope ns_law_with_base ["_law_door", "_law_base"] (defScope s_law_with_base) := ⟨rfl, rfl, rfl, by decide +kernel, rfl, by decide +kernel, by decide +kernel⟩
abbrev s_law_with_fraction : Stmt := top 68
abbrev ns_law_with_fraction : List Str := ["_law_pair", "_law_base"]
theorem cs_law_with_fraction : FnScope ns_law_with_fraction ["_law_pair", "_law_base"] (defScope s_law_with_fraction) := ⟨rfl, rfl, rfl, by decide +kernel, rfl, by decide +kernel, by decide +kernel⟩
abbrev s_law_told_by : Stmt := top 69
abbrev ns_law_told_by : List Str := ["_law_ask", "_law_one", "_law_other", "_law_error"]
theorem cs_law_told_by : FnScope ns_law_told_by ["_law_ask", "_law_one", "_law_other"] (defScope s_law_told_by) := ⟨rfl, rfl, rfl, by decide +kernel, rfl, by decide +kernel, by decide +kernel⟩
abbrev s_law_all : Stmt := top 70
abbrev ns_law_all : List Str := ["_law_ask", "_law_doors", "_law_things", "_law_due", "_law_door", "_law_thing"]
theorem cs_law_all : FnScope ns_law_all ["_law_ask", "_law_doors", "_law_things", "_law_due"] (defScope s_law_all) := ⟨rfl, rfl, rfl, by decide +kernel, rfl, by decide +kernel, by decide +kernel⟩
abbrev s_law_fractions_right : Stmt := top 71
abbrev ns_law_fractions_right : List Str := ["_law_due", "_law_far", "_law_bases", "_law_row_here", "_law_pairs", "_law_pair"]
theorem cs_law_fractions_right : FnScope ns_law_fractions_right ["_law_due", "_law_far"] (defScope s_law_fractions_right) := ⟨rfl, rfl, rfl, by decide +kernel, rfl, by decide +kernel, by decide +kernel⟩
abbrev s_law : Stmt := top 72
abbrev ns_law : List Str := ["_law_script", "_law_far", "_law_due", "_law_k", "_law_row_here", "_law_kept", "_law_many", "_law_bad", "_law_spot", "_law_rows", "_law_numbers", "_law_great", "_law_sign_here"]
theorem cs_law : FnScope ns_law ["_law_script"] (defScope s_law) := ⟨rfl, rfl, rfl, by decide +kernel, rfl, by decide +kernel, by decide +kernel⟩
end Lr

namespace Lr
open PySem L2
open Evl (Ex)
section
variable {P : Program} {w : World} {K : PySem.W.Frag} {mg : Str → Option Value} {base : Heap} {f : Addr} {fd : FuncData}
theorem ok_is_whole (F : Fun K "is_whole" "is_whole" s_is_whole f fd) (T : Bi mg) : FnOk P w K mg base CX0 1 f fd ["thing"] (SpR K RisWhole) := by
  refine ok_R F cs_is_whole (fun ds d h => ?_) fun cdv A outer s M H vs ds d Q E hr h k q => ?_
  · obtain ⟨x, rfl, _⟩ := h
    rfl
  · obtain ⟨x, rfl, hx, rfl⟩ := h
    refine blk_ret (ee_and (ee_isi (ee_var 0) T.isinstance T.int (kit_int x hx) hx) fun _ => ee_one (ee_not (ee_isi (ee_var 0) T.isinstance T.bool (kit_bool x hx) hx))) k fun v H' e1 h1 => q v H' e1 ?_
    rw [whole_and] at h1
    exact h1
theorem ok_are_signs (F : Fun K "are_signs" "are_signs" s_are_signs f fd) (T : Bi mg) (h1 : H0 P w K mg base "is_whole" 1 ["thing"] (SpR K RisWhole)) : FnOk P w K mg base CX0 2 f fd ["thing"] (SpR K RareSigns) := by
  refine ok_R F cs_are_signs (fun ds d h => ?_) fun cdv A outer s M H vs ds d Q E hr h k q => ?_
  · obtain ⟨x, rfl, _⟩ := h
    rfl
  · have hr1 : Room 1 _ := hr.mono (Nat.le_refl _)
    obtain ⟨x, rfl, ⟨l, rfl, hz, hl, rfl⟩ | ⟨hx, hx2, hx3, rfl⟩⟩ := h
    · refine blk_ret (ee_and (ee_isi (d := .lst l) (ee_var 0) T.isinstance T.list (k := true) (Tn := "list") kit_ll nn_list) fun _ => ee_one (ee_all (bs := l.map wholeP) rfl (EF.ee ((ef_lc (n := l.length) (jx := 1) (Yd := fun i => l.getD i .non) (f := fun i => .bl (wholeP (l.getD i .non))) rfl cs_are_signs.nd
        (iw_list (ee_var 0) fun i hi => getD_some i hi) (blkOk_by (N := ns_are_signs) (sc := defScope s_are_signs) (own := [("sign", 1)]) (by decide +kernel)) (fun _ _ _ _ _ => pg_name cs_are_signs.nd rfl (Or.inl rfl)) (by decide) hz (fun i _ => flat_bl)
        (fun s' H' C cl fp i hi => ee_call h1 hr1 pass0 (ea_cons (ee_var 1) ea_nil) ⟨_, rfl, hl _ (List.mem_of_getElem? (getD_some i hi)), rfl⟩)).is (by
          rw [range_map l .non (fun e => Pd.bl (wholeP e)), List.map_map]
          rfl))) T.all)) k fun v H' e1 g => q v H' e1 ?_
      rw [all_map_id] at g
      exact g
    · have hk : kitB (tyN x) "list" = some false := by
        cases x with
        | raw v => exact absurd rfl hx3
        | obj _ _ _ => exact absurd rfl hx3
        | non => show kitB "NoneType" "list" = some false; decide +kernel
        | bl b => show kitB "bool" "list" = some false; decide +kernel
        | int b => show kitB "int" "list" = some false; decide +kernel
        | str b => show kitB "str" "list" = some false; decide +kernel
        | lst b => exact absurd rfl (hx b)
        | scr b => exact absurd rfl (hx2 b)
        | tup b => show kitB "tuple" "list" = some false; decide +kernel
        | dic b => show kitB "dict" "list" = some false; decide +kernel
        | lam _ _ _ _ => exact absurd rfl hx3
      exact blk_ret (ee_and (l := false) (ee_isi (ee_var 0) T.isinstance T.list hk hx3) fun z => Bool.noConfusion z) k fun v H' e1 g => q v H' e1 g
theorem ok_check_row (F : Fun K "check_row" "check_row" s_check_row f fd) (T : Bi mg) (h1 : H0 P w K mg base "are_signs" 2 ["thing"] (SpR K RareSigns)) : FnOk P w K mg base CX0 3 f fd ["row"] (SpR K RcheckRow) := by
  refine ok_R F cs_check_row (fun ds d h => ?_) fun cdv A outer s M H vs ds d Q E hr h k q => ?_
  · obtain ⟨x, rfl, _⟩ := h
    rfl
  · obtain ⟨r, rfl, hne, l1, l2, rfl⟩ := h
    refine blk_no ((et_w (ew_or (et_not (et_val (ee_isi (d := dR r) (ee_var 0) T.isinstance T.tuple (k := true) (Tn := "tuple") kit_tt nn_tuple))) fun _ => ew_or (et_ne eqI hr (ee_lenT (ee_var 0) T.len) ee_int) fun _ =>
      ew_or (et_not (et_val (ee_call h1 hr pass0 (ea_cons (ee_r0 (ee_var 0)) ea_nil) (signs_ints l1)))) fun _ => ew_or1 (et_not (et_val (ee_call h1 hr pass0 (ea_cons (ee_r1 (ee_var 0)) ea_nil) (signs_ints l2)))))).is (by rfl)) k fun H1 e1 k1 => ?_
    refine blk_no ((et_eq eqI hr (ee_lenI (ee_r1 (ee_var 0)) T.len) ee_int).is (decide_eq_false (by
      have := List.length_pos_iff.mpr hne
      omega))) k1 fun H2 e2 k2 => blk_nil ?_
    exact q _ H2 k2.ex .non
end
end Lr

namespace Lr
open PySem L2
open Evl (Ex)
section
variable {P : Program} {w : World} {K : PySem.W.Frag} {mg : Str → Option Value} {base : Heap} {f : Addr} {fd : FuncData}
theorem ok_shortest (F : Fun K "shortest" "shortest" s_shortest f fd) (T : Bi mg) : FnOk P w K mg base CX0 1 f fd ["circle"] (SpF K Rshort) := by
  refine ok_F F cs_shortest (fun ds d h => ?_) fun cdv A outer s M H vs ds zs Q E hr h k q => ?_
  · obtain ⟨x, rfl, _⟩ := h
    rfl
  · obtain ⟨c, rfl, hz, rfl⟩ := h
    have nd := cs_shortest.nd
    refine blk_set nd 1 (ee_lenI (ee_var 0) T.len) k fun σ1 H1 e1 k1 => ?_
    refine blk_for nd 2 PassesOwn.never rfl (iw_range2 ee_int (ee_var 1) (by omega) (by omega) T.range) k1 (fun B i σ' H' => EO K M B H' σ' [some (dL c), some (.int c.length), none] ∧ ∀ e, e < i → isPart c (e + 1) = false)
      (fun B i σ' H' p => ⟨exM p.1.ex, p.1.kn.al⟩) (fun H2 e2 k2 => ⟨⟨Evl.Ex.refl _, k2.kn⟩, fun e he => by omega⟩) (fun B i v σ' H' H2 hi eB p e2 h2 => ?_) (fun B σ' H' eB p => ?_)
    · have hi' : i < c.length - 1 := by omega
      have h3 : Dt K M H2 v (.int ((i + 1 : Nat) : Int)) := by
        have e : (1 : Int) + (i : Int) = ((i + 1 : Nat) : Int) := by omega
        rw [← e]
        exact h2
      have k2 := (p.1.mono e2).set 2 h3
      refine blk_when ((et_w (ew_and (et_eq eqI hr (ee_mod (ee_var 1) (ee_var 2) (by omega)) ee_int) fun hd => ew_and1 (et_eq eqL hr (ee_var 0) (EF.ee (ef_repI (EF.ee (ef_cutI (ee_var 0) ep_none (ep_some (ee_var 2)))) (ee_div (ee_var 1) (ee_var 2) ⟨by omega, by omega⟩) (Int.ediv_nonneg (by omega) (by omega))
        (Int.le_trans (Int.ediv_le_self _ (by omega)) (by omega)) ?_))))).is (isPart_eq (by omega))) k2 (fun ht H3 e3 k3 => ?_) (fun ht H3 e3 k3 => ?_)
      · have hd := of_decide_eq_true hd
        rw [cut_to, List.length_take, ← Int.natCast_ediv, Int.toNat_natCast]
        refine Nat.le_trans (Nat.mul_le_mul_right _ (Nat.min_le_left _ _)) ?_
        exact Nat.le_trans (Nat.mul_div_le _ _) (by omega)
      · refine blk_retF (ef_cutI (ee_var 0) ep_none (ep_some (ee_var 2))) (k3.base (k1.ex.trans eB)) fun a xs H4 n4 e4 h4 h5 => q a xs H4 n4 e4 h4 ?_
        rw [cut_to] at h5
        rw [short_at hi' ht p.2]
        exact h5
      · refine blk_nil ⟨k3.lose 2, fun e he => ?_⟩
        by_cases hee : e = i
        · rw [hee]
          exact ht
        · exact p.2 e (by omega)
    · refine blk_retF (ef_list (ee_var 0) T.list) (p.1.base (k1.ex.trans eB)) fun a xs H4 n4 e4 h4 h5 => q a xs H4 n4 e4 h4 ?_
      rw [short_none fun e he => p.2 e (by omega)]
      exact h5
theorem ok_least_of (F : Fun K "least_of" "least_of" s_least_of f fd) (T : Bi mg) (h1 : H0 P w K mg base "shortest" 1 ["circle"] (SpF K Rshort)) : FnOk P w K mg base CX0 2 f fd ["lead", "circle"] (SpW K RleastOf) := by
  refine ok_W F cs_least_of (fun ds d h => ?_) fun cdv A outer s M H vs ds r Q E hr h k q => ?_
  · obtain ⟨l, c, rfl, _⟩ := h
    rfl
  · obtain ⟨l, c, rfl, hc, hl, hz, rfl⟩ := h
    have nd := cs_least_of.nd
    have hs := short_ne hc
    have hsl := short_le c
    have hsp : 0 < (short c).length := List.length_pos_iff.mpr hs
    refine blk_set nd 1 (EF.ee (ef_call h1 hr pass0 (ea_cons (ee_var 1) ea_nil) ⟨c, rfl, hz, rfl⟩)) k fun σ1 H1 e1 k1 => ?_
    refine blk_set nd 2 (ee_lenI (ee_var 0) T.len) k1 fun σ2 H2 e2 k2 => ?_
    refine blk_set nd 3 ee_int k2 fun σ3 H3 e3 k3 => ?_
    refine blk_while PassesOwn.never (fun m σ' H' => m ≤ l.length ∧ keepF l (short c) l.length = keepF l (short c) m ∧ EO K M H H' σ' [some (dL l), some (dL (short c)), some (.int (m : Int)), some (.int ((l.length : Int) - m)), none]) l.length
      ⟨Nat.le_refl _, rfl, by rw [Int.sub_self]; exact k3⟩ fun m σ' H' p => ?_
    obtain ⟨p1, p2, p3⟩ := p
    refine ⟨_, _, M, p3.kn, et_w (ew_and (l := decide (l.getD (m - 1) 0 = cz (short c) (-1 - ((l.length : Int) - m)))) (et_gt (ee_var 2) ee_int) fun hd => ew_and1 (et_eq eqI hr (ee_ixI (ee_var 0) (ee_sub (ee_var 2) ee_int) (atI_at (j := m - 1) ?_ ?_))
      (ee_ixI (ee_var 1) (ee_mod (ee_sub (ee_neg ee_int) (ee_var 3)) (ee_lenI (ee_var 1) T.len) (by omega)) (atI_cz hs _)))), fun ht H4 e4 => ?_, fun ht H4 e4 => ?_⟩
    · have := of_decide_eq_true hd
      omega
    · have := of_decide_eq_true hd
      omega
    · rw [Bool.and_eq_true, decide_eq_true_iff, decide_eq_true_iff] at ht
      obtain ⟨t1, t2⟩ := ht
      refine blk_aug nd 2 (f := fun i j => i - j) ip_sub rfl ee_int (p3.mono e4) fun σ5 H5 e5 k5 => blk_aug nd 3 (f := fun i j => i + j) ip_add rfl ee_int k5 fun σ6 H6 e6 k6 => blk_nil ⟨m - 1, by omega, by omega, ?_, ?_⟩
      · rw [p2]
        obtain ⟨j, rfl⟩ : ∃ j, m = j + 1 := ⟨m - 1, by omega⟩
        rw [Nat.add_sub_cancel] at t2 ⊢
        conv => lhs; unfold keepF
        exact if_pos t2
      · have a1 : (m : Int) - 1 = ((m - 1 : Nat) : Int) := by omega
        have a2 : (l.length : Int) - m + 1 = (l.length : Int) - ((m - 1 : Nat) : Int) := by omega
        rw [← a1]
        rw [← a1] at a2
        rw [← a2]
        exact k6
    · have fin : keepF l (short c) l.length = m := by
        rw [p2]
        by_cases hm : m = 0
        · rw [hm]
          rfl
        · obtain ⟨j, rfl⟩ : ∃ j, m = j + 1 := ⟨m - 1, by omega⟩
          unfold keepF
          refine if_neg fun z => ?_
          have z2 : l.getD j 0 = cz (short c) (-1 - ((l.length : Int) - ((j + 1 : Nat) : Int))) := by
            rw [Int.natCast_succ]
            exact z
          rw [Nat.add_sub_cancel, decide_eq_true (show (0 : Int) < ((j + 1 : Nat) : Int) by omega), decide_eq_true z2] at ht
          cases ht
      have hm : m ≤ l.length := p1
      refine blk_set nd 4 (ee_mod (ee_neg (ee_var 3)) (ee_lenI (ee_var 1) T.len) (by omega)) (p3.mono e4) fun σ5 H5 e5 k5 => ?_
      have tl := turnF_lt hs ((l.length : Int) - m)
      have et : -((l.length : Int) - m) % ((short c).length : Int) = ((turnF (short c) ((l.length : Int) - m) : Nat) : Int) := by
        unfold turnF
        exact (Int.toNat_of_nonneg (Int.emod_nonneg _ (by omega))).symm
      refine blk_retW (r := leastF (l, c)) ((ew_tup (ef_cutI (ee_var 0) ep_none (ep_some (ee_var 2))) (ef_catI (EF.ee (ef_cutI (ee_var 1) (ep_some (ee_var 4)) ep_none)) (EF.ee (ef_cutI (ee_var 1) ep_none (ep_some (ee_var 4)))) ?_)).is ?_) k5 q
      · refine Nat.le_trans (Nat.add_le_add (cut_len _ _ _) (cut_len _ _ _)) (by omega)
      · rw [et, cut_to, cut_to, cut_from]
        unfold leastF
        dsimp only
        rw [fin]
        rfl
end
end Lr

namespace Lr
open PySem L2
open Evl (Ex)
section
variable {P : Program} {w : World} {K : PySem.W.Frag} {mg : Str → Option Value} {base : Heap} {f : Addr} {fd : FuncData}
theorem ok_least (F : Fun K "least" "least" s_least f fd) (h1 : H0 P w K mg base "check_row" 3 ["row"] (SpR K RcheckRow)) (h2 : H0 P w K mg base "least_of" 2 ["lead", "circle"] (SpW K RleastOf)) : FnOk P w K mg base CX0 4 f fd ["row"] (SpW K Rleast) := by
  refine ok_W F cs_least (fun ds d h => ?_) fun cdv A outer s M H vs ds r Q E hr h k q => ?_
  · obtain ⟨l, rfl, _⟩ := h
    rfl
  · obtain ⟨r, rfl, a1, a2, a3, rfl⟩ := h
    refine blk_drop (ee_call h1 hr pass0 (ea_cons (ee_var 0) ea_nil) ⟨r, rfl, a1, a2, a3, rfl⟩) k fun H1 e1 k1 => ?_
    exact blk_retW (ew_call h2 (hr.mono (by decide)) pass0 (ea_cons (ee_r0 (ee_var 0)) (ea_cons (ee_r1 (ee_var 0)) ea_nil)) ⟨r.1, r.2, rfl, a1, a2, a3, rfl⟩) k1 q
end
end Lr

namespace Lr
open PySem L2
open Evl (Ex)
section
variable {P : Program} {w : World} {K : PySem.W.Frag} {mg : Str → Option Value} {base : Heap} {f : Addr} {fd : FuncData}
theorem ok_cell (F : Fun K "_law_cell_at" "_law_cell_at" s_law_cell_at f fd) (T : Bi mg) : FnOk P w K mg base CX0 1 f fd ["_law_script", "_law_k"] (SpR K Rcell) := by
  refine ok_R F cs_law_cell_at (fun ds d h => ?_) fun cdv A outer s M H vs ds d Q E hr h k q => ?_
  · obtain ⟨x, j, rfl, _⟩ := h
    rfl
  · obtain ⟨ns, j, rfl, rfl⟩ := h
    refine blk_when (et_lt (ee_var 1) (ee_lenS (ee_var 0) T.len)) k (fun ht H1 e1 k1 => ?_) (fun ht H1 e1 k1 => ?_)
    · have ht := of_decide_eq_true ht
      exact blk_ret (ee_ixS (ee_var 0) (ee_var 1) (atI_at rfl (by omega))) k1 q
    · have ht := of_decide_eq_false ht
      refine blk_ret ee_int k1 fun v H2 e2 h2 => q v H2 e2 ?_
      rw [List.getD_eq_getElem?_getD, List.getElem?_eq_none (by omega)]
      exact h2
theorem ok_draw (F : Fun K "_law_draw" "_law_draw" s_law_draw f fd) : FnOk P w K mg base CX0 1 f fd ["_law_cell", "_law_k", "_law_many"] (SpR K Rdraw) := by
  refine ok_R F cs_law_draw (fun ds d h => ?_) fun cdv A outer s M H vs ds d Q E hr h k q => ?_
  · obtain ⟨x, j, _, rfl, _⟩ := h
    rfl
  · obtain ⟨c, j, m, rfl, hm, hj, hj2, rfl⟩ := h
    refine blk_set cs_law_draw.nd 3 (ee_tup (ea_cons ee_int (ea_cons ee_int (ea_cons ee_int (ea_cons ee_int (ea_cons ee_int (ea_cons ee_int (ea_cons ee_int (ea_cons ee_int (ea_cons ee_int (ea_cons ee_int (ea_cons ee_int (ea_cons ee_int (ea_cons ee_int (ea_cons ee_int (ea_cons ee_int (ea_cons ee_int ea_nil))))))))))))))))) k fun σ1 H1 e1 k1 => ?_
    have b1 := Int.emod_nonneg j (show (16 : Int) ≠ 0 by decide)
    have b2 := Int.emod_lt_of_pos j (show (0 : Int) < 16 by decide)
    have hat : atI (primesL.map Pd.int) (j % 16) = some (.int (primesL.getD (j % 16).toNat 0)) := by
      rw [atI_map, atI_at (l := primesL) (j := (j % 16).toNat) (by omega) (by show _ < 16; omega)]
      rfl
    refine blk_ret (ee_mod (ee_mod (ee_add (ee_mul (ee_var 0) ee_int (.inr (by decide))) (ee_mul (ee_var 1) ee_int (.inr (by decide)))) (ee_ixT (ee_var 3) (ee_mod (ee_var 1) ee_int (by decide)) hat) prime_pos) (ee_var 2) hm) k1 q
theorem ok_sign (F : Fun K "_law_sign" "_law_sign" s_law_sign f fd) (T : Bi mg) : FnOk P w K mg base CX0 1 f fd ["_law_row_here", "_law_place"] (SpR K Rsign) := by
  refine ok_R F cs_law_sign (fun ds d h => ?_) fun cdv A outer s M H vs ds d Q E hr h k q => ?_
  · obtain ⟨x, j, rfl, _⟩ := h
    rfl
  · obtain ⟨r, p, rfl, hne, rfl⟩ := h
    have hc : 0 < r.2.length := List.length_pos_iff.mpr hne
    refine blk_when (et_lt (ee_var 1) (ee_lenI (ee_r0 (ee_var 0)) T.len)) k (fun ht H1 e1 k1 => ?_) (fun ht H1 e1 k1 => ?_)
    · have ht := of_decide_eq_true ht
      rw [sgn_lo (by omega)] at q
      exact blk_ret (ee_ixI (ee_r0 (ee_var 0)) (ee_var 1) (atI_at rfl (by omega))) k1 q
    · have ht := of_decide_eq_false ht
      obtain ⟨i, rfl⟩ : ∃ i, p = r.1.length + i := ⟨p - r.1.length, by omega⟩
      rw [sgn_hi, ← cz_nat] at q
      refine blk_ret (ee_ixI (ee_r1 (ee_var 0)) (ee_mod (ee_sub (ee_var 1) (ee_lenI (ee_r0 (ee_var 0)) T.len)) (ee_lenI (ee_r1 (ee_var 0)) T.len) (by omega)) (atI_cz hne _)) k1 fun v H2 e2 h2 => q v H2 e2 ?_
      rw [show ((r.1.length + i : Nat) : Int) - r.1.length = (i : Int) by omega] at h2
      exact h2
theorem ok_whole (F : Fun K "_law_whole" "_law_whole" s_law_whole f fd) (T : Bi mg) : FnOk P w K mg base CX0 1 f fd ["_law_number"] (SpR K RisWhole) := by
  refine ok_R F cs_law_whole (fun ds d h => ?_) fun cdv A outer s M H vs ds d Q E hr h k q => ?_
  · obtain ⟨x, rfl, _⟩ := h
    rfl
  · obtain ⟨x, rfl, hx, rfl⟩ := h
    refine blk_ret (ee_and (ee_isi (ee_var 0) T.isinstance T.int (kit_int x hx) hx) fun _ => ee_one (ee_not (ee_isi (ee_var 0) T.isinstance T.bool (kit_bool x hx) hx))) k fun v H' e1 h1 => q v H' e1 ?_
    rw [whole_and] at h1
    exact h1
theorem ok_told (F : Fun K "_law_told" "_law_told" s_law_told f fd) (T : Bi mg) (h1 : H0 P w K mg base "_law_whole" 1 ["_law_number"] (SpR K RisWhole)) : FnOk P w K mg base CX0 2 f fd ["_law_found"] (SpR K Rtold) := by
  refine ok_R F cs_law_told (fun ds d h => ?_) fun cdv A outer s M H vs ds d Q E hr h k q => ?_
  · obtain ⟨x, rfl, _⟩ := h
    rfl
  · have hr1 : Room 1 _ := hr
    obtain ⟨r, rfl, z1, z2, rfl⟩ := h
    have nd := cs_law_told.nd
    refine blk_no ((et_w (ew_or (et_not (et_val (ee_isi (d := dR r) (ee_var 0) T.isinstance T.tuple (k := true) (Tn := "tuple") kit_tt nn_tuple))) fun _ => ew_or1 (et_ne eqI hr (ee_lenT (ee_var 0) T.len) ee_int))).is rfl) k fun H1 e1 k1 => ?_
    refine blk_no ((et_w (ew_or (et_not (et_val (ee_isi (d := dL r.1) (ee_r0 (ee_var 0)) T.isinstance T.list (k := true) (Tn := "list") kit_ll nn_list))) fun _ => ew_or1 (et_not (et_val (ee_isi (d := dL r.2) (ee_r1 (ee_var 0)) T.isinstance T.list (k := true) (Tn := "list") kit_ll nn_list))))).is rfl) k1 fun H2 e2 k2 => ?_
    refine blk_when (et_w (ew_or (et_eq eqL hr (ee_r1 (ee_var 0)) ee_nilL) fun _ => ew_or1 (et_not (et_val (ee_all (bs := (r.1 ++ r.2).map fun _ => true) rfl (EF.ee ((ef_lc (n := (r.1 ++ r.2).length) (jx := 3) (Yd := fun i => .int ((r.1 ++ r.2).getD i 0)) (f := fun i => .bl true) rfl nd
        (iw_listI (f := fun i => (r.1 ++ r.2).getD i 0) (EF.ee (ef_catI (ee_r0 (ee_var 0)) (ee_r1 (ee_var 0)) (by omega))) fun i hi => getD_some i hi) (blkOk_by (N := ns_law_told) (sc := defScope s_law_told) (own := [("_law_sign_here", 3)]) (by decide +kernel)) (fun _ _ _ _ _ => pg_name nd rfl (Or.inl rfl)) (by decide)
        (by rw [List.length_append]; omega) (fun i _ => flat_bl)
        (fun s' H' C cl fp i hi => ee_call h1 hr1 pass0 (ea_cons (ee_var 3) ea_nil) ⟨.int ((r.1 ++ r.2).getD i 0), rfl, nn_int, rfl⟩)).is (by
          rw [range_map (r.1 ++ r.2) 0 (fun e => Pd.bl true), List.map_map]
          rfl))) T.all))))) k2 (fun ht H3 e3 k3 => ?_) (fun ht H3 e3 k3 => ?_)
    · have hne : r.2 = [] := by
        rw [Bool.or_eq_true, decide_eq_true_iff] at ht
        rcases ht with ht | ht
        · exact ht
        · rw [all_map_id, List.all_eq_true.mpr (fun _ _ => rfl)] at ht
          cases ht
      refine blk_ret ee_bl k3 fun v H4 e4 h4 => q v H4 e4 ?_
      have : toldB r = false := by
        unfold toldB
        rw [decide_eq_false (fun z => z hne), Bool.false_and]
      rw [this]
      exact h4
    · have hne : r.2 ≠ [] := by
        rw [Bool.or_eq_false_iff, decide_eq_false_iff_not] at ht
        exact ht.1
      have hp : 0 < r.2.length := List.length_pos_iff.mpr hne
      refine blk_set nd 1 (ee_lenI (ee_r1 (ee_var 0)) T.len) k3 fun σ4 H4 e4 k4 => ?_
      refine blk_for nd 2 PassesOwn.never rfl (iw_range2 ee_int (ee_var 1) (by omega) (by omega) T.range) k4 (fun B i σ' H' => EO K M B H' σ' [some (dR r), some (.int r.2.length), none, none] ∧ ∀ e, e < i → isPart r.2 (e + 1) = false)
        (fun B i σ' H' p => ⟨exM p.1.ex, p.1.kn.al⟩) (fun H2 e2 k2 => ⟨⟨Evl.Ex.refl _, k2.kn⟩, fun e he => by omega⟩) (fun B i v σ' H' H2 hi eB p e2 h2 => ?_) (fun B σ' H' eB p => ?_)
      · have h3 : Dt K M H2 v (.int ((i + 1 : Nat) : Int)) := by
          have e : (1 : Int) + (i : Int) = ((i + 1 : Nat) : Int) := by omega
          rw [← e]
          exact h2
        have k2 := (p.1.mono e2).set 2 h3
        refine blk_when ((et_w (ew_and (et_eq eqI hr (ee_mod (ee_var 1) (ee_var 2) (by omega)) ee_int) fun hd => ew_and1 (et_eq eqL hr (ee_r1 (ee_var 0)) (EF.ee (ef_repI (EF.ee (ef_cutI (ee_r1 (ee_var 0)) ep_none (ep_some (ee_var 2)))) (ee_div (ee_var 1) (ee_var 2) ⟨by omega, by omega⟩) (Int.ediv_nonneg (by omega) (by omega))
          (Int.le_trans (Int.ediv_le_self _ (by omega)) (by omega)) ?_))))).is (isPart_eq (by omega))) k2 (fun ht H3 e3 k3 => ?_) (fun ht H3 e3 k3 => ?_)
        · rw [cut_to, List.length_take, ← Int.natCast_ediv, Int.toNat_natCast]
          refine Nat.le_trans (Nat.mul_le_mul_right _ (Nat.min_le_left _ _)) ?_
          exact Nat.le_trans (Nat.mul_div_le _ _) (by omega)
        · refine blk_ret ee_bl (k3.base (k4.ex.trans eB)) fun v H4 e4 h4 => q v H4 e4 ?_
          have : toldB r = false := by
            unfold toldB
            have : (List.range (r.2.length - 1)).all (fun e => !isPart r.2 (e + 1)) = false := by
              rw [List.all_eq_false]
              exact ⟨i, List.mem_range.mpr (by omega), by rw [ht]; decide⟩
            rw [this, Bool.false_and, Bool.and_false]
          rw [this]
          exact h4
        · refine blk_nil ⟨k3.lose 2, fun e he => ?_⟩
          by_cases hee : e = i
          · rw [hee]
            exact ht
          · exact p.2 e (by omega)
      · refine blk_ret (ee_or (l := !decide (r.1.getD (r.1.length - 1) 0 = r.2.getD (r.2.length - 1) 0)) (ee_eq eqL hr (ee_r0 (ee_var 0)) ee_nilL) fun hf => ee_one (ee_ne eqI hr (ee_ixI (ee_r0 (ee_var 0)) (ee_neg ee_int) (atI_lastN (last_get (of_decide_eq_false hf)))) (ee_ixI (ee_r1 (ee_var 0)) (ee_neg ee_int) (atI_lastN (last_get hne)))))
          (p.1.base (k4.ex.trans eB)) fun v H4 e4 h4 => q v H4 e4 ?_
        have hall : (List.range (r.2.length - 1)).all (fun e => !isPart r.2 (e + 1)) = true := by
          rw [List.all_eq_true]
          intro e he
          rw [p.2 e (by have := List.mem_range.mp he; omega)]
          rfl
        unfold toldB
        rw [hall, decide_eq_true hne, Bool.true_and, Bool.true_and]
        exact h4
theorem ok_same (F : Fun K "_law_same" "_law_same" s_law_same f fd) (T : Bi mg) (h1 : H0 P w K mg base "_law_sign" 1 ["_law_row_here", "_law_place"] (SpR K Rsign)) : FnOk P w K mg base CX0 2 f fd ["_law_one", "_law_other"] (SpR K Rsame) := by
  refine ok_R F cs_law_same (fun ds d h => ?_) fun cdv A outer s M H vs ds d Q E hr h k q => ?_
  · obtain ⟨x, y, rfl, _⟩ := h
    rfl
  · have hr1 : Room 1 _ := hr
    obtain ⟨r, t, rfl, hn1, hn2, hz, rfl⟩ := h
    have nd := cs_law_same.nd
    have ez : max (r.1.length : Int) (t.1.length : Int) + r.2.length + t.2.length = ((max r.1.length t.1.length + r.2.length + t.2.length : Nat) : Int) := by omega
    refine blk_set nd 2 ((ee_add (ee_add (ee_max2 rfl (ee_lenI (ee_r0 (ee_var 0)) T.len) (ee_lenI (ee_r0 (ee_var 1)) T.len) T.max) (ee_lenI (ee_r1 (ee_var 0)) T.len)) (ee_lenI (ee_r1 (ee_var 1)) T.len)).is (congrArg Pd.int ez)) k fun σ1 H1 e1 k1 => ?_
    refine blk_ret (ee_all (bs := (List.range (max r.1.length t.1.length + r.2.length + t.2.length)).map fun p => decide (sgn r p = sgn t p)) rfl (EF.ee ((ef_lc (n := max r.1.length t.1.length + r.2.length + t.2.length) (jx := 3) (Yd := fun i => .int i) (f := fun i => .bl (decide (sgn r i = sgn t i))) rfl nd
        (iw_range1 (n := ((max r.1.length t.1.length + r.2.length + t.2.length : Nat) : Int)) (ee_var 2) (by omega) (by omega) T.range) (blkOk_by (N := ns_law_same) (sc := defScope s_law_same) (own := [("_law_place", 3)]) (by decide +kernel)) (fun _ _ _ _ _ => pg_name nd rfl (Or.inl rfl)) (by decide)
        hz (fun i _ => flat_bl)
        (fun s' H' C cl fp i hi => ee_eq eqI hr1 (ee_call h1 hr1 pass0 (ea_cons (ee_var 0) (ea_cons (ee_var 3) ea_nil)) ⟨r, i, rfl, hn1, rfl⟩) (ee_call h1 hr1 pass0 (ea_cons (ee_var 1) (ea_cons (ee_var 3) ea_nil)) ⟨t, i, rfl, hn2, rfl⟩))).is (by
          rw [List.map_map]
          rfl))) T.all) k1 fun v H2 e2 h2 => q v H2 e2 ?_
    rw [all_map_id] at h2
    exact h2
theorem ok_row (F : Fun K "_law_row" "_law_row" s_law_row f fd) (T : Bi mg) (h1 : H0 P w K mg base "_law_cell_at" 1 ["_law_script", "_law_k"] (SpR K Rcell)) (h2 : H0 P w K mg base "_law_draw" 1 ["_law_cell", "_law_k", "_law_many"] (SpR K Rdraw)) :
    FnOk P w K mg base CX0 2 f fd ["_law_script", "_law_by"] (SpR K Rrow) := by
  refine ok_R F cs_law_row (fun ds d h => ?_) fun cdv A outer s M H vs ds d Q E hr h k q => ?_
  · obtain ⟨x, y, rfl, _⟩ := h
    rfl
  · have hr1 : Room 1 _ := hr
    obtain ⟨ns, b, rfl, hn, hb0, hb1, rfl⟩ := h
    have nd := cs_law_row.nd
    refine blk_set nd 2 (ee_ixT (ee_tup (ea_cons ee_int (ea_cons ee_int (ea_cons ee_int (ea_cons ee_int ea_nil))))) (ee_call h2 hr1 pass0 (ea_cons (ee_call h1 hr1 pass0 (ea_cons (ee_var 0) (ea_cons ee_int ea_nil)) ⟨ns, 0, rfl, rfl⟩) (ea_cons (ee_var 1) (ea_cons ee_int ea_nil)))
      ⟨_, _, _, rfl, by decide, hb0, by omega, rfl⟩) (most_at ns b)) k fun σ1 H1 e1 k1 => ?_
    refine blk_setLc2 (n := ns.length) (jx := 8) (jy := 9) (Ya := fun i => .int i) (Yb := fun i => .int (ns.getD i 0)) (f := fun i => .int (drawF (ns.getD i 0) ((i : Int) % 5 + b) (mostF ns b) - mostF ns b / 3)) nd 3 rfl (iw_enumS (f := fun i => ns.getD i 0) (ee_var 0) (fun i hi => getD_some i hi) T.enumerate)
      (blkOk_by (N := ns_law_row) (sc := defScope s_law_row) (own := [("_law_k", 8), ("_law_cell", 9)]) (by decide +kernel)) (fun _ _ _ _ _ => pg_tup rfl (pgs_cons (pg_name nd rfl (Or.inl rfl)) (pgs_cons (pg_name nd rfl (Or.inl rfl)) pgs_nil))) (by decide) (by decide) (by omega) (fun i _ => flat_int)
      (fun s' H' C cl fp i hi => ee_sub (ee_call h2 hr1 pass0 (ea_cons (ee_var 9) (ea_cons (ee_add (ee_mod (ee_var 8) ee_int (by decide)) (ee_var 1)) (ea_cons (ee_var 2) ea_nil))) ⟨_, _, _, rfl, most_pos ns b, by omega, by omega, rfl⟩) (ee_div (ee_var 2) ee_int ⟨by decide, by decide⟩)) k1 fun a xs H2 n2 e2 g1 g2 k2' => ?_
    have g3 : DtAll K (a :: M) H2 xs ((signsF ns b).map .int) := by
      unfold signsF
      rw [List.map_map]
      exact g2
    have k2 := k2'.set 3 (dt_fr k1.kn.al n2 g1 g3)
    have hsl := signs_len ns b
    refine blk_when (et_eq eqI hr (ee_mod (ee_lenS (ee_var 0) T.len) ee_int (by decide)) ee_int) k2 (fun ht H3 e3 k3 => ?_) (fun ht H3 e3 k3 => ?_)
    · have ht := of_decide_eq_true ht
      have ecut : cutP ns (some 1) none = ns.drop 1 := cut_from ns 1
      refine blk_setLc (n := (ns.drop 1).length) (jx := 9) (Yd := fun i => .int ((ns.drop 1).getD i 0)) (f := fun i => .int (greatF ((ns.drop 1).getD i 0))) nd 3 rfl (iw_listI (ns := ns.drop 1) (f := fun i => (ns.drop 1).getD i 0) ((EF.ee (ef_cutS (ee_var 0) (ep_some ee_int) ep_none)).is (by rw [ecut])) (fun i hi => getD_some i hi)) (blkOk_by (N := ns_law_row) (sc := defScope s_law_row) (own := [("_law_cell", 9)]) (by decide +kernel)) (fun _ _ _ _ _ => pg_name nd rfl (Or.inl rfl)) (by decide) (by rw [List.length_drop]; omega) (fun i _ => flat_int)
        (fun s' H' C cl fp i hi => ee_mul (ee_mod (ee_div (ee_var 9) ee_int ⟨by decide, by decide⟩) ((ee_pow ee_int ee_int (by unfold CPow; decide)).is (congrArg Pd.int pow60)) (by decide)) (ee_sub ee_int (ee_mul (ee_mod (ee_var 9) ee_int (by decide)) ee_int (.inr (by decide)))) (.inr (by omega))) k3 fun a xs H4 n4 e4 g4 g5 k4' => ?_
      have g6 : DtAll K (a :: M) H4 xs (((ns.drop 1).map greatF).map .int) := by
        have := range_map (ns.drop 1) 0 (fun c => Pd.int (greatF c))
        rw [this] at g5
        rw [List.map_map]
        exact g5
      have k4 := k4'.set 3 (dt_fr k3.kn.al n4 g4 g6)
      have hl : ((ns.drop 1).map greatF).length = (ns.drop 1).length := List.length_map _
      have c1 := Int.emod_nonneg (ns.getD 0 0) (show (((ns.drop 1).length : Int) + 1) ≠ 0 by omega)
      refine blk_set nd 4 ((ee_mod (ee_ixS (ee_var 0) ee_int (atI_at (j := 0) rfl (by omega))) (ee_add (ee_lenI (ee_var 3) T.len) ee_int) (by omega)).is (z := .int (ns.getD 0 0 % (((ns.drop 1).length : Int) + 1))) (by rw [hl])) k4 fun σ5 H5 e5 k5 => ?_
      have ec : ns.getD 0 0 % (((ns.drop 1).length : Int) + 1) = (((ns.getD 0 0 % (((ns.drop 1).length : Int) + 1)).toNat : Nat) : Int) := (Int.toNat_of_nonneg c1).symm
      refine blk_ret (d := .tup [dL (((ns.drop 1).map greatF).take (ns.getD 0 0 % (((ns.drop 1).length : Int) + 1)).toNat), dL (if ns.getD 0 0 % (((ns.drop 1).length : Int) + 1) < ((ns.drop 1).length : Int) then ((ns.drop 1).map greatF).drop (ns.getD 0 0 % (((ns.drop 1).length : Int) + 1)).toNat else [b % 2])])
        (ee_tup (ea_cons ((EF.ee (ef_cutI (ee_var 3) ep_none (ep_some (ee_var 4)))).is (by rw [ec, cut_to, ← ec])) (ea_cons (ee_if (et_lt (ee_var 4) (ee_lenI (ee_var 3) T.len)) (fun hc => (EF.ee (ef_cutI (ee_var 3) (ep_some (ee_var 4)) ep_none)).is ?_) (fun hc => (EF.ee (ef_lst (ea_cons (ee_mod (ee_var 1) ee_int (by decide)) ea_nil))).is ?_)) ea_nil))) k5 fun v H6 e6 g => q v H6 e6 ?_
      · have hc := of_decide_eq_true hc
        rw [hl] at hc
        rw [if_pos hc, ec, cut_from, ← ec]
      · have hc := of_decide_eq_false hc
        rw [hl] at hc
        rw [if_neg hc]
        rfl
      · have er : dR (rowF ns b) = .tup [dL (((ns.drop 1).map greatF).take (ns.getD 0 0 % (((ns.drop 1).length : Int) + 1)).toNat), dL (if ns.getD 0 0 % (((ns.drop 1).length : Int) + 1) < ((ns.drop 1).length : Int) then ((ns.drop 1).map greatF).drop (ns.getD 0 0 % (((ns.drop 1).length : Int) + 1)).toNat else [b % 2])] := by
          unfold rowF
          rw [if_pos ht]
        rw [er]
        exact g
    · have ht := of_decide_eq_false ht
      have m1 : (0 : Int) < (ns.length : Int) + 1 := by omega
      refine blk_set nd 4 (ee_call h2 hr1 pass0 (ea_cons (ee_call h1 hr1 pass0 (ea_cons (ee_var 0) (ea_cons ee_int ea_nil)) ⟨ns, 1, rfl, rfl⟩) (ea_cons (ee_add (ee_var 1) ee_int) (ea_cons (ee_add (ee_lenS (ee_var 0) T.len) ee_int) ea_nil))) ⟨_, _, _, rfl, m1, by omega, by omega, rfl⟩) k3 fun σ4 H4 e4 k4 => ?_
      have c1 := draw_nn (c := ns.getD 1 0) (k := b + 1) m1
      generalize hcut : drawF (ns.getD 1 0) (b + 1) ((ns.length : Int) + 1) = cut at c1 k4
      have ec : cut = ((cut.toNat : Nat) : Int) := (Int.toNat_of_nonneg c1).symm
      generalize hS : signsF ns b = S at hsl k4
      refine blk_par nd 5 6 rfl ((EF.ee (ef_cutI (ee_var 3) ep_none (ep_some (ee_var 4)))).is (z := dL (S.take cut.toNat)) (by rw [ec, cut_to, ← ec])) ((EF.ee (ef_cutI (ee_var 3) (ep_some (ee_var 4)) ep_none)).is (z := dL (S.drop cut.toNat)) (by rw [ec, cut_from, ← ec])) k4 fun σ5 H5 e5 k5 => ?_
      refine blk_set nd 7 (ee_call h2 hr1 pass0 (ea_cons (ee_call h1 hr1 pass0 (ea_cons (ee_var 0) (ea_cons ee_int ea_nil)) ⟨ns, 2, rfl, rfl⟩) (ea_cons (ee_add (ee_var 1) ee_int) (ea_cons ee_int ea_nil))) ⟨_, _, _, rfl, by decide, by omega, by omega, rfl⟩) k5 fun σ6 H6 e6 k6 => ?_
      generalize hkind : drawF (ns.getD 2 0) (b + 2) 5 = kind at k6
      refine blk_ifSet (d := dL (circ0 S b cut)) nd 6 (et_eq eqL hr (ee_var 6) ee_nilL) (fun hc => (EF.ee (ef_lst (ea_cons (ee_mod (ee_var 1) ee_int (by decide)) ea_nil))).is ?_) (fun hc => ?_) k6 fun σ7 H7 e7 k7 => ?_
      · unfold circ0
        rw [if_pos (of_decide_eq_true hc)]
        rfl
      · unfold circ0
        rw [if_neg (of_decide_eq_false hc)]
        rfl
      have c0l : (circ0 S b cut).length ≤ 63 := by
        have := circ0_len S b cut
        omega
      generalize hc0 : circ0 S b cut = c0 at k7 c0l
      have l0l : (S.take cut.toNat).length ≤ 63 := by
        rw [List.length_take]
        omega
      generalize hl0 : S.take cut.toNat = l0 at k7 l0l
      have eq4 : (1 : Int) + (c0.length : Int) / 4 = ((1 + c0.length / 4 : Nat) : Int) := by omega
      refine blk_ifSet (d := dL (if kind = 1 then rep (c0.take (1 + c0.length / 4)) 3 else c0)) nd 6 (et_eq eqI hr (ee_var 7) ee_int) (fun hc => (EF.ee (ef_repI (EF.ee (ef_cutI (ee_var 6) ep_none (ep_some (ee_add ee_int (ee_div (ee_lenI (ee_var 6) T.len) ee_int ⟨by decide, by decide⟩))))) ee_int (by decide) (by decide) ?_)).is ?_) (fun hc => ?_) k7 fun σ8 H8 e8 k8 => ?_
      · refine Nat.le_trans (Nat.mul_le_mul_right _ (cut_len _ _ _)) ?_
        show c0.length * 3 ≤ _
        omega
      · rw [if_pos (of_decide_eq_true hc), eq4, cut_to]
        rfl
      · rw [if_neg (of_decide_eq_false hc)]
        rfl
      have c1l : (if kind = 1 then rep (c0.take (1 + c0.length / 4)) 3 else c0).length ≤ 200 := by
        split
        · rw [rep_len, List.length_take]
          omega
        · omega
      generalize hc1 : (if kind = 1 then rep (c0.take (1 + c0.length / 4)) 3 else c0) = c1 at k8 c1l
      have eq2 : (c1.length : Int) / 2 = ((c1.length / 2 : Nat) : Int) := by omega
      refine blk_ifSet (d := dL (if kind = 2 then l0 ++ c1.drop (c1.length / 2) else l0)) nd 5 (et_eq eqI hr (ee_var 7) ee_int) (fun hc => (EF.ee (ef_catI (ee_var 5) (EF.ee (ef_cutI (ee_var 6) (ep_some (ee_div (ee_lenI (ee_var 6) T.len) ee_int ⟨by decide, by decide⟩)) ep_none)) ?_)).is ?_) (fun hc => ?_) k8 fun σ9 H9 e9 k9 => ?_
      · have := cut_len c1 (some ((c1.length : Int) / 2)) none
        omega
      · rw [if_pos (of_decide_eq_true hc), eq2, cut_from]
      · rw [if_neg (of_decide_eq_false hc)]
        rfl
      have l1l : (if kind = 2 then l0 ++ c1.drop (c1.length / 2) else l0).length ≤ 300 := by
        split
        · rw [List.length_append, List.length_drop]
          omega
        · omega
      generalize hl1 : (if kind = 2 then l0 ++ c1.drop (c1.length / 2) else l0) = l1 at k9 l1l
      refine blk_ifSet (d := dL (if kind = 3 then c1 ++ c1 else c1)) nd 6 (et_eq eqI hr (ee_var 7) ee_int) (fun hc => (EF.ee (ef_catI (ee_var 6) (ee_var 6) (by omega))).is ?_) (fun hc => ?_) k9 fun σ10 H10 e10 k10 => ?_
      · rw [if_pos (of_decide_eq_true hc)]
      · rw [if_neg (of_decide_eq_false hc)]
        rfl
      have d1 := draw_nn (c := ns.getD 2 0) (k := b + 3) (show (0 : Int) < 4 by decide)
      have d2 := draw_lt (c := ns.getD 2 0) (k := b + 3) (show (0 : Int) < 4 by decide)
      refine blk_ifSet (d := dL (if kind = 4 then rep l1 (1 + drawF (ns.getD 2 0) (b + 3) 4).toNat else l1)) nd 5 (et_eq eqI hr (ee_var 7) ee_int) (fun hc => (EF.ee (ef_repI (ee_var 5) (ee_add ee_int (ee_call h2 hr1 pass0 (ea_cons (ee_call h1 hr1 pass0 (ea_cons (ee_var 0) (ea_cons ee_int ea_nil)) ⟨ns, 2, rfl, rfl⟩) (ea_cons (ee_add (ee_var 1) ee_int) (ea_cons ee_int ea_nil))) ⟨_, _, _, rfl, by decide, by omega, by omega, rfl⟩)) (by omega) (by omega) ?_)).is ?_) (fun hc => ?_) k10 fun σ11 H11 e11 k11 => ?_
      · have h4 : (1 + drawF (ns.getD 2 0) (b + 3) 4).toNat ≤ 4 := by omega
        exact Nat.le_trans (Nat.mul_le_mul l1l h4) (by omega)
      · rw [if_pos (of_decide_eq_true hc)]
        rfl
      · rw [if_neg (of_decide_eq_false hc)]
        rfl
      refine blk_ret (ee_tup (ea_cons (ee_var 5) (ea_cons (ee_var 6) ea_nil))) k11 fun v H12 e12 g => q v H12 e12 ?_
      have er : dR (rowF ns b) = .tup [dL (if kind = 4 then rep l1 (1 + drawF (ns.getD 2 0) (b + 3) 4).toNat else l1), dL (if kind = 3 then c1 ++ c1 else c1)] := by
        unfold rowF
        rw [if_neg ht]
        dsimp only
        rw [hS, hcut, hkind, hc0, hl0, hc1, hl1]
      rw [er]
      exact g
end
end Lr

namespace Lr
open PySem L2
open Evl (Ex)
section
variable {P : Program} {w : World} {K : PySem.W.Frag} {mg : Str → Option Value} {base : Heap} {f : Addr} {fd : FuncData}
def RcheckPlace : List Pd → Pd → Prop := fun ds d => ∃ p q : Int, ds = [.int p, .int q] ∧ q ≤ p ∧ d = .non
theorem ok_check_place (F : Fun K "check_place" "check_place" s_check_place f fd) (h1 : H0 P w K mg base "is_whole" 1 ["thing"] (SpR K RisWhole)) : FnOk P w K mg base CX0 2 f fd ["place", "first"] (SpR K RcheckPlace) := by
  refine ok_R F cs_check_place (fun ds d h => ?_) fun cdv A outer s M H vs ds d Q E hr h k q => ?_
  · obtain ⟨x, y, rfl, _⟩ := h
    rfl
  · have hr1 : Room 1 _ := hr
    obtain ⟨p, g, rfl, hp, rfl⟩ := h
    refine blk_no ((et_w (ew_or (et_not (et_val (ee_call h1 hr1 pass0 (ea_cons (ee_var 0) ea_nil) ⟨.int p, rfl, nn_int, rfl⟩))) fun _ => ew_or1 (et_lt (ee_var 0) (ee_var 1)))).is ?_) k fun H1 e1 k1 => blk_nil (q _ H1 k1.ex .non)
    rw [decide_eq_false (by omega)]
    rfl
end
end Lr

namespace Lr
open PySem L2
open Evl (Ex)
section
variable {P : Program} {w : World} {K : PySem.W.Frag} {mg : Str → Option Value} {base : Heap} {f : Addr} {fd : FuncData}
theorem ok_sign_at (F : Fun K "sign_at" "sign_at" s_sign_at f fd) (T : Bi mg) : FnOk P w K mg base CX0 1 f fd ["row", "place"] (SpR K Rsign) := by
  refine ok_R F cs_sign_at (fun ds d h => ?_) fun cdv A outer s M H vs ds d Q E hr h k q => ?_
  · obtain ⟨x, j, rfl, _⟩ := h
    rfl
  · obtain ⟨r, p, rfl, hne, rfl⟩ := h
    have hc : 0 < r.2.length := List.length_pos_iff.mpr hne
    refine blk_unpack (d1 := dL r.1) (d2 := dL r.2) cs_sign_at.nd 2 3 rfl (ee_var 0) k fun σ0 H0 e0 k0 => ?_
    refine blk_when (et_lt (ee_var 1) (ee_lenI (ee_var 2) T.len)) k0 (fun ht H1 e1 k1 => ?_) (fun ht H1 e1 k1 => ?_)
    · have ht := of_decide_eq_true ht
      rw [sgn_lo (by omega)] at q
      exact blk_ret (ee_ixI (ee_var 2) (ee_var 1) (atI_at rfl (by omega))) k1 q
    · have ht := of_decide_eq_false ht
      obtain ⟨i, rfl⟩ : ∃ i, p = r.1.length + i := ⟨p - r.1.length, by omega⟩
      rw [sgn_hi, ← cz_nat] at q
      refine blk_ret (ee_ixI (ee_var 3) (ee_mod (ee_sub (ee_var 1) (ee_lenI (ee_var 2) T.len)) (ee_lenI (ee_var 3) T.len) (by omega)) (atI_cz hne _)) k1 fun v H2 e2 h2 => q v H2 e2 ?_
      rw [show ((r.1.length + i : Nat) : Int) - r.1.length = (i : Int) by omega] at h2
      exact h2
end
end Lr

namespace Lr
open PySem L2
open Evl (Ex)
section
variable {P : Program} {w : World} {K : PySem.W.Frag} {mg : Str → Option Value} {base : Heap} {f : Addr} {fd : FuncData}
def Rcommon : List Pd → Pd → Prop := fun ds d => ∃ a b : Nat, ds = [.int a, .int b] ∧ d = .int (Nat.gcd a b : Nat)
theorem gcd_loop {X : Cx} {D : Ends} {M : List Addr} {H : Hp} {σ : L2.St} {a b : Nat} {x y : Str} {px py pt pt2 p0 p1 p2 p3 p4 p5 p6 p7 p8 q0 q1 : Pos} {kt k2 j0 : Nat} (hcal : X.calm = true) (nd : X.N.Nodup) (h0 : X.N[0]? = some x) (h1 : X.N[1]? = some y) (hx : X.env.scope.names.lookup x = some .local) (hy : X.env.scope.names.lookup y = some .local)
    (hx1 : (x == ("__debug__" : Str)) = false) (hx2 : (x == ("__classdict__" : Str)) = false) (hy1 : (y == ("__debug__" : Str)) = false) (hy2 : (y == ("__classdict__" : Str)) = false) (hp : PassesOwn (model X.prog X.w) X.A X.env X.xe)
    (hw : swappedStores [.Tuple [.Name x px, .Name y py] kt pt] (.Tuple [.Name y p0, .BinOp (.Name x p1) .Mod (.Name y p2) p3] k2 pt2) X.env = pure (some [x, y]))
    (hs : swapsWithSole [.Tuple [.Name x px, .Name y py] kt pt] (.Tuple [.Name y p0, .BinOp (.Name x p1) .Mod (.Name y p2) p3] k2 pt2) p4.line X.env = pure false)
    (s1 : starEach [.Name y p0, .BinOp (.Name x p1) .Mod (.Name y p2) p3] X.env = (false, eval (.Name y p0) X.env) :: starEach [.BinOp (.Name x p1) .Mod (.Name y p2) p3] X.env) (s2 : starEach [.BinOp (.Name x p1) .Mod (.Name y p2) p3] X.env = (false, eval (.BinOp (.Name x p1) .Mod (.Name y p2) p3) X.env) :: starEach [] X.env)
    (k : EO X.K M H H σ [some (.int a), some (.int b)]) (q : ∀ v H', Ex H H' → Dt X.K M H' v (.int (Nat.gcd a b : Nat)) → D.rt v H') :
    Blk X [.While (.Compare (.Name y p5) [.Gt] [.Constant (.int 0) j0 p6] p7) [.Assign [.Tuple [.Name x px, .Name y py] kt pt] (.Tuple [.Name y p0, .BinOp (.Name x p1) .Mod (.Name y p2) p3] k2 pt2) p4] [] p8, .Return (some (.Name x q0)) q1] D σ H := by
  have vx : ∀ {δ : Dl} {d : Pd} {pos : Pos}, δ[0]? = some (some d) → EE X (.Name x pos) δ d := fun h => ee_var 0 h h0 (.inl hx) hx1 hx2
  have vy : ∀ {δ : Dl} {d : Pd} {pos : Pos}, δ[1]? = some (some d) → EE X (.Name y pos) δ d := fun h => ee_var 1 h h1 (.inl hy) hy1 hy2
  refine blk_while hp (fun m σ' H' => ∃ a' : Nat, Nat.gcd a' m = Nat.gcd a b ∧ EO X.K M H H' σ' [some (.int a'), some (.int m)]) b ⟨a, rfl, k⟩ fun m σ' H' p => ?_
  obtain ⟨a', p1', p2'⟩ := p
  refine ⟨_, _, M, p2'.kn, et_gt (vy rfl) ee_int, fun ht H4 e4 => ?_, fun ht H4 e4 => ?_⟩
  · have ht := of_decide_eq_true ht
    refine blk_par nd 0 1 hcal (vy rfl) ((ee_mod (vx rfl) (vy rfl) ht).is (z := .int ((a' % m : Nat) : Int)) (congrArg Pd.int (Int.natCast_emod a' m).symm)) (p2'.mono e4) (fun σ5 H5 e5 k5 => blk_nil ⟨a' % m, Nat.mod_lt _ (by omega), m, ?_, k5⟩) h0 h1 (by decide) hx hy hw hs s1 s2
    rw [← p1', Nat.gcd_comm m, ← Nat.gcd_rec, Nat.gcd_comm]
  · have ht := of_decide_eq_false ht
    have hm : m = 0 := by omega
    subst hm
    rw [Nat.gcd_zero_right] at p1'
    rw [← p1'] at q
    exact blk_ret (vx rfl) (p2'.mono e4) q
theorem ok_common (F : Fun K "common" "common" s_common f fd) : FnOk P w K mg base CX0 1 f fd ["one", "other"] (SpR K Rcommon) := by
  refine ok_R F cs_common (fun ds d h => ?_) fun cdv A outer s M H vs ds d Q E hr h k q => ?_
  · obtain ⟨x, y, rfl, _⟩ := h
    rfl
  · obtain ⟨a, b, rfl, rfl⟩ := h
    exact gcd_loop rfl cs_common.nd rfl rfl rfl rfl (by decide) (by decide) (by decide) (by decide) PassesOwn.never rfl rfl rfl rfl k q
end
end Lr

namespace Lr
open PySem L2
open Evl (Ex)
def RcheckBase : List Pd → Pd → Prop := fun ds d => ∃ b : Int, ds = [.int b] ∧ 2 ≤ b ∧ b ≤ 1000 ∧ d = .non
def RnumOf : List Pd → Pd → Prop := fun ds d => ∃ (fs : List Int) (b : Int), ds = [dL fs, .int b] ∧ 0 ≤ b ∧ b ≤ 1000 ∧ fs.length ≤ 50000 ∧ d = .tup [.int (numF b 0 fs), .int (b ^ fs.length)]
abbrev dP (a b : Int) : Pd := .tup [.int a, .int b]
def Rfrac : List Pd → Pd → Prop := fun ds d => ∃ (r : Row) (b : Int), ds = [dR r, .int b] ∧ FigR b r ∧ b ≤ 1000 ∧ r.1.length + r.2.length ≤ 1200 ∧ d = dP (frA b r) (frB b r)
def Rfigd : List Pd → Row → Prop := fun ds r => ∃ a e b : Int, ds = [.int a, .int e, .int b] ∧ 0 ≤ a ∧ a < e ∧ e ≤ 1000 ∧ 2 ≤ b ∧ b ≤ 1000 ∧ Fig a e b r
theorem numF_snoc (b f : Int) : ∀ (l : List Int) (a : Int), numF b a (l ++ [f]) = numF b a l * b + f
  | [], a => rfl
  | x :: l, a => numF_snoc b f l _
theorem take_snoc {l : List Int} {i : Nat} (h : i < l.length) : l.take (i + 1) = l.take i ++ [l.getD i 0] := by
  rw [List.take_succ_eq_append_getElem h, getD_lt h]
section
variable {P : Program} {w : World} {K : PySem.W.Frag} {mg : Str → Option Value} {base : Heap} {f : Addr} {fd : FuncData}
theorem ok_check_base {t : Nat} (F : Fun K "check_base" "check_base" s_check_base f fd) (T : Bi mg) (hmost : mg mostFig = some (.int 1000 t)) (hW : H0 P w K mg base "is_whole" 1 ["thing"] (SpR K RisWhole)) : FnOk P w K mg base CX0 2 f fd ["base"] (SpR K RcheckBase) := by
  refine ok_R F cs_check_base (fun ds d h => ?_) fun cdv A outer s M H vs ds d Q E hr h k q => ?_
  · obtain ⟨x, rfl, _⟩ := h
    rfl
  · obtain ⟨b, rfl, b1, b2, rfl⟩ := h
    refine blk_no ((et_w (ew_or (et_not (et_val (ee_call hW hr pass0 (ea_cons (ee_var 0) ea_nil) ⟨.int b, rfl, nn_int, rfl⟩))) fun _ => ew_or1 (et_not (ee_chain (k := decide ((2 : Int) ≤ b)) (k' := decide (b ≤ (1000 : Int))) op_le op_le rd_B0 (fun _ => rd_B0) ee_int (ee_var 0) (ee_globI hmost))))).is (by
      rw [decide_eq_true b1, decide_eq_true b2]
      rfl)) k fun H1 e1 k1 => blk_nil ?_
    exact q _ H1 k1.ex .non
theorem ok_number_of (F : Fun K "number_of" "number_of" s_number_of f fd) : FnOk P w K mg base CX0 1 f fd ["figures", "base"] (SpR K RnumOf) := by
  refine ok_R F cs_number_of (fun ds d h => ?_) fun cdv A outer s M H vs ds d Q E hr h k q => ?_
  · obtain ⟨x, y, rfl, _⟩ := h
    rfl
  · obtain ⟨fs, b, rfl, b0, b1, hz, rfl⟩ := h
    have nd := cs_number_of.nd
    refine blk_set nd 2 ee_int k fun σ1 H1 e1 k1 => blk_set nd 3 ee_int k1 fun σ2 H2 e2 k2 => ?_
    refine blk_for (n := fs.length) (Yd := fun i => .int (fs.getD i 0)) nd 4 PassesOwn.never rfl (iw_listI (f := fun i => fs.getD i 0) (ee_var 0) fun i hi => getD_some i hi) k2
      (fun B i σ' H' => EO K M B H' σ' [some (dL fs), some (.int b), some (.int (numF b 0 (fs.take i))), some (.int (b ^ i)), none])
      (fun B i σ' H' p => ⟨exM p.ex, p.kn.al⟩) (fun H3 e3 k3 => by
        rw [Int.pow_zero]
        exact k3.here) (fun B i v σ' H' H3 hi eB p e3 g3 => ?_) (fun B σ' H' eB p => ?_)
    · have k3 := (p.mono e3).set 4 g3
      refine blk_set nd 2 ((ee_add (ee_mul (ee_var 2) (ee_var 1) (.inr (by omega))) (ee_var 4)).is (z := .int (numF b 0 (fs.take (i + 1)))) (by rw [take_snoc hi, numF_snoc])) k3 fun σ4 H4 e4 k4 => ?_
      refine blk_set nd 3 ((ee_mul (ee_var 3) (ee_var 1) (.inr (by omega))).is (z := .int (b ^ (i + 1))) (by rw [Int.pow_succ])) k4 fun σ5 H5 e5 k5 => blk_nil ?_
      exact k5.lose 4
    · rw [List.take_length] at p
      exact blk_ret (ee_tup (ea_cons (ee_var 2) (ea_cons (ee_var 3) ea_nil))) (p.base (k2.ex.trans eB)) q
theorem num_bits {b : Int} (hb : 2 ≤ b) (hb2 : b ≤ 1000) {fs : List Int} (h : Figs b fs) : (numF b 0 fs).natAbs < 2 ^ (10 * fs.length + 1) ∧ (b ^ fs.length - 1).natAbs < 2 ^ (10 * fs.length + 1) ∧ (b ^ fs.length).natAbs < 2 ^ (10 * fs.length + 1) := by
  obtain ⟨n1, n2⟩ := num_bd hb h
  have h1 := pow_lt_bits (by omega) hb2 fs.length
  have h2 : 0 < b ^ fs.length := Int.pow_pos (by omega)
  rw [Nat.pow_succ]
  have h3 : 0 < 2 ^ (10 * fs.length) := Nat.pow_pos (by decide)
  omega
theorem ok_fraction (F : Fun K "fraction" "fraction" s_fraction f fd) (T : Bi mg) (hR : H0 P w K mg base "check_row" 3 ["row"] (SpR K RcheckRow)) (hB : H0 P w K mg base "check_base" 2 ["base"] (SpR K RcheckBase)) (hN : H0 P w K mg base "number_of" 1 ["figures", "base"] (SpR K RnumOf)) (hC : H0 P w K mg base "common" 1 ["one", "other"] (SpR K Rcommon)) :
    FnOk P w K mg base CX0 4 f fd ["row", "base"] (SpR K Rfrac) := by
  refine ok_R F cs_fraction (fun ds d h => ?_) fun cdv A outer s M H vs ds d Q E hr h k q => ?_
  · obtain ⟨x, y, rfl, _⟩ := h
    rfl
  · have hr1 : Room 1 _ := hr.mono (by decide)
    have hr2 : Room 2 _ := hr.mono (by decide)
    obtain ⟨r, b, rfl, fr, b1, hz, rfl⟩ := h
    have b2 := fr.b2
    have nd := cs_fraction.nd
    refine blk_drop (ee_call hR hr pass0 (ea_cons (ee_var 0) ea_nil) ⟨r, rfl, fr.ne, by omega, by omega, rfl⟩) k fun H1 e1 k1 => ?_
    refine blk_drop (ee_call hB hr2 pass0 (ea_cons (ee_var 1) ea_nil) ⟨b, rfl, b2, b1, rfl⟩) k1 fun H2 e2 k2 => ?_
    have hal : (r.1 ++ r.2).length = r.1.length + r.2.length := List.length_append
    have hin : ∀ i, i < (r.1 ++ r.2).length → 0 ≤ (r.1 ++ r.2).getD i 0 ∧ (r.1 ++ r.2).getD i 0 < b := fun i hi => by
      have hm : (r.1 ++ r.2).getD i 0 ∈ r.1 ++ r.2 := by
        rw [getD_lt hi]
        exact List.getElem_mem hi
      rcases List.mem_append.mp hm with z | z
      · exact fr.l _ z
      · exact fr.c _ z
    refine blk_no ((et_not (et_val (ee_all (bs := (r.1 ++ r.2).map fun _ => true) rfl (EF.ee ((ef_lc (n := (r.1 ++ r.2).length) (jx := 9) (Yd := fun i => .int ((r.1 ++ r.2).getD i 0)) (f := fun i => .bl true) rfl nd
        (iw_listI (f := fun i => (r.1 ++ r.2).getD i 0) (EF.ee (ef_catI (ee_r0 (ee_var 0)) (ee_r1 (ee_var 0)) (by omega))) fun i hi => getD_some i hi) (blkOk_by (N := ns_fraction) (sc := defScope s_fraction) (own := [("sign", 9)]) (by decide +kernel)) (fun _ _ _ _ _ => pg_name nd rfl (Or.inl rfl)) (by decide)
        (by omega) (fun i _ => flat_bl)
        (fun s' H' C cl fp i hi => (ee_chainV (k := decide ((0 : Int) ≤ (r.1 ++ r.2).getD i 0)) (k' := decide ((r.1 ++ r.2).getD i 0 < b)) op_le op_lt rd_B0 (fun _ => rd_B0) ee_int (ee_var 9) (ee_var 1)).is (by
          rw [decide_eq_true (hin i hi).1, decide_eq_true (hin i hi).2]
          rfl))).is (by
          rw [range_map (r.1 ++ r.2) 0 (fun e => Pd.bl true), List.map_map]
          rfl))) T.all))).is (by
            rw [all_map_id, List.all_eq_true.mpr (fun _ _ => rfl)]
            rfl)) k2 fun H3 e3 k3 => ?_
    refine blk_unpack nd 2 3 rfl (ee_call hN hr1 pass0 (ea_cons (ee_r0 (ee_var 0)) (ea_cons (ee_var 1) ea_nil)) ⟨r.1, b, rfl, by omega, b1, by omega, rfl⟩) k3 fun σ4 H4 e4 k4 => ?_
    refine blk_unpack nd 4 5 rfl (ee_call hN hr1 pass0 (ea_cons (ee_r1 (ee_var 0)) (ea_cons (ee_var 1) ea_nil)) ⟨r.2, b, rfl, by omega, b1, by omega, rfl⟩) k4 fun σ5 H5 e5 k5 => ?_
    obtain ⟨w1, _, w3⟩ := num_bits b2 b1 fr.l
    obtain ⟨_, w2, _⟩ := num_bits b2 b1 fr.c
    obtain ⟨a0, a1⟩ := above_bd fr
    have p0 := below_pos fr
    refine blk_set nd 6 ((ee_add (ee_mulW (ee_var 2) (ee_sub (ee_var 5) ee_int) (wide_mul w1 w2 (by omega) (by omega) (by omega))) (ee_var 4)).is (z := .int (aboveF b r)) rfl) k5 fun σ6 H6 e6 k6 => ?_
    refine blk_set nd 7 ((ee_mulW (ee_var 3) (ee_sub (ee_var 5) ee_int) (wide_mul w3 w2 (by omega) (by omega) (by omega))).is (z := .int (belowF b r)) rfl) k6 fun σ7 H7 e7 k7 => ?_
    have za : aboveF b r = ((aboveF b r).toNat : Nat) := (Int.toNat_of_nonneg a0).symm
    have zb : belowF b r = ((belowF b r).toNat : Nat) := (Int.toNat_of_nonneg (by omega)).symm
    refine blk_set nd 8 (ee_call hC hr1 pass0 (ea_cons (ee_var 6) (ea_cons (ee_var 7) ea_nil)) ⟨(aboveF b r).toNat, (belowF b r).toNat, by rw [← za, ← zb], rfl⟩) k7 fun σ8 H8 e8 k8 => ?_
    have g := by_pos fr
    have bb := below_bits fr b1
    have up : 2 ^ (10 * (r.1.length + r.2.length)) ≤ 2 ^ (10 * (r.1.length + r.2.length) + 1) := Nat.pow_le_pow_right (by decide) (by omega)
    refine blk_ret (ee_tup (ea_cons (ee_divV (ee_var 6) (ee_var 8) (div_bits (n := 10 * (r.1.length + r.2.length) + 1) (by show (0 : Int) < byF b r; omega) (by omega) (by omega) (by omega))) (ea_cons (ee_divV (ee_var 7) (ee_var 8) (div_bits (n := 10 * (r.1.length + r.2.length) + 1) (by show (0 : Int) < byF b r; omega) (by omega) (by omega) (by omega))) ea_nil))) k8 q
def metL (a d b : Int) (k : Nat) : List (Int × Int) := (List.range k).map fun j => (restF a d b j, (j : Int))
theorem metL_len {a d b : Int} (k : Nat) : (metL a d b k).length = k := by
  unfold metL
  rw [List.length_map, List.length_range]
theorem metL_succ {a d b : Int} (k : Nat) : metL a d b (k + 1) = metL a d b k ++ [(restF a d b k, (k : Int))] := by
  unfold metL
  rw [List.range_succ, List.map_append]
  rfl
theorem digL_succ {a d b : Int} (k : Nat) : digL a d b (k + 1) = digL a d b k ++ [digF a d b k] := by
  unfold digL
  rw [List.range_succ, List.map_append]
  rfl
theorem metL_none {a d b : Int} {k : Nat} (h : metB a d b k = false) : lookI (metL a d b k) (restF a d b k) = none := by
  unfold lookI
  rw [Option.map_eq_none_iff, List.find?_eq_none]
  intro p hp
  unfold metL at hp
  obtain ⟨j, hj, rfl⟩ := List.mem_map.mp hp
  intro e
  have e := of_decide_eq_true e
  have := met_iff.mpr ⟨j, List.mem_range.mp hj, e⟩
  rw [h] at this
  cases this
theorem metL_some {a d b : Int} {k : Nat} (h : metB a d b k = true) : ∃ j : Nat, j < k ∧ restF a d b j = restF a d b k ∧ lookI (metL a d b k) (restF a d b k) = some (j : Int) := by
  cases hl : lookI (metL a d b k) (restF a d b k) with
  | none =>
    obtain ⟨j, h1, h2⟩ := met_iff.mp h
    unfold lookI at hl
    rw [Option.map_eq_none_iff, List.find?_eq_none] at hl
    have := hl (restF a d b j, (j : Int)) (by
      unfold metL
      exact List.mem_map.mpr ⟨j, List.mem_range.mpr h1, rfl⟩)
    exact absurd (decide_eq_true h2) this
  | some y =>
    unfold lookI at hl
    obtain ⟨p, h1, h2⟩ := Option.map_eq_some_iff.mp hl
    have m := List.mem_of_find?_eq_some h1
    have e := List.find?_some h1
    have e := of_decide_eq_true e
    unfold metL at m
    obtain ⟨j, hj, rfl⟩ := List.mem_map.mp m
    exact ⟨j, List.mem_range.mp hj, e, by rw [← h2]⟩
theorem ok_figured {t : Nat} (F : Fun K "figured" "figured" s_figured f fd) (T : Bi mg) (hmost : mg mostFig = some (.int 1000 t)) (hW : H0 P w K mg base "is_whole" 1 ["thing"] (SpR K RisWhole)) (hB : H0 P w K mg base "check_base" 2 ["base"] (SpR K RcheckBase)) (hL : H0 P w K mg base "least_of" 2 ["lead", "circle"] (SpW K RleastOf)) :
    FnOk P w K mg base CX0 3 f fd ["above", "below", "base"] (SpW K Rfigd) := by
  refine ok_W F cs_figured (fun ds d h => ?_) fun cdv A outer s M H vs ds r Q E hr h k q => ?_
  · obtain ⟨x, y, z, rfl, _⟩ := h
    rfl
  · have hr1 : Room 1 _ := hr.mono (by decide)
    have hu := hu_of hr
    obtain ⟨a, e, b, rfl, a0, a1, z1, b2, b1, hfig⟩ := h
    have nd := cs_figured.nd
    refine blk_no ((et_w (ew_or (et_not (et_val (ee_call hW hr1 pass0 (ea_cons (ee_var 0) ea_nil) ⟨.int a, rfl, nn_int, rfl⟩))) fun _ => ew_or (et_not (et_val (ee_call hW hr1 pass0 (ea_cons (ee_var 1) ea_nil) ⟨.int e, rfl, nn_int, rfl⟩))) fun _ =>
      ew_or (et_not (ee_chain (k := decide ((1 : Int) ≤ e)) (k' := decide (e ≤ (1000 : Int))) op_le op_le rd_B0 (fun _ => rd_B0) ee_int (ee_var 1) (ee_globI hmost))) fun _ => ew_or1 (et_not (ee_chain (k := decide ((0 : Int) ≤ a)) (k' := decide (a < e)) op_le op_lt rd_B0 (fun _ => rd_B0) ee_int (ee_var 0) (ee_var 1))))).is (by
      rw [decide_eq_true (show (1 : Int) ≤ e by omega), decide_eq_true z1, decide_eq_true a0, decide_eq_true a1]
      rfl)) k fun H1 e1 k1 => ?_
    refine blk_drop (ee_call hB hr pass0 (ea_cons (ee_var 2) ea_nil) ⟨b, rfl, b2, b1, rfl⟩) k1 fun H2 e2 k2 => ?_
    refine blk_dnew nd 3 fun p np => ?_
    have ep : Ex H2 (upd H2 p (.dK [])) := Evl.Ex.new np
    have k3 : EO K (p :: M) H (upd H2 p (.dK [])) _ _ := (k2.more np ep upd_same).set 3 (.raw (.ref p))
    refine blk_setF nd 4 (ef_lst ea_nil) k3 fun l xs H4 n4 e4 g4 g4' k4 => ?_
    have zl := dtI_inv (ns := []) g4'
    rw [zl] at g4
    have k4 : EO K (l :: p :: M) H H4 _ _ := (k3.more n4 e4 g4).set 4 (.raw (.ref l))
    have hp4 : H4 p = some (.dK (kvP (metL a e b 0))) := e4 _ _ upd_same
    have hlp : l ≠ p := fun z => by
      rw [z, upd_same] at n4
      cases n4
    have pM : p ∉ M := k2.kn.al.nw np
    have lM : l ∉ M := (k3.kn.less fun y hy => List.mem_cons_of_mem _ hy).al.nw n4
    have pH : H p = none := Evl.fresh_back k2.ex np
    have lH : H l = none := Evl.fresh_back (k2.ex.trans ep) n4
    refine blk_set nd 5 (ee_var 0) k4 fun σ5 H5 e5 k5 => ?_
    have ml : l ∈ l :: p :: M := List.mem_cons_self ..
    have mp : p ∈ l :: p :: M := List.mem_cons_of_mem _ (List.mem_cons_self ..)
    refine blk_while PassesOwn.never (fun m σ' H' => ∃ j : Nat, m + j = e.toNat + 1 ∧ (∀ u, u < j → metB a e b u = false) ∧ EO K (l :: p :: M) H H' σ' [some (.int a), some (.int e), some (.int b), some (.raw (.ref p)), some (.raw (.ref l)), some (.int (restF a e b j))] ∧
        H' p = some (.dK (kvP (metL a e b j))) ∧ H' l = some (.lst ((digL a e b j).map V.int))) (e.toNat + 1)
      ⟨0, rfl, fun u hu => absurd hu (Nat.not_lt_zero u), k5, e5 _ _ hp4, e5 _ _ g4⟩ fun m σ' H' pv => ?_
    obtain ⟨j, p1, p2, p3, p4, p5⟩ := pv
    have few := rests_few (b := b) a0 a1 p2
    have kr : EO K M H H' σ' [some (.int a), some (.int e), some (.int b), some (.dic (metL a e b j)), some (dL (digL a e b j)), some (.int (restF a e b j))] := ⟨p3.ex, ((p3.kn.less (M' := M) fun y hy => List.mem_cons_of_mem _ (List.mem_cons_of_mem _ hy)).turn (i := 3) (e := .dic (metL a e b j)) rfl fun v hv => by
        cases dt_raw hv
        exact .dic pM p4).turn (i := 4) (e := dL (digL a e b j)) rfl fun v hv => by
        cases dt_raw hv
        exact .lst lM p5 (dtI _)⟩
    refine ⟨_, _, M, kr.kn, et_dnotin hu (ee_var 5) (ee_var 3), fun ht H6 e6 => ?_, fun ht H6 e6 => ?_⟩
    · have hmb : metB a e b j = false := by
        cases hb : metB a e b j with
        | false => rfl
        | true =>
          obtain ⟨i, _, _, e3⟩ := metL_some hb
          rw [e3] at ht
          cases ht
      have few2 := rests_few (b := b) a0 a1 (k := j + 1) fun u hu => by
        by_cases hj : u < j
        · exact p2 u hj
        · rw [show u = j by omega]
          exact hmb
      have p36 := p3.mono e6
      refine blk_dput hu ((ee_lenI (ee_var 4) T.len).is (z := .int (j : Int)) (by rw [digL_len])) (ee_var 3) (ee_var 5) (e6 _ _ p4) (metL_none hmb) (by rw [metL_len]; omega) (kr.mono e6).kn p36 mp pH fun H7 e7 k7 => ?_
      rw [← metL_succ] at k7 ⊢
      have h7 : (upd H7 p (.dK (kvP (metL a e b (j + 1))))) l = some (.lst ((digL a e b j).map V.int)) := by
        rw [upd_ne hlp]
        exact (e6.trans e7) _ _ p5
      refine blk_append (d := .int (digF a e b j)) (ee_var 4) ((ee_div (ee_mul (ee_var 5) (ee_var 2) (.inr (by omega))) (ee_var 1) ⟨by omega, by omega⟩).is rfl) h7 (by rw [List.length_map, digL_len]; omega) ml lH k7 fun v H8 e8 g8 k8 => ?_
      cases dt_int g8
      have e9 : (digL a e b j).map V.int ++ [V.int (digF a e b j)] = (digL a e b (j + 1)).map V.int := by
        rw [digL_succ, List.map_append]
        rfl
      rw [e9] at k8 ⊢
      refine blk_set nd 5 ((ee_mod (ee_mul (ee_var 5) (ee_var 2) (.inr (by omega))) (ee_var 1) (by omega)).is (z := .int (restF a e b (j + 1))) rfl) k8 fun σ9 H9 e9' k9 => blk_nil ⟨m - 1, by omega, j + 1, by omega, fun u hu => ?_, k9, ?_, ?_⟩
      · by_cases hj : u < j
        · exact p2 u hj
        · rw [show u = j by omega]
          exact hmb
      · refine e9' _ _ ?_
        rw [upd_ne (fun z => hlp z.symm)]
        exact e8 _ _ upd_same
      · exact e9' _ _ upd_same
    · have hmb : metB a e b j = true := by
        cases hb : metB a e b j with
        | true => rfl
        | false =>
          rw [metL_none hb] at ht
          cases ht
      obtain ⟨i, i1, i2, i3⟩ := metL_some hmb
      have hfa := fig_at i1 i2
      have er := fig_one hfa hfig
      have hdl : (digL a e b j).length = j := digL_len j
      have hc : (digL a e b j).drop i ≠ [] := fun z => by
        have := congrArg List.length z
        rw [List.length_drop, hdl] at this
        have : j - i = 0 := this
        omega
      refine blk_retW (r := r) ((ew_call hL hr pass0 (ea_cons ((EF.ee (ef_cutI (ee_var 4) ep_none (ep_some (ee_dget hu (ee_var 3) (ee_var 5) i3)))).is (z := dL ((digL a e b j).take i)) (by rw [cut_to])) (ea_cons ((EF.ee (ef_cutI (ee_var 4) (ep_some (ee_dget hu (ee_var 3) (ee_var 5) i3)) ep_none)).is (z := dL ((digL a e b j).drop i)) (by rw [cut_from])) ea_nil))
        ⟨(digL a e b j).take i, (digL a e b j).drop i, rfl, hc, by rw [List.length_take]; omega, by rw [List.length_drop]; omega, rfl⟩).is er) (kr.mono e6) q
end
end Lr

namespace Lr
open PySem L2
open Evl (Ex)
/-! the program's defs where they refuse -/
theorem EW.is {X : Cx} {e : Expr} {δ : Dl} {p q : Bool} (h : EW X e δ p) (w : p = q) : EW X e δ q := w ▸ h
section
variable {X : Cx} {δ : Dl} {a b : Expr} {es : List Expr} {pos : Pos} {k l : Bool}
theorem ew_orT (h : ET X a δ k) (hk : k = true) : EW X (.BoolOp .Or (a :: b :: es) pos) δ true := (ew_or (l := true) h (fun z => by rw [hk] at z; cases z)).is (by rw [hk]; rfl)
theorem ew_orF (h : ET X a δ k) (hk : k = false) (h2 : EW X (.BoolOp .Or (b :: es) pos) δ l) : EW X (.BoolOp .Or (a :: b :: es) pos) δ l := (ew_or h fun _ => h2).is (by rw [hk]; rfl)
end
def isTupB : Pd → Bool
  | .tup _ => true
  | _ => false
theorem kit_tup (d : Pd) (h : tyN d ≠ "") : kitB (tyN d) "tuple" = some (isTupB d) := by
  cases d with
  | raw v => exact absurd rfl h
  | obj _ _ _ => exact absurd rfl h
  | lam _ _ _ _ => exact absurd rfl h
  | non => show kitB "NoneType" "tuple" = some false; decide +kernel
  | bl b => show kitB "bool" "tuple" = some false; decide +kernel
  | int b => show kitB "int" "tuple" = some false; decide +kernel
  | str b => show kitB "str" "tuple" = some false; decide +kernel
  | lst b => show kitB "list" "tuple" = some false; decide +kernel
  | scr b => show kitB "list" "tuple" = some false; decide +kernel
  | tup b => show kitB "tuple" "tuple" = some true; decide +kernel
  | dic b => show kitB "dict" "tuple" = some false; decide +kernel
def isLstB : Pd → Bool
  | .lst _ => true
  | .scr _ => true
  | _ => false
theorem kit_lst (d : Pd) (h : tyN d ≠ "") : kitB (tyN d) "list" = some (isLstB d) := by
  cases d with
  | raw v => exact absurd rfl h
  | obj _ _ _ => exact absurd rfl h
  | lam _ _ _ _ => exact absurd rfl h
  | non => show kitB "NoneType" "list" = some false; decide +kernel
  | bl b => show kitB "bool" "list" = some false; decide +kernel
  | int b => show kitB "int" "list" = some false; decide +kernel
  | str b => show kitB "str" "list" = some false; decide +kernel
  | lst b => show kitB "list" "list" = some true; decide +kernel
  | scr b => show kitB "list" "list" = some true; decide +kernel
  | tup b => show kitB "tuple" "list" = some false; decide +kernel
  | dic b => show kitB "dict" "list" = some false; decide +kernel
def sgB : Pd → Bool
  | .lst l => l.all wholeP
  | _ => false
/-- what are_signs may be asked of -/
def OkS (x : Pd) : Prop := (∃ l, x = .lst l ∧ l.length ≤ 50000 ∧ ∀ e ∈ l, tyN e ≠ "") ∨ ((∀ l, x ≠ .lst l) ∧ (∀ l, x ≠ .scr l) ∧ tyN x ≠ "")
theorem oks_sg {x : Pd} (h : OkS x) : RareSigns [x] (.bl (sgB x)) := by
  refine ⟨x, rfl, ?_⟩
  rcases h with ⟨l, rfl, h1, h2⟩ | ⟨h1, h2, h3⟩
  · exact .inl ⟨l, rfl, h1, h2, rfl⟩
  · refine .inr ⟨h1, h2, h3, ?_⟩
    cases x with
    | lst l => exact absurd rfl (h1 l)
    | _ => rfl
theorem oks_ints {ns : List Int} (h : ns.length ≤ 50000) : OkS (dL ns) ∧ sgB (dL ns) = true := ⟨.inl ⟨_, rfl, by rw [List.length_map]; exact h, fun e he => by
  obtain ⟨i, _, rfl⟩ := List.mem_map.mp he
  exact nn_int⟩, whole_ints ns⟩
inductive BadRow : Pd → Prop
  | no {d : Pd} : tyN d ≠ "" → isTupB d = false → BadRow d
  | len {ds : List Pd} : ds.length ≠ 2 → BadRow (.tup ds)
  | lead {x y : Pd} : OkS x → sgB x = false → BadRow (.tup [x, y])
  | round {x y : Pd} : OkS x → sgB x = true → OkS y → sgB y = false → BadRow (.tup [x, y])
  | none {x : Pd} : OkS x → sgB x = true → BadRow (.tup [x, dL []])
def Gd (r : Row) : Prop := r.2 ≠ [] ∧ r.1.length ≤ 50000 ∧ r.2.length ≤ 50000
theorem Gd.chk {r : Row} (h : Gd r) : RcheckRow [dR r] .non := ⟨r, rfl, h.1, h.2.1, h.2.2, rfl⟩
def badPl (d : Pd) (g : Int) : Prop := tyN d ≠ "" ∧ (wholeP d = false ∨ ∃ i, d = .int i ∧ i < g)
section
variable {P : Program} {w : World} {K : PySem.W.Frag} {mg : Str → Option Value} {base : Heap} {f : Addr} {fd : FuncData} {CR CP CS CB CF CQ : Addr}
abbrev HX (P : Program) (w : World) (K : PySem.W.Frag) (mg : Str → Option Value) (base : Heap) := Has P w K mg base (L2N.CX P w)
def RxRow (CR : Addr) : List Pd → Addr → Prop := fun ds C => ∃ d, ds = [d] ∧ BadRow d ∧ C = CR
theorem ok_check_rowX (F : Fun K "check_row" "check_row" s_check_row f fd) (T : Bi mg) (xr : XC K mg "BadRow" CR) (h1 : H0 P w K mg base "are_signs" 2 ["thing"] (SpR K RareSigns)) : FnOk P w K mg base (L2N.CX P w) 3 f fd ["row"] (SpX K (RxRow CR)) := by
  refine ok_X F cs_check_row (fun ds C h => ?_) fun cdv A outer s M H vs ds C Q E hr h k q => ?_
  · obtain ⟨x, rfl, _⟩ := h
    rfl
  · obtain ⟨d, rfl, hd, rfl⟩ := h
    cases hd with
    | no h2 h3 => exact blk_yesX (et_w (ew_orT (et_not (et_val (ee_isi (ee_var 0) T.isinstance T.tuple (kit_tup d h2) h2))) (by rw [h3]; rfl))) rfl xr takesX rfl k q
    | len h2 => exact blk_yesX (et_w (ew_orF (et_not (et_val (ee_isi (d := .tup _) (ee_var 0) T.isinstance T.tuple (k := true) (Tn := "tuple") kit_tt nn_tuple))) (by rfl) (ew_orT (et_ne eqI hr (ee_lenT (ee_var 0) T.len) ee_int) (by
        simp only [Bool.not_eq_true', decide_eq_false_iff_not]
        omega)))) rfl xr takesX rfl k q
    | lead h2 h3 => exact blk_yesX (et_w (ew_orF (et_not (et_val (ee_isi (d := .tup _) (ee_var 0) T.isinstance T.tuple (k := true) (Tn := "tuple") kit_tt nn_tuple))) (by rfl) (ew_orF (et_ne eqI hr (ee_lenT (ee_var 0) T.len) ee_int) (by simp) (ew_orT (et_not (et_val (ee_call h1 hr pass0 (ea_cons (ee_ixT (ee_var 0) ee_int rfl) ea_nil) (oks_sg h2)))) (by rw [h3]; rfl))))) rfl xr takesX rfl k q
    | round h2 h3 h4 h5 => exact blk_yesX (et_w (ew_orF (et_not (et_val (ee_isi (d := .tup _) (ee_var 0) T.isinstance T.tuple (k := true) (Tn := "tuple") kit_tt nn_tuple))) (by rfl) (ew_orF (et_ne eqI hr (ee_lenT (ee_var 0) T.len) ee_int) (by simp) (ew_orF (et_not (et_val (ee_call h1 hr pass0 (ea_cons (ee_ixT (ee_var 0) ee_int rfl) ea_nil) (oks_sg h2)))) (by rw [h3]; rfl)
        (ew_or1 (et_not (et_val (ee_call h1 hr pass0 (ea_cons (ee_ixT (ee_var 0) ee_int rfl) ea_nil) (oks_sg h4))))))))) (by rw [h5]; rfl) xr takesX rfl k q
    | none h2 h3 =>
      refine blk_no (et_w (ew_orF (et_not (et_val (ee_isi (d := .tup _) (ee_var 0) T.isinstance T.tuple (k := true) (Tn := "tuple") kit_tt nn_tuple))) (by rfl) (ew_orF (et_ne eqI hr (ee_lenT (ee_var 0) T.len) ee_int) (by simp) (ew_orF (et_not (et_val (ee_call h1 hr pass0 (ea_cons (ee_ixT (ee_var 0) ee_int rfl) ea_nil) (oks_sg h2)))) (by rw [h3]; rfl)
        (ew_or1 (et_not (et_val (ee_call h1 hr pass0 (ea_cons (ee_ixT (ee_var 0) ee_int rfl) ea_nil) (oks_sg (oks_ints (ns := []) (by decide)).1)))))))) ) k fun H1 e1 k1 => ?_
      exact blk_yesX (et_eq (x := ((([] : List Int).length : Nat) : Int)) (y := 0) eqI hr (ee_lenI (ns := []) (ee_ixT (ee_var 0) ee_int rfl) T.len) ee_int) (by simp) xr takesX rfl k1 q
def RxPlace (CP : Addr) : List Pd → Addr → Prop := fun ds C => ∃ d g, ds = [d, .int g] ∧ badPl d g ∧ C = CP
theorem ok_check_placeX (F : Fun K "check_place" "check_place" s_check_place f fd) (xp : XC K mg "BadPlace" CP) (h1 : H0 P w K mg base "is_whole" 1 ["thing"] (SpR K RisWhole)) : FnOk P w K mg base (L2N.CX P w) 2 f fd ["place", "first"] (SpX K (RxPlace CP)) := by
  refine ok_X F cs_check_place (fun ds C h => ?_) fun cdv A outer s M H vs ds C Q E hr h k q => ?_
  · obtain ⟨x, y, rfl, _⟩ := h
    rfl
  · obtain ⟨d, g, rfl, ⟨hd, hw⟩, rfl⟩ := h
    rcases hw with hw | ⟨i, rfl, hi⟩
    · exact blk_yesX (et_w (ew_orT (et_not (et_val (ee_call h1 hr pass0 (ea_cons (ee_var 0) ea_nil) ⟨d, rfl, hd, rfl⟩))) (by rw [hw]; rfl))) rfl xp takesX rfl k q
    · exact blk_yesX (et_w (ew_orF (et_not (et_val (ee_call h1 hr pass0 (ea_cons (ee_var 0) ea_nil) ⟨.int i, rfl, nn_int, rfl⟩))) (by rfl) (ew_or1 (et_lt (ee_var 0) (ee_var 1))))) (decide_eq_true hi) xp takesX rfl k q
theorem ok_leastX (F : Fun K "least" "least" s_least f fd) (h1 : HX P w K mg base "check_row" 3 ["row"] (SpX K (RxRow CR))) : FnOk P w K mg base (L2N.CX P w) 4 f fd ["row"] (SpX K (RxRow CR)) := by
  refine ok_X F cs_least (fun ds C h => ?_) fun cdv A outer s M H vs ds C Q E hr h k q => ?_
  · obtain ⟨x, rfl, _⟩ := h
    rfl
  · obtain ⟨d, rfl, hd, rfl⟩ := h
    exact blk_dropX (ex_call h1 hr takesX (ea_cons (ee_var 0) ea_nil) ⟨d, rfl, hd, rfl⟩) k q
/-- a row, then a place from 0 on -/
def RxRP (CR CP : Addr) : List Pd → Addr → Prop := fun ds C => ∃ d p, ds = [d, p] ∧ ((BadRow d ∧ C = CR) ∨ ∃ r, d = dR r ∧ Gd r ∧ badPl p 0 ∧ C = CP)
theorem ok_told_atX (F : Fun K "told_at" "told_at" s_told_at f fd) (h0 : H0 P w K mg base "check_row" 3 ["row"] (SpR K RcheckRow)) (h1 : HX P w K mg base "check_row" 3 ["row"] (SpX K (RxRow CR))) (h2 : HX P w K mg base "check_place" 2 ["place", "first"] (SpX K (RxPlace CP))) : FnOk P w K mg base (L2N.CX P w) 4 f fd ["row", "place"] (SpX K (RxRP CR CP)) := by
  refine ok_X F cs_told_at (fun ds C h => ?_) fun cdv A outer s M H vs ds C Q E hr h k q => ?_
  · obtain ⟨x, y, rfl, _⟩ := h
    rfl
  · have hr2 := hr.mono (show 2 ≤ 3 by decide)
    obtain ⟨d, p, rfl, ⟨hd, rfl⟩ | ⟨r, rfl, hg, hp, rfl⟩⟩ := h
    · exact blk_dropX (ex_call h1 hr takesX (ea_cons (ee_var 0) ea_nil) ⟨d, rfl, hd, rfl⟩) k q
    · refine blk_drop (ee_call h0 hr pass0 (ea_cons (ee_var 0) ea_nil) hg.chk) k fun H1 e1 k1 => ?_
      exact blk_dropX (ex_call h2 hr2 takesX (ea_cons (ee_var 1) (ea_cons ee_int ea_nil)) ⟨p, 0, rfl, hp, rfl⟩) k1 q
theorem ok_beginX (F : Fun K "begin" "begin" s_begin f fd) (h0 : H0 P w K mg base "check_row" 3 ["row"] (SpR K RcheckRow)) (h1 : HX P w K mg base "check_row" 3 ["row"] (SpX K (RxRow CR))) (h2 : HX P w K mg base "check_place" 2 ["place", "first"] (SpX K (RxPlace CP))) : FnOk P w K mg base (L2N.CX P w) 4 f fd ["row", "many"] (SpX K (RxRP CR CP)) := by
  refine ok_X F cs_begin (fun ds C h => ?_) fun cdv A outer s M H vs ds C Q E hr h k q => ?_
  · obtain ⟨x, y, rfl, _⟩ := h
    rfl
  · have hr2 := hr.mono (show 2 ≤ 3 by decide)
    obtain ⟨d, p, rfl, ⟨hd, rfl⟩ | ⟨r, rfl, hg, hp, rfl⟩⟩ := h
    · exact blk_dropX (ex_call h1 hr takesX (ea_cons (ee_var 0) ea_nil) ⟨d, rfl, hd, rfl⟩) k q
    · refine blk_drop (ee_call h0 hr pass0 (ea_cons (ee_var 0) ea_nil) hg.chk) k fun H1 e1 k1 => ?_
      exact blk_dropX (ex_call h2 hr2 takesX (ea_cons (ee_var 1) (ea_cons ee_int ea_nil)) ⟨p, 0, rfl, hp, rfl⟩) k1 q
theorem ok_behindX (F : Fun K "behind" "behind" s_behind f fd) (h0 : H0 P w K mg base "check_row" 3 ["row"] (SpR K RcheckRow)) (h1 : HX P w K mg base "check_row" 3 ["row"] (SpX K (RxRow CR))) (h2 : HX P w K mg base "check_place" 2 ["place", "first"] (SpX K (RxPlace CP))) : FnOk P w K mg base (L2N.CX P w) 4 f fd ["row", "place"] (SpX K (RxRP CR CP)) := by
  refine ok_X F cs_behind (fun ds C h => ?_) fun cdv A outer s M H vs ds C Q E hr h k q => ?_
  · obtain ⟨x, y, rfl, _⟩ := h
    rfl
  · have hr2 := hr.mono (show 2 ≤ 3 by decide)
    obtain ⟨d, p, rfl, ⟨hd, rfl⟩ | ⟨r, rfl, hg, hp, rfl⟩⟩ := h
    · exact blk_dropX (ex_call h1 hr takesX (ea_cons (ee_var 0) ea_nil) ⟨d, rfl, hd, rfl⟩) k q
    · refine blk_drop (ee_call h0 hr pass0 (ea_cons (ee_var 0) ea_nil) hg.chk) k fun H1 e1 k1 => ?_
      exact blk_dropX (ex_call h2 hr2 takesX (ea_cons (ee_var 1) (ea_cons ee_int ea_nil)) ⟨p, 0, rfl, hp, rfl⟩) k1 q
/-- a row, a sign, how many -/
def RxOften (CR CS CP : Addr) : List Pd → Addr → Prop := fun ds C => ∃ d x p, ds = [d, x, p] ∧ ((BadRow d ∧ C = CR) ∨ ∃ r, d = dR r ∧ Gd r ∧ tyN x ≠ "" ∧ ((wholeP x = false ∧ C = CS) ∨ (wholeP x = true ∧ badPl p 0 ∧ C = CP)))
theorem ok_oftenX (F : Fun K "often" "often" s_often f fd) (xs : XC K mg "BadSigns" CS) (h0 : H0 P w K mg base "check_row" 3 ["row"] (SpR K RcheckRow)) (h1 : HX P w K mg base "check_row" 3 ["row"] (SpX K (RxRow CR))) (h2 : HX P w K mg base "check_place" 2 ["place", "first"] (SpX K (RxPlace CP))) (hW : H0 P w K mg base "is_whole" 1 ["thing"] (SpR K RisWhole)) : FnOk P w K mg base (L2N.CX P w) 4 f fd ["row", "sign", "many"] (SpX K (RxOften CR CS CP)) := by
  refine ok_X F cs_often (fun ds C h => ?_) fun cdv A outer s M H vs ds C Q E hr h k q => ?_
  · obtain ⟨x, y, z, rfl, _⟩ := h
    rfl
  · have hr2 := hr.mono (show 2 ≤ 3 by decide)
    have hr1 := hr.mono (show 1 ≤ 3 by decide)
    obtain ⟨d, x, p, rfl, ⟨hd, rfl⟩ | ⟨r, rfl, hg, hx, h⟩⟩ := h
    · exact blk_dropX (ex_call h1 hr takesX (ea_cons (ee_var 0) ea_nil) ⟨d, rfl, hd, rfl⟩) k q
    · refine blk_drop (ee_call h0 hr pass0 (ea_cons (ee_var 0) ea_nil) hg.chk) k fun H1 e1 k1 => ?_
      rcases h with ⟨hw, rfl⟩ | ⟨hw, hp, rfl⟩
      · exact blk_yesX (et_not (et_val (ee_call hW hr1 pass0 (ea_cons (ee_var 1) ea_nil) ⟨x, rfl, hx, rfl⟩))) (by rw [hw]; rfl) xs takesX rfl k1 q
      · refine blk_no ((et_not (et_val (ee_call hW hr1 pass0 (ea_cons (ee_var 1) ea_nil) ⟨x, rfl, hx, rfl⟩))).is (by rw [hw]; rfl)) k1 fun H2 e2 k2 => ?_
        exact blk_dropX (ex_call h2 hr2 takesX (ea_cons (ee_var 2) (ea_cons ee_int ea_nil)) ⟨p, 0, rfl, hp, rfl⟩) k2 q
/-- a row, a start, a step -/
def RxEvery (CR CP : Addr) : List Pd → Addr → Prop := fun ds C => ∃ d a p, ds = [d, a, p] ∧ ((BadRow d ∧ C = CR) ∨ ∃ r, d = dR r ∧ Gd r ∧ C = CP ∧ (badPl a 0 ∨ ((∃ i : Int, a = .int i ∧ 0 ≤ i) ∧ badPl p 1)))
theorem ok_everyX (F : Fun K "every" "every" s_every f fd) (h0 : H0 P w K mg base "check_row" 3 ["row"] (SpR K RcheckRow)) (h1 : HX P w K mg base "check_row" 3 ["row"] (SpX K (RxRow CR))) (h3 : H0 P w K mg base "check_place" 2 ["place", "first"] (SpR K RcheckPlace)) (h2 : HX P w K mg base "check_place" 2 ["place", "first"] (SpX K (RxPlace CP))) : FnOk P w K mg base (L2N.CX P w) 4 f fd ["row", "start", "step"] (SpX K (RxEvery CR CP)) := by
  refine ok_X F cs_every (fun ds C h => ?_) fun cdv A outer s M H vs ds C Q E hr h k q => ?_
  · obtain ⟨x, y, z, rfl, _⟩ := h
    rfl
  · have hr2 := hr.mono (show 2 ≤ 3 by decide)
    obtain ⟨d, a, p, rfl, ⟨hd, rfl⟩ | ⟨r, rfl, hg, rfl, h⟩⟩ := h
    · exact blk_dropX (ex_call h1 hr takesX (ea_cons (ee_var 0) ea_nil) ⟨d, rfl, hd, rfl⟩) k q
    · refine blk_drop (ee_call h0 hr pass0 (ea_cons (ee_var 0) ea_nil) hg.chk) k fun H1 e1 k1 => ?_
      rcases h with ha | ⟨⟨i, rfl, hi⟩, hp⟩
      · exact blk_dropX (ex_call h2 hr2 takesX (ea_cons (ee_var 1) (ea_cons ee_int ea_nil)) ⟨a, 0, rfl, ha, rfl⟩) k1 q
      · refine blk_drop (ee_call h3 hr2 pass0 (ea_cons (ee_var 1) (ea_cons ee_int ea_nil)) ⟨i, 0, rfl, hi, rfl⟩) k1 fun H2 e2 k2 => ?_
        exact blk_dropX (ex_call h2 hr2 takesX (ea_cons (ee_var 2) (ea_cons ee_int ea_nil)) ⟨p, 1, rfl, hp, rfl⟩) k2 q
/-- two rows -/
def RxTwo (CR : Addr) : List Pd → Addr → Prop := fun ds C => ∃ d e, ds = [d, e] ∧ C = CR ∧ (BadRow d ∨ ∃ r, d = dR r ∧ Gd r ∧ BadRow e)
theorem ok_addedX (F : Fun K "added" "added" s_added f fd) (h0 : H0 P w K mg base "check_row" 3 ["row"] (SpR K RcheckRow)) (h1 : HX P w K mg base "check_row" 3 ["row"] (SpX K (RxRow CR))) : FnOk P w K mg base (L2N.CX P w) 4 f fd ["one", "other"] (SpX K (RxTwo CR)) := by
  refine ok_X F cs_added (fun ds C h => ?_) fun cdv A outer s M H vs ds C Q E hr h k q => ?_
  · obtain ⟨x, y, rfl, _⟩ := h
    rfl
  · obtain ⟨d, e, rfl, rfl, hd | ⟨r, rfl, hg, he⟩⟩ := h
    · exact blk_dropX (ex_call h1 hr takesX (ea_cons (ee_var 0) ea_nil) ⟨d, rfl, hd, rfl⟩) k q
    · refine blk_drop (ee_call h0 hr pass0 (ea_cons (ee_var 0) ea_nil) hg.chk) k fun H1 e1 k1 => ?_
      exact blk_dropX (ex_call h1 hr takesX (ea_cons (ee_var 1) ea_nil) ⟨e, rfl, he, rfl⟩) k1 q
theorem ok_unlikeX (F : Fun K "unlike" "unlike" s_unlike f fd) (h0 : H0 P w K mg base "check_row" 3 ["row"] (SpR K RcheckRow)) (h1 : HX P w K mg base "check_row" 3 ["row"] (SpX K (RxRow CR))) : FnOk P w K mg base (L2N.CX P w) 4 f fd ["one", "other"] (SpX K (RxTwo CR)) := by
  refine ok_X F cs_unlike (fun ds C h => ?_) fun cdv A outer s M H vs ds C Q E hr h k q => ?_
  · obtain ⟨x, y, rfl, _⟩ := h
    rfl
  · obtain ⟨d, e, rfl, rfl, hd | ⟨r, rfl, hg, he⟩⟩ := h
    · exact blk_dropX (ex_call h1 hr takesX (ea_cons (ee_var 0) ea_nil) ⟨d, rfl, hd, rfl⟩) k q
    · refine blk_drop (ee_call h0 hr pass0 (ea_cons (ee_var 0) ea_nil) hg.chk) k fun H1 e1 k1 => ?_
      exact blk_dropX (ex_call h1 hr takesX (ea_cons (ee_var 1) ea_nil) ⟨e, rfl, he, rfl⟩) k1 q
/-- signs, a row -/
def RxAhead (CR CS : Addr) : List Pd → Addr → Prop := fun ds C => ∃ x d, ds = [x, d] ∧ OkS x ∧ ((sgB x = false ∧ C = CS) ∨ (sgB x = true ∧ BadRow d ∧ C = CR))
theorem ok_aheadX (F : Fun K "ahead" "ahead" s_ahead f fd) (xs : XC K mg "BadSigns" CS) (h1 : HX P w K mg base "check_row" 3 ["row"] (SpX K (RxRow CR))) (h2 : H0 P w K mg base "are_signs" 2 ["thing"] (SpR K RareSigns)) : FnOk P w K mg base (L2N.CX P w) 4 f fd ["signs", "row"] (SpX K (RxAhead CR CS)) := by
  refine ok_X F cs_ahead (fun ds C h => ?_) fun cdv A outer s M H vs ds C Q E hr h k q => ?_
  · obtain ⟨x, y, rfl, _⟩ := h
    rfl
  · have hr2 := hr.mono (show 2 ≤ 3 by decide)
    obtain ⟨x, d, rfl, hx, ⟨hs, rfl⟩ | ⟨hs, hd, rfl⟩⟩ := h
    · exact blk_yesX (et_not (et_val (ee_call h2 hr2 pass0 (ea_cons (ee_var 0) ea_nil) (oks_sg hx)))) (by rw [hs]; rfl) xs takesX rfl k q
    · refine blk_no ((et_not (et_val (ee_call h2 hr2 pass0 (ea_cons (ee_var 0) ea_nil) (oks_sg hx)))).is (by rw [hs]; rfl)) k fun H1 e1 k1 => ?_
      exact blk_dropX (ex_call h1 hr takesX (ea_cons (ee_var 1) ea_nil) ⟨d, rfl, hd, rfl⟩) k1 q
/-- a row, a word -/
def RxStands (CR CS : Addr) : List Pd → Addr → Prop := fun ds C => ∃ d x, ds = [d, x] ∧ ((BadRow d ∧ C = CR) ∨ ∃ r, d = dR r ∧ Gd r ∧ OkS x ∧ sgB x = false ∧ C = CS)
theorem ok_standsX (F : Fun K "stands" "stands" s_stands f fd) (xs : XC K mg "BadSigns" CS) (h0 : H0 P w K mg base "check_row" 3 ["row"] (SpR K RcheckRow)) (h1 : HX P w K mg base "check_row" 3 ["row"] (SpX K (RxRow CR))) (h2 : H0 P w K mg base "are_signs" 2 ["thing"] (SpR K RareSigns)) : FnOk P w K mg base (L2N.CX P w) 4 f fd ["row", "word"] (SpX K (RxStands CR CS)) := by
  refine ok_X F cs_stands (fun ds C h => ?_) fun cdv A outer s M H vs ds C Q E hr h k q => ?_
  · obtain ⟨x, y, rfl, _⟩ := h
    rfl
  · have hr2 := hr.mono (show 2 ≤ 3 by decide)
    obtain ⟨d, x, rfl, ⟨hd, rfl⟩ | ⟨r, rfl, hg, hx, hs, rfl⟩⟩ := h
    · exact blk_dropX (ex_call h1 hr takesX (ea_cons (ee_var 0) ea_nil) ⟨d, rfl, hd, rfl⟩) k q
    · refine blk_drop (ee_call h0 hr pass0 (ea_cons (ee_var 0) ea_nil) hg.chk) k fun H1 e1 k1 => ?_
      exact blk_yesX (et_not (et_val (ee_call h2 hr2 pass0 (ea_cons (ee_var 1) ea_nil) (oks_sg hx)))) (by rw [hs]; rfl) xs takesX rfl k1 q
/-- rows -/
def RxWoven (CR : Addr) : List Pd → Addr → Prop := fun ds C => ∃ d, ds = [d] ∧ C = CR ∧ ((tyN d ≠ "" ∧ isLstB d = false) ∨ d = .lst [] ∨ ∃ (l : List Pd) (j : Nat), d = .lst l ∧ j < l.length ∧ l.length ≤ 50000 ∧ BadRow (l.getD j .non) ∧ ∀ i, i < j → ∃ r, Gd r ∧ l.getD i .non = dR r)
theorem ok_wovenX (F : Fun K "woven" "woven" s_woven f fd) (T : Bi mg) (xr : XC K mg "BadRow" CR) (h0 : H0 P w K mg base "check_row" 3 ["row"] (SpR K RcheckRow)) (h1 : HX P w K mg base "check_row" 3 ["row"] (SpX K (RxRow CR))) : FnOk P w K mg base (L2N.CX P w) 4 f fd ["rows"] (SpX K (RxWoven CR)) := by
  refine ok_X F cs_woven (fun ds C h => ?_) fun cdv A outer s M H vs ds C Q E hr h k q => ?_
  · obtain ⟨x, rfl, _⟩ := h
    rfl
  · obtain ⟨d, rfl, rfl, ⟨h2, h3⟩ | rfl | ⟨l, j, rfl, hj, hl, hb, hg⟩⟩ := h
    · exact blk_yesX (et_w (ew_orT (et_not (et_val (ee_isi (ee_var 0) T.isinstance T.list (kit_lst d h2) h2))) (by rw [h3]; rfl))) rfl xr takesX rfl k q
    · exact blk_yesX (et_w (ew_orF (et_not (et_val (ee_isi (d := .lst []) (ee_var 0) T.isinstance T.list (k := true) (Tn := "list") kit_ll nn_list))) (by rfl) (ew_or1 (et_eq eqI hr (ee_len (ds := []) (ee_var 0) T.len) ee_int)))) (by simp) xr takesX rfl k q
    · have nd := cs_woven.nd
      refine blk_no ((et_w (ew_orF (et_not (et_val (ee_isi (d := .lst l) (ee_var 0) T.isinstance T.list (k := true) (Tn := "list") kit_ll nn_list))) (by rfl) (ew_or1 (et_eq eqI hr (ee_len (ee_var 0) T.len) ee_int)))).is (decide_eq_false (by omega))) k fun H1 e1 k1 => ?_
      refine blk_for (n := l.length) (Yd := fun i => l.getD i .non) nd 1 (L2.passes_of rfl) rfl (iw_list (ee_var 0) fun i hi => getD_some i hi) k1
        (fun B i σ' H' => EO K M B H' σ' [some (.lst l), none, none, none, none, none] ∧ i ≤ j)
        (fun B i σ' H' p => ⟨exM p.1.ex, p.1.kn.al⟩) (fun H3 e3 k3 => ⟨k3.here, Nat.zero_le _⟩) (fun B i v σ' H' H3 hi eB p e3 g3 => ?_) (fun B σ' H' eB p => absurd p.2 (by omega))
      have k3 := (p.1.mono e3).set 1 g3
      by_cases hij : i < j
      · obtain ⟨r, gr, er⟩ := hg i hij
        rw [er] at k3
        refine blk_drop (ee_call h0 hr pass0 (ea_cons (ee_var 1) ea_nil) gr.chk) k3 fun H4 e4 k4 => blk_nil ⟨k4.lose 1, by omega⟩
      · have eij : i = j := by have := p.2; omega
        rw [eij] at k3
        exact blk_dropX (ex_call h1 hr takesX (ea_cons (ee_var 1) ea_nil) ⟨_, rfl, hb, rfl⟩) (k3.base (k1.ex.trans eB)) q
/-- a row to be written -/
def Great (r : Row) : Prop := ∃ x ∈ r.1 ++ r.2, 10 ^ 60 ≤ x ∨ x ≤ -(10 ^ 60)
def RxWritten (CR : Addr) : List Pd → Addr → Prop := fun ds C => ∃ d, ds = [d] ∧ C = CR ∧ (BadRow d ∨ ∃ r, d = dR r ∧ r.2 ≠ [] ∧ r.1.length ≤ 20000 ∧ r.2.length ≤ 20000 ∧ Great r)
theorem ok_writtenX {t : Nat} (F : Fun K "written" "written" s_written f fd) (T : Bi mg) (hmost : mg mostTxt = some (.int (10 ^ 60) t)) (xr : XC K mg "BadRow" CR) (h0 : H0 P w K mg base "least" 4 ["row"] (SpW K Rleast)) (h1 : HX P w K mg base "least" 4 ["row"] (SpX K (RxRow CR))) : FnOk P w K mg base (L2N.CX P w) 5 f fd ["row"] (SpX K (RxWritten CR)) := by
  refine ok_X F cs_written (fun ds C h => ?_) fun cdv A outer s M H vs ds C Q E hr h k q => ?_
  · obtain ⟨x, rfl, _⟩ := h
    rfl
  · have nd := cs_written.nd
    obtain ⟨d, rfl, rfl, hd | ⟨r, rfl, hne, l1, l2, x, hx, hg⟩⟩ := h
    · exact blk_unpackX nd 1 2 rfl (ex_call h1 hr takesX (ea_cons (ee_var 0) ea_nil) ⟨d, rfl, hd, rfl⟩) k q
    · refine blk_unpack nd 1 2 rfl (EWR.ee (ew_call h0 hr pass0 (ea_cons (ee_var 0) ea_nil) ⟨r, rfl, hne, by omega, by omega, rfl⟩)) k fun σ1 H1 e1 k1 => ?_
      have hal : (r.1 ++ r.2).length = r.1.length + r.2.length := List.length_append
      have hall : ((r.1 ++ r.2).map fun x => decide ((if x < 0 then -x else x) < 10 ^ 60)).all id = false := by
        rw [List.all_eq_false]
        refine ⟨_, List.mem_map.mpr ⟨x, hx, rfl⟩, ?_⟩
        show ¬ (decide ((if x < 0 then -x else x) < 10 ^ 60)) = true
        rw [decide_eq_true_iff]
        split <;> omega
      exact blk_yesX (et_not (et_val (ee_all (bs := (r.1 ++ r.2).map fun x => decide ((if x < 0 then -x else x) < 10 ^ 60)) rfl (EF.ee ((ef_lc (n := (r.1 ++ r.2).length) (jx := 4) (Yd := fun i => .int ((r.1 ++ r.2).getD i 0)) (f := fun i => .bl (decide ((if (r.1 ++ r.2).getD i 0 < 0 then -(r.1 ++ r.2).getD i 0 else (r.1 ++ r.2).getD i 0) < 10 ^ 60))) rfl nd
        (iw_listI (f := fun i => (r.1 ++ r.2).getD i 0) (EF.ee (ef_catI (ee_r0 (ee_var 0)) (ee_r1 (ee_var 0)) (by omega))) fun i hi => getD_some i hi) (blkOk_by (N := ns_written) (sc := defScope s_written) (own := [("sign", 4)]) (by decide +kernel)) (fun _ _ _ _ _ => pg_name nd rfl (Or.inl rfl)) (by decide)
        (by omega) (fun i _ => flat_bl)
        (fun s' H' C cl fp i hi => ee_lt (ee_abs (ee_var 4) T.abs) (ee_globI hmost))).is (by
          have := range_map (r.1 ++ r.2) 0 (fun x => Pd.bl (decide ((if x < 0 then -x else x) < 10 ^ 60)))
          rw [this, List.map_map]
          rfl))) T.all))) (by rw [hall]; rfl) xr takesX rfl k1 q
/-- a base -/
def badB (d : Pd) : Prop := tyN d ≠ "" ∧ (wholeP d = false ∨ ∃ i, d = .int i ∧ (i < 2 ∨ 1000 < i))
def RxBase (CB : Addr) : List Pd → Addr → Prop := fun ds C => ∃ d, ds = [d] ∧ badB d ∧ C = CB
theorem ok_check_baseX {t : Nat} (F : Fun K "check_base" "check_base" s_check_base f fd) (hmost : mg mostFig = some (.int 1000 t)) (xb : XC K mg "BadBase" CB) (h1 : H0 P w K mg base "is_whole" 1 ["thing"] (SpR K RisWhole)) : FnOk P w K mg base (L2N.CX P w) 2 f fd ["base"] (SpX K (RxBase CB)) := by
  refine ok_X F cs_check_base (fun ds C h => ?_) fun cdv A outer s M H vs ds C Q E hr h k q => ?_
  · obtain ⟨x, rfl, _⟩ := h
    rfl
  · obtain ⟨d, rfl, ⟨hd, hw⟩, rfl⟩ := h
    rcases hw with hw | ⟨i, rfl, hi⟩
    · exact blk_yesX (et_w (ew_orT (et_not (et_val (ee_call h1 hr pass0 (ea_cons (ee_var 0) ea_nil) ⟨d, rfl, hd, rfl⟩))) (by rw [hw]; rfl))) rfl xb takesX rfl k q
    · exact blk_yesX (et_w (ew_orF (et_not (et_val (ee_call h1 hr pass0 (ea_cons (ee_var 0) ea_nil) ⟨.int i, rfl, nn_int, rfl⟩))) (by rfl) (ew_or1 (et_not (ee_chain (k := decide ((2 : Int) ≤ i)) (k' := decide (i ≤ (1000 : Int))) op_le op_le rd_B0 (fun _ => rd_B0) ee_int (ee_var 0) (ee_globI hmost)))))) (by
        rcases hi with hi | hi
        · rw [decide_eq_false (show ¬ (2 : Int) ≤ i by omega)]
          rfl
        · rw [decide_eq_false (show ¬ i ≤ (1000 : Int) by omega), Bool.and_false]
          rfl) xb takesX rfl k q
/-- a row of figures, a base -/
def RxFrac (CR CB CF : Addr) : List Pd → Addr → Prop := fun ds C => ∃ d b, ds = [d, b] ∧ ((BadRow d ∧ C = CR) ∨ ∃ r, d = dR r ∧ Gd r ∧ r.1.length + r.2.length ≤ 50000 ∧ ((badB b ∧ C = CB) ∨ ∃ i : Int, b = .int i ∧ 2 ≤ i ∧ i ≤ 1000 ∧ (∃ x ∈ r.1 ++ r.2, x < 0 ∨ i ≤ x) ∧ C = CF))
theorem ok_fractionX (F : Fun K "fraction" "fraction" s_fraction f fd) (T : Bi mg) (xf : XC K mg "BadFigures" CF) (h0 : H0 P w K mg base "check_row" 3 ["row"] (SpR K RcheckRow)) (h1 : HX P w K mg base "check_row" 3 ["row"] (SpX K (RxRow CR))) (h2 : H0 P w K mg base "check_base" 2 ["base"] (SpR K RcheckBase)) (h3 : HX P w K mg base "check_base" 2 ["base"] (SpX K (RxBase CB))) :
    FnOk P w K mg base (L2N.CX P w) 4 f fd ["row", "base"] (SpX K (RxFrac CR CB CF)) := by
  refine ok_X F cs_fraction (fun ds C h => ?_) fun cdv A outer s M H vs ds C Q E hr h k q => ?_
  · obtain ⟨x, y, rfl, _⟩ := h
    rfl
  · have hr2 := hr.mono (show 2 ≤ 3 by decide)
    have nd := cs_fraction.nd
    obtain ⟨d, b, rfl, ⟨hd, rfl⟩ | ⟨r, rfl, hg, hz, h⟩⟩ := h
    · exact blk_dropX (ex_call h1 hr takesX (ea_cons (ee_var 0) ea_nil) ⟨d, rfl, hd, rfl⟩) k q
    · refine blk_drop (ee_call h0 hr pass0 (ea_cons (ee_var 0) ea_nil) hg.chk) k fun H1 e1 k1 => ?_
      rcases h with ⟨hb, rfl⟩ | ⟨i, rfl, b2, b1, ⟨x, hx, hlt⟩, rfl⟩
      · exact blk_dropX (ex_call h3 hr2 takesX (ea_cons (ee_var 1) ea_nil) ⟨b, rfl, hb, rfl⟩) k1 q
      · refine blk_drop (ee_call h2 hr2 pass0 (ea_cons (ee_var 1) ea_nil) ⟨i, rfl, b2, b1, rfl⟩) k1 fun H2 e2 k2 => ?_
        have hal : (r.1 ++ r.2).length = r.1.length + r.2.length := List.length_append
        have hall : ((r.1 ++ r.2).map fun x => (decide ((0 : Int) ≤ x) && decide (x < i))).all id = false := by
          rw [List.all_eq_false]
          refine ⟨_, List.mem_map.mpr ⟨x, hx, rfl⟩, ?_⟩
          show ¬ (decide ((0 : Int) ≤ x) && decide (x < i)) = true
          rw [Bool.and_eq_true, decide_eq_true_iff, decide_eq_true_iff]
          omega
        exact blk_yesX (et_not (et_val (ee_all (bs := (r.1 ++ r.2).map fun x => (decide ((0 : Int) ≤ x) && decide (x < i))) rfl (EF.ee ((ef_lc (n := (r.1 ++ r.2).length) (jx := 9) (Yd := fun j => .int ((r.1 ++ r.2).getD j 0)) (f := fun j => .bl (decide ((0 : Int) ≤ (r.1 ++ r.2).getD j 0) && decide ((r.1 ++ r.2).getD j 0 < i))) rfl nd
          (iw_listI (f := fun j => (r.1 ++ r.2).getD j 0) (EF.ee (ef_catI (ee_r0 (ee_var 0)) (ee_r1 (ee_var 0)) (by omega))) fun j hj => getD_some j hj) (blkOk_by (N := ns_fraction) (sc := defScope s_fraction) (own := [("sign", 9)]) (by decide +kernel)) (fun _ _ _ _ _ => pg_name nd rfl (Or.inl rfl)) (by decide)
          (by omega) (fun j _ => flat_bl)
          (fun s' H' C cl fp j hj => ee_chainV (k := decide ((0 : Int) ≤ (r.1 ++ r.2).getD j 0)) (k' := decide ((r.1 ++ r.2).getD j 0 < i)) op_le op_lt rd_B0 (fun _ => rd_B0) ee_int (ee_var 9) (ee_var 1))).is (by
            have := range_map (r.1 ++ r.2) 0 (fun x => Pd.bl (decide ((0 : Int) ≤ x) && decide (x < i)))
            rw [this, List.map_map]
            rfl))) T.all))) (by rw [hall]; rfl) xf takesX rfl k2 q
/-- what is no fraction -/
def badF (a e : Pd) : Prop := tyN a ≠ "" ∧ tyN e ≠ "" ∧ (wholeP a = false ∨ (wholeP a = true ∧ wholeP e = false) ∨ ∃ i j : Int, a = .int i ∧ e = .int j ∧ ((j < 1 ∨ 1000 < j) ∨ (1 ≤ j ∧ j ≤ 1000 ∧ (i < 0 ∨ j ≤ i))))
def RxFigd (CQ CB : Addr) : List Pd → Addr → Prop := fun ds C => ∃ a e b, ds = [a, e, b] ∧ ((badF a e ∧ C = CQ) ∨ ∃ i j : Int, a = .int i ∧ e = .int j ∧ 0 ≤ i ∧ i < j ∧ j ≤ 1000 ∧ badB b ∧ C = CB)
theorem ok_figuredX {t : Nat} (F : Fun K "figured" "figured" s_figured f fd) (hmost : mg mostFig = some (.int 1000 t)) (xq : XC K mg "BadFraction" CQ) (hW : H0 P w K mg base "is_whole" 1 ["thing"] (SpR K RisWhole)) (h3 : HX P w K mg base "check_base" 2 ["base"] (SpX K (RxBase CB))) :
    FnOk P w K mg base (L2N.CX P w) 3 f fd ["above", "below", "base"] (SpX K (RxFigd CQ CB)) := by
  refine ok_X F cs_figured (fun ds C h => ?_) fun cdv A outer s M H vs ds C Q E hr h k q => ?_
  · obtain ⟨x, y, z, rfl, _⟩ := h
    rfl
  · have hr1 := hr.mono (show 1 ≤ 2 by decide)
    obtain ⟨a, e, b, rfl, ⟨⟨ha, he, hf⟩, rfl⟩ | ⟨i, j, rfl, rfl, i0, i1, j1, hb, rfl⟩⟩ := h
    · rcases hf with hf | ⟨hf, hf2⟩ | ⟨i, j, rfl, rfl, hij⟩
      · exact blk_yesX (et_w (ew_orT (et_not (et_val (ee_call hW hr1 pass0 (ea_cons (ee_var 0) ea_nil) ⟨a, rfl, ha, rfl⟩))) (by rw [hf]; rfl))) rfl xq takesX rfl k q
      · exact blk_yesX (et_w (ew_orF (et_not (et_val (ee_call hW hr1 pass0 (ea_cons (ee_var 0) ea_nil) ⟨a, rfl, ha, rfl⟩))) (by rw [hf]; rfl) (ew_orT (et_not (et_val (ee_call hW hr1 pass0 (ea_cons (ee_var 1) ea_nil) ⟨e, rfl, he, rfl⟩))) (by rw [hf2]; rfl)))) rfl xq takesX rfl k q
      · rcases hij with hij | ⟨j0, j1, hij⟩
        · exact blk_yesX (et_w (ew_orF (et_not (et_val (ee_call hW hr1 pass0 (ea_cons (ee_var 0) ea_nil) ⟨.int i, rfl, nn_int, rfl⟩))) (by rfl) (ew_orF (et_not (et_val (ee_call hW hr1 pass0 (ea_cons (ee_var 1) ea_nil) ⟨.int j, rfl, nn_int, rfl⟩))) (by rfl)
            (ew_orT (et_not (ee_chain (k := decide ((1 : Int) ≤ j)) (k' := decide (j ≤ (1000 : Int))) op_le op_le rd_B0 (fun _ => rd_B0) ee_int (ee_var 1) (ee_globI hmost))) (by
              rcases hij with hij | hij
              · rw [decide_eq_false (show ¬ (1 : Int) ≤ j by omega)]
                rfl
              · rw [decide_eq_false (show ¬ j ≤ (1000 : Int) by omega), Bool.and_false]
                rfl))))) rfl xq takesX rfl k q
        · exact blk_yesX (et_w (ew_orF (et_not (et_val (ee_call hW hr1 pass0 (ea_cons (ee_var 0) ea_nil) ⟨.int i, rfl, nn_int, rfl⟩))) (by rfl) (ew_orF (et_not (et_val (ee_call hW hr1 pass0 (ea_cons (ee_var 1) ea_nil) ⟨.int j, rfl, nn_int, rfl⟩))) (by rfl)
            (ew_orF (et_not (ee_chain (k := decide ((1 : Int) ≤ j)) (k' := decide (j ≤ (1000 : Int))) op_le op_le rd_B0 (fun _ => rd_B0) ee_int (ee_var 1) (ee_globI hmost))) (by
              rw [decide_eq_true j0, decide_eq_true j1]
              rfl) (ew_or1 (et_not (ee_chain (k := decide ((0 : Int) ≤ i)) (k' := decide (i < j)) op_le op_lt rd_B0 (fun _ => rd_B0) ee_int (ee_var 0) (ee_var 1)))))))) (by
              rcases hij with hij | hij
              · rw [decide_eq_false (show ¬ (0 : Int) ≤ i by omega)]
                rfl
              · rw [decide_eq_false (show ¬ i < j by omega), Bool.and_false]
                rfl) xq takesX rfl k q
    · refine blk_no ((et_w (ew_or (et_not (et_val (ee_call hW hr1 pass0 (ea_cons (ee_var 0) ea_nil) ⟨.int i, rfl, nn_int, rfl⟩))) fun _ => ew_or (et_not (et_val (ee_call hW hr1 pass0 (ea_cons (ee_var 1) ea_nil) ⟨.int j, rfl, nn_int, rfl⟩))) fun _ =>
        ew_or (et_not (ee_chain (k := decide ((1 : Int) ≤ j)) (k' := decide (j ≤ (1000 : Int))) op_le op_le rd_B0 (fun _ => rd_B0) ee_int (ee_var 1) (ee_globI hmost))) fun _ => ew_or1 (et_not (ee_chain (k := decide ((0 : Int) ≤ i)) (k' := decide (i < j)) op_le op_lt rd_B0 (fun _ => rd_B0) ee_int (ee_var 0) (ee_var 1))))).is (by
        rw [decide_eq_true (show (1 : Int) ≤ j by omega), decide_eq_true j1, decide_eq_true i0, decide_eq_true i1]
        rfl)) k fun H1 e1 k1 => ?_
      exact blk_dropX (ex_call h3 hr takesX (ea_cons (ee_var 2) ea_nil) ⟨b, rfl, hb, rfl⟩) k1 q
end
end Lr

namespace Lr
open PySem PySem.Spec PyProof.Rows L2
open Evl (Ex)
/-! the law's doors, the error's kinds, what is told by -/
theorem gd12 : Gd ([1], [2]) := ⟨by decide, by decide, by decide⟩
section
variable {X : Cx} {δ : Dl} {p1 p2 p3 pos : Pos} {j1 j2 x1 : Nat} {a b : Int}
end
section
variable {P : Program} {w : World} {K : PySem.W.Frag} {mg : Str → Option Value} {base : Heap} {f : Addr} {fd : FuncData} {CR CP CS CB CF CQ CT CE : Addr}
/-- a door and a thing -/
def RxDoor (B : Pd → Prop) (CC : Addr) : List Pd → Addr → Prop := fun ds C => ∃ (j : Int) (d : Pd), ds = [.int j, d] ∧ B d ∧ C = CC
theorem ok_moreX (F : Fun K "_law_more" "_law_more" s_law_more f fd) (hb : HX P w K mg base "begin" 4 ["row", "many"] (SpX K (RxRP CR CP))) (ho : HX P w K mg base "often" 4 ["row", "sign", "many"] (SpX K (RxOften CR CS CP))) (hs : HX P w K mg base "stands" 4 ["row", "word"] (SpX K (RxStands CR CS)))
    (hw : HX P w K mg base "written" 5 ["row"] (SpX K (RxWritten CR))) (ha : HX P w K mg base "ahead" 4 ["signs", "row"] (SpX K (RxAhead CR CS))) (hf : HX P w K mg base "fraction" 4 ["row", "base"] (SpX K (RxFrac CR CB CF))) : FnOk P w K mg base (L2N.CX P w) 6 f fd ["_law_door", "_law_row_here"] (SpX K (RxDoor BadRow CR)) := by
  refine ok_X F cs_law_more (fun ds C h => ?_) fun cdv A outer s M H vs ds C Q E hr h k q => ?_
  · obtain ⟨x, y, rfl, _⟩ := h
    rfl
  · have hr4 := hr.mono (show 4 ≤ 5 by decide)
    obtain ⟨j, d, rfl, hd, rfl⟩ := h
    refine blk_when (et_lt (ee_var 0) ee_int) k (fun _ H1 e1 k1 => ?_) (fun _ H1 e1 k1 => ?_)
    · exact blk_retX (ex_if (et_eq eqI hr (ee_var 0) ee_int) (fun _ => ex_call hb hr4 takesX (ea_cons (ee_var 1) (ea_cons ee_non ea_nil)) ⟨d, .non, rfl, .inl ⟨hd, rfl⟩⟩)
        (fun _ => ex_call ho hr4 takesX (ea_cons (ee_var 1) (ea_cons ee_non (ea_cons (ee_neg ee_int) ea_nil))) ⟨d, .non, .int (-1), rfl, .inl ⟨hd, rfl⟩⟩)) k1 q
    · refine blk_when (et_lt (ee_var 0) ee_int) k1 (fun _ H2 e2 k2 => ?_) (fun _ H2 e2 k2 => ?_)
      · exact blk_retX (ex_if (et_eq eqI hr (ee_var 0) ee_int) (fun _ => ex_call hs hr4 takesX (ea_cons (ee_var 1) (ea_cons ee_int ea_nil)) ⟨d, .int 5, rfl, .inl ⟨hd, rfl⟩⟩)
          (fun _ => ex_call hw hr takesX (ea_cons (ee_var 1) ea_nil) ⟨d, rfl, rfl, .inl hd⟩)) k2 q
      · exact blk_retX (ex_if (et_eq eqI hr (ee_var 0) ee_int) (fun _ => ex_call ha hr4 takesX (ea_cons (EF.ee (ef_lst (ea_cons ee_int ea_nil))) (ea_cons (ee_var 1) ea_nil)) ⟨dL [1], d, rfl, (oks_ints (ns := [1]) (by decide)).1, .inr ⟨rfl, hd, rfl⟩⟩)
          (fun _ => ex_call hf hr4 takesX (ea_cons (ee_var 1) (ea_cons ee_int ea_nil)) ⟨d, .int 1, rfl, .inl ⟨hd, rfl⟩⟩)) k2 q
theorem ok_with_rowX (F : Fun K "_law_with_row" "_law_with_row" s_law_with_row f fd) (hl : HX P w K mg base "least" 4 ["row"] (SpX K (RxRow CR))) (ht : HX P w K mg base "told_at" 4 ["row", "place"] (SpX K (RxRP CR CP))) (hm : HX P w K mg base "_law_more" 6 ["_law_door", "_law_row_here"] (SpX K (RxDoor BadRow CR)))
    (hu : HX P w K mg base "unlike" 4 ["one", "other"] (SpX K (RxTwo CR))) (he : HX P w K mg base "every" 4 ["row", "start", "step"] (SpX K (RxEvery CR CP))) (hv : HX P w K mg base "woven" 4 ["rows"] (SpX K (RxWoven CR))) (ha : HX P w K mg base "added" 4 ["one", "other"] (SpX K (RxTwo CR)))
    (hb : HX P w K mg base "behind" 4 ["row", "place"] (SpX K (RxRP CR CP))) : FnOk P w K mg base (L2N.CX P w) 7 f fd ["_law_door", "_law_row_here"] (SpX K (RxDoor BadRow CR)) := by
  refine ok_X F cs_law_with_row (fun ds C h => ?_) fun cdv A outer s M H vs ds C Q E hr h k q => ?_
  · obtain ⟨x, y, rfl, _⟩ := h
    rfl
  · have hr4 := hr.mono (show 4 ≤ 6 by decide)
    have nd := cs_law_with_row.nd
    obtain ⟨j, d, rfl, hd, rfl⟩ := h
    refine blk_set (d := dR ([1], [2])) nd 2 (ee_tup (ea_cons (EF.ee (ef_lst (ea_cons ee_int ea_nil))) (ea_cons (EF.ee (ef_lst (ea_cons ee_int ea_nil))) ea_nil))) k fun σ0 H0 e0 k0 => ?_
    refine blk_when (et_lt (ee_var 0) ee_int) k0 (fun _ H1 e1 k1 => ?_) (fun _ H1 e1 k1 => ?_)
    · exact blk_retX (ex_if (et_eq eqI hr (ee_var 0) ee_int) (fun _ => ex_call hl hr4 takesX (ea_cons (ee_var 1) ea_nil) ⟨d, rfl, hd, rfl⟩)
        (fun _ => ex_if (et_eq eqI hr (ee_var 0) ee_int) (fun _ => ex_call ht hr4 takesX (ea_cons (ee_var 1) (ea_cons (ee_neg ee_int) ea_nil)) ⟨d, .int (-1), rfl, .inl ⟨hd, rfl⟩⟩) (fun _ => ex_call hm hr takesX (ea_cons (ee_var 0) (ea_cons (ee_var 1) ea_nil)) ⟨j, d, rfl, hd, rfl⟩))) k1 q
    · refine blk_when (et_lt (ee_var 0) ee_int) k1 (fun _ H2 e2 k2 => ?_) (fun _ H2 e2 k2 => ?_)
      · exact blk_retX (ex_if (et_eq eqI hr (ee_var 0) ee_int) (fun _ => ex_call hu hr4 takesX (ea_cons (ee_var 1) (ea_cons (ee_var 2) ea_nil)) ⟨d, _, rfl, rfl, .inl hd⟩)
          (fun _ => ex_if (et_eq eqI hr (ee_var 0) ee_int) (fun _ => ex_call hu hr4 takesX (ea_cons (ee_var 2) (ea_cons (ee_var 1) ea_nil)) ⟨_, d, rfl, rfl, .inr ⟨_, rfl, gd12, hd⟩⟩) (fun _ => ex_call hm hr takesX (ea_cons (ee_var 0) (ea_cons (ee_var 1) ea_nil)) ⟨j, d, rfl, hd, rfl⟩))) k2 q
      · refine blk_when (et_lt (ee_var 0) ee_int) k2 (fun _ H3 e3 k3 => ?_) (fun _ H3 e3 k3 => ?_)
        · exact blk_retX (ex_if (et_eq eqI hr (ee_var 0) ee_int) (fun _ => ex_call he hr4 takesX (ea_cons (ee_var 1) (ea_cons (ee_neg ee_int) (ea_cons ee_int ea_nil))) ⟨d, .int (-1), .int 0, rfl, .inl ⟨hd, rfl⟩⟩)
            (fun _ => ex_if (et_eq eqI hr (ee_var 0) ee_int) (fun _ => ex_call hv hr4 takesX (ea_cons (EF.ee (ef_lst (ea_cons (ee_var 2) (ea_cons (ee_var 1) ea_nil)))) ea_nil) ⟨_, rfl, rfl, .inr (.inr ⟨[dR ([1], [2]), d], 1, rfl, by show 1 < 2; decide, by show 2 ≤ 50000; decide, hd, fun i hi => ⟨([1], [2]), gd12, by rw [show i = 0 by omega]; rfl⟩⟩)⟩)
              (fun _ => ex_call ha hr4 takesX (ea_cons (ee_var 1) (ea_cons (ee_var 2) ea_nil)) ⟨d, _, rfl, rfl, .inl hd⟩))) k3 q
        · exact blk_retX (ex_if (et_eq eqI hr (ee_var 0) ee_int) (fun _ => ex_call ha hr4 takesX (ea_cons (ee_var 2) (ea_cons (ee_var 1) ea_nil)) ⟨_, d, rfl, rfl, .inr ⟨_, rfl, gd12, hd⟩⟩)
            (fun _ => ex_if (et_eq eqI hr (ee_var 0) ee_int) (fun _ => ex_call hb hr4 takesX (ea_cons (ee_var 1) (ea_cons (ee_neg ee_int) ea_nil)) ⟨d, .int (-1), rfl, .inl ⟨hd, rfl⟩⟩) (fun _ => ex_call hm hr takesX (ea_cons (ee_var 0) (ea_cons (ee_var 1) ea_nil)) ⟨j, d, rfl, hd, rfl⟩))) k3 q
theorem ok_with_placeX (F : Fun K "_law_with_place" "_law_with_place" s_law_with_place f fd) (ht : HX P w K mg base "told_at" 4 ["row", "place"] (SpX K (RxRP CR CP))) (hb : HX P w K mg base "begin" 4 ["row", "many"] (SpX K (RxRP CR CP))) (ho : HX P w K mg base "often" 4 ["row", "sign", "many"] (SpX K (RxOften CR CS CP)))
    (he : HX P w K mg base "every" 4 ["row", "start", "step"] (SpX K (RxEvery CR CP))) (hd : HX P w K mg base "behind" 4 ["row", "place"] (SpX K (RxRP CR CP))) : FnOk P w K mg base (L2N.CX P w) 5 f fd ["_law_door", "_law_place"] (SpX K (RxDoor (fun d => badPl d 0) CP)) := by
  refine ok_X F cs_law_with_place (fun ds C h => ?_) fun cdv A outer s M H vs ds C Q E hr h k q => ?_
  · obtain ⟨x, y, rfl, _⟩ := h
    rfl
  · have nd := cs_law_with_place.nd
    obtain ⟨j, d, rfl, hp, rfl⟩ := h
    refine blk_set (d := dR ([1], [2])) nd 2 (ee_tup (ea_cons (EF.ee (ef_lst (ea_cons ee_int ea_nil))) (ea_cons (EF.ee (ef_lst (ea_cons ee_int ea_nil))) ea_nil))) k fun σ0 H0 e0 k0 => ?_
    refine blk_when (et_lt (ee_var 0) ee_int) k0 (fun _ H1 e1 k1 => ?_) (fun _ H1 e1 k1 => ?_)
    · exact blk_retX (ex_if (et_eq eqI hr (ee_var 0) ee_int) (fun _ => ex_call ht hr takesX (ea_cons (ee_var 2) (ea_cons (ee_var 1) ea_nil)) ⟨_, d, rfl, .inr ⟨_, rfl, gd12, hp, rfl⟩⟩)
        (fun _ => ex_if (et_eq eqI hr (ee_var 0) ee_int) (fun _ => ex_call hb hr takesX (ea_cons (ee_var 2) (ea_cons (ee_var 1) ea_nil)) ⟨_, d, rfl, .inr ⟨_, rfl, gd12, hp, rfl⟩⟩)
          (fun _ => ex_call ho hr takesX (ea_cons (ee_var 2) (ea_cons ee_int (ea_cons (ee_var 1) ea_nil))) ⟨_, .int 1, d, rfl, .inr ⟨_, rfl, gd12, nn_int, .inr ⟨rfl, hp, rfl⟩⟩⟩))) k1 q
    · exact blk_retX (ex_if (et_eq eqI hr (ee_var 0) ee_int) (fun _ => ex_call he hr takesX (ea_cons (ee_var 2) (ea_cons (ee_var 1) (ea_cons ee_int ea_nil))) ⟨_, d, .int 1, rfl, .inr ⟨_, rfl, gd12, rfl, .inl hp⟩⟩)
        (fun _ => ex_call hd hr takesX (ea_cons (ee_var 2) (ea_cons (ee_var 1) ea_nil)) ⟨_, d, rfl, .inr ⟨_, rfl, gd12, hp, rfl⟩⟩)) k1 q
theorem ok_with_stepX (F : Fun K "_law_with_step" "_law_with_step" s_law_with_step f fd) (he : HX P w K mg base "every" 4 ["row", "start", "step"] (SpX K (RxEvery CR CP))) : FnOk P w K mg base (L2N.CX P w) 5 f fd ["_law_start", "_law_step"] (SpX K fun ds C => ∃ d, ds = [.int 0, d] ∧ badPl d 1 ∧ C = CP) := by
  refine ok_X F cs_law_with_step (fun ds C h => ?_) fun cdv A outer s M H vs ds C Q E hr h k q => ?_
  · obtain ⟨x, rfl, _⟩ := h
    rfl
  · obtain ⟨d, rfl, hp, rfl⟩ := h
    exact blk_retX (ex_call he hr takesX (ea_cons ((ee_tup (ea_cons (EF.ee (ef_lst (ea_cons ee_int ea_nil))) (ea_cons (EF.ee (ef_lst (ea_cons ee_int ea_nil))) ea_nil))).is (z := dR ([1], [2])) rfl) (ea_cons (ee_var 0) (ea_cons (ee_var 1) ea_nil))) ⟨_, .int 0, d, rfl, .inr ⟨_, rfl, gd12, rfl, .inr ⟨⟨0, rfl, by decide⟩, hp⟩⟩⟩) k q
theorem ok_with_signsX (F : Fun K "_law_with_signs" "_law_with_signs" s_law_with_signs f fd) (hs : HX P w K mg base "stands" 4 ["row", "word"] (SpX K (RxStands CR CS))) (ha : HX P w K mg base "ahead" 4 ["signs", "row"] (SpX K (RxAhead CR CS))) : FnOk P w K mg base (L2N.CX P w) 5 f fd ["_law_door", "_law_signs"] (SpX K (RxDoor (fun d => OkS d ∧ sgB d = false) CS)) := by
  refine ok_X F cs_law_with_signs (fun ds C h => ?_) fun cdv A outer s M H vs ds C Q E hr h k q => ?_
  · obtain ⟨x, y, rfl, _⟩ := h
    rfl
  · obtain ⟨j, d, rfl, ⟨h1, h2⟩, rfl⟩ := h
    exact blk_retX (ex_if (et_eq eqI hr (ee_var 0) ee_int) (fun _ => ex_call hs hr takesX (ea_cons ((ee_tup (ea_cons (EF.ee (ef_lst (ea_cons ee_int ea_nil))) (ea_cons (EF.ee (ef_lst (ea_cons ee_int ea_nil))) ea_nil))).is (z := dR ([1], [2])) rfl) (ea_cons (ee_var 1) ea_nil)) ⟨_, d, rfl, .inr ⟨_, rfl, gd12, h1, h2, rfl⟩⟩)
      (fun _ => ex_call ha hr takesX (ea_cons (ee_var 1) (ea_cons ee_non ea_nil)) ⟨d, .non, rfl, h1, .inl ⟨h2, rfl⟩⟩)) k q
theorem ok_with_signX (F : Fun K "_law_with_sign" "_law_with_sign" s_law_with_sign f fd) (ho : HX P w K mg base "often" 4 ["row", "sign", "many"] (SpX K (RxOften CR CS CP))) : FnOk P w K mg base (L2N.CX P w) 5 f fd ["_law_sign_here", "_law_many"] (SpX K fun ds C => ∃ d e, ds = [d, e] ∧ tyN d ≠ "" ∧ wholeP d = false ∧ C = CS) := by
  refine ok_X F cs_law_with_sign (fun ds C h => ?_) fun cdv A outer s M H vs ds C Q E hr h k q => ?_
  · obtain ⟨x, y, rfl, _⟩ := h
    rfl
  · obtain ⟨d, e, rfl, h1, h2, rfl⟩ := h
    exact blk_retX (ex_call ho hr takesX (ea_cons ((ee_tup (ea_cons (EF.ee (ef_lst (ea_cons ee_int ea_nil))) (ea_cons (EF.ee (ef_lst (ea_cons ee_int ea_nil))) ea_nil))).is (z := dR ([1], [2])) rfl) (ea_cons (ee_var 0) (ea_cons (ee_var 1) ea_nil))) ⟨_, d, e, rfl, .inr ⟨_, rfl, gd12, h1, .inl ⟨h2, rfl⟩⟩⟩) k q
theorem ok_with_baseX (F : Fun K "_law_with_base" "_law_with_base" s_law_with_base f fd) (hf : HX P w K mg base "fraction" 4 ["row", "base"] (SpX K (RxFrac CR CB CF))) (hg : HX P w K mg base "figured" 3 ["above", "below", "base"] (SpX K (RxFigd CQ CB))) : FnOk P w K mg base (L2N.CX P w) 5 f fd ["_law_door", "_law_base"] (SpX K (RxDoor badB CB)) := by
  refine ok_X F cs_law_with_base (fun ds C h => ?_) fun cdv A outer s M H vs ds C Q E hr h k q => ?_
  · obtain ⟨x, y, rfl, _⟩ := h
    rfl
  · obtain ⟨j, d, rfl, h1, rfl⟩ := h
    exact blk_retX (ex_if (et_eq eqI hr (ee_var 0) ee_int) (fun _ => ex_call hf hr takesX (ea_cons ((ee_tup (ea_cons (EF.ee (ef_lst (ea_cons ee_int ea_nil))) (ea_cons (EF.ee (ef_lst (ea_cons (ee_neg ee_int) ea_nil))) ea_nil))).is (z := dR ([5000], [-1])) rfl) (ea_cons (ee_var 1) ea_nil)) ⟨_, d, rfl, .inr ⟨_, rfl, ⟨by decide, by decide, by decide⟩, by decide, .inl ⟨h1, rfl⟩⟩⟩)
      (fun _ => ex_call hg (hr.mono (by decide)) takesX (ea_cons ee_int (ea_cons ee_int (ea_cons (ee_var 1) ea_nil))) ⟨.int 1, .int 3, d, rfl, .inr ⟨1, 3, rfl, rfl, by decide, by decide, by decide, h1, rfl⟩⟩)) k q
theorem ok_with_fractionX (F : Fun K "_law_with_fraction" "_law_with_fraction" s_law_with_fraction f fd) (hg : HX P w K mg base "figured" 3 ["above", "below", "base"] (SpX K (RxFigd CQ CB))) : FnOk P w K mg base (L2N.CX P w) 4 f fd ["_law_pair", "_law_base"] (SpX K fun ds C => ∃ a e b, ds = [.tup [a, e], b] ∧ badF a e ∧ C = CQ) := by
  refine ok_X F cs_law_with_fraction (fun ds C h => ?_) fun cdv A outer s M H vs ds C Q E hr h k q => ?_
  · obtain ⟨x, y, z, rfl, _⟩ := h
    rfl
  · obtain ⟨a, e, b, rfl, h1, rfl⟩ := h
    exact blk_retX (ex_call hg hr takesX (ea_cons (ee_ixT (ee_var 0) ee_int rfl) (ea_cons (ee_ixT (ee_var 0) ee_int rfl) (ea_cons (ee_var 1) ea_nil))) ⟨a, e, b, rfl, .inl ⟨h1, rfl⟩⟩) k q
/-! ### the error's kinds -/
structure KC (K : PySem.W.Frag) (CR CP CS CB CF CQ CT CE D : Addr) (b1 b2 b3 b4 b5 b6 : Bool) : Prop where
  ex : ExcC K D
  m : PySem.W.exmOne K (.ref D) (.ref CE) = some true
  r : PySem.W.kitOne K (.ref D) (.ref CR) = some b1
  p : PySem.W.kitOne K (.ref D) (.ref CP) = some b2
  s : PySem.W.kitOne K (.ref D) (.ref CS) = some b3
  b : PySem.W.kitOne K (.ref D) (.ref CB) = some b4
  f : PySem.W.kitOne K (.ref D) (.ref CF) = some b5
  q : PySem.W.kitOne K (.ref D) (.ref CQ) = some b6
  t : PySem.W.kitOne K (.ref D) (.ref CT) = some false
  v : PySem.W.kitOne K (.ref D) (.type "ValueError") = some true
structure KG (mg : Str → Option Value) (CR CP CS CB CF CQ CT CE : Addr) : Prop where
  r : mg "BadRow" = some (.ref CR)
  p : mg "BadPlace" = some (.ref CP)
  s : mg "BadSigns" = some (.ref CS)
  b : mg "BadBase" = some (.ref CB)
  f : mg "BadFigures" = some (.ref CF)
  q : mg "BadFraction" = some (.ref CQ)
  t : mg "BadText" = some (.ref CT)
  e : mg "RowError" = some (.ref CE)
  v : mg "ValueError" = none
def KCb (K : PySem.W.Frag) (CR CP CS CB CF CQ CT CE D : Addr) (bs : List Bool) : Prop := ∃ b1 b2 b3 b4 b5 b6, bs = [b1, b2, b3, b4, b5, b6, false, true] ∧ KC K CR CP CS CB CF CQ CT CE D b1 b2 b3 b4 b5 b6
def SpK (K : PySem.W.Frag) (CR CP CS CB CF CQ CT CE : Addr) : Addr × Obj → Sp := fun p vs H Q _ => ∃ (M : List Addr) (D : Addr) (bs : List Bool), vs = [.ref p.1] ∧ Al M H ∧ KCb K CR CP CS CB CF CQ CT CE D bs ∧ Zc (.ref D) none p.2 ∧ (∃ vs, p.2.data = .fields vs) ∧
  ∀ a H', H a = none → Ex H H' → H' a = some (.lst (bs.map V.bl)) → Q (.ref a) H'
theorem ok_kinds (F : Fun K "_law_kinds" "_law_kinds" s_law_kinds f fd) (T : Bi mg) (g : KG mg CR CP CS CB CF CQ CT CE) : FnP P w K mg base CX0 1 f fd ["_law_error"] (SpK K CR CP CS CB CF CQ CT CE) := by
  obtain ⟨oc, od, kV, doc, pm, an, cdv, ct, osl, rfl, lk, hcd⟩ := F.ex
  refine fn_ofP lk hcd cs_law_kinds (fun p vs H Q E h => ?_) fun A outer s H vs Q E p hr h => ?_
  · obtain ⟨M, D, bs, rfl, _⟩ := h
    rfl
  · have nd := cs_law_kinds.nd
    obtain ⟨M, D, bs, rfl, al, ⟨b1, b2, b3, b4, b5, b6, rfl, kc⟩, hz, hf, q⟩ := h
    have er : Err (L2H.cxH CX0 P w K mg base ns_law_kinds "_law_kinds" (defScope s_law_kinds) f cdv A outer s H E p) p.1 D := ⟨kc.ex, p.2, List.mem_singleton.mpr rfl, hz, hf⟩
    have k : EO K M H H (L2.start ns_law_kinds [.ref p.1]) (startD ns_law_kinds [.raw (.ref p.1)]) := ⟨Evl.Ex.refl H, start_kn al (.cons (.raw _) .nil)⟩
    show Blk (L2H.cxH CX0 P w K mg base ns_law_kinds "_law_kinds" (defScope s_law_kinds) f cdv A outer s H E p) (defBody s_law_kinds) _ _ _
    refine blk_set nd 1 (EF.ee (ef_lst (ea_cons (ee_isE er (ee_var 0) kc.r T.isinstance g.r) (ea_cons (ee_isE er (ee_var 0) kc.p T.isinstance g.p) (ea_cons (ee_isE er (ee_var 0) kc.s T.isinstance g.s) ea_nil))))) k fun σ1 H1 e1 k1 => ?_
    refine blk_set nd 1 (EF.ee (ef_cat (ee_var 1) (EF.ee (ef_lst (ea_cons (ee_isE er (ee_var 0) kc.b T.isinstance g.b) (ea_cons (ee_isE er (ee_var 0) kc.f T.isinstance g.f) (ea_cons (ee_isE er (ee_var 0) kc.q T.isinstance g.q) ea_nil))))) (by show 3 + 3 ≤ 100000; decide))) k1 fun σ2 H2 e2 k2 => ?_
    refine blk_retF (ds := [b1, b2, b3, b4, b5, b6, false, true].map Pd.bl) ((ef_cat (ee_var 1) (EF.ee (ef_lst (ea_cons (ee_isE er (ee_var 0) kc.t T.isinstance g.t) (ea_cons (ee_isET er (ee_var 0) kc.v T.isinstance g.v) ea_nil)))) (by show 6 + 2 ≤ 100000; decide)).is rfl) k2 fun a xs H3 n3 e3 h3 h4 => ?_
    rw [dtB_inv h4] at h3
    exact q a H3 n3 e3 h3
/-! ### what is asked, and what is told by it -/
inductive Asks (P : Program) (w : World) (K : PySem.W.Frag) (mg : Str → Option Value) (base : Heap) : Pd → Pd → Pd → Addr → Prop
  | fn {f : Addr} {fd : FuncData} {ps : List Str} {R : List Pd → Addr → Prop} {d1 d2 : Pd} {C : Addr} : FnOk P w K mg base (L2N.CX P w) 7 f fd ps (SpX K R) → PySem.W.keepIn K (.ref f) = true → Binds K fd ps [] → R [d1, d2] C → Asks P w K mg base (.raw (.ref f)) d1 d2 C
  | lam {q : Str} {params : Arguments} {body : Expr} {scope : Scope} {ps : List Str} {R : List Pd → Addr → Prop} {d1 d2 : Pd} {C : Addr} : LamOk P w K mg base (L2N.CX P w) 7 q params body scope ps (SpX K R) → R [d1, d2] C → Asks P w K mg base (.lam q params body scope) d1 d2 C
def RtoldBy (P : Program) (w : World) (K : PySem.W.Frag) (mg : Str → Option Value) (base : Heap) (CR CP CS CB CF CQ CT CE : Addr) : List Pd → Pd → Prop := fun ds d => ∃ ask d1 d2 C bs, ds = [ask, d1, d2] ∧ Asks P w K mg base ask d1 d2 C ∧ KCb K CR CP CS CB CF CQ CT CE C bs ∧ d = .lst (bs.map Pd.bl)
theorem mark_room {A : Around} {k j : Nat} {a : Value} (hr : Room k A) (h : j ≤ k) : L2H.RoomH j (A.mark (some a)) := ⟨by have := hr.dp; show A.depth + 3 * j + 5 < _; omega, by have := hr.un; show A.units + 16 * j + 200 < _; omega⟩
theorem ok_told_by {g : Addr} {gd : FuncData} (F : Fun K "_law_told_by" "_law_told_by" s_law_told_by f fd) (G : KG mg CR CP CS CB CF CQ CT CE) (FK : FnP P w K mg base CX0 1 g gd ["_law_error"] (SpK K CR CP CS CB CF CQ CT CE)) (gk : mg "_law_kinds" = some (.ref g)) (kk : PySem.W.keepIn K (.ref g) = true) (bk : Binds K gd ["_law_error"] []) :
    FnOk P w K mg base CX0 8 f fd ["_law_ask", "_law_one", "_law_other"] (SpR K (RtoldBy P w K mg base CR CP CS CB CF CQ CT CE)) := by
  refine ok_R F cs_law_told_by (fun ds d h => ?_) fun cdv A outer s M H vs ds d Q E hr h k q => ?_
  · obtain ⟨x, y, z, _, _, rfl, _⟩ := h
    rfl
  · have nd := cs_law_told_by.nd
    obtain ⟨ask, d1, d2, C, bs, rfl, hask, kcb, rfl⟩ := h
    refine ⟨_, pss_cons (L2N.ps_try_as (i := 3) (c := .ref CE) (Wout := fun _ _ _ _ => False)
      (tb := fun W D σ H => ∃ M ask d1 d2 C, Kn K M H σ [some ask, some d1, some d2, none] ∧ Asks P w K mg base ask d1 d2 C ∧ ∀ H', Ex H H' → W (.ref C) none σ H')
      (ts := fun a cls d D σ H => ∃ M C bs, cls = .ref C ∧ d = none ∧ KCb K CR CP CS CB CF CQ CT CE C bs ∧ Al M H ∧ σ[3]? = some (some (.ref a)) ∧ ∀ l H', H l = none → Ex H H' → H' l = some (.lst (bs.map V.bl)) → D.rt (.ref l) H')
      rfl rfl nd rfl rfl ⟨rfl, by decide, .inl G.e⟩ takesN0 (fun W pn xe tk _ => ?_) (fun a oe cls d pn hz hf => ?_)) pss_w, ?_⟩
    · refine ⟨fun pins s' σ H' D I h => ?_⟩
      obtain ⟨M', ask', e1, e2, C', kn, ha, hW⟩ := h
      cases ha with
      | @fn f' fd' ps' R' _ _ _ F' kp' b' hR =>
        obtain ⟨v, hv, hd⟩ := kn.at_ 0 _ rfl
        cases dt_raw hd
        exact (pss_one (ps_expr (pe_callLS (i := 0) (E := WE W) F' (by exact hr) rfl (.inl rfl) kp' b' (L2N.passAt tk) pa_w) rfl)).run pins s' σ H' D I ⟨hv, (ea_cons (ee_var 1) (ea_cons (ee_var 2) ea_nil)) M' σ H' kn _ fun vs H1 x1 h1 => ⟨M', [e1, e2], C', kn.al.mono x1, h1, hR, fun H2 x2 => hW H2 (x1.trans x2)⟩⟩
      | @lam q' pr' bd' sc' ps' R' _ _ _ L' hR =>
        obtain ⟨v, hv, hd⟩ := kn.at_ 0 _ rfl
        cases hd with
        | @lam fa ca _ _ _ _ n1 n2 g1 g2 =>
          exact (pss_one (ps_expr (pe_callLam (i := 0) (E := WE W) L' (by exact hr) rfl (.inl rfl) (L2N.passAt tk) pa_w) rfl)).run pins s' σ H' D I ⟨fa, ca, hv, g1, (ea_cons (ee_var 1) (ea_cons (ee_var 2) ea_nil)) M' σ H' kn _ fun vs H1 x1 h1 => ⟨x1 _ _ g1, x1 _ _ g2, M', [e1, e2], C', kn.al.mono x1, h1, hR, fun H2 x2 => hW H2 (x1.trans x2)⟩⟩
    · refine ⟨fun pins s' σ H' D I h => ?_⟩
      obtain ⟨M', D', bs', rfl, rfl, kc', al', hσ, hq⟩ := h
      exact (pss_one (ps_ret (pe_callP (X := Cx.suite ((cxOf CX0 P w K mg base ns_law_told_by "_law_told_by" (defScope s_law_told_by) f cdv A outer s H E).nox) a ((a, oe) :: pn)) (x := "_law_kinds") (p := (a, oe)) FK (mark_room hr (by decide)) (List.mem_cons_self ..) rfl gk kk bk (pa_cons (pe_var (x := "_law_error") (i := 3) rfl (.inl rfl)) pa_nil)))).run pins s' σ H' D I ⟨.ref a, hσ, M', D', bs', rfl, al', kc', hz.zc, hf, hq⟩
    · refine ⟨M, ask, d1, d2, C, k.kn, hask, fun H1 e1 => ⟨true, ?_, fun _ a na => ⟨M, C, bs, rfl, rfl, kcb, k.kn.al.mono e1, ?_, fun l H2 nl e2 hl => ?_⟩, fun z => Bool.noConfusion z⟩⟩
      · obtain ⟨b1, b2, b3, b4, b5, b6, _, kc⟩ := kcb
        exact kc.m
      · refine List.getElem?_set_self ?_
        rw [k.kn.len]
        show 3 < 4
        decide
      · exact q _ H2 (e1.trans e2) (.lst ((k.kn.al.mono e1).nw nl) hl (dtB bs))
def RlawAll (P : Program) (w : World) (K : PySem.W.Frag) (mg : Str → Option Value) (base : Heap) (CR CP CS CB CF CQ CT CE : Addr) : List Pd → Pd → Prop := fun ds d => ∃ (ask : Pd) (doors things : List Pd) (bs : List Bool), ds = [ask, .lst doors, .lst things, .lst (bs.map Pd.bl)] ∧ things.length ≤ 50000 ∧
  (∀ x ∈ doors, ∀ y ∈ things, ∃ C, Asks P w K mg base ask x y C ∧ KCb K CR CP CS CB CF CQ CT CE C bs) ∧ d = .bl true
theorem getD_mem {l : List Pd} {i : Nat} (h : i < l.length) : l.getD i .non ∈ l := List.mem_of_getElem? (getD_some i h)
theorem ok_law_all (F : Fun K "_law_all" "_law_all" s_law_all f fd) (T : Bi mg) (hT : H0 P w K mg base "_law_told_by" 8 ["_law_ask", "_law_one", "_law_other"] (SpR K (RtoldBy P w K mg base CR CP CS CB CF CQ CT CE))) :
    FnOk P w K mg base CX0 9 f fd ["_law_ask", "_law_doors", "_law_things", "_law_due"] (SpR K (RlawAll P w K mg base CR CP CS CB CF CQ CT CE)) := by
  refine ok_R F cs_law_all (fun ds d h => ?_) fun cdv A outer s M H vs ds d Q E hr h k q => ?_
  · obtain ⟨x, y, z, _, rfl, _⟩ := h
    rfl
  · have nd := cs_law_all.nd
    obtain ⟨ask, doors, things, bs, rfl, hz, hall, rfl⟩ := h
    refine blk_for (n := doors.length) (Yd := fun i => doors.getD i .non) nd 4 PassesOwn.never rfl (iw_list (ee_var 1) fun i hi => getD_some i hi) k
      (fun B i σ' H' => EO K M B H' σ' [some ask, some (.lst doors), some (.lst things), some (.lst (bs.map Pd.bl)), none, none])
      (fun B i σ' H' p => ⟨exM p.ex, p.kn.al⟩) (fun H3 e3 k3 => k3.here) (fun B i v σ' H' H3 hi eB p e3 g3 => ?_) (fun B σ' H' eB p => ?_)
    · have k3 := (p.mono e3).set 4 g3
      refine blk_no ((et_not (et_val (ee_all (bs := things.map fun _ => true) rfl (EF.ee ((ef_lc (n := things.length) (jx := 5) (Yd := fun j => things.getD j .non) (f := fun j => .bl true) rfl nd
        (iw_list (ee_var 2) fun j hj => getD_some j hj) (blkOk_by (N := ns_law_all) (sc := defScope s_law_all) (own := [("_law_thing", 5)]) (by decide +kernel)) (fun _ _ _ _ _ => pg_name nd rfl (Or.inl rfl)) (by decide)
        hz (fun j _ => flat_bl)
        (fun s' H' C cl fp j hj => (ee_eq (x := bs) (y := bs) (eqList eqB) hr (by
          obtain ⟨C', h1, h2⟩ := hall _ (getD_mem hi) _ (getD_mem hj)
          exact ee_call hT hr pass0 (ea_cons (ee_var 0) (ea_cons (ee_var 4) (ea_cons (ee_var 5) ea_nil))) ⟨ask, _, _, C', bs, rfl, h1, h2, rfl⟩) (ee_var 3)).is (by simp))).is (by
          rw [range_map things .non (fun e => Pd.bl true), List.map_map]
          rfl))) T.all))).is (by
            rw [all_map_id, List.all_eq_true.mpr (fun _ _ => rfl)]
            rfl)) k3 fun H5 e5 k5 => blk_nil (k5.lose 4)
    · exact blk_retB (p.base (k.ex.trans eB)) fun H' e1 => q _ H' e1 (.bl _)
end
end Lr

namespace Lr
open PySem PySem.Spec PyProof.Rows L2
open Evl (Ex)
theorem Kn.monoM {K : PySem.W.Frag} {M : List Addr} {H H' : Hp} {σ : L2.St} {δ : Dl} (k : Kn K M H σ δ) (e : ExM M H H') (al : Al M H') : Kn K M H' σ δ := ⟨k.len, fun i d h => by
  obtain ⟨v, h1, h2⟩ := k.at_ i d h
  exact ⟨v, h1, h2.monoM e⟩, al⟩
section
variable {X : Cx} {δ : Dl} {a b c e e1 e2 r : Expr} {rest thn : List Stmt} {pos p p2 p3 lp : Pos} {d d1 d2 : Pd} {x : Str} {D : Ends} {M : List Addr} {Hb H : Hp} {σ : L2.St}
/-- a module's def as a value -/
theorem ee_globF {f : Addr} (hm : X.mg x = some (.ref f)) (hg : Gl X x := by rfl) (hd : (x == ("__debug__" : Str)) = false := by decide) : EE X (.Name x p) δ (.raw (.ref f)) := fun M σ H _ Q q =>
  ⟨_, pe_glob (v := .ref f) hg hm rfl hd, q _ H (Evl.Ex.refl H) (.raw _)⟩
theorem rgc_small : ∀ m : Fin 201, RgC 0 (m.1 : Int) (1 + (m.1 : Int) / 6) ((m.1 + m.1 / 6) / (1 + m.1 / 6)) := by
  unfold RgC
  decide +kernel
theorem iw_range3 {tg : Expr} {lo n st : Int} {m : Nat} (ha : EE X a δ (.int lo)) (hb : EE X b δ (.int n)) (hc : EE X c δ (.int st)) (hr : RgC lo n st m) (hm : X.mg "range" = none) (hg : Gl X "range" := by rfl)
    (hs : starEach [a, b, c] X.env = (false, eval a X.env) :: starEach [b, c] X.env := by rfl) (hs2 : starEach [b, c] X.env = (false, eval b X.env) :: starEach [c] X.env := by rfl) (hs3 : starEach [c] X.env = (false, eval c X.env) :: starEach [] X.env := by rfl) (hpl : (backTo pos (starEach [b, c] X.env)).any (·.1) = false := by rfl) :
    IW X tg (.Call (.Name "range" p) [a, b, c] [] pos) δ m (fun i => .int (lo + (i : Nat) * st)) := fun M σ H kn R q =>
  ⟨_, pi_range3 hg hm (pa_cons pe_w (pa_cons pe_w (pa_cons pe_w pa_nil hs3) hs2) hs) hs hpl, ha M σ H kn _ fun v H1 e1 g1 => hb M σ H1 (kn.mono e1) _ fun u H2 e2 g2 => hc M σ H2 (kn.mono (e1.trans e2)) _ fun w H3 e3 g3 => ⟨lo, n, st, m, by rw [dt_int g1, dt_int g2, dt_int g3], hr, q _ H3 _ _ ((e1.trans e2).trans e3) walk_rangeC (fun _ _ => trivial) fun M' i H4 v H' hM hi y e4 _ => by
    obtain ⟨rfl, rfl⟩ := y
    exact ⟨Evl.Ex.refl _, .int _⟩⟩⟩
end
abbrev dB (bs : List Bool) : Pd := .lst (bs.map Pd.bl)
def dueF (k : Int) : List Bool := [decide (k = 0), decide (k = 1), decide (k = 2), decide (k = 3), decide (k = 4), decide (k = 5), false, true]
abbrev dueD : Pd := .lst [dB (dueF 0), dB (dueF 1), dB (dueF 2), dB (dueF 3), dB (dueF 4), dB (dueF 5)]
section
variable {P : Program} {w : World} {K : PySem.W.Frag} {mg : Str → Option Value} {base : Heap} {CR CP CS CB CF CQ CT CE : Addr}
/-- if told_by(lambda .., e1, e2) != due: return False -/
theorem blk_lamIf {X : Cx} {δ : Dl} {e1 e2 r : Expr} {rest thn : List Stmt} {pos p p2 p3 lp : Pos} {d1 d2 : Pd} {D : Ends} {Hb H : Hp} {σ : L2.St} {k j : Nat} {c Pt C : Addr} {params : Arguments} {body : Expr} {scope : Scope} {bs : List Bool} {x : Str} {ps : List Str}
    (hT : H0 X.prog X.w X.K X.mg X.base x j ps (SpR X.K (RtoldBy X.prog X.w X.K X.mg X.base CR CP CS CB CF CQ CT CE))) (hr : Room j X.A) (hu : Room k X.A) (TB : LamX.TabB X.base X.mg c Pt) (hcode : X.env.code = .ref c) (hfree : ∀ y ∈ scope.names, y.2 ≠ .free) (hclo : cloFrom X.env.cells scope.names [] = [])
    (tab : LamX.TabS H Pt (X.env.qual ++ "<lambda>")) (kk : EO X.K [Pt] Hb H σ δ) (hbP : Hb Pt = none) (h1 : EE X e1 δ d1) (h2 : EE X e2 δ d2) (h3 : EE X r δ (dB bs))
    (hask : Asks X.prog X.w X.K X.mg X.base (.lam (X.env.qual ++ "<lambda>") params body scope) d1 d2 C) (kcb : KCb X.K CR CP CS CB CF CQ CT CE C bs)
    (q : ∀ H', ExM [Pt] H H' → LamX.TabS H' Pt (X.env.qual ++ "<lambda>") → EO X.K [Pt] Hb H' σ δ → Blk X rest D σ H')
    (hg : Gl X x := by rfl) (hdb : (x == ("__debug__" : Str)) = false := by decide) (hdef : defaultsOf params X.env = ([], []) := by rfl)
    (he : starEach [.Lambda params body scope lp, e1, e2] X.env = (false, eval (.Lambda params body scope lp) X.env) :: starEach [e1, e2] X.env := by rfl) (he2 : starEach [e1, e2] X.env = (false, eval e1 X.env) :: starEach [e2] X.env := by rfl) (he3 : starEach [e2] X.env = (false, eval e2 X.env) :: starEach [] X.env := by rfl) (hpl : (backTo pos (starEach [e1, e2] X.env)).any (·.1) = false := by rfl) :
    Blk X (.If (.Compare (.Call (.Name x p) [.Lambda params body scope lp, e1, e2] [] pos) [.NotEq] [r] p2) thn [] p3 :: rest) D σ H := by
  obtain ⟨f, fd, F, g, kp, bn⟩ := hT
  refine ⟨_, pss_cons (ps_if (pt_cmpR (op_neD hu.units) (pe_call F hr hg g kp bn .nil pass0 (pa_cons (pe_lam TB hcode hfree hclo hdef) (pa_cons pe_w (pa_cons pe_w pa_nil he3) he2) he) hdb he hpl) pe_w (nomark _)) pss_w pss_nil) pss_w, ?_⟩
  refine ⟨tab, fun f' c' H1 x1 tab1 g1 g2 n1 n2 => ?_⟩
  have al1 : Al [Pt] H1 := fun a ha => by
    rw [List.mem_singleton.mp ha]
    obtain ⟨ps, h, _⟩ := tab1
    exact ⟨_, h⟩
  have kn1 := kk.kn.monoM x1 al1
  refine h1 [Pt] σ H1 kn1 _ fun v1 H2 x2 w1 => h2 [Pt] σ H2 (kn1.mono x2) _ fun v2 H3 x3 w2 => ?_
  have kn3 := kn1.mono (x2.trans x3)
  refine ⟨[Pt], [.lam (X.env.qual ++ "<lambda>") params body scope, d1, d2], dB bs, kn3.al, .cons (.lam (fun z => n1 (List.mem_singleton.mp z)) (fun z => n2 (List.mem_singleton.mp z)) ((x2.trans x3) _ _ g1) ((x2.trans x3) _ _ g2)) (.cons (w1.mono x3) (.cons w2 .nil)), ⟨_, d1, d2, C, bs, rfl, hask, kcb, rfl⟩, fun v H4 x4 w4 => ?_⟩
  refine h3 [Pt] σ H4 (kn3.mono x4) _ fun y H5 x5 w5 => ?_
  refine rd_ne (eqList eqB) (by decide) (x := bs) (y := bs) [Pt] v y H5 ((kn3.mono x4).al.mono x5) (w4.mono x5) w5 _ fun z H6 x6 w6 => ⟨_, dt_bl w6, ?_⟩
  have ee : Ex H1 H6 := (x2.trans x3).trans (x4.trans (x5.trans x6))
  have xm : ExM [Pt] H H6 := x1.trans (exM ee)
  rw [decide_eq_true (rfl : bs = bs)]
  refine iteF ?_
  exact q H6 xm (tab1.ext ee) ⟨fun a o ho => xm a o (fun z => by rw [List.mem_singleton.mp z, hbP] at ho; cases ho) (kk.ex a o ho), kn1.mono ee⟩
end
structure KA (K : PySem.W.Frag) (CR CP CS CB CF CQ CT CE : Addr) : Prop where
  r : KC K CR CP CS CB CF CQ CT CE CR true false false false false false
  p : KC K CR CP CS CB CF CQ CT CE CP false true false false false false
  s : KC K CR CP CS CB CF CQ CT CE CS false false true false false false
  b : KC K CR CP CS CB CF CQ CT CE CB false false false true false false
  f : KC K CR CP CS CB CF CQ CT CE CF false false false false true false
  q : KC K CR CP CS CB CF CQ CT CE CQ false false false false false true
section
variable {K : PySem.W.Frag} {CR CP CS CB CF CQ CT CE : Addr}
theorem KA.cr (h : KA K CR CP CS CB CF CQ CT CE) : KCb K CR CP CS CB CF CQ CT CE CR (dueF 0) := ⟨_, _, _, _, _, _, by decide, h.r⟩
theorem KA.cp (h : KA K CR CP CS CB CF CQ CT CE) : KCb K CR CP CS CB CF CQ CT CE CP (dueF 1) := ⟨_, _, _, _, _, _, by decide, h.p⟩
theorem KA.cs (h : KA K CR CP CS CB CF CQ CT CE) : KCb K CR CP CS CB CF CQ CT CE CS (dueF 2) := ⟨_, _, _, _, _, _, by decide, h.s⟩
theorem KA.cb (h : KA K CR CP CS CB CF CQ CT CE) : KCb K CR CP CS CB CF CQ CT CE CB (dueF 3) := ⟨_, _, _, _, _, _, by decide, h.b⟩
theorem KA.cf (h : KA K CR CP CS CB CF CQ CT CE) : KCb K CR CP CS CB CF CQ CT CE CF (dueF 4) := ⟨_, _, _, _, _, _, by decide, h.f⟩
theorem KA.cq (h : KA K CR CP CS CB CF CQ CT CE) : KCb K CR CP CS CB CF CQ CT CE CQ (dueF 5) := ⟨_, _, _, _, _, _, by decide, h.q⟩
end
/-! bad things, one by one -/
theorem oks_no {x : Pd} (h1 : tyN x ≠ "") (h2 : isLstB x = false) : OkS x ∧ sgB x = false := by
  refine ⟨.inr ⟨fun l z => ?_, fun l z => ?_, h1⟩, ?_⟩
  · rw [z] at h2
    cases h2
  · rw [z] at h2
    cases h2
  · cases x with
    | lst l => cases h2
    | _ => rfl
theorem oks_lst {l : List Pd} (hz : l.length ≤ 50000) (h : ∀ e ∈ l, tyN e ≠ "") : OkS (.lst l) := .inl ⟨l, rfl, hz, h⟩
theorem oks1 {x : Pd} (h : tyN x ≠ "") (h2 : wholeP x = false) : OkS (.lst [x]) ∧ sgB (.lst [x]) = false := by
  refine ⟨oks_lst (by show 1 ≤ 50000; decide) fun e he => by rw [List.mem_singleton.mp he]; exact h, ?_⟩
  show (wholeP x && true) = false
  rw [h2]
  rfl
theorem oks_one : OkS (dL [1]) ∧ sgB (dL [1]) = true := oks_ints (by decide)
theorem oks_two : OkS (dL [2]) ∧ sgB (dL [2]) = true := oks_ints (by decide)
theorem nn (s : String) (h : s.isEmpty = false) : s ≠ "" := fun z => by rw [z] at h; cases h
theorem BadRow.l {x y : Pd} (h : OkS x ∧ sgB x = false) : BadRow (.tup [x, y]) := .lead h.1 h.2
theorem BadRow.r1 {x y : Pd} (g : OkS x ∧ sgB x = true) (h : OkS y ∧ sgB y = false) : BadRow (.tup [x, y]) := .round g.1 g.2 h.1 h.2
def bads1 : List Pd := [.non, .int 5, .str "(1)", .lst [dL [1], dL [2]], .tup [dL [1]], .tup [dL [1], dL [2], dL [3]], .tup [dL [1], dL []], .tup [dL [], dL []], .tup [.tup [.int 1], dL [2]], .tup [dL [1], .tup [.int 2]]]
def bads2 : List Pd := [.tup [.non, dL [2]], .tup [dL [1], .non], .tup [.lst [.bl true], dL [1]], .tup [dL [1], .lst [.bl true]], .tup [.lst [.str "1"], dL [1]], .tup [dL [1], .lst [.non]], .tup [.lst [dL [1]], dL [2]], .dic []]
theorem bads_bad : ∀ d ∈ bads1 ++ bads2, BadRow d := by
  intro d hd
  have n1 : ("NoneType" : String) ≠ "" := by decide
  have n2 : ("int" : String) ≠ "" := by decide
  have n3 : ("str" : String) ≠ "" := by decide
  have n4 : ("list" : String) ≠ "" := by decide
  have n5 : ("tuple" : String) ≠ "" := by decide
  have n6 : ("dict" : String) ≠ "" := by decide
  have n7 : ("bool" : String) ≠ "" := by decide
  unfold bads1 bads2 at hd
  simp only [List.cons_append, List.nil_append, List.mem_cons, List.not_mem_nil, or_false] at hd
  rcases hd with rfl | rfl | rfl | rfl | rfl | rfl | rfl | rfl | rfl | rfl | rfl | rfl | rfl | rfl | rfl | rfl | rfl | rfl
  · exact .no n1 rfl
  · exact .no n2 rfl
  · exact .no n3 rfl
  · exact .no n4 rfl
  · exact .len (by show 1 ≠ 2; decide)
  · exact .len (by show 3 ≠ 2; decide)
  · exact .none oks_one.1 oks_one.2
  · exact .none (oks_ints (ns := []) (by decide)).1 rfl
  · exact .l (oks_no n5 rfl)
  · exact .r1 oks_one (oks_no n5 rfl)
  · exact .l (oks_no n1 rfl)
  · exact .r1 oks_one (oks_no n1 rfl)
  · exact .l (oks1 n7 rfl)
  · exact .r1 oks_one (oks1 n7 rfl)
  · exact .l (oks1 n3 rfl)
  · exact .r1 oks_one (oks1 n1 rfl)
  · exact .l (oks1 n4 rfl)
  · exact .no n6 rfl
def badE (s : Nat) : Pd := if s % 4 = 0 then .non else if s % 4 = 1 then .str "1" else if s % 4 = 2 then .bl true else dL [1]
theorem badE_at (s : Nat) : atI [.non, .str "1", .bl true, dL [1]] ((s : Int) % 4) = some (badE s) := by
  unfold badE
  have h : s % 4 < 4 := Nat.mod_lt _ (by decide)
  have e : (s : Int) % 4 = ((s % 4 : Nat) : Int) := by omega
  rw [e]
  generalize s % 4 = j at h
  match j, h with
  | 0, _ => rfl
  | 1, _ => rfl
  | 2, _ => rfl
  | 3, _ => rfl
theorem badE_no (s : Nat) : tyN (badE s) ≠ "" ∧ wholeP (badE s) = false := by
  unfold badE
  split
  · exact ⟨by show ("NoneType" : String) ≠ ""; decide, rfl⟩
  · split
    · exact ⟨by show ("str" : String) ≠ ""; decide, rfl⟩
    · split
      · exact ⟨by show ("bool" : String) ≠ ""; decide, rfl⟩
      · exact ⟨by show ("list" : String) ≠ ""; decide, rfl⟩
def badSpot (r : Row) (s : Nat) : Pd := .tup [dL r.1, .lst ((r.2.take s).map Pd.int ++ [badE s] ++ (r.2.drop (s + 1)).map Pd.int)]
theorem badSpot_bad {r : Row} (l1 : r.1.length ≤ 400) (l2 : r.2.length ≤ 200) (s : Nat) : BadRow (badSpot r s) := by
  obtain ⟨b1, b2⟩ := badE_no s
  refine .round (oks_ints (by omega)).1 (oks_ints (ns := r.1) (by omega)).2 (oks_lst ?_ fun e he => ?_) ?_
  · rw [List.length_append, List.length_append, List.length_map, List.length_map, List.length_take, List.length_drop]
    show _ + 1 + _ ≤ _
    omega
  · rcases List.mem_append.mp he with he | he
    · rcases List.mem_append.mp he with he | he
      · obtain ⟨i, _, rfl⟩ := List.mem_map.mp he
        exact nn_int
      · rw [List.mem_singleton.mp he]
        exact b1
    · obtain ⟨i, _, rfl⟩ := List.mem_map.mp he
      exact nn_int
  · show List.all _ wholeP = false
    rw [List.all_eq_false]
    exact ⟨badE s, List.mem_append_left _ (List.mem_append_right _ (List.mem_singleton.mpr rfl)), by rw [b2]; decide⟩
def SpL (K : PySem.W.Frag) (Pt : Addr) : Sp := fun vs H Q _ => ∃ ns : List Int, DtAll K [Pt] H vs [.scr ns] ∧ ns.length ≤ 63 ∧ H Pt = some (.tbl #[]) ∧ ∀ H', Q (.bl true) H'
def RfracsRight : List Pd → Pd → Prop := fun ds d => ∃ far : Int, ds = [dueD, .int far] ∧ 0 ≤ far ∧ d = .bl true
section
variable {P : Program} {w : World} {K : PySem.W.Frag} {mg : Str → Option Value} {base : Heap} {f : Addr} {fd : FuncData} {CR CP CS CB CF CQ CT CE : Addr}
theorem asks_of {x : Str} {k : Nat} {ps : List Str} {R : List Pd → Addr → Prop} (h : HX P w K mg base x k ps (SpX K R)) (hk : k ≤ 7) : ∃ g : Addr, mg x = some (.ref g) ∧ ∀ d1 d2 C, R [d1, d2] C → Asks P w K mg base (.raw (.ref g)) d1 d2 C := by
  obtain ⟨g, gd, F, hg, kp, b⟩ := h
  exact ⟨g, hg, fun d1 d2 C hR => .fn (F.mono hk) kp b hR⟩
theorem frac1 : frA 1000 ([], [999]) = 1 ∧ frB 1000 ([], [999]) = 1 ∧ FigR 1000 ([], [999]) := ⟨by decide +kernel, by decide +kernel, ⟨by decide, (fun z => by cases z), fun x hx => by simp at hx, fun x hx => by rw [List.mem_singleton.mp hx]; decide⟩⟩
theorem fig0 : Fig 0 1 2 ([], [0]) := by
  refine ⟨by
    refine ⟨(fun z => by cases z), ?_, .inl rfl⟩
    intro d h1 h2
    have h2 : d < 1 := h2
    omega, fun p => fig_sgn (l := []) (c := [0]) (by decide) (by decide +kernel) (fun i hi => ?_) p⟩
  have hi : i < 1 := hi
  rw [show i = 0 by omega]
  decide +kernel
theorem ok_fracs (F : Fun K "_law_fractions_right" "_law_fractions_right" s_law_fractions_right f fd) (ka : KA K CR CP CS CB CF CQ CT CE) (hA : H0 P w K mg base "_law_all" 9 ["_law_ask", "_law_doors", "_law_things", "_law_due"] (SpR K (RlawAll P w K mg base CR CP CS CB CF CQ CT CE)))
    (hT : H0 P w K mg base "_law_told_by" 8 ["_law_ask", "_law_one", "_law_other"] (SpR K (RtoldBy P w K mg base CR CP CS CB CF CQ CT CE))) (hwb : HX P w K mg base "_law_with_base" 5 ["_law_door", "_law_base"] (SpX K (RxDoor badB CB)))
    (hfx : HX P w K mg base "fraction" 4 ["row", "base"] (SpX K (RxFrac CR CB CF))) (hwf : HX P w K mg base "_law_with_fraction" 4 ["_law_pair", "_law_base"] (SpX K fun ds C => ∃ a e b, ds = [.tup [a, e], b] ∧ badF a e ∧ C = CQ))
    (hF : H0 P w K mg base "fraction" 4 ["row", "base"] (SpR K Rfrac)) (hG : H0 P w K mg base "figured" 3 ["above", "below", "base"] (SpW K Rfigd)) : FnOk P w K mg base CX0 10 f fd ["_law_due", "_law_far"] (SpR K RfracsRight) := by
  refine ok_R F cs_law_fractions_right (fun ds d h => ?_) fun cdv A outer s M H vs ds d Q E hr h k q => ?_
  · obtain ⟨x, rfl, _⟩ := h
    rfl
  · have hr8 := hr.mono (show 8 ≤ 9 by decide)
    have hr4 := hr.mono (show 4 ≤ 9 by decide)
    have hr3 := hr.mono (show 3 ≤ 9 by decide)
    have nd := cs_law_fractions_right.nd
    have n1 : ("NoneType" : String) ≠ "" := by decide
    have n3 : ("str" : String) ≠ "" := by decide
    have n4 : ("list" : String) ≠ "" := by decide
    have n7 : ("bool" : String) ≠ "" := by decide
    obtain ⟨far, rfl, hfar, rfl⟩ := h
    obtain ⟨gb, mgb, ab⟩ := asks_of hwb (by decide)
    obtain ⟨gf, mgf, af⟩ := asks_of hfx (by decide)
    obtain ⟨gq, mgq, aq⟩ := asks_of hwf (by decide)
    refine blk_set (d := .lst [.non, .str "10", .int 1, .int 0, .int (-1), .int (-1 - far), .int 1001, .int (1001 + far), .bl true, dL [10]]) nd 2 (EF.ee (ef_lst (ea_cons ee_non (ea_cons ee_str (ea_cons ee_int (ea_cons ee_int (ea_cons (ee_neg ee_int) (ea_cons (ee_sub (ee_neg ee_int) (ee_var 1)) (ea_cons ee_int (ea_cons (ee_add ee_int (ee_var 1)) (ea_cons ee_bl (ea_cons (EF.ee (ef_lst (ea_cons ee_int ea_nil))) ea_nil)))))))))) (by show 10 ≤ 100000; decide))) k fun σ1 H1 e1 k1 => ?_
    have hbs : ∀ x ∈ [Pd.int 0, .int 1], ∀ y ∈ [Pd.non, .str "10", .int 1, .int 0, .int (-1), .int (-1 - far), .int 1001, .int (1001 + far), .bl true, dL [10]], RxDoor badB CB [x, y] CB := fun x hx y hy => by
      obtain ⟨j, rfl⟩ : ∃ j : Int, x = .int j := by
        simp only [List.mem_cons, List.not_mem_nil, or_false] at hx
        rcases hx with rfl | rfl
        · exact ⟨0, rfl⟩
        · exact ⟨1, rfl⟩
      refine ⟨j, y, rfl, ?_, rfl⟩
      simp only [List.mem_cons, List.not_mem_nil, or_false] at hy
      rcases hy with rfl | rfl | rfl | rfl | rfl | rfl | rfl | rfl | rfl | rfl
      · exact ⟨n1, .inl rfl⟩
      · exact ⟨n3, .inl rfl⟩
      · exact ⟨nn_int, .inr ⟨_, rfl, by omega⟩⟩
      · exact ⟨nn_int, .inr ⟨_, rfl, by omega⟩⟩
      · exact ⟨nn_int, .inr ⟨_, rfl, by omega⟩⟩
      · exact ⟨nn_int, .inr ⟨_, rfl, by omega⟩⟩
      · exact ⟨nn_int, .inr ⟨_, rfl, by omega⟩⟩
      · exact ⟨nn_int, .inr ⟨_, rfl, by omega⟩⟩
      · exact ⟨n7, .inl rfl⟩
      · exact ⟨n4, .inl rfl⟩
    refine blk_no ((et_not (et_val (ee_call hA hr pass0 (ea_cons (ee_globF mgb) (ea_cons (EF.ee (ef_lst (ea_cons ee_int (ea_cons ee_int ea_nil)))) (ea_cons (ee_var 2) (ea_cons (ee_ixL (ee_var 0) ee_int rfl) ea_nil)))) ⟨_, [.int 0, .int 1], _, dueF 3, rfl, by show 10 ≤ 50000; decide, fun x hx y hy => ⟨CB, ab x y CB (hbs x hx y hy), ka.cb⟩, rfl⟩))).is rfl) k1 fun H2 e2 k2 => ?_
    generalize hrs : ([([2], [1]), ([0], [2]), ([], [-1]), ([-1 - far], [1]), ([1], [0, 2 + far])] : List Row) = rs
    have hrb : ∀ r ∈ rs, Gd r ∧ r.1.length + r.2.length ≤ 50000 ∧ ∃ x ∈ r.1 ++ r.2, x < 0 ∨ 2 ≤ x := by
      intro r hr
      rw [← hrs] at hr
      simp only [List.mem_cons, List.not_mem_nil, or_false] at hr
      rcases hr with rfl | rfl | rfl | rfl | rfl
      · exact ⟨⟨by decide, by decide, by decide⟩, by decide, 2, by simp, by omega⟩
      · exact ⟨⟨by decide, by decide, by decide⟩, by decide, 2, by simp, by omega⟩
      · exact ⟨⟨by decide, by decide, by decide⟩, by decide, -1, by simp, by omega⟩
      · exact ⟨⟨fun z => (by cases z), by show 1 ≤ 50000; decide, by show 1 ≤ 50000; decide⟩, by show 1 + 1 ≤ 50000; decide, -1 - far, by simp, by omega⟩
      · exact ⟨⟨fun z => (by cases z), by show 1 ≤ 50000; decide, by show 2 ≤ 50000; decide⟩, by show 1 + 2 ≤ 50000; decide, 2 + far, by simp, by omega⟩
    refine blk_for (n := (rs.map dR).length) (Yd := fun i => dR (rs.getD i ([], []))) nd 3 PassesOwn.never rfl (iw_list ((EF.ee (ef_lst (ea_cons (ee_tup (ea_cons (EF.ee (ef_lst (ea_cons ee_int ea_nil))) (ea_cons (EF.ee (ef_lst (ea_cons ee_int ea_nil))) ea_nil))) (ea_cons (ee_tup (ea_cons (EF.ee (ef_lst (ea_cons ee_int ea_nil))) (ea_cons (EF.ee (ef_lst (ea_cons ee_int ea_nil))) ea_nil)))
        (ea_cons (ee_tup (ea_cons (EF.ee (ef_lst ea_nil)) (ea_cons (EF.ee (ef_lst (ea_cons (ee_neg ee_int) ea_nil))) ea_nil))) (ea_cons (ee_tup (ea_cons (EF.ee (ef_lst (ea_cons (ee_sub (ee_neg ee_int) (ee_var 1)) ea_nil))) (ea_cons (EF.ee (ef_lst (ea_cons ee_int ea_nil))) ea_nil)))
        (ea_cons (ee_tup (ea_cons (EF.ee (ef_lst (ea_cons ee_int ea_nil))) (ea_cons (EF.ee (ef_lst (ea_cons ee_int (ea_cons (ee_add ee_int (ee_var 1)) ea_nil)))) ea_nil))) ea_nil)))))  (by show 5 ≤ 100000; decide))).is (z := .lst (rs.map dR)) (by rw [← hrs]; rfl)) fun i hi => by
        rw [List.length_map] at hi
        rw [List.getElem?_map, getD_some (z := (([], []) : Row)) i hi]
        rfl) k2 (fun B i σ' H' => EO K M B H' σ' [some dueD, some (.int far), some (.lst [.non, .str "10", .int 1, .int 0, .int (-1), .int (-1 - far), .int 1001, .int (1001 + far), .bl true, dL [10]]), none, none, none])
      (fun B i σ' H' p => ⟨exM p.ex, p.kn.al⟩) (fun H8 e8 k8 => k8.here) (fun B i v σ' H' H8 hi eB p e8 g8 => ?_) (fun B σ' H' eB p => ?_)
    · rw [List.length_map] at hi
      obtain ⟨r1, r2, r3⟩ := hrb (rs.getD i ([], [])) (List.mem_of_getElem? (getD_some i hi))
      generalize rs.getD i ([], []) = r at r1 r2 r3 g8
      have k8 := (p.mono e8).set 3 g8
      refine blk_no ((et_ne (x := dueF 4) (y := dueF 4) (eqList eqB) hr (ee_call hT hr8 pass0 (ea_cons (ee_globF mgf) (ea_cons (ee_var 3) (ea_cons ee_int ea_nil))) ⟨_, dR r, .int 2, CF, dueF 4, rfl, af _ _ _ ⟨dR r, .int 2, rfl, .inr ⟨r, rfl, r1, r2, .inr ⟨2, rfl, by decide, by decide, r3, rfl⟩⟩⟩, ka.cf, rfl⟩) (ee_ixL (ee_var 0) ee_int rfl)).is (by simp)) k8 fun H9 e9 k9 => blk_nil (k9.lose 3)
    · have k3 := p.base (k2.ex.trans eB)
      refine blk_set (d := .lst [.tup [.non, .int 5], .tup [.int 1, .non], .tup [.int 1, .int 0], .tup [.int 5, .int 5], .tup [.int (5 + far), .int 5], .tup [.int (-1), .int 5], .tup [.int (-1 - far), .int 5], .tup [.bl true, .int 5], .tup [.int 0, .bl true], .tup [.str "1", .int 5]]) nd 4
        (EF.ee (ef_lst (ea_cons (ee_tup (ea_cons ee_non (ea_cons ee_int ea_nil))) (ea_cons (ee_tup (ea_cons ee_int (ea_cons ee_non ea_nil))) (ea_cons (ee_tup (ea_cons ee_int (ea_cons ee_int ea_nil))) (ea_cons (ee_tup (ea_cons ee_int (ea_cons ee_int ea_nil))) (ea_cons (ee_tup (ea_cons (ee_add ee_int (ee_var 1)) (ea_cons ee_int ea_nil)))
          (ea_cons (ee_tup (ea_cons (ee_neg ee_int) (ea_cons ee_int ea_nil))) (ea_cons (ee_tup (ea_cons (ee_sub (ee_neg ee_int) (ee_var 1)) (ea_cons ee_int ea_nil))) (ea_cons (ee_tup (ea_cons ee_bl (ea_cons ee_int ea_nil))) (ea_cons (ee_tup (ea_cons ee_int (ea_cons ee_bl ea_nil))) (ea_cons (ee_tup (ea_cons ee_str (ea_cons ee_int ea_nil))) ea_nil)))))))))) (by show 10 ≤ 100000; decide))) k3 fun σ4 H4 e4 k4 => ?_
      generalize hps : ([.tup [.non, .int 5], .tup [.int 1, .non], .tup [.int 1, .int 0], .tup [.int 5, .int 5], .tup [.int (5 + far), .int 5], .tup [.int (-1), .int 5], .tup [.int (-1 - far), .int 5], .tup [.bl true, .int 5], .tup [.int 0, .bl true], .tup [.str "1", .int 5]] : List Pd) = ps at k4
      have hpz : ps.length = 10 := by rw [← hps]; rfl
      obtain ⟨qs, hqs⟩ : ∃ qs : List Pd, qs = ps ++ [.tup [.int 1, .int 1001], .tup [.int 1, .int (1001 + far)], .tup [.int 0, .int (-1 - far)], .tup [.int 0, .int 0]] := ⟨_, rfl⟩
      have hpb : ∀ d ∈ qs, ∃ a e, d = .tup [a, e] ∧ badF a e := by
        intro d hd
        rw [hqs, ← hps] at hd
        simp only [List.cons_append, List.nil_append, List.mem_cons, List.not_mem_nil, or_false] at hd
        rcases hd with rfl | rfl | rfl | rfl | rfl | rfl | rfl | rfl | rfl | rfl | rfl | rfl | rfl | rfl
        · exact ⟨_, _, rfl, n1, nn_int, .inl rfl⟩
        · exact ⟨_, _, rfl, nn_int, n1, .inr (.inl ⟨rfl, rfl⟩)⟩
        · exact ⟨_, _, rfl, nn_int, nn_int, .inr (.inr ⟨_, _, rfl, rfl, by omega⟩)⟩
        · exact ⟨_, _, rfl, nn_int, nn_int, .inr (.inr ⟨_, _, rfl, rfl, by omega⟩)⟩
        · exact ⟨_, _, rfl, nn_int, nn_int, .inr (.inr ⟨_, _, rfl, rfl, by omega⟩)⟩
        · exact ⟨_, _, rfl, nn_int, nn_int, .inr (.inr ⟨_, _, rfl, rfl, by omega⟩)⟩
        · exact ⟨_, _, rfl, nn_int, nn_int, .inr (.inr ⟨_, _, rfl, rfl, by omega⟩)⟩
        · exact ⟨_, _, rfl, n7, nn_int, .inl rfl⟩
        · exact ⟨_, _, rfl, nn_int, n7, .inr (.inl ⟨rfl, rfl⟩)⟩
        · exact ⟨_, _, rfl, n3, nn_int, .inl rfl⟩
        · exact ⟨_, _, rfl, nn_int, nn_int, .inr (.inr ⟨_, _, rfl, rfl, by omega⟩)⟩
        · exact ⟨_, _, rfl, nn_int, nn_int, .inr (.inr ⟨_, _, rfl, rfl, by omega⟩)⟩
        · exact ⟨_, _, rfl, nn_int, nn_int, .inr (.inr ⟨_, _, rfl, rfl, by omega⟩)⟩
        · exact ⟨_, _, rfl, nn_int, nn_int, .inr (.inr ⟨_, _, rfl, rfl, by omega⟩)⟩
      refine blk_for (n := qs.length) (Yd := fun i => qs.getD i .non) nd 5 PassesOwn.never rfl
        (iw_list ((EF.ee (ef_cat (ee_var 4) (EF.ee (ef_lst (ea_cons (ee_tup (ea_cons ee_int (ea_cons ee_int ea_nil))) (ea_cons (ee_tup (ea_cons ee_int (ea_cons (ee_add ee_int (ee_var 1)) ea_nil))) (ea_cons (ee_tup (ea_cons ee_int (ea_cons (ee_sub (ee_neg ee_int) (ee_var 1)) ea_nil))) (ea_cons (ee_tup (ea_cons ee_int (ea_cons ee_int ea_nil))) ea_nil)))))) (by rw [hpz]; show 10 + 4 ≤ 100000; decide))).is (z := .lst qs) (by rw [hqs])) fun i hi => getD_some i hi) k4
        (fun B i σ' H' => EO K M B H' σ' [some dueD, some (.int far), some (.lst [.non, .str "10", .int 1, .int 0, .int (-1), .int (-1 - far), .int 1001, .int (1001 + far), .bl true, dL [10]]), none, some (.lst ps), none])
        (fun B i σ' H' p => ⟨exM p.ex, p.kn.al⟩) (fun H8 e8 k8 => k8.here) (fun B i v σ' H' H8 hi eB p e8 g8 => ?_) (fun B σ' H' eB p => ?_)
      · obtain ⟨a, e, ed, hbf⟩ := hpb _ (getD_mem hi)
        rw [ed] at g8
        have k8 := (p.mono e8).set 5 g8
        refine blk_no ((et_ne (x := dueF 5) (y := dueF 5) (eqList eqB) hr (ee_call hT hr8 pass0 (ea_cons (ee_globF mgq) (ea_cons (ee_var 5) (ea_cons ee_non ea_nil))) ⟨_, .tup [a, e], .non, CQ, dueF 5, rfl, aq _ _ _ ⟨a, e, .non, rfl, hbf, rfl⟩, ka.cq, rfl⟩) (ee_ixL (ee_var 0) ee_int rfl)).is (by simp)) k8 fun H9 e9 k9 => blk_nil (k9.lose 5)
      · have k5 := p.base (k4.ex.trans eB)
        obtain ⟨f1, f2, f3⟩ := frac1
        refine blk_ret ((ee_and (ee_eq (x := (([], [0]) : Row)) (y := ([], [0])) eqR hr (EWR.ee (ew_call hG hr3 pass0 (ea_cons ee_int (ea_cons ee_int (ea_cons ee_int ea_nil))) ⟨0, 1, 2, rfl, by decide, by decide, by decide, by decide, by decide, fig0⟩)) (ee_tup (ea_cons ee_nilL (ea_cons (EF.ee (ef_lst (ea_cons ee_int ea_nil))) ea_nil)))) fun _ =>
          ee_one (ee_eq (x := (frA 1000 ([], [999]), frB 1000 ([], [999]))) (y := (1, 1)) (eqPair eqI eqI) hr (ee_call hF hr4 pass0 (ea_cons ((ee_tup (ea_cons ee_nilL (ea_cons (EF.ee (ef_lst (ea_cons ee_int ea_nil))) ea_nil))).is (z := dR ([], [999])) rfl) (ea_cons ee_int ea_nil)) ⟨([], [999]), 1000, rfl, f3, by decide, by decide, rfl⟩) (ee_tup (ea_cons ee_int (ea_cons ee_int ea_nil))))).is (by
            rw [f1, f2]
            simp)) k5 q
end
end Lr

namespace Lr
open PySem PySem.Spec PyProof.Rows L2
open Evl (Ex)
theorem mem_range_int {n : Nat} {x : Pd} (h : x ∈ (List.range n).map fun (i : Nat) => Pd.int (i : Int)) : ∃ j : Int, x = .int j := by
  obtain ⟨i, _, rfl⟩ := List.mem_map.mp h
  exact ⟨_, rfl⟩
theorem woven_bad {CR : Addr} {r : Row} (hg : Gd r) : ∀ d ∈ [.non, .lst [], .tup [dR r], .lst [dR r, .non], .lst [.non, dR r], .int 5], RxWoven CR [d] CR := by
  have n1 : ("NoneType" : String) ≠ "" := by decide
  have n5 : ("tuple" : String) ≠ "" := by decide
  have bn : BadRow .non := .no n1 rfl
  intro d hd
  simp only [List.mem_cons, List.not_mem_nil, or_false] at hd
  rcases hd with rfl | rfl | rfl | rfl | rfl | rfl
  · exact ⟨_, rfl, rfl, .inl ⟨n1, rfl⟩⟩
  · exact ⟨_, rfl, rfl, .inr (.inl rfl)⟩
  · exact ⟨_, rfl, rfl, .inl ⟨n5, rfl⟩⟩
  · exact ⟨_, rfl, rfl, .inr (.inr ⟨_, 1, rfl, by show 1 < 2; decide, by show 2 ≤ 50000; decide, bn, fun i hi => ⟨r, hg, by rw [show i = 0 by omega]; rfl⟩⟩)⟩
  · exact ⟨_, rfl, rfl, .inr (.inr ⟨_, 0, rfl, by show 0 < 2; decide, by show 2 ≤ 50000; decide, bn, fun i hi => absurd hi (Nat.not_lt_zero i)⟩)⟩
  · exact ⟨_, rfl, rfl, .inl ⟨nn_int, rfl⟩⟩
section
variable {P : Program} {w : World} {K : PySem.W.Frag} {mg : Str → Option Value} {base : Heap} {CR CP CS CB CF CQ CT CE Pt c f : Addr} {od an : Option Addr} {osl : Array (Option Value)} {oc kV doc pm ct : Value}
theorem ok_law (lk : K.lookup f = some ⟨oc, od, .func (PySem.W.fnOf "law" "law" (defArgs s_law) (defBody s_law) (defScope s_law) .none kV doc pm an (.ref c) ct), osl⟩) (hcd : PySem.W.codeIn K (.ref c) "law" = true) (T : Bi mg) (TB : LamX.TabB base mg c Pt) (ka : KA K CR CP CS CB CF CQ CT CE)
    (hC : H0 P w K mg base "_law_cell_at" 1 ["_law_script", "_law_k"] (SpR K Rcell)) (hRow : H0 P w K mg base "_law_row" 2 ["_law_script", "_law_by"] (SpR K Rrow)) (hA : H0 P w K mg base "_law_all" 9 ["_law_ask", "_law_doors", "_law_things", "_law_due"] (SpR K (RlawAll P w K mg base CR CP CS CB CF CQ CT CE)))
    (hT : H0 P w K mg base "_law_told_by" 8 ["_law_ask", "_law_one", "_law_other"] (SpR K (RtoldBy P w K mg base CR CP CS CB CF CQ CT CE))) (hFr : H0 P w K mg base "_law_fractions_right" 10 ["_law_due", "_law_far"] (SpR K RfracsRight))
    (hwr : HX P w K mg base "_law_with_row" 7 ["_law_door", "_law_row_here"] (SpX K (RxDoor BadRow CR))) (hwv : HX P w K mg base "woven" 4 ["rows"] (SpX K (RxWoven CR))) (hwp : HX P w K mg base "_law_with_place" 5 ["_law_door", "_law_place"] (SpX K (RxDoor (fun d => badPl d 0) CP)))
    (hws : HX P w K mg base "_law_with_step" 5 ["_law_start", "_law_step"] (SpX K fun ds C => ∃ d, ds = [.int 0, d] ∧ badPl d 1 ∧ C = CP)) (hwg : HX P w K mg base "_law_with_signs" 5 ["_law_door", "_law_signs"] (SpX K (RxDoor (fun d => OkS d ∧ sgB d = false) CS)))
    (hwn : HX P w K mg base "_law_with_sign" 5 ["_law_sign_here", "_law_many"] (SpX K fun ds C => ∃ d e, ds = [d, e] ∧ tyN d ≠ "" ∧ wholeP d = false ∧ C = CS)) (hwt : HX P w K mg base "written" 5 ["row"] (SpX K (RxWritten CR))) :
    FnOk P w K mg base CX0 11 f (PySem.W.fnOf "law" "law" (defArgs s_law) (defBody s_law) (defScope s_law) .none kV doc pm an (.ref c) ct) ["_law_script"] (SpL K Pt) := by
  refine fn_of lk hcd cs_law (fun vs H Q E h => ?_) fun A outer s H vs Q E hr h => ?_
  · obtain ⟨ns, h, _⟩ := h
    rw [h.length]
    rfl
  · obtain ⟨ns, hvs, hn, hP, q⟩ := h
    suffices hB : Blk (cxOf CX0 P w K mg base ns_law "law" (defScope s_law) f (.ref c) A outer s H E).nox (defBody s_law) { nx := fun _ H' => Q .non H', rt := Q } (L2.start ns_law vs) H by
      obtain ⟨t, p, h⟩ := hB
      exact ⟨t, p.nox, h⟩
    have nd := cs_law.nd
    have hr1 := hr.mono (show 1 ≤ 10 by decide)
    have hr2 := hr.mono (show 2 ≤ 10 by decide)
    have hr8 := hr.mono (show 8 ≤ 10 by decide)
    have hr9 := hr.mono (show 9 ≤ 10 by decide)
    have n1 : ("NoneType" : String) ≠ "" := by decide
    have n3 : ("str" : String) ≠ "" := by decide
    have n4 : ("list" : String) ≠ "" := by decide
    have n5 : ("tuple" : String) ≠ "" := by decide
    have n7 : ("bool" : String) ≠ "" := by decide
    obtain ⟨gr, mgr, ar⟩ := asks_of hwr (by decide)
    obtain ⟨gp, mgp, ap⟩ := asks_of hwp (by decide)
    obtain ⟨gs, mgs, as_⟩ := asks_of hws (by decide)
    obtain ⟨gg, mgg, ag⟩ := asks_of hwg (by decide)
    obtain ⟨gn, mgn, an_⟩ := asks_of hwn (by decide)
    obtain ⟨Hb, hHb⟩ : ∃ Hb : Hp, Hb = fun a => if a = Pt then none else H a := ⟨_, rfl⟩
    have hbP : Hb Pt = none := by rw [hHb]; exact if_pos rfl
    have al0 : Al [Pt] H := fun a ha => by
      rw [List.mem_singleton.mp ha]
      exact ⟨_, hP⟩
    have k0 : EO K [Pt] Hb H (L2.start ns_law vs) (startD ns_law [.scr ns]) := ⟨fun a o ho => by
      rw [hHb] at ho
      by_cases h : a = Pt
      · have ho : (if a = Pt then none else H a) = some o := ho
        rw [if_pos h] at ho
        cases ho
      · have ho : (if a = Pt then none else H a) = some o := ho
        rw [if_neg h] at ho
        exact ho, start_kn al0 hvs⟩
    refine blk_set (d := .int (ns.getD 0 0 % 10 ^ 6)) nd 1 ((ee_mod (ee_call hC hr1 pass0 (ea_cons (ee_var 0) (ea_cons ee_int ea_nil)) ⟨ns, 0, rfl, rfl⟩) (ee_pow ee_int ee_int (by unfold CPow; decide)) (by decide)).is rfl) k0 fun σ1 H1 e1 k1 => ?_
    have far0 : 0 ≤ ns.getD 0 0 % 10 ^ 6 := Int.emod_nonneg _ (by decide)
    generalize ns.getD 0 0 % 10 ^ 6 = far at far0 k1
    refine blk_setF nd 2 (ef_lst ea_nil) k1 fun l xs H2 n2 e2 g2 g2' k2 => ?_
    have zl := dtI_inv (ns := []) g2'
    rw [zl] at g2
    have P2 : H2 Pt = some (.tbl #[]) := (e1.trans e2) _ _ hP
    have lP : l ≠ Pt := fun z => by
      rw [z, e1 _ _ hP] at n2
      cases n2
    have lM : l ∉ [Pt] := fun z => lP (List.mem_singleton.mp z)
    have lb : Hb l = none := Evl.fresh_back k1.ex n2
    have k2 : EO K (l :: [Pt]) Hb H2 _ _ := (k1.more n2 e2 g2).set 2 (.raw (.ref l))
    refine blk_for (n := ((6 : Nat) : Int).toNat) (Yd := fun i => .int i) nd 3 PassesOwn.never rfl (iw_range1 (n := ((6 : Nat) : Int)) ee_int (by decide) (by decide) T.range) k2
      (fun B i σ' H' => ExM (l :: [Pt]) B H' ∧ EO K (l :: [Pt]) Hb H' σ' [some (.scr ns), some (.int far), some (.raw (.ref l)), none, none, none, none, none, none, none, none, none, none] ∧ H' Pt = some (.tbl #[]) ∧ ∃ zs, H' l = some (.lst zs) ∧ DtAll K (l :: [Pt]) H' zs ((List.range i).map fun (k : Nat) => dB (dueF k)))
      (fun B i σ' H' p => ⟨p.1, p.2.1.kn.al⟩) (fun H4 e4 k4 => ⟨exM (Evl.Ex.refl _), k4, e4 _ _ P2, [], e4 _ _ g2, .nil⟩) (fun B i v σ' H' H5 hi eB p e5 g5 => ?_) (fun B σ' H' eB p => ?_)
    · obtain ⟨p0, p1, pP, zs, p2, p3⟩ := p
      have k5 := (p1.mono e5).set 3 g5
      have zl := p3.length
      rw [List.length_map, List.length_range] at zl
      have hi : i < 6 := hi
      refine blk_append (d := dB (dueF i)) (ee_var 2) (EF.ee (ef_lst (ea_cons (ee_eq eqI hr (ee_var 3) ee_int) (ea_cons (ee_eq eqI hr (ee_var 3) ee_int) (ea_cons (ee_eq eqI hr (ee_var 3) ee_int) (ea_cons (ee_eq eqI hr (ee_var 3) ee_int) (ea_cons (ee_eq eqI hr (ee_var 3) ee_int) (ea_cons (ee_eq eqI hr (ee_var 3) ee_int) (ea_cons ee_bl (ea_cons ee_bl ea_nil)))))))) (by show 8 ≤ 100000; decide))) (e5 _ _ p2) (by omega) (List.mem_cons_self ..) lb k5 fun u H6 e6 g6 k6 => blk_nil ⟨(p0.trans (exM (e5.trans e6))).trans (ExM.upd (List.mem_cons_self ..)), k6.lose 3, ?_, zs ++ [u], upd_same, ?_⟩
      · rw [upd_ne lP.symm]
        exact (e5.trans e6) _ _ pP
      · rw [List.range_succ, List.map_append]
        exact ((p3.mono (e5.trans e6)).monoM (ExM.upd (List.mem_cons_self ..))).app (.cons (g6.monoM (ExM.upd (List.mem_cons_self ..))) .nil)
    · obtain ⟨p0, p1, P3, zs, p2, p3⟩ := p
      have k3 : EO K [Pt] Hb H' σ' [some (.scr ns), some (.int far), some dueD, none, none, none, none, none, none, none, none, none, none] := ⟨p1.ex, (p1.kn.less (M' := [Pt]) fun y hy => List.mem_cons_of_mem _ hy).turn (i := 2) (e := dueD) rfl fun v hv => by
        cases dt_raw hv
        exact .lst lM p2 (DtAll.less (fun y hy => List.mem_cons_of_mem _ hy) _ _ p3)⟩
      clear p0 p1 p2 p3 k2 k1 k0
      refine blk_set nd 4 (ee_call hRow hr2 pass0 (ea_cons (ee_var 0) (ea_cons ee_int ea_nil)) ⟨ns, 1, rfl, hn, by decide, by decide, rfl⟩) k3 fun σ4 H4 e4 k4 => ?_
      have ro := row_ok (b := 1) hn
      generalize rowF ns 1 = r at k4 ro
      obtain ⟨rne, rl, rc, _, _⟩ := ro
      have hgd : Gd r := ⟨rne, by omega, by omega⟩
      refine blk_par (d1 := dR r) (d2 := .int (r.2.length : Nat)) nd 5 6 rfl (ee_tup (ea_cons (EF.ee (ef_list (ee_r0 (ee_var 4)) T.list)) (ea_cons (EF.ee (ef_list (ee_r1 (ee_var 4)) T.list)) ea_nil))) (ee_lenI (ee_r1 (ee_var 4)) T.len) k4 fun σ5 H5 e5 k5 => ?_
      refine blk_set (d := .lst bads1) nd 7 (EF.ee (ef_lst (ea_cons ee_non (ea_cons ee_int (ea_cons ee_str (ea_cons (EF.ee (ef_lst (ea_cons (EF.ee (ef_lst (ea_cons ee_int ea_nil))) (ea_cons (EF.ee (ef_lst (ea_cons ee_int ea_nil))) ea_nil)))) (ea_cons (ee_tup (ea_cons (EF.ee (ef_lst (ea_cons ee_int ea_nil))) ea_nil))
        (ea_cons (ee_tup (ea_cons (EF.ee (ef_lst (ea_cons ee_int ea_nil))) (ea_cons (EF.ee (ef_lst (ea_cons ee_int ea_nil))) (ea_cons (EF.ee (ef_lst (ea_cons ee_int ea_nil))) ea_nil)))) (ea_cons (ee_tup (ea_cons (EF.ee (ef_lst (ea_cons ee_int ea_nil))) (ea_cons ee_nilL ea_nil))) (ea_cons (ee_tup (ea_cons ee_nilL (ea_cons ee_nilL ea_nil)))
        (ea_cons (ee_tup (ea_cons (ee_tup (ea_cons ee_int ea_nil)) (ea_cons (EF.ee (ef_lst (ea_cons ee_int ea_nil))) ea_nil))) (ea_cons (ee_tup (ea_cons (EF.ee (ef_lst (ea_cons ee_int ea_nil))) (ea_cons (ee_tup (ea_cons ee_int ea_nil)) ea_nil))) ea_nil))))))))))
        (by show 10 ≤ 100000; decide))) k5 fun σ6 H6 e6 k6 => ?_
      refine blk_setF (ds := bads1 ++ bads2) nd 7 (ef_cat (ee_var 7) (EF.ee (ef_lst (ea_cons (ee_tup (ea_cons ee_non (ea_cons (EF.ee (ef_lst (ea_cons ee_int ea_nil))) ea_nil))) (ea_cons (ee_tup (ea_cons (EF.ee (ef_lst (ea_cons ee_int ea_nil))) (ea_cons ee_non ea_nil))) (ea_cons (ee_tup (ea_cons (EF.ee (ef_lst (ea_cons ee_bl ea_nil))) (ea_cons (EF.ee (ef_lst (ea_cons ee_int ea_nil))) ea_nil)))
        (ea_cons (ee_tup (ea_cons (EF.ee (ef_lst (ea_cons ee_int ea_nil))) (ea_cons (EF.ee (ef_lst (ea_cons ee_bl ea_nil))) ea_nil))) (ea_cons (ee_tup (ea_cons (EF.ee (ef_lst (ea_cons ee_str ea_nil))) (ea_cons (EF.ee (ef_lst (ea_cons ee_int ea_nil))) ea_nil))) (ea_cons (ee_tup (ea_cons (EF.ee (ef_lst (ea_cons ee_int ea_nil))) (ea_cons (EF.ee (ef_lst (ea_cons ee_non ea_nil))) ea_nil)))
        (ea_cons (ee_tup (ea_cons (EF.ee (ef_lst (ea_cons (EF.ee (ef_lst (ea_cons ee_int ea_nil))) ea_nil))) (ea_cons (EF.ee (ef_lst (ea_cons ee_int ea_nil))) ea_nil))) (ea_cons ee_dnew ea_nil)))))))) (by show 8 ≤ 100000; decide))) (by show 10 + 8 ≤ 100000; decide)) k6 fun b ys H7 n7' e7 g7 g7' k7' => ?_
      have P6 : H6 Pt = some (.tbl #[]) := (e4.trans (e5.trans e6)) _ _ P3
      have bP : b ≠ Pt := fun z => by
        rw [z, P6] at n7'
        cases n7'
      have bM : b ∉ [Pt] := fun z => bP (List.mem_singleton.mp z)
      have bb : Hb b = none := Evl.fresh_back k6.ex n7'
      have k7 : EO K (b :: [Pt]) Hb H7 _ _ := (k6.more n7' e7 g7).set 7 (.raw (.ref b))
      have hmz : r.2.length < 201 := by omega
      have rgc := rgc_small ⟨r.2.length, hmz⟩
      refine blk_for (n := (r.2.length + r.2.length / 6) / (1 + r.2.length / 6)) (Yd := fun i => .int (0 + (i : Nat) * (1 + (r.2.length : Int) / 6))) nd 8 PassesOwn.never rfl (iw_range3 ee_int (ee_var 6) (ee_add ee_int (ee_div (ee_var 6) ee_int ⟨by decide, by decide⟩)) rgc T.range) k7
        (fun B i σ' H' => ExM (b :: [Pt]) B H' ∧ EO K (b :: [Pt]) Hb H' σ' [some (.scr ns), some (.int far), some dueD, none, some (dR r), some (dR r), some (.int (r.2.length : Nat)), some (.raw (.ref b)), none, none, none, none, none] ∧ H' Pt = some (.tbl #[]) ∧ ∃ zs ds, H' b = some (.lst zs) ∧ DtAll K (b :: [Pt]) H' zs ds ∧ ds.length = 18 + i ∧ ∀ d ∈ ds, BadRow d)
        (fun B i σ' H' p => ⟨p.1, p.2.1.kn.al⟩) (fun H8 e8 k8 => ⟨exM (Evl.Ex.refl _), k8, (e7.trans e8) _ _ P6, ys, _, e8 _ _ g7, DtAll.mono e8 _ _ (g7'.less fun y hy => hy), by show 18 = 18 + 0; rfl, bads_bad⟩) (fun B i v σ' H' H8 hi eB p e8 g8 => ?_) (fun B σ' H' eB p => ?_)
      · obtain ⟨p0, p1, pP, zs, ds, p2, p3, p4, p5⟩ := p
        have hi200 : i < 400 := by
          refine Nat.lt_of_lt_of_le hi (Nat.le_trans (Nat.div_le_self _ _) (by omega))
        obtain ⟨sp, hsp⟩ : ∃ sp : Nat, (0 : Int) + (i : Nat) * (1 + (r.2.length : Int) / 6) = (sp : Int) := ⟨i * (1 + r.2.length / 6), by simp⟩
        rw [hsp] at g8
        have k8 := (p1.mono e8).set 8 g8
        have zl := p3.length
        have c1 := cut_len r.2 none (some (sp : Int))
        have c2 := cut_len r.2 (some ((sp + 1 : Nat) : Int)) none
        refine blk_append (d := badSpot r sp) (ee_var 7) ((ee_tup (ea_cons (ee_r0 (ee_var 4)) (ea_cons (EF.ee (ef_cat (EF.ee (ef_cat (EF.ee (ef_cutI (ee_r1 (ee_var 4)) ep_none (ep_some (ee_var 8)))) (EF.ee (ef_lst (ea_cons (ee_ixT (ee_tup (ea_cons ee_non (ea_cons ee_str (ea_cons ee_bl (ea_cons (EF.ee (ef_lst (ea_cons ee_int ea_nil))) ea_nil))))) (ee_mod (ee_var 8) ee_int (by decide)) (badE_at sp)) ea_nil) (by show 1 ≤ 100000; decide))) (by rw [List.length_map]; show _ + 1 ≤ _; omega)))
          (EF.ee (ef_cutI (ee_r1 (ee_var 4)) (ep_some ((ee_add (ee_var 8) ee_int).is (z := .int ((sp + 1 : Nat) : Int)) rfl)) ep_none)) (by rw [List.length_append, List.length_map, List.length_map]; show _ + 1 + _ ≤ _; omega))) ea_nil))).is (by
            rw [cut_to, cut_from]
            rfl)) (e8 _ _ p2) (by omega) (List.mem_cons_self ..) bb k8 fun u H9 e9 g9 k9 => blk_nil ⟨(p0.trans (exM (e8.trans e9))).trans (ExM.upd (List.mem_cons_self ..)), k9.lose 8, ?_, zs ++ [u], ds ++ [badSpot r sp], upd_same, ?_, ?_, ?_⟩
        · rw [upd_ne bP.symm]
          exact (e8.trans e9) _ _ pP
        · exact ((p3.mono (e8.trans e9)).monoM (ExM.upd (List.mem_cons_self ..))).app (.cons (g9.monoM (ExM.upd (List.mem_cons_self ..))) .nil)
        · rw [List.length_append, p4]
          rfl
        · intro d hd
          rcases List.mem_append.mp hd with hd | hd
          · exact p5 d hd
          · rw [List.mem_singleton.mp hd]
            exact badSpot_bad rl rc sp
      · obtain ⟨p0, p1, P8, zs, bds, p2, p3, p4, p5⟩ := p
        have k8 : EO K [Pt] Hb H' σ' [some (.scr ns), some (.int far), some dueD, none, some (dR r), some (dR r), some (.int (r.2.length : Nat)), some (.lst bds), none, none, none, none, none] := ⟨p1.ex, (p1.kn.less (M' := [Pt]) fun y hy => List.mem_cons_of_mem _ hy).turn (i := 7) (e := .lst bds) rfl fun v hv => by
          cases dt_raw hv
          exact .lst bM p2 (DtAll.less (fun y hy => List.mem_cons_of_mem _ hy) _ _ p3)⟩
        have bz : bds.length ≤ 50000 := by
          have : (r.2.length + r.2.length / 6) / (1 + r.2.length / 6) ≤ r.2.length + r.2.length / 6 := Nat.div_le_self _ _
          omega
        clear p0 p1 p2 p3 k7 k7' k6 k5 k4 k3
        refine blk_no ((et_not (et_val (ee_call hA hr9 pass0 (ea_cons (ee_globF mgr) (ea_cons (EF.ee (ef_listRange (n := 15) rfl ee_int (by decide) T.list T.range)) (ea_cons (ee_var 7) (ea_cons (ee_ixL (ee_var 2) ee_int rfl) ea_nil)))) ⟨_, _, bds, dueF 0, rfl, bz, fun x hx y hy => ⟨CR, ar x y CR (by
          obtain ⟨j, rfl⟩ := mem_range_int hx
          exact ⟨j, y, rfl, p5 y hy, rfl⟩), ka.cr⟩, rfl⟩))).is rfl) k8 fun H9 e9 k9 => ?_
        have tab9 : LamX.TabS H9 Pt ((cxOf CX0 P w K mg base ns_law "law" (defScope s_law) f (.ref c) A outer s H E).nox.env.qual ++ "<lambda>") := LamX.TabS.nil (e9 _ _ P8)
        have wb := woven_bad (CR := CR) hgd
        generalize hws : ([.non, .lst [], .tup [dR r], .lst [dR r, .non], .lst [.non, dR r], .int 5] : List Pd) = ws at wb
        refine blk_for (n := ws.length) (Yd := fun i => ws.getD i .non) nd 9 PassesOwn.never rfl (iw_tup ((ee_tup (ea_cons ee_non (ea_cons ee_nilL (ea_cons (ee_tup (ea_cons (ee_var 4) ea_nil)) (ea_cons (EF.ee (ef_lst (ea_cons (ee_var 4) (ea_cons ee_non ea_nil)) (by show 2 ≤ 100000; decide))) (ea_cons (EF.ee (ef_lst (ea_cons ee_non (ea_cons (ee_var 4) ea_nil)) (by show 2 ≤ 100000; decide))) (ea_cons ee_int ea_nil)))))) (by show 6 ≤ 100000; decide)).is (z := .tup ws) (by rw [← hws]; rfl)) fun i hi => getD_some i hi) k9
          (fun B i σ' H' => ExM [Pt] B H' ∧ EO K [Pt] Hb H' σ' [some (.scr ns), some (.int far), some dueD, none, some (dR r), some (dR r), some (.int (r.2.length : Nat)), some (.lst bds), none, none, none, none, none] ∧ LamX.TabS H' Pt ((cxOf CX0 P w K mg base ns_law "law" (defScope s_law) f (.ref c) A outer s H E).nox.env.qual ++ "<lambda>"))
          (fun B i σ' H' p => ⟨p.1, p.2.1.kn.al⟩) (fun H10 e10 k10 => ⟨exM (Evl.Ex.refl _), k10, tab9.ext e10⟩) (fun B i v σ' H' H10 hi eB p e10 g10 => ?_) (fun B σ' H' eB p => ?_)
        · obtain ⟨p0, p1, p2⟩ := p
          have hb := wb _ (getD_mem hi)
          generalize ws.getD i .non = d at hb g10
          have k10 := (p1.mono e10).set 9 g10
          refine blk_lamIf (C := CR) (bs := dueF 0) hT hr8 hr TB rfl (by decide) rfl (p2.ext e10) k10 hbP (ee_var 9) ee_int (ee_ixL (ee_var 2) ee_int rfl)
            (.lam (lam_okX (k := 6) (N := ["_law_one", "_law_other"]) (ps := ["_law_one", "_law_other"]) (R := fun ds C => ∃ d e, ds = [d, e] ∧ RxWoven CR [d] C) (by exact ⟨rfl, rfl, rfl, by decide +kernel, rfl, by decide +kernel, by decide +kernel⟩) (fun ds C h => by
              obtain ⟨d, e, rfl, _⟩ := h
              rfl) (fun pm cv ctv us hl => match us, hl with | [_, _], _ => rfl) (fun f' c' A' o' s' H' ds C E' hr' h => by
              obtain ⟨d, e, rfl, h⟩ := h
              exact ex_call hwv (hr'.mono (by decide)) takesX (ea_cons (ee_var 0) ea_nil) h)) ⟨d, .int 0, rfl, hb⟩) ka.cr fun H11 x11 t11 k11 => blk_nil ⟨(p0.trans (exM e10)).trans x11, k11.lose 9, t11⟩
        · obtain ⟨p0, k10, tab⟩ := p
          refine blk_set (d := .lst [.non, .str "1", .bl true, dL [1], .int (-1), .int (-1 - far)]) nd 10 (EF.ee (ef_lst (ea_cons ee_non (ea_cons ee_str (ea_cons ee_bl (ea_cons (EF.ee (ef_lst (ea_cons ee_int ea_nil))) (ea_cons (ee_neg ee_int) (ea_cons (ee_sub (ee_neg ee_int) (ee_var 1)) ea_nil)))))) (by show 6 ≤ 100000; decide))) k10 fun σ11 H11 e11 k11 => ?_
          have hnum : ∀ y ∈ [Pd.non, .str "1", .bl true, dL [1], .int (-1), .int (-1 - far)], badPl y 0 := fun y hy => by
            simp only [List.mem_cons, List.not_mem_nil, or_false] at hy
            rcases hy with rfl | rfl | rfl | rfl | rfl | rfl
            · exact ⟨n1, .inl rfl⟩
            · exact ⟨n3, .inl rfl⟩
            · exact ⟨n7, .inl rfl⟩
            · exact ⟨n4, .inl rfl⟩
            · exact ⟨nn_int, .inr ⟨_, rfl, by omega⟩⟩
            · exact ⟨nn_int, .inr ⟨_, rfl, by omega⟩⟩
          generalize hnu : ([.non, .str "1", .bl true, dL [1], .int (-1), .int (-1 - far)] : List Pd) = nu at hnum k11
          have nuz : nu.length = 6 := by rw [← hnu]; rfl
          have hnum1 : ∀ y ∈ nu ++ [.int 0], badPl y 1 := fun y hy => by
            rcases List.mem_append.mp hy with hy | hy
            · obtain ⟨h1, h2⟩ := hnum y hy
              refine ⟨h1, ?_⟩
              rcases h2 with h2 | ⟨i, h2, h3⟩
              · exact .inl h2
              · exact .inr ⟨i, h2, by omega⟩
            · rw [List.mem_singleton.mp hy]
              exact ⟨nn_int, .inr ⟨0, rfl, by decide⟩⟩
          refine blk_no ((et_not (et_val (ee_call hA hr9 pass0 (ea_cons (ee_globF mgp) (ea_cons (EF.ee (ef_listRange (n := 5) rfl ee_int (by decide) T.list T.range)) (ea_cons (ee_var 10) (ea_cons (ee_ixL (ee_var 2) ee_int rfl) ea_nil)))) ⟨_, _, nu, dueF 1, rfl, by omega, fun x hx y hy => ⟨CP, ap x y CP (by
            obtain ⟨j, rfl⟩ := mem_range_int hx
            exact ⟨j, y, rfl, hnum y hy, rfl⟩), ka.cp⟩, rfl⟩))).is rfl) k11 fun H12 e12 k12 => ?_
          refine blk_no ((et_not (et_val (ee_call hA hr9 pass0 (ea_cons (ee_globF mgs) (ea_cons (EF.ee (ef_lst (ea_cons ee_int ea_nil))) (ea_cons (EF.ee (ef_cat (ee_var 10) (EF.ee (ef_lst (ea_cons ee_int ea_nil))) (by rw [nuz]; show 6 + 1 ≤ 100000; decide))) (ea_cons (ee_ixL (ee_var 2) ee_int rfl) ea_nil)))) ⟨_, [.int 0], nu ++ [.int 0], dueF 1, rfl, by rw [List.length_append, nuz]; show 6 + 1 ≤ 50000; decide, fun x hx y hy => ⟨CP, as_ x y CP (by
            rw [List.mem_singleton.mp hx]
            exact ⟨y, rfl, hnum1 y hy, rfl⟩), ka.cp⟩, rfl⟩))).is rfl) k12 fun H13 e13 k13 => ?_
          have hsg : ∀ y ∈ [Pd.non, .tup [], .tup [.int 1], .str "1", .int 5, .lst [.non], .lst [.bl true], .lst [.str "1"], .lst [.int 1, dL [2]]], OkS y ∧ sgB y = false := fun y hy => by
            simp only [List.mem_cons, List.not_mem_nil, or_false] at hy
            rcases hy with rfl | rfl | rfl | rfl | rfl | rfl | rfl | rfl | rfl
            · exact oks_no n1 rfl
            · exact oks_no n5 rfl
            · exact oks_no n5 rfl
            · exact oks_no n3 rfl
            · exact oks_no nn_int rfl
            · exact oks1 n1 rfl
            · exact oks1 n7 rfl
            · exact oks1 n3 rfl
            · refine ⟨oks_lst (by show 2 ≤ 50000; decide) fun e he => ?_, rfl⟩
              simp only [List.mem_cons, List.not_mem_nil, or_false] at he
              rcases he with rfl | rfl
              · exact nn_int
              · exact n4
          refine blk_no ((et_not (et_val (ee_call hA hr9 pass0 (ea_cons (ee_globF mgg) (ea_cons (EF.ee (ef_lst (ea_cons ee_int (ea_cons ee_int ea_nil)))) (ea_cons (EF.ee (ef_lst (ea_cons ee_non (ea_cons (ee_tup ea_nil) (ea_cons (ee_tup (ea_cons ee_int ea_nil)) (ea_cons ee_str (ea_cons ee_int (ea_cons (EF.ee (ef_lst (ea_cons ee_non ea_nil))) (ea_cons (EF.ee (ef_lst (ea_cons ee_bl ea_nil)))
            (ea_cons (EF.ee (ef_lst (ea_cons ee_str ea_nil))) (ea_cons (EF.ee (ef_lst (ea_cons ee_int (ea_cons (EF.ee (ef_lst (ea_cons ee_int ea_nil))) ea_nil)))) ea_nil))))))))) (by show 9 ≤ 100000; decide))) (ea_cons (ee_ixL (ee_var 2) ee_int rfl) ea_nil)))) ⟨_, [.int 0, .int 1], _, dueF 2, rfl, by show 9 ≤ 50000; decide, fun x hx y hy => ⟨CS, ag x y CS (by
            have hj : ∃ j : Int, x = .int j := by
              simp only [List.mem_cons, List.not_mem_nil, or_false] at hx
              rcases hx with rfl | rfl
              · exact ⟨0, rfl⟩
              · exact ⟨1, rfl⟩
            obtain ⟨j, rfl⟩ := hj
            exact ⟨j, y, rfl, hsg y hy, rfl⟩), ka.cs⟩, rfl⟩))).is rfl) k13 fun H14 e14 k14 => ?_
          have hsn : ∀ y ∈ [Pd.non, .str "1", .bl true, dL [1]], tyN y ≠ "" ∧ wholeP y = false := fun y hy => by
            simp only [List.mem_cons, List.not_mem_nil, or_false] at hy
            rcases hy with rfl | rfl | rfl | rfl
            · exact ⟨n1, rfl⟩
            · exact ⟨n3, rfl⟩
            · exact ⟨n7, rfl⟩
            · exact ⟨n4, rfl⟩
          generalize hsl : ([.non, .str "1", .bl true, dL [1]] : List Pd) = sl at hsn
          have slz : sl.length = 4 := by rw [← hsl]; rfl
          refine blk_no ((et_not (et_val (ee_all (bs := sl.map fun _ => true) rfl (EF.ee ((ef_lc (n := sl.length) (jx := 12) (Yd := fun j => sl.getD j .non) (f := fun j => .bl true) rfl nd
            (iw_list ((EF.ee (ef_lst (ea_cons ee_non (ea_cons ee_str (ea_cons ee_bl (ea_cons (EF.ee (ef_lst (ea_cons ee_int ea_nil))) ea_nil)))) (by show 4 ≤ 100000; decide))).is (z := .lst sl) (by rw [← hsl]; rfl)) fun j hj => getD_some j hj) (blkOk_by (N := ns_law) (sc := defScope s_law) (own := [("_law_sign_here", 12)]) (by decide +kernel)) (fun _ _ _ _ _ => pg_name nd rfl (Or.inl rfl)) (by decide)
            (by omega) (fun j _ => flat_bl)
            (fun s' H' C cl fp j hj => (ee_eq (x := dueF 2) (y := dueF 2) (eqList eqB) hr (by
              obtain ⟨h1, h2⟩ := hsn _ (getD_mem hj)
              exact ee_call hT hr8 pass0 (ea_cons (ee_globF mgn) (ea_cons (ee_var 12) (ea_cons (ee_neg ee_int) ea_nil))) ⟨_, _, .int (-1), CS, dueF 2, rfl, an_ _ _ _ ⟨_, _, rfl, h1, h2, rfl⟩, ka.cs, rfl⟩) (ee_ixL (ee_var 2) ee_int rfl)).is (by simp))).is (by
              rw [range_map sl .non (fun e => Pd.bl true), List.map_map]
              rfl))) T.all))).is (by
                rw [all_map_id, List.all_eq_true.mpr (fun _ _ => rfl)]
                rfl)) k14 fun H15 e15 k15 => ?_
          have tab15 := tab.ext (e11.trans (e12.trans (e13.trans (e14.trans e15))))
          generalize hgs : ([([10 ^ 60], [1]), ([], [1, -10 ^ 60 - far])] : List Row) = grs
          have hgb : ∀ r ∈ grs, RxWritten CR [dR r] CR := fun r hr => by
            rw [← hgs] at hr
            simp only [List.mem_cons, List.not_mem_nil, or_false] at hr
            rcases hr with rfl | rfl
            · exact ⟨_, rfl, rfl, .inr ⟨_, rfl, by decide, by decide, by decide, 10 ^ 60, by simp, .inl (Int.le_refl _)⟩⟩
            · exact ⟨_, rfl, rfl, .inr ⟨_, rfl, (fun z => by cases z), by show 0 ≤ 20000; decide, by show 2 ≤ 20000; decide, -10 ^ 60 - far, by simp, .inr (by omega)⟩⟩
          refine blk_for (n := (grs.map dR).length) (Yd := fun i => dR (grs.getD i ([], []))) nd 11 PassesOwn.never rfl (iw_tup ((ee_tup (ea_cons (ee_tup (ea_cons (EF.ee (ef_lst (ea_cons ((ee_pow ee_int ee_int (by unfold CPow; decide)).is (z := .int (10 ^ 60)) rfl) ea_nil))) (ea_cons (EF.ee (ef_lst (ea_cons ee_int ea_nil))) ea_nil)))
              (ea_cons (ee_tup (ea_cons ee_nilL (ea_cons (EF.ee (ef_lst (ea_cons ee_int (ea_cons ((ee_sub (ee_neg (ee_pow ee_int ee_int (by unfold CPow; decide))) (ee_var 1)).is (z := .int (-10 ^ 60 - far)) rfl) ea_nil)))) ea_nil))) ea_nil))).is (z := .tup (grs.map dR)) (by rw [← hgs]; rfl)) fun i hi => by
              rw [List.length_map] at hi
              rw [List.getElem?_map, getD_some (z := (([], []) : Row)) i hi]
              rfl) k15
            (fun B i σ' H' => ExM [Pt] B H' ∧ EO K [Pt] Hb H' σ' [some (.scr ns), some (.int far), some dueD, none, some (dR r), some (dR r), some (.int (r.2.length : Nat)), some (.lst bds), none, none, some (.lst nu), none, none] ∧ LamX.TabS H' Pt ((cxOf CX0 P w K mg base ns_law "law" (defScope s_law) f (.ref c) A outer s H E).nox.env.qual ++ "<lambda>"))
            (fun B i σ' H' p => ⟨p.1, p.2.1.kn.al⟩) (fun H10 e10 k10 => ⟨exM (Evl.Ex.refl _), k10, tab15.ext e10⟩) (fun B i v σ' H' H10 hi eB p e10 g10 => ?_) (fun B σ' H' eB p => ?_)
          · rw [List.length_map] at hi
            obtain ⟨p0, p1, p2⟩ := p
            have hb := hgb (grs.getD i ([], [])) (List.mem_of_getElem? (getD_some i hi))
            generalize grs.getD i ([], []) = g at hb g10
            have k10 := (p1.mono e10).set 11 g10
            refine blk_lamIf (C := CR) (bs := dueF 0) hT hr8 hr TB rfl (by decide) rfl (p2.ext e10) k10 hbP (ee_var 11) ee_int (ee_ixL (ee_var 2) ee_int rfl)
              (.lam (lam_okX (k := 6) (N := ["_law_one", "_law_other"]) (ps := ["_law_one", "_law_other"]) (R := fun ds C => ∃ d e, ds = [d, e] ∧ RxWritten CR [d] C) (by exact ⟨rfl, rfl, rfl, by decide +kernel, rfl, by decide +kernel, by decide +kernel⟩) (fun ds C h => by
                obtain ⟨d, e, rfl, _⟩ := h
                rfl) (fun pm cv ctv us hl => match us, hl with | [_, _], _ => rfl) (fun f' c' A' o' s' H' ds C E' hr' h => by
                obtain ⟨d, e, rfl, h⟩ := h
                exact ex_call hwt (hr'.mono (by decide)) takesX (ea_cons (ee_var 0) ea_nil) h)) ⟨dR g, .int 0, rfl, hb⟩) ka.cr fun H11 x11 t11 k11 => blk_nil ⟨(p0.trans (exM e10)).trans x11, k11.lose 11, t11⟩
          · obtain ⟨p0, k16, _⟩ := p
            refine blk_ret ((ee_and (ee_call hFr hr pass0 (ea_cons (ee_var 2) (ea_cons (ee_var 1) ea_nil)) ⟨far, rfl, far0, rfl⟩) fun _ => ee_one (ee_eq (x := r) (y := r) eqR hr (ee_var 4) (ee_var 5))).is (z := .bl true) (by simp)) k16 fun v H17 e17 g17 => ?_
            cases dt_bl g17
            exact q H17
end
end Lr

namespace Lr
open PySem L2
theorem sqm_of {K : PySem.W.Frag} {H : Hp} {a : Addr} {xs : List V} (h : SqL K H a xs) : SqM K [] H a xs := by
  rcases h with h | h
  · exact .inl ⟨by simp, h⟩
  · exact .inr h
set_option maxHeartbeats 0 in
theorem all_mk {l : PySem.W.OpenLaw} {w : World} {K : PySem.W.Frag} {h : Heap} {mg : Str → Option Value} {fa : Addr} (X : K.In h) (G : h.Ns mainGlobals mg) (hfa : mg "law" = some (.ref fa)) (own : LamX.OwnTab K fa h)
    {tk_MOST_figures : Nat} {tk_MOST_texts : Nat} {C_BadRow : Addr} {C_BadPlace : Addr} {C_BadSigns : Addr} {C_BadBase : Addr} {C_BadFigures : Addr} {C_BadFraction : Addr} {C_BadText : Addr} {C_RowError : Addr} {od1 an1 : Option Addr} {sl1 : Array (Option Value)} {f1 : Addr} {oc1 kV1 dc1 pm1 cd1 ct1 : Value} {od2 an2 : Option Addr} {sl2 : Array (Option Value)} {f2 : Addr} {oc2 kV2 dc2 pm2 cd2 ct2 : Value} {od3 an3 : Option Addr} {sl3 : Array (Option Value)} {f3 : Addr} {oc3 kV3 dc3 pm3 cd3 ct3 : Value} {od4 an4 : Option Addr} {sl4 : Array (Option Value)} {f4 : Addr} {oc4 kV4 dc4 pm4 cd4 ct4 : Value} {od5 an5 : Option Addr} {sl5 : Array (Option Value)} {f5 : Addr} {oc5 kV5 dc5 pm5 cd5 ct5 : Value} {od6 an6 : Option Addr} {sl6 : Array (Option Value)} {f6 : Addr} {oc6 kV6 dc6 pm6 cd6 ct6 : Value} {od7 an7 : Option Addr} {sl7 : Array (Option Value)} {f7 : Addr} {oc7 kV7 dc7 pm7 cd7 ct7 : Value} {od8 an8 : Option Addr} {sl8 : Array (Option Value)} {f8 : Addr} {oc8 kV8 dc8 pm8 cd8 ct8 : Value} {od9 an9 : Option Addr} {sl9 : Array (Option Value)} {f9 : Addr} {oc9 kV9 dc9 pm9 cd9 ct9 : Value} {od10 an10 : Option Addr} {sl10 : Array (Option Value)} {f10 : Addr} {oc10 kV10 dc10 pm10 cd10 ct10 : Value} {od11 an11 : Option Addr} {sl11 : Array (Option Value)} {f11 : Addr} {oc11 kV11 dc11 pm11 cd11 ct11 : Value} {od12 an12 : Option Addr} {sl12 : Array (Option Value)} {f12 : Addr} {oc12 kV12 dc12 pm12 cd12 ct12 : Value} {od13 an13 : Option Addr} {sl13 : Array (Option Value)} {f13 : Addr} {oc13 kV13 dc13 pm13 cd13 ct13 : Value} {od14 an14 : Option Addr} {sl14 : Array (Option Value)} {f14 : Addr} {oc14 kV14 dc14 pm14 cd14 ct14 : Value} {od15 an15 : Option Addr} {sl15 : Array (Option Value)} {f15 : Addr} {oc15 kV15 dc15 pm15 cd15 ct15 : Value} {od16 an16 : Option Addr} {sl16 : Array (Option Value)} {f16 : Addr} {oc16 kV16 dc16 pm16 cd16 ct16 : Value} {od17 an17 : Option Addr} {sl17 : Array (Option Value)} {f17 : Addr} {oc17 kV17 dc17 pm17 cd17 ct17 : Value} {od18 an18 : Option Addr} {sl18 : Array (Option Value)} {f18 : Addr} {oc18 kV18 dc18 pm18 cd18 ct18 : Value} {od19 an19 : Option Addr} {sl19 : Array (Option Value)} {f19 : Addr} {oc19 kV19 dc19 pm19 cd19 ct19 : Value} {od20 an20 : Option Addr} {sl20 : Array (Option Value)} {f20 : Addr} {oc20 kV20 dc20 pm20 cd20 ct20 : Value} {od21 an21 : Option Addr} {sl21 : Array (Option Value)} {f21 : Addr} {oc21 kV21 dc21 pm21 cd21 ct21 : Value} {od22 an22 : Option Addr} {sl22 : Array (Option Value)} {f22 : Addr} {oc22 kV22 dc22 pm22 cd22 ct22 : Value} {od23 an23 : Option Addr} {sl23 : Array (Option Value)} {f23 : Addr} {oc23 kV23 dc23 pm23 cd23 ct23 : Value} {od24 an24 : Option Addr} {sl24 : Array (Option Value)} {f24 : Addr} {oc24 kV24 dc24 pm24 cd24 ct24 : Value} {od25 an25 : Option Addr} {sl25 : Array (Option Value)} {f25 : Addr} {oc25 kV25 dc25 pm25 cd25 ct25 : Value} {od26 an26 : Option Addr} {sl26 : Array (Option Value)} {f26 : Addr} {oc26 kV26 dc26 pm26 cd26 ct26 : Value} {od27 an27 : Option Addr} {sl27 : Array (Option Value)} {f27 : Addr} {oc27 kV27 dc27 pm27 cd27 ct27 : Value} {od28 an28 : Option Addr} {sl28 : Array (Option Value)} {f28 : Addr} {oc28 kV28 dc28 pm28 cd28 ct28 : Value} {od29 an29 : Option Addr} {sl29 : Array (Option Value)} {f29 : Addr} {oc29 kV29 dc29 pm29 cd29 ct29 : Value} {od30 an30 : Option Addr} {sl30 : Array (Option Value)} {f30 : Addr} {oc30 kV30 dc30 pm30 cd30 ct30 : Value} {od31 an31 : Option Addr} {sl31 : Array (Option Value)} {f31 : Addr} {oc31 kV31 dc31 pm31 cd31 ct31 : Value} {od32 an32 : Option Addr} {sl32 : Array (Option Value)} {f32 : Addr} {oc32 kV32 dc32 pm32 cd32 ct32 : Value} {od33 an33 : Option Addr} {sl33 : Array (Option Value)} {f33 : Addr} {oc33 kV33 dc33 pm33 cd33 ct33 : Value} {od34 an34 : Option Addr} {sl34 : Array (Option Value)} {f34 : Addr} {oc34 kV34 dc34 pm34 cd34 ct34 : Value} {od35 an35 : Option Addr} {sl35 : Array (Option Value)} {f35 : Addr} {oc35 kV35 dc35 pm35 cd35 ct35 : Value} {od36 an36 : Option Addr} {sl36 : Array (Option Value)} {f36 : Addr} {oc36 kV36 dc36 pm36 cd36 ct36 : Value} {od37 an37 : Option Addr} {sl37 : Array (Option Value)} {f37 : Addr} {oc37 kV37 dc37 pm37 cd37 ct37 : Value} {od38 an38 : Option Addr} {sl38 : Array (Option Value)} {f38 : Addr} {oc38 kV38 dc38 pm38 cd38 ct38 : Value} {od39 an39 : Option Addr} {sl39 : Array (Option Value)} {f39 : Addr} {oc39 kV39 dc39 pm39 cd39 ct39 : Value} {cL Pt : Addr} {odL : Option Addr} {vsL : Array Value} {slL : Array (Option Value)}
    (n_MOST_figures : PySem.W.nsIn K mainGlobals "MOST_figures" = some (some (.int 1000 tk_MOST_figures)))
    (n_MOST_texts : PySem.W.nsIn K mainGlobals "MOST_texts" = some (some (.int 1000000000000000000000000000000000000000000000000000000000000 tk_MOST_texts)))
    (g_BadRow : PySem.W.nsIn K mainGlobals "BadRow" = some (some (.ref C_BadRow)))
    (g_BadPlace : PySem.W.nsIn K mainGlobals "BadPlace" = some (some (.ref C_BadPlace)))
    (g_BadSigns : PySem.W.nsIn K mainGlobals "BadSigns" = some (some (.ref C_BadSigns)))
    (g_BadBase : PySem.W.nsIn K mainGlobals "BadBase" = some (some (.ref C_BadBase)))
    (g_BadFigures : PySem.W.nsIn K mainGlobals "BadFigures" = some (some (.ref C_BadFigures)))
    (g_BadFraction : PySem.W.nsIn K mainGlobals "BadFraction" = some (some (.ref C_BadFraction)))
    (g_BadText : PySem.W.nsIn K mainGlobals "BadText" = some (some (.ref C_BadText)))
    (g_RowError : PySem.W.nsIn K mainGlobals "RowError" = some (some (.ref C_RowError)))
    (va_ : PySem.W.nsIn K mainGlobals "ValueError" = some none)
    (hn_ : PySem.W.specialIn K (.builtin "object.__class__") "__get__" = some (some (.builtin "getset_descriptor.__get__")))
    (htk_ : PySem.W.takesIn K (.builtin "object.__class__") = some true)
    (bb_RowError : PySem.W.subIn K (.ref C_RowError) (.type "BaseException") = some true)
    (hd_RowError : PySem.W.hasDictIn K C_RowError = true)
    (ty_RowError : PySem.W.typeIn K (.ref C_RowError) = some (.type "type"))
    (kx_BadRow : PySem.W.excIn K C_BadRow [.type "ValueError", .type "Exception", .type "BaseException", .type "object"] "ValueError.__new__" = true)
    (kk_BadRow : PySem.W.keepIn K (.ref C_BadRow) = true)
    (bb_BadRow : PySem.W.subIn K (.ref C_BadRow) (.type "BaseException") = some true)
    (ty_BadRow : PySem.W.typeIn K (.ref C_BadRow) = some (.type "type"))
    (eg_BadRow : PySem.W.findIn K (.ref C_BadRow) "__getattribute__" = some (some (.builtin "BaseException.__getattribute__")))
    (ek_BadRow : PySem.W.findIn K (.ref C_BadRow) "__getattr__" = some none)
    (hd_BadRow : PySem.W.hasDictIn K C_BadRow = true)
    (ha_BadRow : PySem.W.findIn K (.ref C_BadRow) "__class__" = some (some (.builtin "object.__class__")))
    (hm_BadRow : PySem.W.mroIn K C_BadRow (.type "object") = some true)
    (se_BadRow : PySem.W.subIn K (.ref C_BadRow) (.ref C_RowError) = some true)
    (kit_BadRow_BadRow : PySem.W.kitOne K (.ref C_BadRow) (.ref C_BadRow) = some true)
    (kit_BadRow_BadPlace : PySem.W.kitOne K (.ref C_BadRow) (.ref C_BadPlace) = some false)
    (kit_BadRow_BadSigns : PySem.W.kitOne K (.ref C_BadRow) (.ref C_BadSigns) = some false)
    (kit_BadRow_BadBase : PySem.W.kitOne K (.ref C_BadRow) (.ref C_BadBase) = some false)
    (kit_BadRow_BadFigures : PySem.W.kitOne K (.ref C_BadRow) (.ref C_BadFigures) = some false)
    (kit_BadRow_BadFraction : PySem.W.kitOne K (.ref C_BadRow) (.ref C_BadFraction) = some false)
    (kit_BadRow_BadText : PySem.W.kitOne K (.ref C_BadRow) (.ref C_BadText) = some false)
    (kit_BadRow_ValueError : PySem.W.kitOne K (.ref C_BadRow) (.type "ValueError") = some true)
    (kx_BadPlace : PySem.W.excIn K C_BadPlace [.type "ValueError", .type "Exception", .type "BaseException", .type "object"] "ValueError.__new__" = true)
    (kk_BadPlace : PySem.W.keepIn K (.ref C_BadPlace) = true)
    (bb_BadPlace : PySem.W.subIn K (.ref C_BadPlace) (.type "BaseException") = some true)
    (ty_BadPlace : PySem.W.typeIn K (.ref C_BadPlace) = some (.type "type"))
    (eg_BadPlace : PySem.W.findIn K (.ref C_BadPlace) "__getattribute__" = some (some (.builtin "BaseException.__getattribute__")))
    (ek_BadPlace : PySem.W.findIn K (.ref C_BadPlace) "__getattr__" = some none)
    (hd_BadPlace : PySem.W.hasDictIn K C_BadPlace = true)
    (ha_BadPlace : PySem.W.findIn K (.ref C_BadPlace) "__class__" = some (some (.builtin "object.__class__")))
    (hm_BadPlace : PySem.W.mroIn K C_BadPlace (.type "object") = some true)
    (se_BadPlace : PySem.W.subIn K (.ref C_BadPlace) (.ref C_RowError) = some true)
    (kit_BadPlace_BadRow : PySem.W.kitOne K (.ref C_BadPlace) (.ref C_BadRow) = some false)
    (kit_BadPlace_BadPlace : PySem.W.kitOne K (.ref C_BadPlace) (.ref C_BadPlace) = some true)
    (kit_BadPlace_BadSigns : PySem.W.kitOne K (.ref C_BadPlace) (.ref C_BadSigns) = some false)
    (kit_BadPlace_BadBase : PySem.W.kitOne K (.ref C_BadPlace) (.ref C_BadBase) = some false)
    (kit_BadPlace_BadFigures : PySem.W.kitOne K (.ref C_BadPlace) (.ref C_BadFigures) = some false)
    (kit_BadPlace_BadFraction : PySem.W.kitOne K (.ref C_BadPlace) (.ref C_BadFraction) = some false)
    (kit_BadPlace_BadText : PySem.W.kitOne K (.ref C_BadPlace) (.ref C_BadText) = some false)
    (kit_BadPlace_ValueError : PySem.W.kitOne K (.ref C_BadPlace) (.type "ValueError") = some true)
    (kx_BadSigns : PySem.W.excIn K C_BadSigns [.type "ValueError", .type "Exception", .type "BaseException", .type "object"] "ValueError.__new__" = true)
    (kk_BadSigns : PySem.W.keepIn K (.ref C_BadSigns) = true)
    (bb_BadSigns : PySem.W.subIn K (.ref C_BadSigns) (.type "BaseException") = some true)
    (ty_BadSigns : PySem.W.typeIn K (.ref C_BadSigns) = some (.type "type"))
    (eg_BadSigns : PySem.W.findIn K (.ref C_BadSigns) "__getattribute__" = some (some (.builtin "BaseException.__getattribute__")))
    (ek_BadSigns : PySem.W.findIn K (.ref C_BadSigns) "__getattr__" = some none)
    (hd_BadSigns : PySem.W.hasDictIn K C_BadSigns = true)
    (ha_BadSigns : PySem.W.findIn K (.ref C_BadSigns) "__class__" = some (some (.builtin "object.__class__")))
    (hm_BadSigns : PySem.W.mroIn K C_BadSigns (.type "object") = some true)
    (se_BadSigns : PySem.W.subIn K (.ref C_BadSigns) (.ref C_RowError) = some true)
    (kit_BadSigns_BadRow : PySem.W.kitOne K (.ref C_BadSigns) (.ref C_BadRow) = some false)
    (kit_BadSigns_BadPlace : PySem.W.kitOne K (.ref C_BadSigns) (.ref C_BadPlace) = some false)
    (kit_BadSigns_BadSigns : PySem.W.kitOne K (.ref C_BadSigns) (.ref C_BadSigns) = some true)
    (kit_BadSigns_BadBase : PySem.W.kitOne K (.ref C_BadSigns) (.ref C_BadBase) = some false)
    (kit_BadSigns_BadFigures : PySem.W.kitOne K (.ref C_BadSigns) (.ref C_BadFigures) = some false)
    (kit_BadSigns_BadFraction : PySem.W.kitOne K (.ref C_BadSigns) (.ref C_BadFraction) = some false)
    (kit_BadSigns_BadText : PySem.W.kitOne K (.ref C_BadSigns) (.ref C_BadText) = some false)
    (kit_BadSigns_ValueError : PySem.W.kitOne K (.ref C_BadSigns) (.type "ValueError") = some true)
    (kx_BadBase : PySem.W.excIn K C_BadBase [.type "ValueError", .type "Exception", .type "BaseException", .type "object"] "ValueError.__new__" = true)
    (kk_BadBase : PySem.W.keepIn K (.ref C_BadBase) = true)
    (bb_BadBase : PySem.W.subIn K (.ref C_BadBase) (.type "BaseException") = some true)
    (ty_BadBase : PySem.W.typeIn K (.ref C_BadBase) = some (.type "type"))
    (eg_BadBase : PySem.W.findIn K (.ref C_BadBase) "__getattribute__" = some (some (.builtin "BaseException.__getattribute__")))
    (ek_BadBase : PySem.W.findIn K (.ref C_BadBase) "__getattr__" = some none)
    (hd_BadBase : PySem.W.hasDictIn K C_BadBase = true)
    (ha_BadBase : PySem.W.findIn K (.ref C_BadBase) "__class__" = some (some (.builtin "object.__class__")))
    (hm_BadBase : PySem.W.mroIn K C_BadBase (.type "object") = some true)
    (se_BadBase : PySem.W.subIn K (.ref C_BadBase) (.ref C_RowError) = some true)
    (kit_BadBase_BadRow : PySem.W.kitOne K (.ref C_BadBase) (.ref C_BadRow) = some false)
    (kit_BadBase_BadPlace : PySem.W.kitOne K (.ref C_BadBase) (.ref C_BadPlace) = some false)
    (kit_BadBase_BadSigns : PySem.W.kitOne K (.ref C_BadBase) (.ref C_BadSigns) = some false)
    (kit_BadBase_BadBase : PySem.W.kitOne K (.ref C_BadBase) (.ref C_BadBase) = some true)
    (kit_BadBase_BadFigures : PySem.W.kitOne K (.ref C_BadBase) (.ref C_BadFigures) = some false)
    (kit_BadBase_BadFraction : PySem.W.kitOne K (.ref C_BadBase) (.ref C_BadFraction) = some false)
    (kit_BadBase_BadText : PySem.W.kitOne K (.ref C_BadBase) (.ref C_BadText) = some false)
    (kit_BadBase_ValueError : PySem.W.kitOne K (.ref C_BadBase) (.type "ValueError") = some true)
    (kx_BadFigures : PySem.W.excIn K C_BadFigures [.type "ValueError", .type "Exception", .type "BaseException", .type "object"] "ValueError.__new__" = true)
    (kk_BadFigures : PySem.W.keepIn K (.ref C_BadFigures) = true)
    (bb_BadFigures : PySem.W.subIn K (.ref C_BadFigures) (.type "BaseException") = some true)
    (ty_BadFigures : PySem.W.typeIn K (.ref C_BadFigures) = some (.type "type"))
    (eg_BadFigures : PySem.W.findIn K (.ref C_BadFigures) "__getattribute__" = some (some (.builtin "BaseException.__getattribute__")))
    (ek_BadFigures : PySem.W.findIn K (.ref C_BadFigures) "__getattr__" = some none)
    (hd_BadFigures : PySem.W.hasDictIn K C_BadFigures = true)
    (ha_BadFigures : PySem.W.findIn K (.ref C_BadFigures) "__class__" = some (some (.builtin "object.__class__")))
    (hm_BadFigures : PySem.W.mroIn K C_BadFigures (.type "object") = some true)
    (se_BadFigures : PySem.W.subIn K (.ref C_BadFigures) (.ref C_RowError) = some true)
    (kit_BadFigures_BadRow : PySem.W.kitOne K (.ref C_BadFigures) (.ref C_BadRow) = some false)
    (kit_BadFigures_BadPlace : PySem.W.kitOne K (.ref C_BadFigures) (.ref C_BadPlace) = some false)
    (kit_BadFigures_BadSigns : PySem.W.kitOne K (.ref C_BadFigures) (.ref C_BadSigns) = some false)
    (kit_BadFigures_BadBase : PySem.W.kitOne K (.ref C_BadFigures) (.ref C_BadBase) = some false)
    (kit_BadFigures_BadFigures : PySem.W.kitOne K (.ref C_BadFigures) (.ref C_BadFigures) = some true)
    (kit_BadFigures_BadFraction : PySem.W.kitOne K (.ref C_BadFigures) (.ref C_BadFraction) = some false)
    (kit_BadFigures_BadText : PySem.W.kitOne K (.ref C_BadFigures) (.ref C_BadText) = some false)
    (kit_BadFigures_ValueError : PySem.W.kitOne K (.ref C_BadFigures) (.type "ValueError") = some true)
    (kx_BadFraction : PySem.W.excIn K C_BadFraction [.type "ValueError", .type "Exception", .type "BaseException", .type "object"] "ValueError.__new__" = true)
    (kk_BadFraction : PySem.W.keepIn K (.ref C_BadFraction) = true)
    (bb_BadFraction : PySem.W.subIn K (.ref C_BadFraction) (.type "BaseException") = some true)
    (ty_BadFraction : PySem.W.typeIn K (.ref C_BadFraction) = some (.type "type"))
    (eg_BadFraction : PySem.W.findIn K (.ref C_BadFraction) "__getattribute__" = some (some (.builtin "BaseException.__getattribute__")))
    (ek_BadFraction : PySem.W.findIn K (.ref C_BadFraction) "__getattr__" = some none)
    (hd_BadFraction : PySem.W.hasDictIn K C_BadFraction = true)
    (ha_BadFraction : PySem.W.findIn K (.ref C_BadFraction) "__class__" = some (some (.builtin "object.__class__")))
    (hm_BadFraction : PySem.W.mroIn K C_BadFraction (.type "object") = some true)
    (se_BadFraction : PySem.W.subIn K (.ref C_BadFraction) (.ref C_RowError) = some true)
    (kit_BadFraction_BadRow : PySem.W.kitOne K (.ref C_BadFraction) (.ref C_BadRow) = some false)
    (kit_BadFraction_BadPlace : PySem.W.kitOne K (.ref C_BadFraction) (.ref C_BadPlace) = some false)
    (kit_BadFraction_BadSigns : PySem.W.kitOne K (.ref C_BadFraction) (.ref C_BadSigns) = some false)
    (kit_BadFraction_BadBase : PySem.W.kitOne K (.ref C_BadFraction) (.ref C_BadBase) = some false)
    (kit_BadFraction_BadFigures : PySem.W.kitOne K (.ref C_BadFraction) (.ref C_BadFigures) = some false)
    (kit_BadFraction_BadFraction : PySem.W.kitOne K (.ref C_BadFraction) (.ref C_BadFraction) = some true)
    (kit_BadFraction_BadText : PySem.W.kitOne K (.ref C_BadFraction) (.ref C_BadText) = some false)
    (kit_BadFraction_ValueError : PySem.W.kitOne K (.ref C_BadFraction) (.type "ValueError") = some true)
    (a1 : PySem.W.nsIn K mainGlobals "is_whole" = some (some (.ref f1)))
    (l1 : K.lookup f1 = some ⟨oc1, od1, .func (PySem.W.fnOf "is_whole" "is_whole" (defArgs s_is_whole) (defBody s_is_whole) (defScope s_is_whole) .none kV1 dc1 pm1 an1 cd1 ct1), sl1⟩) (c1 : PySem.W.codeIn K cd1 "is_whole" = true) (k1 : PySem.W.keepIn K (.ref f1) = true)
    (a2 : PySem.W.nsIn K mainGlobals "are_signs" = some (some (.ref f2)))
    (l2 : K.lookup f2 = some ⟨oc2, od2, .func (PySem.W.fnOf "are_signs" "are_signs" (defArgs s_are_signs) (defBody s_are_signs) (defScope s_are_signs) .none kV2 dc2 pm2 an2 cd2 ct2), sl2⟩) (c2 : PySem.W.codeIn K cd2 "are_signs" = true) (k2 : PySem.W.keepIn K (.ref f2) = true)
    (a3 : PySem.W.nsIn K mainGlobals "check_row" = some (some (.ref f3)))
    (l3 : K.lookup f3 = some ⟨oc3, od3, .func (PySem.W.fnOf "check_row" "check_row" (defArgs s_check_row) (defBody s_check_row) (defScope s_check_row) .none kV3 dc3 pm3 an3 cd3 ct3), sl3⟩) (c3 : PySem.W.codeIn K cd3 "check_row" = true) (k3 : PySem.W.keepIn K (.ref f3) = true)
    (a4 : PySem.W.nsIn K mainGlobals "check_place" = some (some (.ref f4)))
    (l4 : K.lookup f4 = some ⟨oc4, od4, .func (PySem.W.fnOf "check_place" "check_place" (defArgs s_check_place) (defBody s_check_place) (defScope s_check_place) .none kV4 dc4 pm4 an4 cd4 ct4), sl4⟩) (c4 : PySem.W.codeIn K cd4 "check_place" = true) (k4 : PySem.W.keepIn K (.ref f4) = true)
    (a5 : PySem.W.nsIn K mainGlobals "shortest" = some (some (.ref f5)))
    (l5 : K.lookup f5 = some ⟨oc5, od5, .func (PySem.W.fnOf "shortest" "shortest" (defArgs s_shortest) (defBody s_shortest) (defScope s_shortest) .none kV5 dc5 pm5 an5 cd5 ct5), sl5⟩) (c5 : PySem.W.codeIn K cd5 "shortest" = true) (k5 : PySem.W.keepIn K (.ref f5) = true)
    (a6 : PySem.W.nsIn K mainGlobals "least_of" = some (some (.ref f6)))
    (l6 : K.lookup f6 = some ⟨oc6, od6, .func (PySem.W.fnOf "least_of" "least_of" (defArgs s_least_of) (defBody s_least_of) (defScope s_least_of) .none kV6 dc6 pm6 an6 cd6 ct6), sl6⟩) (c6 : PySem.W.codeIn K cd6 "least_of" = true) (k6 : PySem.W.keepIn K (.ref f6) = true)
    (a7 : PySem.W.nsIn K mainGlobals "least" = some (some (.ref f7)))
    (l7 : K.lookup f7 = some ⟨oc7, od7, .func (PySem.W.fnOf "least" "least" (defArgs s_least) (defBody s_least) (defScope s_least) .none kV7 dc7 pm7 an7 cd7 ct7), sl7⟩) (c7 : PySem.W.codeIn K cd7 "least" = true) (k7 : PySem.W.keepIn K (.ref f7) = true)
    (a8 : PySem.W.nsIn K mainGlobals "told_at" = some (some (.ref f8)))
    (l8 : K.lookup f8 = some ⟨oc8, od8, .func (PySem.W.fnOf "told_at" "told_at" (defArgs s_told_at) (defBody s_told_at) (defScope s_told_at) .none kV8 dc8 pm8 an8 cd8 ct8), sl8⟩) (c8 : PySem.W.codeIn K cd8 "told_at" = true) (k8 : PySem.W.keepIn K (.ref f8) = true)
    (a9 : PySem.W.nsIn K mainGlobals "begin" = some (some (.ref f9)))
    (l9 : K.lookup f9 = some ⟨oc9, od9, .func (PySem.W.fnOf "begin" "begin" (defArgs s_begin) (defBody s_begin) (defScope s_begin) .none kV9 dc9 pm9 an9 cd9 ct9), sl9⟩) (c9 : PySem.W.codeIn K cd9 "begin" = true) (k9 : PySem.W.keepIn K (.ref f9) = true)
    (a10 : PySem.W.nsIn K mainGlobals "often" = some (some (.ref f10)))
    (l10 : K.lookup f10 = some ⟨oc10, od10, .func (PySem.W.fnOf "often" "often" (defArgs s_often) (defBody s_often) (defScope s_often) .none kV10 dc10 pm10 an10 cd10 ct10), sl10⟩) (c10 : PySem.W.codeIn K cd10 "often" = true) (k10 : PySem.W.keepIn K (.ref f10) = true)
    (a11 : PySem.W.nsIn K mainGlobals "common" = some (some (.ref f11)))
    (l11 : K.lookup f11 = some ⟨oc11, od11, .func (PySem.W.fnOf "common" "common" (defArgs s_common) (defBody s_common) (defScope s_common) .none kV11 dc11 pm11 an11 cd11 ct11), sl11⟩) (c11 : PySem.W.codeIn K cd11 "common" = true) (k11 : PySem.W.keepIn K (.ref f11) = true)
    (a12 : PySem.W.nsIn K mainGlobals "every" = some (some (.ref f12)))
    (l12 : K.lookup f12 = some ⟨oc12, od12, .func (PySem.W.fnOf "every" "every" (defArgs s_every) (defBody s_every) (defScope s_every) .none kV12 dc12 pm12 an12 cd12 ct12), sl12⟩) (c12 : PySem.W.codeIn K cd12 "every" = true) (k12 : PySem.W.keepIn K (.ref f12) = true)
    (a13 : PySem.W.nsIn K mainGlobals "woven" = some (some (.ref f13)))
    (l13 : K.lookup f13 = some ⟨oc13, od13, .func (PySem.W.fnOf "woven" "woven" (defArgs s_woven) (defBody s_woven) (defScope s_woven) .none kV13 dc13 pm13 an13 cd13 ct13), sl13⟩) (c13 : PySem.W.codeIn K cd13 "woven" = true) (k13 : PySem.W.keepIn K (.ref f13) = true)
    (a14 : PySem.W.nsIn K mainGlobals "added" = some (some (.ref f14)))
    (l14 : K.lookup f14 = some ⟨oc14, od14, .func (PySem.W.fnOf "added" "added" (defArgs s_added) (defBody s_added) (defScope s_added) .none kV14 dc14 pm14 an14 cd14 ct14), sl14⟩) (c14 : PySem.W.codeIn K cd14 "added" = true) (k14 : PySem.W.keepIn K (.ref f14) = true)
    (a15 : PySem.W.nsIn K mainGlobals "behind" = some (some (.ref f15)))
    (l15 : K.lookup f15 = some ⟨oc15, od15, .func (PySem.W.fnOf "behind" "behind" (defArgs s_behind) (defBody s_behind) (defScope s_behind) .none kV15 dc15 pm15 an15 cd15 ct15), sl15⟩) (c15 : PySem.W.codeIn K cd15 "behind" = true) (k15 : PySem.W.keepIn K (.ref f15) = true)
    (a16 : PySem.W.nsIn K mainGlobals "ahead" = some (some (.ref f16)))
    (l16 : K.lookup f16 = some ⟨oc16, od16, .func (PySem.W.fnOf "ahead" "ahead" (defArgs s_ahead) (defBody s_ahead) (defScope s_ahead) .none kV16 dc16 pm16 an16 cd16 ct16), sl16⟩) (c16 : PySem.W.codeIn K cd16 "ahead" = true) (k16 : PySem.W.keepIn K (.ref f16) = true)
    (a17 : PySem.W.nsIn K mainGlobals "check_base" = some (some (.ref f17)))
    (l17 : K.lookup f17 = some ⟨oc17, od17, .func (PySem.W.fnOf "check_base" "check_base" (defArgs s_check_base) (defBody s_check_base) (defScope s_check_base) .none kV17 dc17 pm17 an17 cd17 ct17), sl17⟩) (c17 : PySem.W.codeIn K cd17 "check_base" = true) (k17 : PySem.W.keepIn K (.ref f17) = true)
    (a18 : PySem.W.nsIn K mainGlobals "number_of" = some (some (.ref f18)))
    (l18 : K.lookup f18 = some ⟨oc18, od18, .func (PySem.W.fnOf "number_of" "number_of" (defArgs s_number_of) (defBody s_number_of) (defScope s_number_of) .none kV18 dc18 pm18 an18 cd18 ct18), sl18⟩) (c18 : PySem.W.codeIn K cd18 "number_of" = true) (k18 : PySem.W.keepIn K (.ref f18) = true)
    (a19 : PySem.W.nsIn K mainGlobals "fraction" = some (some (.ref f19)))
    (l19 : K.lookup f19 = some ⟨oc19, od19, .func (PySem.W.fnOf "fraction" "fraction" (defArgs s_fraction) (defBody s_fraction) (defScope s_fraction) .none kV19 dc19 pm19 an19 cd19 ct19), sl19⟩) (c19 : PySem.W.codeIn K cd19 "fraction" = true) (k19 : PySem.W.keepIn K (.ref f19) = true)
    (a20 : PySem.W.nsIn K mainGlobals "figured" = some (some (.ref f20)))
    (l20 : K.lookup f20 = some ⟨oc20, od20, .func (PySem.W.fnOf "figured" "figured" (defArgs s_figured) (defBody s_figured) (defScope s_figured) .none kV20 dc20 pm20 an20 cd20 ct20), sl20⟩) (c20 : PySem.W.codeIn K cd20 "figured" = true) (k20 : PySem.W.keepIn K (.ref f20) = true)
    (a21 : PySem.W.nsIn K mainGlobals "unlike" = some (some (.ref f21)))
    (l21 : K.lookup f21 = some ⟨oc21, od21, .func (PySem.W.fnOf "unlike" "unlike" (defArgs s_unlike) (defBody s_unlike) (defScope s_unlike) .none kV21 dc21 pm21 an21 cd21 ct21), sl21⟩) (c21 : PySem.W.codeIn K cd21 "unlike" = true) (k21 : PySem.W.keepIn K (.ref f21) = true)
    (a22 : PySem.W.nsIn K mainGlobals "stands" = some (some (.ref f22)))
    (l22 : K.lookup f22 = some ⟨oc22, od22, .func (PySem.W.fnOf "stands" "stands" (defArgs s_stands) (defBody s_stands) (defScope s_stands) .none kV22 dc22 pm22 an22 cd22 ct22), sl22⟩) (c22 : PySem.W.codeIn K cd22 "stands" = true) (k22 : PySem.W.keepIn K (.ref f22) = true)
    (a23 : PySem.W.nsIn K mainGlobals "written" = some (some (.ref f23)))
    (l23 : K.lookup f23 = some ⟨oc23, od23, .func (PySem.W.fnOf "written" "written" (defArgs s_written) (defBody s_written) (defScope s_written) .none kV23 dc23 pm23 an23 cd23 ct23), sl23⟩) (c23 : PySem.W.codeIn K cd23 "written" = true) (k23 : PySem.W.keepIn K (.ref f23) = true)
    (a24 : PySem.W.nsIn K mainGlobals "_law_cell_at" = some (some (.ref f24)))
    (l24 : K.lookup f24 = some ⟨oc24, od24, .func (PySem.W.fnOf "_law_cell_at" "_law_cell_at" (defArgs s_law_cell_at) (defBody s_law_cell_at) (defScope s_law_cell_at) .none kV24 dc24 pm24 an24 cd24 ct24), sl24⟩) (c24 : PySem.W.codeIn K cd24 "_law_cell_at" = true) (k24 : PySem.W.keepIn K (.ref f24) = true)
    (a25 : PySem.W.nsIn K mainGlobals "_law_draw" = some (some (.ref f25)))
    (l25 : K.lookup f25 = some ⟨oc25, od25, .func (PySem.W.fnOf "_law_draw" "_law_draw" (defArgs s_law_draw) (defBody s_law_draw) (defScope s_law_draw) .none kV25 dc25 pm25 an25 cd25 ct25), sl25⟩) (c25 : PySem.W.codeIn K cd25 "_law_draw" = true) (k25 : PySem.W.keepIn K (.ref f25) = true)
    (a26 : PySem.W.nsIn K mainGlobals "_law_row" = some (some (.ref f26)))
    (l26 : K.lookup f26 = some ⟨oc26, od26, .func (PySem.W.fnOf "_law_row" "_law_row" (defArgs s_law_row) (defBody s_law_row) (defScope s_law_row) .none kV26 dc26 pm26 an26 cd26 ct26), sl26⟩) (c26 : PySem.W.codeIn K cd26 "_law_row" = true) (k26 : PySem.W.keepIn K (.ref f26) = true)
    (a27 : PySem.W.nsIn K mainGlobals "_law_kinds" = some (some (.ref f27)))
    (l27 : K.lookup f27 = some ⟨oc27, od27, .func (PySem.W.fnOf "_law_kinds" "_law_kinds" (defArgs s_law_kinds) (defBody s_law_kinds) (defScope s_law_kinds) .none kV27 dc27 pm27 an27 cd27 ct27), sl27⟩) (c27 : PySem.W.codeIn K cd27 "_law_kinds" = true) (k27 : PySem.W.keepIn K (.ref f27) = true)
    (a28 : PySem.W.nsIn K mainGlobals "_law_with_row" = some (some (.ref f28)))
    (l28 : K.lookup f28 = some ⟨oc28, od28, .func (PySem.W.fnOf "_law_with_row" "_law_with_row" (defArgs s_law_with_row) (defBody s_law_with_row) (defScope s_law_with_row) .none kV28 dc28 pm28 an28 cd28 ct28), sl28⟩) (c28 : PySem.W.codeIn K cd28 "_law_with_row" = true) (k28 : PySem.W.keepIn K (.ref f28) = true)
    (a29 : PySem.W.nsIn K mainGlobals "_law_more" = some (some (.ref f29)))
    (l29 : K.lookup f29 = some ⟨oc29, od29, .func (PySem.W.fnOf "_law_more" "_law_more" (defArgs s_law_more) (defBody s_law_more) (defScope s_law_more) .none kV29 dc29 pm29 an29 cd29 ct29), sl29⟩) (c29 : PySem.W.codeIn K cd29 "_law_more" = true) (k29 : PySem.W.keepIn K (.ref f29) = true)
    (a30 : PySem.W.nsIn K mainGlobals "_law_with_place" = some (some (.ref f30)))
    (l30 : K.lookup f30 = some ⟨oc30, od30, .func (PySem.W.fnOf "_law_with_place" "_law_with_place" (defArgs s_law_with_place) (defBody s_law_with_place) (defScope s_law_with_place) .none kV30 dc30 pm30 an30 cd30 ct30), sl30⟩) (c30 : PySem.W.codeIn K cd30 "_law_with_place" = true) (k30 : PySem.W.keepIn K (.ref f30) = true)
    (a31 : PySem.W.nsIn K mainGlobals "_law_with_step" = some (some (.ref f31)))
    (l31 : K.lookup f31 = some ⟨oc31, od31, .func (PySem.W.fnOf "_law_with_step" "_law_with_step" (defArgs s_law_with_step) (defBody s_law_with_step) (defScope s_law_with_step) .none kV31 dc31 pm31 an31 cd31 ct31), sl31⟩) (c31 : PySem.W.codeIn K cd31 "_law_with_step" = true) (k31 : PySem.W.keepIn K (.ref f31) = true)
    (a32 : PySem.W.nsIn K mainGlobals "_law_with_signs" = some (some (.ref f32)))
    (l32 : K.lookup f32 = some ⟨oc32, od32, .func (PySem.W.fnOf "_law_with_signs" "_law_with_signs" (defArgs s_law_with_signs) (defBody s_law_with_signs) (defScope s_law_with_signs) .none kV32 dc32 pm32 an32 cd32 ct32), sl32⟩) (c32 : PySem.W.codeIn K cd32 "_law_with_signs" = true) (k32 : PySem.W.keepIn K (.ref f32) = true)
    (a33 : PySem.W.nsIn K mainGlobals "_law_with_sign" = some (some (.ref f33)))
    (l33 : K.lookup f33 = some ⟨oc33, od33, .func (PySem.W.fnOf "_law_with_sign" "_law_with_sign" (defArgs s_law_with_sign) (defBody s_law_with_sign) (defScope s_law_with_sign) .none kV33 dc33 pm33 an33 cd33 ct33), sl33⟩) (c33 : PySem.W.codeIn K cd33 "_law_with_sign" = true) (k33 : PySem.W.keepIn K (.ref f33) = true)
    (a34 : PySem.W.nsIn K mainGlobals "_law_with_base" = some (some (.ref f34)))
    (l34 : K.lookup f34 = some ⟨oc34, od34, .func (PySem.W.fnOf "_law_with_base" "_law_with_base" (defArgs s_law_with_base) (defBody s_law_with_base) (defScope s_law_with_base) .none kV34 dc34 pm34 an34 cd34 ct34), sl34⟩) (c34 : PySem.W.codeIn K cd34 "_law_with_base" = true) (k34 : PySem.W.keepIn K (.ref f34) = true)
    (a35 : PySem.W.nsIn K mainGlobals "_law_with_fraction" = some (some (.ref f35)))
    (l35 : K.lookup f35 = some ⟨oc35, od35, .func (PySem.W.fnOf "_law_with_fraction" "_law_with_fraction" (defArgs s_law_with_fraction) (defBody s_law_with_fraction) (defScope s_law_with_fraction) .none kV35 dc35 pm35 an35 cd35 ct35), sl35⟩) (c35 : PySem.W.codeIn K cd35 "_law_with_fraction" = true) (k35 : PySem.W.keepIn K (.ref f35) = true)
    (a36 : PySem.W.nsIn K mainGlobals "_law_told_by" = some (some (.ref f36)))
    (l36 : K.lookup f36 = some ⟨oc36, od36, .func (PySem.W.fnOf "_law_told_by" "_law_told_by" (defArgs s_law_told_by) (defBody s_law_told_by) (defScope s_law_told_by) .none kV36 dc36 pm36 an36 cd36 ct36), sl36⟩) (c36 : PySem.W.codeIn K cd36 "_law_told_by" = true) (k36 : PySem.W.keepIn K (.ref f36) = true)
    (a37 : PySem.W.nsIn K mainGlobals "_law_all" = some (some (.ref f37)))
    (l37 : K.lookup f37 = some ⟨oc37, od37, .func (PySem.W.fnOf "_law_all" "_law_all" (defArgs s_law_all) (defBody s_law_all) (defScope s_law_all) .none kV37 dc37 pm37 an37 cd37 ct37), sl37⟩) (c37 : PySem.W.codeIn K cd37 "_law_all" = true) (k37 : PySem.W.keepIn K (.ref f37) = true)
    (a38 : PySem.W.nsIn K mainGlobals "_law_fractions_right" = some (some (.ref f38)))
    (l38 : K.lookup f38 = some ⟨oc38, od38, .func (PySem.W.fnOf "_law_fractions_right" "_law_fractions_right" (defArgs s_law_fractions_right) (defBody s_law_fractions_right) (defScope s_law_fractions_right) .none kV38 dc38 pm38 an38 cd38 ct38), sl38⟩) (c38 : PySem.W.codeIn K cd38 "_law_fractions_right" = true) (k38 : PySem.W.keepIn K (.ref f38) = true)
    (a39 : PySem.W.nsIn K mainGlobals "law" = some (some (.ref f39)))
    (l39 : K.lookup f39 = some ⟨oc39, od39, .func (PySem.W.fnOf "law" "law" (defArgs s_law) (defBody s_law) (defScope s_law) .none kV39 dc39 pm39 an39 (.ref cL) ct39), sl39⟩) (c39 : PySem.W.codeIn K (.ref cL) "law" = true) (k39 : PySem.W.keepIn K (.ref f39) = true)
    (lk_ : K.lookup cL = some ⟨.type "code", odL, .fields vsL, slL⟩)
    (v11_ : vsL[11]? = some (.ref Pt))
    (g11_ : vsL.getD 11 .none = .ref Pt)
    (g18_ : ∃ file tf, vsL.getD 18 .none = .str file tf)
    (g7_ : ∃ flags tg, vsL.getD 7 .none = .int flags tg)
    (g9_ : ∃ inF, vsL.getD 9 .none = .bool inF)
    (g10_ : ∃ text tt, vsL.getD 10 .none = .int text tt)
    (ne_ : cL ≠ Pt)
    (np_ : K.lookup Pt = none)
    (z_isinstance : PySem.W.nsIn K mainGlobals "isinstance" = some none)
    (z_int : PySem.W.nsIn K mainGlobals "int" = some none)
    (z_bool : PySem.W.nsIn K mainGlobals "bool" = some none)
    (z_list : PySem.W.nsIn K mainGlobals "list" = some none)
    (z_tuple : PySem.W.nsIn K mainGlobals "tuple" = some none)
    (z_len : PySem.W.nsIn K mainGlobals "len" = some none)
    (z_all : PySem.W.nsIn K mainGlobals "all" = some none)
    (z_range : PySem.W.nsIn K mainGlobals "range" = some none)
    (z_max : PySem.W.nsIn K mainGlobals "max" = some none)
    (z_enumerate : PySem.W.nsIn K mainGlobals "enumerate" = some none)
    (z_any : PySem.W.nsIn K mainGlobals "any" = some none)
    (z_divmod : PySem.W.nsIn K mainGlobals "divmod" = some none)
    (z_min : PySem.W.nsIn K mainGlobals "min" = some none)
    (z_abs : PySem.W.nsIn K mainGlobals "abs" = some none)
    (z_str : PySem.W.nsIn K mainGlobals "str" = some none) :
    LamX.LawAtS l w K CX0 11 63 "_law_script" mg fa h := by
  have e := hfa.symm.trans (PySem.W.mg_of X G a39)
  cases e
  have N_MOST_figures := PySem.W.mg_of X G n_MOST_figures
  have N_MOST_texts := PySem.W.mg_of X G n_MOST_texts
  have G_BadRow := PySem.W.mg_of X G g_BadRow
  have G_BadPlace := PySem.W.mg_of X G g_BadPlace
  have G_BadSigns := PySem.W.mg_of X G g_BadSigns
  have G_BadBase := PySem.W.mg_of X G g_BadBase
  have G_BadFigures := PySem.W.mg_of X G g_BadFigures
  have G_BadFraction := PySem.W.mg_of X G g_BadFraction
  have G_BadText := PySem.W.mg_of X G g_BadText
  have G_RowError := PySem.W.mg_of X G g_RowError
  have X_BadRow : XC K mg "BadRow" C_BadRow := ⟨kx_BadRow, G_BadRow, kk_BadRow, bb_BadRow, ty_BadRow⟩
  have X_BadPlace : XC K mg "BadPlace" C_BadPlace := ⟨kx_BadPlace, G_BadPlace, kk_BadPlace, bb_BadPlace, ty_BadPlace⟩
  have X_BadSigns : XC K mg "BadSigns" C_BadSigns := ⟨kx_BadSigns, G_BadSigns, kk_BadSigns, bb_BadSigns, ty_BadSigns⟩
  have X_BadBase : XC K mg "BadBase" C_BadBase := ⟨kx_BadBase, G_BadBase, kk_BadBase, bb_BadBase, ty_BadBase⟩
  have X_BadFigures : XC K mg "BadFigures" C_BadFigures := ⟨kx_BadFigures, G_BadFigures, kk_BadFigures, bb_BadFigures, ty_BadFigures⟩
  have X_BadFraction : XC K mg "BadFraction" C_BadFraction := ⟨kx_BadFraction, G_BadFraction, kk_BadFraction, bb_BadFraction, ty_BadFraction⟩
  have F_is_whole := fun_mk (st := s_is_whole) l1 c1 k1
  have B_is_whole := F_is_whole.binds (ps := ["thing"]) fun _ _ _ _ _ _ us hl => match us, hl with | [_], _ => rfl
  have G_is_whole := PySem.W.mg_of X G a1
  have F_are_signs := fun_mk (st := s_are_signs) l2 c2 k2
  have B_are_signs := F_are_signs.binds (ps := ["thing"]) fun _ _ _ _ _ _ us hl => match us, hl with | [_], _ => rfl
  have G_are_signs := PySem.W.mg_of X G a2
  have F_check_row := fun_mk (st := s_check_row) l3 c3 k3
  have B_check_row := F_check_row.binds (ps := ["row"]) fun _ _ _ _ _ _ us hl => match us, hl with | [_], _ => rfl
  have G_check_row := PySem.W.mg_of X G a3
  have F_check_place := fun_mk (st := s_check_place) l4 c4 k4
  have B_check_place := F_check_place.binds (ps := ["place", "first"]) fun _ _ _ _ _ _ us hl => match us, hl with | [_, _], _ => rfl
  have G_check_place := PySem.W.mg_of X G a4
  have F_shortest := fun_mk (st := s_shortest) l5 c5 k5
  have B_shortest := F_shortest.binds (ps := ["circle"]) fun _ _ _ _ _ _ us hl => match us, hl with | [_], _ => rfl
  have G_shortest := PySem.W.mg_of X G a5
  have F_least_of := fun_mk (st := s_least_of) l6 c6 k6
  have B_least_of := F_least_of.binds (ps := ["lead", "circle"]) fun _ _ _ _ _ _ us hl => match us, hl with | [_, _], _ => rfl
  have G_least_of := PySem.W.mg_of X G a6
  have F_least := fun_mk (st := s_least) l7 c7 k7
  have B_least := F_least.binds (ps := ["row"]) fun _ _ _ _ _ _ us hl => match us, hl with | [_], _ => rfl
  have G_least := PySem.W.mg_of X G a7
  have F_told_at := fun_mk (st := s_told_at) l8 c8 k8
  have B_told_at := F_told_at.binds (ps := ["row", "place"]) fun _ _ _ _ _ _ us hl => match us, hl with | [_, _], _ => rfl
  have G_told_at := PySem.W.mg_of X G a8
  have F_begin := fun_mk (st := s_begin) l9 c9 k9
  have B_begin := F_begin.binds (ps := ["row", "many"]) fun _ _ _ _ _ _ us hl => match us, hl with | [_, _], _ => rfl
  have G_begin := PySem.W.mg_of X G a9
  have F_often := fun_mk (st := s_often) l10 c10 k10
  have B_often := F_often.binds (ps := ["row", "sign", "many"]) fun _ _ _ _ _ _ us hl => match us, hl with | [_, _, _], _ => rfl
  have G_often := PySem.W.mg_of X G a10
  have F_common := fun_mk (st := s_common) l11 c11 k11
  have B_common := F_common.binds (ps := ["one", "other"]) fun _ _ _ _ _ _ us hl => match us, hl with | [_, _], _ => rfl
  have G_common := PySem.W.mg_of X G a11
  have F_every := fun_mk (st := s_every) l12 c12 k12
  have B_every := F_every.binds (ps := ["row", "start", "step"]) fun _ _ _ _ _ _ us hl => match us, hl with | [_, _, _], _ => rfl
  have G_every := PySem.W.mg_of X G a12
  have F_woven := fun_mk (st := s_woven) l13 c13 k13
  have B_woven := F_woven.binds (ps := ["rows"]) fun _ _ _ _ _ _ us hl => match us, hl with | [_], _ => rfl
  have G_woven := PySem.W.mg_of X G a13
  have F_added := fun_mk (st := s_added) l14 c14 k14
  have B_added := F_added.binds (ps := ["one", "other"]) fun _ _ _ _ _ _ us hl => match us, hl with | [_, _], _ => rfl
  have G_added := PySem.W.mg_of X G a14
  have F_behind := fun_mk (st := s_behind) l15 c15 k15
  have B_behind := F_behind.binds (ps := ["row", "place"]) fun _ _ _ _ _ _ us hl => match us, hl with | [_, _], _ => rfl
  have G_behind := PySem.W.mg_of X G a15
  have F_ahead := fun_mk (st := s_ahead) l16 c16 k16
  have B_ahead := F_ahead.binds (ps := ["signs", "row"]) fun _ _ _ _ _ _ us hl => match us, hl with | [_, _], _ => rfl
  have G_ahead := PySem.W.mg_of X G a16
  have F_check_base := fun_mk (st := s_check_base) l17 c17 k17
  have B_check_base := F_check_base.binds (ps := ["base"]) fun _ _ _ _ _ _ us hl => match us, hl with | [_], _ => rfl
  have G_check_base := PySem.W.mg_of X G a17
  have F_number_of := fun_mk (st := s_number_of) l18 c18 k18
  have B_number_of := F_number_of.binds (ps := ["figures", "base"]) fun _ _ _ _ _ _ us hl => match us, hl with | [_, _], _ => rfl
  have G_number_of := PySem.W.mg_of X G a18
  have F_fraction := fun_mk (st := s_fraction) l19 c19 k19
  have B_fraction := F_fraction.binds (ps := ["row", "base"]) fun _ _ _ _ _ _ us hl => match us, hl with | [_, _], _ => rfl
  have G_fraction := PySem.W.mg_of X G a19
  have F_figured := fun_mk (st := s_figured) l20 c20 k20
  have B_figured := F_figured.binds (ps := ["above", "below", "base"]) fun _ _ _ _ _ _ us hl => match us, hl with | [_, _, _], _ => rfl
  have G_figured := PySem.W.mg_of X G a20
  have F_unlike := fun_mk (st := s_unlike) l21 c21 k21
  have B_unlike := F_unlike.binds (ps := ["one", "other"]) fun _ _ _ _ _ _ us hl => match us, hl with | [_, _], _ => rfl
  have G_unlike := PySem.W.mg_of X G a21
  have F_stands := fun_mk (st := s_stands) l22 c22 k22
  have B_stands := F_stands.binds (ps := ["row", "word"]) fun _ _ _ _ _ _ us hl => match us, hl with | [_, _], _ => rfl
  have G_stands := PySem.W.mg_of X G a22
  have F_written := fun_mk (st := s_written) l23 c23 k23
  have B_written := F_written.binds (ps := ["row"]) fun _ _ _ _ _ _ us hl => match us, hl with | [_], _ => rfl
  have G_written := PySem.W.mg_of X G a23
  have F_law_cell_at := fun_mk (st := s_law_cell_at) l24 c24 k24
  have B_law_cell_at := F_law_cell_at.binds (ps := ["_law_script", "_law_k"]) fun _ _ _ _ _ _ us hl => match us, hl with | [_, _], _ => rfl
  have G_law_cell_at := PySem.W.mg_of X G a24
  have F_law_draw := fun_mk (st := s_law_draw) l25 c25 k25
  have B_law_draw := F_law_draw.binds (ps := ["_law_cell", "_law_k", "_law_many"]) fun _ _ _ _ _ _ us hl => match us, hl with | [_, _, _], _ => rfl
  have G_law_draw := PySem.W.mg_of X G a25
  have F_law_row := fun_mk (st := s_law_row) l26 c26 k26
  have B_law_row := F_law_row.binds (ps := ["_law_script", "_law_by"]) fun _ _ _ _ _ _ us hl => match us, hl with | [_, _], _ => rfl
  have G_law_row := PySem.W.mg_of X G a26
  have F_law_kinds := fun_mk (st := s_law_kinds) l27 c27 k27
  have B_law_kinds := F_law_kinds.binds (ps := ["_law_error"]) fun _ _ _ _ _ _ us hl => match us, hl with | [_], _ => rfl
  have G_law_kinds := PySem.W.mg_of X G a27
  have F_law_with_row := fun_mk (st := s_law_with_row) l28 c28 k28
  have B_law_with_row := F_law_with_row.binds (ps := ["_law_door", "_law_row_here"]) fun _ _ _ _ _ _ us hl => match us, hl with | [_, _], _ => rfl
  have G_law_with_row := PySem.W.mg_of X G a28
  have F_law_more := fun_mk (st := s_law_more) l29 c29 k29
  have B_law_more := F_law_more.binds (ps := ["_law_door", "_law_row_here"]) fun _ _ _ _ _ _ us hl => match us, hl with | [_, _], _ => rfl
  have G_law_more := PySem.W.mg_of X G a29
  have F_law_with_place := fun_mk (st := s_law_with_place) l30 c30 k30
  have B_law_with_place := F_law_with_place.binds (ps := ["_law_door", "_law_place"]) fun _ _ _ _ _ _ us hl => match us, hl with | [_, _], _ => rfl
  have G_law_with_place := PySem.W.mg_of X G a30
  have F_law_with_step := fun_mk (st := s_law_with_step) l31 c31 k31
  have B_law_with_step := F_law_with_step.binds (ps := ["_law_start", "_law_step"]) fun _ _ _ _ _ _ us hl => match us, hl with | [_, _], _ => rfl
  have G_law_with_step := PySem.W.mg_of X G a31
  have F_law_with_signs := fun_mk (st := s_law_with_signs) l32 c32 k32
  have B_law_with_signs := F_law_with_signs.binds (ps := ["_law_door", "_law_signs"]) fun _ _ _ _ _ _ us hl => match us, hl with | [_, _], _ => rfl
  have G_law_with_signs := PySem.W.mg_of X G a32
  have F_law_with_sign := fun_mk (st := s_law_with_sign) l33 c33 k33
  have B_law_with_sign := F_law_with_sign.binds (ps := ["_law_sign_here", "_law_many"]) fun _ _ _ _ _ _ us hl => match us, hl with | [_, _], _ => rfl
  have G_law_with_sign := PySem.W.mg_of X G a33
  have F_law_with_base := fun_mk (st := s_law_with_base) l34 c34 k34
  have B_law_with_base := F_law_with_base.binds (ps := ["_law_door", "_law_base"]) fun _ _ _ _ _ _ us hl => match us, hl with | [_, _], _ => rfl
  have G_law_with_base := PySem.W.mg_of X G a34
  have F_law_with_fraction := fun_mk (st := s_law_with_fraction) l35 c35 k35
  have B_law_with_fraction := F_law_with_fraction.binds (ps := ["_law_pair", "_law_base"]) fun _ _ _ _ _ _ us hl => match us, hl with | [_, _], _ => rfl
  have G_law_with_fraction := PySem.W.mg_of X G a35
  have F_law_told_by := fun_mk (st := s_law_told_by) l36 c36 k36
  have B_law_told_by := F_law_told_by.binds (ps := ["_law_ask", "_law_one", "_law_other"]) fun _ _ _ _ _ _ us hl => match us, hl with | [_, _, _], _ => rfl
  have G_law_told_by := PySem.W.mg_of X G a36
  have F_law_all := fun_mk (st := s_law_all) l37 c37 k37
  have B_law_all := F_law_all.binds (ps := ["_law_ask", "_law_doors", "_law_things", "_law_due"]) fun _ _ _ _ _ _ us hl => match us, hl with | [_, _, _, _], _ => rfl
  have G_law_all := PySem.W.mg_of X G a37
  have F_law_fractions_right := fun_mk (st := s_law_fractions_right) l38 c38 k38
  have B_law_fractions_right := F_law_fractions_right.binds (ps := ["_law_due", "_law_far"]) fun _ _ _ _ _ _ us hl => match us, hl with | [_, _], _ => rfl
  have G_law_fractions_right := PySem.W.mg_of X G a38
  have F_law := fun_mk (st := s_law) l39 c39 k39
  have B_law := F_law.binds (ps := ["_law_script"]) fun _ _ _ _ _ _ us hl => match us, hl with | [_], _ => rfl
  have G_law := PySem.W.mg_of X G a39
  have C_BadRow_ : ExcC K C_BadRow := ⟨eg_BadRow, ek_BadRow, bb_BadRow, hd_BadRow, ha_BadRow, hn_, htk_, hm_BadRow⟩
  have KC_BadRow : KC K C_BadRow C_BadPlace C_BadSigns C_BadBase C_BadFigures C_BadFraction C_BadText C_RowError C_BadRow true false false false false false := ⟨C_BadRow_, PySem.W.exm_ref bb_RowError hd_RowError ty_RowError se_BadRow, kit_BadRow_BadRow, kit_BadRow_BadPlace, kit_BadRow_BadSigns, kit_BadRow_BadBase, kit_BadRow_BadFigures, kit_BadRow_BadFraction, kit_BadRow_BadText, kit_BadRow_ValueError⟩
  have C_BadPlace_ : ExcC K C_BadPlace := ⟨eg_BadPlace, ek_BadPlace, bb_BadPlace, hd_BadPlace, ha_BadPlace, hn_, htk_, hm_BadPlace⟩
  have KC_BadPlace : KC K C_BadRow C_BadPlace C_BadSigns C_BadBase C_BadFigures C_BadFraction C_BadText C_RowError C_BadPlace false true false false false false := ⟨C_BadPlace_, PySem.W.exm_ref bb_RowError hd_RowError ty_RowError se_BadPlace, kit_BadPlace_BadRow, kit_BadPlace_BadPlace, kit_BadPlace_BadSigns, kit_BadPlace_BadBase, kit_BadPlace_BadFigures, kit_BadPlace_BadFraction, kit_BadPlace_BadText, kit_BadPlace_ValueError⟩
  have C_BadSigns_ : ExcC K C_BadSigns := ⟨eg_BadSigns, ek_BadSigns, bb_BadSigns, hd_BadSigns, ha_BadSigns, hn_, htk_, hm_BadSigns⟩
  have KC_BadSigns : KC K C_BadRow C_BadPlace C_BadSigns C_BadBase C_BadFigures C_BadFraction C_BadText C_RowError C_BadSigns false false true false false false := ⟨C_BadSigns_, PySem.W.exm_ref bb_RowError hd_RowError ty_RowError se_BadSigns, kit_BadSigns_BadRow, kit_BadSigns_BadPlace, kit_BadSigns_BadSigns, kit_BadSigns_BadBase, kit_BadSigns_BadFigures, kit_BadSigns_BadFraction, kit_BadSigns_BadText, kit_BadSigns_ValueError⟩
  have C_BadBase_ : ExcC K C_BadBase := ⟨eg_BadBase, ek_BadBase, bb_BadBase, hd_BadBase, ha_BadBase, hn_, htk_, hm_BadBase⟩
  have KC_BadBase : KC K C_BadRow C_BadPlace C_BadSigns C_BadBase C_BadFigures C_BadFraction C_BadText C_RowError C_BadBase false false false true false false := ⟨C_BadBase_, PySem.W.exm_ref bb_RowError hd_RowError ty_RowError se_BadBase, kit_BadBase_BadRow, kit_BadBase_BadPlace, kit_BadBase_BadSigns, kit_BadBase_BadBase, kit_BadBase_BadFigures, kit_BadBase_BadFraction, kit_BadBase_BadText, kit_BadBase_ValueError⟩
  have C_BadFigures_ : ExcC K C_BadFigures := ⟨eg_BadFigures, ek_BadFigures, bb_BadFigures, hd_BadFigures, ha_BadFigures, hn_, htk_, hm_BadFigures⟩
  have KC_BadFigures : KC K C_BadRow C_BadPlace C_BadSigns C_BadBase C_BadFigures C_BadFraction C_BadText C_RowError C_BadFigures false false false false true false := ⟨C_BadFigures_, PySem.W.exm_ref bb_RowError hd_RowError ty_RowError se_BadFigures, kit_BadFigures_BadRow, kit_BadFigures_BadPlace, kit_BadFigures_BadSigns, kit_BadFigures_BadBase, kit_BadFigures_BadFigures, kit_BadFigures_BadFraction, kit_BadFigures_BadText, kit_BadFigures_ValueError⟩
  have C_BadFraction_ : ExcC K C_BadFraction := ⟨eg_BadFraction, ek_BadFraction, bb_BadFraction, hd_BadFraction, ha_BadFraction, hn_, htk_, hm_BadFraction⟩
  have KC_BadFraction : KC K C_BadRow C_BadPlace C_BadSigns C_BadBase C_BadFigures C_BadFraction C_BadText C_RowError C_BadFraction false false false false false true := ⟨C_BadFraction_, PySem.W.exm_ref bb_RowError hd_RowError ty_RowError se_BadFraction, kit_BadFraction_BadRow, kit_BadFraction_BadPlace, kit_BadFraction_BadSigns, kit_BadFraction_BadBase, kit_BadFraction_BadFigures, kit_BadFraction_BadFraction, kit_BadFraction_BadText, kit_BadFraction_ValueError⟩
  have K_law_kinds := k27
  have K_law := k39
  have T : Bi mg := ⟨PySem.W.mg_none_of X G z_isinstance, PySem.W.mg_none_of X G z_int, PySem.W.mg_none_of X G z_bool, PySem.W.mg_none_of X G z_list, PySem.W.mg_none_of X G z_tuple, PySem.W.mg_none_of X G z_len, PySem.W.mg_none_of X G z_all, PySem.W.mg_none_of X G z_range, PySem.W.mg_none_of X G z_max, PySem.W.mg_none_of X G z_enumerate, PySem.W.mg_none_of X G z_any, PySem.W.mg_none_of X G z_divmod, PySem.W.mg_none_of X G z_min, PySem.W.mg_none_of X G z_abs, PySem.W.mg_none_of X G z_str⟩
  have hcode : PySem.W.CodeHd h cL Pt := by
    obtain ⟨file, tf, q18⟩ := g18_
    obtain ⟨flags, tg, q7⟩ := g7_
    obtain ⟨inF, q9⟩ := g9_
    obtain ⟨text, tt, q10⟩ := g10_
    exact ⟨_, vsL, file, tf, flags, tg, inF, text, tt, X _ _ lk_, rfl, rfl, v11_, g11_, q18, q7, q9, q10, ne_⟩
  refine ⟨PySem.W.fnOf "law" "law" (defArgs s_law) (defBody s_law) (defScope s_law) .none kV39 dc39 pm39 an39 (.ref cL) ct39, [(cL, Pt)], SpL K Pt, ?_, ?_, ?_, fun s v => .of_eq rfl, fun H a ns hn _ hT hS => ?_, fun base _ _ tb => ?_⟩
  · intro p hp
    cases List.mem_singleton.mp hp
    exact own cL Pt _ _ _ _ _ _ l39 rfl rfl lk_ v11_
  · intro p hp
    cases List.mem_singleton.mp hp
    exact np_
  · intro p hp
    cases List.mem_singleton.mp hp
    exact hcode
  · have hP := hT (cL, Pt) (List.mem_singleton.mpr rfl)
    refine ⟨ns, .cons (.scr ?_) .nil, hn, hP, fun _ => rfl⟩
    rcases hS with hS | hS
    · refine .inl ⟨fun z => ?_, hS⟩
      rw [List.mem_singleton.mp z] at hS
      rcases hS with hS | ⟨_, hS⟩ <;> (rw [hP] at hS; cases hS)
    · exact .inr hS
  have TB := tb (cL, Pt) (List.mem_singleton.mpr rfl)
  have kg : KG mg C_BadRow C_BadPlace C_BadSigns C_BadBase C_BadFigures C_BadFraction C_BadText C_RowError := ⟨G_BadRow, G_BadPlace, G_BadSigns, G_BadBase, G_BadFigures, G_BadFraction, G_BadText, G_RowError, PySem.W.mg_none_of X G va_⟩
  have ka : KA K C_BadRow C_BadPlace C_BadSigns C_BadBase C_BadFigures C_BadFraction C_BadText C_RowError := ⟨KC_BadRow, KC_BadPlace, KC_BadSigns, KC_BadBase, KC_BadFigures, KC_BadFraction⟩
  have h_is_whole := has_of F_is_whole (ok_is_whole (P := l.prog) (w := w) (base := base) F_is_whole T) G_is_whole B_is_whole
  have h_are_signs := has_of F_are_signs (ok_are_signs F_are_signs T h_is_whole) G_are_signs B_are_signs
  have h_check_row := has_of F_check_row (ok_check_row F_check_row T h_are_signs) G_check_row B_check_row
  have h_check_place := has_of F_check_place (ok_check_place F_check_place h_is_whole) G_check_place B_check_place
  have h_shortest := has_of F_shortest (ok_shortest (P := l.prog) (w := w) (base := base) F_shortest T) G_shortest B_shortest
  have h_least_of := has_of F_least_of (ok_least_of F_least_of T h_shortest) G_least_of B_least_of
  have h_least := has_of F_least (ok_least F_least h_check_row h_least_of) G_least B_least
  have h_common := has_of F_common (ok_common (P := l.prog) (w := w) (mg := mg) (base := base) F_common) G_common B_common
  have h_check_base := has_of F_check_base (ok_check_base F_check_base T N_MOST_figures h_is_whole) G_check_base B_check_base
  have h_number_of := has_of F_number_of (ok_number_of (P := l.prog) (w := w) (mg := mg) (base := base) F_number_of) G_number_of B_number_of
  have h_fraction := has_of F_fraction (ok_fraction F_fraction T h_check_row h_check_base h_number_of h_common) G_fraction B_fraction
  have h_figured := has_of F_figured (ok_figured F_figured T N_MOST_figures h_is_whole h_check_base h_least_of) G_figured B_figured
  have x_check_row := has_of F_check_row (ok_check_rowX F_check_row T X_BadRow h_are_signs) G_check_row B_check_row
  have x_check_place := has_of F_check_place (ok_check_placeX F_check_place X_BadPlace h_is_whole) G_check_place B_check_place
  have x_least := has_of F_least (ok_leastX F_least x_check_row) G_least B_least
  have x_told_at := has_of F_told_at (ok_told_atX F_told_at h_check_row x_check_row x_check_place) G_told_at B_told_at
  have x_begin := has_of F_begin (ok_beginX F_begin h_check_row x_check_row x_check_place) G_begin B_begin
  have x_behind := has_of F_behind (ok_behindX F_behind h_check_row x_check_row x_check_place) G_behind B_behind
  have x_often := has_of F_often (ok_oftenX F_often X_BadSigns h_check_row x_check_row x_check_place h_is_whole) G_often B_often
  have x_every := has_of F_every (ok_everyX F_every h_check_row x_check_row h_check_place x_check_place) G_every B_every
  have x_added := has_of F_added (ok_addedX F_added h_check_row x_check_row) G_added B_added
  have x_unlike := has_of F_unlike (ok_unlikeX F_unlike h_check_row x_check_row) G_unlike B_unlike
  have x_ahead := has_of F_ahead (ok_aheadX F_ahead X_BadSigns x_check_row h_are_signs) G_ahead B_ahead
  have x_stands := has_of F_stands (ok_standsX F_stands X_BadSigns h_check_row x_check_row h_are_signs) G_stands B_stands
  have x_woven := has_of F_woven (ok_wovenX F_woven T X_BadRow h_check_row x_check_row) G_woven B_woven
  have x_written := has_of F_written (ok_writtenX F_written T N_MOST_texts X_BadRow h_least x_least) G_written B_written
  have x_check_base := has_of F_check_base (ok_check_baseX F_check_base N_MOST_figures X_BadBase h_is_whole) G_check_base B_check_base
  have x_fraction := has_of F_fraction (ok_fractionX F_fraction T X_BadFigures h_check_row x_check_row h_check_base x_check_base) G_fraction B_fraction
  have x_figured := has_of F_figured (ok_figuredX F_figured N_MOST_figures X_BadFraction h_is_whole x_check_base) G_figured B_figured
  have x_more := has_of F_law_more (ok_moreX F_law_more x_begin x_often x_stands x_written x_ahead x_fraction) G_law_more B_law_more
  have x_with_row := has_of F_law_with_row (ok_with_rowX F_law_with_row x_least x_told_at x_more x_unlike x_every x_woven x_added x_behind) G_law_with_row B_law_with_row
  have x_with_place := has_of F_law_with_place (ok_with_placeX F_law_with_place x_told_at x_begin x_often x_every x_behind) G_law_with_place B_law_with_place
  have x_with_step := has_of F_law_with_step (ok_with_stepX F_law_with_step x_every) G_law_with_step B_law_with_step
  have x_with_signs := has_of F_law_with_signs (ok_with_signsX F_law_with_signs x_stands x_ahead) G_law_with_signs B_law_with_signs
  have x_with_sign := has_of F_law_with_sign (ok_with_signX F_law_with_sign x_often) G_law_with_sign B_law_with_sign
  have x_with_base := has_of F_law_with_base (ok_with_baseX F_law_with_base x_fraction x_figured) G_law_with_base B_law_with_base
  have x_with_fraction := has_of F_law_with_fraction (ok_with_fractionX F_law_with_fraction x_figured) G_law_with_fraction B_law_with_fraction
  have p_kinds := ok_kinds (P := l.prog) (w := w) (base := base) F_law_kinds T kg
  have h_told_by := has_of F_law_told_by (ok_told_by F_law_told_by kg p_kinds G_law_kinds K_law_kinds B_law_kinds) G_law_told_by B_law_told_by
  have h_all := has_of F_law_all (ok_law_all F_law_all T h_told_by) G_law_all B_law_all
  have h_fracs := has_of F_law_fractions_right (ok_fracs F_law_fractions_right ka h_all h_told_by x_with_base x_fraction x_with_fraction h_fraction h_figured) G_law_fractions_right B_law_fractions_right
  have h_cell := has_of F_law_cell_at (ok_cell (P := l.prog) (w := w) (base := base) F_law_cell_at T) G_law_cell_at B_law_cell_at
  have h_draw := has_of F_law_draw (ok_draw (P := l.prog) (w := w) (mg := mg) (base := base) F_law_draw) G_law_draw B_law_draw
  have h_row := has_of F_law_row (ok_row F_law_row T h_cell h_draw) G_law_row B_law_row
  have F_ := F_law
  exact ok_law l39 c39 T TB ka h_cell h_row h_all h_told_by h_fracs x_with_row x_woven x_with_place x_with_step x_with_signs x_with_sign x_written
end Lr

open PySem PySem.W PyProof.Rows
set_option maxRecDepth 100000 in
set_option maxHeartbeats 0 in
theorem PySem.Challenge.cw_leadround_k09_refused_holds : PySem.Challenge.rw_leadround_k09_refused.Holds := by
  w_on; o_law; k_head; (case hw => w_witness2)
  k_fill
  refine LamX.walk_ofOwn (l := PySem.Challenge.rw_leadround_k09_refused) (n := 63) (k := 11) (x := "_law_script") (CX := fun _ => L2.CX0) rfl (by decide) rfl ⟨rfl, by decide, by decide⟩ (by rfl) (fun w h Y => PySem.W.km_in_of Y) ?F (fun _ _ _ _ _ h => h)
  case F =>
    intro w mg fa h Y KX G hmg own
    refine' Lr.all_mk KX G hmg own ?n_MOST_figures ?n_MOST_texts ?g_BadRow ?g_BadPlace ?g_BadSigns ?g_BadBase ?g_BadFigures ?g_BadFraction ?g_BadText ?g_RowError ?va_ ?hn_ ?htk_ ?bb_RowError ?hd_RowError ?ty_RowError ?kx_BadRow ?kk_BadRow ?bb_BadRow ?ty_BadRow ?eg_BadRow ?ek_BadRow ?hd_BadRow ?ha_BadRow ?hm_BadRow ?se_BadRow ?kit_BadRow_BadRow ?kit_BadRow_BadPlace ?kit_BadRow_BadSigns ?kit_BadRow_BadBase ?kit_BadRow_BadFigures ?kit_BadRow_BadFraction ?kit_BadRow_BadText ?kit_BadRow_ValueError ?kx_BadPlace ?kk_BadPlace ?bb_BadPlace ?ty_BadPlace ?eg_BadPlace ?ek_BadPlace ?hd_BadPlace ?ha_BadPlace ?hm_BadPlace ?se_BadPlace ?kit_BadPlace_BadRow ?kit_BadPlace_BadPlace ?kit_BadPlace_BadSigns ?kit_BadPlace_BadBase ?kit_BadPlace_BadFigures ?kit_BadPlace_BadFraction ?kit_BadPlace_BadText ?kit_BadPlace_ValueError ?kx_BadSigns ?kk_BadSigns ?bb_BadSigns ?ty_BadSigns ?eg_BadSigns ?ek_BadSigns ?hd_BadSigns ?ha_BadSigns ?hm_BadSigns ?se_BadSigns ?kit_BadSigns_BadRow ?kit_BadSigns_BadPlace ?kit_BadSigns_BadSigns ?kit_BadSigns_BadBase ?kit_BadSigns_BadFigures ?kit_BadSigns_BadFraction ?kit_BadSigns_BadText ?kit_BadSigns_ValueError ?kx_BadBase ?kk_BadBase ?bb_BadBase ?ty_BadBase ?eg_BadBase ?ek_BadBase ?hd_BadBase ?ha_BadBase ?hm_BadBase ?se_BadBase ?kit_BadBase_BadRow ?kit_BadBase_BadPlace ?kit_BadBase_BadSigns ?kit_BadBase_BadBase ?kit_BadBase_BadFigures ?kit_BadBase_BadFraction ?kit_BadBase_BadText ?kit_BadBase_ValueError ?kx_BadFigures ?kk_BadFigures ?bb_BadFigures ?ty_BadFigures ?eg_BadFigures ?ek_BadFigures ?hd_BadFigures ?ha_BadFigures ?hm_BadFigures ?se_BadFigures ?kit_BadFigures_BadRow ?kit_BadFigures_BadPlace ?kit_BadFigures_BadSigns ?kit_BadFigures_BadBase ?kit_BadFigures_BadFigures ?kit_BadFigures_BadFraction ?kit_BadFigures_BadText ?kit_BadFigures_ValueError ?kx_BadFraction ?kk_BadFraction ?bb_BadFraction ?ty_BadFraction ?eg_BadFraction ?ek_BadFraction ?hd_BadFraction ?ha_BadFraction ?hm_BadFraction ?se_BadFraction ?kit_BadFraction_BadRow ?kit_BadFraction_BadPlace ?kit_BadFraction_BadSigns ?kit_BadFraction_BadBase ?kit_BadFraction_BadFigures ?kit_BadFraction_BadFraction ?kit_BadFraction_BadText ?kit_BadFraction_ValueError ?a1 ?l1 ?c1 ?k1 ?a2 ?l2 ?c2 ?k2 ?a3 ?l3 ?c3 ?k3 ?a4 ?l4 ?c4 ?k4 ?a5 ?l5 ?c5 ?k5 ?a6 ?l6 ?c6 ?k6 ?a7 ?l7 ?c7 ?k7 ?a8 ?l8 ?c8 ?k8 ?a9 ?l9 ?c9 ?k9 ?a10 ?l10 ?c10 ?k10 ?a11 ?l11 ?c11 ?k11 ?a12 ?l12 ?c12 ?k12 ?a13 ?l13 ?c13 ?k13 ?a14 ?l14 ?c14 ?k14 ?a15 ?l15 ?c15 ?k15 ?a16 ?l16 ?c16 ?k16 ?a17 ?l17 ?c17 ?k17 ?a18 ?l18 ?c18 ?k18 ?a19 ?l19 ?c19 ?k19 ?a20 ?l20 ?c20 ?k20 ?a21 ?l21 ?c21 ?k21 ?a22 ?l22 ?c22 ?k22 ?a23 ?l23 ?c23 ?k23 ?a24 ?l24 ?c24 ?k24 ?a25 ?l25 ?c25 ?k25 ?a26 ?l26 ?c26 ?k26 ?a27 ?l27 ?c27 ?k27 ?a28 ?l28 ?c28 ?k28 ?a29 ?l29 ?c29 ?k29 ?a30 ?l30 ?c30 ?k30 ?a31 ?l31 ?c31 ?k31 ?a32 ?l32 ?c32 ?k32 ?a33 ?l33 ?c33 ?k33 ?a34 ?l34 ?c34 ?k34 ?a35 ?l35 ?c35 ?k35 ?a36 ?l36 ?c36 ?k36 ?a37 ?l37 ?c37 ?k37 ?a38 ?l38 ?c38 ?k38 ?a39 ?l39 ?c39 ?k39 ?lk_ ?v11_ ?g11_ ?g18_ ?g7_ ?g9_ ?g10_ ?ne_ ?np_ ?z_isinstance ?z_int ?z_bool ?z_list ?z_tuple ?z_len ?z_all ?z_range ?z_max ?z_enumerate ?z_any ?z_divmod ?z_min ?z_abs ?z_str
    case n_MOST_figures => k_is
    case n_MOST_texts => k_is
    case g_BadRow => k_is
    case g_BadPlace => k_is
    case g_BadSigns => k_is
    case g_BadBase => k_is
    case g_BadFigures => k_is
    case g_BadFraction => k_is
    case g_BadText => k_is
    case g_RowError => k_is
    case va_ => k_is
    case hn_ => k_is
    case htk_ => k_is
    case bb_RowError => k_is
    case hd_RowError => k_is
    case ty_RowError => k_is
    case kx_BadRow => k_exc
    case kk_BadRow => k_is
    case bb_BadRow => k_is
    case ty_BadRow => k_is
    case eg_BadRow => k_is
    case ek_BadRow => k_is
    case hd_BadRow => k_is
    case ha_BadRow => k_is
    case hm_BadRow => k_is
    case se_BadRow => k_is
    case kit_BadRow_BadRow => kit_is
    case kit_BadRow_BadPlace => kit_is
    case kit_BadRow_BadSigns => kit_is
    case kit_BadRow_BadBase => kit_is
    case kit_BadRow_BadFigures => kit_is
    case kit_BadRow_BadFraction => kit_is
    case kit_BadRow_BadText => kit_is
    case kit_BadRow_ValueError => kit_is
    case kx_BadPlace => k_exc
    case kk_BadPlace => k_is
    case bb_BadPlace => k_is
    case ty_BadPlace => k_is
    case eg_BadPlace => k_is
    case ek_BadPlace => k_is
    case hd_BadPlace => k_is
    case ha_BadPlace => k_is
    case hm_BadPlace => k_is
    case se_BadPlace => k_is
    case kit_BadPlace_BadRow => kit_is
    case kit_BadPlace_BadPlace => kit_is
    case kit_BadPlace_BadSigns => kit_is
    case kit_BadPlace_BadBase => kit_is
    case kit_BadPlace_BadFigures => kit_is
    case kit_BadPlace_BadFraction => kit_is
    case kit_BadPlace_BadText => kit_is
    case kit_BadPlace_ValueError => kit_is
    case kx_BadSigns => k_exc
    case kk_BadSigns => k_is
    case bb_BadSigns => k_is
    case ty_BadSigns => k_is
    case eg_BadSigns => k_is
    case ek_BadSigns => k_is
    case hd_BadSigns => k_is
    case ha_BadSigns => k_is
    case hm_BadSigns => k_is
    case se_BadSigns => k_is
    case kit_BadSigns_BadRow => kit_is
    case kit_BadSigns_BadPlace => kit_is
    case kit_BadSigns_BadSigns => kit_is
    case kit_BadSigns_BadBase => kit_is
    case kit_BadSigns_BadFigures => kit_is
    case kit_BadSigns_BadFraction => kit_is
    case kit_BadSigns_BadText => kit_is
    case kit_BadSigns_ValueError => kit_is
    case kx_BadBase => k_exc
    case kk_BadBase => k_is
    case bb_BadBase => k_is
    case ty_BadBase => k_is
    case eg_BadBase => k_is
    case ek_BadBase => k_is
    case hd_BadBase => k_is
    case ha_BadBase => k_is
    case hm_BadBase => k_is
    case se_BadBase => k_is
    case kit_BadBase_BadRow => kit_is
    case kit_BadBase_BadPlace => kit_is
    case kit_BadBase_BadSigns => kit_is
    case kit_BadBase_BadBase => kit_is
    case kit_BadBase_BadFigures => kit_is
    case kit_BadBase_BadFraction => kit_is
    case kit_BadBase_BadText => kit_is
    case kit_BadBase_ValueError => kit_is
    case kx_BadFigures => k_exc
    case kk_BadFigures => k_is
    case bb_BadFigures => k_is
    case ty_BadFigures => k_is
    case eg_BadFigures => k_is
    case ek_BadFigures => k_is
    case hd_BadFigures => k_is
    case ha_BadFigures => k_is
    case hm_BadFigures => k_is
    case se_BadFigures => k_is
    case kit_BadFigures_BadRow => kit_is
    case kit_BadFigures_BadPlace => kit_is
    case kit_BadFigures_BadSigns => kit_is
    case kit_BadFigures_BadBase => kit_is
    case kit_BadFigures_BadFigures => kit_is
    case kit_BadFigures_BadFraction => kit_is
    case kit_BadFigures_BadText => kit_is
    case kit_BadFigures_ValueError => kit_is
    case kx_BadFraction => k_exc
    case kk_BadFraction => k_is
    case bb_BadFraction => k_is
    case ty_BadFraction => k_is
    case eg_BadFraction => k_is
    case ek_BadFraction => k_is
    case hd_BadFraction => k_is
    case ha_BadFraction => k_is
    case hm_BadFraction => k_is
    case se_BadFraction => k_is
    case kit_BadFraction_BadRow => kit_is
    case kit_BadFraction_BadPlace => kit_is
    case kit_BadFraction_BadSigns => kit_is
    case kit_BadFraction_BadBase => kit_is
    case kit_BadFraction_BadFigures => kit_is
    case kit_BadFraction_BadFraction => kit_is
    case kit_BadFraction_BadText => kit_is
    case kit_BadFraction_ValueError => kit_is
    case a1 => k_is
    case l1 => k_is
    case c1 => k_is
    case k1 => k_is
    case a2 => k_is
    case l2 => k_is
    case c2 => k_is
    case k2 => k_is
    case a3 => k_is
    case l3 => k_is
    case c3 => k_is
    case k3 => k_is
    case a4 => k_is
    case l4 => k_is
    case c4 => k_is
    case k4 => k_is
    case a5 => k_is
    case l5 => k_is
    case c5 => k_is
    case k5 => k_is
    case a6 => k_is
    case l6 => k_is
    case c6 => k_is
    case k6 => k_is
    case a7 => k_is
    case l7 => k_is
    case c7 => k_is
    case k7 => k_is
    case a8 => k_is
    case l8 => k_is
    case c8 => k_is
    case k8 => k_is
    case a9 => k_is
    case l9 => k_is
    case c9 => k_is
    case k9 => k_is
    case a10 => k_is
    case l10 => k_is
    case c10 => k_is
    case k10 => k_is
    case a11 => k_is
    case l11 => k_is
    case c11 => k_is
    case k11 => k_is
    case a12 => k_is
    case l12 => k_is
    case c12 => k_is
    case k12 => k_is
    case a13 => k_is
    case l13 => k_is
    case c13 => k_is
    case k13 => k_is
    case a14 => k_is
    case l14 => k_is
    case c14 => k_is
    case k14 => k_is
    case a15 => k_is
    case l15 => k_is
    case c15 => k_is
    case k15 => k_is
    case a16 => k_is
    case l16 => k_is
    case c16 => k_is
    case k16 => k_is
    case a17 => k_is
    case l17 => k_is
    case c17 => k_is
    case k17 => k_is
    case a18 => k_is
    case l18 => k_is
    case c18 => k_is
    case k18 => k_is
    case a19 => k_is
    case l19 => k_is
    case c19 => k_is
    case k19 => k_is
    case a20 => k_is
    case l20 => k_is
    case c20 => k_is
    case k20 => k_is
    case a21 => k_is
    case l21 => k_is
    case c21 => k_is
    case k21 => k_is
    case a22 => k_is
    case l22 => k_is
    case c22 => k_is
    case k22 => k_is
    case a23 => k_is
    case l23 => k_is
    case c23 => k_is
    case k23 => k_is
    case a24 => k_is
    case l24 => k_is
    case c24 => k_is
    case k24 => k_is
    case a25 => k_is
    case l25 => k_is
    case c25 => k_is
    case k25 => k_is
    case a26 => k_is
    case l26 => k_is
    case c26 => k_is
    case k26 => k_is
    case a27 => k_is
    case l27 => k_is
    case c27 => k_is
    case k27 => k_is
    case a28 => k_is
    case l28 => k_is
    case c28 => k_is
    case k28 => k_is
    case a29 => k_is
    case l29 => k_is
    case c29 => k_is
    case k29 => k_is
    case a30 => k_is
    case l30 => k_is
    case c30 => k_is
    case k30 => k_is
    case a31 => k_is
    case l31 => k_is
    case c31 => k_is
    case k31 => k_is
    case a32 => k_is
    case l32 => k_is
    case c32 => k_is
    case k32 => k_is
    case a33 => k_is
    case l33 => k_is
    case c33 => k_is
    case k33 => k_is
    case a34 => k_is
    case l34 => k_is
    case c34 => k_is
    case k34 => k_is
    case a35 => k_is
    case l35 => k_is
    case c35 => k_is
    case k35 => k_is
    case a36 => k_is
    case l36 => k_is
    case c36 => k_is
    case k36 => k_is
    case a37 => k_is
    case l37 => k_is
    case c37 => k_is
    case k37 => k_is
    case a38 => k_is
    case l38 => k_is
    case c38 => k_is
    case k38 => k_is
    case a39 => k_is
    case l39 => k_is
    case c39 => k_is
    case k39 => k_is
    case lk_ => k_is
    case v11_ => rfl
    case g11_ => rfl
    case g18_ => exact ⟨_, _, rfl⟩
    case g7_ => exact ⟨_, _, rfl⟩
    case g9_ => exact ⟨_, rfl⟩
    case g10_ => exact ⟨_, _, rfl⟩
    case ne_ => decide
    case np_ => kernel_rfl
    case z_isinstance => k_is
    case z_int => k_is
    case z_bool => k_is
    case z_list => k_is
    case z_tuple => k_is
    case z_len => k_is
    case z_all => k_is
    case z_range => k_is
    case z_max => k_is
    case z_enumerate => k_is
    case z_any => k_is
    case z_divmod => k_is
    case z_min => k_is
    case z_abs => k_is
    case z_str => k_is
    all_goals exact PySem.Value.none

