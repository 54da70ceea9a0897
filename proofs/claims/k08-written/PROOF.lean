import PyProof.Rows.All
import Wide.All
import OpenK.AllK
import Wide.FinOn
import HandS.ForExc
import HandS.ForMost
import HandS.IsInst
import HandS.Evl
import HandS.Walk
import HandS.Lambda
import HandS.Wide
import HandS.SetFor
import HandS.Conv
import HandS.Style
import HandS.List
import OpenK.KMake
import HandS.Dict
import HandS.Text
import HandS.StrMore
import HandS.Codes
import HandS.NoneIn
import HandS.ExcCtx
import HandS.HotCalls
import HandS.ExcIs
import HandS.WordsExc
import KE.GoesComp
import HandS.Hot
import PyProof.Rows.StrCut
import HandS.ForList
import KE.RegKIsAll
import PySem.Challenge.RW_leadround_k08_written
set_option Elab.async false
set_option linter.all false
set_option maxRecDepth 100000
set_option maxHeartbeats 4000000
set_option autoImplicit false
/-! A layer of data over the readings: what an expression is worth by the data of the names, whatever the heap. -/
namespace Lr
open PySem L2
open Evl (Ex)

/-! ### data -/
inductive Pd where
  | non | bl (b : Bool) | int (i : Int) | str (x : Str) | lst (ds : List Pd) | tup (ds : List Pd) | scr (ns : List Int) | raw (v : V) | obj (C : Addr) (ns : List Str) (ds : List Pd) | dic (kvs : List (Int × Int)) | lam (q : Str) (params : Arguments) (body : Expr) (scope : Scope)

/-- a list to be read: tracked or known, not in M; or of the written part -/
def SqM (K : PySem.W.Frag) (M : List Addr) (H : Hp) (a : Addr) (xs : List V) : Prop := (a ∉ M ∧ Rd H a (.lst xs)) ∨
    ∃ (o : Obj) (its : Array Value) (n : Nat), K.lookup a = some o ∧ o.cls = .type "list" ∧ o.dict = none ∧ o.data = .seq its n ∧ its.size ≤ sizeLine ∧ Vals xs its.toList
theorem SqM.sq {K : PySem.W.Frag} {M : List Addr} {H : Hp} {a : Addr} {xs : List V} (h : SqM K M H a xs) : SqL K H a xs := by
  rcases h with h | h
  · exact .inl h.2
  · exact .inr h
/-- a dict of whole numbers -/
def kvP (kvs : List (Int × Int)) : List (L2.Key × V) := kvs.map fun p => (Sum.inl p.1, V.int p.2)
/-- a lambda's object -/
def LamO (f c : Addr) (q : Str) (params : Arguments) (body : Expr) (scope : Scope) : HO := .ext fun h => ∃ (pm ctv : Value), h.get? f = some (PySem.W.kla_obj "<lambda>" q params body scope [] pm c ctv)
mutual
inductive Dt (K : PySem.W.Frag) (M : List Addr) (H : Hp) : V → Pd → Prop
  | non : Dt K M H .non .non
  | bl (b : Bool) : Dt K M H (.bl b) (.bl b)
  | int (i : Int) : Dt K M H (.int i) (.int i)
  | str (x : Str) : Dt K M H (.str x) (.str x)
  | lst {a : Addr} {xs : List V} {ds : List Pd} : a ∉ M → H a = some (.lst xs) → DtAll K M H xs ds → Dt K M H (.ref a) (.lst ds)
  | tup {a : Addr} {xs : List V} {ds : List Pd} : a ∉ M → H a = some (.tup xs) → DtAll K M H xs ds → Dt K M H (.ref a) (.tup ds)
  | scr {a : Addr} {ns : List Int} : SqM K M H a (ns.map V.int) → Dt K M H (.ref a) (.scr ns)
  | raw (v : V) : Dt K M H v (.raw v)
  | obj {a C dx : Addr} {fs : List (Str × V)} {ds : List Pd} : a ∉ M → H a = some (.ins C dx fs) → DtAll K M H (fs.map (·.2)) ds → Dt K M H (.ref a) (.obj C (fs.map (·.1)) ds)
  | dic {a : Addr} {kvs : List (Int × Int)} : a ∉ M → H a = some (.dK (kvP kvs)) → Dt K M H (.ref a) (.dic kvs)
  | lam {a c : Addr} {q : Str} {params : Arguments} {body : Expr} {scope : Scope} : a ∉ M → c ∉ M → H a = some (LamO a c q params body scope) → H c = some (LamX.CodeO c q) → Dt K M H (.ref a) (.lam q params body scope)
inductive DtAll (K : PySem.W.Frag) (M : List Addr) (H : Hp) : List V → List Pd → Prop
  | nil : DtAll K M H [] []
  | cons {v : V} {vs : List V} {d : Pd} {ds : List Pd} : Dt K M H v d → DtAll K M H vs ds → DtAll K M H (v :: vs) (d :: ds)
end

/-- all but what stands in M is as it was -/
def ExM (M : List Addr) (H H' : Hp) : Prop := ∀ a o, a ∉ M → H a = some o → H' a = some o
def Al (M : List Addr) (H : Hp) : Prop := ∀ a ∈ M, ∃ o, H a = some o
section
variable {K : PySem.W.Frag} {M M' : List Addr} {H H' : Hp}
theorem exM (e : Ex H H') : ExM M H H' := fun a o _ h => e a o h
theorem ExM.trans {H1 : Hp} (a : ExM M H H1) (b : ExM M H1 H') : ExM M H H' := fun x o hx h => b x o hx (a x o hx h)
theorem ExM.upd {l : Addr} {o : HO} (h : l ∈ M) : ExM M H (L2.upd H l o) := fun a u ha e => by
  rw [upd_ne (show a ≠ l from fun z => ha (by rw [z]; exact h))]
  exact e
theorem Al.mono (a : Al M H) (e : Ex H H') : Al M H' := fun x hx => by
  obtain ⟨o, h⟩ := a x hx
  exact ⟨o, e x o h⟩
theorem Al.upd {l : Addr} {o : HO} (a : Al M H) : Al M (L2.upd H l o) := fun x hx => by
  by_cases h : x = l
  · exact ⟨o, by rw [h]; exact upd_same⟩
  · rw [upd_ne h]
    exact a x hx
theorem Al.nw {p : Addr} (a : Al M H) (h : H p = none) : p ∉ M := fun hx => by
  obtain ⟨o, e⟩ := a p hx
  rw [h] at e
  cases e
theorem Al.nil : Al [] H := fun _ h => by simp at h
mutual
theorem Dt.monoM (e : ExM M H H') : ∀ (d : Pd) (v : V), Dt K M H v d → Dt K M H' v d
  | .non, _, h => by cases h; exact .non
  | .bl _, _, h => by cases h; exact .bl _
  | .int _, _, h => by cases h; exact .int _
  | .str _, _, h => by cases h; exact .str _
  | .lst ds, _, h => by
    cases h with
    | lst h0 h1 h2 => exact .lst h0 (e _ _ h0 h1) (DtAll.monoM e ds _ h2)
  | .tup ds, _, h => by
    cases h with
    | tup h0 h1 h2 => exact .tup h0 (e _ _ h0 h1) (DtAll.monoM e ds _ h2)
  | .scr ns, _, h => by
    cases h with
    | scr h1 => exact .scr (by
        rcases h1 with ⟨h0, h1 | ⟨o, h1⟩⟩ | h1
        · exact .inl ⟨h0, .inl (e _ _ h0 h1)⟩
        · exact .inl ⟨h0, .inr ⟨o, e _ _ h0 h1⟩⟩
        · exact .inr h1)
  | .raw v, _, h => by cases h; exact .raw _
  | .obj C ns ds, _, h => by
    cases h with
    | obj h0 h1 h2 => exact .obj h0 (e _ _ h0 h1) (DtAll.monoM e ds _ h2)
  | .dic kvs, _, h => by
    cases h with
    | dic h0 h1 => exact .dic h0 (e _ _ h0 h1)
  | .lam _ _ _ _, _, h => by
    cases h with
    | lam h0 h1 h2 h3 => exact .lam h0 h1 (e _ _ h0 h2) (e _ _ h1 h3)
theorem DtAll.monoM (e : ExM M H H') : ∀ (ds : List Pd) (vs : List V), DtAll K M H vs ds → DtAll K M H' vs ds
  | [], _, h => by cases h; exact .nil
  | d :: ds, _, h => by
    cases h with
    | cons h1 h2 => exact .cons (Dt.monoM e d _ h1) (DtAll.monoM e ds _ h2)
end
theorem Dt.mono (e : Ex H H') (d : Pd) (v : V) (h : Dt K M H v d) : Dt K M H' v d := Dt.monoM (exM e) d v h
theorem DtAll.mono (e : Ex H H') (ds : List Pd) (vs : List V) (h : DtAll K M H vs ds) : DtAll K M H' vs ds := DtAll.monoM (exM e) ds vs h
mutual
theorem Dt.less (e : ∀ a, a ∈ M' → a ∈ M) : ∀ (d : Pd) (v : V), Dt K M H v d → Dt K M' H v d
  | .non, _, h => by cases h; exact .non
  | .bl _, _, h => by cases h; exact .bl _
  | .int _, _, h => by cases h; exact .int _
  | .str _, _, h => by cases h; exact .str _
  | .lst ds, _, h => by
    cases h with
    | lst h0 h1 h2 => exact .lst (fun z => h0 (e _ z)) h1 (DtAll.less e ds _ h2)
  | .tup ds, _, h => by
    cases h with
    | tup h0 h1 h2 => exact .tup (fun z => h0 (e _ z)) h1 (DtAll.less e ds _ h2)
  | .scr ns, _, h => by
    cases h with
    | scr h1 => exact .scr (by
        rcases h1 with ⟨h0, h1⟩ | h1
        · exact .inl ⟨fun z => h0 (e _ z), h1⟩
        · exact .inr h1)
  | .raw v, _, h => by cases h; exact .raw _
  | .obj C ns ds, _, h => by
    cases h with
    | obj h0 h1 h2 => exact .obj (fun z => h0 (e _ z)) h1 (DtAll.less e ds _ h2)
  | .dic kvs, _, h => by
    cases h with
    | dic h0 h1 => exact .dic (fun z => h0 (e _ z)) h1
  | .lam _ _ _ _, _, h => by
    cases h with
    | lam h0 h1 h2 h3 => exact .lam (fun z => h0 (e _ z)) (fun z => h1 (e _ z)) h2 h3
theorem DtAll.less (e : ∀ a, a ∈ M' → a ∈ M) : ∀ (ds : List Pd) (vs : List V), DtAll K M H vs ds → DtAll K M' H vs ds
  | [], _, h => by cases h; exact .nil
  | d :: ds, _, h => by
    cases h with
    | cons h1 h2 => exact .cons (Dt.less e d _ h1) (DtAll.less e ds _ h2)
end

mutual
theorem Dt.chg (e : ∀ a, a ∈ M' → a ∈ M ∨ H a = none) : ∀ (d : Pd) (v : V), Dt K M H v d → Dt K M' H v d
  | .non, _, h => by cases h; exact .non
  | .bl _, _, h => by cases h; exact .bl _
  | .int _, _, h => by cases h; exact .int _
  | .str _, _, h => by cases h; exact .str _
  | .lst ds, _, h => by
    cases h with
    | lst h0 h1 h2 => exact .lst (fun z => (e _ z).elim h0 fun y => absurd (h1.symm.trans y) nofun) h1 (DtAll.chg e ds _ h2)
  | .tup ds, _, h => by
    cases h with
    | tup h0 h1 h2 => exact .tup (fun z => (e _ z).elim h0 fun y => absurd (h1.symm.trans y) nofun) h1 (DtAll.chg e ds _ h2)
  | .scr ns, _, h => by
    cases h with
    | scr h1 => exact .scr (by
        rcases h1 with ⟨h0, h1⟩ | h1
        · refine .inl ⟨fun z => (e _ z).elim h0 fun y => ?_, h1⟩
          rcases h1 with h1 | ⟨o, h1⟩
          · exact absurd (h1.symm.trans y) nofun
          · exact absurd (h1.symm.trans y) nofun
        · exact .inr h1)
  | .raw v, _, h => by cases h; exact .raw _
  | .obj C ns ds, _, h => by
    cases h with
    | obj h0 h1 h2 => exact .obj (fun z => (e _ z).elim h0 fun y => absurd (h1.symm.trans y) nofun) h1 (DtAll.chg e ds _ h2)
  | .dic kvs, _, h => by
    cases h with
    | dic h0 h1 => exact .dic (fun z => (e _ z).elim h0 fun y => absurd (h1.symm.trans y) nofun) h1
  | .lam _ _ _ _, _, h => by
    cases h with
    | lam h0 h1 h2 h3 => exact .lam (fun z => (e _ z).elim h0 fun y => absurd (h2.symm.trans y) nofun) (fun z => (e _ z).elim h1 fun y => absurd (h3.symm.trans y) nofun) h2 h3
theorem DtAll.chg (e : ∀ a, a ∈ M' → a ∈ M ∨ H a = none) : ∀ (ds : List Pd) (vs : List V), DtAll K M H vs ds → DtAll K M' H vs ds
  | [], _, h => by cases h; exact .nil
  | d :: ds, _, h => by
    cases h with
    | cons h1 h2 => exact .cons (Dt.chg e d _ h1) (DtAll.chg e ds _ h2)
end
mutual
theorem Dt.more {p : Addr} (e : H p = none) : ∀ (d : Pd) (v : V), Dt K M H v d → Dt K (p :: M) H v d
  | .non, _, h => by cases h; exact .non
  | .bl _, _, h => by cases h; exact .bl _
  | .int _, _, h => by cases h; exact .int _
  | .str _, _, h => by cases h; exact .str _
  | .lst ds, _, h => by
    cases h with
    | lst h0 h1 h2 => exact .lst (fun z => (List.mem_cons.mp z).elim (ne_of_none h1 e) h0) h1 (DtAll.more e ds _ h2)
  | .tup ds, _, h => by
    cases h with
    | tup h0 h1 h2 => exact .tup (fun z => (List.mem_cons.mp z).elim (ne_of_none h1 e) h0) h1 (DtAll.more e ds _ h2)
  | .scr ns, _, h => by
    cases h with
    | scr h1 => exact .scr (by
        rcases h1 with ⟨h0, h1⟩ | h1
        · refine .inl ⟨fun z => (List.mem_cons.mp z).elim (fun q => ?_) h0, h1⟩
          rcases h1 with h1 | ⟨o, h1⟩
          · exact ne_of_none h1 e q
          · exact ne_of_none h1 e q
        · exact .inr h1)
  | .raw v, _, h => by cases h; exact .raw _
  | .obj C ns ds, _, h => by
    cases h with
    | obj h0 h1 h2 => exact .obj (fun z => (List.mem_cons.mp z).elim (ne_of_none h1 e) h0) h1 (DtAll.more e ds _ h2)
  | .dic kvs, _, h => by
    cases h with
    | dic h0 h1 => exact .dic (fun z => (List.mem_cons.mp z).elim (ne_of_none h1 e) h0) h1
  | .lam _ _ _ _, _, h => by
    cases h with
    | lam h0 h1 h2 h3 => exact .lam (fun z => (List.mem_cons.mp z).elim (ne_of_none h2 e) h0) (fun z => (List.mem_cons.mp z).elim (ne_of_none h3 e) h1) h2 h3
theorem DtAll.more {p : Addr} (e : H p = none) : ∀ (ds : List Pd) (vs : List V), DtAll K M H vs ds → DtAll K (p :: M) H vs ds
  | [], _, h => by cases h; exact .nil
  | d :: ds, _, h => by
    cases h with
    | cons h1 h2 => exact .cons (Dt.more e d _ h1) (DtAll.more e ds _ h2)
end
end
section
variable {K : PySem.W.Frag} {M : List Addr} {H H' : Hp}
theorem DtAll.length : ∀ {vs : List V} {ds : List Pd}, DtAll K M H vs ds → vs.length = ds.length
  | _, _, .nil => rfl
  | _, _, .cons _ h => by rw [List.length_cons, List.length_cons, DtAll.length h]
theorem DtAll.app : ∀ {vs ws : List V} {ds es : List Pd}, DtAll K M H vs ds → DtAll K M H ws es → DtAll K M H (vs ++ ws) (ds ++ es)
  | _, _, _, _, .nil, h => h
  | _, _, _, _, .cons a b, h => .cons a (DtAll.app b h)
theorem DtAll.drop : ∀ {vs : List V} {ds : List Pd} (n : Nat), DtAll K M H vs ds → DtAll K M H (vs.drop n) (ds.drop n)
  | _, _, 0, h => h
  | _, _, _ + 1, .nil => .nil
  | _, _, n + 1, .cons _ h => DtAll.drop n h
theorem DtAll.take : ∀ {vs : List V} {ds : List Pd} (n : Nat), DtAll K M H vs ds → DtAll K M H (vs.take n) (ds.take n)
  | _, _, 0, _ => .nil
  | _, _, _ + 1, .nil => .nil
  | _, _, n + 1, .cons a h => .cons a (DtAll.take n h)
theorem DtAll.get : ∀ {vs : List V} {ds : List Pd} {i : Nat} {d : Pd}, DtAll K M H vs ds → ds[i]? = some d → ∃ v, vs[i]? = some v ∧ Dt K M H v d
  | _, _, _, _, .nil, h => by simp at h
  | _, _, 0, _, .cons a _, h => by
    simp at h
    subst h
    exact ⟨_, rfl, a⟩
  | _, _, i + 1, _, .cons _ b, h => by
    obtain ⟨v, h1, h2⟩ := DtAll.get (i := i) b (by simpa using h)
    exact ⟨v, by simpa using h1, h2⟩
theorem DtAll.getV : ∀ {vs : List V} {ds : List Pd} {i : Nat} {v : V}, DtAll K M H vs ds → vs[i]? = some v → ∃ d, ds[i]? = some d ∧ Dt K M H v d
  | _, _, _, _, .nil, h => by simp at h
  | _, _, 0, _, .cons a _, h => by
    simp at h
    subst h
    exact ⟨_, rfl, a⟩
  | _, _, i + 1, _, .cons _ b, h => by
    obtain ⟨d, h1, h2⟩ := DtAll.getV (i := i) b (by simpa using h)
    exact ⟨d, by simpa using h1, h2⟩
theorem DtAll.rep {vs : List V} {ds : List Pd} (h : DtAll K M H vs ds) : ∀ n : Nat, DtAll K M H (List.replicate n vs).flatten (List.replicate n ds).flatten
  | 0 => .nil
  | n + 1 => by
    rw [List.replicate_succ, List.replicate_succ, List.flatten_cons, List.flatten_cons]
    exact h.app (DtAll.rep h n)
/-- ints -/
abbrev dL (ns : List Int) : Pd := .lst (ns.map .int)
abbrev dR (r : List Int × List Int) : Pd := .tup [dL r.1, dL r.2]
theorem dtI : ∀ ns : List Int, DtAll K M H (ns.map V.int) (ns.map Pd.int)
  | [] => .nil
  | n :: ns => .cons (.int n) (dtI ns)
theorem dtI_inv : ∀ {ns : List Int} {vs : List V}, DtAll K M H vs (ns.map Pd.int) → vs = ns.map V.int
  | [], _, h => by cases h; rfl
  | n :: ns, _, h => by
    cases h with
    | cons a b =>
      cases a
      rw [dtI_inv b]
      rfl
theorem dtB : ∀ bs : List Bool, DtAll K M H (bs.map V.bl) (bs.map Pd.bl)
  | [] => .nil
  | n :: ns => .cons (.bl n) (dtB ns)
theorem dtB_inv : ∀ {ns : List Bool} {vs : List V}, DtAll K M H vs (ns.map Pd.bl) → vs = ns.map V.bl
  | [], _, h => by cases h; rfl
  | n :: ns, _, h => by
    cases h with
    | cons a b =>
      cases a
      rw [dtB_inv b]
      rfl
theorem dtS_inv : ∀ {ns : List Str} {vs : List V}, DtAll K M H vs (ns.map Pd.str) → vs = ns.map V.str
  | [], _, h => by cases h; rfl
  | n :: ns, _, h => by
    cases h with
    | cons a b =>
      cases a
      rw [dtS_inv b]
      rfl
theorem dt_sq {v : V} {ds : List Pd} (h : Dt K M H v (.lst ds)) : ∃ a xs, v = .ref a ∧ H a = some (.lst xs) ∧ DtAll K M H xs ds := by
  cases h with
  | lst _ h1 h2 => exact ⟨_, _, rfl, h1, h2⟩
theorem dt_tp {v : V} {ds : List Pd} (h : Dt K M H v (.tup ds)) : ∃ a xs, v = .ref a ∧ H a = some (.tup xs) ∧ DtAll K M H xs ds := by
  cases h with
  | tup _ h1 h2 => exact ⟨_, _, rfl, h1, h2⟩
theorem dt_scr {v : V} {ns : List Int} (h : Dt K M H v (.scr ns)) : ∃ a, v = .ref a ∧ SqL K H a (ns.map V.int) := by
  cases h with
  | scr h1 => exact ⟨_, rfl, h1.sq⟩
theorem dt_dL {v : V} {ns : List Int} (h : Dt K M H v (dL ns)) : ∃ a, v = .ref a ∧ H a = some (.lst (ns.map V.int)) := by
  obtain ⟨a, xs, e, h1, h2⟩ := dt_sq h
  rw [dtI_inv h2] at h1
  exact ⟨a, e, h1⟩
theorem dt_int {v : V} {i : Int} (h : Dt K M H v (.int i)) : v = .int i := by cases h; rfl
theorem dt_bl {v : V} {i : Bool} (h : Dt K M H v (.bl i)) : v = .bl i := by cases h; rfl
theorem dt_str {v : V} {i : Str} (h : Dt K M H v (.str i)) : v = .str i := by cases h; rfl
theorem dt_raw {v u : V} (h : Dt K M H v (.raw u)) : v = u := by cases h; rfl
/-- a new list as data -/
theorem dt_fr {a : Addr} {xs : List V} {ds : List Pd} (al : Al M H) (hn : H a = none) (h1 : H' a = some (.lst xs)) (h2 : DtAll K (a :: M) H' xs ds) : Dt K M H' (.ref a) (.lst ds) :=
  .lst (al.nw hn) h1 (h2.less fun _ h => List.mem_cons_of_mem _ h)
/-- a new object -/
theorem dt_new {a : Addr} {xs : List V} {ds : List Pd} (al : Al M H) (hn : H a = none) (h : DtAll K M H xs ds) : Dt K M (upd H a (.lst xs)) (.ref a) (.lst ds) :=
  .lst (al.nw hn) upd_same (DtAll.mono (Evl.Ex.new hn) ds xs h)
end

/-! ### the readings' weakest forms -/
def TW (X : Cx) (e : Expr) : TE := fun σ H Q => ∃ t, PE X e t ∧ t σ H Q
def TTW (X : Cx) (e : Expr) : TT := fun σ H Q => ∃ t, PT X e t ∧ t σ H Q
def TWW (X : Cx) (e : Expr) : TT := fun σ H Q => ∃ t, PW X e t ∧ t σ H Q
def TAW (X : Cx) (es : List Expr) : TA := fun σ H Q => ∃ t, PA X es t ∧ t σ H Q
def TOW (X : Cx) (e : Option Expr) : TO := fun σ H Q => ∃ t, PO X e t ∧ t σ H Q
def TIW (X : Cx) (tg iter : Expr) : TI := fun σ H R => ∃ t, PI X tg iter t ∧ t σ H R
def Blk (X : Cx) (ss : List Stmt) : TS := fun D σ H => ∃ t, PSs X ss t ∧ t D σ H
section
variable {X : Cx} {e tg iter : Expr} {es : List Expr} {ss : List Stmt} {eo : Option Expr}
theorem pe_w : PE X e (TW X e) := ⟨fun pins s σ H Q I h => by
  obtain ⟨t, p, h⟩ := h
  exact p.run pins s σ H Q I h⟩
theorem pt_w : PT X e (TTW X e) := ⟨fun pins s σ H Q I h => by
  obtain ⟨t, p, h⟩ := h
  exact p.run pins s σ H Q I h⟩
theorem pw_w : PW X e (TWW X e) := ⟨fun wh pins s σ H Q I h => by
  obtain ⟨t, p, h⟩ := h
  exact p.run wh pins s σ H Q I h⟩
theorem pa_w : PA X es (TAW X es) := ⟨fun pos pins s σ H Q I h => by
  obtain ⟨t, p, h⟩ := h
  exact p.run pos pins s σ H Q I h⟩
theorem po_w : PO X eo (TOW X eo) := ⟨fun pins s σ H Q I h => by
  obtain ⟨t, p, h⟩ := h
  exact p.run pins s σ H Q I h⟩
theorem pi_w : PI X tg iter (TIW X tg iter) := ⟨fun pins s σ H R I h => by
  obtain ⟨t, p, h⟩ := h
  exact p.run pins s σ H R I h⟩
theorem pss_w : PSs X ss (Blk X ss) := ⟨fun pins s σ H D I h => by
  obtain ⟨t, p, h⟩ := h
  exact p.run pins s σ H D I h⟩
end

/-! ### what the names hold -/
abbrev Dl := List (Option Pd)
structure Kn (K : PySem.W.Frag) (M : List Addr) (H : Hp) (σ : L2.St) (δ : Dl) : Prop where
  len : σ.length = δ.length
  at_ : ∀ (i : Nat) (d : Pd), δ[i]? = some (some d) → ∃ v, σ[i]? = some (some v) ∧ Dt K M H v d
  al : Al M H
def wipeD (δ : Dl) : List Nat → Dl
  | [] => δ
  | v :: vs => (wipeD δ vs).set v none
section
variable {K : PySem.W.Frag} {M M' : List Addr} {H H' : Hp} {σ : L2.St} {δ : Dl}
theorem Kn.mono (k : Kn K M H σ δ) (e : Ex H H') : Kn K M H' σ δ := ⟨k.len, fun i d h => by
  obtain ⟨v, h1, h2⟩ := k.at_ i d h
  exact ⟨v, h1, h2.mono e⟩, k.al.mono e⟩
theorem Kn.less (k : Kn K M H σ δ) (e : ∀ a, a ∈ M' → a ∈ M) : Kn K M' H σ δ := ⟨k.len, fun i d h => by
  obtain ⟨v, h1, h2⟩ := k.at_ i d h
  exact ⟨v, h1, h2.less e⟩, fun a ha => k.al a (e a ha)⟩
/-- what has come since may be set apart -/
theorem Kn.more (k : Kn K M H σ δ) {p : Addr} {o : HO} (hn : H p = none) (e : Ex H H') (hp : H' p = some o) : Kn K (p :: M) H' σ δ := ⟨k.len, fun i d h => by
  obtain ⟨v, h1, h2⟩ := k.at_ i d h
  exact ⟨v, h1, (h2.more hn).mono e⟩, fun a ha => by
  rcases List.mem_cons.mp ha with h | h
  · exact ⟨o, by rw [h]; exact hp⟩
  · exact (k.al.mono e) a h⟩
theorem Kn.more2 (k : Kn K M H σ δ) {p q : Addr} {o u : HO} (hn : H p = none) (hq : H q = none) (e : Ex H H') (hp : H' p = some o) (hq' : H' q = some u) : Kn K (p :: q :: M) H' σ δ := ⟨k.len, fun i d h => by
  obtain ⟨v, h1, h2⟩ := k.at_ i d h
  exact ⟨v, h1, ((h2.more hq).more hn).mono e⟩, fun a ha => by
  rcases List.mem_cons.mp ha with h | h
  · exact ⟨o, by rw [h]; exact hp⟩
  · rcases List.mem_cons.mp h with h | h
    · exact ⟨u, by rw [h]; exact hq'⟩
    · exact (k.al.mono e) a h⟩
theorem Kn.upd (k : Kn K M H σ δ) {l : Addr} {o : HO} (h : l ∈ M) : Kn K M (L2.upd H l o) σ δ := ⟨k.len, fun i d e => by
  obtain ⟨v, h1, h2⟩ := k.at_ i d e
  exact ⟨v, h1, h2.monoM (ExM.upd h)⟩, k.al.upd⟩
theorem Kn.set (k : Kn K M H σ δ) {v : V} {d : Pd} (i : Nat) (h : Dt K M H v d) : Kn K M H (σ.set i (some v)) (δ.set i (some d)) := by
  refine ⟨by rw [List.length_set, List.length_set, k.len], fun j e hj => ?_, k.al⟩
  by_cases hij : i = j
  · subst hij
    rw [List.getElem?_set_self'] at hj
    cases hd : δ[i]? with
    | none =>
      rw [hd] at hj
      simp at hj
    | some o =>
      rw [hd] at hj
      simp at hj
      subst hj
      have hl : i < σ.length := by
        rw [k.len]
        exact (List.getElem?_eq_some_iff.mp hd).1
      exact ⟨v, by rw [List.getElem?_set_self hl], h⟩
  · rw [List.getElem?_set_ne hij] at hj
    obtain ⟨u, h1, h2⟩ := k.at_ j e hj
    exact ⟨u, by rw [List.getElem?_set_ne hij]; exact h1, h2⟩
theorem Kn.weak (k : Kn K M H σ δ) {δ' : Dl} (hl : δ'.length = δ.length) (h : ∀ (i : Nat) (d : Pd), δ'[i]? = some (some d) → δ[i]? = some (some d)) : Kn K M H σ δ' :=
  ⟨k.len.trans hl.symm, fun i d e => k.at_ i d (h i d e), k.al⟩
theorem Kn.lose (k : Kn K M H σ δ) (i : Nat) : Kn K M H σ (δ.set i none) := by
  refine k.weak List.length_set fun j d h => ?_
  by_cases hij : i = j
  · subst hij
    rw [List.getElem?_set_self'] at h
    cases hd : δ[i]? with
    | none =>
      rw [hd] at h
      simp at h
    | some o =>
      rw [hd] at h
      simp at h
  · rw [List.getElem?_set_ne hij] at h
    exact h
theorem Kn.setNone (k : Kn K M H σ δ) (i : Nat) : Kn K M H (σ.set i none) (δ.set i none) := by
  refine ⟨by rw [List.length_set, List.length_set, k.len], fun j e hj => ?_, k.al⟩
  by_cases hij : i = j
  · subst hij
    rw [List.getElem?_set_self'] at hj
    cases hd : δ[i]? with
    | none =>
      rw [hd] at hj
      simp at hj
    | some o =>
      rw [hd] at hj
      simp at hj
  · rw [List.getElem?_set_ne hij] at hj
    obtain ⟨u, h1, h2⟩ := k.at_ j e hj
    exact ⟨u, by rw [List.getElem?_set_ne hij]; exact h1, h2⟩
theorem Kn.wipe (k : Kn K M H σ δ) : ∀ vs : List Nat, Kn K M H (L2.wipe σ vs) (wipeD δ vs)
  | [] => k
  | v :: vs => (Kn.wipe k vs).setNone v
/-- another data of the same value -/
theorem Kn.turn (k : Kn K M H σ δ) {i : Nat} {d e : Pd} (hd : δ[i]? = some (some d)) (h : ∀ v, Dt K M H v d → Dt K M H v e) : Kn K M H σ (δ.set i (some e)) := by
  obtain ⟨v, h1, h2⟩ := k.at_ i d hd
  have g := k.set i (h v h2)
  have es : σ.set i (some v) = σ := by
    refine List.ext_getElem? fun j => ?_
    by_cases hij : i = j
    · subst hij
      rw [List.getElem?_set_self (List.getElem?_eq_some_iff.mp h1).1, h1]
    · rw [List.getElem?_set_ne hij]
  rw [es] at g
  exact g
theorem wipe_set : ∀ {vs : List Nat} {j : Nat} (τ : L2.St) (x : Option V), j ∈ vs → L2.wipe (τ.set j x) vs = L2.wipe τ vs
  | [], _, _, _, h => by simp at h
  | v :: vs, j, τ, x, h => by
    show (L2.wipe (τ.set j x) vs).set v none = (L2.wipe τ vs).set v none
    by_cases hj : j ∈ vs
    · rw [wipe_set τ x hj]
    · have e : j = v := by
        rcases List.mem_cons.mp h with h | h
        · exact h
        · exact absurd h hj
      subst e
      have gen : ∀ (ws : List Nat), j ∉ ws → L2.wipe (τ.set j x) ws = (L2.wipe τ ws).set j x := by
        intro ws
        induction ws with
        | nil => intro _; rfl
        | cons w ws ih =>
          intro hw
          have h1 : j ≠ w := fun e => hw (by rw [e]; exact List.mem_cons_self ..)
          have h2 : j ∉ ws := fun e => hw (List.mem_cons_of_mem _ e)
          show (L2.wipe (τ.set j x) ws).set w none = ((L2.wipe τ ws).set w none).set j x
          rw [ih h2, List.set_comm _ _ h1]
      rw [gen vs hj, List.set_set]
theorem wipe_idem : ∀ (vs : List Nat) (τ : L2.St), L2.wipe (L2.wipe τ vs) vs = L2.wipe τ vs
  | [], _ => rfl
  | v :: vs, τ => by
    show (L2.wipe ((L2.wipe τ vs).set v none) vs).set v none = (L2.wipe τ vs).set v none
    by_cases hj : v ∈ vs
    · rw [wipe_set _ _ hj, wipe_idem vs τ]
    · have h := wipe_set (vs := v :: vs) (j := v) (L2.wipe τ vs) none (List.mem_cons_self ..)
      have h2 : (L2.wipe ((L2.wipe τ vs).set v none) vs).set v none = (L2.wipe (L2.wipe τ vs) vs).set v none := h
      rw [h2, wipe_idem vs τ]
end
/-- from Hb on, and what the names hold -/
structure EO (K : PySem.W.Frag) (M : List Addr) (Hb H : Hp) (σ : L2.St) (δ : Dl) : Prop where
  ex : Ex Hb H
  kn : Kn K M H σ δ
section
variable {K : PySem.W.Frag} {M M' : List Addr} {Ha Hb H H' : Hp} {σ : L2.St} {δ : Dl}
theorem EO.mono (k : EO K M Hb H σ δ) (e : Ex H H') : EO K M Hb H' σ δ := ⟨k.ex.trans e, k.kn.mono e⟩
theorem EO.set (k : EO K M Hb H σ δ) {v : V} {d : Pd} (i : Nat) (h : Dt K M H v d) : EO K M Hb H (σ.set i (some v)) (δ.set i (some d)) := ⟨k.ex, k.kn.set i h⟩
theorem EO.base (k : EO K M Hb H σ δ) (e : Ex Ha Hb) : EO K M Ha H σ δ := ⟨e.trans k.ex, k.kn⟩
theorem EO.here (k : EO K M Hb H σ δ) : EO K M H H σ δ := ⟨Evl.Ex.refl H, k.kn⟩
theorem EO.lose (k : EO K M Hb H σ δ) (i : Nat) : EO K M Hb H σ (δ.set i none) := ⟨k.ex, k.kn.lose i⟩
end

/-! ### expressions by data -/
def EE (X : Cx) (e : Expr) (δ : Dl) (d : Pd) : Prop := ∀ M σ H, Kn X.K M H σ δ → ∀ Q : VK, (∀ v H', Ex H H' → Dt X.K M H' v d → Q v H') → TW X e σ H Q
/-- a new list -/
def EF (X : Cx) (e : Expr) (δ : Dl) (ds : List Pd) : Prop := ∀ M σ H, Kn X.K M H σ δ → ∀ Q : VK, (∀ a xs H', H a = none → Ex H H' → H' a = some (.lst xs) → DtAll X.K (a :: M) H' xs ds → Q (.ref a) H') → TW X e σ H Q
def ET (X : Cx) (e : Expr) (δ : Dl) (b : Bool) : Prop := ∀ M σ H, Kn X.K M H σ δ → ∀ Q : Bool → Hp → Prop, (∀ H', Ex H H' → Q b H') → TTW X e σ H Q
def EW (X : Cx) (e : Expr) (δ : Dl) (b : Bool) : Prop := ∀ M σ H, Kn X.K M H σ δ → ∀ Q : Bool → Hp → Prop, (∀ H', Ex H H' → Q b H') → TWW X e σ H Q
def EA (X : Cx) (es : List Expr) (δ : Dl) (ds : List Pd) : Prop := ∀ M σ H, Kn X.K M H σ δ → ∀ Q : List V → Hp → Prop, (∀ vs H', Ex H H' → DtAll X.K M H' vs ds → Q vs H') → TAW X es σ H Q
def EP (X : Cx) (eo : Option Expr) (δ : Dl) (o : Option Int) : Prop := ∀ M σ H, Kn X.K M H σ δ → ∀ Q : Option Int → Hp → Prop, (∀ H', Ex H H' → Q o H') → TOW X eo σ H Q
/-- an operation on data -/
def RD (K : PySem.W.Frag) (r : R2) (d e z : Pd) : Prop := ∀ M x y H, Al M H → Dt K M H x d → Dt K M H y e → ∀ Q : VK, (∀ v H', Ex H H' → Dt K M H' v z → Q v H') → r x y H Q
def RDF (K : PySem.W.Frag) (r : R2) (d e : Pd) (zs : List Pd) : Prop := ∀ M x y H, Al M H → Dt K M H x d → Dt K M H y e → ∀ Q : VK, (∀ a xs H', H a = none → Ex H H' → H' a = some (.lst xs) → DtAll K (a :: M) H' xs zs → Q (.ref a) H') → r x y H Q
def RC (K : PySem.W.Frag) (r : List V → Hp → VK → Prop) (ds : List Pd) (z : Pd) : Prop := ∀ M vs H, Al M H → DtAll K M H vs ds → ∀ Q : VK, (∀ v H', Ex H H' → Dt K M H' v z → Q v H') → r vs H Q
def RCF (K : PySem.W.Frag) (r : List V → Hp → VK → Prop) (ds : List Pd) (zs : List Pd) : Prop := ∀ M vs H, Al M H → DtAll K M H vs ds → ∀ Q : VK, (∀ a xs H', H a = none → Ex H H' → H' a = some (.lst xs) → DtAll K (a :: M) H' xs zs → Q (.ref a) H') → r vs H Q

section
variable {X : Cx} {δ : Dl} {a b c e : Expr} {es : List Expr} {pos : Pos} {d z d1 d2 : Pd} {ds : List Pd} {Hb H : Hp} {σ : L2.St}
theorem EE.is (h : EE X e δ d) (q : d = z) : EE X e δ z := q ▸ h
theorem ET.is {p q : Bool} (h : ET X e δ p) (w : p = q) : ET X e δ q := w ▸ h
theorem EF.is {zs : List Pd} (h : EF X e δ ds) (q : ds = zs) : EF X e δ zs := q ▸ h
theorem EF.ee (h : EF X e δ ds) : EE X e δ (.lst ds) := fun M σ H k Q q => h M σ H k Q fun a xs H' n1 e1 h1 h2 => q _ H' e1 (dt_fr k.al n1 h1 h2)
theorem EE.scr {ns : List Int} (h : EE X e δ (dL ns)) : EE X e δ (.scr ns) := fun M σ H k Q q => h M σ H k Q fun v H' e1 h1 => by
  cases h1 with
  | lst h0 h1 h2 => exact q _ H' e1 (.scr (.inl ⟨h0, .inl (by rw [dtI_inv h2] at h1; exact h1)⟩))
theorem ee_var (i : Nat) {x : Str} (hd : δ[i]? = some (some d) := by rfl) (hN : X.N[i]? = some x := by rfl) (hv : Vis X.env.scope x := by first | exact Or.inl rfl | exact Or.inr (Or.inl rfl) | exact Or.inr (Or.inr rfl))
    (h1 : (x == ("__debug__" : Str)) = false := by decide) (h2 : (x == ("__classdict__" : Str)) = false := by decide) : EE X (.Name x pos) δ d := fun M σ H k Q q => by
  obtain ⟨v, e1, e2⟩ := k.at_ i d hd
  exact ⟨_, pe_var hN hv h1 h2, v, e1, q v H (Evl.Ex.refl H) e2⟩
theorem ee_int {i : Int} {j : Nat} : EE X (.Constant (.int i) j pos) δ (.int i) := fun M σ H _ Q q => ⟨_, pe_int, q _ H (Evl.Ex.refl H) (.int i)⟩
theorem ee_bl {i : Bool} {j : Nat} : EE X (.Constant (.bool i) j pos) δ (.bl i) := fun M σ H _ Q q => ⟨_, pe_bl, q _ H (Evl.Ex.refl H) (.bl i)⟩
theorem ee_non {j : Nat} : EE X (.Constant .none j pos) δ .non := fun M σ H _ Q q => ⟨_, pe_non, q _ H (Evl.Ex.refl H) .non⟩
theorem ee_str {x : Str} {j : Nat} : EE X (.Constant (.str x) j pos) δ (.str x) := fun M σ H _ Q q => ⟨_, pe_str, q _ H (Evl.Ex.refl H) (.str x)⟩
theorem ee_bin {op : Operator} {r : R2} (ho : OpR X (binaryOp op) r) (hr : RD X.K r d1 d2 z) (ha : EE X a δ d1) (hb : EE X b δ d2) : EE X (.BinOp a op b pos) δ z := fun M σ H k Q q =>
  ⟨_, pe_op ho pe_w pe_w, ha M σ H k _ fun x H1 e1 h1 => hb M σ H1 (k.mono e1) _ fun y H2 e2 h2 => hr M x y H2 (k.al.mono (e1.trans e2)) (h1.mono e2) h2 Q fun v H3 e3 h3 => q v H3 ((e1.trans e2).trans e3) h3⟩
theorem ef_bin {op : Operator} {r : R2} {zs : List Pd} (ho : OpR X (binaryOp op) r) (hr : RDF X.K r d1 d2 zs) (ha : EE X a δ d1) (hb : EE X b δ d2) : EF X (.BinOp a op b pos) δ zs := fun M σ H k Q q =>
  ⟨_, pe_op ho pe_w pe_w, ha M σ H k _ fun x H1 e1 h1 => hb M σ H1 (k.mono e1) _ fun y H2 e2 h2 => hr M x y H2 (k.al.mono (e1.trans e2)) (h1.mono e2) h2 Q fun v xs H3 n3 e3 h3 h4 => q v xs H3 (Evl.fresh_back (e1.trans e2) n3) ((e1.trans e2).trans e3) h3 h4⟩
theorem ee_cmp {op : CmpOp} {r : R2} (ho : OpR X (compareOp op) r) (hr : RD X.K r d1 d2 z) (ha : EE X a δ d1) (hb : EE X b δ d2) (hm : behindInMarks op b = false) : EE X (.Compare a [op] [b] pos) δ z := fun M σ H k Q q =>
  ⟨_, pe_cmpR ho pe_w pe_w hm, ha M σ H k _ fun x H1 e1 h1 => hb M σ H1 (k.mono e1) _ fun y H2 e2 h2 => hr M x y H2 (k.al.mono (e1.trans e2)) (h1.mono e2) h2 Q fun v H3 e3 h3 => q v H3 ((e1.trans e2).trans e3) h3⟩
theorem et_cmp {op : CmpOp} {r : R2} {k : Bool} (ho : OpR X (compareOp op) r) (hr : RD X.K r d1 d2 (.bl k)) (ha : EE X a δ d1) (hb : EE X b δ d2) (hm : behindInMarks op b = false) : ET X (.Compare a [op] [b] pos) δ k := fun M σ H k0 Q q =>
  ⟨_, pt_cmpR ho pe_w pe_w hm, ha M σ H k0 _ fun x H1 e1 h1 => hb M σ H1 (k0.mono e1) _ fun y H2 e2 h2 => hr M x y H2 (k0.al.mono (e1.trans e2)) (h1.mono e2) h2 _ fun v H3 e3 h3 => ⟨k, dt_bl h3, q H3 ((e1.trans e2).trans e3)⟩⟩
theorem ee_chain {op op' : CmpOp} {r r' : R2} {k k' : Bool} (ho : OpR X (compareOp op) r) (ho' : OpR X (compareOp op') r') (hr : RD X.K r d1 d2 (.bl k)) (hr' : k = true → RD X.K r' d2 d (.bl k')) (ha : EE X a δ d1) (hb : EE X b δ d2) (hc : EE X c δ d)
    (hm : lastMarks [op, op'] [b, c] = false := by with_unfolding_all rfl) : ET X (.Compare a [op, op'] [b, c] pos) δ (k && k') := fun M σ H kn Q q =>
  ⟨_, pt_chain ho ho' pe_w pe_w pe_w hm, ha M σ H kn _ fun x H1 e1 h1 => hb M σ H1 (kn.mono e1) _ fun y H2 e2 h2 => hr M x y H2 (kn.al.mono (e1.trans e2)) (h1.mono e2) h2 _ fun v H3 e3 h3 => ⟨k, dt_bl h3, by
    cases k with
    | true =>
      refine iteT ?_
      refine hc M σ H3 (kn.mono ((e1.trans e2).trans e3)) _ fun u H4 e4 h4 => ?_
      exact hr' rfl M y u H4 (kn.al.mono (((e1.trans e2).trans e3).trans e4)) (h2.mono (e3.trans e4)) h4 _ fun w H5 e5 h5 => ⟨k', dt_bl h5, q H5 (((e1.trans e2).trans e3).trans (e4.trans e5))⟩
    | false =>
      refine iteF ?_
      exact ⟨false, rfl, q H3 ((e1.trans e2).trans e3)⟩⟩⟩
theorem et_val {k : Bool} (h : EE X e δ (.bl k)) (he : ∀ whole, isTrue e X.env whole = (do let v ← whole; standAt e.pos; holding [v] (truthy v)) := by intro _; rfl) : ET X e δ k := fun M σ H kn Q q =>
  ⟨_, pt_val pe_w he, h M σ H kn _ fun v H1 e1 h1 => ⟨k, dt_bl h1, q H1 e1⟩⟩
theorem et_w {k : Bool} (h : EW X e δ k) : ET X e δ k := fun M σ H kn Q q => ⟨_, pw_w.pt, h M σ H kn Q q⟩
theorem ew_and1 {k : Bool} (h : ET X a δ k) : EW X (.BoolOp .And [a] pos) δ k := fun M σ H kn Q q => ⟨_, pw_and1 pt_w, h M σ H kn Q q⟩
theorem ew_or1 {k : Bool} (h : ET X a δ k) : EW X (.BoolOp .Or [a] pos) δ k := fun M σ H kn Q q => ⟨_, pw_or1 pt_w, h M σ H kn Q q⟩
theorem ew_and {k l : Bool} (h : ET X a δ k) (h2 : k = true → EW X (.BoolOp .And (b :: es) pos) δ l) : EW X (.BoolOp .And (a :: b :: es) pos) δ (k && l) := fun M σ H kn Q q =>
  ⟨_, pw_and pt_w pw_w, h M σ H kn _ fun H1 e1 => by
    cases k with
    | true => exact iteT (h2 rfl M σ H1 (kn.mono e1) Q fun H2 e2 => q H2 (e1.trans e2))
    | false => exact iteF (q H1 e1)⟩
theorem ew_or {k l : Bool} (h : ET X a δ k) (h2 : k = false → EW X (.BoolOp .Or (b :: es) pos) δ l) : EW X (.BoolOp .Or (a :: b :: es) pos) δ (k || l) := fun M σ H kn Q q =>
  ⟨_, pw_or pt_w pw_w, h M σ H kn _ fun H1 e1 => by
    cases k with
    | true => exact iteT (q H1 e1)
    | false => exact iteF (h2 rfl M σ H1 (kn.mono e1) Q fun H2 e2 => q H2 (e1.trans e2))⟩
theorem et_not {k : Bool} (h : ET X a δ k) : ET X (.UnaryOp .Not a pos) δ (!k) := fun M σ H kn Q q => ⟨_, pt_not pt_w, h M σ H kn _ fun H1 e1 => q H1 e1⟩
theorem ee_one {op : BoolOp} (h : EE X a δ d) : EE X (.BoolOp op [a] pos) δ d := fun M σ H kn Q q => ⟨_, pe_one pe_w, h M σ H kn Q q⟩
theorem ee_and {k : Bool} {l : Bool} (h : EE X a δ (.bl k)) (h2 : k = true → EE X (.BoolOp .And (b :: es) pos) δ (.bl l)) : EE X (.BoolOp .And (a :: b :: es) pos) δ (.bl (k && l)) := fun M σ H kn Q q =>
  ⟨_, pe_and pe_w pe_w, h M σ H kn _ fun v H1 e1 h1 => ⟨k, dt_bl h1, by
    cases k with
    | true => exact iteT (h2 rfl M σ H1 (kn.mono e1) Q fun w H2 e2 g => q w H2 (e1.trans e2) g)
    | false => exact iteF (q _ H1 e1 (.bl _))⟩⟩
theorem ee_or {k : Bool} {l : Bool} (h : EE X a δ (.bl k)) (h2 : k = false → EE X (.BoolOp .Or (b :: es) pos) δ (.bl l)) : EE X (.BoolOp .Or (a :: b :: es) pos) δ (.bl (k || l)) := fun M σ H kn Q q =>
  ⟨_, pe_or pe_w pe_w, h M σ H kn _ fun v H1 e1 h1 => ⟨k, dt_bl h1, by
    cases k with
    | true => exact iteT (q _ H1 e1 (.bl _))
    | false => exact iteF (h2 rfl M σ H1 (kn.mono e1) Q fun w H2 e2 g => q w H2 (e1.trans e2) g)⟩⟩
theorem ee_not {k : Bool} (h : EE X a δ (.bl k)) : EE X (.UnaryOp .Not a pos) δ (.bl (!k)) := fun M σ H kn Q q => ⟨_, pe_not pe_w, h M σ H kn _ fun v H1 e1 h1 => ⟨k, dt_bl h1, q _ H1 e1 (.bl _)⟩⟩
theorem ee_neg {i : Int} (h : EE X a δ (.int i)) : EE X (.UnaryOp .USub a pos) δ (.int (-i)) := fun M σ H kn Q q => ⟨_, pe_un un_neg pe_w, h M σ H kn _ fun v H1 e1 h1 => ⟨i, dt_int h1, q _ H1 e1 (.int _)⟩⟩
theorem ee_if {k : Bool} (h : ET X c δ k) (h1 : k = true → EE X a δ d) (h2 : k = false → EE X b δ d) : EE X (.IfExp c a b pos) δ d := fun M σ H kn Q q => ⟨_, pe_ifExp pt_w pe_w pe_w, h M σ H kn _ fun H1 e1 => by
  cases k with
  | true => exact iteT (h1 rfl M σ H1 (kn.mono e1) Q fun v H2 e2 g => q v H2 (e1.trans e2) g)
  | false => exact iteF (h2 rfl M σ H1 (kn.mono e1) Q fun v H2 e2 g => q v H2 (e1.trans e2) g)⟩
theorem ea_nil : EA X [] δ [] := fun M σ H kn Q q => ⟨_, pa_nil, q [] H (Evl.Ex.refl H) .nil⟩
theorem ea_cons (h : EE X e δ d) (hr : EA X es δ ds) (hs : starEach (e :: es) X.env = (false, eval e X.env) :: starEach es X.env := by rfl) : EA X (e :: es) δ (d :: ds) := fun M σ H kn Q q =>
  ⟨_, pa_cons pe_w pa_w hs, h M σ H kn _ fun v H1 e1 h1 => hr M σ H1 (kn.mono e1) _ fun vs H2 e2 h2 => q (v :: vs) H2 (e1.trans e2) (.cons (h1.mono e2) h2)⟩
theorem ee_tup {x1 : Nat} (h : EA X es δ ds) (hz : ds.length ≤ 100000 := by first | decide | (simp only [List.length_map, List.length_cons, List.length_nil]; omega)) : EE X (.Tuple es x1 pos) δ (.tup ds) := fun M σ H kn Q q =>
  ⟨_, pe_tup pa_w, h M σ H kn _ fun vs H1 e1 h1 => ⟨Evl.sz_of (by rw [h1.length]; exact hz), fun p hp => q _ _ (e1.trans (Evl.Ex.new hp)) (.tup ((kn.al.mono e1).nw hp) upd_same (DtAll.mono (Evl.Ex.new hp) _ _ h1))⟩⟩
theorem ef_lst (h : EA X es δ ds) (hz : ds.length ≤ 100000 := by first | decide | (simp only [List.length_map, List.length_cons, List.length_nil]; omega)) : EF X (.List es pos) δ ds := fun M σ H kn Q q =>
  ⟨_, pe_lst pa_w, h M σ H kn _ fun vs H1 e1 h1 => ⟨Evl.sz_of (by rw [h1.length]; exact hz), fun p hp => q p vs _ (Evl.fresh_back e1 hp) (e1.trans (Evl.Ex.new hp)) upd_same (DtAll.mono (Evl.Ex.new hp) _ _ (DtAll.more hp _ _ h1))⟩⟩
theorem ee_callB {x : Str} {id : String} {r : List V → Hp → VK → Prop} {p : Pos} (hc : CallR X (.builtin id) r) (hr : RC X.K r (d :: ds) z) (ha : EA X (e :: es) δ (d :: ds)) (hm : X.mg x = none) (hg : Gl X x := by rfl) (hv : bootBuiltins x = some (.builtin id) := by decide +kernel)
    (hn : x ≠ "__name__" := by decide) (hdb : (x == ("__debug__" : Str)) = false := by decide)
    (he : starEach (e :: es) X.env = (false, eval e X.env) :: starEach es X.env := by rfl) (hpl : (backTo pos (starEach es X.env)).any (·.1) = false := by rfl) : EE X (.Call (.Name x p) (e :: es) [] pos) δ z := fun M σ H kn Q q =>
  ⟨_, pe_callB hc hg hm hv pa_w hn hdb he hpl, ha M σ H kn _ fun vs H1 e1 h1 => hr M vs H1 (kn.al.mono e1) h1 Q fun v H2 e2 h2 => q v H2 (e1.trans e2) h2⟩
theorem ee_callT {x : Str} {id : String} {r : List V → Hp → VK → Prop} {p : Pos} (hc : CallR X (.type id) r) (hr : RC X.K r (d :: ds) z) (ha : EA X (e :: es) δ (d :: ds)) (hm : X.mg x = none) (hg : Gl X x := by rfl) (hv : bootBuiltins x = some (.type id) := by decide +kernel)
    (hn : x ≠ "__name__" := by decide) (hdb : (x == ("__debug__" : Str)) = false := by decide)
    (he : starEach (e :: es) X.env = (false, eval e X.env) :: starEach es X.env := by rfl) (hpl : (backTo pos (starEach es X.env)).any (·.1) = false := by rfl) : EE X (.Call (.Name x p) (e :: es) [] pos) δ z := fun M σ H kn Q q =>
  ⟨_, pe_callTy hc hg hm hv pa_w hn hdb he hpl, ha M σ H kn _ fun vs H1 e1 h1 => hr M vs H1 (kn.al.mono e1) h1 Q fun v H2 e2 h2 => q v H2 (e1.trans e2) h2⟩
theorem ef_callT {x : Str} {id : String} {r : List V → Hp → VK → Prop} {p : Pos} {zs : List Pd} (hc : CallR X (.type id) r) (hr : RCF X.K r (d :: ds) zs) (ha : EA X (e :: es) δ (d :: ds)) (hm : X.mg x = none) (hg : Gl X x := by rfl) (hv : bootBuiltins x = some (.type id) := by decide +kernel)
    (hn : x ≠ "__name__" := by decide) (hdb : (x == ("__debug__" : Str)) = false := by decide)
    (he : starEach (e :: es) X.env = (false, eval e X.env) :: starEach es X.env := by rfl) (hpl : (backTo pos (starEach es X.env)).any (·.1) = false := by rfl) : EF X (.Call (.Name x p) (e :: es) [] pos) δ zs := fun M σ H kn Q q =>
  ⟨_, pe_callTy hc hg hm hv pa_w hn hdb he hpl, ha M σ H kn _ fun vs H1 e1 h1 => hr M vs H1 (kn.al.mono e1) h1 Q fun a xs H2 n2 e2 h2 h3 => q a xs H2 (Evl.fresh_back e1 n2) (e1.trans e2) h2 h3⟩
theorem ep_none : EP X none δ none := fun M σ H kn Q q => ⟨_, po_none, q H (Evl.Ex.refl H)⟩
theorem ep_some {i : Int} (h : EE X e δ (.int i)) : EP X (some e) δ (some i) := fun M σ H kn Q q => ⟨_, po_some pe_w, h M σ H kn _ fun v H1 e1 h1 => ⟨i, dt_int h1, q H1 e1⟩⟩
end
end Lr

/-! operations by data -/
namespace Lr
open PySem L2
open Evl (Ex)

/-! ### data as the library's -/
mutual
def py : Pd → PyData
  | .non => .none
  | .bl b => .bool b
  | .int i => .int i
  | .str x => .str x
  | .lst ds => .list (pyAll ds)
  | .tup ds => .tuple (pyAll ds)
  | .scr ns => .list (ns.map PyData.int)
  | .raw _ => .none
  | .obj _ _ _ => .none
  | .dic _ => .none
  | .lam _ _ _ _ => .none
def pyAll : List Pd → List PyData
  | [] => []
  | d :: ds => py d :: pyAll ds
end
mutual
def okP : Pd → Bool
  | .raw _ => false
  | .obj _ _ _ => false
  | .dic _ => false
  | .lam _ _ _ _ => false
  | .str _ => false
  | .lst ds => okAll ds
  | .tup ds => okAll ds
  | _ => true
def okAll : List Pd → Bool
  | [] => true
  | d :: ds => okP d && okAll ds
end
section
variable {K : PySem.W.Frag} {M : List Addr} {H : Hp}
theorem dpI : ∀ ns : List Int, DpAll K H (ns.map V.int) (ns.map PyData.int)
  | [] => .nil
  | n :: ns => .cons (.int n) (dpI ns)
mutual
theorem dt_dp : ∀ (d : Pd) (v : V), okP d = true → Dt K M H v d → Dp K H v (py d)
  | .non, _, _, h => by cases h; exact .non
  | .bl _, _, _, h => by cases h; exact .bl _
  | .int _, _, _, h => by cases h; exact .int _
  | .str _, _, o, _ => by cases o
  | .lst ds, _, o, h => by
    cases h with
    | lst h0 h1 h2 => exact .lst (.of h1) (dt_dpAll ds _ o h2)
  | .tup ds, _, o, h => by
    cases h with
    | tup h0 h1 h2 => exact .tup (.of h1) (dt_dpAll ds _ o h2)
  | .scr ns, _, _, h => by
    cases h with
    | scr h1 => exact .lst h1.sq (dpI ns)
  | .raw v, _, o, _ => by cases o
  | .obj _ _ _, _, o, _ => by cases o
  | .dic _, _, o, _ => by cases o
  | .lam _ _ _ _, _, o, _ => by cases o
theorem dt_dpAll : ∀ (ds : List Pd) (vs : List V), okAll ds = true → DtAll K M H vs ds → DpAll K H vs (pyAll ds)
  | [], _, _, h => by cases h; exact .nil
  | d :: ds, _, o, h => by
    have o2 : (okP d && okAll ds) = true := o
    rw [Bool.and_eq_true] at o2
    cases h with
    | cons h1 h2 => exact .cons (dt_dp d _ o2.1 h1) (dt_dpAll ds _ o2.2 h2)
end
end
mutual
theorem canLay_py : ∀ d : Pd, okP d = true → PyData.canLay0 (py d) = true
  | .non, _ => rfl
  | .bl _, _ => rfl
  | .int _, _ => rfl
  | .str _, o => by cases o
  | .lst ds, o => by
    show PyData.canLay0 (.list (pyAll ds)) = true
    rw [PyData.canLay0]
    exact canLay_pyAll ds o
  | .tup ds, o => by
    show PyData.canLay0 (.tuple (pyAll ds)) = true
    rw [PyData.canLay0]
    exact canLay_pyAll ds o
  | .scr ns, _ => by
    show PyData.canLay0 (.list (ns.map PyData.int)) = true
    rw [PyData.canLay0]
    induction ns with
    | nil => rfl
    | cons n ns ih =>
      rw [List.map_cons, PyData.canLayAll0, ih rfl]
      rfl
  | .raw _, o => by cases o
  | .obj _ _ _, o => by cases o
  | .dic _, o => by cases o
  | .lam _ _ _ _, o => by cases o
theorem canLay_pyAll : ∀ ds : List Pd, okAll ds = true → PyData.canLayAll0 (pyAll ds) = true
  | [], _ => rfl
  | d :: ds, o => by
    have o2 : (okP d && okAll ds) = true := o
    rw [Bool.and_eq_true] at o2
    show PyData.canLayAll0 (py d :: pyAll ds) = true
    rw [PyData.canLayAll0, canLay_py d o2.1, canLay_pyAll ds o2.2]
    rfl
end
theorem pyInts : ∀ ns : List Int, pyAll (ns.map Pd.int) = ns.map PyData.int
  | [] => rfl
  | n :: ns => by
    show py (.int n) :: pyAll (ns.map Pd.int) = _
    rw [pyInts ns]
    rfl
theorem okInts : ∀ ns : List Int, okAll (ns.map Pd.int) = true
  | [] => rfl
  | n :: ns => by
    show (okP (.int n) && okAll (ns.map Pd.int)) = true
    rw [okInts ns]
    rfl
theorem depInts : ∀ ns : List Int, PyData.depthAll (ns.map PyData.int) = 0
  | [] => rfl
  | n :: ns => by
    rw [List.map_cons, PyData.depthAll, depInts ns]
    rfl
theorem eqvInts : ∀ ns ms : List Int, PyData.eqvAll (ns.map PyData.int) (ms.map PyData.int) = decide (ns = ms)
  | [], [] => rfl
  | [], m :: ms => rfl
  | n :: ns, [] => rfl
  | n :: ns, m :: ms => by
    rw [List.map_cons, List.map_cons, PyData.eqvAll, eqvInts ns ms, PyData.eqv]
    by_cases h : n = m
    · subst h
      simp
    · simp [h]
/-- an encoding that == decides -/
structure EqE {α : Type} [DecidableEq α] (f : α → Pd) (n : Nat) : Prop where
  ok : ∀ a, okP (f a) = true
  dep : ∀ a, (py (f a)).depth ≤ n
  eq : ∀ a b, PyData.eqv (py (f a)) (py (f b)) = decide (a = b)
theorem eqI : EqE Pd.int 0 := ⟨fun _ => rfl, fun _ => Nat.le_refl _, fun a b => by
  show PyData.eqv (.int a) (.int b) = _
  rw [PyData.eqv]
  by_cases h : a = b
  · subst h; simp
  · simp [h]⟩
theorem eqL : EqE dL 1 := ⟨fun a => okInts a, fun a => by
  show PyData.depth (.list (pyAll (a.map Pd.int))) ≤ 1
  rw [pyInts, PyData.depth, depInts]
  exact Nat.le_refl _, fun a b => by
  show PyData.eqv (.list (pyAll (a.map Pd.int))) (.list (pyAll (b.map Pd.int))) = _
  rw [pyInts, pyInts, PyData.eqv, eqvInts]⟩
theorem eqPair {α β : Type} [DecidableEq α] [DecidableEq β] {f : α → Pd} {g : β → Pd} {n m : Nat} (E : EqE f n) (F : EqE g m) : EqE (fun p : α × β => .tup [f p.1, g p.2]) (max n m + 1) := ⟨fun p => by
  show (okP (f p.1) && (okP (g p.2) && true)) = true
  rw [E.ok, F.ok]
  rfl, fun p => by
  show PyData.depth (.tuple [py (f p.1), py (g p.2)]) ≤ _
  have h1 := E.dep p.1
  have h2 := F.dep p.2
  simp only [PyData.depth, PyData.depthAll]
  omega, fun p q => by
  show PyData.eqv (.tuple [py (f p.1), py (g p.2)]) (.tuple [py (f q.1), py (g q.2)]) = _
  simp only [PyData.eqv, PyData.eqvAll, E.eq, F.eq]
  obtain ⟨a, b⟩ := p
  obtain ⟨c, d⟩ := q
  by_cases h1 : a = c <;> by_cases h2 : b = d <;> simp [h1, h2]⟩
theorem eqR : EqE dR 2 := eqPair eqL eqL
theorem eqListAll {α : Type} [DecidableEq α] {f : α → Pd} {n : Nat} (E : EqE f n) : ∀ as bs : List α, PyData.eqvAll (pyAll (as.map f)) (pyAll (bs.map f)) = decide (as = bs)
  | [], [] => rfl
  | [], m :: ms => rfl
  | n :: ns, [] => rfl
  | n :: ns, m :: ms => by
    show PyData.eqvAll (py (f n) :: pyAll (ns.map f)) (py (f m) :: pyAll (ms.map f)) = _
    rw [PyData.eqvAll, eqListAll E ns ms, E.eq]
    by_cases h : n = m <;> by_cases h2 : ns = ms <;> simp [h, h2]
theorem eqList {α : Type} [DecidableEq α] {f : α → Pd} {n : Nat} (E : EqE f n) : EqE (fun as : List α => .lst (as.map f)) (n + 1) := ⟨fun as => by
  show okAll (as.map f) = true
  induction as with
  | nil => rfl
  | cons a as ih =>
    show (okP (f a) && okAll (as.map f)) = true
    rw [E.ok, ih]
    rfl, fun as => by
  show PyData.depth (.list (pyAll (as.map f))) ≤ _
  rw [PyData.depth]
  refine Nat.succ_le_succ ?_
  induction as with
  | nil => exact Nat.zero_le _
  | cons a as ih =>
    show PyData.depthAll (py (f a) :: pyAll (as.map f)) ≤ n
    rw [PyData.depthAll]
    exact Nat.max_le.mpr ⟨E.dep a, ih⟩, fun as bs => by
  show PyData.eqv (.list (pyAll (as.map f))) (.list (pyAll (bs.map f))) = _
  rw [PyData.eqv, eqListAll E]⟩
theorem eqB : EqE Pd.bl 0 := ⟨fun _ => rfl, fun _ => Nat.le_refl _, fun a b => by
  show PyData.eqv (.bool a) (.bool b) = _
  rw [PyData.eqv]
  cases a <;> cases b <;> rfl⟩
theorem shaped_py {d : Pd} (o : okP d = true) (h : (py d).depth ≤ 64) : SeqAt.shaped (py d) = true := by
  unfold SeqAt.shaped
  rw [canLay_py d o, decide_eq_true h]
  rfl

/-! ### slices -/
def cutP {α : Type} (xs : List α) (lo hi : Option Int) : List α := (xs.drop (HT.sIx xs.length 0 lo)).take (HT.sIx xs.length xs.length hi - HT.sIx xs.length 0 lo)
theorem cutP_map {α β : Type} (f : α → β) (xs : List α) (lo hi : Option Int) : cutP (xs.map f) lo hi = (cutP xs lo hi).map f := by
  unfold cutP
  rw [List.length_map, List.map_take, List.map_drop]
theorem cutV_eq (xs : List V) (lo hi : Option Int) : cutV xs lo hi = cutP xs lo hi := rfl
theorem cut_to {α : Type} (xs : List α) (k : Nat) : cutP xs none (some (k : Int)) = xs.take k := by
  unfold cutP
  rw [HT.sIx_none, HT.sIx_nat, List.drop_zero, Nat.sub_zero]
  rcases Nat.le_total k xs.length with h | h
  · rw [Nat.min_eq_left h]
  · rw [Nat.min_eq_right h, List.take_of_length_le (Nat.le_refl _), List.take_of_length_le h]
theorem cut_from {α : Type} (xs : List α) (k : Nat) : cutP xs (some (k : Int)) none = xs.drop k := by
  unfold cutP
  rw [HT.sIx_none, HT.sIx_nat]
  rcases Nat.le_total k xs.length with h | h
  · rw [Nat.min_eq_left h]
    exact List.take_of_length_le (by rw [List.length_drop]; omega)
  · rw [Nat.min_eq_right h, List.drop_of_length_le (Nat.le_refl _), List.drop_of_length_le h, List.take_nil]
theorem cut_both {α : Type} (xs : List α) (a b : Nat) (h : b ≤ xs.length) : cutP xs (some (a : Int)) (some (b : Int)) = (xs.drop a).take (b - a) := by
  unfold cutP
  rw [HT.sIx_nat, HT.sIx_nat, Nat.min_eq_left h]
  rcases Nat.le_total a xs.length with h2 | h2
  · rw [Nat.min_eq_left h2]
  · rw [Nat.min_eq_right h2, List.drop_of_length_le (Nat.le_refl _), List.drop_of_length_le h2, List.take_nil, List.take_nil]
theorem cut_len {α : Type} (xs : List α) (lo hi : Option Int) : (cutP xs lo hi).length ≤ xs.length := by
  unfold cutP
  rw [List.length_take, List.length_drop]
  omega
theorem atI_map {α β : Type} (f : α → β) (xs : List α) (i : Int) : atI (xs.map f) i = (atI xs i).map f := by
  unfold atI
  rw [List.length_map]
  cases ixN xs.length i with
  | none => rfl
  | some j =>
    show (xs.map f)[j]? = (xs[j]?).map f
    rw [List.getElem?_map]
theorem atI_lastN {α : Type} {xs : List α} {v : α} (h : xs.getLast? = some v) : atI xs (-1) = some v := by
  obtain ⟨ys, rfl⟩ : ∃ ys, xs = ys ++ [v] := List.getLast?_eq_some_iff.mp h
  exact atI_last ys v

section
variable {X : Cx} {δ : Dl} {a b c e : Expr} {es : List Expr} {pos : Pos} {d z d1 d2 : Pd} {ds : List Pd} {i j : Int}
/-! ### whole numbers -/
theorem rd_I0 {K : PySem.W.Frag} {g : Int → Int → Int} : RD K (rI0 fun i j => .int (g i j)) (.int i) (.int j) (.int (g i j)) := fun M x y H _ hx hy Q q =>
  ⟨i, j, dt_int hx, dt_int hy, q _ H (Evl.Ex.refl H) (.int _)⟩
theorem rd_B0 {K : PySem.W.Frag} {g : Int → Int → Bool} : RD K (rI0 fun i j => .bl (g i j)) (.int i) (.int j) (.bl (g i j)) := fun M x y H _ hx hy Q q =>
  ⟨i, j, dt_int hx, dt_int hy, q _ H (Evl.Ex.refl H) (.bl _)⟩
theorem rd_I {K : PySem.W.Frag} {C : Int → Int → Prop} {g : Int → Int → Int} (h : C i j) : RD K (rI C fun i j => .int (g i j)) (.int i) (.int j) (.int (g i j)) := fun M x y H _ hx hy Q q =>
  ⟨i, j, dt_int hx, dt_int hy, h, q _ H (Evl.Ex.refl H) (.int _)⟩
theorem ee_add (ha : EE X a δ (.int i)) (hb : EE X b δ (.int j)) : EE X (.BinOp a .Add b pos) δ (.int (i + j)) := ee_bin op_add rd_I0 ha hb
theorem ee_sub (ha : EE X a δ (.int i)) (hb : EE X b δ (.int j)) : EE X (.BinOp a .Sub b pos) δ (.int (i - j)) := ee_bin op_sub rd_I0 ha hb
theorem ee_mul (ha : EE X a δ (.int i)) (hb : EE X b δ (.int j)) (h : CMul i j) : EE X (.BinOp a .Mult b pos) δ (.int (i * j)) := ee_bin op_mul (rd_I h) ha hb
theorem ee_mulW (ha : EE X a δ (.int i)) (hb : EE X b δ (.int j)) (h : CMulW i j) : EE X (.BinOp a .Mult b pos) δ (.int (i * j)) := ee_bin op_mulW (rd_I h) ha hb
theorem ee_mod (ha : EE X a δ (.int i)) (hb : EE X b δ (.int j)) (h : 0 < j) : EE X (.BinOp a .Mod b pos) δ (.int (i % j)) := ee_bin op_mod (rd_I (C := fun _ j => 0 < j) h) ha hb
theorem ee_div (ha : EE X a δ (.int i)) (hb : EE X b δ (.int j)) (h : CDiv i j) : EE X (.BinOp a .FloorDiv b pos) δ (.int (i / j)) := ee_bin op_fdiv (rd_I h) ha hb
theorem ee_divW (ha : EE X a δ (.int i)) (hb : EE X b δ (.int j)) (h : CDivW i j) : EE X (.BinOp a .FloorDiv b pos) δ (.int (i / j)) := ee_bin op_fdivW (rd_I h) ha hb
theorem ee_pow (ha : EE X a δ (.int i)) (hb : EE X b δ (.int j)) (h : CPow i j) : EE X (.BinOp a .Pow b pos) δ (.int (i ^ j.toNat)) := ee_bin op_pow (rd_I h) ha hb
theorem ee_lt (ha : EE X a δ (.int i)) (hb : EE X b δ (.int j)) : EE X (.Compare a [.Lt] [b] pos) δ (.bl (decide (i < j))) := ee_cmp op_lt rd_B0 ha hb (nomark _)
theorem et_lt (ha : EE X a δ (.int i)) (hb : EE X b δ (.int j)) : ET X (.Compare a [.Lt] [b] pos) δ (decide (i < j)) := et_cmp op_lt rd_B0 ha hb (nomark _)
theorem et_gt (ha : EE X a δ (.int i)) (hb : EE X b δ (.int j)) : ET X (.Compare a [.Gt] [b] pos) δ (decide (j < i)) := et_cmp op_gt rd_B0 ha hb (nomark _)
theorem et_le (ha : EE X a δ (.int i)) (hb : EE X b δ (.int j)) : ET X (.Compare a [.LtE] [b] pos) δ (decide (i ≤ j)) := et_cmp op_le rd_B0 ha hb (nomark _)
theorem et_ge (ha : EE X a δ (.int i)) (hb : EE X b δ (.int j)) : ET X (.Compare a [.GtE] [b] pos) δ (decide (j ≤ i)) := et_cmp op_ge rd_B0 ha hb (nomark _)
theorem ee_ge (ha : EE X a δ (.int i)) (hb : EE X b δ (.int j)) : EE X (.Compare a [.GtE] [b] pos) δ (.bl (decide (j ≤ i))) := ee_cmp op_ge rd_B0 ha hb (nomark _)
theorem ee_gt (ha : EE X a δ (.int i)) (hb : EE X b δ (.int j)) : EE X (.Compare a [.Gt] [b] pos) δ (.bl (decide (j < i))) := ee_cmp op_gt rd_B0 ha hb (nomark _)
theorem ee_le (ha : EE X a δ (.int i)) (hb : EE X b δ (.int j)) : EE X (.Compare a [.LtE] [b] pos) δ (.bl (decide (i ≤ j))) := ee_cmp op_le rd_B0 ha hb (nomark _)
/-! ### == -/
theorem rd_eq {K : PySem.W.Frag} {α : Type} [DecidableEq α] {f : α → Pd} {n : Nat} (E : EqE f n) (hn : n ≤ 64) {x y : α} : RD K (rEqD K) (f x) (f y) (.bl (decide (x = y))) := fun M u v H _ hx hy Q q =>
  ⟨py (f x), py (f y), dt_dp _ _ (E.ok x) hx, dt_dp _ _ (E.ok y) hy, shaped_py (E.ok x) (Nat.le_trans (E.dep x) hn), shaped_py (E.ok y) (Nat.le_trans (E.dep y) hn), by
    rw [E.eq]
    exact q _ H (Evl.Ex.refl H) (.bl _)⟩
theorem rd_ne {K : PySem.W.Frag} {α : Type} [DecidableEq α] {f : α → Pd} {n : Nat} (E : EqE f n) (hn : n ≤ 64) {x y : α} : RD K (rNeD K) (f x) (f y) (.bl (!decide (x = y))) := fun M u v H _ hx hy Q q =>
  ⟨py (f x), py (f y), dt_dp _ _ (E.ok x) hx, dt_dp _ _ (E.ok y) hy, shaped_py (E.ok x) (Nat.le_trans (E.dep x) hn), shaped_py (E.ok y) (Nat.le_trans (E.dep y) hn), by
    rw [E.eq]
    exact q _ H (Evl.Ex.refl H) (.bl _)⟩
variable {k : Nat}
theorem ee_eq {α : Type} [DecidableEq α] {f : α → Pd} {n : Nat} {x y : α} (E : EqE f n) (hr : Room k X.A) (ha : EE X a δ (f x)) (hb : EE X b δ (f y)) (hn : n ≤ 64 := by decide) : EE X (.Compare a [.Eq] [b] pos) δ (.bl (decide (x = y))) := ee_cmp (op_eqD hr.units) (rd_eq E hn) ha hb (nomark _)
theorem et_eq {α : Type} [DecidableEq α] {f : α → Pd} {n : Nat} {x y : α} (E : EqE f n) (hr : Room k X.A) (ha : EE X a δ (f x)) (hb : EE X b δ (f y)) (hn : n ≤ 64 := by decide) : ET X (.Compare a [.Eq] [b] pos) δ (decide (x = y)) := et_cmp (op_eqD hr.units) (rd_eq E hn) ha hb (nomark _)
theorem ee_ne {α : Type} [DecidableEq α] {f : α → Pd} {n : Nat} {x y : α} (E : EqE f n) (hr : Room k X.A) (ha : EE X a δ (f x)) (hb : EE X b δ (f y)) (hn : n ≤ 64 := by decide) : EE X (.Compare a [.NotEq] [b] pos) δ (.bl (!decide (x = y))) := ee_cmp (op_neD hr.units) (rd_ne E hn) ha hb (nomark _)
theorem et_ne {α : Type} [DecidableEq α] {f : α → Pd} {n : Nat} {x y : α} (E : EqE f n) (hr : Room k X.A) (ha : EE X a δ (f x)) (hb : EE X b δ (f y)) (hn : n ≤ 64 := by decide) : ET X (.Compare a [.NotEq] [b] pos) δ (!decide (x = y)) := et_cmp (op_neD hr.units) (rd_ne E hn) ha hb (nomark _)
/-! ### lists -/
theorem ef_cat {ds es' : List Pd} (ha : EE X a δ (.lst ds)) (hb : EE X b δ (.lst es')) (hz : ds.length + es'.length ≤ 100000) : EF X (.BinOp a .Add b pos) δ (ds ++ es') := ef_bin op_cat (fun M x y H al hx hy Q q => by
  obtain ⟨l, xs, rfl, h1, h2⟩ := dt_sq hx
  obtain ⟨m, ys, rfl, h3, h4⟩ := dt_sq hy
  refine ⟨l, m, xs, ys, rfl, rfl, h1, h3, Evl.sz_of (by rw [h2.length, h4.length]; exact hz), fun p hp => ?_⟩
  exact q p _ _ hp (Evl.Ex.new hp) upd_same (((h2.more hp).app (h4.more hp)).mono (Evl.Ex.new hp))) ha hb
theorem ef_catI {ns ms : List Int} (ha : EE X a δ (dL ns)) (hb : EE X b δ (dL ms)) (hz : ns.length + ms.length ≤ 100000) : EF X (.BinOp a .Add b pos) δ ((ns ++ ms).map .int) :=
  (ef_cat ha hb (by rw [List.length_map, List.length_map]; exact hz)).is (by rw [List.map_append])
theorem ef_repI {ns : List Int} (ha : EE X a δ (dL ns)) (hb : EE X b δ (.int i)) (h0 : 0 ≤ i) (h1 : i ≤ 100000) (hz : ns.length * i.toNat ≤ 100000) : EF X (.BinOp a .Mult b pos) δ ((List.replicate i.toNat ns).flatten.map .int) := ef_bin op_rep (fun M x y H al hx hy Q q => by
  obtain ⟨l, rfl, h2⟩ := dt_dL hx
  refine ⟨l, i, _, rfl, dt_int hy, h2, by omega, by omega, Evl.sz_of (by rw [List.length_map]; exact hz), fun p hp => ?_⟩
  have e : (List.replicate i.toNat (ns.map V.int)).flatten = (List.replicate i.toNat ns).flatten.map V.int := by
    rw [List.map_flatten, List.map_replicate]
  rw [e]
  exact q p _ _ hp (Evl.Ex.new hp) upd_same (dtI _)) ha hb
theorem PlainIx.any {b : Expr} (h : PlainIx b := by exact fun _ _ => rfl) : PlainIx b := h
theorem ee_ix {r : R2} (hr : IxR X r) (hd : RD X.K r d1 d2 z) (ha : EE X a δ d1) (hb : EE X b δ d2) (hs : PlainIx b := by exact fun _ _ => rfl) : EE X (.Subscript a b pos) δ z := fun M σ H k Q q =>
  ⟨_, pe_ix hr pe_w pe_w hs, ha M σ H k _ fun x H1 e1 h1 => hb M σ H1 (k.mono e1) _ fun y H2 e2 h2 => hd M x y H2 (k.al.mono (e1.trans e2)) (h1.mono e2) h2 Q fun v H3 e3 h3 => q v H3 ((e1.trans e2).trans e3) h3⟩
/-- xs[i] of ints -/
theorem ee_ixI {ns : List Int} {w : Int} (ha : EE X a δ (dL ns)) (hb : EE X b δ (.int i)) (h : atI ns i = some w) (hs : PlainIx b := by exact fun _ _ => rfl) : EE X (.Subscript a b pos) δ (.int w) := ee_ix ix_list (fun M x y H al hx hy Q q => by
  obtain ⟨l, rfl, h2⟩ := dt_dL hx
  exact ⟨l, _, i, .int w, rfl, dt_int hy, Evl.sq_of h2, by rw [atI_map, h]; rfl, q _ H (Evl.Ex.refl H) (.int w)⟩) ha hb hs
theorem ee_ixS {ns : List Int} {w : Int} (ha : EE X a δ (.scr ns)) (hb : EE X b δ (.int i)) (h : atI ns i = some w) (hs : PlainIx b := by exact fun _ _ => rfl) : EE X (.Subscript a b pos) δ (.int w) := ee_ix ix_list (fun M x y H al hx hy Q q => by
  obtain ⟨l, rfl, h2⟩ := dt_scr hx
  exact ⟨l, _, i, .int w, rfl, dt_int hy, h2, by rw [atI_map, h]; rfl, q _ H (Evl.Ex.refl H) (.int w)⟩) ha hb hs
theorem dt_atI {K : PySem.W.Frag} {M : List Addr} {H : Hp} {xs : List V} {ds : List Pd} (h : DtAll K M H xs ds) (e : atI ds i = some d) : ∃ v, atI xs i = some v ∧ Dt K M H v d := by
  unfold atI at e ⊢
  rw [h.length]
  cases hj : ixN ds.length i with
  | none =>
    rw [hj] at e
    cases e
  | some j =>
    rw [hj] at e
    exact h.get e
theorem ee_ixT (ha : EE X a δ (.tup ds)) (hb : EE X b δ (.int i)) (h : atI ds i = some d) (hs : PlainIx b := by exact fun _ _ => rfl) : EE X (.Subscript a b pos) δ d := ee_ix ix_tup (fun M x y H al hx hy Q q => by
  obtain ⟨l, xs, rfl, h2, h3⟩ := dt_tp hx
  obtain ⟨v, e1, e2⟩ := dt_atI h3 h
  exact ⟨l, xs, i, v, rfl, dt_int hy, Evl.st_of h2, e1, q v H (Evl.Ex.refl H) e2⟩) ha hb hs
theorem ee_ixL (ha : EE X a δ (.lst ds)) (hb : EE X b δ (.int i)) (h : atI ds i = some d) (hs : PlainIx b := by exact fun _ _ => rfl) : EE X (.Subscript a b pos) δ d := ee_ix ix_list (fun M x y H al hx hy Q q => by
  obtain ⟨l, xs, rfl, h2, h3⟩ := dt_sq hx
  obtain ⟨v, e1, e2⟩ := dt_atI h3 h
  exact ⟨l, xs, i, v, rfl, dt_int hy, Evl.sq_of h2, e1, q v H (Evl.Ex.refl H) e2⟩) ha hb hs
/-- of a row -/
theorem ee_r0 {r : List Int × List Int} {j : Nat} {p : Pos} (ha : EE X a δ (dR r)) : EE X (.Subscript a (.Constant (.int 0) j p) pos) δ (dL r.1) := ee_ixT ha ee_int rfl
theorem ee_r1 {r : List Int × List Int} {j : Nat} {p : Pos} (ha : EE X a δ (dR r)) : EE X (.Subscript a (.Constant (.int 1) j p) pos) δ (dL r.2) := ee_ixT ha ee_int rfl
variable {lo hi : Option Int} {elo ehi : Option Expr} {p2 : Pos}
theorem ef_cut {ds : List Pd} (ha : EE X a δ (.lst ds)) (hl : EP X elo δ lo) (hh : EP X ehi δ hi) : EF X (.Subscript a (.Slice elo ehi none p2) pos) δ (cutP ds lo hi) := fun M σ H k Q q =>
  ⟨_, pe_slice sl_list pe_w po_w po_w, ha M σ H k _ fun x H1 e1 h1 => hl M σ H1 (k.mono e1) _ fun H2 e2 => hh M σ H2 (k.mono (e1.trans e2)) _ fun H3 e3 => by
    obtain ⟨l, xs, rfl, h2, h3⟩ := dt_sq (h1.mono (e2.trans e3))
    refine ⟨l, xs, rfl, Evl.sq_of h2, fun p hp => ?_⟩
    refine q p _ _ (Evl.fresh_back ((e1.trans e2).trans e3) hp) (((e1.trans e2).trans e3).trans (Evl.Ex.new hp)) upd_same ?_
    rw [cutV_eq]
    unfold cutP
    rw [h3.length]
    exact (((h3.more hp).mono (Evl.Ex.new hp)).drop _).take _⟩
theorem ef_cutI {ns : List Int} (ha : EE X a δ (dL ns)) (hl : EP X elo δ lo) (hh : EP X ehi δ hi) : EF X (.Subscript a (.Slice elo ehi none p2) pos) δ ((cutP ns lo hi).map .int) :=
  (ef_cut ha hl hh).is (cutP_map _ _ _ _)
theorem ef_cutS {ns : List Int} (ha : EE X a δ (.scr ns)) (hl : EP X elo δ lo) (hh : EP X ehi δ hi) : EF X (.Subscript a (.Slice elo ehi none p2) pos) δ ((cutP ns lo hi).map .int) := fun M σ H k Q q =>
  ⟨_, pe_slice sl_list pe_w po_w po_w, ha M σ H k _ fun x H1 e1 h1 => hl M σ H1 (k.mono e1) _ fun H2 e2 => hh M σ H2 (k.mono (e1.trans e2)) _ fun H3 e3 => by
    obtain ⟨l, rfl, h2⟩ := dt_scr (h1.mono (e2.trans e3))
    refine ⟨l, _, rfl, h2, fun p hp => ?_⟩
    refine q p _ _ (Evl.fresh_back ((e1.trans e2).trans e3) hp) (((e1.trans e2).trans e3).trans (Evl.Ex.new hp)) upd_same ?_
    rw [cutV_eq, cutP_map]
    exact dtI _⟩
/-! ### built-ins -/
theorem ee_len {p : Pos} (ha : EE X e δ (.lst ds)) (hm : X.mg "len" = none) (hg : Gl X "len" := by rfl) (he : starEach [e] X.env = (false, eval e X.env) :: starEach [] X.env := by rfl) : EE X (.Call (.Name "len" p) [e] [] pos) δ (.int ds.length) :=
  ee_callB call_len_seq (fun M vs H al h Q q => by
    cases h with
    | cons h1 h2 =>
      cases h2
      obtain ⟨l, xs, rfl, h3, h4⟩ := dt_sq h1
      refine ⟨l, xs, rfl, .inl (Evl.sq_of h3), ?_⟩
      rw [h4.length]
      exact q _ H (Evl.Ex.refl H) (.int _)) (ea_cons ha ea_nil he) hm hg (he := he)
theorem ee_lenI {p : Pos} {ns : List Int} (ha : EE X e δ (dL ns)) (hm : X.mg "len" = none) (hg : Gl X "len" := by rfl) (he : starEach [e] X.env = (false, eval e X.env) :: starEach [] X.env := by rfl) : EE X (.Call (.Name "len" p) [e] [] pos) δ (.int ns.length) :=
  (ee_len ha hm hg he).is (by rw [List.length_map])
theorem ee_lenS {p : Pos} {ns : List Int} (ha : EE X e δ (.scr ns)) (hm : X.mg "len" = none) (hg : Gl X "len" := by rfl) (he : starEach [e] X.env = (false, eval e X.env) :: starEach [] X.env := by rfl) : EE X (.Call (.Name "len" p) [e] [] pos) δ (.int ns.length) :=
  ee_callB call_len_seq (fun M vs H al h Q q => by
    cases h with
    | cons h1 h2 =>
      cases h2
      obtain ⟨l, rfl, h3⟩ := dt_scr h1
      refine ⟨l, _, rfl, .inl h3, ?_⟩
      rw [List.length_map]
      exact q _ H (Evl.Ex.refl H) (.int _)) (ea_cons ha ea_nil he) hm hg (he := he)
theorem ee_lenT {p : Pos} (ha : EE X e δ (.tup ds)) (hm : X.mg "len" = none) (hg : Gl X "len" := by rfl) (he : starEach [e] X.env = (false, eval e X.env) :: starEach [] X.env := by rfl) : EE X (.Call (.Name "len" p) [e] [] pos) δ (.int ds.length) :=
  ee_callB call_len_seq (fun M vs H al h Q q => by
    cases h with
    | cons h1 h2 =>
      cases h2
      obtain ⟨l, xs, rfl, h3, h4⟩ := dt_tp h1
      refine ⟨l, xs, rfl, .inr (Evl.st_of h3), ?_⟩
      rw [h4.length]
      exact q _ H (Evl.Ex.refl H) (.int _)) (ea_cons ha ea_nil he) hm hg (he := he)
theorem ee_all {p : Pos} {bs : List Bool} (hc : X.calm = true) (ha : EE X e δ (.lst (bs.map .bl))) (hm : X.mg "all" = none) (hg : Gl X "all" := by rfl) (he : starEach [e] X.env = (false, eval e X.env) :: starEach [] X.env := by rfl) : EE X (.Call (.Name "all" p) [e] [] pos) δ (.bl (bs.all id)) :=
  ee_callB (cr_all hc) (fun M vs H al h Q q => by
    cases h with
    | cons h1 h2 =>
      cases h2
      obtain ⟨l, xs, rfl, h3, h4⟩ := dt_sq h1
      rw [dtB_inv h4] at h3
      exact ⟨l, bs, rfl, Evl.sq_of h3, q _ H (Evl.Ex.refl H) (.bl _)⟩) (ea_cons ha ea_nil he) hm hg (he := he)
theorem ee_any {p : Pos} {bs : List Bool} (hc : X.calm = true) (ha : EE X e δ (.lst (bs.map .bl))) (hm : X.mg "any" = none) (hg : Gl X "any" := by rfl) (he : starEach [e] X.env = (false, eval e X.env) :: starEach [] X.env := by rfl) : EE X (.Call (.Name "any" p) [e] [] pos) δ (.bl (bs.any id)) :=
  ee_callB (cr_any hc) (fun M vs H al h Q q => by
    cases h with
    | cons h1 h2 =>
      cases h2
      obtain ⟨l, xs, rfl, h3, h4⟩ := dt_sq h1
      rw [dtB_inv h4] at h3
      exact ⟨l, bs, rfl, Evl.sq_of h3, q _ H (Evl.Ex.refl H) (.bl _)⟩) (ea_cons ha ea_nil he) hm hg (he := he)
theorem ef_list {p : Pos} (ha : EE X e δ (.lst ds)) (hm : X.mg "list" = none) (hg : Gl X "list" := by rfl) (he : starEach [e] X.env = (false, eval e X.env) :: starEach [] X.env := by rfl) : EF X (.Call (.Name "list" p) [e] [] pos) δ ds :=
  ef_callT call_list_of (fun M vs H al h Q q => by
    cases h with
    | cons h1 h2 =>
      cases h2
      obtain ⟨l, xs, rfl, h3, h4⟩ := dt_sq h1
      exact ⟨l, xs, rfl, .inl (Evl.sq_of h3), fun m hm => q m xs _ hm (Evl.Ex.new hm) upd_same ((h4.more hm).mono (Evl.Ex.new hm))⟩) (ea_cons ha ea_nil he) hm hg (he := he)
theorem ee_max2 {p : Pos} (hc : X.calm = true) (ha : EE X a δ (.int i)) (hb : EE X b δ (.int j)) (hm : X.mg "max" = none) (hg : Gl X "max" := by rfl) (he : starEach [a, b] X.env = (false, eval a X.env) :: starEach [b] X.env := by rfl) (he2 : starEach [b] X.env = (false, eval b X.env) :: starEach [] X.env := by rfl) (hpl : (backTo pos (starEach [b] X.env)).any (·.1) = false := by rfl) : EE X (.Call (.Name "max" p) [a, b] [] pos) δ (.int (max i j)) :=
  ee_callB (call_max2 hc) (fun M vs H al h Q q => by
    cases h with
    | cons h1 h2 =>
      cases h2 with
      | cons h2 h3 =>
        cases h3
        cases dt_int h1
        cases dt_int h2
        refine ⟨i, j, rfl, ?_⟩
        have e : (if j > i then j else i) = max i j := by
          split <;> omega
        rw [e]
        exact q _ H (Evl.Ex.refl H) (.int _)) (ea_cons ha (ea_cons hb ea_nil he2) he) hm hg (he := he) (hpl := hpl)
theorem ee_min2 {p : Pos} (hc : X.calm = true) (ha : EE X a δ (.int i)) (hb : EE X b δ (.int j)) (hm : X.mg "min" = none) (hg : Gl X "min" := by rfl) (he : starEach [a, b] X.env = (false, eval a X.env) :: starEach [b] X.env := by rfl) (he2 : starEach [b] X.env = (false, eval b X.env) :: starEach [] X.env := by rfl) (hpl : (backTo pos (starEach [b] X.env)).any (·.1) = false := by rfl) : EE X (.Call (.Name "min" p) [a, b] [] pos) δ (.int (min i j)) :=
  ee_callB (call_min2 hc) (fun M vs H al h Q q => by
    cases h with
    | cons h1 h2 =>
      cases h2 with
      | cons h2 h3 =>
        cases h3
        cases dt_int h1
        cases dt_int h2
        refine ⟨i, j, rfl, ?_⟩
        have e : (if j < i then j else i) = min i j := by
          split <;> omega
        rw [e]
        exact q _ H (Evl.Ex.refl H) (.int _)) (ea_cons ha (ea_cons hb ea_nil he2) he) hm hg (he := he) (hpl := hpl)
/-! ### isinstance -/
def tyN : Pd → String
  | .non => "NoneType"
  | .bl _ => "bool"
  | .int _ => "int"
  | .str _ => "str"
  | .lst _ => "list"
  | .scr _ => "list"
  | .tup _ => "tuple"
  | .raw _ => ""
  | .obj _ _ _ => ""
  | .dic _ => "dict"
  | .lam _ _ _ _ => ""
end
end Lr

/-! isinstance, calls, comprehensions, statements, loops -/
namespace Lr
open PySem L2
open Evl (Ex)

section
variable {X : Cx} {δ : Dl} {a b c e : Expr} {es : List Expr} {pos : Pos} {d z d1 d2 : Pd} {ds : List Pd} {i j : Int}
/-! ### isinstance -/
theorem tyx_of {K : PySem.W.Frag} {M : List Addr} {H : Hp} {v : V} (hd : tyN d ≠ "") (h : Dt K M H v d) : TyX K H v (.type (tyN d)) := by
  cases h with
  | non => exact .base .non
  | bl b => exact .base (.bl b)
  | int i => exact .base (.int i)
  | str x => exact .base (.str x)
  | lst _ h1 _ => exact .base (.lst h1)
  | tup _ h1 _ => exact .base (.tup h1)
  | scr h1 =>
    rcases h1 with ⟨_, h1 | ⟨o, h1⟩⟩ | ⟨o, _, _, h1, h2, _⟩
    · exact .base (.lst h1)
    · exact .base (.frz h1)
    · exact .kList h1 h2
  | raw _ => exact absurd rfl hd
  | obj _ _ _ => exact absurd rfl hd
  | dic _ h1 => exact .base (.dK h1)
  | lam _ _ _ _ => exact absurd rfl hd
theorem ee_isi {p tp : Pos} {T : Str} {Tn : String} {k : Bool} (ha : EE X e δ d) (hm : X.mg "isinstance" = none) (hT : X.mg T = none) (hb : kitB (tyN d) Tn = some k := by decide +kernel) (hd : tyN d ≠ "" := by decide)
    (hv : bootBuiltins T = some (.type Tn) := by decide +kernel) (hg : Gl X "isinstance" := by rfl) (hgT : Gl X T := by rfl) (hn : T ≠ "__name__" := by decide) (hdb : (T == ("__debug__" : Str)) = false := by decide)
    (he : starEach [e, .Name T tp] X.env = (false, eval e X.env) :: starEach [.Name T tp] X.env := by rfl) (hpl : (backTo pos (starEach [.Name T tp] X.env)).any (·.1) = false := by rfl) : EE X (.Call (.Name "isinstance" p) [e, .Name T tp] [] pos) δ (.bl k) := fun M σ H kn Q q =>
  ⟨_, pe_callB (id := "isinstance") call_isi hg hm (by decide +kernel) (pa_cons pe_w (pa_cons (pe_bltn (v := .ty Tn) hgT hT hv rfl hn hdb) pa_nil (by rfl)) he) (by decide) (by decide) he hpl, ha M σ H kn _ fun v H1 e1 h1 =>
    ⟨v, .ty Tn, _, _, k, rfl, .ty Tn, tyx_of hd h1, kit_ty hb, q _ H1 e1 (.bl k)⟩⟩

/-! ### calls of defs -/
/-- a def that hands back data | a new list | a new row -/
def SpR (K : PySem.W.Frag) (R : List Pd → Pd → Prop) : Sp := fun vs H Q _ => ∃ M ds d, Al M H ∧ DtAll K M H vs ds ∧ R ds d ∧ ∀ v H', Ex H H' → Dt K M H' v d → Q v H'
def SpF (K : PySem.W.Frag) (R : List Pd → List Pd → Prop) : Sp := fun vs H Q _ => ∃ M ds zs, Al M H ∧ DtAll K M H vs ds ∧ R ds zs ∧ ∀ a xs H', H a = none → Ex H H' → H' a = some (.lst xs) → DtAll K (a :: M) H' xs zs → Q (.ref a) H'
def SpW (K : PySem.W.Frag) (R : List Pd → List Int × List Int → Prop) : Sp := fun vs H Q _ => ∃ M ds r, Al M H ∧ DtAll K M H vs ds ∧ R ds r ∧ ∀ p a b H', H p = none → H a = none → H b = none → a ≠ b → Ex H H' → H' p = some (.tup [.ref a, .ref b]) →
  H' a = some (.lst (r.1.map V.int)) → H' b = some (.lst (r.2.map V.int)) → Q (.ref p) H'
/-- a def stands there and keeps its promise -/
def Has (P : Program) (w : World) (K : PySem.W.Frag) (mg : Str → Option Value) (base : Heap) (CX : CXT) (x : Str) (k : Nat) (ps : List Str) (sp : Sp) : Prop :=
  ∃ f fd, FnOk P w K mg base CX k f fd ps sp ∧ mg x = some (.ref f) ∧ PySem.W.keepIn K (.ref f) = true ∧ Binds K fd ps []
variable {CX : CXT} {x : Str} {k : Nat} {ps : List Str} {p : Pos}
theorem ee_call {R : List Pd → Pd → Prop} (F : Has X.prog X.w X.K X.mg X.base CX x k ps (SpR X.K R)) (hr : Room k X.A) (hx : Passes CX X E0) (ha : EA X (e :: es) δ ds) (hR : R ds d) (hg : Gl X x := by rfl)
    (hdb : (x == ("__debug__" : Str)) = false := by decide) (he : starEach (e :: es) X.env = (false, eval e X.env) :: starEach es X.env := by rfl) (hpl : (backTo pos (starEach es X.env)).any (·.1) = false := by rfl) : EE X (.Call (.Name x p) (e :: es) [] pos) δ d := fun M σ H kn Q q => by
  obtain ⟨f, fd, F, g, kp, b⟩ := F
  refine ⟨_, pe_call F hr hg g kp b .nil hx pa_w hdb he hpl, ha M σ H kn _ fun vs H1 e1 h1 => ⟨M, ds, d, kn.al.mono e1, by rw [List.append_nil]; exact h1, hR, fun v H2 e2 h2 => q v H2 (e1.trans e2) h2⟩⟩
theorem ef_call {zs : List Pd} {R : List Pd → List Pd → Prop} (F : Has X.prog X.w X.K X.mg X.base CX x k ps (SpF X.K R)) (hr : Room k X.A) (hx : Passes CX X E0) (ha : EA X (e :: es) δ ds) (hR : R ds zs) (hg : Gl X x := by rfl)
    (hdb : (x == ("__debug__" : Str)) = false := by decide) (he : starEach (e :: es) X.env = (false, eval e X.env) :: starEach es X.env := by rfl) (hpl : (backTo pos (starEach es X.env)).any (·.1) = false := by rfl) : EF X (.Call (.Name x p) (e :: es) [] pos) δ zs := fun M σ H kn Q q => by
  obtain ⟨f, fd, F, g, kp, b⟩ := F
  refine ⟨_, pe_call F hr hg g kp b .nil hx pa_w hdb he hpl, ha M σ H kn _ fun vs H1 e1 h1 => ⟨M, ds, zs, kn.al.mono e1, by rw [List.append_nil]; exact h1, hR, fun a xs H2 hn e2 h2 h3 => q a xs H2 (Evl.fresh_back e1 hn) (e1.trans e2) h2 h3⟩⟩
/-- a new row -/
def EWR (X : Cx) (e : Expr) (δ : Dl) (r : List Int × List Int) : Prop := ∀ M σ H, Kn X.K M H σ δ → ∀ Q : VK, (∀ p a b H', H p = none → H a = none → H b = none → a ≠ b → Ex H H' → H' p = some (.tup [.ref a, .ref b]) →
  H' a = some (.lst (r.1.map V.int)) → H' b = some (.lst (r.2.map V.int)) → Q (.ref p) H') → TW X e σ H Q
theorem EWR.is {r s : List Int × List Int} (h : EWR X e δ r) (q : r = s) : EWR X e δ s := q ▸ h
theorem dt_row {K : PySem.W.Frag} {M : List Addr} {H H' : Hp} {p a b : Addr} {r : List Int × List Int} (al : Al M H) (hp : H p = none) (ha : H a = none) (hb : H b = none) (e1 : H' p = some (.tup [.ref a, .ref b]))
    (e2 : H' a = some (.lst (r.1.map V.int))) (e3 : H' b = some (.lst (r.2.map V.int))) : Dt K M H' (.ref p) (dR r) :=
  .tup (al.nw hp) e1 (.cons (.lst (al.nw ha) e2 (dtI _)) (.cons (.lst (al.nw hb) e3 (dtI _)) .nil))
theorem EWR.ee {r : List Int × List Int} (h : EWR X e δ r) : EE X e δ (dR r) := fun M σ H k Q q => h M σ H k Q fun p a b H' hp ha hb _ e1 h1 h2 h3 => q _ H' e1 (dt_row k.al hp ha hb h1 h2 h3)
theorem ew_call {r : List Int × List Int} {R : List Pd → List Int × List Int → Prop} (F : Has X.prog X.w X.K X.mg X.base CX x k ps (SpW X.K R)) (hr : Room k X.A) (hx : Passes CX X E0) (ha : EA X (e :: es) δ ds) (hR : R ds r) (hg : Gl X x := by rfl)
    (hdb : (x == ("__debug__" : Str)) = false := by decide) (he : starEach (e :: es) X.env = (false, eval e X.env) :: starEach es X.env := by rfl) (hpl : (backTo pos (starEach es X.env)).any (·.1) = false := by rfl) : EWR X (.Call (.Name x p) (e :: es) [] pos) δ r := fun M σ H kn Q q => by
  obtain ⟨f, fd, F, g, kp, b⟩ := F
  refine ⟨_, pe_call F hr hg g kp b .nil hx pa_w hdb he hpl, ha M σ H kn _ fun vs H1 e1 h1 => ⟨M, ds, r, kn.al.mono e1, by rw [List.append_nil]; exact h1, hR, fun p a b H2 hp ha hb ab e2 h2 h3 h4 =>
    q p a b H2 (Evl.fresh_back e1 hp) (Evl.fresh_back e1 ha) (Evl.fresh_back e1 hb) ab (e1.trans e2) h2 h3 h4⟩⟩
/-- (l, m) of two new lists -/
theorem ew_tup {x1 : Nat} {l m : List Int} (ha : EF X a δ (l.map .int)) (hb : EF X b δ (m.map .int)) (he : starEach [a, b] X.env = (false, eval a X.env) :: starEach [b] X.env := by rfl) (he2 : starEach [b] X.env = (false, eval b X.env) :: starEach [] X.env := by rfl) : EWR X (.Tuple [a, b] x1 pos) δ (l, m) := fun M σ H kn Q q =>
  ⟨_, pe_tup (pa_cons pe_w (pa_cons pe_w pa_nil he2) he), ha M σ H kn _ fun u xs H1 hn e1 h1 h2 => hb M σ H1 (kn.mono e1) _ fun w ys H2 hn2 e2 h3 h4 => ⟨by show 2 ≤ sizeLine; decide, fun p hp => by
    rw [dtI_inv h2] at h1
    rw [dtI_inv h4] at h3
    have n1 : u ≠ p := ne_of_none (e2 _ _ h1) hp
    have n2 : w ≠ p := ne_of_none h3 hp
    refine q p u w _ (Evl.fresh_back (e1.trans e2) hp) hn (Evl.fresh_back e1 hn2) (ne_of_none h1 hn2) ((e1.trans e2).trans (Evl.Ex.new hp)) upd_same ?_ ?_
    · rw [upd_ne n1]
      exact e2 _ _ h1
    · rw [upd_ne n2]
      exact h3⟩⟩

/-! ### what is walked -/
def IW (X : Cx) (tg iter : Expr) (δ : Dl) (n : Nat) (Yd : Nat → Pd) : Prop := ∀ M σ H, Kn X.K M H σ δ → ∀ R : It → Hp → Prop,
  (∀ J H1 G Y, Ex H H1 → Walk J n G Y → (∀ H', ExM M H1 H' → G H') → (∀ M' i H2 v H', (∀ a, a ∈ M' → a ∈ M ∨ H1 a = none) → i < n → Y i H2 v H' → ExM M' H1 H2 → Al M' H2 → Ex H2 H' ∧ Dt X.K M' H' v (Yd i)) → R J H1) → TIW X tg iter σ H R
theorem iw_list {tg : Expr} {Yd : Nat → Pd} (h : EE X e δ (.lst ds)) (hY : ∀ i, i < ds.length → ds[i]? = some (Yd i)) : IW X tg e δ ds.length Yd := fun M σ H kn R q =>
  ⟨_, pi_list pe_w, h M σ H kn _ fun v H1 e1 h1 => by
    cases h1 with
    | @lst a xs _ h0 h2 h3 =>
      refine ⟨a, rfl, ⟨xs, Evl.sq_of h2⟩, q _ H1 _ _ e1 (by rw [← h3.length]; exact walk_list (xs := xs)) (fun H' e2 => Evl.sq_of (e2 _ _ h0 h2)) fun M' i H2 v H' hM hi y e2 _ => ?_⟩
      obtain ⟨rfl, hv⟩ := y
      refine ⟨Evl.Ex.refl _, ?_⟩
      obtain ⟨u, hu, g⟩ := ((DtAll.chg hM _ _ h3).monoM e2).get (hY i hi)
      rw [hv] at hu
      cases hu
      exact g⟩
theorem iw_listI {tg : Expr} {ns : List Int} {f : Nat → Int} (h : EE X e δ (dL ns)) (hf : ∀ i, i < ns.length → ns[i]? = some (f i)) : IW X tg e δ ns.length (fun i => .int (f i)) := by
  have g := iw_list (tg := tg) (Yd := fun i => .int (f i)) h (fun i hi => by
    rw [List.length_map] at hi
    rw [List.getElem?_map, hf i hi]
    rfl)
  rw [List.length_map] at g
  exact g
theorem iw_scr {tg : Expr} {ns : List Int} {f : Nat → Int} (h : EE X e δ (.scr ns)) (hf : ∀ i, i < ns.length → ns[i]? = some (f i)) : IW X tg e δ ns.length (fun i => .int (f i)) := fun M σ H kn R q =>
  ⟨_, pi_list pe_w, h M σ H kn _ fun v H1 e1 h1 => by
    cases h1 with
    | @scr a _ h2 =>
      have mono : ∀ H', ExM M H1 H' → SqL X.K H' a (ns.map V.int) := fun H' e2 => by
        rcases h2 with ⟨h0, h2 | ⟨o, h2⟩⟩ | h2
        · exact .inl (.inl (e2 _ _ h0 h2))
        · exact .inl (.inr ⟨o, e2 _ _ h0 h2⟩)
        · exact .inr h2
      refine ⟨a, rfl, ⟨_, h2.sq⟩, q _ H1 _ _ e1 (by rw [← List.length_map (as := ns) V.int]; exact walk_list) mono fun M' i H2 v H' hM hi y e2 _ => ?_⟩
      obtain ⟨rfl, hv⟩ := y
      refine ⟨Evl.Ex.refl _, ?_⟩
      rw [List.getElem?_map, hf i hi] at hv
      cases hv
      exact .int _⟩
theorem iw_tup {tg : Expr} {Yd : Nat → Pd} (h : EE X e δ (.tup ds)) (hY : ∀ i, i < ds.length → ds[i]? = some (Yd i)) : IW X tg e δ ds.length Yd := fun M σ H kn R q =>
  ⟨_, pi_tup pe_w, h M σ H kn _ fun v H1 e1 h1 => by
    cases h1 with
    | @tup a xs _ h0 h2 h3 =>
      refine ⟨a, rfl, ⟨xs, Evl.st_of h2⟩, q _ H1 _ _ e1 (by rw [← h3.length]; exact walk_tup (xs := xs)) (fun H' e2 => Evl.st_of (e2 _ _ h0 h2)) fun M' i H2 v H' hM hi y e2 _ => ?_⟩
      obtain ⟨rfl, hv⟩ := y
      refine ⟨Evl.Ex.refl _, ?_⟩
      obtain ⟨u, hu, g⟩ := ((DtAll.chg hM _ _ h3).monoM e2).get (hY i hi)
      rw [hv] at hu
      cases hu
      exact g⟩
theorem iw_range1 {tg : Expr} {n : Int} (ha : EE X a δ (.int n)) (h1 : n ≤ 2 ^ 61) (h0 : -(2 ^ 61) ≤ n) (hm : X.mg "range" = none) (hg : Gl X "range" := by rfl) (hs : starEach [a] X.env = [(false, eval a X.env)] := by rfl) : IW X tg (.Call (.Name "range" p) [a] [] pos) δ n.toNat (fun i => .int i) := fun M σ H kn R q =>
  ⟨_, pi_range1 hg hm (pa_cons pe_w pa_nil hs) hs, ha M σ H kn _ fun v H1 e1 g1 => ⟨n, by rw [dt_int g1], by omega, by omega, q _ H1 _ _ e1 walk_range (fun _ _ => trivial) fun M' i H2 v H' hM hi y e2 _ => by
    obtain ⟨rfl, rfl⟩ := y
    refine ⟨Evl.Ex.refl _, ?_⟩
    show Dt X.K M' _ (V.int (0 + (i : Int))) (.int i)
    rw [Int.zero_add]
    exact .int _⟩⟩
theorem iw_range2 {tg : Expr} {lo n : Int} (ha : EE X a δ (.int lo)) (hb : EE X b δ (.int n)) (hlo : -(2 ^ 61) ≤ lo ∧ lo ≤ 2 ^ 61) (hn : -(2 ^ 61) ≤ n ∧ n ≤ 2 ^ 61) (hm : X.mg "range" = none) (hg : Gl X "range" := by rfl) (hs : starEach [a, b] X.env = [(false, eval a X.env), (false, eval b X.env)] := by rfl) (hs2 : starEach [b] X.env = [(false, eval b X.env)] := by rfl) :
    IW X tg (.Call (.Name "range" p) [a, b] [] pos) δ (n - lo).toNat (fun i => .int (lo + i)) := fun M σ H kn R q =>
  ⟨_, pi_range2 hg hm (pa_cons pe_w (pa_cons pe_w pa_nil hs2) (by rw [hs, hs2])) hs hs2, ha M σ H kn _ fun v H1 e1 g1 => hb M σ H1 (kn.mono e1) _ fun u H2 e2 g2 => ⟨lo, n, by rw [dt_int g1, dt_int g2], by omega, q _ H2 _ _ (e1.trans e2) walk_range (fun _ _ => trivial) fun M' i H2 v H' hM hi y e2 _ => by
    obtain ⟨rfl, rfl⟩ := y
    exact ⟨Evl.Ex.refl _, .int _⟩⟩⟩
theorem iw_enumS {elts : List Expr} {kk : Nat} {tpos : Pos} {ns : List Int} {f : Nat → Int} (h : EE X e δ (.scr ns)) (hf : ∀ i, i < ns.length → ns[i]? = some (f i)) (hm : X.mg "enumerate" = none) (hg : Gl X "enumerate" := by rfl) (hs : starEach [e] X.env = [(false, eval e X.env)] := by rfl) :
    IW X (.Tuple elts kk tpos) (.Call (.Name "enumerate" p) [e] [] pos) δ ns.length (fun i => .tup [.int i, .int (f i)]) := fun M σ H kn R q =>
  ⟨_, pi_enum hg hm (pa_cons pe_w pa_nil hs) hs, h M σ H kn _ fun v H1 e1 h1 => by
    cases h1 with
    | @scr a _ h2 =>
      have mono : ∀ H', ExM M H1 H' → SqL X.K H' a (ns.map V.int) := fun H' e2 => by
        rcases h2 with ⟨h0, h2 | ⟨o, h2⟩⟩ | h2
        · exact .inl (.inl (e2 _ _ h0 h2))
        · exact .inl (.inr ⟨o, e2 _ _ h0 h2⟩)
        · exact .inr h2
      refine ⟨a, _, rfl, h2.sq, q _ H1 _ _ e1 (by rw [← List.length_map (as := ns) V.int]; exact walk_enum) mono fun M' i H2 v H' hM hi y e2 al2 => ?_⟩
      obtain ⟨T, x, w, rfl, hn, rfl, hx, hw⟩ := y
      refine ⟨Evl.Ex.new hn, ?_⟩
      cases hx
      have hw : (ns.map V.int)[i]? = some w := hw
      rw [List.getElem?_map, hf i hi] at hw
      cases hw
      exact .tup (al2.nw hn) upd_same (.cons (.int _) (.cons (.int _) .nil))⟩
theorem iw_enumI {elts : List Expr} {kk : Nat} {tpos : Pos} {ns : List Int} {f : Nat → Int} (h : EE X e δ (dL ns)) (hf : ∀ i, i < ns.length → ns[i]? = some (f i)) (hm : X.mg "enumerate" = none) (hg : Gl X "enumerate" := by rfl) (hs : starEach [e] X.env = [(false, eval e X.env)] := by rfl) :
    IW X (.Tuple elts kk tpos) (.Call (.Name "enumerate" p) [e] [] pos) δ ns.length (fun i => .tup [.int i, .int (f i)]) := iw_enumS h.scr hf hm hg hs

/-! ### comprehensions of flat things -/
/-- worth the same on every heap -/
def Flat (d : Pd) : Prop := ∀ (K : PySem.W.Frag) (M M' : List Addr) (H H' : Hp) (v : V), Dt K M H v d → Dt K M' H' v d
theorem flat_int {i : Int} : Flat (.int i) := fun K M M' H H' v h => by
  cases h
  exact .int _
theorem flat_bl {i : Bool} : Flat (.bl i) := fun K M M' H H' v h => by
  cases h
  exact .bl _
theorem flat_str {i : Str} : Flat (.str i) := fun K M M' H H' v h => by
  cases h
  exact .str _
theorem flat_non : Flat .non := fun K M M' H H' v h => by
  cases h
  exact .non
/-- the element's weakest reading, at any turn -/
def teW (X : Cx) (elt : Expr) (scope : Scope) : TE := fun σ H Q => ∀ (s : Shared) (Hb : Hp) (C : Addr) (cl : List (Str × Addr)) (fp : List Addr), TW (X.blk s Hb scope (compEnvC scope cl C X.env) fp) elt σ H Q
theorem pe_te {elt : Expr} {scope : Scope} (s : Shared) (H : Hp) (C : Addr) (cl : List (Str × Addr)) (fp : List Addr) : PE (X.blk s H scope (compEnvC scope cl C X.env) fp) elt (teW X elt scope) :=
  ⟨fun pins s' σ H' Q I h => pe_w.run pins s' σ H' Q I (h s H C cl fp)⟩
theorem lcG_read {tg elt iter : Expr} {scope : Scope} {own : List (Str × Nat)} {n : Nat} {Yd : Nat → Pd} {f : Nat → Pd} {δ' : Nat → Dl} {g : TG} (hi : IW X tg iter δ n Yd)
    (hgt : ∀ (i : Nat) M v τ H, i < n → Kn X.K M H τ (wipeD δ (own.map (·.2))) → Dt X.K M H v (Yd i) → ∀ Q : St → Hp → Prop, (∀ τ', Kn X.K M H τ' (δ' i) → L2.wipe τ' (own.map (·.2)) = L2.wipe τ (own.map (·.2)) → Q τ' H) → g v τ H Q)
    (hn : n ≤ 50000)
    (he : ∀ (s : Shared) (H : Hp) (C : Addr) (cl : List (Str × Addr)) (fp : List Addr) (i : Nat), i < n → EE (X.blk s H scope (compEnvC scope cl C X.env) fp) elt (δ' i) (f i))
    {M : List Addr} {σ : L2.St} {H : Hp} (kn : Kn X.K M H σ δ) (Q : VK) (q : ∀ a xs H', H a = none → Ex H H' → H' a = some (.lst xs) → DtAll X.K (a :: M) H' xs ((List.range n).map f) → Q (.ref a) H') :
    tLc (TIW X tg iter) g tYes (teW X elt scope) (own.map (·.2)) σ H Q := by
  refine hi M σ H kn _ fun J H1 G Y e1 w hG hY Dl hD => ?_
  refine lc_it w (g := g) (tt := tYes) (te := teW X elt scope) (vs := own.map (·.2)) (σ := σ) (Qd := fun H' => Q (.ref Dl) H') (fun i H' => Ex H1 H' ∧ ∃ acc, H' Dl = some (.lst acc) ∧ DtAll X.K (Dl :: M) H' acc ((List.range i).map f)) ⟨Evl.Ex.new hD, [], upd_same, .nil⟩ (fun i H' _ p => hG H' (exM p.1)) ?_ ?_
  · intro i v H2 H3 hlt p y
    obtain ⟨p2, acc, p3, p4⟩ := p
    have kn2 : Kn X.K (Dl :: M) H2 σ δ := (kn.mono e1).more hD p2 p3
    obtain ⟨y1, y2⟩ := hY (Dl :: M) i H2 v H3 (fun a ha => (List.mem_cons.mp ha).elim (fun z => .inr (by rw [z]; exact hD)) .inl) hlt y (exM p2) kn2.al
    refine hgt i (Dl :: M) v _ H3 hlt ((kn2.mono y1).wipe _) y2 _ fun τ' kt hw => ⟨by rw [hw, wipe_idem], ?_⟩
    show ∀ (s : Shared) (Hb : Hp) (C : Addr) (cl : List (Str × Addr)) (fp : List Addr), _
    intro s Hb C cl fp
    refine he s Hb C cl fp i hlt (Dl :: M) τ' H3 kt _ fun z H4 e4 h4 => ⟨acc, e4 _ _ (y1 _ _ p3), ?_, ?_⟩
    · rw [p4.length, List.length_map, List.length_range]
      exact Evl.sz_lt (by omega)
    · have exu : Ex H1 (upd H4 Dl (.lst (acc ++ [z]))) := fun a o h => by
        rw [upd_ne (ne_of_none h hD)]
        exact ((p2.trans y1).trans e4) a o h
      refine ⟨exu, _, upd_same, ?_⟩
      rw [List.range_succ, List.map_append]
      exact DtAll.app ((p4.mono (y1.trans e4)).monoM (ExM.upd (List.mem_cons_self ..))) (.cons (h4.monoM (ExM.upd (List.mem_cons_self ..))) .nil)
  · intro H' p
    obtain ⟨p2, acc, p3, p4⟩ := p
    exact q Dl acc H' (Evl.fresh_back e1 hD) (e1.trans p2) p3 p4
theorem ef_lcG {tg elt iter : Expr} {scope : Scope} {own : List (Str × Nat)} {n : Nat} {Yd : Nat → Pd} {f : Nat → Pd} {δ' : Nat → Dl} {g : TG} (hc : X.calm = true) (hN : X.N.Nodup) (hi : IW X tg iter δ n Yd) (ok : BlkOk X.N X.env.scope scope own)
    (hg : ∀ (s : Shared) (H : Hp) (C : Addr) (cl : List (Str × Addr)) (fp : List Addr), PG (X.blk s H scope (compEnvC scope cl C X.env) fp) tg g)
    (hgt : ∀ (i : Nat) M v τ H, i < n → Kn X.K M H τ (wipeD δ (own.map (·.2))) → Dt X.K M H v (Yd i) → ∀ Q : St → Hp → Prop, (∀ τ', Kn X.K M H τ' (δ' i) → L2.wipe τ' (own.map (·.2)) = L2.wipe τ (own.map (·.2)) → Q τ' H) → g v τ H Q)
    (hn : n ≤ 50000)
    (he : ∀ (s : Shared) (H : Hp) (C : Addr) (cl : List (Str × Addr)) (fp : List Addr) (i : Nat), i < n → EE (X.blk s H scope (compEnvC scope cl C X.env) fp) elt (δ' i) (f i)) (hs : ∀ x, foldedSetIterable iter X.env x = pure x := by intro _; rfl) :
    EF X (.ListComp elt [⟨tg, iter, [], 0⟩] scope pos) δ ((List.range n).map f) := fun M σ H kn Q q =>
  ⟨_, pe_lc hc hN pi_w ok hg (fun _ _ _ _ _ => pts_nil) pe_te hs, lcG_read hi hgt hn he kn Q q⟩
/-- one name as the target -/
theorem ef_lc {tx : Str} {tp : Pos} {elt iter : Expr} {scope : Scope} {own : List (Str × Nat)} {n jx : Nat} {Yd : Nat → Pd} {f : Nat → Pd} (hc : X.calm = true) (hN : X.N.Nodup) (hi : IW X (.Name tx tp) iter δ n Yd) (ok : BlkOk X.N X.env.scope scope own)
    (hg : ∀ (s : Shared) (H : Hp) (C : Addr) (cl : List (Str × Addr)) (fp : List Addr), PG (X.blk s H scope (compEnvC scope cl C X.env) fp) (.Name tx tp) (gName jx)) (hj : jx ∈ own.map (·.2)) (hn : n ≤ 50000) (hf : ∀ i, i < n → Flat (f i))
    (he : ∀ (s : Shared) (H : Hp) (C : Addr) (cl : List (Str × Addr)) (fp : List Addr) (i : Nat), i < n → EE (X.blk s H scope (compEnvC scope cl C X.env) fp) elt ((wipeD δ (own.map (·.2))).set jx (some (Yd i))) (f i)) (hs : ∀ x, foldedSetIterable iter X.env x = pure x := by intro _; rfl) :
    EF X (.ListComp elt [⟨.Name tx tp, iter, [], 0⟩] scope pos) δ ((List.range n).map f) :=
  ef_lcG hc hN hi ok hg (fun i M v τ H _ k h Q q => q _ (k.set jx h) (wipe_set _ _ hj)) hn he hs
/-- the same, any elements -/
theorem ef_lcX {tx : Str} {tp : Pos} {elt iter : Expr} {scope : Scope} {own : List (Str × Nat)} {n jx : Nat} {Yd : Nat → Pd} {f : Nat → Pd} (hc : X.calm = true) (hN : X.N.Nodup) (hi : IW X (.Name tx tp) iter δ n Yd) (ok : BlkOk X.N X.env.scope scope own)
    (hg : ∀ (s : Shared) (H : Hp) (C : Addr) (cl : List (Str × Addr)) (fp : List Addr), PG (X.blk s H scope (compEnvC scope cl C X.env) fp) (.Name tx tp) (gName jx)) (hj : jx ∈ own.map (·.2)) (hn : n ≤ 50000)
    (he : ∀ (s : Shared) (H : Hp) (C : Addr) (cl : List (Str × Addr)) (fp : List Addr) (i : Nat), i < n → EE (X.blk s H scope (compEnvC scope cl C X.env) fp) elt ((wipeD δ (own.map (·.2))).set jx (some (Yd i))) (f i)) (hs : ∀ x, foldedSetIterable iter X.env x = pure x := by intro _; rfl) :
    EF X (.ListComp elt [⟨.Name tx tp, iter, [], 0⟩] scope pos) δ ((List.range n).map f) :=
  ef_lcG hc hN hi ok hg (fun i M v τ H _ k h Q q => q _ (k.set jx h) (wipe_set _ _ hj)) hn he hs
/-- a pair of names -/
theorem ef_lc2 {tx ty : Str} {tp tq tpos : Pos} {kk : Nat} {elt iter : Expr} {scope : Scope} {own : List (Str × Nat)} {n jx jy : Nat} {Ya Yb : Nat → Pd} {f : Nat → Pd} (hc : X.calm = true) (hN : X.N.Nodup) (hi : IW X (.Tuple [.Name tx tp, .Name ty tq] kk tpos) iter δ n (fun i => .tup [Ya i, Yb i])) (ok : BlkOk X.N X.env.scope scope own)
    (hg : ∀ (s : Shared) (H : Hp) (C : Addr) (cl : List (Str × Addr)) (fp : List Addr), PG (X.blk s H scope (compEnvC scope cl C X.env) fp) (.Tuple [.Name tx tp, .Name ty tq] kk tpos) (gTup X.K 2 (gCons (gName jx) (gCons (gName jy) gNil)))) (hj : jx ∈ own.map (·.2)) (hj2 : jy ∈ own.map (·.2)) (hn : n ≤ 50000) (hf : ∀ i, i < n → Flat (f i))
    (he : ∀ (s : Shared) (H : Hp) (C : Addr) (cl : List (Str × Addr)) (fp : List Addr) (i : Nat), i < n → EE (X.blk s H scope (compEnvC scope cl C X.env) fp) elt (((wipeD δ (own.map (·.2))).set jx (some (Ya i))).set jy (some (Yb i))) (f i)) (hs : ∀ x, foldedSetIterable iter X.env x = pure x := by intro _; rfl) :
    EF X (.ListComp elt [⟨.Tuple [.Name tx tp, .Name ty tq] kk tpos, iter, [], 0⟩] scope pos) δ ((List.range n).map f) :=
  ef_lcG hc hN hi ok hg (fun i M v τ H _ k h Q q => by
    obtain ⟨a, xs, rfl, h1, h2⟩ := dt_tp h
    cases h2 with
    | @cons v1 _ _ _ g1 h3 =>
      cases h3 with
      | @cons v2 _ _ _ g2 h4 =>
        cases h4
        exact ⟨a, _, rfl, Evl.st_of h1, rfl, v1, [v2], rfl, v2, [], rfl, rfl, q _ ((k.set jx g1).set jy g2) (by rw [wipe_set _ _ hj2, wipe_set _ _ hj])⟩) hn he hs
end
end Lr

/-! statements, loops, defs -/
namespace Lr
open PySem L2
open Evl (Ex)

section
variable {X : Cx} {δ : Dl} {a b c e : Expr} {es : List Expr} {rest body orelse : List Stmt} {pos : Pos} {d z d1 d2 : Pd} {ds : List Pd} {i j : Nat} {x y : Str} {D : Ends} {M : List Addr} {Hb H : Hp} {σ : L2.St}
theorem blk_nil (h : D.nx σ H) : Blk X [] D σ H := ⟨_, pss_nil, h⟩
/-- name = e, by its very value -/
theorem blk_setV (nd : X.N.Nodup) {p' : Pos} (i : Nat) (he : EE X e δ d) (k : EO X.K M Hb H σ δ) (q : ∀ v H', Ex H H' → Dt X.K M H' v d → EO X.K M Hb H' (σ.set i (some v)) (δ.set i (some d)) → Blk X rest D (σ.set i (some v)) H')
    (hi : X.N[i]? = some x := by rfl) (hx : Loc X.env.scope x := by first | exact Or.inl rfl | exact Or.inr rfl) (hs : swapsWith e (some (.Name x p')) pos.line X.env = pure false := by rfl)
    (hf : X.fn x = true ∨ X.env.scope.names.lookup x = some .local := by first | exact .inl rfl | exact .inr rfl) : Blk X (.Assign [.Name x p'] e pos :: rest) D σ H :=
  ⟨_, pss_cons (ps_set nd hi hx pe_w hs hf) pss_w, he M σ H k.kn _ fun v H' e1 h1 => q v H' e1 h1 ((k.mono e1).set i h1)⟩
theorem blk_set (nd : X.N.Nodup) {p' : Pos} (i : Nat) (he : EE X e δ d) (k : EO X.K M Hb H σ δ) (q : ∀ σ' H', Ex H H' → EO X.K M Hb H' σ' (δ.set i (some d)) → Blk X rest D σ' H')
    (hi : X.N[i]? = some x := by rfl) (hx : Loc X.env.scope x := by first | exact Or.inl rfl | exact Or.inr rfl) (hs : swapsWith e (some (.Name x p')) pos.line X.env = pure false := by rfl)
    (hf : X.fn x = true ∨ X.env.scope.names.lookup x = some .local := by first | exact .inl rfl | exact .inr rfl) : Blk X (.Assign [.Name x p'] e pos :: rest) D σ H :=
  blk_setV nd i he k (fun v H' e1 _ k1 => q _ H' e1 k1) hi hx hs hf
/-- name = a new list -/
theorem blk_setF (nd : X.N.Nodup) {p' : Pos} (i : Nat) (he : EF X e δ ds) (k : EO X.K M Hb H σ δ) (q : ∀ a xs H', H a = none → Ex H H' → H' a = some (.lst xs) → DtAll X.K (a :: M) H' xs ds → EO X.K M Hb H' σ δ → Blk X rest D (σ.set i (some (.ref a))) H')
    (hi : X.N[i]? = some x := by rfl) (hx : Loc X.env.scope x := by first | exact Or.inl rfl | exact Or.inr rfl) (hs : swapsWith e (some (.Name x p')) pos.line X.env = pure false := by rfl)
    (hf : X.fn x = true ∨ X.env.scope.names.lookup x = some .local := by first | exact .inl rfl | exact .inr rfl) : Blk X (.Assign [.Name x p'] e pos :: rest) D σ H :=
  ⟨_, pss_cons (ps_set nd hi hx pe_w hs hf) pss_w, he M σ H k.kn _ fun v xs H' n1 e1 h1 h2 => q v xs H' n1 e1 h1 h2 (k.mono e1)⟩
/-- name = a new row -/
theorem blk_setW (nd : X.N.Nodup) {p' : Pos} {r : List Int × List Int} (i : Nat) (he : EWR X e δ r) (k : EO X.K M Hb H σ δ) (q : ∀ p a b H', H p = none → H a = none → H b = none → a ≠ b → Ex H H' → H' p = some (.tup [.ref a, .ref b]) →
  H' a = some (.lst (r.1.map V.int)) → H' b = some (.lst (r.2.map V.int)) → EO X.K M Hb H' (σ.set i (some (.ref p))) (δ.set i (some (dR r))) → Blk X rest D (σ.set i (some (.ref p))) H')
    (hi : X.N[i]? = some x := by rfl) (hx : Loc X.env.scope x := by first | exact Or.inl rfl | exact Or.inr rfl) (hs : swapsWith e (some (.Name x p')) pos.line X.env = pure false := by rfl)
    (hf : X.fn x = true ∨ X.env.scope.names.lookup x = some .local := by first | exact .inl rfl | exact .inr rfl) : Blk X (.Assign [.Name x p'] e pos :: rest) D σ H :=
  ⟨_, pss_cons (ps_set nd hi hx pe_w hs hf) pss_w, he M σ H k.kn _ fun p a b H' hp ha hb ab e1 h1 h2 h3 => q p a b H' hp ha hb ab e1 h1 h2 h3 ((k.mono e1).set i (dt_row k.kn.al hp ha hb h1 h2 h3))⟩
/-- name = [..], the name a local, on one line -/
theorem blk_setLcG {tg elt iter : Expr} {scope : Scope} {own : List (Str × Nat)} {n : Nat} {Yd : Nat → Pd} {f : Nat → Pd} {δ' : Nat → Dl} {g : TG} {py cp : Pos} (nd : X.N.Nodup) (hc : X.calm = true) (hi : IW X tg iter δ n Yd) (ok : BlkOk X.N X.env.scope scope own)
    (hg : ∀ (s : Shared) (H : Hp) (C : Addr) (cl : List (Str × Addr)) (fp : List Addr), PG (X.blk s H scope (compEnvC scope cl C X.env) fp) tg g)
    (hgt : ∀ (i : Nat) M v τ H, i < n → Kn X.K M H τ (wipeD δ (own.map (·.2))) → Dt X.K M H v (Yd i) → ∀ Q : St → Hp → Prop, (∀ τ', Kn X.K M H τ' (δ' i) → L2.wipe τ' (own.map (·.2)) = L2.wipe τ (own.map (·.2)) → Q τ' H) → g v τ H Q)
    (hn : n ≤ 50000)
    (he : ∀ (s : Shared) (H : Hp) (C : Addr) (cl : List (Str × Addr)) (fp : List Addr) (i : Nat), i < n → EE (X.blk s H scope (compEnvC scope cl C X.env) fp) elt (δ' i) (f i))
    (k : EO X.K M Hb H σ δ) (q : ∀ a xs H', H a = none → Ex H H' → H' a = some (.lst xs) → DtAll X.K (a :: M) H' xs ((List.range n).map f) → EO X.K M Hb H' σ δ → Blk X rest D (σ.set i (some (.ref a))) H')
    (hi' : X.N[i]? = some y) (hyl : X.env.scope.names.lookup y = some .local) (hsw : swapsWith (.ListComp elt [⟨tg, iter, [], 0⟩] scope cp) (some (.Name y py)) pos.line X.env = pure true) (hs : ∀ x, foldedSetIterable iter X.env x = pure x) :
    Blk X (.Assign [.Name y py] (.ListComp elt [⟨tg, iter, [], 0⟩] scope cp) pos :: rest) D σ H :=
  ⟨_, pss_cons (ps_setLc hc nd hi' hyl hsw pi_w ok hg (fun _ _ _ _ _ => pts_nil) pe_te hs) pss_w, lcG_read hi hgt hn he k.kn (fun x H1 => gName i x σ H1 (Blk X rest D)) fun a xs H' n1 e1 h1 h2 => q a xs H' n1 e1 h1 h2 (k.mono e1)⟩
theorem blk_setLc {tx : Str} {tp : Pos} {elt iter : Expr} {scope : Scope} {own : List (Str × Nat)} {n jx : Nat} {Yd : Nat → Pd} {f : Nat → Pd} {py cp : Pos} (nd : X.N.Nodup) (i : Nat) (hc : X.calm = true) (hi : IW X (.Name tx tp) iter δ n Yd) (ok : BlkOk X.N X.env.scope scope own)
    (hg : ∀ (s : Shared) (H : Hp) (C : Addr) (cl : List (Str × Addr)) (fp : List Addr), PG (X.blk s H scope (compEnvC scope cl C X.env) fp) (.Name tx tp) (gName jx)) (hj : jx ∈ own.map (·.2))
    (hn : n ≤ 50000) (hf : ∀ i, i < n → Flat (f i))
    (he : ∀ (s : Shared) (H : Hp) (C : Addr) (cl : List (Str × Addr)) (fp : List Addr) (i : Nat), i < n → EE (X.blk s H scope (compEnvC scope cl C X.env) fp) elt ((wipeD δ (own.map (·.2))).set jx (some (Yd i))) (f i))
    (k : EO X.K M Hb H σ δ) (q : ∀ a xs H', H a = none → Ex H H' → H' a = some (.lst xs) → DtAll X.K (a :: M) H' xs ((List.range n).map f) → EO X.K M Hb H' σ δ → Blk X rest D (σ.set i (some (.ref a))) H')
    (hi' : X.N[i]? = some y := by rfl) (hyl : X.env.scope.names.lookup y = some .local := by rfl) (hsw : swapsWith (.ListComp elt [⟨.Name tx tp, iter, [], 0⟩] scope cp) (some (.Name y py)) pos.line X.env = pure true := by exact sw_true rfl rfl rfl (by decide +kernel)) (hs : ∀ x, foldedSetIterable iter X.env x = pure x := by intro _; rfl) :
    Blk X (.Assign [.Name y py] (.ListComp elt [⟨.Name tx tp, iter, [], 0⟩] scope cp) pos :: rest) D σ H :=
  blk_setLcG nd hc hi ok hg (fun i M v τ H _ k h Q q => q _ (k.set jx h) (wipe_set _ _ hj)) hn he k q hi' hyl hsw hs
theorem blk_setLcX {tx : Str} {tp : Pos} {elt iter : Expr} {scope : Scope} {own : List (Str × Nat)} {n jx : Nat} {Yd : Nat → Pd} {f : Nat → Pd} {py cp : Pos} (nd : X.N.Nodup) (i : Nat) (hc : X.calm = true) (hi : IW X (.Name tx tp) iter δ n Yd) (ok : BlkOk X.N X.env.scope scope own)
    (hg : ∀ (s : Shared) (H : Hp) (C : Addr) (cl : List (Str × Addr)) (fp : List Addr), PG (X.blk s H scope (compEnvC scope cl C X.env) fp) (.Name tx tp) (gName jx)) (hj : jx ∈ own.map (·.2))
    (hn : n ≤ 50000)
    (he : ∀ (s : Shared) (H : Hp) (C : Addr) (cl : List (Str × Addr)) (fp : List Addr) (i : Nat), i < n → EE (X.blk s H scope (compEnvC scope cl C X.env) fp) elt ((wipeD δ (own.map (·.2))).set jx (some (Yd i))) (f i))
    (k : EO X.K M Hb H σ δ) (q : ∀ a xs H', H a = none → Ex H H' → H' a = some (.lst xs) → DtAll X.K (a :: M) H' xs ((List.range n).map f) → EO X.K M Hb H' σ δ → Blk X rest D (σ.set i (some (.ref a))) H')
    (hi' : X.N[i]? = some y := by rfl) (hyl : X.env.scope.names.lookup y = some .local := by rfl) (hsw : swapsWith (.ListComp elt [⟨.Name tx tp, iter, [], 0⟩] scope cp) (some (.Name y py)) pos.line X.env = pure true := by exact sw_true rfl rfl rfl (by decide +kernel)) (hs : ∀ x, foldedSetIterable iter X.env x = pure x := by intro _; rfl) :
    Blk X (.Assign [.Name y py] (.ListComp elt [⟨.Name tx tp, iter, [], 0⟩] scope cp) pos :: rest) D σ H :=
  blk_setLcG nd hc hi ok hg (fun i M v τ H _ k h Q q => q _ (k.set jx h) (wipe_set _ _ hj)) hn he k q hi' hyl hsw hs
theorem blk_setLc2 {tx ty : Str} {tp tq tpos : Pos} {kk : Nat} {elt iter : Expr} {scope : Scope} {own : List (Str × Nat)} {n jx jy : Nat} {Ya Yb : Nat → Pd} {f : Nat → Pd} {py cp : Pos} (nd : X.N.Nodup) (i : Nat) (hc : X.calm = true) (hi : IW X (.Tuple [.Name tx tp, .Name ty tq] kk tpos) iter δ n (fun i => .tup [Ya i, Yb i])) (ok : BlkOk X.N X.env.scope scope own)
    (hg : ∀ (s : Shared) (H : Hp) (C : Addr) (cl : List (Str × Addr)) (fp : List Addr), PG (X.blk s H scope (compEnvC scope cl C X.env) fp) (.Tuple [.Name tx tp, .Name ty tq] kk tpos) (gTup X.K 2 (gCons (gName jx) (gCons (gName jy) gNil)))) (hj : jx ∈ own.map (·.2)) (hj2 : jy ∈ own.map (·.2))
    (hn : n ≤ 50000) (hf : ∀ i, i < n → Flat (f i))
    (he : ∀ (s : Shared) (H : Hp) (C : Addr) (cl : List (Str × Addr)) (fp : List Addr) (i : Nat), i < n → EE (X.blk s H scope (compEnvC scope cl C X.env) fp) elt (((wipeD δ (own.map (·.2))).set jx (some (Ya i))).set jy (some (Yb i))) (f i))
    (k : EO X.K M Hb H σ δ) (q : ∀ a xs H', H a = none → Ex H H' → H' a = some (.lst xs) → DtAll X.K (a :: M) H' xs ((List.range n).map f) → EO X.K M Hb H' σ δ → Blk X rest D (σ.set i (some (.ref a))) H')
    (hi' : X.N[i]? = some y := by rfl) (hyl : X.env.scope.names.lookup y = some .local := by rfl) (hsw : swapsWith (.ListComp elt [⟨.Tuple [.Name tx tp, .Name ty tq] kk tpos, iter, [], 0⟩] scope cp) (some (.Name y py)) pos.line X.env = pure true := by exact sw_true rfl rfl rfl (by decide +kernel)) (hs : ∀ x, foldedSetIterable iter X.env x = pure x := by intro _; rfl) :
    Blk X (.Assign [.Name y py] (.ListComp elt [⟨.Tuple [.Name tx tp, .Name ty tq] kk tpos, iter, [], 0⟩] scope cp) pos :: rest) D σ H :=
  blk_setLcG nd hc hi ok hg (fun i M v τ H _ k h Q q => by
    obtain ⟨a, xs, rfl, h1, h2⟩ := dt_tp h
    cases h2 with
    | @cons v1 _ _ _ g1 h3 =>
      cases h3 with
      | @cons v2 _ _ _ g2 h4 =>
        cases h4
        exact ⟨a, _, rfl, Evl.st_of h1, rfl, v1, [v2], rfl, v2, [], rfl, rfl, q _ ((k.set jx g1).set jy g2) (by rw [wipe_set _ _ hj2, wipe_set _ _ hj])⟩) hn he k q hi' hyl hsw hs
/-- a, b = e -/
theorem blk_unpack {px py pt : Pos} {kk : Nat} (nd : X.N.Nodup) (i j : Nat) (hc : X.calm = true) (he : EE X e δ (.tup [d1, d2])) (k : EO X.K M Hb H σ δ) (q : ∀ σ' H', Ex H H' → EO X.K M Hb H' σ' ((δ.set i (some d1)).set j (some d2)) → Blk X rest D σ' H')
    (hi : X.N[i]? = some x := by rfl) (hj : X.N[j]? = some y := by rfl) (hx : Loc X.env.scope x := by first | exact Or.inl rfl | exact Or.inr rfl) (hy : Loc X.env.scope y := by first | exact Or.inl rfl | exact Or.inr rfl)
    (hs : swapsWithSole [.Tuple [.Name x px, .Name y py] kk pt] e pos.line X.env = pure false := by rfl) (hw : swappedStores [.Tuple [.Name x px, .Name y py] kk pt] e X.env = pure none := by rfl)
    (h1 : (assignEach [.Tuple [.Name x px, .Name y py] kk pt] X.env).map (·.2) = [assign (.Tuple [.Name x px, .Name y py] kk pt) X.env] := by rfl)
    (hf : X.fn x = true ∨ X.env.scope.names.lookup x = some .local := by first | exact .inl rfl | exact .inr rfl) (hf2 : X.fn y = true ∨ X.env.scope.names.lookup y = some .local := by first | exact .inl rfl | exact .inr rfl) :
    Blk X (.Assign [.Tuple [.Name x px, .Name y py] kk pt] e pos :: rest) D σ H :=
  ⟨_, pss_cons (ps_asg pe_w (pg_tup hc (pgs_cons (pg_name nd hi hx hf) (pgs_cons (pg_name nd hj hy hf2) pgs_nil))) hs hw h1) pss_w, he M σ H k.kn _ fun v H' e1 h => by
    obtain ⟨a, xs, rfl, h1, h2⟩ := dt_tp h
    cases h2 with
    | @cons v1 _ _ _ g1 h3 =>
      cases h3 with
      | @cons v2 _ _ _ g2 h4 =>
        cases h4
        exact ⟨a, _, rfl, Evl.st_of h1, rfl, v1, [v2], rfl, v2, [], rfl, rfl, q _ H' e1 (((k.mono e1).set i g1).set j g2)⟩⟩
/-- a, b = e1, e2 (both local) -/
theorem blk_par {px py pt pt2 : Pos} {kt k2 : Nat} (nd : X.N.Nodup) (i j : Nat) (hc : X.calm = true) (ha : EE X a δ d1) (hb : EE X b δ d2) (k : EO X.K M Hb H σ δ) (q : ∀ σ' H', Ex H H' → EO X.K M Hb H' σ' ((δ.set i (some d1)).set j (some d2)) → Blk X rest D σ' H')
    (hi : X.N[i]? = some x := by rfl) (hj : X.N[j]? = some y := by rfl) (hij : i ≠ j := by decide) (hx : X.env.scope.names.lookup x = some .local := by rfl) (hy : X.env.scope.names.lookup y = some .local := by rfl)
    (hw : swappedStores [.Tuple [.Name x px, .Name y py] kt pt] (.Tuple [a, b] k2 pt2) X.env = pure (some [x, y]) := by rfl)
    (hs : swapsWithSole [.Tuple [.Name x px, .Name y py] kt pt] (.Tuple [a, b] k2 pt2) pos.line X.env = pure false := by rfl)
    (s1 : starEach [a, b] X.env = (false, eval a X.env) :: starEach [b] X.env := by rfl) (s2 : starEach [b] X.env = (false, eval b X.env) :: starEach [] X.env := by rfl) :
    Blk X (.Assign [.Tuple [.Name x px, .Name y py] kt pt] (.Tuple [a, b] k2 pt2) pos :: rest) D σ H :=
  ⟨_, pss_cons (ps_par hc nd hi hj hij hx hy (pa_cons pe_w (pa_cons pe_w pa_nil s2) s1) hw hs) pss_w, ha M σ H k.kn _ fun v H1 e1 h1 => hb M σ H1 (k.kn.mono e1) _ fun w H2 e2 h2 =>
    ⟨v, w, rfl, q _ H2 (e1.trans e2) (((k.mono (e1.trans e2)).set i (h1.mono e2)).set j h2)⟩⟩
theorem blk_ret (he : EE X e δ d) (k : EO X.K M Hb H σ δ) (q : ∀ v H', Ex Hb H' → Dt X.K M H' v d → D.rt v H') : Blk X (.Return (some e) pos :: rest) D σ H :=
  ⟨_, pss_cons (ps_ret pe_w) (u := tNever) pss_never, he M σ H k.kn _ fun v H' e1 h1 => q v H' (k.ex.trans e1) h1⟩
theorem blk_retF (he : EF X e δ ds) (k : EO X.K M Hb H σ δ) (q : ∀ a xs H', Hb a = none → Ex Hb H' → H' a = some (.lst xs) → DtAll X.K (a :: M) H' xs ds → D.rt (.ref a) H') : Blk X (.Return (some e) pos :: rest) D σ H :=
  ⟨_, pss_cons (ps_ret pe_w) (u := tNever) pss_never, he M σ H k.kn _ fun v xs H' n1 e1 h1 h2 => q v xs H' (Evl.fresh_back k.ex n1) (k.ex.trans e1) h1 h2⟩
theorem blk_retW {r : List Int × List Int} (he : EWR X e δ r) (k : EO X.K M Hb H σ δ) (q : ∀ p a b H', Hb p = none → Hb a = none → Hb b = none → a ≠ b → Ex Hb H' → H' p = some (.tup [.ref a, .ref b]) →
  H' a = some (.lst (r.1.map V.int)) → H' b = some (.lst (r.2.map V.int)) → D.rt (.ref p) H') : Blk X (.Return (some e) pos :: rest) D σ H :=
  ⟨_, pss_cons (ps_ret pe_w) (u := tNever) pss_never, he M σ H k.kn _ fun p a b H' hp ha hb ab e1 h1 h2 h3 => q p a b H' (Evl.fresh_back k.ex hp) (Evl.fresh_back k.ex ha) (Evl.fresh_back k.ex hb) ab (k.ex.trans e1) h1 h2 h3⟩
theorem blk_if {t : Bool} (h : ET X c δ t) (k : EO X.K M Hb H σ δ) (h1 : t = true → ∀ H', Ex H H' → EO X.K M Hb H' σ δ → Blk X body { D with nx := Blk X rest D } σ H')
    (h2 : t = false → ∀ H', Ex H H' → EO X.K M Hb H' σ δ → Blk X orelse { D with nx := Blk X rest D } σ H') : Blk X (.If c body orelse pos :: rest) D σ H :=
  ⟨_, pss_cons (ps_if pt_w pss_w pss_w) pss_w, h M σ H k.kn _ fun H1 e1 => by
    cases t with
    | true => exact iteT (h1 rfl H1 e1 (k.mono e1))
    | false => exact iteF (h2 rfl H1 e1 (k.mono e1))⟩
/-- an if without else -/
theorem blk_when {t : Bool} (h : ET X c δ t) (k : EO X.K M Hb H σ δ) (h1 : t = true → ∀ H', Ex H H' → EO X.K M Hb H' σ δ → Blk X body { D with nx := Blk X rest D } σ H')
    (h2 : t = false → ∀ H', Ex H H' → EO X.K M Hb H' σ δ → Blk X rest D σ H') : Blk X (.If c body [] pos :: rest) D σ H :=
  blk_if h k h1 fun e H' e1 k1 => blk_nil (h2 e H' e1 k1)
/-- a test whose way is known -/
theorem blk_no (h : ET X c δ false) (k : EO X.K M Hb H σ δ) (h2 : ∀ H', Ex H H' → EO X.K M Hb H' σ δ → Blk X rest D σ H') : Blk X (.If c body [] pos :: rest) D σ H :=
  blk_when h k (fun e => Bool.noConfusion e) fun _ => h2
/-- the ways of an if meet in a word -/
theorem blk_ifM {t : Bool} (Mid : L2.St → Hp → Prop) (h : ET X c δ t) (k : EO X.K M Hb H σ δ) (h1 : t = true → ∀ H', Ex H H' → EO X.K M Hb H' σ δ → Blk X body { D with nx := Mid } σ H')
    (h2 : t = false → ∀ H', Ex H H' → EO X.K M Hb H' σ δ → Blk X orelse { D with nx := Mid } σ H') (q : ∀ σ' H', Mid σ' H' → Blk X rest D σ' H') : Blk X (.If c body orelse pos :: rest) D σ H :=
  ⟨_, Evl.pss_cut (ps_if pt_w pss_w pss_w) pss_w, Mid, h M σ H k.kn _ fun H1 e1 => by
    cases t with
    | true => exact iteT (h1 rfl H1 e1 (k.mono e1))
    | false => exact iteF (h2 rfl H1 e1 (k.mono e1)), q⟩
/-- if c: name = e, told by the value that the name has behind it -/
theorem blk_ifSet {t : Bool} {p' ap : Pos} (nd : X.N.Nodup) (i : Nat) (h : ET X c δ t) (he : t = true → EE X e δ d) (hne : t = false → δ[i]? = some (some d)) (k : EO X.K M Hb H σ δ) (q : ∀ σ' H', Ex H H' → EO X.K M Hb H' σ' (δ.set i (some d)) → Blk X rest D σ' H')
    (hi : X.N[i]? = some x := by rfl) (hx : Loc X.env.scope x := by first | exact Or.inl rfl | exact Or.inr rfl) (hs : swapsWith e (some (.Name x p')) ap.line X.env = pure false := by rfl)
    (hf : X.fn x = true ∨ X.env.scope.names.lookup x = some .local := by first | exact .inl rfl | exact .inr rfl) : Blk X (.If c [.Assign [.Name x p'] e ap] [] pos :: rest) D σ H :=
  blk_ifM (fun σ' H' => Ex H H' ∧ EO X.K M Hb H' σ' (δ.set i (some d))) h k (fun ht H1 e1 k1 => blk_set nd i (he ht) k1 (fun σ' H' e2 k2 => blk_nil ⟨e1.trans e2, k2⟩) hi hx hs hf)
    (fun ht H1 e1 k1 => blk_nil ⟨e1, k1.ex, k1.kn.turn (hne ht) fun _ h => h⟩) fun σ' H' m => q σ' H' m.1 m.2
theorem blk_aug {f : Int → Int → Int} {op : Operator} {m n : Int} {p' : Pos} (nd : X.N.Nodup) (i : Nat) (ho : PIp X op (ipI f)) (hd : δ[i]? = some (some (.int m))) (he : EE X e δ (.int n)) (k : EO X.K M Hb H σ δ) (q : ∀ σ' H', Ex H H' → EO X.K M Hb H' σ' (δ.set i (some (.int (f m n)))) → Blk X rest D σ' H')
    (hi : X.N[i]? = some x := by rfl) (hx : Loc X.env.scope x := by first | exact Or.inl rfl | exact Or.inr rfl) (hf : X.fn x = true ∨ X.env.scope.names.lookup x = some .local := by first | exact .inl rfl | exact .inr rfl) :
    Blk X (.AugAssign (.Name x p') op e pos :: rest) D σ H :=
  ⟨_, pss_cons (ps_aug nd hi hx pe_w ho hf) pss_w, by
    obtain ⟨v, h1, h2⟩ := k.kn.at_ i _ hd
    refine ⟨v, h1, he M σ H k.kn _ fun w H' e1 h3 => ⟨m, n, dt_int h2, dt_int h3, q _ H' e1 ((k.mono e1).set i (.int _))⟩⟩⟩
theorem blk_drop (he : EE X e δ d) (k : EO X.K M Hb H σ δ) (q : ∀ H', Ex H H' → EO X.K M Hb H' σ δ → Blk X rest D σ H') (hs : swapsWith e none pos.line X.env = pure false := by rfl) : Blk X (.Expr e pos :: rest) D σ H :=
  ⟨_, pss_cons (ps_expr pe_w hs) pss_w, he M σ H k.kn _ fun v H' e1 h1 => q H' e1 (k.mono e1)⟩
theorem blk_retB {t : Bool} {k0 : Nat} {p1 : Pos} (k : EO X.K M Hb H σ δ) (q : ∀ H', Ex Hb H' → D.rt (.bl t) H') : Blk X (.Return (some (.Constant (.bool t) k0 p1)) pos :: rest) D σ H :=
  blk_ret ee_bl k fun v H' e1 h1 => by
    rw [dt_bl h1]
    exact q H' e1
/-- o.append(e), o a list set apart -/
theorem blk_append {o : Expr} {l : Addr} {xs : List V} {apos cp : Pos} (ho : EE X o δ (.raw (.ref l))) (he : EE X e δ d) (hl : H l = some (.lst xs)) (hz : xs.length < 100000) (hM : l ∈ M) (hb : Hb l = none) (k : EO X.K M Hb H σ δ)
    (q : ∀ v H1, Ex H H1 → Dt X.K M H1 v d → EO X.K M Hb (L2.upd H1 l (.lst (xs ++ [v]))) σ δ → Blk X rest D σ (L2.upd H1 l (.lst (xs ++ [v]))))
    (hs : swapsWith (.Call (.Attribute o "append" apos) [e] [] cp) none pos.line X.env = pure false := by rfl) (hbase : attributeBase o "append" X.env (eval o X.env) = eval o X.env := by rfl)
    (hfew : ((backTo cp (starEach [e] X.env)).all (fun x => !x.1) && (backToKw cp (keywordEach [] X.env)).all (fun x => x.1.isSome)
      && decide ([e].length + ([] : List Keyword).length + (if ([] : List Keyword).isEmpty then 0 else 1) < 30)) = true := by rfl)
    (hline : (apos.endLine == cp.line) = true := by rfl) (hst : starEach [e] X.env = (false, eval e X.env) :: starEach [] X.env := by rfl) (hplain : (backTo cp (starEach [] X.env)).any (·.1) = false := by rfl) :
    Blk X (.Expr (.Call (.Attribute o "append" apos) [e] [] cp) pos :: rest) D σ H :=
  ⟨_, pss_cons (ps_expr (pe_bm PySem.F.plainAttrs_list PySem.F.slot_list_append PySem.F.type_list_append mt_append pe_w (pa_cons pe_w pa_nil hst) hbase hfew hline hst hplain) hs) pss_w, ho M σ H k.kn _ fun v H1 e1 h1 => by
    cases dt_raw h1
    refine ⟨.inl ⟨rfl, xs, Evl.sq_of (e1 _ _ hl)⟩, he M σ H1 (k.kn.mono e1) _ fun u H2 e2 h2 => ⟨l, xs, u, rfl, rfl, e2 _ _ (e1 _ _ hl), Evl.sz_lt hz, ?_⟩⟩
    exact q u H2 (e1.trans e2) h2 ⟨Evl.Ex.mut (k.ex.trans (e1.trans e2)) hb, (k.kn.mono (e1.trans e2)).upd hM⟩⟩
/-! ### loops -/
theorem blk_forG {tg iter : Expr} {n : Nat} {Yd : Nat → Pd} {g : TG} (hp : PassesOwn (model X.prog X.w) X.A X.env X.xe) (hc : X.calm = true) (hi : IW X tg iter δ n Yd) (hg : PG X tg g) (k : EO X.K M Hb H σ δ) (Pv : Hp → Nat → L2.St → Hp → Prop)
    (hM : ∀ B i σ' H', Pv B i σ' H' → ExM M B H' ∧ Al M H')
    (h0 : ∀ H1, Ex H H1 → EO X.K M Hb H1 σ δ → Pv H1 0 σ H1)
    (hs : ∀ B i v σ' H' H2, i < n → Ex H B → Pv B i σ' H' → Ex H' H2 → Dt X.K M H2 v (Yd i) → g v σ' H2 fun σ2 H3 => Blk X body { D with nx := Pv B (i + 1), ct := Pv B (i + 1), bk := Blk X rest D } σ2 H3)
    (hd : ∀ B σ' H', Ex H B → Pv B n σ' H' → Blk X rest D σ' H') (hfs : ∀ x, foldedSetIterable iter X.env x = pure x := by intro _; rfl) : Blk X (.For tg iter body [] pos :: rest) D σ H :=
  ⟨_, pss_cons (ps_for hp hc pi_w hg pss_w hfs) pss_w, hi M σ H k.kn _ fun J H1 G Y e1 w hG hY => for_it w (D := { D with nx := Blk X rest D }) (Pv H1) (h0 H1 e1 (k.mono e1)) (fun i σ' H' _ p => hG H' (hM _ _ _ _ p).1)
    (fun i v σ' H' H2 hlt p y => by
      obtain ⟨m1, m2⟩ := hM _ _ _ _ p
      obtain ⟨y1, y2⟩ := hY M i H' v H2 (fun a ha => .inl ha) hlt y m1 m2
      exact hs H1 i v σ' H' H2 hlt e1 p y1 y2) (fun σ' H' p => hd H1 σ' H' e1 p)⟩
/-- for x in .. -/
theorem blk_for {iter : Expr} {n : Nat} {Yd : Nat → Pd} {p' : Pos} (nd : X.N.Nodup) (j : Nat) (hp : PassesOwn (model X.prog X.w) X.A X.env X.xe) (hc : X.calm = true) (hi : IW X (.Name x p') iter δ n Yd) (k : EO X.K M Hb H σ δ) (Pv : Hp → Nat → L2.St → Hp → Prop)
    (hM : ∀ B i σ' H', Pv B i σ' H' → ExM M B H' ∧ Al M H')
    (h0 : ∀ H1, Ex H H1 → EO X.K M Hb H1 σ δ → Pv H1 0 σ H1)
    (hs : ∀ B i v σ' H' H2, i < n → Ex H B → Pv B i σ' H' → Ex H' H2 → Dt X.K M H2 v (Yd i) → Blk X body { D with nx := Pv B (i + 1), ct := Pv B (i + 1), bk := Blk X rest D } (σ'.set j (some v)) H2)
    (hd : ∀ B σ' H', Ex H B → Pv B n σ' H' → Blk X rest D σ' H') (hj : X.N[j]? = some x := by rfl) (hx : Loc X.env.scope x := by first | exact Or.inl rfl | exact Or.inr rfl)
    (hf : X.fn x = true ∨ X.env.scope.names.lookup x = some .local := by first | exact .inl rfl | exact .inr rfl) (hfs : ∀ x, foldedSetIterable iter X.env x = pure x := by intro _; rfl) : Blk X (.For (.Name x p') iter body [] pos :: rest) D σ H :=
  blk_forG hp hc hi (pg_name nd hj hx hf) k Pv hM h0 (fun B i v σ' H' H2 a b c d e => hs B i v σ' H' H2 a b c d e) hd hfs
theorem blk_while {cnd : Expr} (hp : PassesOwn (model X.prog X.w) X.A X.env X.xe) (W : Nat → L2.St → Hp → Prop) (m0 : Nat) (h0 : W m0 σ H)
    (hs : ∀ m σ' H', W m σ' H' → ∃ δ' t M', Kn X.K M' H' σ' δ' ∧ ET X cnd δ' t ∧ (t = true → ∀ H1, Ex H' H1 → Blk X body { D with nx := fun σ2 H2 => ∃ m', m' < m ∧ W m' σ2 H2, ct := fun σ2 H2 => ∃ m', m' < m ∧ W m' σ2 H2, bk := Blk X rest D } σ' H1) ∧ (t = false → ∀ H1, Ex H' H1 → Blk X rest D σ' H1)) :
    Blk X (.While cnd body [] pos :: rest) D σ H :=
  ⟨_, pss_cons (ps_while hp pt_w pss_w) pss_w, W, ⟨m0, h0⟩, fun m σ' H' hw => by
    obtain ⟨δ', t, M', k, ht, h1, h2⟩ := hs m σ' H' hw
    refine ht M' σ' H' k _ fun H1 e1 => ?_
    cases t with
    | true => exact iteT ⟨_, fun _ _ h => h, h1 rfl H1 e1⟩
    | false => exact iteF (h2 rfl H1 e1)⟩
end

/-! ### defs -/
def startD (N : List Str) (ds : List Pd) : Dl := ds.map some ++ List.replicate (N.length - ds.length) none
theorem start_kn {K : PySem.W.Frag} {M : List Addr} {H : Hp} {N : List Str} {vs : List V} {ds : List Pd} (al : Al M H) (h : DtAll K M H vs ds) : Kn K M H (L2.start N vs) (startD N ds) := by
  refine ⟨?_, fun i d e => ?_, al⟩
  · unfold L2.start startD
    rw [List.length_append, List.length_append, List.length_map, List.length_map, List.length_replicate, List.length_replicate, h.length]
  · unfold L2.start startD at *
    by_cases hi : i < ds.length
    · rw [List.getElem?_append_left (by rw [List.length_map]; exact hi), List.getElem?_map] at e
      cases hd : ds[i]? with
      | none =>
        rw [hd] at e
        cases e
      | some d' =>
        rw [hd] at e
        cases e
        obtain ⟨v, h1, h2⟩ := h.get hd
        refine ⟨v, ?_, h2⟩
        rw [List.getElem?_append_left (by rw [List.length_map, h.length]; exact hi), List.getElem?_map, h1]
        rfl
    · rw [List.getElem?_append_right (by rw [List.length_map]; omega), List.getElem?_replicate] at e
      split at e <;> cases e
section
variable {P : Program} {w : World} {K : PySem.W.Frag} {mg : Str → Option Value} {base : Heap} {x qual : Str} {st : Stmt} {f : Addr} {fd : FuncData} {N ps : List Str} {k : Nat}
theorem ok_R {R : List Pd → Pd → Prop} (F : Fun K x qual st f fd) (S : FnScope N ps (defScope st)) (hl : ∀ ds d, R ds d → ds.length = ps.length)
    (body : ∀ (cdv : Value) (A : Around) (outer : List PySem.Env) (s : Shared) (M : List Addr) (H : Hp) (vs : List V) (ds : List Pd) (d : Pd) (Q : VK) (E : XK), Room k (A.deeper (PyProof.Rows.envOfC qual (defScope st) s.heap.objs.size f cdv)) → R ds d → EO K M H H (L2.start N vs) (startD N ds) →
      (∀ v H', Ex H H' → Dt K M H' v d → Q v H') → Blk (cxOf CX0 P w K mg base N qual (defScope st) f cdv A outer s H E).nox (defBody st) { nx := fun _ H' => Q .non H', rt := Q } (L2.start N vs) H) : FnOk P w K mg base CX0 (k + 1) f fd ps (SpR K R) := by
  refine F.ok S (fun vs H Q E h => ?_) (fun cdv A outer s H vs Q E hr h => ?_)
  · obtain ⟨M, ds, d, _, h1, h2, _⟩ := h
    rw [h1.length]
    exact hl ds d h2
  · obtain ⟨M, ds, d, al, h1, h2, q⟩ := h
    exact body cdv A outer s M H vs ds d Q E hr h2 ⟨Evl.Ex.refl H, start_kn al h1⟩ q
theorem ok_F {R : List Pd → List Pd → Prop} (F : Fun K x qual st f fd) (S : FnScope N ps (defScope st)) (hl : ∀ ds d, R ds d → ds.length = ps.length)
    (body : ∀ (cdv : Value) (A : Around) (outer : List PySem.Env) (s : Shared) (M : List Addr) (H : Hp) (vs : List V) (ds zs : List Pd) (Q : VK) (E : XK), Room k (A.deeper (PyProof.Rows.envOfC qual (defScope st) s.heap.objs.size f cdv)) → R ds zs → EO K M H H (L2.start N vs) (startD N ds) →
      (∀ a xs H', H a = none → Ex H H' → H' a = some (.lst xs) → DtAll K (a :: M) H' xs zs → Q (.ref a) H') → Blk (cxOf CX0 P w K mg base N qual (defScope st) f cdv A outer s H E).nox (defBody st) { nx := fun _ H' => Q .non H', rt := Q } (L2.start N vs) H) : FnOk P w K mg base CX0 (k + 1) f fd ps (SpF K R) := by
  refine F.ok S (fun vs H Q E h => ?_) (fun cdv A outer s H vs Q E hr h => ?_)
  · obtain ⟨M, ds, d, _, h1, h2, _⟩ := h
    rw [h1.length]
    exact hl ds d h2
  · obtain ⟨M, ds, d, al, h1, h2, q⟩ := h
    exact body cdv A outer s M H vs ds d Q E hr h2 ⟨Evl.Ex.refl H, start_kn al h1⟩ q
theorem ok_W {R : List Pd → List Int × List Int → Prop} (F : Fun K x qual st f fd) (S : FnScope N ps (defScope st)) (hl : ∀ ds d, R ds d → ds.length = ps.length)
    (body : ∀ (cdv : Value) (A : Around) (outer : List PySem.Env) (s : Shared) (M : List Addr) (H : Hp) (vs : List V) (ds : List Pd) (r : List Int × List Int) (Q : VK) (E : XK), Room k (A.deeper (PyProof.Rows.envOfC qual (defScope st) s.heap.objs.size f cdv)) → R ds r → EO K M H H (L2.start N vs) (startD N ds) →
      (∀ p a b H', H p = none → H a = none → H b = none → a ≠ b → Ex H H' → H' p = some (.tup [.ref a, .ref b]) → H' a = some (.lst (r.1.map V.int)) → H' b = some (.lst (r.2.map V.int)) → Q (.ref p) H') →
      Blk (cxOf CX0 P w K mg base N qual (defScope st) f cdv A outer s H E).nox (defBody st) { nx := fun _ H' => Q .non H', rt := Q } (L2.start N vs) H) : FnOk P w K mg base CX0 (k + 1) f fd ps (SpW K R) := by
  refine F.ok S (fun vs H Q E h => ?_) (fun cdv A outer s H vs Q E hr h => ?_)
  · obtain ⟨M, ds, d, _, h1, h2, _⟩ := h
    rw [h1.length]
    exact hl ds d h2
  · obtain ⟨M, ds, d, al, h1, h2, q⟩ := h
    exact body cdv A outer s M H vs ds d Q E hr h2 ⟨Evl.Ex.refl H, start_kn al h1⟩ q
end
end Lr

/-! more built-ins by data -/
namespace Lr
open PySem L2
open Evl (Ex)
section
variable {X : Cx} {δ : Dl} {a b c e o : Expr} {es : List Expr} {pos p cp apos : Pos} {d z d1 d2 : Pd} {ds : List Pd} {i j : Int}
theorem ee_divmod (ha : EE X a δ (.int i)) (hb : EE X b δ (.int j)) (h : CDiv i j) (hm : X.mg "divmod" = none) (hg : Gl X "divmod" := by rfl) (he : starEach [a, b] X.env = (false, eval a X.env) :: starEach [b] X.env := by rfl) (he2 : starEach [b] X.env = (false, eval b X.env) :: starEach [] X.env := by rfl) (hpl : (backTo pos (starEach [b] X.env)).any (·.1) = false := by rfl) :
    EE X (.Call (.Name "divmod" p) [a, b] [] pos) δ (.tup [.int (i / j), .int (i % j)]) :=
  ee_callB call_divmod (fun M vs H al hh Q q => by
    cases hh with
    | cons h1 h2 =>
      cases h2 with
      | cons h2 h3 =>
        cases h3
        cases dt_int h1
        cases dt_int h2
        exact ⟨i, j, rfl, h, fun p hp => q _ _ (Evl.Ex.new hp) (.tup (al.nw hp) upd_same (.cons (.int _) (.cons (.int _) .nil)))⟩) (ea_cons ha (ea_cons hb ea_nil he2) he) hm hg (he := he) (hpl := hpl)
theorem ee_intB {k : Bool} (ha : EE X e δ (.bl k)) (hm : X.mg "int" = none) (hg : Gl X "int" := by rfl) (he : starEach [e] X.env = (false, eval e X.env) :: starEach [] X.env := by rfl) : EE X (.Call (.Name "int" p) [e] [] pos) δ (.int (if k then 1 else 0)) :=
  ee_callT call_int1 (fun M vs H al h Q q => by
    cases h with
    | cons h1 h2 =>
      cases h2
      cases dt_bl h1
      exact .inr ⟨k, rfl, q _ H (Evl.Ex.refl H) (.int _)⟩) (ea_cons ha ea_nil he) hm hg (he := he)
/-- o.m(e), the built-in method of a list -/
theorem ee_bmL {name : Str} {id : String} {r : V → List V → Hp → VK → Prop} (slot : Slot "list" name id) (ty : typeOf (.builtin id) = pure (.type "method_descriptor")) (hm : MtR X id r) (ho : EE X o δ (.lst ds)) (he : EE X e δ d)
    (hr : ∀ M x y H, Al M H → Dt X.K M H x (.lst ds) → Dt X.K M H y d → ∀ Q : VK, (∀ v H', Ex H H' → Dt X.K M H' v z → Q v H') → r x [y] H Q)
    (hbase : attributeBase o name X.env (eval o X.env) = eval o X.env := by rfl)
    (hfew : ((backTo cp (starEach [e] X.env)).all (fun x => !x.1) && (backToKw cp (keywordEach [] X.env)).all (fun x => x.1.isSome)
      && decide ([e].length + ([] : List Keyword).length + (if ([] : List Keyword).isEmpty then 0 else 1) < 30)) = true := by rfl)
    (hline : (apos.endLine == cp.line) = true := by rfl) (hst : starEach [e] X.env = (false, eval e X.env) :: starEach [] X.env := by rfl) (hplain : (backTo cp (starEach [] X.env)).any (·.1) = false := by rfl) :
    EE X (.Call (.Attribute o name apos) [e] [] cp) δ z := fun M σ H kn Q q =>
  ⟨_, pe_bm PySem.F.plainAttrs_list slot ty hm pe_w (pa_cons pe_w pa_nil hst) hbase hfew hline hst hplain, ho M σ H kn _ fun v H1 e1 h1 => by
    obtain ⟨l, xs, rfl, h2, h3⟩ := dt_sq h1
    exact ⟨.inl ⟨rfl, xs, Evl.sq_of h2⟩, he M σ H1 (kn.mono e1) _ fun u H2 e2 h4 => hr M _ u H2 (kn.al.mono (e1.trans e2)) (h1.mono e2) h4 Q fun w H3 e3 h5 => q w H3 ((e1.trans e2).trans e3) h5⟩⟩
theorem ee_count {ns : List Int} (ho : EE X o δ (dL ns)) (he : EE X e δ (.int i))
    (hbase : attributeBase o "count" X.env (eval o X.env) = eval o X.env := by rfl)
    (hfew : ((backTo cp (starEach [e] X.env)).all (fun x => !x.1) && (backToKw cp (keywordEach [] X.env)).all (fun x => x.1.isSome)
      && decide ([e].length + ([] : List Keyword).length + (if ([] : List Keyword).isEmpty then 0 else 1) < 30)) = true := by rfl)
    (hline : (apos.endLine == cp.line) = true := by rfl) (hst : starEach [e] X.env = (false, eval e X.env) :: starEach [] X.env := by rfl) (hplain : (backTo cp (starEach [] X.env)).any (·.1) = false := by rfl) :
    EE X (.Call (.Attribute o "count" apos) [e] [] cp) δ (.int (ns.count i : Nat)) :=
  ee_bmL PySem.F.slot_list_count PySem.F.type_list_count mt_lcount ho he (fun M x y H al hx hy Q q => by
    obtain ⟨l, rfl, h2⟩ := dt_dL hx
    exact ⟨l, ns, i, rfl, by rw [dt_int hy], Evl.sq_of h2, q _ H (Evl.Ex.refl H) (.int _)⟩) hbase hfew hline hst hplain
/-- list(range(n)) -/
theorem ef_listRange {n : Nat} {rp rpos : Pos} (hc : X.calm = true) (ha : EE X a δ (.int (n : Int))) (hz : n ≤ 50000) (hm : X.mg "list" = none) (hmr : X.mg "range" = none) (hg : Gl X "list" := by rfl) (hgr : Gl X "range" := by rfl)
    (na : starEach [a] X.env = (false, eval a X.env) :: starEach [] X.env := by rfl) (he : starEach [.Call (.Name "range" rp) [a] [] rpos] X.env = (false, eval (.Call (.Name "range" rp) [a] [] rpos) X.env) :: starEach [] X.env := by rfl) :
    EF X (.Call (.Name "list" p) [.Call (.Name "range" rp) [a] [] rpos] [] pos) δ ((List.range n).map fun (i : Nat) => Pd.int (i : Int)) := fun M σ H kn Q q =>
  ⟨_, pe_listRg hc hg hm (prg_1 hgr hmr pe_w na) he, ha M σ H kn _ fun v H1 e1 h1 => ⟨n, dt_int h1, by
    refine ⟨RgOk.of_le (by decide) (by omega) (by decide) (by omega), fun l hl => q l _ _ (Evl.fresh_back e1 hl) (e1.trans (Evl.Ex.new hl)) upd_same ?_⟩
    have e : rgV 0 (n : Int) = ((List.range n).map fun (i : Nat) => (i : Int)).map V.int := by
      unfold rgV
      rw [List.map_map, show ((n : Int) - 0).toNat = n by omega]
      refine List.map_congr_left fun i _ => ?_
      show V.int (0 + (i : Int)) = V.int (i : Int)
      rw [Int.zero_add]
    rw [e]
    have e2 : (List.range n).map (fun (i : Nat) => Pd.int (i : Int)) = ((List.range n).map fun (i : Nat) => (i : Int)).map Pd.int := by
      rw [List.map_map]
      rfl
    rw [e2]
    exact dtI _⟩⟩
end
end Lr

/-! extend, max of a list, loops over pairs, three names at once -/
namespace Lr
open PySem L2
open Evl (Ex)
section
variable {X : Cx} {δ : Dl} {a b c e o : Expr} {es : List Expr} {rest body : List Stmt} {pos p cp apos : Pos} {d z d1 d2 d3 : Pd} {ds : List Pd} {x y : Str} {D : Ends} {M : List Addr} {Hb H : Hp} {σ : L2.St}
theorem ee_maxL {ns : List Int} {m : Int} (hc : X.calm = true) (ha : EE X e δ (dL ns)) (h1 : m ∈ ns) (h2 : ∀ y ∈ ns, y ≤ m) (hm : X.mg "max" = none) (hg : Gl X "max" := by rfl) (he : starEach [e] X.env = (false, eval e X.env) :: starEach [] X.env := by rfl) : EE X (.Call (.Name "max" p) [e] [] pos) δ (.int m) :=
  ee_callB (cr_max hc) (fun M vs H al h Q q => by
    cases h with
    | cons g1 g2 =>
      cases g2
      obtain ⟨l, rfl, h3⟩ := dt_dL g1
      refine ⟨l, ns, rfl, Evl.sq_of h3, List.length_pos_of_mem h1, fun m' k1 k2 => ?_⟩
      have em : m' = m := Int.le_antisymm (h2 m' k1) (k2 m h1)
      rw [em]
      exact q _ H (Evl.Ex.refl H) (.int _)) (ea_cons ha ea_nil he) hm hg (he := he)
/-- o.extend(e), o a list set apart -/
theorem blk_extend {l : Addr} {xs : List V} {apos cp : Pos} (ho : EE X o δ (.raw (.ref l))) (he : EE X e δ (.lst ds)) (hl : H l = some (.lst xs)) (hz : xs.length + ds.length ≤ 100000) (hM : l ∈ M) (hb : Hb l = none) (k : EO X.K M Hb H σ δ)
    (q : ∀ ys H1, Ex H H1 → DtAll X.K M H1 ys ds → EO X.K M Hb (L2.upd H1 l (.lst (xs ++ ys))) σ δ → Blk X rest D σ (L2.upd H1 l (.lst (xs ++ ys))))
    (hs : swapsWith (.Call (.Attribute o "extend" apos) [e] [] cp) none pos.line X.env = pure false := by rfl) (hbase : attributeBase o "extend" X.env (eval o X.env) = eval o X.env := by rfl)
    (hfew : ((backTo cp (starEach [e] X.env)).all (fun x => !x.1) && (backToKw cp (keywordEach [] X.env)).all (fun x => x.1.isSome)
      && decide ([e].length + ([] : List Keyword).length + (if ([] : List Keyword).isEmpty then 0 else 1) < 30)) = true := by rfl)
    (hline : (apos.endLine == cp.line) = true := by rfl) (hst : starEach [e] X.env = (false, eval e X.env) :: starEach [] X.env := by rfl) (hplain : (backTo cp (starEach [] X.env)).any (·.1) = false := by rfl) :
    Blk X (.Expr (.Call (.Attribute o "extend" apos) [e] [] cp) pos :: rest) D σ H :=
  ⟨_, pss_cons (ps_expr (pe_bm PySem.F.plainAttrs_list PySem.F.slot_list_extend PySem.F.type_list_extend mt_extend pe_w (pa_cons pe_w pa_nil hst) hbase hfew hline hst hplain) hs) pss_w, ho M σ H k.kn _ fun v H1 e1 h1 => by
    cases dt_raw h1
    refine ⟨.inl ⟨rfl, xs, Evl.sq_of (e1 _ _ hl)⟩, he M σ H1 (k.kn.mono e1) _ fun u H2 e2 h2 => ?_⟩
    obtain ⟨b, ys, rfl, h3, h4⟩ := dt_sq h2
    refine ⟨l, b, xs, ys, rfl, rfl, e2 _ _ (e1 _ _ hl), h3, Evl.sz_of (by rw [h4.length]; exact hz), ?_⟩
    exact q ys H2 (e1.trans e2) h4 ⟨Evl.Ex.mut (k.ex.trans (e1.trans e2)) hb, (k.kn.mono (e1.trans e2)).upd hM⟩⟩
/-- for x, y in .. -/
theorem blk_forP {iter : Expr} {n : Nat} {Ya Yb : Nat → Pd} {px py pt : Pos} {kk : Nat} (nd : X.N.Nodup) (i j : Nat) (hp : PassesOwn (model X.prog X.w) X.A X.env X.xe) (hc : X.calm = true) (hi : IW X (.Tuple [.Name x px, .Name y py] kk pt) iter δ n (fun i => .tup [Ya i, Yb i])) (k : EO X.K M Hb H σ δ) (Pv : Hp → Nat → L2.St → Hp → Prop)
    (hM : ∀ B i σ' H', Pv B i σ' H' → ExM M B H' ∧ Al M H')
    (h0 : ∀ H1, Ex H H1 → EO X.K M Hb H1 σ δ → Pv H1 0 σ H1)
    (hs : ∀ B m u v σ' H' H2, m < n → Ex H B → Pv B m σ' H' → Ex H' H2 → Dt X.K M H2 u (Ya m) → Dt X.K M H2 v (Yb m) → Blk X body { D with nx := Pv B (m + 1), ct := Pv B (m + 1), bk := Blk X rest D } ((σ'.set i (some u)).set j (some v)) H2)
    (hd : ∀ B σ' H', Ex H B → Pv B n σ' H' → Blk X rest D σ' H') (hxi : X.N[i]? = some x := by rfl) (hyj : X.N[j]? = some y := by rfl) (hx : Loc X.env.scope x := by first | exact Or.inl rfl | exact Or.inr rfl) (hy : Loc X.env.scope y := by first | exact Or.inl rfl | exact Or.inr rfl)
    (hf : X.fn x = true ∨ X.env.scope.names.lookup x = some .local := by first | exact .inl rfl | exact .inr rfl) (hf2 : X.fn y = true ∨ X.env.scope.names.lookup y = some .local := by first | exact .inl rfl | exact .inr rfl)
    (hfs : ∀ x, foldedSetIterable iter X.env x = pure x := by intro _; rfl) : Blk X (.For (.Tuple [.Name x px, .Name y py] kk pt) iter body [] pos :: rest) D σ H :=
  blk_forG hp hc hi (pg_tup hc (pgs_cons (pg_name nd hxi hx hf) (pgs_cons (pg_name nd hyj hy hf2) pgs_nil))) k Pv hM h0 (fun B m v σ' H' H2 a b c d h => by
    obtain ⟨t, xs, rfl, h1, h2⟩ := dt_tp h
    cases h2 with
    | @cons v1 _ _ _ g1 h3 =>
      cases h3 with
      | @cons v2 _ _ _ g2 h4 =>
        cases h4
        exact ⟨t, _, rfl, Evl.st_of h1, rfl, v1, [v2], rfl, v2, [], rfl, rfl, hs B m v1 v2 σ' H' H2 a b c d g1 g2⟩) hd hfs
/-- x, y, z = (e1, e2, e3), by the tuple -/
theorem blk_unpack3 {z : Str} {px py pz pt : Pos} {kk : Nat} (nd : X.N.Nodup) (i j l : Nat) (hc : X.calm = true) (he : EE X e δ (.tup [d1, d2, d3])) (k : EO X.K M Hb H σ δ) (q : ∀ σ' H', Ex H H' → EO X.K M Hb H' σ' (((δ.set i (some d1)).set j (some d2)).set l (some d3)) → Blk X rest D σ' H')
    (hi : X.N[i]? = some x := by rfl) (hj : X.N[j]? = some y := by rfl) (hl : X.N[l]? = some z := by rfl) (hx : Loc X.env.scope x := by first | exact Or.inl rfl | exact Or.inr rfl) (hy : Loc X.env.scope y := by first | exact Or.inl rfl | exact Or.inr rfl) (hz : Loc X.env.scope z := by first | exact Or.inl rfl | exact Or.inr rfl)
    (hs : swapsWithSole [.Tuple [.Name x px, .Name y py, .Name z pz] kk pt] e pos.line X.env = pure false := by rfl) (hw : swappedStores [.Tuple [.Name x px, .Name y py, .Name z pz] kk pt] e X.env = pure none := by rfl)
    (h1 : (assignEach [.Tuple [.Name x px, .Name y py, .Name z pz] kk pt] X.env).map (·.2) = [assign (.Tuple [.Name x px, .Name y py, .Name z pz] kk pt) X.env] := by rfl)
    (hf : X.fn x = true ∨ X.env.scope.names.lookup x = some .local := by first | exact .inl rfl | exact .inr rfl) (hf2 : X.fn y = true ∨ X.env.scope.names.lookup y = some .local := by first | exact .inl rfl | exact .inr rfl) (hf3 : X.fn z = true ∨ X.env.scope.names.lookup z = some .local := by first | exact .inl rfl | exact .inr rfl) :
    Blk X (.Assign [.Tuple [.Name x px, .Name y py, .Name z pz] kk pt] e pos :: rest) D σ H :=
  ⟨_, pss_cons (ps_asg pe_w (pg_tup hc (pgs_cons (pg_name nd hi hx hf) (pgs_cons (pg_name nd hj hy hf2) (pgs_cons (pg_name nd hl hz hf3) pgs_nil)))) hs hw h1) pss_w, he M σ H k.kn _ fun v H' e1 h => by
    obtain ⟨a, xs, rfl, h1, h2⟩ := dt_tp h
    cases h2 with
    | @cons v1 _ _ _ g1 h3 =>
      cases h3 with
      | @cons v2 _ _ _ g2 h4 =>
        cases h4 with
        | @cons v3 _ _ _ g3 h5 =>
          cases h5
          exact ⟨a, _, rfl, Evl.st_of h1, rfl, v1, [v2, v3], rfl, v2, [v3], rfl, v3, [], rfl, rfl, q _ H' e1 ((((k.mono e1).set i g1).set j g2).set l g3)⟩⟩
/-- x, y, z = e1, e2, e3 (all local) -/
theorem blk_par3 {z : Str} {px py pz pt pt2 : Pos} {kt k2 : Nat} (nd : X.N.Nodup) (i j l : Nat) (hc : X.calm = true) (ha : EE X a δ d1) (hb : EE X b δ d2) (hcc : EE X c δ d3) (k : EO X.K M Hb H σ δ) (q : ∀ σ' H', Ex H H' → EO X.K M Hb H' σ' (((δ.set i (some d1)).set j (some d2)).set l (some d3)) → Blk X rest D σ' H')
    (hi : X.N[i]? = some x := by rfl) (hj : X.N[j]? = some y := by rfl) (hl : X.N[l]? = some z := by rfl) (hij : i ≠ j := by decide) (hil : i ≠ l := by decide) (hjl : j ≠ l := by decide) (hx : X.env.scope.names.lookup x = some .local := by rfl) (hy : X.env.scope.names.lookup y = some .local := by rfl) (hz : X.env.scope.names.lookup z = some .local := by rfl)
    (hw : swappedStores [.Tuple [.Name x px, .Name y py, .Name z pz] kt pt] (.Tuple [a, b, c] k2 pt2) X.env = pure (some [x, y, z]) := by rfl)
    (hs : swapsWithSole [.Tuple [.Name x px, .Name y py, .Name z pz] kt pt] (.Tuple [a, b, c] k2 pt2) pos.line X.env = pure false := by rfl)
    (s1 : starEach [a, b, c] X.env = (false, eval a X.env) :: starEach [b, c] X.env := by rfl) (s2 : starEach [b, c] X.env = (false, eval b X.env) :: starEach [c] X.env := by rfl) (s3 : starEach [c] X.env = (false, eval c X.env) :: starEach [] X.env := by rfl) :
    Blk X (.Assign [.Tuple [.Name x px, .Name y py, .Name z pz] kt pt] (.Tuple [a, b, c] k2 pt2) pos :: rest) D σ H :=
  ⟨_, pss_cons (ps_par3 hc nd hi hj hl hij hil hjl hx hy hz (pa_cons pe_w (pa_cons pe_w (pa_cons pe_w pa_nil s3) s2) s1) hw hs) pss_w, ha M σ H k.kn _ fun u H1 e1 h1 => hb M σ H1 (k.kn.mono e1) _ fun v H2 e2 h2 => hcc M σ H2 (k.kn.mono (e1.trans e2)) _ fun w H3 e3 h3 =>
    ⟨u, v, w, rfl, q _ H3 ((e1.trans e2).trans e3) ((((k.mono ((e1.trans e2).trans e3)).set i (h1.mono (e2.trans e3))).set j (h2.mono e3)).set l h3)⟩⟩
end
end Lr

/-! objects of own classes -/
namespace Lr
open PySem L2
open Evl (Ex)
/-- what isinstance asks of an own class -/
structure OwnTy (K : PySem.W.Frag) (C : Addr) : Prop where
  cl : Cls K C
  ha : PySem.W.findIn K (.ref C) "__class__" = some (some (.builtin "object.__class__"))
  hn : PySem.W.specialIn K (.builtin "object.__class__") "__get__" = some (some (.builtin "getset_descriptor.__get__"))
  htk : PySem.W.takesIn K (.builtin "object.__class__") = some true
  hm : PySem.W.mroIn K C (.type "object") = some true
section
variable {X : Cx} {δ : Dl} {a b c e o : Expr} {es : List Expr} {rest body : List Stmt} {pos p cp apos : Pos} {d z d1 d2 d3 : Pd} {ds : List Pd} {x y f : Str} {D : Ends} {M : List Addr} {Hb H : Hp} {σ : L2.St} {C : Addr} {ns : List Str}
theorem dt_obj {K : PySem.W.Frag} {v : V} (h : Dt K M H v (.obj C ns ds)) : ∃ a dx fs, v = .ref a ∧ H a = some (.ins C dx fs) ∧ fs.map (·.1) = ns ∧ DtAll K M H (fs.map (·.2)) ds := by
  cases h with
  | obj h0 h1 h2 => exact ⟨_, _, _, rfl, h1, rfl, h2⟩
/-! ### fields -/
theorem ee_fldG (cl : Cls X.K C) (na : NoAttr X.K C f) (ho : EE X o δ (.obj C ns ds)) (hl : ∀ (K : PySem.W.Frag) (M : List Addr) (H : Hp) (fs : List (Str × V)), fs.map (·.1) = ns → DtAll K M H (fs.map (·.2)) ds → ∃ v, fs.lookup f = some v ∧ Dt K M H v d)
    (hb : attributeBase o f X.env (eval o X.env) = eval o X.env := by rfl) : EE X (.Attribute o f pos) δ d := fun M σ H kn Q q =>
  ⟨_, pe_fld pe_w hb, ho M σ H kn _ fun v H1 e1 h1 => by
    obtain ⟨a, dx, fs, rfl, h2, h3, h4⟩ := dt_obj h1
    obtain ⟨v, h5, h6⟩ := hl _ _ _ fs h3 h4
    exact ⟨a, C, dx, fs, v, rfl, h2, cl, na, h5, q v H1 e1 h6⟩⟩
theorem look1 {d1 : Pd} (K : PySem.W.Frag) (M : List Addr) (H : Hp) (fs : List (Str × V)) (h : fs.map (·.1) = [f]) (g : DtAll K M H (fs.map (·.2)) [d1]) : ∃ v, fs.lookup f = some v ∧ Dt K M H v d1 := by
  match fs, h, g with
  | [(n, v)], h, g =>
    have e : n = f := (List.cons.inj h).1
    subst e
    cases g with
    | cons g1 _ => exact ⟨v, by simp [List.lookup], g1⟩
theorem look2a {g : Str} {d1 d2 : Pd} (K : PySem.W.Frag) (M : List Addr) (H : Hp) (fs : List (Str × V)) (h : fs.map (·.1) = [f, g]) (k : DtAll K M H (fs.map (·.2)) [d1, d2]) : ∃ v, fs.lookup f = some v ∧ Dt K M H v d1 := by
  match fs, h, k with
  | [(n, v), (m, w)], h, k =>
    have e : n = f := (List.cons.inj h).1
    subst e
    cases k with
    | cons g1 _ => exact ⟨v, by simp [List.lookup], g1⟩
theorem look2b {g : Str} {d1 d2 : Pd} (hne : (g == f) = false) (K : PySem.W.Frag) (M : List Addr) (H : Hp) (fs : List (Str × V)) (h : fs.map (·.1) = [f, g]) (k : DtAll K M H (fs.map (·.2)) [d1, d2]) : ∃ v, fs.lookup g = some v ∧ Dt K M H v d2 := by
  match fs, h, k with
  | [(n, v), (m, w)], h, k =>
    have e : n = f := (List.cons.inj h).1
    have e2 : m = g := (List.cons.inj (List.cons.inj h).2).1
    subst e
    subst e2
    cases k with
    | cons _ g2 =>
      cases g2 with
      | cons g2 _ => exact ⟨w, by simp only [List.lookup, hne]; simp, g2⟩
theorem ee_fld1 (cl : Cls X.K C) (na : NoAttr X.K C f) (ho : EE X o δ (.obj C [f] [d])) (hb : attributeBase o f X.env (eval o X.env) = eval o X.env := by rfl) : EE X (.Attribute o f pos) δ d := ee_fldG cl na ho look1 hb
theorem ee_fld2a {g : Str} {d2 : Pd} (cl : Cls X.K C) (na : NoAttr X.K C f) (ho : EE X o δ (.obj C [f, g] [d, d2])) (hb : attributeBase o f X.env (eval o X.env) = eval o X.env := by rfl) : EE X (.Attribute o f pos) δ d := ee_fldG cl na ho look2a hb
theorem ee_fld2b {g : Str} {d2 : Pd} (cl : Cls X.K C) (na : NoAttr X.K C g) (hne : (g == f) = false) (ho : EE X o δ (.obj C [f, g] [d2, d])) (hb : attributeBase o g X.env (eval o X.env) = eval o X.env := by rfl) : EE X (.Attribute o g pos) δ d := ee_fldG cl na ho (look2b hne) hb
/-! ### isinstance of own classes -/
theorem ee_isiC {tp : Pos} {T : Str} {C' : Addr} {k : Bool} (ho : EE X e δ (.obj C ns ds)) (ty : OwnTy X.K C) (hk : PySem.W.kitOne X.K (.ref C) (.ref C') = some k) (hm : X.mg "isinstance" = none) (hT : X.mg T = some (.ref C'))
    (hg : Gl X "isinstance" := by rfl) (hgT : Gl X T := by rfl) (hdb : (T == ("__debug__" : Str)) = false := by decide)
    (he : starEach [e, .Name T tp] X.env = (false, eval e X.env) :: starEach [.Name T tp] X.env := by rfl) (hpl : (backTo pos (starEach [.Name T tp] X.env)).any (·.1) = false := by rfl) : EE X (.Call (.Name "isinstance" p) [e, .Name T tp] [] pos) δ (.bl k) := fun M σ H kn Q q =>
  ⟨_, pe_callB (id := "isinstance") call_isi hg hm (by decide +kernel) (pa_cons pe_w (pa_cons (pe_glob (v := .ref C') hgT hT rfl hdb) pa_nil (by rfl)) he) (by decide) (by decide) he hpl, ho M σ H kn _ fun v H1 e1 h1 => by
    obtain ⟨a, dx, fs, rfl, h2, h3, h4⟩ := dt_obj h1
    exact ⟨.ref a, .ref C', _, _, k, rfl, .own C', .base (.ins h2 ty.cl ty.ha ty.hn ty.htk ty.hm), hk, q _ H1 e1 (.bl k)⟩⟩
/-! ### methods: o.m(e, ..) -/
def lookNo : List Str → Str → Bool
  | [], _ => true
  | n :: ns, m => !(m == n) && lookNo ns m
theorem lookup_no {m : Str} : ∀ {fs : List (Str × V)} {ns : List Str}, fs.map (·.1) = ns → lookNo ns m = true → fs.lookup m = none
  | [], _, _, _ => rfl
  | (n, v) :: fs, ns, h, g => by
    subst h
    have g2 : (!(m == n) && lookNo (fs.map (·.1)) m) = true := g
    rw [Bool.and_eq_true] at g2
    have g3 : (m == n) = false := by
      have := g2.1
      simpa using this
    simp only [List.lookup, g3]
    exact lookup_no rfl g2.2
variable {CX : CXT} {k : Nat} {ps : List Str} {m : Str} {fa : Addr} {fd : FuncData}
theorem ee_meth {pl : Sem Bool} {R : List Pd → Pd → Prop} {ds2 : List Pd} (cl : Cls X.K C) (hm : Meth X.K C m fa) (F : FnOk X.prog X.w X.K X.mg X.base CX k fa fd ps (SpR X.K R)) (hr : Room k X.A) (hbi : Binds X.K fd ps []) (hx : Passes CX X E0) (ho : EE X o δ (.obj C ns ds)) (hno : lookNo ns m = true)
    (ha : EA X (e :: es) δ ds2) (hR : R (.obj C ns ds :: ds2) d)
    (hst : starEach (e :: es) X.env = (false, eval e X.env) :: starEach es X.env := by rfl) (hpl : (backTo cp (starEach es X.env)).any (·.1) = false := by rfl)
    (ht : eval (.Call (.Attribute o m apos) (e :: es) [] cp) X.env = (do
      let ov ← eval o X.env
      standAt apos.atName
      let (f, first) ← holding [ov] (getMethod ov m pl)
      callWith cp f first (backTo cp (starEach (e :: es) X.env)) (backToKw cp (keywordEach [] X.env))) := by rfl) :
    EE X (.Call (.Attribute o m apos) (e :: es) [] cp) δ d := fun M σ H kn Q q =>
  ⟨_, pe_meth pe_w cl hm F hr hbi .nil hx pa_w hst hpl ht, ho M σ H kn _ fun v H1 e1 h1 => by
    obtain ⟨a, dx, fs, rfl, h2, h3, h4⟩ := dt_obj h1
    refine ⟨a, dx, fs, rfl, h2, lookup_no h3 hno, ha M σ H1 (kn.mono e1) _ fun vs H2 e2 h5 => ?_⟩
    exact ⟨M, _, d, kn.al.mono (e1.trans e2), by rw [List.append_nil]; exact .cons (h1.mono e2) h5, hR, fun u H3 e3 h6 => q u H3 ((e1.trans e2).trans e3) h6⟩⟩
/-! ### objects made -/
/-- __init__ that keeps its one argument at a name -/
def SpI1 (C : Addr) (nm : Str) : Sp := fun vs H Q _ => ∃ (x dx : Addr) (v : V), vs = [.ref x, v] ∧ H x = some (.ins C dx []) ∧ ∀ H', (∀ y o, y ≠ x → H y = some o → H' y = some o) → H' x = some (.ins C dx [(nm, v)]) → Q .non H'
/-- __init__ that copies its two lists -/
def SpI2 (C : Addr) (nm nm2 : Str) : Sp := fun vs H Q _ => ∃ (x dx p q : Addr) (xs ys : List V), vs = [.ref x, .ref p, .ref q] ∧ H x = some (.ins C dx []) ∧ H p = some (.lst xs) ∧ H q = some (.lst ys) ∧
  ∀ a b H', H a = none → H b = none → a ≠ b → (∀ y o, y ≠ x → H y = some o → H' y = some o) → H' x = some (.ins C dx [(nm, .ref a), (nm2, .ref b)]) → H' a = some (.lst xs) → H' b = some (.lst ys) → Q .non H'
theorem ee_make1 {T nm : Str} {fa : Addr} {fd : FuncData} {k : Nat} {ps : List Str} (Mk_ : Mk X.K C fa) (F : FnOk X.prog X.w X.K X.mg X.base CX k fa fd ps (SpI1 C nm)) (hr : Room (k + 1) X.A) (hT : X.mg T = some (.ref C)) (hbi : Binds X.K fd ps []) (hx : Passes CX X E0) (ha : EE X e δ d) (hg : Gl X T := by rfl)
    (hdb : (T == ("__debug__" : Str)) = false := by decide) (he : starEach [e] X.env = (false, eval e X.env) :: starEach [] X.env := by rfl) (hpl : (backTo pos (starEach [] X.env)).any (·.1) = false := by rfl) : EE X (.Call (.Name T p) [e] [] pos) δ (.obj C [nm] [d]) := fun M σ H kn Q q =>
  ⟨_, pe_make Mk_ F hr hg hT hbi .nil hx (pa_cons pe_w pa_nil he) hdb he hpl, ha M σ H kn _ fun v H1 e1 h1 x dx nx ndx hne => by
    refine ⟨x, dx, v, rfl, upd_same, fun H2 keep hx2 => ⟨rfl, ?_⟩⟩
    have e2 : Ex H1 H2 := fun y o hy => keep y o (ne_of_none hy nx) (by rw [upd_ne (ne_of_none hy nx), upd_ne (ne_of_none hy ndx)]; exact hy)
    refine q _ H2 (e1.trans e2) ?_
    have hxM : x ∉ M := (kn.al.mono e1).nw nx
    exact .obj (fs := [(nm, v)]) hxM hx2 (.cons (h1.mono e2) .nil)⟩
/-- a new object of two new lists of ints -/
def EOA (X : Cx) (e : Expr) (δ : Dl) (C : Addr) (nm nm2 : Str) (l c : List Int) : Prop := ∀ M σ H, Kn X.K M H σ δ → ∀ Q : VK, (∀ x dx a b H', H x = none → H a = none → H b = none → a ≠ b → Ex H H' → H' x = some (.ins C dx [(nm, .ref a), (nm2, .ref b)]) →
  H' a = some (.lst (l.map V.int)) → H' b = some (.lst (c.map V.int)) → Q (.ref x) H') → TW X e σ H Q
theorem dt_oa {K : PySem.W.Frag} {M : List Addr} {H H' : Hp} {x dx a b : Addr} {nm nm2 : Str} {l c : List Int} (al : Al M H) (hx : H x = none) (ha : H a = none) (hb : H b = none) (e1 : H' x = some (.ins C dx [(nm, .ref a), (nm2, .ref b)]))
    (e2 : H' a = some (.lst (l.map V.int))) (e3 : H' b = some (.lst (c.map V.int))) : Dt K M H' (.ref x) (.obj C [nm, nm2] [dL l, dL c]) :=
  .obj (fs := [(nm, .ref a), (nm2, .ref b)]) (al.nw hx) e1 (.cons (.lst (al.nw ha) e2 (dtI _)) (.cons (.lst (al.nw hb) e3 (dtI _)) .nil))
theorem eoa_make {T nm nm2 : Str} {l c' : List Int} {fa : Addr} {fd : FuncData} {k : Nat} {ps : List Str} (Mk_ : Mk X.K C fa) (F : FnOk X.prog X.w X.K X.mg X.base CX k fa fd ps (SpI2 C nm nm2)) (hr : Room (k + 1) X.A) (hT : X.mg T = some (.ref C)) (hbi : Binds X.K fd ps []) (hx : Passes CX X E0) (ha : EE X a δ (dL l)) (hb : EE X b δ (dL c')) (hg : Gl X T := by rfl)
    (hdb : (T == ("__debug__" : Str)) = false := by decide) (he : starEach [a, b] X.env = (false, eval a X.env) :: starEach [b] X.env := by rfl) (he2 : starEach [b] X.env = (false, eval b X.env) :: starEach [] X.env := by rfl) (hpl : (backTo pos (starEach [b] X.env)).any (·.1) = false := by rfl) : EOA X (.Call (.Name T p) [a, b] [] pos) δ C nm nm2 l c' := fun M σ H kn Q q =>
  ⟨_, pe_make Mk_ F hr hg hT hbi .nil hx (pa_cons pe_w (pa_cons pe_w pa_nil he2) he) hdb he hpl, ha M σ H kn _ fun v H1 e1 h1 => hb M σ H1 (kn.mono e1) _ fun u H2 e2 h2 x dx nx ndx hne => by
    obtain ⟨i, rfl, g1⟩ := dt_dL h1
    obtain ⟨j, rfl, g2⟩ := dt_dL h2
    have up : ∀ y o, H2 y = some o → (upd (upd H2 dx (.own x)) x (.ins C dx [])) y = some o := fun y o hy => by
      rw [upd_ne (ne_of_none hy nx), upd_ne (ne_of_none hy ndx)]
      exact hy
    refine ⟨x, dx, i, j, _, _, rfl, upd_same, up _ _ (e2 _ _ g1), up _ _ g2, fun a' b' H3 na nb ab keep hx3 ha3 hb3 => ⟨rfl, ?_⟩⟩
    have nx3 : ∀ y, (upd (upd H2 dx (.own x)) x (.ins C dx [])) y = none → H2 y = none := fun y hy => by
      cases hz : H2 y with
      | none => rfl
      | some o =>
        rw [up y o hz] at hy
        cases hy
    have e3 : Ex H2 H3 := fun y o hy => keep y o (ne_of_none hy nx) (up y o hy)
    exact q x dx a' b' H3 (Evl.fresh_back (e1.trans e2) nx) (Evl.fresh_back (e1.trans e2) (nx3 a' na)) (Evl.fresh_back (e1.trans e2) (nx3 b' nb)) ab ((e1.trans e2).trans e3) hx3 ha3 hb3⟩
theorem EOA.ee {nm nm2 : Str} {l c : List Int} (h : EOA X e δ C nm nm2 l c) : EE X e δ (.obj C [nm, nm2] [dL l, dL c]) := fun M σ H k Q q => h M σ H k Q fun x dx a b H' hx ha hb _ e1 h1 h2 h3 => q _ H' e1 (dt_oa k.al hx ha hb h1 h2 h3)
end
end Lr

/-! xs[::-1] of the script, is not, o[i] = e, append by two views -/
namespace Lr
open PySem L2
open Evl (Ex)
theorem dt_objM {K : PySem.W.Frag} {M : List Addr} {H : Hp} {v : V} {C : Addr} {ns : List Str} {ds : List Pd} (h : Dt K M H v (.obj C ns ds)) : ∃ a dx fs, v = .ref a ∧ a ∉ M ∧ H a = some (.ins C dx fs) ∧ fs.map (·.1) = ns ∧ DtAll K M H (fs.map (·.2)) ds := by
  cases h with
  | obj h0 h1 h2 => exact ⟨_, _, _, rfl, h0, h1, rfl, h2⟩
theorem EO.more {K : PySem.W.Frag} {M : List Addr} {Hb H H' : Hp} {σ : L2.St} {δ : Dl} {p : Addr} {o : HO} (k : EO K M Hb H σ δ) (hn : H p = none) (e : Ex H H') (hp : H' p = some o) : EO K (p :: M) Hb H' σ δ := ⟨k.ex.trans e, k.kn.more hn e hp⟩
section
variable {X : Cx} {δ δ' : Dl} {a b c e o ix : Expr} {rest : List Stmt} {pos : Pos} {d z : Pd} {D : Ends} {M M' : List Addr} {Hb H : Hp} {σ : L2.St}
theorem ef_revS {ns : List Int} {k : Nat} {p1 p2 p3 : Pos} (ha : EE X a δ (.scr ns)) : EF X (.Subscript a (.Slice none none (some (.UnaryOp .USub (.Constant (.int 1) k p1) p2)) p3) pos) δ (ns.reverse.map .int) := fun M σ H kn Q q =>
  ⟨_, pe_revL pe_w, ha M σ H kn _ fun v H1 e1 h1 => by
    obtain ⟨l, rfl, h2⟩ := dt_scr h1
    refine ⟨l, _, rfl, h2, fun p hp => ?_⟩
    rw [← List.map_reverse]
    exact q p _ _ (Evl.fresh_back e1 hp) (e1.trans (Evl.Ex.new hp)) upd_same (dtI _)⟩
theorem rd_not {K : PySem.W.Frag} {i j : Bool} : RD K rNotB (.bl i) (.bl j) (.bl (!decide (i = j))) := fun M x y H _ hx hy Q q => ⟨i, j, dt_bl hx, dt_bl hy, q _ H (Evl.Ex.refl H) (.bl _)⟩
theorem et_isnot {i j : Bool} (ha : EE X a δ (.bl i)) (hb : EE X b δ (.bl j)) : ET X (.Compare a [.IsNot] [b] pos) δ (!decide (i = j)) := et_cmp op_notBl rd_not ha hb (nomark _)
/-- o[i] = e, o a list of whole numbers set apart in one view -/
theorem blk_putI {a : Addr} {s : List Int} {y j : Int} {n : Nat} {sp : Pos} (he : EE X e δ (.int y)) (ho : EE X o δ' (.raw (.ref a))) (hx : EE X ix δ' (.int j)) (hj : ixN s.length j = some n) (hH : H a = some (.lst (s.map V.int))) (k : Kn X.K M H σ δ) (k' : EO X.K M' Hb H σ δ') (hM : a ∈ M') (hb : Hb a = none)
    (q : ∀ H1, Ex H H1 → EO X.K M' Hb (upd H1 a (.lst ((s.set n y).map V.int))) σ δ' → Blk X rest D σ (upd H1 a (.lst ((s.set n y).map V.int))))
    (hs : swapsWithSole [.Subscript o ix sp] e pos.line X.env = pure false := by rfl) (hw : swappedStores [.Subscript o ix sp] e X.env = pure none := by rfl)
    (h1 : (assignEach [.Subscript o ix sp] X.env).map (·.2) = [assign (.Subscript o ix sp) X.env] := by rfl)
    (ha : ∀ v, assign (.Subscript o ix sp) X.env v = (do
      let ov ← holding [v] (eval o X.env)
      let iv ← holding [v, ov] (eval ix X.env)
      standAt sp
      holding [v, ov, iv] (setItem ov iv v)
      release [v, ov, iv] []) := by intro _; rfl) : Blk X (.Assign [.Subscript o ix sp] e pos :: rest) D σ H :=
  ⟨_, pss_cons (ps_asg pe_w (pg_sub pe_w pe_w set_list ha) hs hw h1) pss_w, he M σ H k _ fun v H1 e1 g1 => by
    cases dt_int g1
    refine ho M' σ H1 (k'.kn.mono e1) _ fun u H2 e2 g2 => ?_
    cases dt_raw g2
    refine hx M' σ H2 (k'.kn.mono (e1.trans e2)) _ fun w H3 e3 g3 => ?_
    cases dt_int g3
    refine ⟨a, _, j, n, rfl, rfl, (e1.trans (e2.trans e3)) _ _ hH, by rw [List.length_map]; exact hj, ?_⟩
    have es : (s.map V.int).set n (.int y) = (s.set n y).map V.int := by rw [List.map_set]
    rw [es]
    have ee := e1.trans (e2.trans e3)
    exact q H3 ee ⟨Evl.Ex.mut (k'.ex.trans ee) hb, (k'.kn.mono ee).upd hM⟩⟩
/-- o.append(e) by two views: o's list set apart in the one, e by the other -/
theorem blk_appendX {l : Addr} {xs : List V} {apos cp : Pos} (ho : EE X o δ' (.raw (.ref l))) (he : EE X e δ d) (hl : H l = some (.lst xs)) (hz : xs.length < 100000) (hM : l ∈ M') (hb : Hb l = none) (k : Kn X.K M H σ δ) (k' : EO X.K M' Hb H σ δ')
    (q : ∀ v H1, Ex H H1 → Dt X.K M H1 v d → EO X.K M' Hb (L2.upd H1 l (.lst (xs ++ [v]))) σ δ' → Blk X rest D σ (L2.upd H1 l (.lst (xs ++ [v]))))
    (hs : swapsWith (.Call (.Attribute o "append" apos) [e] [] cp) none pos.line X.env = pure false := by rfl) (hbase : attributeBase o "append" X.env (eval o X.env) = eval o X.env := by rfl)
    (hfew : ((backTo cp (starEach [e] X.env)).all (fun x => !x.1) && (backToKw cp (keywordEach [] X.env)).all (fun x => x.1.isSome)
      && decide ([e].length + ([] : List Keyword).length + (if ([] : List Keyword).isEmpty then 0 else 1) < 30)) = true := by rfl)
    (hline : (apos.endLine == cp.line) = true := by rfl) (hst : starEach [e] X.env = (false, eval e X.env) :: starEach [] X.env := by rfl) (hplain : (backTo cp (starEach [] X.env)).any (·.1) = false := by rfl) :
    Blk X (.Expr (.Call (.Attribute o "append" apos) [e] [] cp) pos :: rest) D σ H :=
  ⟨_, pss_cons (ps_expr (pe_bm PySem.F.plainAttrs_list PySem.F.slot_list_append PySem.F.type_list_append mt_append pe_w (pa_cons pe_w pa_nil hst) hbase hfew hline hst hplain) hs) pss_w, ho M' σ H k'.kn _ fun v H1 e1 h1 => by
    cases dt_raw h1
    refine ⟨.inl ⟨rfl, xs, Evl.sq_of (e1 _ _ hl)⟩, he M σ H1 (k.mono e1) _ fun u H2 e2 h2 => ⟨l, xs, u, rfl, rfl, e2 _ _ (e1 _ _ hl), Evl.sz_lt hz, ?_⟩⟩
    exact q u H2 (e1.trans e2) h2 ⟨Evl.Ex.mut (k'.ex.trans (e1.trans e2)) hb, (k'.kn.mono (e1.trans e2)).upd hM⟩⟩
end
end Lr

/-! objects of classes without an __init__ of their own -/
namespace Lr
open PySem PySem.Spec PyProof.Rows L2
open Evl (Ex)
structure Mk0 (K : PySem.W.Frag) (C : Addr) : Prop where
  makes : PySem.W.makesIn K C = true
  init : PySem.W.findIn K (.ref C) "__init__" = some (some (.builtin "object.__init__"))
  kp : PySem.W.keepIn K (.ref C) = true
  top : PySem.W.mroIn K C (.type "object") = some true
section
variable {X : Cx} {C : Addr}
theorem run_mk0 {pins : List (Addr × Obj)} {σ : L2.St} {H : Hp} {s : Shared} {Q : VK} (M : Mk0 X.K C) (I : Inv X pins σ H s)
    (h : ∀ x dx, H x = none → H dx = none → dx ≠ x → Q (.ref x) (upd (upd H dx (.own x)) x (.ins C dx []))) : wpAny (model X.prog X.w) X.A (call (.ref C) []) (L2.EP X pins σ Q) X.xe s := by
  have hq := h (s.heap.objs.size + 1) s.heap.objs.size (I.hok.fresh (Nat.le_succ _)) (I.hok.fresh (Nat.le_refl _)) (Nat.ne_of_lt (Nat.lt_succ_self _))
  have I2 := Inv.made (C := C) I
  have e2 : ((s.heap.push PySem.W.emptyDict).push (PySem.W.instObj C s.heap.objs.size)).get? (s.heap.objs.size + 1) = some (PySem.W.instObj C s.heap.objs.size) := by
    have := Heap.get?_push_size (s.heap.push PySem.W.emptyDict) (o := PySem.W.instObj C s.heap.objs.size) rfl
    rwa [Heap.size_push] at this
  have t1 : PySem.W.Looks (model X.prog X.w) ((s.heap.push PySem.W.emptyDict).push (PySem.W.instObj C s.heap.objs.size)) (typeOf (.ref (s.heap.objs.size + 1))) (.ref C) := (PySem.W.Looks.ld e2).andThen .now
  have t2 : PySem.W.Looks (model X.prog X.w) ((s.heap.push PySem.W.emptyDict).push (PySem.W.instObj C s.heap.objs.size)) (isInstance (.ref (s.heap.objs.size + 1)) (.type "object")) true := t1.andThen (PySem.W.looks_mroIn I2.kIn M.top)
  refine wpAny_call (make_map0 I.kIn M.makes M.init (fun self => PySem.W.Looks.of_pure (PySem.W.oi_bind _)) ?_)
  refine codeAny_call_builtin PySem.W.oi_plain PySem.W.entry_oi (@PySem.W.check_slot (model X.prog X.w) _ _ _ "object.__init__" "object" "__init__" (.ref (s.heap.objs.size + 1)) [] [] _ PySem.W.oi_kind PySem.W.oi_split t2 (PySem.W.oi_args (.ref _)) ?_)
  rw [PySem.W.oi_run]
  exact wpAny_pure (And.intro rfl ⟨V.ref (s.heap.objs.size + 1), _, I2, rfl, hq⟩)
theorem pe_mk0 {x : Str} {p pos : Pos} (M : Mk0 X.K C) (hg : Gl X x) (hm : X.mg x = some (.ref C)) (hdb : (x == ("__debug__" : Str)) = false := by decide) :
    PE X (.Call (.Name x p) [] [] pos) (fun σ H Q => ∀ y dx, H y = none → H dx = none → dx ≠ y → Q (.ref y) (upd (upd H dx (.own y)) y (.ins C dx []))) := by
  refine ⟨fun pins s σ H Q I h => ?_⟩
  refine wpAny_Call_Name_kw (ld_glob I hg hm ?_ hdb)
  exact PySem.W.callWith_K0 I.kIn M.kp (run_mk0 M I h)
theorem ee_make0 {T : Str} {p pos : Pos} {δ : Dl} (M : Mk0 X.K C) (hT : X.mg T = some (.ref C)) (hg : Gl X T := by rfl) (hdb : (T == ("__debug__" : Str)) = false := by decide) : EE X (.Call (.Name T p) [] [] pos) δ (.obj C [] []) := fun M' σ H kn Q q =>
  ⟨_, pe_mk0 M hg hT hdb, fun y dx ny ndx hne => q _ _ (fun a o ha => by
    rw [upd_ne (ne_of_none ha ny), upd_ne (ne_of_none ha ndx)]
    exact ha) (.obj (fs := []) (kn.al.nw ny) upd_same .nil)⟩
end
end Lr

/-! classes and methods that stand there -/
namespace Lr
open PySem L2
open Evl (Ex)
/-- the class stands there, its __init__ keeps one thing | copies two lists -/
def Mk1 (P : Program) (w : World) (K : PySem.W.Frag) (mg : Str → Option Value) (base : Heap) (T : Str) (C : Addr) (nm : Str) : Prop := ∃ fa fd ps, Mk K C fa ∧ FnOk P w K mg base CX0 1 fa fd ps (SpI1 C nm) ∧ mg T = some (.ref C) ∧ Binds K fd ps []
def Mk2 (P : Program) (w : World) (K : PySem.W.Frag) (mg : Str → Option Value) (base : Heap) (T : Str) (C : Addr) (nm nm2 : Str) : Prop := ∃ fa fd ps, Mk K C fa ∧ FnOk P w K mg base CX0 1 fa fd ps (SpI2 C nm nm2) ∧ mg T = some (.ref C) ∧ Binds K fd ps []
/-- a method stands there -/
def HM (P : Program) (w : World) (K : PySem.W.Frag) (mg : Str → Option Value) (base : Heap) (C : Addr) (m : Str) (k : Nat) (ps : List Str) (sp : Sp) : Prop := ∃ fa fd, Meth K C m fa ∧ FnOk P w K mg base CX0 k fa fd ps sp ∧ Binds K fd ps []
section
variable {X : Cx} {δ : Dl} {e : Expr} {rest : List Stmt} {pos : Pos} {D : Ends} {M : List Addr} {Hb H : Hp} {σ : L2.St} {C : Addr} {nm nm2 : Str} {l c : List Int}
theorem blk_retO (he : EOA X e δ C nm nm2 l c) (k : EO X.K M Hb H σ δ) (q : ∀ x dx a b H', Hb x = none → Hb a = none → Hb b = none → a ≠ b → Ex Hb H' → H' x = some (.ins C dx [(nm, .ref a), (nm2, .ref b)]) →
  H' a = some (.lst (l.map V.int)) → H' b = some (.lst (c.map V.int)) → D.rt (.ref x) H') : Blk X (.Return (some e) pos :: rest) D σ H :=
  ⟨_, pss_cons (ps_ret pe_w) (u := tNever) pss_never, he M σ H k.kn _ fun x dx a b H' hx ha hb ab e1 h1 h2 h3 => q x dx a b H' (Evl.fresh_back k.ex hx) (Evl.fresh_back k.ex ha) (Evl.fresh_back k.ex hb) ab (k.ex.trans e1) h1 h2 h3⟩
end
section
variable {X : Cx} {δ : Dl} {e o : Expr} {es : List Expr} {rest : List Stmt} {pos apos cp : Pos} {d z : Pd} {ds ds2 : List Pd} {D : Ends} {M : List Addr} {Hb H : Hp} {σ : L2.St} {C CA CU : Addr} {ns : List Str} {k : Nat} {ps : List Str} {m : Str}
theorem ee_hm {pl : Sem Bool} {R : List Pd → Pd → Prop} (cl : Cls X.K C) (hm : HM X.prog X.w X.K X.mg X.base C m k ps (SpR X.K R)) (hr : Room k X.A) (hx : Passes CX0 X E0) (ho : EE X o δ (.obj C ns ds)) (hno : lookNo ns m = true)
    (ha : EA X (e :: es) δ ds2) (hR : R (.obj C ns ds :: ds2) d)
    (hst : starEach (e :: es) X.env = (false, eval e X.env) :: starEach es X.env := by rfl) (hpl : (backTo cp (starEach es X.env)).any (·.1) = false := by rfl)
    (ht : eval (.Call (.Attribute o m apos) (e :: es) [] cp) X.env = (do
      let ov ← eval o X.env
      standAt apos.atName
      let (f, first) ← holding [ov] (getMethod ov m pl)
      callWith cp f first (backTo cp (starEach (e :: es) X.env)) (backToKw cp (keywordEach [] X.env))) := by rfl) :
    EE X (.Call (.Attribute o m apos) (e :: es) [] cp) δ d := by
  obtain ⟨fa, fd, h1, h2, h3⟩ := hm
  exact ee_meth cl h1 h2 hr h3 hx ho hno ha hR hst hpl ht
end
end Lr

/-! comprehensions with a test -/
namespace Lr
open PySem L2
open Evl (Ex)
section
variable {X : Cx} {δ : Dl} {a b c e : Expr} {rest : List Stmt} {pos : Pos} {d z : Pd} {x y : Str} {D : Ends} {M : List Addr} {Hb H : Hp} {σ : L2.St}
def ttW (X : Cx) (c : Expr) (scope : Scope) : TT := fun σ H Q => ∀ (s : Shared) (Hb : Hp) (C : Addr) (cl : List (Str × Addr)) (fp : List Addr), TTW (X.blk s Hb scope (compEnvC scope cl C X.env) fp) c σ H Q
theorem pts_tt {c : Expr} {scope : Scope} (s : Shared) (H : Hp) (C : Addr) (cl : List (Str × Addr)) (fp : List Addr) : PTs (X.blk s H scope (compEnvC scope cl C X.env) fp) [c] (ttW X c scope) :=
  pts_one ⟨fun pins s' σ H' Q I h => pt_w.run pins s' σ H' Q I (h s H C cl fp)⟩
theorem filter_succ (p : Nat → Bool) (i : Nat) : (List.range (i + 1)).filter p = (List.range i).filter p ++ (if p i then [i] else []) := by
  rw [List.range_succ, List.filter_append]
  congr 1
  cases h : p i <;> simp [List.filter, h]
theorem lcIf_read {tg elt iter : Expr} {scope : Scope} {own : List (Str × Nat)} {n : Nat} {Yd : Nat → Pd} {f : Nat → Pd} {p : Nat → Bool} {δ' : Nat → Dl} {g : TG} (hi : IW X tg iter δ n Yd)
    (hgt : ∀ (i : Nat) M v τ H, i < n → Kn X.K M H τ (wipeD δ (own.map (·.2))) → Dt X.K M H v (Yd i) → ∀ Q : St → Hp → Prop, (∀ τ', Kn X.K M H τ' (δ' i) → L2.wipe τ' (own.map (·.2)) = L2.wipe τ (own.map (·.2)) → Q τ' H) → g v τ H Q)
    (hn : n ≤ 50000)
    (hc : ∀ (s : Shared) (H : Hp) (C : Addr) (cl : List (Str × Addr)) (fp : List Addr) (i : Nat), i < n → ET (X.blk s H scope (compEnvC scope cl C X.env) fp) c (δ' i) (p i))
    (he : ∀ (s : Shared) (H : Hp) (C : Addr) (cl : List (Str × Addr)) (fp : List Addr) (i : Nat), i < n → p i = true → EE (X.blk s H scope (compEnvC scope cl C X.env) fp) elt (δ' i) (f i))
    {M : List Addr} {σ : L2.St} {H : Hp} (kn : Kn X.K M H σ δ) (Q : VK) (q : ∀ a xs H', H a = none → Ex H H' → H' a = some (.lst xs) → DtAll X.K (a :: M) H' xs (((List.range n).filter p).map f) → Q (.ref a) H') :
    tLc (TIW X tg iter) g (ttW X c scope) (teW X elt scope) (own.map (·.2)) σ H Q := by
  refine hi M σ H kn _ fun J H1 G Y e1 w hG hY Dl hD => ?_
  refine lc_it w (g := g) (tt := ttW X c scope) (te := teW X elt scope) (vs := own.map (·.2)) (σ := σ) (Qd := fun H' => Q (.ref Dl) H') (fun i H' => Ex H1 H' ∧ ∃ acc, H' Dl = some (.lst acc) ∧ DtAll X.K (Dl :: M) H' acc (((List.range i).filter p).map f)) ⟨Evl.Ex.new hD, [], upd_same, .nil⟩ (fun i H' _ p => hG H' (exM p.1)) ?_ ?_
  · intro i v H2 H3 hlt pv y
    obtain ⟨p2, acc, p3, p4⟩ := pv
    have kn2 : Kn X.K (Dl :: M) H2 σ δ := (kn.mono e1).more hD p2 p3
    obtain ⟨y1, y2⟩ := hY (Dl :: M) i H2 v H3 (fun a ha => (List.mem_cons.mp ha).elim (fun z => .inr (by rw [z]; exact hD)) .inl) hlt y (exM p2) kn2.al
    refine hgt i (Dl :: M) v _ H3 hlt ((kn2.mono y1).wipe _) y2 _ fun τ' kt hw => ⟨by rw [hw, wipe_idem], ?_⟩
    show ∀ (s : Shared) (Hb : Hp) (C : Addr) (cl : List (Str × Addr)) (fp : List Addr), _
    intro s Hb C cl fp
    refine hc s Hb C cl fp i hlt (Dl :: M) τ' H3 kt _ fun H4 e4 => ?_
    cases hp : p i with
    | true =>
      refine iteT ?_
      show ∀ (s : Shared) (Hb : Hp) (C : Addr) (cl : List (Str × Addr)) (fp : List Addr), _
      intro s Hb C cl fp
      refine he s Hb C cl fp i hlt hp (Dl :: M) τ' H4 (kt.mono e4) _ fun z H5 e5 h5 => ⟨acc, e5 _ _ (e4 _ _ (y1 _ _ p3)), ?_, ?_⟩
      · rw [p4.length, List.length_map]
        have := List.length_filter_le p (List.range i)
        rw [List.length_range] at this
        exact Evl.sz_lt (by omega)
      · have exu : Ex H1 (upd H5 Dl (.lst (acc ++ [z]))) := fun a o h => by
          rw [upd_ne (ne_of_none h hD)]
          exact (((p2.trans y1).trans e4).trans e5) a o h
        refine ⟨exu, _, upd_same, ?_⟩
        rw [filter_succ, hp, List.map_append]
        exact DtAll.app ((p4.mono ((y1.trans e4).trans e5)).monoM (ExM.upd (List.mem_cons_self ..))) (.cons (h5.monoM (ExM.upd (List.mem_cons_self ..))) .nil)
    | false =>
      refine iteF ⟨(p2.trans y1).trans e4, acc, e4 _ _ (y1 _ _ p3), ?_⟩
      rw [filter_succ, hp, List.map_append]
      have := p4.mono (y1.trans e4)
      simpa using this
  · intro H' pv
    obtain ⟨p2, acc, p3, p4⟩ := pv
    exact q Dl acc H' (Evl.fresh_back e1 hD) (e1.trans p2) p3 p4
/-- [e for name in iter if c] -/
theorem ef_lcIf {tx : Str} {tp : Pos} {elt iter : Expr} {scope : Scope} {own : List (Str × Nat)} {n jx : Nat} {Yd : Nat → Pd} {f : Nat → Pd} {p : Nat → Bool} (hc : X.calm = true) (hN : X.N.Nodup) (hi : IW X (.Name tx tp) iter δ n Yd) (ok : BlkOk X.N X.env.scope scope own)
    (hg : ∀ (s : Shared) (H : Hp) (C : Addr) (cl : List (Str × Addr)) (fp : List Addr), PG (X.blk s H scope (compEnvC scope cl C X.env) fp) (.Name tx tp) (gName jx)) (hj : jx ∈ own.map (·.2)) (hn : n ≤ 50000)
    (ht : ∀ (s : Shared) (H : Hp) (C : Addr) (cl : List (Str × Addr)) (fp : List Addr) (i : Nat), i < n → ET (X.blk s H scope (compEnvC scope cl C X.env) fp) c ((wipeD δ (own.map (·.2))).set jx (some (Yd i))) (p i))
    (he : ∀ (s : Shared) (H : Hp) (C : Addr) (cl : List (Str × Addr)) (fp : List Addr) (i : Nat), i < n → p i = true → EE (X.blk s H scope (compEnvC scope cl C X.env) fp) elt ((wipeD δ (own.map (·.2))).set jx (some (Yd i))) (f i)) (hs : ∀ x, foldedSetIterable iter X.env x = pure x := by intro _; rfl) :
    EF X (.ListComp elt [⟨.Name tx tp, iter, [c], 0⟩] scope pos) δ (((List.range n).filter p).map f) := fun M σ H kn Q q =>
  ⟨_, pe_lc hc hN pi_w ok hg pts_tt pe_te hs, lcIf_read hi (fun i M v τ H _ k h Q q => q _ (k.set jx h) (wipe_set _ _ hj)) hn ht he kn Q q⟩
theorem blk_setLcIf {tx : Str} {tp : Pos} {elt iter : Expr} {scope : Scope} {own : List (Str × Nat)} {n jx : Nat} {Yd : Nat → Pd} {f : Nat → Pd} {p : Nat → Bool} {py cp : Pos} (nd : X.N.Nodup) (i : Nat) (hc : X.calm = true) (hi : IW X (.Name tx tp) iter δ n Yd) (ok : BlkOk X.N X.env.scope scope own)
    (hg : ∀ (s : Shared) (H : Hp) (C : Addr) (cl : List (Str × Addr)) (fp : List Addr), PG (X.blk s H scope (compEnvC scope cl C X.env) fp) (.Name tx tp) (gName jx)) (hj : jx ∈ own.map (·.2)) (hn : n ≤ 50000)
    (ht : ∀ (s : Shared) (H : Hp) (C : Addr) (cl : List (Str × Addr)) (fp : List Addr) (i : Nat), i < n → ET (X.blk s H scope (compEnvC scope cl C X.env) fp) c ((wipeD δ (own.map (·.2))).set jx (some (Yd i))) (p i))
    (he : ∀ (s : Shared) (H : Hp) (C : Addr) (cl : List (Str × Addr)) (fp : List Addr) (i : Nat), i < n → p i = true → EE (X.blk s H scope (compEnvC scope cl C X.env) fp) elt ((wipeD δ (own.map (·.2))).set jx (some (Yd i))) (f i))
    (k : EO X.K M Hb H σ δ) (q : ∀ a xs H', H a = none → Ex H H' → H' a = some (.lst xs) → DtAll X.K (a :: M) H' xs (((List.range n).filter p).map f) → EO X.K M Hb H' σ δ → Blk X rest D (σ.set i (some (.ref a))) H')
    (hi' : X.N[i]? = some y := by rfl) (hyl : X.env.scope.names.lookup y = some .local := by rfl) (hsw : swapsWith (.ListComp elt [⟨.Name tx tp, iter, [c], 0⟩] scope cp) (some (.Name y py)) pos.line X.env = pure true := by exact sw_true rfl rfl rfl (by decide +kernel)) (hs : ∀ x, foldedSetIterable iter X.env x = pure x := by intro _; rfl) :
    Blk X (.Assign [.Name y py] (.ListComp elt [⟨.Name tx tp, iter, [c], 0⟩] scope cp) pos :: rest) D σ H :=
  ⟨_, pss_cons (ps_setLc hc nd hi' hyl hsw pi_w ok hg pts_tt pe_te hs) pss_w, lcIf_read hi (fun i M v τ H _ k h Q q => q _ (k.set jx h) (wipe_set _ _ hj)) hn ht he k.kn (fun x H1 => gName i x σ H1 (Blk X rest D)) fun a xs H' n1 e1 h1 h2 => q a xs H' n1 e1 h1 h2 (k.mono e1)⟩
end
end Lr

/-! great divisions, dicts of ints, constants, chains as values -/
namespace Lr
open PySem PySem.Spec PyProof.Rows L2
open Evl (Ex)
/-- // of a number of fewer than 13000 bits: never by way of _pylong -/
def CDivV (i j : Int) : Prop := 0 < j ∧ i.natAbs.log2 < 13000
theorem noPy {x y : Int} (h : x.natAbs.log2 < 13000) : Builtin.divisionGoesByPylong x y = false := by
  have key : (if x == 0 then 0 else x.natAbs.log2 / 30 + 1) ≤ 450 := by
    by_cases hx : (x == 0) = true
    · rw [if_pos hx]; exact Nat.zero_le _
    · rw [if_neg hx]; omega
  show (decide ((if y == 0 then 0 else y.natAbs.log2 / 30 + 1) > 300) && decide ((if x == 0 then 0 else x.natAbs.log2 / 30 + 1) > (if y == 0 then 0 else y.natAbs.log2 / 30 + 1) + 150)) = false
  generalize (if x == 0 then 0 else x.natAbs.log2 / 30 + 1) = u at key
  generalize (if y == 0 then 0 else y.natAbs.log2 / 30 + 1) = v
  rw [Bool.and_eq_false_iff, decide_eq_false_iff_not, decide_eq_false_iff_not]
  omega
theorem div_bits {i j : Int} {n : Nat} (hj : 0 < j) (hi : i.natAbs < 2 ^ n) (h0 : 0 < n) (h1 : n ≤ 13000) : CDivV i j := ⟨hj, Nat.lt_of_lt_of_le (PySem.Flt.log2_lt_of h0 hi) h1⟩
def lookI (kvs : List (Int × Int)) (n : Int) : Option Int := (kvs.find? fun p => decide (p.1 = n)).map (·.2)
theorem look_kv (n : Int) : ∀ kvs : List (Int × Int), valV (kvP kvs) (Sum.inl n : Key) = (lookI kvs n).map V.int
  | [] => rfl
  | (m, v) :: kvs => by
    show valV (((Sum.inl m : Key), V.int v) :: kvP kvs) (Sum.inl n) = _
    by_cases h : m = n
    · rw [valV_pos (by rw [h])]
      unfold lookI
      simp [List.find?, h]
    · rw [valV_neg (by intro z; exact h (Sum.inl.inj z)), look_kv n kvs]
      unfold lookI
      simp [List.find?, h]
section
variable {X : Cx} {δ δ' : Dl} {a b c e o ix : Expr} {rest : List Stmt} {pos : Pos} {d z d1 d2 : Pd} {ds : List Pd} {i j n : Int} {x y : Str} {D : Ends} {M M' : List Addr} {Hb H : Hp} {σ : L2.St}
theorem op_fdivV : OpR X (binaryOp .FloorDiv) (rI CDivV fun i j => .int (i / j)) := opI fun i j _ _ _ _ _ hc q => by
  have h1 : (0 : Int) < j := hc.1
  exact floordiv_int (by omega) (by rw [Int.fdiv_eq_ediv_of_nonneg i (by omega)]; exact q) (.inl (noPy hc.2))
theorem ee_divV (ha : EE X a δ (.int i)) (hb : EE X b δ (.int j)) (h : CDivV i j) : EE X (.BinOp a .FloorDiv b pos) δ (.int (i / j)) := ee_bin op_fdivV (rd_I h) ha hb
/-- a module's whole number -/
theorem ee_globI {p : Pos} {t : Nat} (hm : X.mg x = some (.int i t)) (hg : Gl X x := by rfl) (hd : (x == ("__debug__" : Str)) = false := by decide) : EE X (.Name x p) δ (.int i) := fun M σ H _ Q q =>
  ⟨_, pe_glob (v := .int i) hg hm ⟨t, rfl⟩ hd, q _ H (Evl.Ex.refl H) (.int i)⟩
theorem ee_chainV {op op' : CmpOp} {r r' : R2} {k k' : Bool} (ho : OpR X (compareOp op) r) (ho' : OpR X (compareOp op') r') (hr : RD X.K r d1 d2 (.bl k)) (hr' : k = true → RD X.K r' d2 d (.bl k')) (ha : EE X a δ d1) (hb : EE X b δ d2) (hc : EE X c δ d)
    (hm : lastMarks [op, op'] [b, c] = false := by with_unfolding_all rfl) : EE X (.Compare a [op, op'] [b, c] pos) δ (.bl (k && k')) := fun M σ H kn Q q =>
  ⟨_, pe_chain ho ho' pe_w pe_w pe_w hm, ha M σ H kn _ fun x H1 e1 h1 => hb M σ H1 (kn.mono e1) _ fun y H2 e2 h2 => hr M x y H2 (kn.al.mono (e1.trans e2)) (h1.mono e2) h2 _ fun v H3 e3 h3 => ⟨k, dt_bl h3, by
    cases k with
    | true =>
      refine iteT ?_
      refine hc M σ H3 (kn.mono ((e1.trans e2).trans e3)) _ fun u H4 e4 h4 => ?_
      exact hr' rfl M y u H4 (kn.al.mono (((e1.trans e2).trans e3).trans e4)) (h2.mono (e3.trans e4)) h4 _ fun w H5 e5 h5 => q w H5 ((((e1.trans e2).trans e3).trans e4).trans e5) h5
    | false =>
      refine iteF ?_
      exact q _ H3 ((e1.trans e2).trans e3) (.bl _)⟩⟩
/-! dicts of ints -/
theorem dt_dic {K : PySem.W.Frag} {v : V} {kvs : List (Int × Int)} (h : Dt K M H v (.dic kvs)) : ∃ p, v = .ref p ∧ H p = some (.dK (kvP kvs)) := by
  cases h with
  | dic _ h1 => exact ⟨_, rfl, h1⟩
theorem ee_dnew : EE X (.Dict [] [] pos) δ (.dic []) := fun M σ H k Q q => ⟨_, pe_dnewK, fun p hp => q _ _ (Evl.Ex.new hp) (.dic (k.al.nw hp) upd_same)⟩
theorem et_dnotin {kvs : List (Int × Int)} (hu : X.A.units + 1 < cLine) (hi : EE X ix δ (.int n)) (ho : EE X o δ (.dic kvs)) (hm : behindInMarks .NotIn o = false := by rfl) : ET X (.Compare ix [.NotIn] [o] pos) δ (!(lookI kvs n).isSome) := fun M σ H k Q q =>
  ⟨_, pt_cmp (pc_dnotin hu pe_w pe_w) hm, hi M σ H k _ fun y H1 e1 h1 => ho M σ H1 (k.mono e1) _ fun x H2 e2 h2 => by
    cases dt_int h1
    obtain ⟨p, rfl, g⟩ := dt_dic h2
    refine ⟨p, _, rfl, DGet.k (k := Sum.inl n) g, _, rfl, ?_⟩
    rw [look_kv, Option.isSome_map]
    exact q H2 (e1.trans e2)⟩
theorem ee_dget {kvs : List (Int × Int)} (hu : X.A.units + 1 < cLine) (ho : EE X o δ (.dic kvs)) (hi : EE X ix δ (.int n)) (hv : lookI kvs n = some j) (hs : NoSl ix := by exact fun _ _ => rfl) : EE X (.Subscript o ix pos) δ (.int j) := fun M σ H k Q q =>
  ⟨_, pe_dget hu pe_w pe_w hs, ho M σ H k _ fun x H1 e1 h1 => hi M σ H1 (k.mono e1) _ fun y H2 e2 h2 => by
    cases dt_int h2
    obtain ⟨p, rfl, g⟩ := dt_dic (h1.mono e2)
    refine ⟨p, .int j, rfl, ?_, q _ H2 (e1.trans e2) (.int j)⟩
    have := DGet.k (k := Sum.inl n) g
    rw [look_kv, hv] at this
    exact this⟩
/-- name = {} -/
theorem blk_dnew (nd : X.N.Nodup) {p' dp : Pos} (i : Nat) (q : ∀ p, H p = none → Blk X rest D (σ.set i (some (.ref p))) (upd H p (.dK [])))
    (hi : X.N[i]? = some x := by rfl) (hx : Loc X.env.scope x := by first | exact Or.inl rfl | exact Or.inr rfl) (hs : swapsWith (.Dict [] [] dp) (some (.Name x p')) pos.line X.env = pure false := by rfl)
    (hf : X.fn x = true ∨ X.env.scope.names.lookup x = some .local := by first | exact .inl rfl | exact .inr rfl) : Blk X (.Assign [.Name x p'] (.Dict [] [] dp) pos :: rest) D σ H :=
  ⟨_, pss_cons (ps_set nd hi hx pe_dnewK hs hf) pss_w, fun p hp => q p hp⟩
/-- o[ix] = e, o a dict set apart in the one view, the key new -/
theorem blk_dput {p : Addr} {kvs : List (Int × Int)} {v : Int} {sp : Pos} (hu : X.A.units + 1 < cLine) (he : EE X e δ (.int v)) (ho : EE X o δ' (.raw (.ref p))) (hi : EE X ix δ' (.int n)) (hH : H p = some (.dK (kvP kvs))) (hn : lookI kvs n = none) (hl : kvs.length < 100000)
    (k : Kn X.K M H σ δ) (k' : EO X.K M' Hb H σ δ') (hM : p ∈ M') (hb : Hb p = none)
    (q : ∀ H1, Ex H H1 → EO X.K M' Hb (upd H1 p (.dK (kvP (kvs ++ [(n, v)])))) σ δ' → Blk X rest D σ (upd H1 p (.dK (kvP (kvs ++ [(n, v)])))))
    (hs : swapsWith e (some (.Subscript o ix sp)) pos.line X.env = pure false := by rfl) : Blk X (.Assign [.Subscript o ix sp] e pos :: rest) D σ H :=
  ⟨_, pss_cons (ps_dput hu pe_w pe_w pe_w hs) pss_w, he M σ H k _ fun w H1 e1 g1 => by
    cases dt_int g1
    refine ho M' σ H1 (k'.kn.mono e1) _ fun u H2 e2 g2 => ?_
    cases dt_raw g2
    refine hi M' σ H2 (k'.kn.mono (e1.trans e2)) _ fun y H3 e3 g3 => ?_
    cases dt_int g3
    have ee := e1.trans (e2.trans e3)
    have hp := ee _ _ hH
    have hz : (kvP kvs).length < sizeLine := by
      unfold kvP
      rw [List.length_map]
      exact Evl.sz_lt hl
    refine ⟨p, _, rfl, DPut.k (k := Sum.inl n) hp hz, ?_⟩
    have ep : putK (kvP kvs) (Sum.inl n) (V.int v) = kvP (kvs ++ [(n, v)]) := by
      unfold putK
      rw [if_neg (by rw [valV_any, look_kv, hn]; simp)]
      unfold kvP
      rw [List.map_append]
      rfl
    rw [ep]
    exact q H3 ee ⟨Evl.Ex.mut (k'.ex.trans ee) hb, (k'.kn.mono ee).upd hM⟩⟩
/-- a, b = e1, a new list (both local) -/
theorem blk_parF {px py pt pt2 : Pos} {kt k2 : Nat} (nd : X.N.Nodup) (i j : Nat) (hc : X.calm = true) (ha : EE X a δ d1) (hb : EF X b δ ds) (k : EO X.K M Hb H σ δ) (q : ∀ v p xs H', H p = none → Ex H H' → Dt X.K (p :: M) H' v d1 → H' p = some (.lst xs) → DtAll X.K (p :: M) H' xs ds → EO X.K M Hb H' σ δ → Blk X rest D ((σ.set i (some v)).set j (some (.ref p))) H')
    (hi : X.N[i]? = some x := by rfl) (hj : X.N[j]? = some y := by rfl) (hij : i ≠ j := by decide) (hx : X.env.scope.names.lookup x = some .local := by rfl) (hy : X.env.scope.names.lookup y = some .local := by rfl)
    (hw : swappedStores [.Tuple [.Name x px, .Name y py] kt pt] (.Tuple [a, b] k2 pt2) X.env = pure (some [x, y]) := by rfl)
    (hs : swapsWithSole [.Tuple [.Name x px, .Name y py] kt pt] (.Tuple [a, b] k2 pt2) pos.line X.env = pure false := by rfl)
    (s1 : starEach [a, b] X.env = (false, eval a X.env) :: starEach [b] X.env := by rfl) (s2 : starEach [b] X.env = (false, eval b X.env) :: starEach [] X.env := by rfl) :
    Blk X (.Assign [.Tuple [.Name x px, .Name y py] kt pt] (.Tuple [a, b] k2 pt2) pos :: rest) D σ H :=
  ⟨_, pss_cons (ps_par hc nd hi hj hij hx hy (pa_cons pe_w (pa_cons pe_w pa_nil s2) s1) hw hs) pss_w, ha M σ H k.kn _ fun v H1 e1 h1 => hb M σ H1 (k.kn.mono e1) _ fun p xs H2 n2 e2 h2 h3 =>
    ⟨v, .ref p, rfl, q v p xs H2 (Evl.fresh_back e1 n2) (e1.trans e2) ((h1.more n2).mono e2) h2 h3 (k.mono (e1.trans e2))⟩⟩
end
end Lr

/-! texts -/
namespace Lr
open PySem PySem.Spec PyProof.Rows L2
open Evl (Ex)
theorem szL {n : Nat} (h : n ≤ 16000000) : n ≤ sizeLine := Nat.le_trans h (by decide)
section
variable {X : Cx} {δ : Dl} {a b c e o ix : Expr} {rest thn : List Stmt} {pos cp p p2 p3 apos : Pos} {d z d1 d2 : Pd} {ds : List Pd} {i j n : Int} {x y : Str} {D : Ends} {M : List Addr} {Hb H : Hp} {σ : L2.St}
/-- o.m(e), a method of a text -/
theorem ee_m1 {id : String} {name : Str} {r : V → List V → Hp → VK → Prop} (slot : Slot "str" name id) (ty : typeOf (.builtin id) = pure (.type "method_descriptor")) (rule : MtR X id r) (ho : EE X o δ (.str x)) (he : EE X e δ d)
    (hr : ∀ M u H, Al M H → Dt X.K M H u d → ∀ Q : VK, (∀ v H', Ex H H' → Dt X.K M H' v z → Q v H') → r (.str x) [u] H Q)
    (hs : starEach [e] X.env = [(false, eval e X.env)]) (hbase : attributeBase o name X.env (eval o X.env) = eval o X.env) (hline : (apos.endLine == pos.line) = true) :
    EE X (.Call (.Attribute o name apos) [e] [] pos) δ z := fun M σ H kn Q q =>
  ⟨_, pe_m1 slot ty rule pe_w pe_w hs hbase hline, ho M σ H kn _ fun v H1 e1 g1 => by
    rw [dt_str g1]
    exact ⟨⟨_, rfl⟩, he M σ H1 (kn.mono e1) _ fun u H2 e2 g2 => hr M u H2 (kn.al.mono (e1.trans e2)) g2 Q fun v H3 e3 g3 => q v H3 ((e1.trans e2).trans e3) g3⟩⟩
theorem ef_m1 {id : String} {name : Str} {r : V → List V → Hp → VK → Prop} {zs : List Pd} (slot : Slot "str" name id) (ty : typeOf (.builtin id) = pure (.type "method_descriptor")) (rule : MtR X id r) (ho : EE X o δ (.str x)) (he : EE X e δ d)
    (hr : ∀ M u H, Al M H → Dt X.K M H u d → ∀ Q : VK, (∀ a xs H', H a = none → Ex H H' → H' a = some (.lst xs) → DtAll X.K (a :: M) H' xs zs → Q (.ref a) H') → r (.str x) [u] H Q)
    (hs : starEach [e] X.env = [(false, eval e X.env)]) (hbase : attributeBase o name X.env (eval o X.env) = eval o X.env) (hline : (apos.endLine == pos.line) = true) :
    EF X (.Call (.Attribute o name apos) [e] [] pos) δ zs := fun M σ H kn Q q =>
  ⟨_, pe_m1 slot ty rule pe_w pe_w hs hbase hline, ho M σ H kn _ fun v H1 e1 g1 => by
    rw [dt_str g1]
    exact ⟨⟨_, rfl⟩, he M σ H1 (kn.mono e1) _ fun u H2 e2 g2 => hr M u H2 (kn.al.mono (e1.trans e2)) g2 Q fun a xs H3 n3 e3 g3 g4 => q a xs H3 (Evl.fresh_back (e1.trans e2) n3) ((e1.trans e2).trans e3) g3 g4⟩⟩
theorem dtT {K : PySem.W.Frag} {M : List Addr} {H : Hp} : ∀ ys : List Str, DtAll K M H (ys.map V.str) (ys.map Pd.str)
  | [] => .nil
  | y :: ys => .cons (.str y) (dtT ys)
theorem dtT_inv {K : PySem.W.Frag} {M : List Addr} {H : Hp} : ∀ {ys : List Str} {xs : List V}, DtAll K M H xs (ys.map Pd.str) → xs = ys.map V.str
  | [], _, h => by cases h; rfl
  | y :: ys, _, h => by
    cases h with
    | cons h1 h2 =>
      rw [dt_str h1, dtT_inv h2]
      rfl
/-- s.split(sep) -/
theorem ef_split (ho : EE X o δ (.str x)) (he : EE X e δ (.str y)) (hy : (y.length == 0) = false) (hz : x.length + 2 ≤ 16000000) (hs : starEach [e] X.env = [(false, eval e X.env)] := by rfl) (hbase : attributeBase o "split" X.env (eval o X.env) = eval o X.env := by rfl) (hline : (apos.endLine == pos.line) = true := by rfl) :
    EF X (.Call (.Attribute o "split" apos) [e] [] pos) δ ((Txt.split x y).map Pd.str) :=
  ef_m1 PySem.F.slot_str_split PySem.F.type_str_split mt_split ho he (fun M u H al hu Q q => ⟨x, y, rfl, by rw [dt_str hu], hy, szL hz, fun p hp => q p _ _ hp (Evl.Ex.new hp) upd_same (dtT _)⟩) hs hbase hline
/-- s.partition(sep) -/
theorem ee_partition (ho : EE X o δ (.str x)) (he : EE X e δ (.str y)) (hy : (y.length == 0) = false) (hz : x.length ≤ 16000000) (hs : starEach [e] X.env = [(false, eval e X.env)] := by rfl) (hbase : attributeBase o "partition" X.env (eval o X.env) = eval o X.env := by rfl) (hline : (apos.endLine == pos.line) = true := by rfl) :
    EE X (.Call (.Attribute o "partition" apos) [e] [] pos) δ (.tup [.str (Txt.partition x y).1, .str (Txt.partition x y).2.1, .str (Txt.partition x y).2.2]) :=
  ee_m1 PySem.F.slot_str_partition PySem.F.type_str_partition mt_partition ho he (fun M u H al hu Q q => ⟨x, y, rfl, by rw [dt_str hu], hy, szL hz, fun p hp => q _ _ (Evl.Ex.new hp) (.tup (al.nw hp) upd_same (.cons (.str _) (.cons (.str _) (.cons (.str _) .nil))))⟩) hs hbase hline
/-- sep.join([..]) -/
theorem ee_join {ys : List Str} (ho : EE X o δ (.str x)) (he : EE X e δ (.lst (ys.map Pd.str))) (hz : (ys.map (·.length)).sum + ys.length * x.length ≤ 16777216) (hs : starEach [e] X.env = [(false, eval e X.env)] := by rfl) (hbase : attributeBase o "join" X.env (eval o X.env) = eval o X.env := by rfl) (hline : (apos.endLine == pos.line) = true := by rfl) :
    EE X (.Call (.Attribute o "join" apos) [e] [] pos) δ (.str (Txt.join x ys)) :=
  ee_m1 PySem.F.slot_str_join PySem.F.type_str_join mt_join ho he (fun M u H al hu Q q => by
    obtain ⟨l, xs, rfl, h1, h2⟩ := dt_sq hu
    rw [dtT_inv h2] at h1
    exact ⟨x, l, ys, rfl, rfl, .inl (Evl.sq_of h1), hz, q _ H (Evl.Ex.refl H) (.str _)⟩) hs hbase hline
theorem ee_starts (ho : EE X o δ (.str x)) (he : EE X e δ (.str y)) (hs : starEach [e] X.env = [(false, eval e X.env)] := by rfl) (hbase : attributeBase o "startswith" X.env (eval o X.env) = eval o X.env := by rfl) (hline : (apos.endLine == pos.line) = true := by rfl) :
    EE X (.Call (.Attribute o "startswith" apos) [e] [] pos) δ (.bl (Txt.startswith x y)) :=
  ee_m1 PySem.F.slot_str_startswith PySem.F.type_str_startswith mt_startswith ho he (fun M u H al hu Q q => ⟨x, y, rfl, by rw [dt_str hu], q _ H (Evl.Ex.refl H) (.bl _)⟩) hs hbase hline
theorem ee_ends (ho : EE X o δ (.str x)) (he : EE X e δ (.str y)) (hs : starEach [e] X.env = [(false, eval e X.env)] := by rfl) (hbase : attributeBase o "endswith" X.env (eval o X.env) = eval o X.env := by rfl) (hline : (apos.endLine == pos.line) = true := by rfl) :
    EE X (.Call (.Attribute o "endswith" apos) [e] [] pos) δ (.bl (Txt.endswith x y)) :=
  ee_m1 PySem.F.slot_str_endswith PySem.F.type_str_endswith mt_endswith ho he (fun M u H al hu Q q => ⟨x, y, rfl, by rw [dt_str hu], q _ H (Evl.Ex.refl H) (.bl _)⟩) hs hbase hline
theorem ee_countS (ho : EE X o δ (.str x)) (he : EE X e δ (.str y)) (hs : starEach [e] X.env = [(false, eval e X.env)] := by rfl) (hbase : attributeBase o "count" X.env (eval o X.env) = eval o X.env := by rfl) (hline : (apos.endLine == pos.line) = true := by rfl) :
    EE X (.Call (.Attribute o "count" apos) [e] [] pos) δ (.int (Txt.count x y)) :=
  ee_m1 PySem.F.slot_str_count PySem.F.type_str_count mt_count ho he (fun M u H al hu Q q => ⟨x, y, rfl, by rw [dt_str hu], q _ H (Evl.Ex.refl H) (.int _)⟩) hs hbase hline
theorem ee_stripC (ho : EE X o δ (.str x)) (he : EE X e δ (.str y)) (hz : x.length ≤ 16000000) (hs : starEach [e] X.env = [(false, eval e X.env)] := by rfl) (hbase : attributeBase o "strip" X.env (eval o X.env) = eval o X.env := by rfl) (hline : (apos.endLine == pos.line) = true := by rfl) :
    EE X (.Call (.Attribute o "strip" apos) [e] [] pos) δ (.str (Txt.stripChars x y)) :=
  ee_m1 PySem.F.slot_str_strip PySem.F.type_str_strip mt_stripChars ho he (fun M u H al hu Q q => ⟨x, y, rfl, by rw [dt_str hu], szL hz, q _ H (Evl.Ex.refl H) (.str _)⟩) hs hbase hline
/-- s.index(y), y there -/
theorem ee_indexS {k : Nat} (hc : X.calm = true) (ho : EE X o δ (.str x)) (he : EE X e δ (.str y)) (hk : Txt.index0 x y = some k) (hbase : attributeBase o "index" X.env (eval o X.env) = eval o X.env := by rfl)
    (hfew : ((backTo pos (starEach [e] X.env)).all (fun x => !x.1) && (backToKw pos (keywordEach [] X.env)).all (fun x => x.1.isSome)
      && decide ([e].length + ([] : List Keyword).length + (if ([] : List Keyword).isEmpty then 0 else 1) < 30)) = true := by rfl)
    (hline : (apos.endLine == pos.line) = true := by rfl) (hst : starEach [e] X.env = (false, eval e X.env) :: starEach [] X.env := by rfl) (hplain : (backTo pos (starEach [] X.env)).any (·.1) = false := by rfl) :
    EE X (.Call (.Attribute o "index" apos) [e] [] pos) δ (.int (k : Nat)) := fun M σ H kn Q q =>
  ⟨_, pe_bmS PySem.F.plainAttrs_str PySem.F.slot_str_index PySem.F.type_str_index (mt_indexX (W := fun _ _ _ _ => False) hc (fun u s' xx => by
    obtain ⟨_, _, _, _, _, _, _, _, _, _, _, _, _, _, _, _, z⟩ := xx
    exact z.elim)) pe_w (pa_cons pe_w pa_nil hst) hbase hfew hline hst hplain, ho M σ H kn _ fun v H1 e1 g1 => by
    rw [dt_str g1]
    refine ⟨rfl, he M σ H1 (kn.mono e1) _ fun u H2 e2 g2 => ⟨x, y, rfl, by rw [dt_str g2], fun k' hk' => ?_, fun hn => ?_⟩⟩
    · rw [hk] at hk'
      cases hk'
      exact q _ H2 (e1.trans e2) (.int _)
    · rw [hk] at hn
      cases hn⟩
/-- slices -/
theorem ee_sl {lo hi : Option Int} {elo ehi : Option Expr} (ha : EE X a δ (.str x)) (hl : EP X elo δ lo) (hh : EP X ehi δ hi) (hz : x.length ≤ 16000000) : EE X (.Subscript a (.Slice elo ehi none p2) pos) δ (.str (Txt.slice x lo hi)) := fun M σ H k Q q =>
  ⟨_, pe_slice C8.sl_txt pe_w po_w po_w, ha M σ H k _ fun u H1 e1 h1 => hl M σ H1 (k.mono e1) _ fun H2 e2 => hh M σ H2 (k.mono (e1.trans e2)) _ fun H3 e3 => by
    rw [dt_str h1]
    exact ⟨x, rfl, szL hz, q _ H3 ((e1.trans e2).trans e3) (.str _)⟩⟩
theorem ee_ixC {ch : Nat} (ha : EE X a δ (.str x)) (hb : EE X b δ (.int i)) (h : atI x.cps.toList i = some ch) (hz : x.length ≤ 16000000) (hs : PlainIx b := by exact fun _ _ => rfl) : EE X (.Subscript a b pos) δ (.str ⟨#[ch]⟩) := ee_ix ix_str (fun M u v H al hx hy Q q => by
  rw [dt_str hx, dt_int hy]
  exact ⟨x, i, ch, rfl, rfl, szL hz, h, q _ H (Evl.Ex.refl H) (.str _)⟩) ha hb hs
theorem ee_addS (ha : EE X a δ (.str x)) (hb : EE X b δ (.str y)) (hz : x.length + y.length ≤ 16000000) : EE X (.BinOp a .Add b pos) δ (.str (x ++ y)) := ee_bin op_add_str (fun M u v H al hx hy Q q => by
  rw [dt_str hx, dt_str hy]
  exact ⟨x, y, rfl, rfl, szL hz, q _ H (Evl.Ex.refl H) (.str _)⟩) ha hb
theorem op_mulS : OpR X (binaryOp .Mult) (fun u v H Q => ∃ (s : Str) (k : Int), u = .str s ∧ v = .int k ∧ MulOk s k ∧ Q (.str (Txt.mul s k)) H) := by
  intro pins s σ H u v a' b' Q I ru rv h
  obtain ⟨t, k, rfl, rfl, hok, q⟩ := h
  obtain ⟨t1, rfl⟩ := ru
  obtain ⟨t2, rfl⟩ := rv
  exact SB.mul hok fun t' k' => ⟨.str _, H, I.tok k', ⟨t', rfl⟩, q⟩
theorem ee_mulS (ha : EE X a δ (.str x)) (hb : EE X b δ (.int i)) (h : MulOk x i) : EE X (.BinOp a .Mult b pos) δ (.str (Txt.mul x i)) := ee_bin op_mulS (fun M u v H al hx hy Q q => by
  rw [dt_str hx, dt_int hy]
  exact ⟨x, i, rfl, rfl, h, q _ H (Evl.Ex.refl H) (.str _)⟩) ha hb
/-- == and != of texts -/
theorem rd_eqS {K : PySem.W.Frag} : RD K rEq (.str x) (.str y) (.bl (decide (x = y))) := fun M u v H al hx hy Q q => by
  rw [dt_str hx, dt_str hy]
  refine ⟨rfl, ?_⟩
  have e : decide (V.str x = V.str y) = decide (x = y) := by simp
  rw [e]
  exact q _ H (Evl.Ex.refl H) (.bl _)
theorem rd_neS {K : PySem.W.Frag} : RD K rNe (.str x) (.str y) (.bl (!decide (x = y))) := fun M u v H al hx hy Q q => by
  rw [dt_str hx, dt_str hy]
  refine ⟨rfl, ?_⟩
  have e : decide (V.str x = V.str y) = decide (x = y) := by simp
  rw [e]
  exact q _ H (Evl.Ex.refl H) (.bl _)
theorem et_eqS (ha : EE X a δ (.str x)) (hb : EE X b δ (.str y)) : ET X (.Compare a [.Eq] [b] pos) δ (decide (x = y)) := et_cmp op_eq rd_eqS ha hb (nomark _)
theorem et_neS (ha : EE X a δ (.str x)) (hb : EE X b δ (.str y)) : ET X (.Compare a [.NotEq] [b] pos) δ (!decide (x = y)) := et_cmp op_ne rd_neS ha hb (nomark _)
/-- .. is None -/
theorem et_isN (ha : EE X a δ .non) : ET X (.Compare a [.Is] [.Constant .none 0 p] pos) δ true := et_cmp op_isN (d2 := .non) (fun M u v H al hx hy Q q => by
  cases hx
  cases hy
  exact ⟨rfl, q _ H (Evl.Ex.refl H) (.bl _)⟩) ha ee_non (nomark _)
theorem et_isT (ha : EE X a δ (.tup ds)) : ET X (.Compare a [.Is] [.Constant .none 0 p] pos) δ false := et_cmp op_isN (d2 := .non) (fun M u v H al hx hy Q q => by
  obtain ⟨l, xs, rfl, _⟩ := dt_tp hx
  cases hy
  exact ⟨rfl, q _ H (Evl.Ex.refl H) (.bl _)⟩) ha ee_non (nomark _)
theorem ee_lenStr (ha : EE X e δ (.str x)) (hz : x.length ≤ 16000000) (hm : X.mg "len" = none) (hg : Gl X "len" := by rfl) (he : starEach [e] X.env = (false, eval e X.env) :: starEach [] X.env := by rfl) : EE X (.Call (.Name "len" p) [e] [] pos) δ (.int x.length) :=
  ee_callB call_len_str (fun M vs H al h Q q => by
    cases h with
    | cons h1 h2 =>
      cases h2
      exact ⟨x, by rw [dt_str h1], szL hz, q _ H (Evl.Ex.refl H) (.int _)⟩) (ea_cons ha ea_nil he) hm hg (he := he)
theorem ee_intS (ha : EE X e δ (.str x)) (hx : PySem.intText? x = some n) (hz : x.length ≤ 640) (hm : X.mg "int" = none) (hg : Gl X "int" := by rfl) (he : starEach [e] X.env = (false, eval e X.env) :: starEach [] X.env := by rfl) : EE X (.Call (.Name "int" p) [e] [] pos) δ (.int n) :=
  ee_callT call_int_str (fun M vs H al h Q q => by
    cases h with
    | cons h1 h2 =>
      cases h2
      exact ⟨x, n, by rw [dt_str h1], hx, hz, q _ H (Evl.Ex.refl H) (.int _)⟩) (ea_cons ha ea_nil he) hm hg (he := he)
theorem ee_strI (ha : EE X e δ (.int i)) (hz : i.natAbs.log2 < 1920) (hm : X.mg "str" = none) (hg : Gl X "str" := by rfl) (he : starEach [e] X.env = (false, eval e X.env) :: starEach [] X.env := by rfl) : EE X (.Call (.Name "str" p) [e] [] pos) δ (.str (toString i)) :=
  ee_callT call_str_int (fun M vs H al h Q q => by
    cases h with
    | cons h1 h2 =>
      cases h2
      exact ⟨i, by rw [dt_int h1], hz, q _ H (Evl.Ex.refl H) (.str _)⟩) (ea_cons ha ea_nil he) hm hg (he := he)
/-- None in a list of Nones and whole numbers -/
def noi : Option Int → Pd
  | none => .non
  | some i => .int i
theorem noi_inv {K : PySem.W.Frag} {M : List Addr} {H : Hp} : ∀ {os : List (Option Int)} {xs : List V}, DtAll K M H xs (os.map noi) → xs.all flatV = true ∧ inV .non xs = os.any fun o => o.isNone
  | [], _, h => by cases h; exact ⟨rfl, rfl⟩
  | o :: os, _, h => by
    cases h with
    | @cons v vs _ _ h1 h2 =>
      obtain ⟨a1, a2⟩ := noi_inv h2
      have e : inV .non (v :: vs) = (eqV v .non || inV .non vs) := rfl
      cases o with
      | none =>
        have h1 : Dt K M H v .non := h1
        cases h1
        exact ⟨by rw [List.all_cons, a1]; rfl, by rw [e, a2, List.any_cons]; rfl⟩
      | some i =>
        have h1 : Dt K M H v (.int i) := h1
        rw [dt_int h1] at e ⊢
        exact ⟨by rw [List.all_cons, a1]; rfl, by rw [e, a2, List.any_cons]; rfl⟩
theorem et_noneIn {os : List (Option Int)} (hb : EE X b δ (.lst (os.map noi))) (hm : behindInMarks .In b = false := by rfl) : ET X (.Compare (.Constant .none 0 p) [.In] [b] pos) δ (os.any fun o => o.isNone) :=
  et_cmp op_in_seq (d1 := .non) (fun M u v H al hx hy Q q => by
    cases hx
    obtain ⟨l, xs, rfl, h1, h2⟩ := dt_sq hy
    obtain ⟨a1, a2⟩ := noi_inv h2
    refine ⟨l, xs, rfl, .inl (Evl.sq_of h1), rfl, a1, ?_⟩
    rw [a2]
    exact q _ H (Evl.Ex.refl H) (.bl _)) ee_non hb hm
/-- if l.pop() != c: thn, l a list of texts set apart -/
theorem blk_popIf {l : Addr} {ys : List Str} {w : Str} (ho : EE X o δ (.raw (.ref l))) (hb : EE X b δ (.str y)) (hl : H l = some (.lst ((ys ++ [w]).map V.str))) (hM : l ∈ M) (hHb : Hb l = none) (k : EO X.K M Hb H σ δ)
    (q1 : w ≠ y → ∀ H', Ex (L2.upd H l (.lst (ys.map V.str))) H' → EO X.K M Hb H' σ δ → Blk X thn { D with nx := Blk X rest D } σ H')
    (q2 : w = y → ∀ H', Ex (L2.upd H l (.lst (ys.map V.str))) H' → EO X.K M Hb H' σ δ → Blk X rest D σ H')
    (hbase : attributeBase o "pop" X.env (eval o X.env) = eval o X.env := by rfl) (hline : (apos.endLine == cp.line) = true := by rfl) :
    Blk X (.If (.Compare (.Call (.Attribute o "pop" apos) [] [] cp) [.NotEq] [b] p2) thn [] p3 :: rest) D σ H := by
  refine ⟨_, pss_cons (ps_if (pt_cmpR op_ne (pe_bm0 PySem.F.plainAttrs_list PySem.F.slot_list_pop PySem.F.type_list_pop mt_pop pe_w hbase hline) pe_w (nomark _)) pss_w pss_nil) pss_w, ?_⟩
  refine ho M σ H k.kn _ fun v H1 e1 g1 => ?_
  cases dt_raw g1
  have hl1 := e1 _ _ hl
  refine ⟨.inl ⟨rfl, _, Evl.sq_of hl1⟩, l, _, .str w, rfl, rfl, hl1, by simp, ?_⟩
  have ed : ((ys ++ [w]).map V.str).dropLast = ys.map V.str := by simp
  rw [ed]
  have exu : Ex (L2.upd H l (.lst (ys.map V.str))) (L2.upd H1 l (.lst (ys.map V.str))) := fun a o h => by
    by_cases z : a = l
    · rw [z, upd_same] at h ⊢
      exact h
    · rw [upd_ne z] at h ⊢
      exact e1 a o h
  have ku : EO X.K M Hb (L2.upd H1 l (.lst (ys.map V.str))) σ δ := ⟨Evl.Ex.mut (k.ex.trans e1) hHb, (k.kn.mono e1).upd hM⟩
  refine hb M σ _ ku.kn _ fun u H2 e2 g2 => ?_
  rw [dt_str g2]
  refine ⟨rfl, _, rfl, ?_⟩
  have e : decide (V.str w = V.str y) = decide (w = y) := by simp
  rw [e]
  by_cases h : w = y
  · rw [decide_eq_true h]
    exact iteF (q2 h H2 (exu.trans e2) (ku.mono e2))
  · rw [decide_eq_false h]
    exact iteT (q1 h H2 (exu.trans e2) (ku.mono e2))
end
end Lr

/-! defs that raise an error of an own class; a def called in an except suite with the error -/
namespace Lr
open PySem PySem.Spec PyProof.Rows L2
open Evl (Ex)
/-- an own error class -/
structure XC (K : PySem.W.Frag) (mg : Str → Option Value) (T : Str) (C : Addr) : Prop where
  x : PySem.W.excIn K C [.type "ValueError", .type "Exception", .type "BaseException", .type "object"] "ValueError.__new__" = true
  g : mg T = some (.ref C)
  k : PySem.W.keepIn K (.ref C) = true
  b : PySem.W.subIn K (.ref C) (.type "BaseException") = some true
  t : PySem.W.typeIn K (.ref C) = some (.type "type")
/-- a def that raises, told by the data of its arguments -/
def SpX (K : PySem.W.Frag) (R : List Pd → Addr → Prop) : Sp := fun vs H _ E => ∃ M ds C, Al M H ∧ DtAll K M H vs ds ∧ R ds C ∧ ∀ H', Ex H H' → E (.ref C) none H'
/-- e raises -/
def EX (X : Cx) (E : XK) (e : Expr) (δ : Dl) (C : Addr) : Prop := ∀ M σ H, Kn X.K M H σ δ → (∀ H', Ex H H' → E (.ref C) none H') → ∀ Q : VK, TW X e σ H Q
abbrev TkX (X : Cx) (E : XK) : Prop := L2N.Takes X (fun cls d _ H => E cls d H)
theorem takesX {P : Program} {w : World} {K : PySem.W.Frag} {mg : Str → Option Value} {base : Heap} {N : List Str} {qual : Str} {scope : Scope} {f : Addr} {cd : Value} {A : Around} {outer : List PySem.Env} {s : Shared} {H : Hp} {E : XK} : TkX (cxOf (L2N.CX P w) P w K mg base N qual scope f cd A outer s H E) E :=
  L2N.takes_of rfl rfl rfl rfl
theorem takesN0 {X : Cx} : L2N.Takes X (fun _ _ _ _ => False) := fun _ _ x => by
  obtain ⟨_, _, _, _, _, _, _, _, _, _, _, _, _, _, _, _, z⟩ := x
  exact z.elim
section
variable {X : Cx} {E : XK} {δ : Dl} {a b c e o : Expr} {es : List Expr} {rest body orelse : List Stmt} {pos cp p : Pos} {d : Pd} {ds : List Pd} {x y : Str} {D : Ends} {M : List Addr} {Hb H : Hp} {σ : L2.St} {C : Addr} {k : Nat} {ps : List Str} {R : List Pd → Addr → Prop}
theorem ex_call (F : Has X.prog X.w X.K X.mg X.base (L2N.CX X.prog X.w) x k ps (SpX X.K R)) (hr : Room k X.A) (tk : TkX X E) (ha : EA X (e :: es) δ ds) (hR : R ds C) (hg : Gl X x := by rfl)
    (hdb : (x == ("__debug__" : Str)) = false := by decide) (he : starEach (e :: es) X.env = (false, eval e X.env) :: starEach es X.env := by rfl) (hpl : (backTo pos (starEach es X.env)).any (·.1) = false := by rfl) : EX X E (.Call (.Name x p) (e :: es) [] pos) δ C := fun M σ H kn h Q => by
  obtain ⟨f, fd, F, g, kp, bn⟩ := F
  refine ⟨_, pe_call (E := E) F hr hg g kp bn .nil (L2N.passes_call tk fun _ _ _ _ z => z) pa_w hdb he hpl, ha M σ H kn _ fun vs H1 e1 h1 => ⟨M, ds, C, kn.al.mono e1, by rw [List.append_nil]; exact h1, hR, fun H2 e2 => h H2 (e1.trans e2)⟩⟩
theorem ex_if {t : Bool} (h : ET X c δ t) (h1 : t = true → EX X E a δ C) (h2 : t = false → EX X E b δ C) : EX X E (.IfExp c a b pos) δ C := fun M σ H kn q Q => ⟨_, pe_ifExp pt_w pe_w pe_w, h M σ H kn _ fun H1 e1 => by
  cases t with
  | true => exact iteT (h1 rfl M σ H1 (kn.mono e1) (fun H2 e2 => q H2 (e1.trans e2)) Q)
  | false => exact iteF (h2 rfl M σ H1 (kn.mono e1) (fun H2 e2 => q H2 (e1.trans e2)) Q)⟩
theorem blk_dropX (he : EX X E e δ C) (k : EO X.K M Hb H σ δ) (q : ∀ H', Ex Hb H' → E (.ref C) none H') (hs : swapsWith e none pos.line X.env = pure false := by rfl) : Blk X (.Expr e pos :: rest) D σ H :=
  ⟨_, pss_cons (ps_expr pe_w hs) pss_w, he M σ H k.kn (fun H' e1 => q H' (k.ex.trans e1)) _⟩
theorem blk_retX (he : EX X E e δ C) (k : EO X.K M Hb H σ δ) (q : ∀ H', Ex Hb H' → E (.ref C) none H') : Blk X (.Return (some e) pos :: rest) D σ H :=
  ⟨_, pss_cons (ps_ret pe_w) (u := tNever) pss_never, he M σ H k.kn (fun H' e1 => q H' (k.ex.trans e1)) _⟩
/-- a, b = e that raises -/
theorem blk_unpackX {px py pt : Pos} {kk : Nat} (nd : X.N.Nodup) (i j : Nat) (hc : X.calm = true) (he : EX X E e δ C) (k : EO X.K M Hb H σ δ) (q : ∀ H', Ex Hb H' → E (.ref C) none H')
    (hi : X.N[i]? = some x := by rfl) (hj : X.N[j]? = some y := by rfl) (hx : Loc X.env.scope x := by first | exact Or.inl rfl | exact Or.inr rfl) (hy : Loc X.env.scope y := by first | exact Or.inl rfl | exact Or.inr rfl)
    (hs : swapsWithSole [.Tuple [.Name x px, .Name y py] kk pt] e pos.line X.env = pure false := by rfl) (hw : swappedStores [.Tuple [.Name x px, .Name y py] kk pt] e X.env = pure none := by rfl)
    (h1 : (assignEach [.Tuple [.Name x px, .Name y py] kk pt] X.env).map (·.2) = [assign (.Tuple [.Name x px, .Name y py] kk pt) X.env] := by rfl)
    (hf : X.fn x = true ∨ X.env.scope.names.lookup x = some .local := by first | exact .inl rfl | exact .inr rfl) (hf2 : X.fn y = true ∨ X.env.scope.names.lookup y = some .local := by first | exact .inl rfl | exact .inr rfl) :
    Blk X (.Assign [.Tuple [.Name x px, .Name y py] kk pt] e pos :: rest) D σ H :=
  ⟨_, pss_cons (ps_asg pe_w (pg_tup hc (pgs_cons (pg_name nd hi hx hf) (pgs_cons (pg_name nd hj hy hf2) pgs_nil))) hs hw h1) pss_w, he M σ H k.kn (fun H' e1 => q H' (k.ex.trans e1)) _⟩
/-- raise T("..") -/
theorem blk_raise {T m : Str} {j : Nat} {p2 p3 : Pos} (xc : XC X.K X.mg T C) (tk : TkX X E) (hc : X.calm = true) (k : EO X.K M Hb H σ δ) (q : ∀ H', Ex Hb H' → E (.ref C) none H') (hg : Gl X T := by rfl) (hdb : (T == ("__debug__" : Str)) = false := by decide) :
    Blk X (.Raise (some (.Call (.Name T p) [.Constant (.str m) j p2] [] p3)) none pos :: rest) D σ H :=
  ⟨_, pss_cons (L2N.ps_raise hc tk (L2N.pmk_own PySem.F.excBase_ValueError xc.x xc.g xc.k (raises_own xc.b xc.t) hg hdb)) (u := tNever) pss_never, q H k.ex⟩
/-- if c: raise T("..") -/
theorem blk_yesX {t : Bool} {T m : Str} {j : Nat} {p2 p3 rp : Pos} (h : ET X c δ t) (ht : t = true) (xc : XC X.K X.mg T C) (tk : TkX X E) (hc : X.calm = true) (k : EO X.K M Hb H σ δ) (q : ∀ H', Ex Hb H' → E (.ref C) none H') (hg : Gl X T := by rfl) (hdb : (T == ("__debug__" : Str)) = false := by decide) :
    Blk X (.If c [.Raise (some (.Call (.Name T p) [.Constant (.str m) j p2] [] p3)) none rp] [] pos :: rest) D σ H :=
  blk_when h k (fun _ H' e1 k1 => blk_raise xc tk hc k1 q hg hdb) fun z => by
    rw [ht] at z
    cases z
theorem ee_abs {i : Int} (ha : EE X e δ (.int i)) (hm : X.mg "abs" = none) (hg : Gl X "abs" := by rfl) (he : starEach [e] X.env = (false, eval e X.env) :: starEach [] X.env := by rfl) : EE X (.Call (.Name "abs" p) [e] [] pos) δ (.int (if i < 0 then -i else i)) :=
  ee_callB call_abs (fun M vs H al h Q q => by
    cases h with
    | cons h1 h2 =>
      cases h2
      exact ⟨i, by rw [dt_int h1], q _ H (Evl.Ex.refl H) (.int _)⟩) (ea_cons ha ea_nil he) hm hg (he := he)
end
section
variable {P : Program} {w : World} {K : PySem.W.Frag} {mg : Str → Option Value} {base : Heap} {x qual : Str} {st : Stmt} {f : Addr} {fd : FuncData} {N ps : List Str} {k : Nat}
theorem ok_X {R : List Pd → Addr → Prop} (F : Fun K x qual st f fd) (S : FnScope N ps (defScope st)) (hl : ∀ ds C, R ds C → ds.length = ps.length)
    (body : ∀ (cdv : Value) (A : Around) (outer : List PySem.Env) (s : Shared) (M : List Addr) (H : Hp) (vs : List V) (ds : List Pd) (C : Addr) (Q : VK) (E : XK), Room k (A.deeper (PyProof.Rows.envOfC qual (defScope st) s.heap.objs.size f cdv)) → R ds C → EO K M H H (L2.start N vs) (startD N ds) →
      (∀ H', Ex H H' → E (.ref C) none H') → Blk (cxOf (L2N.CX P w) P w K mg base N qual (defScope st) f cdv A outer s H E) (defBody st) { nx := fun _ H' => Q .non H', rt := Q } (L2.start N vs) H) : FnOk P w K mg base (L2N.CX P w) (k + 1) f fd ps (SpX K R) := by
  obtain ⟨oc, od, kV, doc, pm, an, cdv, ct, osl, rfl, lk, hcd⟩ := F.ex
  refine fn_of lk hcd S (fun vs H Q E h => ?_) fun A outer s H vs Q E hr h => ?_
  · obtain ⟨M, ds, C, _, h1, h2, _⟩ := h
    rw [h1.length]
    exact hl ds C h2
  · obtain ⟨M, ds, C, al, h1, h2, q⟩ := h
    exact body cdv A outer s M H vs ds C Q E hr h2 ⟨Evl.Ex.refl H, start_kn al h1⟩ q
end
/-! ### a def called in an except suite, with the error -/
structure FnP (P : Program) (w : World) (K : PySem.W.Frag) (mg : Str → Option Value) (base : Heap) (CX : CXT) (k : Nat) (f : Addr) (fd : FuncData) (ps : List Str) (sp : Addr × Obj → Sp) : Prop where
  len : ∀ p vs H Q E, sp p vs H Q E → vs.length = ps.length
  run : ∀ (A : Around) (outer : List PySem.Env) (s : Shared) (H : Hp) (args : Args) (us : List Value) (vs : List V) (Q : VK) (E : XK) (p : Addr × Obj), L2H.RoomH k A → L2H.PinOk outer H s p → Env0 P w K mg base A outer s H → BindsTo s fd args (ps.zip us) → Vals vs us → sp p vs H Q E →
    codeAny (model P w) A (.call (.ref f) args) (CR CX outer P w H s Q E) s
theorem fn_ofP {CX : CXT} {P : Program} {w : World} {K : PySem.W.Frag} {mg : Str → Option Value} {base : Heap} {k : Nat} {f : Addr} {name qual : Str} {params : Arguments} {body : List Stmt} {scope : Scope} {dV kV doc pm cdv ct oc : Value} {an od : Option Addr}
    {osl : Array (Option Value)} {N ps : List Str} {sp : Addr × Obj → Sp} (lk : K.lookup f = some ⟨oc, od, .func (PySem.W.fnOf name qual params body scope dV kV doc pm an cdv ct), osl⟩) (hcd : PySem.W.codeIn K cdv qual = true) (S : FnScope N ps scope)
    (len : ∀ p vs H Q E, sp p vs H Q E → vs.length = ps.length)
    (hbody : ∀ (A : Around) (outer : List PySem.Env) (s : Shared) (H : Hp) (vs : List V) (Q : VK) (E : XK) (p : Addr × Obj), L2H.RoomH k (A.deeper (envOfC qual scope s.heap.objs.size f cdv)) → sp p vs H Q E →
      ∃ t, PSs (L2H.cxH CX P w K mg base N qual scope f cdv A outer s H E p) body t ∧ t { nx := fun _ H' => Q .non H', rt := Q } (L2.start N vs) H) :
    FnP P w K mg base CX (k + 1) f (PySem.W.fnOf name qual params body scope dV kV doc pm an cdv ct) ps sp := by
  refine ⟨len, fun A outer s H args us vs Q E p hr hpin e0 hb r hsp => ?_⟩
  have hl := len _ _ _ _ _ hsp
  have KX : K.In s.heap := e0.mod.kin.keeps fun b o e => (e0.bs b o e).1
  have lim : s.heap.NoLimit := e0.mod.nolimit.keeps fun b o e => (e0.bs b o e).1
  have hkind : ∀ y ∈ ps.zip us, scope.names.lookup y.1 = some .local ∨ (scope.names.lookup y.1 = some .cell ∧ ((cellsFrom (s.heap.objs.size + 1) scope.names []).lookup y.1).isSome = true) := fun ⟨n, v⟩ hy => by
    rcases S.par n (List.of_mem_zip hy).1 with q | q
    · exact .inl q
    · exact .inr ⟨q, PySem.W.cellsFrom_some _ _ _ (.inl q)⟩
  refine codeAny_call_function hr.depth (KX _ _ lk) rfl S.co S.gen rfl (PySem.W.codeRec_of KX hcd) (hb _ _ _ _ ?_)
  refine wpAny_newFunctionEnv_cells S.kind hkind fun env he s1 x => ?_
  subst he
  refine ⟨lim.keeps x.toInCall.keep, codeAny_func ?_⟩
  obtain ⟨t, ht, hq⟩ := hbody A outer s H vs Q E p (hr.deeper _) hsp
  have I : Inv (L2H.cxH CX P w K mg base N qual scope f cdv A outer s H E p) [] (L2.start N vs) H s1 := L2H.inv_startH S hpin e0 hl r x
  refine wpAny_mono (ht.run [] s1 (L2.start N vs) H _ I hq) (fun fl s' hs => ?_) fun e s' hs => hs
  have fin : ∀ {σ' : L2.St} {H' : Hp} {v : V} {u : Value}, Inv (L2H.cxH CX P w K mg base N qual scope f cdv A outer s H E p) [] σ' H' s' → RelV v u → Q v H' → CE outer P w H s Q u s' :=
    fun {σ' H' v u} J rv q => ⟨v, H', J.os, J.bare, J.base, J.hok, rv, q⟩
  cases fl with
  | ret u =>
    obtain ⟨v, σ', H', J, rv, q⟩ := hs
    exact fin J rv q
  | next =>
    obtain ⟨σ', H', J, q⟩ := hs
    exact fin (v := V.non) (u := Value.none) J rfl q
  | brk =>
    obtain ⟨_, _, _, q⟩ := hs
    exact False.elim q
  | cont =>
    obtain ⟨_, _, _, q⟩ := hs
    exact False.elim q
section
variable {X : Cx} {k : Nat} {f C : Addr} {fd : FuncData} {ps : List Str} {sp : Addr × Obj → Sp} {x : Str} {q pos : Pos} {e : Expr} {es : List Expr} {t : TA} {p : Addr × Obj}
theorem pe_callP (F : FnP X.prog X.w X.K X.mg X.base CX0 k f fd ps sp) (hr : L2H.RoomH k X.A) (hp : p ∈ X.pn) (hg : Gl X x) (hm : X.mg x = some (.ref f)) (hk : PySem.W.keepIn X.K (.ref f) = true) (hb : Binds X.K fd ps [])
    (ha : PA X (e :: es) t) (hdb : (x == ("__debug__" : Str)) = false := by decide) (he : starEach (e :: es) X.env = (false, eval e X.env) :: starEach es X.env := by rfl) (hpl : (backTo pos (starEach es X.env)).any (·.1) = false := by rfl) :
    PE X (.Call (.Name x q) (e :: es) [] pos) (fun σ H Q => t σ H fun vs H1 => sp p vs H1 Q (fun _ _ _ => False)) := by
  refine ⟨fun pins s σ H Q I h => ?_⟩
  refine wpAny_Call_Name_kw (ld_glob I hg hm ?_ hdb)
  refine PySem.W.callWith_K (h₀ := X.base) I.ok.mod.kin hk (thn (ha.run pos pins s σ H _ I h) fun us s1 ⟨vs, H1, I1, r, q⟩ => ⟨I1.kIn, ?_⟩) he hpl
  have hl : us.length = ps.length := by rw [← r.length]; exact F.len _ _ _ _ _ q
  have b := hb s1 us I1.kIn (by rw [List.append_nil]; exact hl)
  rw [List.append_nil] at b
  have P1 := I1.pin p (List.mem_append_left _ hp)
  have hpin : L2H.PinOk X.stack H1 s1 p := ⟨P1.1, P1.2.1, fun hm => (List.mem_cons.mp (I1.stkSub p.1 hm)).elim P1.2.2.1 P1.2.2.2.1, P1.2.2.2.2⟩
  show wpAny _ _ (call (.ref f) us) _ _ _
  refine wpAny_call (codeAny_mono (F.run X.A X.stack s1 H1 ⟨us, []⟩ us vs Q (fun _ _ _ => False) p hr hpin I1.env0 b r q) fun r s' hq => ?_)
  cases r with
  | error e => exact (show False from hq).elim
  | ok fl =>
    cases fl with
    | ret u => exact I1.after hq
    | next => exact False.elim hq
    | brk => exact False.elim hq
    | cont => exact False.elim hq
/-- isinstance of the error that the context bears -/
theorem call_isP {a D : Addr} {oe : Obj} (C : ExcC X.K D) (hp : (a, oe) ∈ X.pn) (hz : Zc (.ref D) none oe) (hf : ∃ vs, oe.data = .fields vs) : CallR X (.builtin "isinstance") (rIsE X.K D a) := by
  intro pins s σ H xs us Q I r h
  obtain ⟨c, cv, b, rfl, hcv, e, q⟩ := h
  cases r with
  | cons rx rr =>
    cases rr with
    | cons rt rr =>
      cases rr
      cases rx
      have ec := hcv _ rt
      subst ec
      obtain ⟨hget, _⟩ := I.pin (a, oe) (List.mem_append.mpr (.inl hp))
      obtain ⟨vs, hv⟩ := hf
      have J : PySem.W.InstAt s.heap a oe D none := by
        obtain ⟨oc, od, oda, osl⟩ := oe
        obtain ⟨h1, h2⟩ := hz
        dsimp only at h1 h2 hv
        subst h1 h2 hv
        exact ⟨hget, rfl, rfl, trivial⟩
      exact PySem.W.kia_one (PySem.W.handS_kitx_exc C.hg C.hk C.hs C.hd C.ha C.hn C.ht C.hm) I.kIn J e (fun z => nomatch z) fun tk => ⟨.bl b, H, I.kept (t' := tk) fun _ _ z => z, rfl, q⟩
end
/-- what the context's error is -/
structure Err (X : Cx) (a D : Addr) : Prop where
  c : ExcC X.K D
  ex : ∃ oe : Obj, (a, oe) ∈ X.pn ∧ Zc (.ref D) none oe ∧ ∃ vs, oe.data = .fields vs
section
variable {X : Cx} {δ : Dl} {e : Expr} {p tp pos : Pos} {T : Str} {a D C' : Addr} {k : Bool}
theorem ee_isE (er : Err X a D) (ho : EE X e δ (.raw (.ref a))) (hk : PySem.W.kitOne X.K (.ref D) (.ref C') = some k) (hm : X.mg "isinstance" = none) (hT : X.mg T = some (.ref C'))
    (hg : Gl X "isinstance" := by rfl) (hgT : Gl X T := by rfl) (hdb : (T == ("__debug__" : Str)) = false := by decide)
    (he : starEach [e, .Name T tp] X.env = (false, eval e X.env) :: starEach [.Name T tp] X.env := by rfl) (hpl : (backTo pos (starEach [.Name T tp] X.env)).any (·.1) = false := by rfl) : EE X (.Call (.Name "isinstance" p) [e, .Name T tp] [] pos) δ (.bl k) := fun M σ H kn Q q => by
  obtain ⟨oe, h1, h2, h3⟩ := er.ex
  refine ⟨_, pe_callB (id := "isinstance") (call_isP er.c h1 h2 h3) hg hm (by decide +kernel) (pa_cons pe_w (pa_cons (pe_glob (v := .ref C') hgT hT rfl hdb) pa_nil (by rfl)) he) (by decide) (by decide) he hpl, ho M σ H kn _ fun v H1 e1 h4 => ?_⟩
  cases dt_raw h4
  exact ⟨.ref C', .ref C', k, rfl, fun u r => r, hk, q _ H1 e1 (.bl k)⟩
theorem ee_isET {Tn : String} (er : Err X a D) (ho : EE X e δ (.raw (.ref a))) (hk : PySem.W.kitOne X.K (.ref D) (.type Tn) = some k) (hm : X.mg "isinstance" = none) (hT : X.mg T = none)
    (hv : bootBuiltins T = some (.type Tn) := by decide +kernel) (hg : Gl X "isinstance" := by rfl) (hgT : Gl X T := by rfl) (hn : T ≠ "__name__" := by decide) (hdb : (T == ("__debug__" : Str)) = false := by decide)
    (he : starEach [e, .Name T tp] X.env = (false, eval e X.env) :: starEach [.Name T tp] X.env := by rfl) (hpl : (backTo pos (starEach [.Name T tp] X.env)).any (·.1) = false := by rfl) : EE X (.Call (.Name "isinstance" p) [e, .Name T tp] [] pos) δ (.bl k) := fun M σ H kn Q q => by
  obtain ⟨oe, h1, h2, h3⟩ := er.ex
  refine ⟨_, pe_callB (id := "isinstance") (call_isP er.c h1 h2 h3) hg hm (by decide +kernel) (pa_cons pe_w (pa_cons (pe_bltn (v := .ty Tn) hgT hT hv rfl hn hdb) pa_nil (by rfl)) he) (by decide) (by decide) he hpl, ho M σ H kn _ fun v H1 e1 h4 => ?_⟩
  cases dt_raw h4
  exact ⟨.ty Tn, .type Tn, k, rfl, fun u r => r, hk, q _ H1 e1 (.bl k)⟩
end
end Lr

/-! a list comprehension whose step raises -/
namespace Lr
open PySem PySem.Spec PyProof.Rows L2
open Evl (Ex)
/-- what a call of the block let out -/
def XF (X : Cx) (E : XK) (u : Value) (s' : Shared) : Prop := ∃ (pins : List (Addr × Obj)) (σ : L2.St) (H : Hp) (s : Shared), Inv X pins σ H s ∧ L2N.CX X.prog X.w X.stack H s E u s'
theorem sky_held {M : Model} {A : Around} {E₁ : Value → Shared → Prop} {env : PySem.Env} {outer : List PySem.Env} {L a : Addr} {Z : Obj → Prop} {B : Heap} {s : Shared} {Q : Unit → Shared → Prop} (hZ : PXN.Steady1 Z) (hfr : A.frames = some (env :: outer)) (hf : env.frame = some L) (x : Sky B (env :: outer) a Z L s.heap)
    (hQ : ∀ h', HandSPX.HeldZ B (env :: outer) a Z L h' → s.heap.UpToSlots h' → Q () { s with heap := h' }) : wpAny M A (noteFrame (.ref a) env) Q E₁ s := by
  rcases x with ⟨b1, b2, b3, oe, vs, b4, b5, b6, b7⟩ | fl | hh
  · exact PXN.look_newZ hZ hfr b3 hf b4 b1 b2 b6 b7 b5 hQ
  · exact PXN.looks_onZ hZ hfr hf fl hQ
  · exact HandSPX.againZ hf hh.2.2.2 (hQ s.heap hh (Heap.UpToSlots.refl _))
/-- frames that stand as they stood, on a smaller ground -/
theorem funFrames_on {B B' h h' : Heap} : ∀ {l : List PySem.Env}, h.FunFrames B l → (∀ L ∈ frs l, h'.get? L = h.get? L) → (∀ L ∈ frs l, B.get? L = none → B'.get? L = none) → h'.FunFrames B' l
  | [], _, _, _ => trivial
  | env :: l, h, h1, h2 => by
    obtain ⟨hk, ⟨L, o, hf, hn, ho, hd⟩, hr⟩ := h
    have hL : L ∈ frs (env :: l) := List.mem_filterMap.mpr ⟨env, List.mem_cons_self, hf⟩
    have tl : ∀ b ∈ frs l, b ∈ frs (env :: l) := fun b hb => by
      obtain ⟨e, he, q⟩ := List.mem_filterMap.mp hb
      exact List.mem_filterMap.mpr ⟨e, List.mem_cons_of_mem _ he, q⟩
    exact ⟨hk, ⟨L, o, hf, h2 L hL hn, (h1 L hL).trans ho, hd⟩, funFrames_on hr (fun b hb => h1 b (tl b hb)) fun b hb => h2 b (tl b hb)⟩
section
variable {X : Cx}
theorem blk_wish {X : Cx} {pins : List (Addr × Obj)} {σ : L2.St} {H : Hp} {s s0 : Shared} {H0 : Hp} {scope : Scope} {ce : PySem.Env} {fp : List Addr} {E : Value → Shared → Prop} (I : Inv (X.blk s0 H0 scope ce fp) pins σ H s) : Inv ((X.blk s0 H0 scope ce fp).wish E) pins σ H s := I.wish E
/-- the block's context that lets E's exceptions out -/
abbrev bX (X : Cx) (E : XK) (s : Shared) (H : Hp) (scope : Scope) (ce : PySem.Env) (fp : List Addr) : Cx := (X.blk s H scope ce fp).wish (XF (X.blk s H scope ce fp) E)
theorem noteFrame_ce {scope : Scope} {cl : List (Str × Addr)} {C : Addr} {env : PySem.Env} {x : Value} : noteFrame x (compEnvC scope cl C env) = noteFrame x env := rfl
theorem lcX_core {pins : List (Addr × Obj)} {s : Shared} {σ : L2.St} {H : Hp} {Q : VK} {E : XK} {elt tg iter : Expr} {scope : Scope} {own : List (Str × Nat)} {pos pos' : Pos} {wi : TI} {g : TG} {te : TE} {use : Option (Value → Sem Unit)} {Qf : Value → Shared → Prop}
    (hc : X.calm = true) (hN : X.N.Nodup) (hst : X.stack = X.env :: X.outer) (hfr : X.env.frame = some X.env.locals) (tk : TkX X E) (I : Inv X pins σ H s) (hi : PI X tg iter wi) (ok : BlkOk X.N X.env.scope scope own)
    (hg : ∀ (s : Shared) (H : Hp) (C : Addr) (cl : List (Str × Addr)) (fp : List Addr), PG (bX X E s H scope (compEnvC scope cl C X.env) fp) tg g)
    (he : ∀ (s : Shared) (H : Hp) (C : Addr) (cl : List (Str × Addr)) (fp : List Addr), PE (bX X E s H scope (compEnvC scope cl C X.env) fp) elt te) (hs : ∀ x, foldedSetIterable iter X.env x = pure x)
    (h : tLc wi g tYes te (own.map (·.2)) σ H Q)
    (hRR : ∀ D ce s' m H', Inv X pins σ H' s' → Q (.ref D) H' → s'.heap.Ns ce.locals m → FpOk X pins H' ce.locals → compEnds (model X.prog X.w) X.A X.xe use Qf (.ref D) ce (.ok .next) s') :
    wpAny (model X.prog X.w) X.A (comprehension (.ListComp elt [⟨tg, iter, [], 0⟩] scope pos) scope X.env pos' (newList []) false (eval iter X.env) use) Qf X.xe s := by
  have hfree : ∀ y ∈ scope.names, y.2 = .free → ∃ c, X.env.cells.lookup y.1 = some c := fun y hy e => by
    rcases ok.free y hy e with k | k
    · exact I.ok.has _ (.inl k)
    · exact I.ok.has _ (.inr k)
  refine comprehension_at (use := use) rfl hs (closure_ok hfree) ok.kind (fun y hy e => by rw [ok.uniq y hy, e])
    (thn (hi.run pins s σ H _ I h) fun xv s1 hx => thn hx fun itv s2 h2 => ?_)
  obtain ⟨it, fp, tn, J, H2, e, I2, T, st2, f2, q⟩ := h2
  subst e
  refine wpAny_newObj_type (newEnv_comp ?_) (by show 0 ≤ sizeLine; decide)
  generalize hD : s2.heap.objs.size = D
  have hDn : H2 D = none := I2.hok.fresh (Nat.le_of_eq hD)
  obtain ⟨W, ⟨m0, w0⟩, turn⟩ := q D hDn
  generalize hs3 : ({ s2 with heap := s2.heap.push { cls := .type "list", data := .seq ([] : List Value).toArray } } : Shared) = s3
  have I3 : Inv X pins σ (upd H2 D (.lst [])) s3 := by
    rw [← hs3]
    refine I2.laid (t' := s2.toks) (fun b o e => Heap.get?_push_of_some _ e) (Nat.le_of_eq hD) ⟨Nat.zero_le _, [], 0, .nil, ?_⟩
    rw [← hD]
    exact Heap.get?_push_size _ rfl
  have h3 : s3.heap = s2.heap.push { cls := .type "list", data := .seq ([] : List Value).toArray } := by rw [← hs3]
  have sz : ∀ b ∈ fp, b < s2.heap.objs.size := fun b hb => by
    obtain ⟨o, e, _⟩ := T.obj _ _ st2 b hb
    exact Heap.lt_size e
  have f3 : ∀ b ∈ fp, FpOk X pins (upd H2 D (.lst [])) b ∧ b < s3.heap.objs.size := fun b hb => by
    have hlt := sz b hb
    refine ⟨⟨?_, (f2 b hb).2⟩, by rw [h3, Heap.size_push]; exact Nat.lt_succ_of_lt hlt⟩
    rw [upd_ne (by rw [← hD]; exact Nat.ne_of_lt hlt)]
    exact (f2 b hb).1
  have st3 : tn 0 s3.heap := T.keep _ _ _ st2 fun b _ o e => by rw [h3]; exact Heap.get?_push_of_some _ e
  have I4 := block_start I3 ok hN f3
  have pg := hg s3 (upd H2 D (.lst [])) s3.heap.objs.size (cellsFrom (s3.heap.objs.size + 1) scope.names (cloFrom X.env.cells scope.names [])) fp
  have pe := he s3 (upd H2 D (.lst [])) s3.heap.objs.size (cellsFrom (s3.heap.objs.size + 1) scope.names (cloFrom X.env.cells scope.names [])) fp
  show codeAny _ _ (.compStart (.ListComp elt [⟨tg, iter, [], 0⟩] scope pos) 0 (.ref it) (.ref D) (compEnvC scope (cellsFrom (s3.heap.objs.size + 1) scope.names (cloFrom X.env.cells scope.names [])) s3.heap.objs.size X.env)) (compEnds (model X.prog X.w) X.A X.xe use Qf (.ref D) (compEnvC scope (cellsFrom (s3.heap.objs.size + 1) scope.names (cloFrom X.env.cells scope.names [])) s3.heap.objs.size X.env)) { s3 with heap := pushCells (s3.heap.push { cls := .type "dict", data := .dict #[] }) scope.names }
  have nfp : ∀ b ∈ fp, (upd H2 D (.lst [])) b = none := fun b hb => (f3 b hb).1.1
  have cN : ∀ x, noteFrame x (compEnvC scope (cellsFrom (s3.heap.objs.size + 1) scope.names (cloFrom X.env.cells scope.names [])) s3.heap.objs.size X.env) = noteFrame x X.env := fun x => noteFrame_ce
  have cF : (compEnvC scope (cellsFrom (s3.heap.objs.size + 1) scope.names (cloFrom X.env.cells scope.names [])) s3.heap.objs.size X.env).frame = X.env.frame := rfl
  have cL : (compEnvC scope (cellsFrom (s3.heap.objs.size + 1) scope.names (cloFrom X.env.cells scope.names [])) s3.heap.objs.size X.env).locals = s3.heap.objs.size := rfl
  generalize hce : compEnvC scope (cellsFrom (s3.heap.objs.size + 1) scope.names (cloFrom X.env.cells scope.names [])) s3.heap.objs.size X.env = ce at I4 pg pe cN cF cL ⊢
  generalize hH3 : upd H2 D (.lst []) = H3 at I3 I4 pg pe w0 nfp f3
  generalize hs4 : ({ s3 with heap := pushCells (s3.heap.push { cls := .type "dict", data := .dict #[] }) scope.names } : Shared) = s4 at I4 ⊢
  have st4 : tn 0 s4.heap := T.keep _ _ _ st3 fun b _ o e => by rw [← hs4]; exact pushCells_keeps _ _ _ _ (Heap.get?_push_of_some _ e)
  have stat : ∀ {σ' : L2.St} {H' : Hp} {s' : Shared}, Inv (X.blk s3 H3 scope ce fp) [] σ' H' s' → (∀ b ∈ fp, H' b = none) → ∀ b ∈ fp, FpOk (X.blk s3 H3 scope ce fp) [] H' b := fun {σ' H' s'} I' hn b hb =>
    ⟨hn b hb, (I'.ok.exf b hb).1, I'.ok.exfs b hb, .inl hb, fun x c e => (I'.ok.exf b hb).2 x c e, fun p hp => absurd (show p ∈ ([] : List (Addr × Obj)) ++ [] from hp) (by simp)⟩
  -- back in the def's context
  have back : ∀ {pins' : List (Addr × Obj)} {σ' : L2.St} {H' : Hp} {s' : Shared}, Inv (X.blk s3 H3 scope ce fp) pins' σ' H' s' → Inv X pins σ H' s' ∧ FpOk X pins H' ce.locals := fun {pins' σ' H' s'} I6 => by
    have nC : H' ce.locals = none := I6.free
    refine ⟨I3.call' (ch := fp) I6.os I6.base I6.hok I6.bare fun b hb => ⟨(f3 b hb).1.2.2.2.1, (f3 b hb).1.2.1, (f3 b hb).1.2.2.2.2.1, (f3 b hb).1.2.2.2.2.2⟩, ?_⟩
    rw [cL] at nC ⊢
    exact I3.fpOk (Nat.le_refl _) nC
  have err : ∀ (u : Value) (s' : Shared), XF (X.blk s3 H3 scope ce fp) E u s' → notedBy (model X.prog X.w) X.A ce (fun e s' => compEnds (model X.prog X.w) X.A X.xe use Qf (.ref D) ce (.error e) s') u s' := by
    rintro u s' ⟨pins', σ', H', sb, I', c⟩
    obtain ⟨I7, f0, f1, f2', f3', f4, f5⟩ := back I'
    have hA : X.A.frames = some (X.env :: X.outer) := by rw [I.ok.frames, hst]
    have frC : ∀ b ∈ frs X.stack, b ≠ ce.locals := fun b hb z => by
      rcases List.mem_cons.mp (I3.stkSub b hb) with q | q
      · exact f1 (z.symm.trans q)
      · exact f2' (z ▸ q)
    obtain ⟨m, ⟨oN, esN, epN, hoN, rN⟩, _⟩ := I'.loc
    have hoN : sb.heap.get? ce.locals = some oN := hoN
    have c : L2N.CX X.prog X.w X.stack H' sb E u s' := c
    have hn : s'.heap.Ns ce.locals m := by
      obtain ⟨_, B, _, _, _, _, fl, _, ub, _⟩ := c
      exact ⟨oN, esN, epN, fl.1 _ _ (ub.keep _ _ hoN f0 fun z => frC _ z rfl), rN⟩
    have c2 : L2N.CX X.prog X.w X.stack H' sb (fun cls d H2 => E cls d H2 ∧ H2 ce.locals = none) u s' := by
      obtain ⟨a, B, H1, cls, d, e, fl, hok, ub, na, os, ag, hE⟩ := c
      exact ⟨a, B, H1, cls, d, e, fl, hok, ub, na, os, ag, hE, ub.free _ _ hoN f0⟩
    obtain ⟨a, B, sI, pins2, σ2, H2c, cls, d, rfl, J0, nb, up, sky, na, os, ag, hE, nC2⟩ := L2N.XE.of_call (W := fun cls d _ H2 => E cls d H2 ∧ H2 ce.locals = none) I7 (fun _ _ _ h => h) c2
    rw [hst] at sky
    show wpAny _ _ (noteFrame (.ref a) ce) _ _ _
    rw [cN]
    refine sky_held L2N.Zn.steady hA hfr sky fun h1 hh up1 => ?_
    have hn1 : h1.Ns ce.locals m := up1.ns hn
    refine ⟨m, hn1, fun h2 _ _ sb => ?_⟩
    obtain ⟨k1, k2, k3, oe, vs, T', oT, ts, hae, hz, hd, h1', hnT, hTe, hT, hdT, hr3⟩ := hh
    obtain ⟨oC, es, ep, hoC, hdC, _, _⟩ := hn1
    have aC : a ≠ ce.locals := fun z => by
      rw [z, hoC] at hae
      cases hae
      rw [hd] at hdC
      cases hdC
    have tC : T' ≠ ce.locals := fun z => by
      rw [z, hoC] at hT
      cases hT
      rw [hdT] at hdC
      cases hdC
    obtain ⟨B', b1, b2⟩ := L2.restrict B fun b => decide (b ≠ ce.locals)
    have b1 : ∀ b, b ≠ ce.locals → B'.get? b = B.get? b := fun b hb => b1 b (by simp [hb])
    have b2 : B'.get? ce.locals = none := b2 _ (by simp)
    have bN : ∀ b, B.get? b = none → B'.get? b = none := fun b hb => by
      by_cases z : b = ce.locals
      · rw [z, b2]
      · rw [b1 b z, hb]
    have hh2 : HandSPX.HeldZ B' (X.env :: X.outer) a (L2N.Zn cls d) X.env.locals h2 := by
      refine ⟨fun b o e => ?_, bN a k2, funFrames_on k3 (fun b hb => sb.2 b (frC b (by rw [hst]; exact hb))) (fun b _ => bN b), oe, vs, T', oT, ts, (sb.2 a aC).trans hae, hz, hd, h1', bN T' hnT, hTe, (sb.2 T' tC).trans hT, hdT, hr3⟩
      by_cases z : b = ce.locals
      · rw [z, b2] at e
        cases e
      · rw [b1 b z] at e
        exact (sb.2 b z).trans (k1 b o e)
    obtain ⟨G, g1, g2⟩ := L2.restrict sI.heap fun b => decide (b ≠ ce.locals)
    have g1 : ∀ b, b ≠ ce.locals → G.get? b = sI.heap.get? b := fun b hb => g1 b (by simp [hb])
    have g2 : G.get? ce.locals = none := g2 _ (by simp)
    have J : Inv X [] σ2 H2c { sI with heap := G, toks := sI.toks } := (J0.unpinned (pins := [])).turned (t' := sI.toks) (fun b o hb e => (g1 b hb).trans e) nC2 f1 f3' f4 fun p hp => f5 p (by
      rw [List.append_nil] at hp
      exact List.mem_append_left _ hp)
    unfold PySem.passOn
    refine wpAny_bind (wpAny_field ((sb.2 a aC).trans hae) hd h1' ?_)
    rw [if_neg (show ¬ ((Value.ref T' == Value.none) = true) from by simp)]
    have fin : wpAny (model X.prog X.w) X.A (setFlight (.ref a) ce.frame) (fun _ s4 => wpAny (model X.prog X.w) X.A (throw (.ref a) : Sem Value) (fun _ _ => False) X.xe s4) X.xe { s' with heap := h2 } := by
      rw [cF, hfr]
      refine HandSPX.setFlight_onZ hh2 fun h4 hh4 up4 => wpAny_throw (tk _ _ ?_)
      refine ⟨a, B', { sI with heap := G, toks := sI.toks }, [], σ2, H2c, cls, d, rfl, J, fun b o e hb => ?_, fun b o e hnf => ?_, .inr (.inr (by rw [hst]; exact hh4)), na, os, ag, hE⟩
      · have e : G.get? b = some o := e
        by_cases z : b = ce.locals
        · rw [z, g2] at e
          cases e
        · rw [g1 b z] at e
          rw [b1 b z]
          exact nb b o e hb
      · have e : G.get? b = some o := e
        by_cases z : b = ce.locals
        · rw [z, g2] at e
          cases e
        · rw [g1 b z] at e
          obtain ⟨sl, q⟩ := (up.trans up1) b o e hnf
          have q2 : h2.get? b = some { o with slots := sl } := (sb.2 b z).trans q
          obtain ⟨sl2, q3⟩ := up4 b _ q2 hnf
          exact ⟨sl2, q3⟩
    first
      | exact wpAny_bind (wpAny_pure (wpAny_bind fin))
      | exact wpAny_bind fin
  have thX : ∀ {α : Type} {t : Sem α} {P1 P2 : α → Shared → Prop} {s' : Shared}, wpAny (model X.prog X.w) X.A t P1 (XF (X.blk s3 H3 scope ce fp) E) s' → (∀ a s, P1 a s → P2 a s) → wpAny (model X.prog X.w) X.A t P2 (notedBy (model X.prog X.w) X.A ce fun e s' => compEnds (model X.prog X.w) X.A X.xe use Qf (.ref D) ce (.error e) s') s' := fun h hq => wpAny_mono h hq err
  have loop : codeAny (model X.prog X.w) X.A (.compLoop (.ListComp elt [⟨tg, iter, [], 0⟩] scope pos) 0 (.ref it) (.ref D) ce) (compEnds (model X.prog X.w) X.A X.xe use Qf (.ref D) ce) s4 := by
    refine compLoop_any (fun n s' => ∃ i H', Inv (X.blk s3 H3 scope ce fp) [] (wipe σ (own.map (·.2))) H' s' ∧ tn i s'.heap ∧ (∀ b ∈ fp, H' b = none) ∧ W i n H') ?_ m0 ⟨0, H3, I4, st4, nfp, w0⟩
    rintro n s5 ⟨i, H5, I5, st5, n5, w5⟩
    rcases turn i n H5 w5 with ⟨stop, qq⟩ | ⟨go, Nx, hNx, step⟩
    · have td := T.done (X.blk s3 H3 scope ce fp) rfl rfl rfl hc i [] s5 _ H5 (fun _ _ => False) I5 (stat I5 n5) st5 stop
      refine thnF td fun r s6 ⟨hr, I6⟩ => ?_
      subst hr
      obtain ⟨I7, hfp⟩ := back I6
      obtain ⟨m, hn, _⟩ := I6.loc
      have hn : s6.heap.Ns ce.locals m := hn
      exact hRR D ce s6 m H5 I7 qq hn hfp
    · have ti := T.item (X.blk s3 H3 scope ce fp) rfl rfl rfl hc i [] s5 _ H5 (fun _ _ => False) I5 (stat I5 n5) st5 go
      refine thnF ti fun r s6 ⟨u, hr, h6⟩ => ?_
      subst hr
      refine thnF h6 fun _ s7 ⟨x, H7, I7, r7, y7, st7, n7⟩ => ?_
      have I7' := I7.pinned (stat I7 n7) (T.obj _ _ st7)
      refine thX (pg.run _ s7 _ H7 x u _ (I7'.wish _) r7 (step x H7 y7)) fun _ s8 ⟨σ8, H8, I8, hw8, q8⟩ => ?_
      have fin : ∀ {s' : Shared} {H' : Hp}, Inv (X.blk s3 H3 scope ce fp) ([] ++ pinsAt fp s7.heap) σ8 H' s' → Nx H' → ∃ m, m < n ∧ ∃ i H', Inv (X.blk s3 H3 scope ce fp) [] (wipe σ (own.map (·.2))) H' s' ∧ tn i s'.heap ∧ (∀ b ∈ fp, H' b = none) ∧ W i m H' := fun {s' H'} I' nx => by
        obtain ⟨m', hm, w'⟩ := hNx H' nx
        have pin' : ∀ b ∈ fp, ∀ o, s7.heap.get? b = some o → s'.heap.get? b = some o ∧ H' b = none := fun b hb o e =>
          let z := I'.pin (b, o) (List.mem_append_right _ (List.mem_append_right _ (mem_pinsAt hb e)))
          ⟨z.1, z.2.1⟩
        have hl : (wipe σ (own.map (·.2))).length = σ8.length := by rw [← hw8, wipe_length]
        refine ⟨m', hm, i + 1, H', (I'.unpinned (pins := [])).weak hl (fun j v e => ?_), T.keep _ _ _ st7 fun b hb o e => (pin' b hb o e).1, fun b hb => ?_, w'⟩
        · rw [← hw8] at e
          exact (wipe_some e).1
        · obtain ⟨o, e, _⟩ := T.obj _ _ st7 b hb
          exact (pin' b hb o e).2
      have q8 : te σ8 H8 fun y H4 => ∃ acc, H4 D = some (.lst acc) ∧ acc.length < sizeLine ∧ Nx (upd H4 D (.lst (acc ++ [y]))) := q8
      refine wpAny_tests_nil ?_
      simp only [if_true]
      refine thX (pe.run _ s8 σ8 H8 _ I8 q8) fun z s10 ⟨yv, H10, I10, r10, acc, hD10, hz10, nx⟩ => ?_
      exact app_ok (X := X.blk s3 H3 scope ce fp) I10.unwish hD10 hz10 r10 fun s11 I11 => fin I11 nx
  exact codeAny_compStart_list loop (T.self X.A 0 _ _ _ st4 loop)
end
section
variable {X : Cx} {E : XK} {δ : Dl} {pos cp py : Pos} {y : Str} {rest : List Stmt} {D : Ends} {M : List Addr} {Hb H : Hp} {σ : L2.St} {CC : Addr}
/-- the element's weakest reading in the block that lets E out -/
def teX (X : Cx) (E : XK) (elt : Expr) (scope : Scope) : TE := fun σ H Q => ∀ (s : Shared) (Hb : Hp) (C : Addr) (cl : List (Str × Addr)) (fp : List Addr), TW (bX X E s Hb scope (compEnvC scope cl C X.env) fp) elt σ H Q
theorem pe_teX {elt : Expr} {scope : Scope} (s : Shared) (H : Hp) (C : Addr) (cl : List (Str × Addr)) (fp : List Addr) : PE (bX X E s H scope (compEnvC scope cl C X.env) fp) elt (teX X E elt scope) :=
  ⟨fun pins s' σ H' Q I h => pe_w.run pins s' σ H' Q I (h s H C cl fp)⟩
theorem tw_wish {e : Expr} {σ : L2.St} {H : Hp} {Q : VK} {s : Shared} {Hb : Hp} {scope : Scope} {ce : PySem.Env} {fp : List Addr} (h : TW (X.blk s Hb scope ce fp) e σ H Q) : TW (bX X E s Hb scope ce fp) e σ H Q := by
  obtain ⟨t, p, h⟩ := h
  exact ⟨t, PE.nox (X := bX X E s Hb scope ce fp) p, h⟩
theorem lcX_read {tg elt iter : Expr} {scope : Scope} {own : List (Str × Nat)} {n b : Nat} {Yd : Nat → Pd} {f : Nat → Pd} {δ' : Nat → Dl} {g : TG} (hi : IW X tg iter δ n Yd)
    (hgt : ∀ (i : Nat) M v τ H, i < n → Kn X.K M H τ (wipeD δ (own.map (·.2))) → Dt X.K M H v (Yd i) → ∀ Q : L2.St → Hp → Prop, (∀ τ', Kn X.K M H τ' (δ' i) → L2.wipe τ' (own.map (·.2)) = L2.wipe τ (own.map (·.2)) → Q τ' H) → g v τ H Q)
    (hn : n ≤ 50000) (hb : b < n)
    (he : ∀ (s : Shared) (H : Hp) (C : Addr) (cl : List (Str × Addr)) (fp : List Addr) (i : Nat), i < b → EE (X.blk s H scope (compEnvC scope cl C X.env) fp) elt (δ' i) (f i))
    (hx : ∀ (s : Shared) (H : Hp) (C : Addr) (cl : List (Str × Addr)) (fp : List Addr), EX (bX X E s H scope (compEnvC scope cl C X.env) fp) E elt (δ' b) CC)
    (kn : Kn X.K M H σ δ) (q : ∀ H', Ex H H' → E (.ref CC) none H') :
    tLc (TIW X tg iter) g tYes (teX X E elt scope) (own.map (·.2)) σ H (fun _ _ => False) := by
  refine hi M σ H kn _ fun J H1 G Y e1 w hG hY Dl hD => ?_
  refine lc_it w (g := g) (tt := tYes) (te := teX X E elt scope) (vs := own.map (·.2)) (σ := σ) (Qd := fun _ => False) (fun i H' => i ≤ b ∧ Ex H1 H' ∧ ∃ acc, H' Dl = some (.lst acc) ∧ DtAll X.K (Dl :: M) H' acc ((List.range i).map f)) ⟨Nat.zero_le _, Evl.Ex.new hD, [], upd_same, .nil⟩ (fun i H' _ p => hG H' (exM p.2.1)) ?_ ?_
  · intro i v H2 H3 hlt p y
    obtain ⟨p1, p2, acc, p3, p4⟩ := p
    have kn2 : Kn X.K (Dl :: M) H2 σ δ := (kn.mono e1).more hD p2 p3
    obtain ⟨y1, y2⟩ := hY (Dl :: M) i H2 v H3 (fun a ha => (List.mem_cons.mp ha).elim (fun z => .inr (by rw [z]; exact hD)) .inl) hlt y (exM p2) kn2.al
    refine hgt i (Dl :: M) v _ H3 hlt ((kn2.mono y1).wipe _) y2 _ fun τ' kt hw => ⟨by rw [hw, wipe_idem], ?_⟩
    show ∀ (s : Shared) (Hb : Hp) (C : Addr) (cl : List (Str × Addr)) (fp : List Addr), _
    intro s Hb C cl fp
    by_cases hib : i < b
    · refine tw_wish (he s Hb C cl fp i hib (Dl :: M) τ' H3 kt _ fun z H4 e4 h4 => ⟨acc, e4 _ _ (y1 _ _ p3), ?_, ?_⟩)
      · rw [p4.length, List.length_map, List.length_range]
        exact Evl.sz_lt (by omega)
      · have exu : Ex H1 (upd H4 Dl (.lst (acc ++ [z]))) := fun a o h => by
          rw [upd_ne (ne_of_none h hD)]
          exact ((p2.trans y1).trans e4) a o h
        refine ⟨hib, exu, _, upd_same, ?_⟩
        rw [List.range_succ, List.map_append]
        exact DtAll.app ((p4.mono (y1.trans e4)).monoM (ExM.upd (List.mem_cons_self ..))) (.cons (h4.monoM (ExM.upd (List.mem_cons_self ..))) .nil)
    · have hib : i = b := by omega
      subst hib
      exact hx s Hb C cl fp (Dl :: M) τ' H3 kt (fun H4 e4 => q H4 (((e1.trans p2).trans y1).trans e4)) _
  · intro H' p
    have := p.1
    omega
/-- [elt for name in iter], the element at b raises -/
theorem ex_lc {tx : Str} {tp : Pos} {elt iter : Expr} {scope : Scope} {own : List (Str × Nat)} {n b jx : Nat} {Yd : Nat → Pd} {f : Nat → Pd} (hc : X.calm = true) (hN : X.N.Nodup) (hst : X.stack = X.env :: X.outer) (hfr : X.env.frame = some X.env.locals) (tk : TkX X E) (hi : IW X (.Name tx tp) iter δ n Yd) (ok : BlkOk X.N X.env.scope scope own)
    (hg : ∀ (s : Shared) (H : Hp) (C : Addr) (cl : List (Str × Addr)) (fp : List Addr), PG (bX X E s H scope (compEnvC scope cl C X.env) fp) (.Name tx tp) (gName jx)) (hj : jx ∈ own.map (·.2)) (hn : n ≤ 50000) (hb : b < n)
    (he : ∀ (s : Shared) (H : Hp) (C : Addr) (cl : List (Str × Addr)) (fp : List Addr) (i : Nat), i < b → EE (X.blk s H scope (compEnvC scope cl C X.env) fp) elt ((wipeD δ (own.map (·.2))).set jx (some (Yd i))) (f i))
    (hx : ∀ (s : Shared) (H : Hp) (C : Addr) (cl : List (Str × Addr)) (fp : List Addr), EX (bX X E s H scope (compEnvC scope cl C X.env) fp) E elt ((wipeD δ (own.map (·.2))).set jx (some (Yd b))) CC) (hs : ∀ x, foldedSetIterable iter X.env x = pure x := by intro _; rfl) :
    EX X E (.ListComp elt [⟨.Name tx tp, iter, [], 0⟩] scope pos) δ CC := fun M σ H kn q Q => by
  refine ⟨fun σ H _ => tLc (TIW X (.Name tx tp) iter) (gName jx) tYes (teX X E elt scope) (own.map (·.2)) σ H (fun _ _ => False), ⟨fun pins s σ H Q I h => ?_⟩, lcX_read (b := b) (f := f) (g := gName jx) (own := own) hi (fun i M v τ H _ k h Q q => q _ (k.set jx h) (wipe_set _ _ hj)) hn hb he hx kn q⟩
  rw [eval_ListComp]
  exact lcX_core hc hN hst hfr tk I pi_w ok hg pe_teX hs h fun _ _ _ _ _ _ z => z.elim
/-- name = [..] that raises -/
theorem blk_setLcR {tx : Str} {tp : Pos} {elt iter : Expr} {scope : Scope} {own : List (Str × Nat)} {n b jx : Nat} {Yd : Nat → Pd} {f : Nat → Pd} (hN : X.N.Nodup) (hc : X.calm = true) (hst : X.stack = X.env :: X.outer) (hfr : X.env.frame = some X.env.locals) (tk : TkX X E) (hi : IW X (.Name tx tp) iter δ n Yd) (ok : BlkOk X.N X.env.scope scope own)
    (hg : ∀ (s : Shared) (H : Hp) (C : Addr) (cl : List (Str × Addr)) (fp : List Addr), PG (bX X E s H scope (compEnvC scope cl C X.env) fp) (.Name tx tp) (gName jx)) (hj : jx ∈ own.map (·.2)) (hn : n ≤ 50000) (hb : b < n)
    (he : ∀ (s : Shared) (H : Hp) (C : Addr) (cl : List (Str × Addr)) (fp : List Addr) (i : Nat), i < b → EE (X.blk s H scope (compEnvC scope cl C X.env) fp) elt ((wipeD δ (own.map (·.2))).set jx (some (Yd i))) (f i))
    (hx : ∀ (s : Shared) (H : Hp) (C : Addr) (cl : List (Str × Addr)) (fp : List Addr), EX (bX X E s H scope (compEnvC scope cl C X.env) fp) E elt ((wipeD δ (own.map (·.2))).set jx (some (Yd b))) CC)
    (k : EO X.K M Hb H σ δ) (q : ∀ H', Ex Hb H' → E (.ref CC) none H')
    (hsw : swapsWith (.ListComp elt [⟨.Name tx tp, iter, [], 0⟩] scope cp) (some (.Name y py)) pos.line X.env = pure true := by exact sw_true rfl rfl rfl (by decide +kernel)) (hs : ∀ x, foldedSetIterable iter X.env x = pure x := by intro _; rfl) :
    Blk X (.Assign [.Name y py] (.ListComp elt [⟨.Name tx tp, iter, [], 0⟩] scope cp) pos :: rest) D σ H := by
  have pS : PS X (.Assign [.Name y py] (.ListComp elt [⟨.Name tx tp, iter, [], 0⟩] scope cp) pos) (fun _ σ H => tLc (TIW X (.Name tx tp) iter) (gName jx) tYes (teX X E elt scope) (own.map (·.2)) σ H (fun _ _ => False)) := by
    refine ⟨fun pins s σ H D I h => ?_⟩
    rw [exec_Assign_Name_used _ _ _ _ hsw]
    refine wpAny_bind (wpAny_standAt (wpAny_bind ?_))
    show wpAny _ X.A (do let _ ← comprehension (.ListComp elt [⟨.Name tx tp, iter, [], 0⟩] scope cp) scope X.env (firstIterPos [⟨.Name tx tp, iter, [], 0⟩] cp) (newList []) false (eval iter X.env) (some (assign (.Name y py) X.env))) _ _ s
    exact wpAny_bind (thn (lcX_core (Qf := fun _ s' => SP X pins D .next s') hc hN hst hfr tk I pi_w ok hg pe_teX hs h fun _ _ _ _ _ _ z => z.elim) fun _ s' hq => wpAny_pure (wpAny_pure hq))
  exact ⟨_, pss_cons pS (u := tNever) pss_never, lcX_read (b := b) (f := f) (g := gName jx) (own := own) hi (fun i M v τ H _ k h Q q => q _ (k.set jx h) (wipe_set _ _ hj)) hn hb he hx k.kn fun H' e1 => q H' (k.ex.trans e1)⟩
/-- a call in such a block that raises -/
theorem ex_callB {Xb : Cx} {e : Expr} {es : List Expr} {x : Str} {p : Pos} {k : Nat} {ps : List Str} {R : List Pd → Addr → Prop} {ds : List Pd} {s : Shared} {Hb : Hp} {scope : Scope} {ce : PySem.Env} {fp : List Addr} (hX : Xb = bX X E s Hb scope ce fp)
    (F : Has Xb.prog Xb.w Xb.K Xb.mg Xb.base (L2N.CX Xb.prog Xb.w) x k ps (SpX Xb.K R)) (hr : Room k Xb.A) (ha : EA Xb (e :: es) δ ds) (hR : R ds CC) (hg : Gl Xb x := by rfl)
    (hdb : (x == ("__debug__" : Str)) = false := by decide) (he : starEach (e :: es) Xb.env = (false, eval e Xb.env) :: starEach es Xb.env := by rfl) (hpl : (backTo pos (starEach es Xb.env)).any (·.1) = false := by rfl) : EX Xb E (.Call (.Name x p) (e :: es) [] pos) δ CC := fun M σ H kn h Q => by
  obtain ⟨f, fd, F, g, kp, bn⟩ := F
  refine ⟨_, pe_call (E := E) F hr hg g kp bn .nil (fun pins σ H s e s' I c => ?_) pa_w hdb he hpl, ha M σ H kn _ fun vs H1 e1 h1 => ⟨M, ds, CC, kn.al.mono e1, by rw [List.append_nil]; exact h1, hR, fun H2 e2 => h H2 (e1.trans e2)⟩⟩
  subst hX
  exact ⟨pins, σ, H, s, I.unwish, c⟩
end
end Lr

/-! any(list) within an except suite -/
namespace Lr
open PySem PySem.Spec PyProof.Rows L2 HotX
section
variable {prog : Program} {w : World} {A : Around} {E : Value → Shared → Prop} {s : Shared}
theorem pyNext_list_end_hot {it l x1 : Addr} {i : Nat} {items : Array Value} {Q : Option Value → Shared → Prop} (hot : HotAt A x1 s.heap) (hx1 : x1 ≠ it)
    (hit : s.heap.IsListIter it l i) (hl : s.heap.IsList l items) (hx : items[i]? = none)
    (hQ : ∀ h', Heap.ExtBut it s.heap h' → Q none { s with heap := h' }) : wpAny (model prog w) A (pyNext (.ref it)) Q E s := by
  obtain ⟨o, ho, hc, hd⟩ := id hit
  obtain ⟨ol, hol, _, nl, hdl⟩ := hl
  obtain ⟨hh, o1, vs1, h1, d1, c1⟩ := hot
  unfold pyNext
  refine wpAny_bind (wpAny_attempt (wpAny_callSpecial?_slot (name := Str.ofString "__next__") hit.typeIs slot_listiter_next
    (wpAny_call_entry slot_listiter_next hit.typeIs entry_listiter_next ?_ (args_listiter_next _))))
  show wpAny _ _ (field (.ref it) 0 >>= _) _ _ s
  refine wpAny_bind (wpAny_field ho hd (x := .ref l) rfl ?_)
  show wpAny _ _ (if (Value.ref l == Value.none) = true then _ else _) _ _ s
  rw [if_neg (show ¬ ((Value.ref l == Value.none) = true) from Bool.false_ne_true)]
  show wpAny _ _ (field (.ref it) 1 >>= _) _ _ s
  refine wpAny_bind (wpAny_field ho hd (x := .int i 0) rfl ?_)
  show wpAny _ _ (seqItems? (.ref l) >>= _) _ _ s
  refine wpAny_bind (wpAny_seqItems hol hdl ?_)
  simp only [Int.toNat_natCast, hx]
  refine wpAny_bind (wpAny_rule (wpAny_bind (wpAny_setField ho hd (by simp) ?_)))
  have h1' := (Heap.get?_update_other s.heap (Obj.mapFields (·.setIfInBounds 0 Value.none)) (Ne.symm hx1)).trans h1
  show wpAny _ _ (newExc (.type "StopIteration") [] >>= _) _ _ _
  refine wpAny_bind ?_
  simp only [newExc, newTuple]
  refine wpAny_bind (wpAny_newObj_type ?_ (by size_fits))
  refine wpAny_bind (m := firstArgMember _ _) (wpAny_of_eq (a := Value.none) (by first | rfl | (simp only [firstArgMember]; rfl)) ?_)
  refine wpAny_newObj_type ?_ (by size_fits)
  refine raiseNew_hot (x1 := x1) ⟨hh, o1, vs1, Heap.get?_push_of_some _ (Heap.get?_push_of_some _ h1'), d1, c1⟩ (Nat.ne_of_lt (Heap.lt_size (Heap.get?_push_of_some _ h1'))) (Heap.get?_push_size _ rfl) rfl (by first | (simp; done) | (simp; omega) | (simp only [Array.size_append]; simp; omega)) ?_
  refine wpAny_bind (wpAny_isInstance (T := "StopIteration") (b := true) ⟨_, Heap.get?_update_self _ (Heap.get?_push_size _ rfl) rfl, rfl⟩ isSubtype_stop ?_)
  refine wpAny_pure (hQ _ fun b o' hb e => ?_)
  have e3 : (s.heap.update it (Obj.mapFields (·.setIfInBounds 0 Value.none))).get? b = some o' := ((Heap.SameBut.update s.heap it (Obj.mapFields (·.setIfInBounds 0 Value.none))).2 b hb).trans e
  rw [Heap.get?_update_other _ _ (Nat.ne_of_gt (Heap.lt_size (Heap.get?_push_of_some _ e3)))]
  exact Heap.get?_push_of_some _ (Heap.get?_push_of_some _ e3)
theorem walks_listHot {x1 : Addr} (hh : A.handled = some (.ref x1)) (I ax : Addr) (hne : ax ≠ I) (hx : x1 ≠ I) (items : Array Value) :
    Walks prog w A I [I, ax, x1] [I] items.size (fun i v => items[i]? = some v) (fun i h => h.IsListIter I ax i ∧ h.IsList ax items ∧ ∃ (o : Obj) (vs : Array Value), h.get? x1 = some o ∧ o.data = .fields vs ∧ vs[2]? = some .none) where
  sub := fun b hb => by simp at hb; simp [hb]
  frame := fun _ _ _ st hk => ⟨st.1.at fun o e => hk I (by simp) o e, st.2.1.at fun o e => hk ax (by simp) o e, by
    obtain ⟨o, vs, e, r⟩ := st.2.2
    exact ⟨o, vs, hk x1 (by simp) o e, r⟩⟩
  item := fun i s Q E hi st hQ => by
    refine wpAny_pyNext_list_item st.1 st.2.1 (x := items[i]) (by simp [hi]) fun h' hit' hs' => ?_
    refine hQ _ h' s.toks (by simp [hi]) ⟨hit', st.2.1.extBut hs'.extBut hne, ?_⟩ fun b o hb e => hs'.extBut b o (fun h => hb (by simp [h])) e
    obtain ⟨o, vs, e, r⟩ := st.2.2
    exact ⟨o, vs, hs'.extBut x1 o hx e, r⟩
  done := fun s Q E st hQ => by
    obtain ⟨o, vs, e, r⟩ := st.2.2
    exact pyNext_list_end_hot ⟨hh, o, vs, e, r⟩ hx st.1 st.2.1 (by simp) fun h' he' => hQ h' s.toks fun b o hb e => he' b o (fun h => hb (by simp [h])) e
  self := fun _ _ _ _ st hQ => wpAny_pyIter_listiter st.1 hQ
end
section
variable {X : Cx}
theorem cr_anyH (hc : L2H.HotC X) : CallR X (.builtin "any") (rAny X.K) := by
  intro pins s σ H vs us Q I r h
  obtain ⟨a, bs, rfl, hs, q⟩ := h
  obtain ⟨its, rv, hl, _⟩ := I.list hs
  rw [Vals.ref1 r]
  have hb := rv.bls
  obtain ⟨x1, hh, o1, v1, e1, d1, c1⟩ := hc.at I
  refine call_any_walk (iter_any hl.isList fun s₂ e2 st hne => ?_)
  subst e2
  refine ⟨_, _, _, _, _, _, _, rfl, walks_listHot (A := X.A.in1) (x1 := x1) hh _ a hne (Nat.ne_of_lt (Heap.lt_size e1)) its.toArray, ⟨st.1, st.2, o1, v1, Heap.get?_push_of_some _ e1, d1, c1⟩, truth_bools hb, fun h' tk hk => ?_⟩
  refine ⟨.bl _, H, I.kept fun b o eo => hk b o (fun hmem => ?_) (Heap.get?_push_of_some _ eo), ?_, q⟩
  · rcases List.mem_cons.mp hmem with e1 | hmem
    · exact absurd (e1 ▸ Heap.lt_size eo) (Nat.lt_irrefl _)
    · cases hmem
  · show Value.bool _ = Value.bool _
    rw [← L2.any_range, hb, List.size_toArray, List.length_map]
end
end Lr

namespace Lr
/-! rows by a lead and a round: the plain law -/
abbrev Row := List Int × List Int
def cz (c : List Int) (z : Int) : Int := c.getD (z % (c.length : Int)).toNat 0
def cyc (c : List Int) (i : Nat) : Int := c.getD (i % c.length) 0
def sgn (r : Row) (p : Nat) : Int := if p < r.1.length then r.1.getD p 0 else cyc r.2 (p - r.1.length)
theorem cz_nat (c : List Int) (i : Nat) : cz c (i : Int) = cyc c i := by
  unfold cz cyc
  rw [← Int.natCast_emod, Int.toNat_natCast]
theorem cz_add (c : List Int) (z : Int) : cz c (z + c.length) = cz c z := by
  unfold cz
  rw [Int.add_emod_right]
theorem cz_emod (c : List Int) (z w : Int) : cz c (z + w % (c.length : Int)) = cz c (z + w) := by
  unfold cz
  rw [Int.add_emod_emod]
def Per (f : Nat → Int) (a n : Nat) : Prop := ∀ p, a ≤ p → f (p + n) = f p
section
variable {f : Nat → Int} {a b m n : Nat}
theorem Per.mul (h : Per f a n) : ∀ k, Per f a (n * k)
  | 0 => fun p _ => rfl
  | k + 1 => fun p hp => by
    rw [Nat.mul_succ, ← Nat.add_assoc, h _ (by omega), Per.mul h k p hp]
theorem Per.sub (h : Per f a m) (g : Per f a n) (hle : n ≤ m) : Per f a (m - n) := fun p hp => by
  have e1 := g (p + (m - n)) (by omega)
  rw [← e1, show p + (m - n) + n = p + m by omega]
  exact h p hp
theorem per_gcd (m n : Nat) : Per f a m → Per f a n → Per f a (Nat.gcd m n) := by
  refine Nat.gcd.induction (P := fun m n => Per f a m → Per f a n → Per f a (Nat.gcd m n)) m n (fun n _ h => by rw [Nat.gcd_zero_left]; exact h) (fun m n hm ih h1 h2 => ?_)
  rw [Nat.gcd_rec]
  refine ih ?_ h1
  have e : n % m = n - m * (n / m) := by
    have := Nat.div_add_mod n m
    omega
  rw [e]
  exact h2.sub (h1.mul _) (Nat.mul_div_le n m)
theorem Per.shift (h : Per f a n) (hn : 0 < n) (g : Per f b m) : Per f a m := fun p hp => by
  have e : b ≤ p + n * b := Nat.le_trans (Nat.le_mul_of_pos_left b hn) (Nat.le_add_left _ _)
  have h1 := h.mul b (p + m) (by omega)
  have h2 := h.mul b p hp
  have h3 := g (p + n * b) e
  rw [← h1, ← h2, ← h3, Nat.add_right_comm]
end
theorem cyc_per (c : List Int) : Per (cyc c) 0 c.length := fun p _ => by
  unfold cyc
  rw [Nat.add_mod_right]
theorem getD_lt {l : List Int} {i : Nat} (h : i < l.length) : l.getD i 0 = l[i] := by
  rw [List.getD_eq_getElem?_getD, List.getElem?_eq_getElem h]
  rfl
theorem getElem?_getD {l : List Int} {i : Nat} (h : i < l.length) : l[i]? = some (l.getD i 0) := by
  rw [getD_lt h, List.getElem?_eq_getElem h]
theorem ext_getD {l m : List Int} (hl : l.length = m.length) (h : ∀ i, i < l.length → l.getD i 0 = m.getD i 0) : l = m := by
  refine List.ext_getElem hl fun i h1 h2 => ?_
  rw [← getD_lt h1, ← getD_lt h2]
  exact h i h1
theorem getD_app_l {l m : List Int} {i : Nat} (h : i < l.length) : (l ++ m).getD i 0 = l.getD i 0 := by
  rw [getD_lt h, getD_lt (by rw [List.length_append]; omega), List.getElem_append_left h]
theorem getD_app_r {l m : List Int} {i : Nat} (h : l.length ≤ i) : (l ++ m).getD i 0 = m.getD (i - l.length) 0 := by
  rw [List.getD_eq_getElem?_getD, List.getElem?_append_right h, List.getD_eq_getElem?_getD]
theorem getD_take {l : List Int} {i k : Nat} (h : i < k) : (l.take k).getD i 0 = l.getD i 0 := by
  rw [List.getD_eq_getElem?_getD, List.getElem?_take, if_pos h, List.getD_eq_getElem?_getD]
theorem getD_drop {l : List Int} {i k : Nat} : (l.drop k).getD i 0 = l.getD (k + i) 0 := by
  rw [List.getD_eq_getElem?_getD, List.getElem?_drop, List.getD_eq_getElem?_getD]
theorem cyc_lt {c : List Int} {i : Nat} (h : i < c.length) : cyc c i = c.getD i 0 := by
  unfold cyc
  rw [Nat.mod_eq_of_lt h]
/-! ### a list gone round -/
def rep (s : List Int) (k : Nat) : List Int := (List.replicate k s).flatten
theorem rep_len (s : List Int) : ∀ k, (rep s k).length = s.length * k
  | 0 => rfl
  | k + 1 => by
    unfold rep
    rw [List.replicate_succ, List.flatten_cons, List.length_append]
    have := rep_len s k
    unfold rep at this
    rw [this, Nat.mul_succ, Nat.add_comm]
theorem rep_get (s : List Int) : ∀ k i, i < s.length * k → (rep s k).getD i 0 = s.getD (i % s.length) 0
  | 0, i, h => by omega
  | k + 1, i, h => by
    have e : rep s (k + 1) = s ++ rep s k := by
      unfold rep
      rw [List.replicate_succ, List.flatten_cons]
    rw [e]
    by_cases hi : i < s.length
    · rw [getD_app_l hi, Nat.mod_eq_of_lt hi]
    · rw [Nat.mul_succ] at h
      rw [getD_app_r (by omega), rep_get s k _ (by omega), Nat.mod_eq_sub_mod (show s.length ≤ i by omega)]
theorem rep_cyc {s : List Int} {k : Nat} (hk : 0 < k) (i : Nat) : cyc (rep s k) i = cyc s i := by
  unfold cyc
  rw [rep_len]
  by_cases hs : s.length = 0
  · have e : s = [] := List.length_eq_zero_iff.mp hs
    subst e
    have e2 : rep [] k = [] := List.length_eq_zero_iff.mp (by rw [rep_len]; exact Nat.zero_mul _)
    rw [e2]
    rfl
  · have hp : 0 < s.length * k := Nat.mul_pos (by omega) hk
    rw [rep_get s k _ (Nat.mod_lt _ hp), Nat.mod_mul_right_mod]
theorem rep_iff {c : List Int} {d : Nat} (hd : 0 < d) (h1 : d ≤ c.length) (h2 : c.length % d = 0) : c = rep (c.take d) (c.length / d) ↔ Per (cyc c) 0 d := by
  have hlt : (c.take d).length = d := by rw [List.length_take]; omega
  have hmul : d * (c.length / d) = c.length := Nat.mul_div_cancel' (Nat.dvd_of_mod_eq_zero h2)
  constructor
  · intro e p _
    have key : ∀ i, cyc c i = c.getD (i % d) 0 := fun i => by
      have hi : i % c.length < c.length := Nat.mod_lt _ (by omega)
      unfold cyc
      have g := rep_get (c.take d) (c.length / d) (i % c.length) (by rw [hlt, hmul]; exact hi)
      rw [← e, hlt, getD_take (Nat.mod_lt _ hd), Nat.mod_mod_of_dvd _ (Nat.dvd_of_mod_eq_zero h2)] at g
      exact g
    rw [key, key, Nat.add_mod_right]
  · intro hp
    refine ext_getD (by rw [rep_len, hlt, hmul]) fun i hi => ?_
    rw [rep_get _ _ _ (by rw [hlt, hmul]; exact hi), hlt, getD_take (Nat.mod_lt _ hd)]
    have hlt2 : i % d < d := Nat.mod_lt _ hd
    have e1 : cyc c (i % d) = c.getD (i % d) 0 := cyc_lt (by omega)
    have e2 := hp.mul (i / d) (i % d) (Nat.zero_le _)
    rw [Nat.mod_add_div] at e2
    rw [← e1, ← e2, cyc_lt hi]
/-! ### rounds not gone round several times -/
def Prim (c : List Int) : Prop := ∀ d, 0 < d → d < c.length → c.length % d = 0 → ¬ Per (cyc c) 0 d
theorem prim_dvd {c : List Int} (hc : 0 < c.length) (h : Prim c) {m : Nat} (hm : Per (cyc c) 0 m) : c.length ∣ m := by
  have g := per_gcd _ _ (cyc_per c) hm
  have hg : 0 < Nat.gcd c.length m := Nat.gcd_pos_of_pos_left _ hc
  have h1 : Nat.gcd c.length m ∣ c.length := Nat.gcd_dvd_left ..
  have h2 : ¬ Nat.gcd c.length m < c.length := fun z => h _ hg z (Nat.mod_eq_zero_of_dvd h1) g
  have h3 : Nat.gcd c.length m = c.length := Nat.le_antisymm (Nat.le_of_dvd hc h1) (Nat.not_lt.mp h2)
  rw [← h3]
  exact Nat.gcd_dvd_right ..
/-! ### a round begun later -/
def rot (c : List Int) (t : Nat) : List Int := c.drop t ++ c.take t
theorem rot_len (c : List Int) (t : Nat) : (rot c t).length = c.length := by
  unfold rot
  rw [List.length_append, List.length_drop, List.length_take]
  omega
theorem rot_cyc {c : List Int} {t : Nat} (ht : t ≤ c.length) (i : Nat) : cyc (rot c t) i = cyc c (i + t) := by
  by_cases hc : c.length = 0
  · have e : c = [] := List.length_eq_zero_iff.mp hc
    subst e
    simp [rot, cyc]
  have hlt : i % c.length < c.length := Nat.mod_lt _ (by omega)
  unfold cyc
  rw [rot_len]
  have e : (i + t) % c.length = (i % c.length + t) % c.length := by rw [Nat.mod_add_mod]
  rw [e]
  unfold rot
  by_cases h : i % c.length < c.length - t
  · rw [getD_app_l (by rw [List.length_drop]; exact h), getD_drop, Nat.mod_eq_of_lt (show i % c.length + t < c.length by omega), Nat.add_comm]
  · rw [getD_app_r (by rw [List.length_drop]; omega), List.length_drop, getD_take (by omega), Nat.mod_eq_sub_mod (show c.length ≤ i % c.length + t by omega), Nat.mod_eq_of_lt (show i % c.length + t - c.length < c.length by omega)]
    congr 1
    omega
theorem rot_cz {c : List Int} {t : Nat} (ht : t ≤ c.length) (i : Nat) : cyc (rot c t) i = cz c ((i : Int) + t) := by
  rw [rot_cyc ht, ← cz_nat]
  rfl
theorem prim_rot {c : List Int} {t : Nat} (hc : 0 < c.length) (ht : t ≤ c.length) (h : Prim c) : Prim (rot c t) := fun d h1 h2 h3 hp => by
  rw [rot_len] at h2 h3
  refine h d h1 h2 h3 ((cyc_per c).shift (b := t) hc fun p hp2 => ?_)
  have g := hp (p - t) (Nat.zero_le _)
  rw [rot_cyc ht, rot_cyc ht, show p - t + d + t = p + d by omega, show p - t + t = p by omega] at g
  exact g
/-! ### the least telling is one -/
def Told (r : Row) : Prop := r.2 ≠ [] ∧ Prim r.2 ∧ (r.1 = [] ∨ r.1.getLast? ≠ r.2.getLast?)
theorem sgn_lo {r : Row} {p : Nat} (h : p < r.1.length) : sgn r p = r.1.getD p 0 := if_pos h
theorem sgn_hi (r : Row) (i : Nat) : sgn r (r.1.length + i) = cyc r.2 i := by
  unfold sgn
  rw [if_neg (by omega), Nat.add_sub_cancel_left]
theorem sgn_per (r : Row) : Per (sgn r) r.1.length r.2.length := fun p hp => by
  obtain ⟨i, rfl⟩ : ∃ i, p = r.1.length + i := ⟨p - r.1.length, by omega⟩
  rw [Nat.add_assoc, sgn_hi, sgn_hi]
  exact cyc_per _ i (Nat.zero_le _)
theorem last_get {l : List Int} (h : l ≠ []) : l.getLast? = some (l.getD (l.length - 1) 0) := by
  have hp : 0 < l.length := List.length_pos_iff.mpr h
  rw [List.getLast?_eq_getElem?, getElem?_getD (by omega)]
theorem told_len {r s : Row} (hr : Told r) (hs : s.2 ≠ []) (h : ∀ p, sgn r p = sgn s p) : r.2.length ∣ s.2.length := by
  have hc : 0 < r.2.length := List.length_pos_iff.mpr hr.1
  have e : sgn r = sgn s := funext h
  have h1 : Per (sgn r) s.1.length s.2.length := e ▸ sgn_per s
  have h2 := (sgn_per r).shift hc h1
  refine prim_dvd hc hr.2.1 fun p _ => ?_
  have g := h2 (r.1.length + p) (by omega)
  rw [Nat.add_assoc, sgn_hi, sgn_hi] at g
  exact g
theorem told_lead {r s : Row} (hs : Told s) (he : r.2.length = s.2.length) (h : ∀ p, sgn r p = sgn s p) : s.1.length ≤ r.1.length := by
  refine Nat.not_lt.mp fun hlt => ?_
  have hc : 0 < s.2.length := List.length_pos_iff.mpr hs.1
  have hne : s.1 ≠ [] := fun z => by
    rw [z] at hlt
    exact Nat.not_lt_zero _ hlt
  rcases hs.2.2 with z | z
  · exact hne z
  · apply z
    rw [last_get hne, last_get hs.1]
    have g := sgn_per r (s.1.length - 1) (by omega)
    have e1 : sgn s (s.1.length - 1) = s.1.getD (s.1.length - 1) 0 := sgn_lo (by omega)
    have e2 : sgn s (s.1.length - 1 + r.2.length) = s.2.getD (s.2.length - 1) 0 := by
      rw [he, show s.1.length - 1 + s.2.length = s.1.length + (s.2.length - 1) by omega, sgn_hi, cyc_lt (by omega)]
    rw [h, h, e1, e2] at g
    rw [g]
theorem told_unique {r s : Row} (hr : Told r) (hs : Told s) (h : ∀ p, sgn r p = sgn s p) : r = s := by
  have e1 : r.2.length = s.2.length := Nat.dvd_antisymm (told_len hr hs.1 h) (told_len hs hr.1 fun p => (h p).symm)
  have e2 : r.1.length = s.1.length := Nat.le_antisymm (told_lead hr e1.symm fun p => (h p).symm) (told_lead hs e1 h)
  have a1 : r.1 = s.1 := ext_getD e2 fun i hi => by
    have g := h i
    rw [sgn_lo hi, sgn_lo (by omega)] at g
    exact g
  have a2 : r.2 = s.2 := ext_getD e1 fun i hi => by
    have g := h (r.1.length + i)
    rw [sgn_hi, e2, sgn_hi, cyc_lt hi, cyc_lt (by omega)] at g
    exact g
  exact Prod.ext a1 a2
/-! ### so many signs are enough -/
theorem same_enough {r s : Row} (hr : r.2 ≠ []) (hs : s.2 ≠ []) (h : ∀ p, p < max r.1.length s.1.length + r.2.length + s.2.length → sgn r p = sgn s p) : ∀ p, sgn r p = sgn s p := by
  have hc : 0 < r.2.length := List.length_pos_iff.mpr hr
  have hd : 0 < s.2.length := List.length_pos_iff.mpr hs
  intro p
  induction p using Nat.strongRecOn with
  | ind p ih =>
    by_cases hp : p < max r.1.length s.1.length + r.2.length + s.2.length
    · exact h p hp
    · have m1 : r.1.length ≤ max r.1.length s.1.length := Nat.le_max_left _ _
      have m2 : s.1.length ≤ max r.1.length s.1.length := Nat.le_max_right _ _
      have a1 := sgn_per r (p - r.2.length) (by omega)
      have a2 := sgn_per s (p - r.2.length - s.2.length) (by omega)
      have a3 := sgn_per r (p - r.2.length - s.2.length) (by omega)
      have a4 := sgn_per s (p - s.2.length) (by omega)
      rw [show p - r.2.length + r.2.length = p by omega] at a1
      rw [show p - r.2.length - s.2.length + s.2.length = p - r.2.length by omega] at a2
      rw [show p - r.2.length - s.2.length + r.2.length = p - s.2.length by omega] at a3
      rw [show p - s.2.length + s.2.length = p by omega] at a4
      rw [a1, ih _ (by omega), a2, ← ih _ (by omega), ← a3, ih _ (by omega), a4]
/-! ### the shortest round -/
def isPart (c : List Int) (d : Nat) : Bool := decide (c.length % d = 0) && decide (c = rep (c.take d) (c.length / d))
def short (c : List Int) : List Int := match (List.range (c.length - 1)).find? (fun d => isPart c (d + 1)) with
  | some d => c.take (d + 1)
  | none => c
theorem find_range {p : Nat → Bool} : ∀ {n d : Nat}, d < n → p d = true → (∀ e, e < d → p e = false) → (List.range n).find? p = some d := by
  intro n d hd hp h
  rw [List.find?_range_eq_some]
  exact ⟨hp, List.mem_range.mpr hd, fun e he => by rw [h e he]; rfl⟩
theorem short_at {c : List Int} {d : Nat} (hd : d < c.length - 1) (hp : isPart c (d + 1) = true) (h : ∀ e, e < d → isPart c (e + 1) = false) : short c = c.take (d + 1) := by
  unfold short
  rw [find_range hd hp h]
theorem short_none {c : List Int} (h : ∀ e, e < c.length - 1 → isPart c (e + 1) = false) : short c = c := by
  unfold short
  have e : (List.range (c.length - 1)).find? (fun d => isPart c (d + 1)) = none := by
    rw [List.find?_eq_none]
    intro x hx
    rw [h x (List.mem_range.mp hx)]
    exact Bool.false_ne_true
  rw [e]
theorem short_cases (c : List Int) : (∃ d, d < c.length - 1 ∧ isPart c (d + 1) = true ∧ (∀ e, e < d → isPart c (e + 1) = false) ∧ short c = c.take (d + 1)) ∨ ((∀ e, e < c.length - 1 → isPart c (e + 1) = false) ∧ short c = c) := by
  cases e : (List.range (c.length - 1)).find? (fun d => isPart c (d + 1)) with
  | some d =>
    rw [List.find?_range_eq_some] at e
    obtain ⟨h1, h2, h3⟩ := e
    have hall : ∀ e, e < d → isPart c (e + 1) = false := fun e he => by
      have := h3 e he
      simpa using this
    exact .inl ⟨d, List.mem_range.mp h2, h1, hall, short_at (List.mem_range.mp h2) h1 hall⟩
  | none =>
    rw [List.find?_eq_none] at e
    have hall : ∀ e, e < c.length - 1 → isPart c (e + 1) = false := fun x hx => by
      have := e x (List.mem_range.mpr hx)
      simpa using this
    exact .inr ⟨hall, short_none hall⟩
theorem isPart_iff {c : List Int} {d : Nat} (hd : 0 < d) (h1 : d ≤ c.length) : isPart c d = true ↔ c.length % d = 0 ∧ Per (cyc c) 0 d := by
  unfold isPart
  rw [Bool.and_eq_true, decide_eq_true_iff, decide_eq_true_iff]
  constructor
  · intro ⟨a, b⟩
    exact ⟨a, (rep_iff hd h1 a).mp b⟩
  · intro ⟨a, b⟩
    exact ⟨a, (rep_iff hd h1 a).mpr b⟩
theorem short_cyc (c : List Int) (i : Nat) : cyc (short c) i = cyc c i := by
  rcases short_cases c with ⟨d, h1, h2, _, e⟩ | ⟨_, e⟩
  · unfold isPart at h2
    rw [Bool.and_eq_true, decide_eq_true_iff, decide_eq_true_iff] at h2
    have hk : 0 < c.length / (d + 1) := Nat.div_pos (by omega) (by omega)
    rw [e]
    conv => rhs; rw [h2.2]
    exact (rep_cyc hk i).symm
  · rw [e]
theorem short_ne {c : List Int} (h : c ≠ []) : short c ≠ [] := by
  rcases short_cases c with ⟨d, h1, _, _, e⟩ | ⟨_, e⟩
  · rw [e]
    intro z
    have := congrArg List.length z
    rw [List.length_take] at this
    have h2 : min (d + 1) c.length = 0 := this
    omega
  · rw [e]
    exact h
theorem short_le (c : List Int) : (short c).length ≤ c.length := by
  rcases short_cases c with ⟨d, h1, _, _, e⟩ | ⟨_, e⟩
  · rw [e, List.length_take]
    omega
  · rw [e]
    exact Nat.le_refl _
theorem short_prim (c : List Int) : Prim (short c) := by
  rcases short_cases c with ⟨d, h1, h2, h3, e⟩ | ⟨h3, e⟩
  · intro x hx hlt hdiv hper
    have hl : (short c).length = d + 1 := by rw [e, List.length_take]; omega
    rw [hl] at hlt hdiv
    have hp : Per (cyc c) 0 x := by
      have ef : cyc (short c) = cyc c := funext (short_cyc c)
      rw [ef] at hper
      exact hper
    have h4 := ((isPart_iff (by omega) (by omega)).mp h2).1
    have hd2 : c.length % x = 0 := Nat.mod_eq_zero_of_dvd (Nat.dvd_trans (Nat.dvd_of_mod_eq_zero hdiv) (Nat.dvd_of_mod_eq_zero h4))
    have g := (isPart_iff (c := c) hx (by omega)).mpr ⟨hd2, hp⟩
    have k := h3 (x - 1) (by omega)
    rw [show x - 1 + 1 = x by omega, g] at k
    cases k
  · rw [e]
    intro x hx hlt hdiv hper
    have g := (isPart_iff (c := c) hx (by omega)).mpr ⟨hdiv, hper⟩
    have k := h3 (x - 1) (by omega)
    rw [show x - 1 + 1 = x by omega, g] at k
    cases k
/-! ### the least telling -/
def keepF (l c : List Int) : Nat → Nat
  | 0 => 0
  | k + 1 => if l.getD k 0 = cz c (-1 - ((l.length : Int) - (k + 1))) then keepF l c k else k + 1
theorem keepF_le (l c : List Int) : ∀ k, keepF l c k ≤ k
  | 0 => Nat.le_refl _
  | k + 1 => by
    unfold keepF
    split
    · exact Nat.le_trans (keepF_le l c k) (Nat.le_succ _)
    · exact Nat.le_refl _
theorem keepF_eq (l c : List Int) : ∀ k j, keepF l c k ≤ j → j < k → l.getD j 0 = cz c ((j : Int) - l.length)
  | 0, _, _, h => by omega
  | k + 1, j, h1, h2 => by
    unfold keepF at h1
    split at h1
    · next e =>
      by_cases hj : j = k
      · subst hj
        rw [e]
        congr 1
        omega
      · exact keepF_eq l c k j h1 (by omega)
    · omega
theorem keepF_ne (l c : List Int) : ∀ k, 0 < keepF l c k → l.getD (keepF l c k - 1) 0 ≠ cz c (-1 - ((l.length : Int) - keepF l c k))
  | 0, h => by
    unfold keepF at h
    omega
  | k + 1, h => by
    unfold keepF at h ⊢
    split
    · next e =>
      rw [if_pos e] at h
      exact keepF_ne l c k h
    · next e =>
      rw [Nat.add_sub_cancel]
      exact e
def turnF (c : List Int) (gone : Int) : Nat := (-gone % (c.length : Int)).toNat
def leastF (r : Row) : Row :=
  let s := short r.2
  let k := keepF r.1 s r.1.length
  (r.1.take k, rot s (turnF s ((r.1.length : Int) - k)))
theorem turnF_lt {c : List Int} (h : c ≠ []) (g : Int) : turnF c g < c.length := by
  have hc : 0 < c.length := List.length_pos_iff.mpr h
  unfold turnF
  have h1 := Int.emod_lt_of_pos (-g) (show (0 : Int) < c.length by omega)
  have h2 := Int.emod_nonneg (-g) (show (c.length : Int) ≠ 0 by omega)
  omega
theorem turn_cz {c : List Int} (h : c ≠ []) (g : Int) (i : Nat) : cyc (rot c (turnF c g)) i = cz c ((i : Int) - g) := by
  have hc : 0 < c.length := List.length_pos_iff.mpr h
  rw [rot_cz (Nat.le_of_lt (turnF_lt h g))]
  unfold turnF
  have h2 := Int.emod_nonneg (-g) (show (c.length : Int) ≠ 0 by omega)
  rw [Int.toNat_of_nonneg h2, cz_emod]
  rfl
theorem least_sgn {r : Row} (h : r.2 ≠ []) (p : Nat) : sgn (leastF r) p = sgn r p := by
  have hs := short_ne h
  have hk := keepF_le r.1 (short r.2) r.1.length
  have hl : (leastF r).1.length = keepF r.1 (short r.2) r.1.length := by
    show (r.1.take _).length = _
    rw [List.length_take]
    omega
  by_cases h1 : p < keepF r.1 (short r.2) r.1.length
  · rw [sgn_lo (by omega), sgn_lo (by omega)]
    exact getD_take h1
  · obtain ⟨i, rfl⟩ : ∃ i, p = (leastF r).1.length + i := ⟨p - (leastF r).1.length, by omega⟩
    rw [sgn_hi]
    show cyc (rot (short r.2) (turnF (short r.2) ((r.1.length : Int) - keepF r.1 (short r.2) r.1.length))) i = _
    rw [turn_cz hs]
    by_cases h2 : keepF r.1 (short r.2) r.1.length + i < r.1.length
    · rw [hl, sgn_lo h2, keepF_eq r.1 (short r.2) r.1.length _ (by omega) h2]
      congr 1
      omega
    · obtain ⟨j, hj⟩ : ∃ j, keepF r.1 (short r.2) r.1.length + i = r.1.length + j := ⟨keepF r.1 (short r.2) r.1.length + i - r.1.length, by omega⟩
      rw [hl, hj, sgn_hi, ← short_cyc, ← cz_nat]
      congr 1
      omega
theorem least_told {r : Row} (h : r.2 ≠ []) : Told (leastF r) := by
  have hs := short_ne h
  have hsl : 0 < (short r.2).length := List.length_pos_iff.mpr hs
  have hk := keepF_le r.1 (short r.2) r.1.length
  have ht := turnF_lt hs ((r.1.length : Int) - keepF r.1 (short r.2) r.1.length)
  have hne : (leastF r).2 ≠ [] := fun z => by
    have e : (rot (short r.2) (turnF (short r.2) ((r.1.length : Int) - keepF r.1 (short r.2) r.1.length))).length = 0 := by
      have := congrArg List.length z
      exact this
    rw [rot_len] at e
    omega
  refine ⟨hne, prim_rot hsl (Nat.le_of_lt ht) (short_prim _), ?_⟩
  by_cases h0 : keepF r.1 (short r.2) r.1.length = 0
  · left
    show r.1.take _ = []
    rw [h0]
    rfl
  · right
    intro z
    have hl : (leastF r).1.length = keepF r.1 (short r.2) r.1.length := by
      show (r.1.take _).length = _
      rw [List.length_take]
      omega
    have hne1 : (leastF r).1 ≠ [] := fun y => by
      rw [y] at hl
      exact h0 hl.symm
    rw [last_get hne1, last_get hne, hl] at z
    have e1 := Option.some.inj z
    have e2 : (leastF r).1.getD (keepF r.1 (short r.2) r.1.length - 1) 0 = r.1.getD (keepF r.1 (short r.2) r.1.length - 1) 0 := getD_take (by omega)
    have hl2 : (leastF r).2.length = (short r.2).length := rot_len _ _
    have e3 : (leastF r).2.getD ((leastF r).2.length - 1) 0 = cz (short r.2) (-1 - ((r.1.length : Int) - keepF r.1 (short r.2) r.1.length)) := by
      rw [← cyc_lt (by omega), hl2]
      show cyc (rot (short r.2) (turnF (short r.2) ((r.1.length : Int) - keepF r.1 (short r.2) r.1.length))) _ = _
      rw [turn_cz hs, ← cz_add (short r.2) (-1 - _)]
      congr 1
      omega
    rw [e2, e3] at e1
    exact keepF_ne _ _ _ (by omega) e1
theorem least_one {r s : Row} (hr : r.2 ≠ []) (hs : s.2 ≠ []) (h : ∀ p, sgn r p = sgn s p) : leastF r = leastF s :=
  told_unique (least_told hr) (least_told hs) fun p => by rw [least_sgn hr, least_sgn hs, h]
theorem least_of_told {r : Row} (h : Told r) : leastF r = r := told_unique (least_told h.1) h fun p => least_sgn h.1 p
end Lr

namespace Lr
/-! the law's own draws and rows -/
def primesL : List Int := [1000003, 1000033, 1000037, 1000039, 1000081, 1000099, 1000117, 1000121, 1000133, 1000151, 1000159, 1000171, 1000183, 1000187, 1000193, 1000199]
def drawF (cell k many : Int) : Int := (cell * 48271 + k * 69621) % primesL.getD (k % 16).toNat 0 % many
theorem prime_pos {k : Int} : 0 < primesL.getD (k % 16).toNat 0 := by
  have h1 := Int.emod_nonneg k (show (16 : Int) ≠ 0 by decide)
  have h2 := Int.emod_lt_of_pos k (show (0 : Int) < 16 by decide)
  have h3 : (k % 16).toNat < 16 := by omega
  have all : ∀ j : Fin 16, 0 < primesL.getD j.1 0 := by decide
  exact all ⟨_, h3⟩
theorem draw_nn {c k m : Int} (h : 0 < m) : 0 ≤ drawF c k m := Int.emod_nonneg _ (by omega)
theorem draw_lt {c k m : Int} (h : 0 < m) : drawF c k m < m := Int.emod_lt_of_pos _ h
def mostF (ns : List Int) (by_ : Int) : Int := ([2, 3, 10, 1000000] : List Int).getD (drawF (ns.getD 0 0) by_ 4).toNat 0
theorem most_in (ns : List Int) (b : Int) : mostF ns b = 2 ∨ mostF ns b = 3 ∨ mostF ns b = 10 ∨ mostF ns b = 1000000 := by
  unfold mostF
  have h1 := draw_nn (c := ns.getD 0 0) (k := b) (show (0 : Int) < 4 by decide)
  have h2 := draw_lt (c := ns.getD 0 0) (k := b) (show (0 : Int) < 4 by decide)
  generalize hd : (drawF (ns.getD 0 0) b 4).toNat = j
  have h3 : j < 4 := by omega
  have all : ∀ j : Fin 4, ([2, 3, 10, 1000000] : List Int).getD j.1 0 = 2 ∨ ([2, 3, 10, 1000000] : List Int).getD j.1 0 = 3 ∨ ([2, 3, 10, 1000000] : List Int).getD j.1 0 = 10 ∨ ([2, 3, 10, 1000000] : List Int).getD j.1 0 = 1000000 := by decide
  exact all ⟨j, h3⟩
def signsF (ns : List Int) (b : Int) : List Int := (List.range ns.length).map fun i => drawF (ns.getD i 0) ((i : Int) % 5 + b) (mostF ns b) - mostF ns b / 3
def greatF (c : Int) : Int := c / 2 % 10 ^ 60 * (1 - c % 2 * 2)
def circ0 (s : List Int) (b cut : Int) : List Int := if s.drop cut.toNat = [] then [b % 2] else s.drop cut.toNat
def rowF (ns : List Int) (b : Int) : Row :=
  if (ns.length : Int) % 3 = 1 then
    let s := (ns.drop 1).map greatF
    let cut := ns.getD 0 0 % (((ns.drop 1).length : Int) + 1)
    (s.take cut.toNat, if cut < ((ns.drop 1).length : Int) then s.drop cut.toNat else [b % 2])
  else
    let s := signsF ns b
    let cut := drawF (ns.getD 1 0) (b + 1) ((ns.length : Int) + 1)
    let kind := drawF (ns.getD 2 0) (b + 2) 5
    let l0 := s.take cut.toNat
    let c0 := circ0 s b cut
    let c1 := if kind = 1 then rep (c0.take (1 + c0.length / 4)) 3 else c0
    let l1 := if kind = 2 then l0 ++ c1.drop (c1.length / 2) else l0
    let c2 := if kind = 3 then c1 ++ c1 else c1
    let l2 := if kind = 4 then rep l1 (1 + drawF (ns.getD 2 0) (b + 3) 4).toNat else l1
    (l2, c2)
/-- what is known of such a row -/
def Big (x : Int) : Prop := -(10 ^ 60) < x ∧ x < 10 ^ 60
theorem great_big (c : Int) : Big (greatF c) := by
  unfold Big greatF
  have h1 := Int.emod_nonneg (c / 2) (show (10 : Int) ^ 60 ≠ 0 by decide)
  have h2 := Int.emod_lt_of_pos (c / 2) (show (0 : Int) < 10 ^ 60 by decide)
  have h3 : c % 2 = 0 ∨ c % 2 = 1 := by omega
  rcases h3 with h | h
  · rw [h, show (1 : Int) - 0 * 2 = 1 by decide, Int.mul_one]
    omega
  · rw [h, show (1 : Int) - 1 * 2 = -1 by decide, Int.mul_neg_one]
    omega
theorem signs_big (ns : List Int) (b : Int) : ∀ x ∈ signsF ns b, Big x := by
  intro x hx
  unfold signsF at hx
  obtain ⟨i, _, rfl⟩ := List.mem_map.mp hx
  unfold Big
  rcases most_in ns b with h | h | h | h
  all_goals
    rw [h]
    have h1 := draw_nn (c := ns.getD i 0) (k := (i : Int) % 5 + b) (m := mostF ns b) (by rw [h]; decide)
    have h2 := draw_lt (c := ns.getD i 0) (k := (i : Int) % 5 + b) (m := mostF ns b) (by rw [h]; decide)
    rw [h] at h1 h2
    omega
theorem rep_mem {s : List Int} {k : Nat} {x : Int} (h : x ∈ rep s k) : x ∈ s := by
  unfold rep at h
  obtain ⟨l, h1, h2⟩ := List.mem_flatten.mp h
  rw [(List.mem_replicate.mp h1).2] at h2
  exact h2
structure RowOk (r : Row) : Prop where
  ne : r.2 ≠ []
  l : r.1.length ≤ 400
  c : r.2.length ≤ 200
  bl : ∀ x ∈ r.1, Big x
  bc : ∀ x ∈ r.2, Big x
theorem mod2_big (b : Int) : Big (b % 2) := by
  unfold Big
  omega
theorem row_ok {ns : List Int} {b : Int} (hn : ns.length ≤ 63) : RowOk (rowF ns b) := by
  unfold rowF
  split
  · next h =>
    have hs : ∀ x ∈ (ns.drop 1).map greatF, Big x := fun x hx => by
      obtain ⟨c, _, rfl⟩ := List.mem_map.mp hx
      exact great_big c
    have hl : ((ns.drop 1).map greatF).length = ns.length - 1 := by rw [List.length_map, List.length_drop]
    have hl2 : (ns.drop 1).length = ns.length - 1 := by rw [List.length_drop]
    have c0 := Int.emod_nonneg (ns.getD 0 0) (show (((ns.drop 1).length : Int) + 1) ≠ 0 by omega)
    refine ⟨?_, ?_, ?_, ?_, ?_⟩
    · show (if _ then _ else _) ≠ []
      split
      · next h2 =>
        intro z
        have := congrArg List.length z
        rw [List.length_drop, hl] at this
        have h3 : ([] : List Int).length = 0 := rfl
        omega
      · exact fun z => by cases z
    · show (List.take _ _).length ≤ 400
      rw [List.length_take, hl]
      omega
    · show (if _ then _ else _ : List Int).length ≤ 200
      split
      · rw [List.length_drop, hl]
        omega
      · show 1 ≤ 200
        omega
    · intro x hx
      exact hs x (List.mem_of_mem_take hx)
    · intro x hx
      have hx : x ∈ (if ns.getD 0 0 % (((ns.drop 1).length : Int) + 1) < ((ns.drop 1).length : Int) then ((ns.drop 1).map greatF).drop (ns.getD 0 0 % (((ns.drop 1).length : Int) + 1)).toNat else [b % 2]) := hx
      split at hx
      · exact hs x (List.mem_of_mem_drop hx)
      · rw [List.mem_singleton.mp hx]
        exact mod2_big b
  · next h =>
    dsimp only
    have hs := signs_big ns b
    have hl : (signsF ns b).length = ns.length := by
      unfold signsF
      rw [List.length_map, List.length_range]
    generalize signsF ns b = s at hs hl
    generalize drawF (ns.getD 1 0) (b + 1) ((ns.length : Int) + 1) = cut
    generalize hk : drawF (ns.getD 2 0) (b + 2) 5 = kind
    have d1 := draw_nn (c := ns.getD 2 0) (k := b + 3) (show (0 : Int) < 4 by decide)
    have d2 := draw_lt (c := ns.getD 2 0) (k := b + 3) (show (0 : Int) < 4 by decide)
    generalize drawF (ns.getD 2 0) (b + 3) 4 = dr at d1 d2
    have c0n : circ0 s b cut ≠ [] := by
      unfold circ0
      split
      · exact fun z => by cases z
      · assumption
    have c0l : (circ0 s b cut).length ≤ 63 := by
      unfold circ0
      split
      · show 1 ≤ 63
        omega
      · rw [List.length_drop]
        omega
    have c0b : ∀ x ∈ circ0 s b cut, Big x := by
      intro x hx
      unfold circ0 at hx
      split at hx
      · rw [List.mem_singleton.mp hx]
        exact mod2_big b
      · exact hs x (List.mem_of_mem_drop hx)
    have l0l : (s.take cut.toNat).length ≤ 63 := by
      rw [List.length_take]
      omega
    have l0b : ∀ x ∈ s.take cut.toNat, Big x := fun x hx => hs x (List.mem_of_mem_take hx)
    generalize circ0 s b cut = c0 at c0n c0l c0b
    generalize s.take cut.toNat = l0 at l0l l0b
    have c0p : 0 < c0.length := List.length_pos_iff.mpr c0n
    by_cases k1 : kind = 1
    · subst k1
      simp only [if_pos, if_neg (show ¬ (1 : Int) = 2 by decide), if_neg (show ¬ (1 : Int) = 3 by decide), if_neg (show ¬ (1 : Int) = 4 by decide)]
      have hlr : (rep (c0.take (1 + c0.length / 4)) 3).length = min (1 + c0.length / 4) c0.length * 3 := by rw [rep_len, List.length_take]
      refine ⟨fun z => ?_, by show l0.length ≤ 400; omega, by show (rep _ 3).length ≤ 200; rw [hlr]; omega, l0b, fun x hx => c0b x (List.mem_of_mem_take (rep_mem hx))⟩
      have := congrArg List.length z
      rw [hlr] at this
      have h3 : ([] : List Int).length = 0 := rfl
      omega
    · rw [if_neg k1]
      by_cases k2 : kind = 2
      · subst k2
        simp only [if_pos, if_neg (show ¬ (2 : Int) = 3 by decide), if_neg (show ¬ (2 : Int) = 4 by decide)]
        refine ⟨c0n, by show (l0 ++ _).length ≤ 400; rw [List.length_append, List.length_drop]; omega, by show c0.length ≤ 200; omega, fun x hx => ?_, c0b⟩
        rcases List.mem_append.mp hx with h | h
        · exact l0b x h
        · exact c0b x (List.mem_of_mem_drop h)
      · rw [if_neg k2]
        by_cases k3 : kind = 3
        · subst k3
          simp only [if_pos, if_neg (show ¬ (3 : Int) = 4 by decide)]
          refine ⟨fun z => c0n (List.append_eq_nil_iff.mp z).1, by show l0.length ≤ 400; omega, by show (c0 ++ c0).length ≤ 200; rw [List.length_append]; omega, l0b, fun x hx => ?_⟩
          rcases List.mem_append.mp hx with h | h
          · exact c0b x h
          · exact c0b x h
        · rw [if_neg k3]
          by_cases k4 : kind = 4
          · subst k4
            simp only [if_pos]
            refine ⟨c0n, ?_, by show c0.length ≤ 200; omega, fun x hx => l0b x (rep_mem hx), c0b⟩
            show (rep l0 (1 + dr).toNat).length ≤ 400
            rw [rep_len]
            have : (1 + dr).toNat ≤ 4 := by omega
            exact Nat.le_trans (Nat.mul_le_mul l0l this) (by omega)
          · rw [if_neg k4]
            exact ⟨c0n, by show l0.length ≤ 400; omega, by show c0.length ≤ 200; omega, l0b, c0b⟩
end Lr

namespace Lr
/-! rows made of rows -/
theorem row_len (ns : List Int) (b : Int) : (rowF ns b).1.length ≤ 4 * ns.length + 1 ∧ (rowF ns b).2.length ≤ max 3 (2 * ns.length) := by
  unfold rowF
  split
  · next h =>
    have hl : ((ns.drop 1).map greatF).length = ns.length - 1 := by rw [List.length_map, List.length_drop]
    constructor
    · show (List.take _ _).length ≤ _
      rw [List.length_take, hl]
      omega
    · show (if _ then _ else _ : List Int).length ≤ _
      split
      · rw [List.length_drop, hl]
        omega
      · show 1 ≤ _
        omega
  · next h =>
    dsimp only
    have hl : (signsF ns b).length = ns.length := by
      unfold signsF
      rw [List.length_map, List.length_range]
    generalize signsF ns b = s at hl
    generalize drawF (ns.getD 1 0) (b + 1) ((ns.length : Int) + 1) = cut
    generalize hk : drawF (ns.getD 2 0) (b + 2) 5 = kind
    have d1 := draw_nn (c := ns.getD 2 0) (k := b + 3) (show (0 : Int) < 4 by decide)
    have d2 := draw_lt (c := ns.getD 2 0) (k := b + 3) (show (0 : Int) < 4 by decide)
    generalize drawF (ns.getD 2 0) (b + 3) 4 = dr at d1 d2
    have c0l : (circ0 s b cut).length = 1 ∧ (s.take cut.toNat).length ≤ ns.length ∨ (circ0 s b cut).length + (s.take cut.toNat).length = ns.length := by
      unfold circ0
      split
      · left
        constructor
        · rfl
        · rw [List.length_take]
          omega
      · right
        rw [List.length_drop, List.length_take]
        omega
    generalize circ0 s b cut = c0 at c0l
    generalize s.take cut.toNat = l0 at c0l
    by_cases k1 : kind = 1
    · subst k1
      simp only [if_pos, if_neg (show ¬ (1 : Int) = 2 by decide), if_neg (show ¬ (1 : Int) = 3 by decide), if_neg (show ¬ (1 : Int) = 4 by decide)]
      have hlr : (rep (c0.take (1 + c0.length / 4)) 3).length = min (1 + c0.length / 4) c0.length * 3 := by rw [rep_len, List.length_take]
      rw [hlr]
      omega
    · rw [if_neg k1]
      by_cases k2 : kind = 2
      · subst k2
        simp only [if_pos, if_neg (show ¬ (2 : Int) = 3 by decide), if_neg (show ¬ (2 : Int) = 4 by decide)]
        rw [List.length_append, List.length_drop]
        omega
      · rw [if_neg k2]
        by_cases k3 : kind = 3
        · subst k3
          simp only [if_pos, if_neg (show ¬ (3 : Int) = 4 by decide)]
          rw [List.length_append]
          omega
        · rw [if_neg k3]
          by_cases k4 : kind = 4
          · subst k4
            simp only [if_pos]
            have h4 : (1 + dr).toNat ≤ 4 := by omega
            have h5 : l0.length * (1 + dr).toNat ≤ l0.length * 4 := Nat.mul_le_mul_left _ h4
            rw [rep_len]
            omega
          · rw [if_neg k4]
            omega
/-- a row of what f gives, periodic from m on -/
def madeR (f : Nat → Int) (m a : Nat) : Row := (((List.range (m + a)).map f).take m, ((List.range (m + a)).map f).drop m)
theorem madeR_1 (f : Nat → Int) (m a : Nat) : (madeR f m a).1.length = m := by
  show (((List.range (m + a)).map f).take m).length = m
  rw [List.length_take, List.length_map, List.length_range]
  omega
theorem madeR_2 (f : Nat → Int) (m a : Nat) : (madeR f m a).2.length = a := by
  show (((List.range (m + a)).map f).drop m).length = a
  rw [List.length_drop, List.length_map, List.length_range]
  omega
theorem getD_mapR (f : Nat → Int) {n i : Nat} (h : i < n) : ((List.range n).map f).getD i 0 = f i := by
  rw [getD_lt (by rw [List.length_map, List.length_range]; exact h), List.getElem_map, List.getElem_range]
theorem made_ne (f : Nat → Int) (m : Nat) {a : Nat} (h : 0 < a) : (madeR f m a).2 ≠ [] := fun z => by
  have := madeR_2 f m a
  rw [z] at this
  simp at this
  omega
theorem made_sgn {f : Nat → Int} {m a : Nat} (ha : 0 < a) (hp : Per f m a) (k : Nat) : sgn (madeR f m a) k = f k := by
  by_cases h : k < m
  · rw [sgn_lo (by rw [madeR_1]; exact h)]
    show (((List.range (m + a)).map f).take m).getD k 0 = f k
    rw [getD_take h, getD_mapR f (by omega)]
  · obtain ⟨i, rfl⟩ : ∃ i, k = (madeR f m a).1.length + i := ⟨k - (madeR f m a).1.length, by rw [madeR_1]; omega⟩
    rw [sgn_hi, madeR_1]
    unfold cyc
    rw [madeR_2]
    show (((List.range (m + a)).map f).drop m).getD (i % a) 0 = _
    have hm : i % a < a := Nat.mod_lt _ ha
    rw [getD_drop, getD_mapR f (by omega)]
    have g := hp.mul (i / a) (m + i % a) (by omega)
    rw [← g, Nat.add_assoc, Nat.mod_add_div]
/-! every -/
def everyM (r : Row) (s t : Nat) : Nat := (max 0 (-(((s : Int) - r.1.length) / (t : Int)))).toNat
def everyA (r : Row) (t : Nat) : Nat := r.2.length / Nat.gcd r.2.length t
theorem everyM_ge {r : Row} {s t : Nat} (ht : 0 < t) : r.1.length ≤ s + t * everyM r s t := by
  unfold everyM
  have h1 := Int.emod_nonneg ((s : Int) - r.1.length) (show (t : Int) ≠ 0 by omega)
  have h2 := Int.mul_ediv_add_emod ((s : Int) - r.1.length) (t : Int)
  generalize hq : ((s : Int) - r.1.length) / (t : Int) = q at h2
  have h3 : (t : Int) * (-q) ≤ (t : Int) * (((max 0 (-q)).toNat : Nat) : Int) := Int.mul_le_mul_of_nonneg_left (by omega) (by omega)
  rw [Int.mul_neg] at h3
  have h4 : ((t * (max 0 (-q)).toNat : Nat) : Int) = (t : Int) * (((max 0 (-q)).toNat : Nat) : Int) := Int.natCast_mul _ _
  omega
theorem everyM_le {r : Row} {s t : Nat} (ht : 0 < t) : everyM r s t ≤ r.1.length := by
  unfold everyM
  have h1 := Int.emod_lt_of_pos ((s : Int) - r.1.length) (show (0 : Int) < (t : Int) by omega)
  have h2 := Int.mul_ediv_add_emod ((s : Int) - r.1.length) (t : Int)
  generalize hq : ((s : Int) - r.1.length) / (t : Int) = q at h2
  refine Nat.not_lt.mp fun h => ?_
  have h3 : (r.1.length : Int) + 1 ≤ -q := by omega
  have h4 : (t : Int) * ((r.1.length : Int) + 1) ≤ (t : Int) * (-q) := Int.mul_le_mul_of_nonneg_left h3 (by omega)
  rw [Int.mul_neg, Int.mul_add, Int.mul_one] at h4
  have h5 : (1 : Int) * (r.1.length : Int) ≤ (t : Int) * (r.1.length : Int) := Int.mul_le_mul_of_nonneg_right (by omega) (by omega)
  omega
theorem everyA_pos {r : Row} (t : Nat) (hne : r.2 ≠ []) : 0 < everyA r t := by
  have hc : 0 < r.2.length := List.length_pos_iff.mpr hne
  exact Nat.div_pos (Nat.le_of_dvd hc (Nat.gcd_dvd_left ..)) (Nat.gcd_pos_of_pos_left _ hc)
theorem everyA_le (r : Row) (t : Nat) : everyA r t ≤ r.2.length := Nat.div_le_self _ _
theorem per_at (r : Row) {p n : Nat} (hp : r.1.length ≤ p) (hn : r.2.length ∣ n) : sgn r (p + n) = sgn r p := by
  obtain ⟨k, rfl⟩ := hn
  exact (sgn_per r).mul k p hp
theorem every_per {r : Row} {s t : Nat} (ht : 0 < t) : Per (fun k => sgn r (s + t * k)) (everyM r s t) (everyA r t) := fun k hk => by
  show sgn r (s + t * (k + everyA r t)) = sgn r (s + t * k)
  have h1 : r.2.length ∣ t * everyA r t := by
    unfold everyA
    obtain ⟨x, hx⟩ := Nat.gcd_dvd_left r.2.length t
    obtain ⟨y, hy⟩ := Nat.gcd_dvd_right r.2.length t
    by_cases hg : Nat.gcd r.2.length t = 0
    · rw [hg, Nat.zero_mul] at hy
      omega
    · have e : r.2.length / Nat.gcd r.2.length t = x := by
        conv => lhs; lhs; rw [hx]
        exact Nat.mul_div_cancel_left _ (by omega)
      rw [e]
      refine ⟨y, ?_⟩
      conv => lhs; rw [hy]
      conv => rhs; lhs; rw [hx]
      rw [Nat.mul_right_comm]
  rw [Nat.mul_add, ← Nat.add_assoc]
  have h2 := everyM_ge (r := r) (s := s) ht
  have h3 : t * everyM r s t ≤ t * k := Nat.mul_le_mul_left _ hk
  exact per_at r (by omega) h1
/-! lengths -/
def longF (a : Nat) (rs : List Row) : Nat := rs.foldl (fun a r => max a r.1.length) a
def aroF (a : Nat) (rs : List Row) : Nat := rs.foldl (fun a r => a / Nat.gcd a r.2.length * r.2.length) a
theorem longF_ge : ∀ (rs : List Row) (a : Nat), a ≤ longF a rs ∧ ∀ r ∈ rs, r.1.length ≤ longF a rs
  | [], a => ⟨Nat.le_refl _, fun r h => by cases h⟩
  | x :: rs, a => by
    obtain ⟨h1, h2⟩ := longF_ge rs (max a x.1.length)
    refine ⟨Nat.le_trans (Nat.le_max_left _ _) h1, fun r hr => ?_⟩
    rcases List.mem_cons.mp hr with e | e
    · rw [e]
      exact Nat.le_trans (Nat.le_max_right _ _) h1
    · exact h2 r e
theorem longF_le {B : Nat} : ∀ (rs : List Row) (a : Nat), a ≤ B → (∀ r ∈ rs, r.1.length ≤ B) → longF a rs ≤ B
  | [], a, h, _ => h
  | x :: rs, a, h, hr => longF_le rs _ (Nat.max_le.mpr ⟨h, hr x (List.mem_cons_self ..)⟩) fun r h => hr r (List.mem_cons_of_mem _ h)
theorem lcm_dvd {a n : Nat} (ha : 0 < a) : a ∣ a / Nat.gcd a n * n ∧ n ∣ a / Nat.gcd a n * n := by
  obtain ⟨y, hy⟩ := Nat.gcd_dvd_right a n
  have hg : 0 < Nat.gcd a n := Nat.gcd_pos_of_pos_left _ ha
  constructor
  · refine ⟨y, ?_⟩
    conv => lhs; rhs; rw [hy]
    rw [← Nat.mul_assoc, Nat.div_mul_cancel (Nat.gcd_dvd_left ..)]
  · exact Nat.dvd_mul_left ..
theorem aroF_dvd : ∀ (rs : List Row) (a : Nat), 0 < a → (∀ r ∈ rs, r.2 ≠ []) → 0 < aroF a rs ∧ a ∣ aroF a rs ∧ ∀ r ∈ rs, r.2.length ∣ aroF a rs
  | [], a, h, _ => ⟨h, Nat.dvd_refl _, fun r h => by cases h⟩
  | x :: rs, a, h, hr => by
    have hx : 0 < x.2.length := List.length_pos_iff.mpr (hr x (List.mem_cons_self ..))
    have hp : 0 < a / Nat.gcd a x.2.length * x.2.length := Nat.mul_pos (Nat.div_pos (Nat.le_of_dvd h (Nat.gcd_dvd_left ..)) (Nat.gcd_pos_of_pos_left _ h)) hx
    obtain ⟨h0, h1, h2⟩ := aroF_dvd rs _ hp fun r h => hr r (List.mem_cons_of_mem _ h)
    have hd := lcm_dvd (n := x.2.length) h
    refine ⟨h0, Nat.dvd_trans hd.1 h1, fun r hr => ?_⟩
    rcases List.mem_cons.mp hr with e | e
    · rw [e]
      exact Nat.dvd_trans hd.2 h1
    · exact h2 r e
theorem aroF_le {B : Nat} : ∀ (rs : List Row) (a : Nat), (∀ r ∈ rs, r.2.length ≤ B) → aroF a rs ≤ a * B ^ rs.length
  | [], a, _ => by
    show a ≤ a * B ^ 0
    rw [Nat.pow_zero, Nat.mul_one]
    exact Nat.le_refl _
  | x :: rs, a, hr => by
    refine Nat.le_trans (aroF_le rs _ fun r h => hr r (List.mem_cons_of_mem _ h)) ?_
    rw [List.length_cons, Nat.pow_succ, Nat.mul_comm (B ^ _) B, ← Nat.mul_assoc]
    refine Nat.mul_le_mul_right _ ?_
    exact Nat.mul_le_mul (Nat.div_le_self _ _) (hr x (List.mem_cons_self ..))
/-! woven -/
def wovF (rs : List Row) (k : Nat) : Int := sgn (rs.getD (k % rs.length) ([], [])) (k / rs.length)
theorem wov_per {rs : List Row} (h0 : 0 < rs.length) (hr : ∀ r ∈ rs, r.2 ≠ []) : Per (wovF rs) (longF 0 rs * rs.length) (aroF 1 rs * rs.length) := fun k hk => by
  unfold wovF
  have e1 : (k + aroF 1 rs * rs.length) % rs.length = k % rs.length := Nat.add_mul_mod_self_right ..
  have e2 : (k + aroF 1 rs * rs.length) / rs.length = k / rs.length + aroF 1 rs := Nat.add_mul_div_right _ _ h0
  rw [e1, e2]
  have hlt : k % rs.length < rs.length := Nat.mod_lt _ h0
  have hm : rs.getD (k % rs.length) ([], []) ∈ rs := by
    rw [List.getD_eq_getElem?_getD, List.getElem?_eq_getElem hlt]
    exact List.getElem_mem hlt
  have h3 : longF 0 rs ≤ k / rs.length := (Nat.le_div_iff_mul_le h0).mpr hk
  exact per_at _ (Nat.le_trans ((longF_ge rs 0).2 _ hm) h3) ((aroF_dvd rs 1 (by decide) hr).2.2 _ hm)
theorem wov_next (rs : List Row) (h0 : 0 < rs.length) (p : Nat) : (List.range ((p + 1) * rs.length)).map (wovF rs) = (List.range (p * rs.length)).map (wovF rs) ++ rs.map (fun r => sgn r p) := by
  rw [Nat.succ_mul, List.range_add, List.map_append, List.map_map]
  congr 1
  refine List.ext_getElem (by rw [List.length_map, List.length_range, List.length_map]) fun i h1 h2 => ?_
  rw [List.length_map, List.length_range] at h1
  rw [List.getElem_map, List.getElem_map, List.getElem_range]
  show wovF rs (p * rs.length + i) = _
  unfold wovF
  have e1 : (p * rs.length + i) % rs.length = i := by
    rw [Nat.add_comm, Nat.add_mul_mod_self_right, Nat.mod_eq_of_lt h1]
  have e2 : (p * rs.length + i) / rs.length = p := by
    rw [Nat.add_comm, Nat.add_mul_div_right _ _ h0, Nat.div_eq_of_lt h1, Nat.zero_add]
  rw [e1, e2, List.getD_eq_getElem?_getD, List.getElem?_eq_getElem h1]
  rfl
/-! added -/
def addF (a b : Row) (k : Nat) : Int := sgn a k + sgn b k
theorem add_per {a b : Row} (ha : a.2 ≠ []) (hb : b.2 ≠ []) : Per (addF a b) (longF 0 [a, b]) (aroF 1 [a, b]) := fun k hk => by
  have h1 := (longF_ge [a, b] 0).2
  have h2 := (aroF_dvd [a, b] 1 (by decide) (by
    intro r hr
    simp only [List.mem_cons, List.not_mem_nil, or_false] at hr
    rcases hr with e | e
    · rw [e]; exact ha
    · rw [e]; exact hb)).2.2
  have m1 : a ∈ [a, b] := List.mem_cons_self ..
  have m2 : b ∈ [a, b] := List.mem_cons_of_mem _ (List.mem_cons_self ..)
  unfold addF
  rw [per_at a (Nat.le_trans (h1 a m1) hk) (h2 a m1), per_at b (Nat.le_trans (h1 b m2) hk) (h2 b m2)]
/-! behind, ahead -/
def behindF (r : Row) (p : Nat) : Row := if p < r.1.length then (r.1.drop p, r.2) else ([], rot r.2 ((p - r.1.length) % r.2.length))
theorem behind_ne {r : Row} (p : Nat) (hne : r.2 ≠ []) : (behindF r p).2 ≠ [] := by
  unfold behindF
  split
  · exact hne
  · intro z
    have e := rot_len r.2 ((p - r.1.length) % r.2.length)
    have z2 : rot r.2 ((p - r.1.length) % r.2.length) = [] := z
    rw [z2] at e
    exact hne (List.length_eq_zero_iff.mp e.symm)
theorem behind_len (r : Row) (p : Nat) : (behindF r p).1.length ≤ r.1.length ∧ (behindF r p).2.length = r.2.length := by
  unfold behindF
  split
  · exact ⟨by rw [List.length_drop]; omega, rfl⟩
  · exact ⟨Nat.zero_le _, rot_len _ _⟩
theorem behind_sgn {r : Row} (p : Nat) (hne : r.2 ≠ []) (k : Nat) : sgn (behindF r p) k = sgn r (p + k) := by
  have hc : 0 < r.2.length := List.length_pos_iff.mpr hne
  unfold behindF
  by_cases h : p < r.1.length
  · rw [if_pos h]
    by_cases h2 : p + k < r.1.length
    · rw [sgn_lo h2, sgn_lo (show k < (r.1.drop p).length by rw [List.length_drop]; omega)]
      exact getD_drop
    · obtain ⟨i, hi⟩ : ∃ i, p + k = r.1.length + i := ⟨p + k - r.1.length, by omega⟩
      have hd : (r.1.drop p).length = r.1.length - p := List.length_drop
      have e : k = (r.1.drop p).length + i := by omega
      rw [hi, sgn_hi, e]
      exact sgn_hi (r.1.drop p, r.2) i
  · rw [if_neg h]
    obtain ⟨i, rfl⟩ : ∃ i, p = r.1.length + i := ⟨p - r.1.length, by omega⟩
    have e1 := sgn_hi (([] : List Int), rot r.2 ((r.1.length + i - r.1.length) % r.2.length)) k
    have e2 : ([] : List Int).length + k = k := Nat.zero_add k
    rw [e2] at e1
    rw [e1, Nat.add_assoc, sgn_hi, Nat.add_sub_cancel_left, rot_cyc (Nat.le_of_lt (Nat.mod_lt _ hc))]
    unfold cyc
    rw [Nat.add_mod_mod, Nat.add_comm]
theorem ahead_sgn (s : List Int) (r : Row) (k : Nat) : sgn (s ++ r.1, r.2) k = if k < s.length then s.getD k 0 else sgn r (k - s.length) := by
  by_cases h : k < s.length
  · rw [if_pos h, sgn_lo (show k < (s ++ r.1).length by rw [List.length_append]; omega)]
    exact getD_app_l h
  · rw [if_neg h]
    obtain ⟨j, rfl⟩ : ∃ j, k = s.length + j := ⟨k - s.length, by omega⟩
    rw [Nat.add_sub_cancel_left]
    by_cases h2 : j < r.1.length
    · rw [sgn_lo h2, sgn_lo (show s.length + j < (s ++ r.1).length by rw [List.length_append]; omega)]
      show (s ++ r.1).getD _ 0 = _
      rw [getD_app_r (by omega), Nat.add_sub_cancel_left]
    · obtain ⟨i, rfl⟩ : ∃ i, j = r.1.length + i := ⟨j - r.1.length, by omega⟩
      rw [sgn_hi]
      have e := sgn_hi (s ++ r.1, r.2) i
      have e2 : (s ++ r.1).length + i = s.length + (r.1.length + i) := by rw [List.length_append, Nat.add_assoc]
      rw [e2] at e
      exact e
end Lr

namespace Lr
/-! rows of figures and fractions: the plain law -/
/-- one number's rests and the figures that it gives -/
def Sts (b : Int) (d : Nat → Int) (B : Int) (A : Nat → Int) : Prop := ∀ p, A (p + 1) = A p * b - d p * B
theorem pow_add_fix {b x : Int} {X : Nat → Int} (h : ∀ p, X (p + 1) = b * X p) (p : Nat) : ∀ k : Nat, X (p + k) = b ^ k * X p
  | 0 => by simp
  | k + 1 => by
    rw [← Nat.add_assoc, h, pow_add_fix (x := x) h p k, Int.pow_succ, ← Int.mul_assoc, Int.mul_comm b]
theorem st_same {b B B' : Int} {d A A' : Nat → Int} {a a' n n' : Nat} (hb : 2 ≤ b) (h : Sts b d B A) (h' : Sts b d B' A') (g : Per A a n) (g' : Per A' a' n') (hn : 0 < n) (hn' : 0 < n') : A 0 * B' = A' 0 * B := by
  have hX : ∀ p, (A (p + 1) * B' - A' (p + 1) * B) = b * (A p * B' - A' p * B) := fun p => by
    rw [h p, h' p, Int.sub_mul, Int.sub_mul, Int.mul_sub]
    have e1 : d p * B * B' = d p * B' * B := by rw [Int.mul_assoc, Int.mul_comm B, ← Int.mul_assoc]
    have e2 : A p * b * B' = b * (A p * B') := by rw [Int.mul_comm (A p) b, Int.mul_assoc]
    have e3 : A' p * b * B = b * (A' p * B) := by rw [Int.mul_comm (A' p) b, Int.mul_assoc]
    omega
  have hk := pow_add_fix (x := 0) (X := fun p => A p * B' - A' p * B) hX
  have hper : A (max a a' + n * n') * B' - A' (max a a' + n * n') * B = A (max a a') * B' - A' (max a a') * B := by
    have e1 := g.mul n' (max a a') (Nat.le_max_left ..)
    have e2 := g'.mul n (max a a') (Nat.le_max_right ..)
    rw [e1]
    rw [Nat.mul_comm n' n] at e2
    rw [e2]
  have h1 := hk (max a a') (n * n')
  have h1 : A (max a a' + n * n') * B' - A' (max a a' + n * n') * B = b ^ (n * n') * (A (max a a') * B' - A' (max a a') * B) := h1
  rw [hper] at h1
  have hz : A (max a a') * B' - A' (max a a') * B = 0 := by
    generalize A (max a a') * B' - A' (max a a') * B = x at h1
    have hp : 1 < b ^ (n * n') := by
      have : 0 < n * n' := Nat.mul_pos hn hn'
      obtain ⟨m, hm⟩ : ∃ m, n * n' = m + 1 := ⟨n * n' - 1, by omega⟩
      rw [hm, Int.pow_succ]
      have h0 : 0 < b ^ m := Int.pow_pos (by omega)
      have : 1 * b ≤ b ^ m * b := Int.mul_le_mul_of_nonneg_right (by omega) (by omega)
      omega
    have h2 : (b ^ (n * n') - 1) * x = 0 := by rw [Int.sub_mul, ← h1]; omega
    rcases Int.mul_eq_zero.mp h2 with e | e
    · omega
    · exact e
  have h0 := hk 0 (max a a')
  have h0 : A (0 + max a a') * B' - A' (0 + max a a') * B = b ^ (max a a') * (A 0 * B' - A' 0 * B) := h0
  rw [Nat.zero_add, hz] at h0
  rcases Int.mul_eq_zero.mp h0.symm with e | e
  · have : 0 < b ^ (max a a') := Int.pow_pos (by omega)
    omega
  · omega
/-- lowest terms are one -/
theorem low_one {a b a' b' : Nat} (hb : 0 < b) (hb' : 0 < b') (h : a * b' = a' * b) : a / Nat.gcd a b = a' / Nat.gcd a' b' ∧ b / Nat.gcd a b = b' / Nat.gcd a' b' := by
  have e1 : Nat.gcd a b * b' = Nat.gcd a' b' * b := by
    rw [← Nat.gcd_mul_right, ← Nat.gcd_mul_right, h, Nat.mul_comm b b']
  have g0 : 0 < Nat.gcd a b := Nat.gcd_pos_of_pos_right _ hb
  have g0' : 0 < Nat.gcd a' b' := Nat.gcd_pos_of_pos_right _ hb'
  obtain ⟨x, hx⟩ := Nat.gcd_dvd_left a b
  obtain ⟨y, hy⟩ := Nat.gcd_dvd_right a b
  obtain ⟨x', hx'⟩ := Nat.gcd_dvd_left a' b'
  obtain ⟨y', hy'⟩ := Nat.gcd_dvd_right a' b'
  generalize Nat.gcd a b = g at *
  generalize Nat.gcd a' b' = g' at *
  subst hx
  subst hy
  subst hx'
  subst hy'
  rw [Nat.mul_div_cancel_left _ g0, Nat.mul_div_cancel_left _ g0, Nat.mul_div_cancel_left _ g0', Nat.mul_div_cancel_left _ g0']
  have p : 0 < g * g' := Nat.mul_pos g0 g0'
  have ey : y = y' := by
    have : g * g' * y' = g * g' * y := by
      rw [Nat.mul_assoc, e1, ← Nat.mul_assoc, Nat.mul_comm g' g]
    exact (Nat.eq_of_mul_eq_mul_left p this).symm
  subst ey
  have yp : 0 < y := by
    rcases Nat.eq_zero_or_pos y with e | e
    · subst e
      simp at hb
    · exact e
  refine ⟨?_, rfl⟩
  have : (g * g' * y) * x = (g * g' * y) * x' := by
    have e2 : g * x * (g' * y) = g * g' * y * x := by
      simp only [Nat.mul_comm, Nat.mul_left_comm]
    have e3 : g' * x' * (g * y) = g * g' * y * x' := by
      simp only [Nat.mul_comm, Nat.mul_left_comm]
    rw [← e2, ← e3]
    exact h
  exact Nat.eq_of_mul_eq_mul_left (Nat.mul_pos p yp) this
/-! ### the fraction of a row -/
def numF (b : Int) : Int → List Int → Int
  | a, [] => a
  | a, f :: fs => numF b (a * b + f) fs
theorem numF_add (b : Int) : ∀ (fs : List Int) (a : Int), numF b a fs = a * b ^ fs.length + numF b 0 fs
  | [], a => by simp [numF]
  | f :: fs, a => by
    show numF b (a * b + f) fs = a * b ^ (fs.length + 1) + numF b (0 * b + f) fs
    rw [numF_add b fs (a * b + f), numF_add b fs (0 * b + f), Int.pow_succ, Int.add_mul, Int.zero_mul, Int.zero_add, Int.mul_assoc, Int.mul_comm b, Int.add_assoc]
theorem numF_cons (b f : Int) (fs : List Int) : numF b 0 (f :: fs) = f * b ^ fs.length + numF b 0 fs := by
  show numF b (0 * b + f) fs = _
  rw [Int.zero_mul, Int.zero_add, numF_add]
def Figs (b : Int) (fs : List Int) : Prop := ∀ f ∈ fs, 0 ≤ f ∧ f < b
theorem num_bd {b : Int} (hb : 2 ≤ b) : ∀ {fs : List Int}, Figs b fs → 0 ≤ numF b 0 fs ∧ numF b 0 fs + 1 ≤ b ^ fs.length
  | [], _ => by simp [numF]
  | f :: fs, h => by
    obtain ⟨h1, h2⟩ := num_bd hb (fs := fs) fun x hx => h x (List.mem_cons_of_mem _ hx)
    obtain ⟨f0, f1⟩ := h f (List.mem_cons_self ..)
    have hp : 0 < b ^ fs.length := Int.pow_pos (by omega)
    rw [numF_cons, List.length_cons, Int.pow_succ]
    have e1 : 0 ≤ f * b ^ fs.length := Int.mul_nonneg f0 (Int.le_of_lt hp)
    have e2 : (f + 1) * b ^ fs.length ≤ b * b ^ fs.length := Int.mul_le_mul_of_nonneg_right (by omega) (Int.le_of_lt hp)
    rw [Int.add_mul, Int.one_mul, Int.mul_comm b] at e2
    omega
def aboveF (b : Int) (r : Row) : Int := numF b 0 r.1 * (b ^ r.2.length - 1) + numF b 0 r.2
def belowF (b : Int) (r : Row) : Int := b ^ r.1.length * (b ^ r.2.length - 1)
def byF (b : Int) (r : Row) : Nat := Nat.gcd (aboveF b r).toNat (belowF b r).toNat
def frA (b : Int) (r : Row) : Int := aboveF b r / byF b r
def frB (b : Int) (r : Row) : Int := belowF b r / byF b r
structure FigR (b : Int) (r : Row) : Prop where
  b2 : 2 ≤ b
  ne : r.2 ≠ []
  l : Figs b r.1
  c : Figs b r.2
theorem ar_pos {b : Int} {r : Row} (h : FigR b r) : 0 < b ^ r.2.length - 1 := by
  have hc : 0 < r.2.length := List.length_pos_iff.mpr h.ne
  have := h.b2
  obtain ⟨m, hm⟩ : ∃ m, r.2.length = m + 1 := ⟨r.2.length - 1, by omega⟩
  rw [hm, Int.pow_succ]
  have h0 : 0 < b ^ m := Int.pow_pos (by omega)
  have : 1 * b ≤ b ^ m * b := Int.mul_le_mul_of_nonneg_right (by omega) (by omega)
  omega
theorem below_pos {b : Int} {r : Row} (h : FigR b r) : 0 < belowF b r :=
  Int.mul_pos (Int.pow_pos (by have := h.b2; omega)) (ar_pos h)
theorem above_bd {b : Int} {r : Row} (h : FigR b r) : 0 ≤ aboveF b r ∧ aboveF b r ≤ belowF b r := by
  have ar := ar_pos h
  obtain ⟨l1, l2⟩ := num_bd h.b2 h.l
  obtain ⟨c1, c2⟩ := num_bd h.b2 h.c
  unfold aboveF belowF
  have e1 : 0 ≤ numF b 0 r.1 * (b ^ r.2.length - 1) := Int.mul_nonneg l1 (Int.le_of_lt ar)
  have e2 : (numF b 0 r.1 + 1) * (b ^ r.2.length - 1) ≤ b ^ r.1.length * (b ^ r.2.length - 1) := Int.mul_le_mul_of_nonneg_right l2 (Int.le_of_lt ar)
  rw [Int.add_mul, Int.one_mul] at e2
  omega
theorem by_pos {b : Int} {r : Row} (h : FigR b r) : 0 < byF b r := Nat.gcd_pos_of_pos_right _ (by have := below_pos h; omega)
theorem by_dvd {b : Int} {r : Row} (h : FigR b r) : frA b r * byF b r = aboveF b r ∧ frB b r * byF b r = belowF b r := by
  have g := by_pos h
  obtain ⟨a0, a1⟩ := above_bd h
  have b0 := below_pos h
  have d1 : (byF b r : Int) ∣ aboveF b r := by
    have := Int.natCast_dvd_natCast.mpr (Nat.gcd_dvd_left (aboveF b r).toNat (belowF b r).toNat)
    rw [Int.toNat_of_nonneg a0] at this
    exact this
  have d2 : (byF b r : Int) ∣ belowF b r := by
    have := Int.natCast_dvd_natCast.mpr (Nat.gcd_dvd_right (aboveF b r).toNat (belowF b r).toNat)
    rw [Int.toNat_of_nonneg (Int.le_of_lt b0)] at this
    exact this
  exact ⟨Int.ediv_mul_cancel d1, Int.ediv_mul_cancel d2⟩
theorem frB_pos {b : Int} {r : Row} (h : FigR b r) : 1 ≤ frB b r := by
  have g := by_pos h
  have b0 := below_pos h
  rw [← (by_dvd h).2] at b0
  have : 0 < frB b r := Int.pos_of_mul_pos_left b0 (by omega)
  omega
theorem frA_bd {b : Int} {r : Row} (h : FigR b r) : 0 ≤ frA b r ∧ frA b r ≤ frB b r := by
  obtain ⟨a0, a1⟩ := above_bd h
  exact ⟨Int.ediv_nonneg a0 (by omega), Int.ediv_le_ediv (by have := by_pos h; omega) a1⟩
/-- the states -/
theorem fr_cross {b : Int} {r : Row} (h : FigR b r) : frA b r * belowF b r = frB b r * aboveF b r := by
  obtain ⟨e1, e2⟩ := by_dvd h
  rw [← e1, ← e2, ← Int.mul_assoc, ← Int.mul_assoc, Int.mul_comm (frA b r) (frB b r)]
/-- what the fraction lacks behind so many figures -/
def lackF (b B : Int) : Int → List Int → Int
  | a, [] => a
  | a, f :: fs => lackF b B (a * b - f * B) fs
theorem lackF_app (b B : Int) : ∀ (l m : List Int) (a : Int), lackF b B a (l ++ m) = lackF b B (lackF b B a l) m
  | [], _, _ => rfl
  | f :: l, m, a => lackF_app b B l m _
/-- all of its rests lie within -/
def lackOk (b B : Int) : Int → List Int → Bool
  | _, [] => true
  | a, f :: fs => (decide (0 ≤ a * b - f * B) && decide (a * b - f * B ≤ B)) && lackOk b B (a * b - f * B) fs
theorem lead_lack {b B N : Int} (hb : 2 ≤ b) (hB : 0 < B) (hN : 0 < N) {part : Int} (hp : 0 ≤ part) (hp2 : part ≤ N) : ∀ {fs : List Int} {a : Int}, Figs b fs → a * (b ^ fs.length * N) = B * (numF b 0 fs * N + part) →
    lackOk b B a fs = true ∧ lackF b B a fs * N = B * part
  | [], a, _, h => by
    refine ⟨rfl, ?_⟩
    show a * N = B * part
    simpa [numF] using h
  | f :: fs, a, hf, h => by
    have hfs : Figs b fs := fun x hx => hf x (List.mem_cons_of_mem _ hx)
    have hpw : 0 < b ^ fs.length := Int.pow_pos (by omega)
    have key : (a * b - f * B) * (b ^ fs.length * N) = B * (numF b 0 fs * N + part) := by
      rw [numF_cons, List.length_cons, Int.pow_succ] at h
      rw [Int.sub_mul]
      have e1 : a * b * (b ^ fs.length * N) = a * (b ^ fs.length * b * N) := by
        rw [Int.mul_assoc, ← Int.mul_assoc b, Int.mul_comm b (b ^ fs.length)]
      have e2 : B * ((f * b ^ fs.length + numF b 0 fs) * N + part) = f * B * (b ^ fs.length * N) + B * (numF b 0 fs * N + part) := by
        rw [Int.add_mul, Int.add_assoc, Int.mul_add B (f * b ^ fs.length * N), Int.mul_assoc f (b ^ fs.length), ← Int.mul_assoc B f, Int.mul_comm B f]
      rw [e1, h, e2]
      omega
    obtain ⟨n1, n2⟩ := num_bd hb hfs
    have hX : 0 < b ^ fs.length * N := Int.mul_pos hpw hN
    have y0 : 0 ≤ numF b 0 fs * N + part := by
      have := Int.mul_nonneg n1 (Int.le_of_lt hN)
      omega
    have y1 : numF b 0 fs * N + part ≤ b ^ fs.length * N := by
      have := Int.mul_le_mul_of_nonneg_right n2 (Int.le_of_lt hN)
      rw [Int.add_mul, Int.one_mul] at this
      omega
    have z0 : 0 ≤ a * b - f * B := by
      refine Int.nonneg_of_mul_nonneg_left (b := b ^ fs.length * N) ?_ hX
      rw [key]
      exact Int.mul_nonneg (Int.le_of_lt hB) y0
    have z1 : a * b - f * B ≤ B := by
      refine Int.le_of_mul_le_mul_right (a := b ^ fs.length * N) ?_ hX
      rw [key]
      exact Int.mul_le_mul_of_nonneg_left y1 (Int.le_of_lt hB)
    obtain ⟨i1, i2⟩ := lead_lack hb hB hN hp hp2 (a := a * b - f * B) hfs key
    refine ⟨?_, i2⟩
    show ((decide (0 ≤ a * b - f * B) && decide (a * b - f * B ≤ B)) && lackOk b B (a * b - f * B) fs) = true
    rw [decide_eq_true z0, decide_eq_true z1, i1]
    rfl
theorem round_lack {b B k : Int} (hb : 2 ≤ b) (hB : 0 < B) (hk : 0 ≤ k) (hk2 : k ≤ B) : ∀ {fs : List Int} {a : Int}, Figs b fs → a * b ^ fs.length = k + B * numF b 0 fs → lackOk b B a fs = true ∧ lackF b B a fs = k
  | [], a, _, h => by
    refine ⟨rfl, ?_⟩
    show a = k
    simpa [numF] using h
  | f :: fs, a, hf, h => by
    have hfs : Figs b fs := fun x hx => hf x (List.mem_cons_of_mem _ hx)
    have hpw : 0 < b ^ fs.length := Int.pow_pos (by omega)
    have key : (a * b - f * B) * b ^ fs.length = k + B * numF b 0 fs := by
      rw [numF_cons, List.length_cons, Int.pow_succ] at h
      rw [Int.sub_mul]
      have e1 : a * b * b ^ fs.length = a * (b ^ fs.length * b) := by
        rw [Int.mul_assoc, Int.mul_comm b (b ^ fs.length)]
      have e2 : B * (f * b ^ fs.length + numF b 0 fs) = f * B * b ^ fs.length + B * numF b 0 fs := by
        rw [Int.mul_add, ← Int.mul_assoc, Int.mul_comm B f]
      rw [e1, h, e2]
      omega
    obtain ⟨n1, n2⟩ := num_bd hb hfs
    have y0 : 0 ≤ B * numF b 0 fs := Int.mul_nonneg (Int.le_of_lt hB) n1
    have y1 : B * numF b 0 fs + B ≤ B * b ^ fs.length := by
      have := Int.mul_le_mul_of_nonneg_left n2 (Int.le_of_lt hB)
      rw [Int.mul_add, Int.mul_one] at this
      exact this
    have z0 : 0 ≤ a * b - f * B := by
      refine Int.nonneg_of_mul_nonneg_left (b := b ^ fs.length) ?_ hpw
      rw [key]
      omega
    have z1 : a * b - f * B ≤ B := by
      refine Int.le_of_mul_le_mul_right (a := b ^ fs.length) ?_ hpw
      rw [key]
      omega
    obtain ⟨i1, i2⟩ := round_lack hb hB hk hk2 (a := a * b - f * B) hfs key
    refine ⟨?_, i2⟩
    show ((decide (0 ≤ a * b - f * B) && decide (a * b - f * B ≤ B)) && lackOk b B (a * b - f * B) fs) = true
    rw [decide_eq_true z0, decide_eq_true z1, i1]
    rfl
theorem lackOk_bd {b B : Int} : ∀ {fs : List Int} {a : Int}, 0 ≤ a → a ≤ B → lackOk b B a fs = true → 0 ≤ lackF b B a fs ∧ lackF b B a fs ≤ B
  | [], a, h1, h2, _ => ⟨h1, h2⟩
  | f :: fs, a, h1, h2, h => by
    have h : ((decide (0 ≤ a * b - f * B) && decide (a * b - f * B ≤ B)) && lackOk b B (a * b - f * B) fs) = true := h
    rw [Bool.and_eq_true, Bool.and_eq_true, decide_eq_true_iff, decide_eq_true_iff] at h
    exact lackOk_bd (fs := fs) (a := a * b - f * B) h.1.1 h.1.2 h.2
/-- what the law looks at -/
theorem frac_lack {b : Int} {r : Row} (h : FigR b r) : lackOk b (frB b r) (frA b r) r.1 = true ∧ lackOk b (frB b r) (lackF b (frB b r) (frA b r) r.1) r.2 = true ∧
    lackF b (frB b r) (lackF b (frB b r) (frA b r) r.1) r.2 = lackF b (frB b r) (frA b r) r.1 := by
  have hB : 0 < frB b r := by have := frB_pos h; omega
  have ar := ar_pos h
  obtain ⟨c1, c2⟩ := num_bd h.b2 h.c
  obtain ⟨i1, i2⟩ := lead_lack h.b2 hB ar c1 (by omega) h.l (fr_cross h)
  obtain ⟨z0, z1⟩ := lackOk_bd (frA_bd h).1 (frA_bd h).2 i1
  generalize lackF b (frB b r) (frA b r) r.1 = t at i2 z0 z1
  have e : t * b ^ r.2.length = t + frB b r * numF b 0 r.2 := by
    rw [← i2, Int.mul_sub, Int.mul_one]
    omega
  obtain ⟨j1, j2⟩ := round_lack h.b2 hB z0 z1 h.c e
  exact ⟨i1, j1, j2⟩
/-- as a run of states -/
def runF (b B : Int) (d : Nat → Int) (a : Int) : Nat → Int
  | 0 => a
  | p + 1 => runF b B d a p * b - d p * B
theorem run_st (b B : Int) (d : Nat → Int) (a : Int) : Sts b d B (runF b B d a) := fun _ => rfl
theorem run_lack (b B : Int) (d : Nat → Int) (a : Int) : ∀ (fs : List Int) (p : Nat), (∀ i, i < fs.length → fs.getD i 0 = d (p + i)) → runF b B d a (p + fs.length) = lackF b B (runF b B d a p) fs
  | [], p, _ => rfl
  | f :: fs, p, h => by
    have h0 : f = d p := h 0 (by show 0 < fs.length + 1; omega)
    have hs := run_lack b B d a fs (p + 1) fun i hi => by
      have := h (i + 1) (by show i + 1 < fs.length + 1; omega)
      rw [show p + 1 + i = p + (i + 1) by omega]
      exact this
    show runF b B d a (p + (fs.length + 1)) = lackF b B (runF b B d a p * b - f * B) fs
    rw [show p + (fs.length + 1) = p + 1 + fs.length by omega, hs, h0]
    rfl
theorem run_per {b : Int} {r : Row} (h : FigR b r) : Per (runF b (frB b r) (sgn r) (frA b r)) r.1.length r.2.length := by
  have hc : 0 < r.2.length := List.length_pos_iff.mpr h.ne
  obtain ⟨i1, j1, j2⟩ := frac_lack h
  have e1 := run_lack b (frB b r) (sgn r) (frA b r) r.1 0 fun i hi => by
    rw [Nat.zero_add, sgn_lo hi]
  have e2 := run_lack b (frB b r) (sgn r) (frA b r) r.2 r.1.length fun i hi => by
    rw [sgn_hi, cyc_lt hi]
  rw [Nat.zero_add] at e1
  have base : runF b (frB b r) (sgn r) (frA b r) (r.1.length + r.2.length) = runF b (frB b r) (sgn r) (frA b r) r.1.length := by
    rw [e2, e1]
    exact j2
  intro p hp
  obtain ⟨i, rfl⟩ : ∃ i, p = r.1.length + i := ⟨p - r.1.length, by omega⟩
  clear hp
  induction i with
  | zero => exact base
  | succ i ih =>
    have e3 := sgn_per r (r.1.length + i) (by omega)
    rw [show r.1.length + (i + 1) + r.2.length = r.1.length + i + r.2.length + 1 by omega, show r.1.length + (i + 1) = r.1.length + i + 1 by omega, run_st, run_st, ih, e3]
theorem low_int {a b a' b' : Int} (ha : 0 ≤ a) (hb : 0 < b) (ha' : 0 ≤ a') (hb' : 0 < b') (h : a * b' = a' * b) (g : Nat.gcd a.toNat b.toNat = 1) : a = a' / (Nat.gcd a'.toNat b'.toNat : Nat) ∧ b = b' / (Nat.gcd a'.toNat b'.toNat : Nat) := by
  obtain ⟨x, rfl⟩ := Int.eq_ofNat_of_zero_le ha
  obtain ⟨y, rfl⟩ := Int.eq_ofNat_of_zero_le (Int.le_of_lt hb)
  obtain ⟨x', rfl⟩ := Int.eq_ofNat_of_zero_le ha'
  obtain ⟨y', rfl⟩ := Int.eq_ofNat_of_zero_le (Int.le_of_lt hb')
  have h2 : x * y' = x' * y := by exact_mod_cast h
  obtain ⟨e1, e2⟩ := low_one (by omega) (by omega) h2
  have g : Nat.gcd x y = 1 := g
  rw [g, Nat.div_one] at e1
  rw [g, Nat.div_one] at e2
  refine ⟨?_, ?_⟩
  · show (x : Int) = (x' : Int) / ((Nat.gcd x' y' : Nat) : Int)
    rw [← Int.natCast_ediv, ← e1]
  · show (y : Int) = (y' : Int) / ((Nat.gcd x' y' : Nat) : Int)
    rw [← Int.natCast_ediv, ← e2]
theorem frac_low {b : Int} {r : Row} (h : FigR b r) : Nat.gcd (frA b r).toNat (frB b r).toNat = 1 := by
  have g := by_pos h
  obtain ⟨a0, a1⟩ := above_bd h
  have b0 := below_pos h
  unfold frA frB byF
  generalize aboveF b r = a at *
  generalize belowF b r = c at *
  obtain ⟨x, rfl⟩ := Int.eq_ofNat_of_zero_le a0
  obtain ⟨y, rfl⟩ := Int.eq_ofNat_of_zero_le (Int.le_of_lt b0)
  show Nat.gcd ((x : Int) / ((Nat.gcd x y : Nat) : Int)).toNat ((y : Int) / ((Nat.gcd x y : Nat) : Int)).toNat = 1
  rw [← Int.natCast_ediv, ← Int.natCast_ediv, Int.toNat_natCast, Int.toNat_natCast]
  exact Nat.gcd_div_gcd_div_gcd_of_pos_right (by omega)
/-- the fraction by any run of states that comes round -/
theorem frac_of {b : Int} {r : Row} (h : FigR b r) {A : Nat → Int} {B : Int} {a n : Nat} (hs : Sts b (sgn r) B A) (hp : Per A a n) (hn : 0 < n) (hA : 0 ≤ A 0) (hB : 0 < B) :
    frA b r = A 0 / (Nat.gcd (A 0).toNat B.toNat : Nat) ∧ frB b r = B / (Nat.gcd (A 0).toNat B.toNat : Nat) := by
  have hc : 0 < r.2.length := List.length_pos_iff.mpr h.ne
  have e := st_same h.b2 (run_st b (frB b r) (sgn r) (frA b r)) hs (run_per h) hp hc hn
  exact low_int (frA_bd h).1 (by have := frB_pos h; omega) hA hB e (frac_low h)
theorem frac_same {b : Int} {r s : Row} (h : FigR b r) (g : FigR b s) (e : ∀ p, sgn r p = sgn s p) : frA b r = frA b s ∧ frB b r = frB b s := by
  have hc : 0 < s.2.length := List.length_pos_iff.mpr g.ne
  have ef : sgn s = sgn r := funext fun p => (e p).symm
  have hs := run_st b (frB b s) (sgn s) (frA b s)
  have hp := run_per g
  rw [ef] at hs hp
  obtain ⟨e1, e2⟩ := frac_of h hs hp hc (frA_bd g).1 (by have := frB_pos g; omega)
  have one : Nat.gcd (runF b (frB b s) (sgn r) (frA b s) 0).toNat (frB b s).toNat = 1 := frac_low g
  rw [one] at e1 e2
  refine ⟨e1.trans ?_, e2.trans ?_⟩
  · show frA b s / ((1 : Nat) : Int) = _
    exact Int.ediv_one _
  · exact Int.ediv_one _
end Lr

namespace Lr
/-! a fraction's rests and figures -/
def restF (a d b : Int) : Nat → Int
  | 0 => a
  | p + 1 => restF a d b p * b % d
def digF (a d b : Int) (p : Nat) : Int := restF a d b p * b / d
section
variable {a d b : Int}
theorem rest_bd (h0 : 0 ≤ a) (h1 : a < d) : ∀ p, 0 ≤ restF a d b p ∧ restF a d b p < d
  | 0 => ⟨h0, h1⟩
  | p + 1 => ⟨Int.emod_nonneg _ (by omega), Int.emod_lt_of_pos _ (by omega)⟩
theorem rest_st : Sts b (digF a d b) d (restF a d b) := fun p => by
  show restF a d b p * b % d = restF a d b p * b - restF a d b p * b / d * d
  rw [Int.emod_def, Int.mul_comm d]
theorem dig_bd (hb : 2 ≤ b) (h0 : 0 ≤ a) (h1 : a < d) (p : Nat) : 0 ≤ digF a d b p ∧ digF a d b p < b := by
  obtain ⟨r0, r1⟩ := rest_bd (b := b) h0 h1 p
  refine ⟨Int.ediv_nonneg (Int.mul_nonneg r0 (by omega)) (by omega), Int.ediv_lt_of_lt_mul (by omega) ?_⟩
  rw [Int.mul_comm b]
  exact Int.mul_lt_mul_of_pos_right r1 (by omega)
theorem rest_per {i n : Nat} (h : restF a d b (i + n) = restF a d b i) : Per (restF a d b) i n := fun p hp => by
  obtain ⟨k, rfl⟩ : ∃ k, p = i + k := ⟨p - i, by omega⟩
  clear hp
  induction k with
  | zero => exact h
  | succ k ih =>
    rw [show i + (k + 1) + n = i + k + n + 1 by omega, show i + (k + 1) = i + k + 1 by omega]
    show restF a d b (i + k + n) * b % d = restF a d b (i + k) * b % d
    rw [ih]
/-- met before -/
def metB (a d b : Int) (k : Nat) : Bool := (List.range k).any fun j => decide (restF a d b j = restF a d b k)
theorem met_iff {k : Nat} : metB a d b k = true ↔ ∃ j, j < k ∧ restF a d b j = restF a d b k := by
  unfold metB
  rw [List.any_eq_true]
  constructor
  · intro ⟨j, h1, h2⟩
    exact ⟨j, List.mem_range.mp h1, of_decide_eq_true h2⟩
  · intro ⟨j, h1, h2⟩
    exact ⟨j, List.mem_range.mpr h1, decide_eq_true h2⟩
theorem rests_new {k : Nat} (h : ∀ e, e < k → metB a d b e = false) : ∀ i j, i < k → j < k → restF a d b i = restF a d b j → i = j := by
  have key : ∀ i j, i < j → j < k → restF a d b i = restF a d b j → False := fun i j h1 h2 h3 => by
    have := met_iff.mpr ⟨i, h1, h3⟩
    rw [h j h2] at this
    cases this
  intro i j hi hj e
  rcases Nat.lt_trichotomy i j with x | x | x
  · exact (key i j x hj e).elim
  · exact x
  · exact (key j i x hi e.symm).elim
theorem rests_few (h0 : 0 ≤ a) (h1 : a < d) {k : Nat} (h : ∀ e, e < k → metB a d b e = false) : (k : Int) ≤ d := by
  have nd : ((List.range k).map fun j => (restF a d b j).toNat).Nodup := by
    unfold List.Nodup
    rw [List.pairwise_iff_getElem]
    intro i j hi hj hij e
    rw [List.length_map, List.length_range] at hi hj
    rw [List.getElem_map, List.getElem_map, List.getElem_range, List.getElem_range] at e
    have := rests_new h i j (by omega) hj (by
      have r1 := (rest_bd (b := b) h0 h1 i).1
      have r2 := (rest_bd (b := b) h0 h1 j).1
      have e : (restF a d b i).toNat = (restF a d b j).toNat := e
      omega)
    omega
  have sub : ((List.range k).map fun j => (restF a d b j).toNat) ⊆ List.range d.toNat := by
    intro x hx
    obtain ⟨j, _, rfl⟩ := List.mem_map.mp hx
    have := rest_bd (b := b) h0 h1 j
    exact List.mem_range.mpr (by omega)
  have := nd.length_le_of_subset sub
  rw [List.length_map, List.length_range, List.length_range] at this
  omega
/-- the row of a fraction's figures -/
def Fig (a d b : Int) (r : Row) : Prop := Told r ∧ ∀ p, sgn r p = digF a d b p
def digL (a d b : Int) (k : Nat) : List Int := (List.range k).map (digF a d b)
theorem digL_len (k : Nat) : (digL a d b k).length = k := by
  unfold digL
  rw [List.length_map, List.length_range]
theorem digL_get {k i : Nat} (h : i < k) : (digL a d b k).getD i 0 = digF a d b i := by
  unfold digL
  rw [List.getD_eq_getElem?_getD, List.getElem?_map, List.getElem?_range h]
  rfl
theorem fig_sgn {l c : List Int} (hc : c ≠ []) (hr : restF a d b (l.length + c.length) = restF a d b l.length) (h : ∀ i, i < l.length + c.length → (l ++ c).getD i 0 = digF a d b i) (p : Nat) : sgn (l, c) p = digF a d b p := by
  have hp : 0 < c.length := List.length_pos_iff.mpr hc
  have per := rest_per hr
  induction p using Nat.strongRecOn with
  | ind p ih =>
    by_cases h1 : p < l.length
    · rw [sgn_lo (show p < (l, c).1.length from h1), ← h p (by omega)]
      exact (getD_app_l h1).symm
    · by_cases h2 : p < l.length + c.length
      · obtain ⟨i, rfl⟩ : ∃ i, p = l.length + i := ⟨p - l.length, by omega⟩
        have e : sgn (l, c) (l.length + i) = cyc c i := sgn_hi (l, c) i
        rw [e, cyc_lt (by omega), ← h _ h2, getD_app_r (by omega), Nat.add_sub_cancel_left]
      · obtain ⟨q, rfl⟩ : ∃ q, p = q + c.length := ⟨p - c.length, by omega⟩
        have e1 : sgn (l, c) (q + c.length) = sgn (l, c) q := sgn_per (l, c) q (by show l.length ≤ q; omega)
        have e2 := per q (by omega)
        rw [e1, ih q (by omega)]
        unfold digF
        rw [e2]
theorem fig_at {k j : Nat} (hj : j < k) (h : restF a d b j = restF a d b k) : Fig a d b (leastF ((digL a d b k).take j, (digL a d b k).drop j)) := by
  have hl : ((digL a d b k).take j).length = j := by rw [List.length_take, digL_len]; omega
  have hd : ((digL a d b k).drop j).length = k - j := by rw [List.length_drop, digL_len]
  have ne : (digL a d b k).drop j ≠ [] := fun z => by
    rw [z] at hd
    have hd : 0 = k - j := hd
    omega
  refine ⟨least_told (r := (_, _)) ne, fun p => ?_⟩
  rw [least_sgn (r := (_, _)) ne]
  refine fig_sgn ne ?_ (fun i hi => ?_) p
  · rw [hl, hd, show j + (k - j) = k by omega, h]
  · rw [hl, hd] at hi
    rw [List.take_append_drop]
    exact digL_get (by omega)
theorem least_lens {r : Row} : (leastF r).1.length ≤ r.1.length ∧ (leastF r).2.length ≤ r.2.length := by
  refine ⟨?_, ?_⟩
  · show (r.1.take _).length ≤ _
    rw [List.length_take]
    omega
  · show (rot (short r.2) _).length ≤ _
    rw [rot_len]
    exact short_le _
theorem fig_ex (h0 : 0 ≤ a) (h1 : a < d) : ∃ r, Fig a d b r ∧ ((r.1.length + r.2.length : Nat) : Int) ≤ d := by
  have ex : ∃ k, metB a d b k = true ∧ (k : Int) ≤ d ∧ ∀ e, e < k → metB a d b e = false := by
    cases hf : (List.range (d.toNat + 1)).find? (metB a d b) with
    | none =>
      rw [List.find?_eq_none] at hf
      have := rests_few (b := b) h0 h1 (k := d.toNat + 1) fun e he => by
        have := hf e (List.mem_range.mpr he)
        simpa using this
      omega
    | some k =>
      rw [List.find?_range_eq_some] at hf
      obtain ⟨f1, f2, f3⟩ := hf
      refine ⟨k, f1, by have := List.mem_range.mp f2; omega, fun e he => ?_⟩
      have := f3 e he
      simpa using this
  obtain ⟨k, k1, k2, _⟩ := ex
  obtain ⟨j, j1, j2⟩ := met_iff.mp k1
  refine ⟨_, fig_at j1 j2, ?_⟩
  obtain ⟨x1, x2⟩ := least_lens (r := ((digL a d b k).take j, (digL a d b k).drop j))
  have x1 : (leastF ((digL a d b k).take j, (digL a d b k).drop j)).1.length ≤ ((digL a d b k).take j).length := x1
  have x2 : (leastF ((digL a d b k).take j, (digL a d b k).drop j)).2.length ≤ ((digL a d b k).drop j).length := x2
  rw [List.length_take, digL_len] at x1
  rw [List.length_drop, digL_len] at x2
  omega
theorem fig_one {r s : Row} (h : Fig a d b r) (g : Fig a d b s) : r = s := told_unique h.1 g.1 fun p => by rw [h.2, g.2]
/-- the rests come round with the figures -/
theorem fig_round {r : Row} (hb : 2 ≤ b) (h0 : 0 ≤ a) (h1 : a < d) (h : Fig a d b r) : restF a d b (r.1.length + r.2.length) = restF a d b r.1.length := by
  have hc : 0 < r.2.length := List.length_pos_iff.mpr h.1.1
  have ex : ∃ i n, 0 < n ∧ restF a d b (i + n) = restF a d b i := by
    obtain ⟨i, j, hij, e⟩ : ∃ i j, i < j ∧ restF a d b i = restF a d b j := by
      cases hf : (List.range (d.toNat + 1)).find? (metB a d b) with
      | none =>
        rw [List.find?_eq_none] at hf
        have := rests_few (b := b) h0 h1 (k := d.toNat + 1) fun e he => by
          have := hf e (List.mem_range.mpr he)
          simpa using this
        omega
      | some k =>
        rw [List.find?_range_eq_some] at hf
        obtain ⟨j, j1, j2⟩ := met_iff.mp hf.1
        exact ⟨j, k, j1, j2⟩
    exact ⟨i, j - i, by omega, by rw [show i + (j - i) = j by omega, e]⟩
  obtain ⟨i, n, hn, e⟩ := ex
  have per := rest_per e
  have sh : ∀ t, Per (fun p => restF a d b (t + p)) i n := fun t p hp => by
    show restF a d b (t + (p + n)) = _
    rw [← Nat.add_assoc]
    exact per (t + p) (by omega)
  have st : ∀ t, Sts b (fun p => digF a d b (t + p)) d (fun p => restF a d b (t + p)) := fun t p => rest_st (a := a) (d := d) (b := b) (t + p)
  have ed : (fun p => digF a d b (r.1.length + r.2.length + p)) = fun p => digF a d b (r.1.length + p) := funext fun p => by
    have := sgn_per r (r.1.length + p) (by omega)
    rw [h.2, h.2] at this
    rw [← this]
    congr 1
    omega
  have s1 := st (r.1.length + r.2.length)
  rw [ed] at s1
  have := st_same hb s1 (st r.1.length) (sh _) (sh _) hn hn
  have : restF a d b (r.1.length + r.2.length) * d = restF a d b r.1.length * d := this
  exact Int.eq_of_mul_eq_mul_right (by omega) this
/-- never the greatest alone for ever -/
theorem fig_nine {r : Row} (hb : 2 ≤ b) (h0 : 0 ≤ a) (h1 : a < d) (h : Fig a d b r) : r.2 ≠ [b - 1] := fun z => by
  have e := fig_round hb h0 h1 h
  rw [z] at e
  have e : restF a d b r.1.length * b % d = restF a d b r.1.length := e
  have hd := h.2 r.1.length
  have hs : sgn r r.1.length = b - 1 := by
    have := sgn_hi r 0
    rw [Nat.add_zero] at this
    rw [this, z]
    rfl
  rw [hs] at hd
  have st := rest_st (a := a) (d := d) (b := b) r.1.length
  have st : restF a d b r.1.length * b % d = restF a d b r.1.length * b - digF a d b r.1.length * d := st
  rw [e, ← hd] at st
  obtain ⟨r0, r1⟩ := rest_bd (b := b) h0 h1 r.1.length
  generalize restF a d b r.1.length = x at *
  have e2 : (b - 1) * (d - x) = 0 := by
    rw [Int.mul_sub, Int.sub_mul b 1 x, Int.one_mul, Int.mul_comm b x]
    omega
  rcases Int.mul_eq_zero.mp e2 with y | y <;> omega
theorem mem_sgn {r : Row} {x : Int} (h : x ∈ r.1 ∨ x ∈ r.2) : ∃ p, x = sgn r p := by
  rcases h with h | h
  · obtain ⟨i, hi, e⟩ := List.mem_iff_getElem.mp h
    exact ⟨i, by rw [sgn_lo hi, getD_lt hi, e]⟩
  · obtain ⟨i, hi, e⟩ := List.mem_iff_getElem.mp h
    exact ⟨r.1.length + i, by rw [sgn_hi, cyc_lt hi, getD_lt hi, e]⟩
theorem figR_of {r : Row} (hb : 2 ≤ b) (ne : r.2 ≠ []) (h : ∀ p, 0 ≤ sgn r p ∧ sgn r p < b) : FigR b r := ⟨hb, ne, fun x hx => by
  obtain ⟨p, rfl⟩ := mem_sgn (.inl hx)
  exact h p, fun x hx => by
  obtain ⟨p, rfl⟩ := mem_sgn (.inr hx)
  exact h p⟩
theorem figR_sgn {r : Row} (h : FigR b r) (p : Nat) : 0 ≤ sgn r p ∧ sgn r p < b := by
  have hc : 0 < r.2.length := List.length_pos_iff.mpr h.ne
  by_cases h1 : p < r.1.length
  · rw [sgn_lo h1, getD_lt h1]
    exact h.l _ (List.getElem_mem h1)
  · obtain ⟨i, rfl⟩ : ∃ i, p = r.1.length + i := ⟨p - r.1.length, by omega⟩
    have hi : i % r.2.length < r.2.length := Nat.mod_lt _ hc
    rw [sgn_hi]
    unfold cyc
    rw [getD_lt hi]
    exact h.c _ (List.getElem_mem hi)
theorem fig_R {r : Row} (hb : 2 ≤ b) (h0 : 0 ≤ a) (h1 : a < d) (h : Fig a d b r) : FigR b r := figR_of hb h.1.1 fun p => by
  rw [h.2]
  exact dig_bd hb h0 h1 p
theorem fig_frac {r : Row} (hb : 2 ≤ b) (h0 : 0 ≤ a) (h1 : a < d) (h : Fig a d b r) : frA b r = a / (Nat.gcd a.toNat d.toNat : Nat) ∧ frB b r = d / (Nat.gcd a.toNat d.toNat : Nat) := by
  have hc : 0 < r.2.length := List.length_pos_iff.mpr h.1.1
  have e : sgn r = digF a d b := funext h.2
  have hs := rest_st (a := a) (d := d) (b := b)
  rw [← e] at hs
  exact frac_of (fig_R hb h0 h1 h) hs (rest_per (fig_round hb h0 h1 h)) hc h0 (by show 0 < d; omega)
end
/-! sizes -/
theorem pow_lt_bits {b : Int} (h0 : 0 ≤ b) (hb : b ≤ 1000) (n : Nat) : (b ^ n).natAbs ≤ 2 ^ (10 * n) := by
  rw [Int.natAbs_pow, Nat.pow_mul]
  exact Nat.pow_le_pow_left (by omega) n
theorem below_bits {b : Int} {r : Row} (h : FigR b r) (hb : b ≤ 1000) : (belowF b r).natAbs < 2 ^ (10 * (r.1.length + r.2.length)) := by
  have ar := ar_pos h
  have b2 := h.b2
  have e : belowF b r < b ^ (r.1.length + r.2.length) := by
    unfold belowF
    rw [Int.pow_add]
    exact Int.mul_lt_mul_of_pos_left (by omega) (Int.pow_pos (by omega))
  have p := below_pos h
  have := pow_lt_bits (by omega) hb (r.1.length + r.2.length)
  have q : 0 < b ^ (r.1.length + r.2.length) := Int.pow_pos (by omega)
  omega
end Lr

/-! rows as texts: the plain law -/
namespace Lr
open PySem
abbrev Tx := List Nat
abbrev S8 (l : Tx) : Str := SX.S l
def dig (c : Nat) : Bool := decide (48 ≤ c) && decide (c ≤ 57)
def digs (w : Tx) : Tx := if w.head? = some 45 then w.drop 1 else w
def okW (w : Tx) : Bool := (decide (1 ≤ (digs w).length) && decide ((digs w).length ≤ 60)) && (digs w).all dig && !(decide ((digs w).head? = some 48) && !decide (w = [48]))
def valW (w : Tx) : Int := if w.head? = some 45 then -((NumText.digitsVal (w.drop 1) : Nat) : Int) else ((NumText.digitsVal w : Nat) : Int)
def rowW (ws vs : List Tx) : Option Row := if ws.all okW && vs.all okW then some (ws.map valW, vs.map valW) else none
def parse (t : Tx) : Option Row :=
  match TL.par [40] [] t with
  | none => none
  | some (ah, ar) => if ar.getLast? = some 41 ∧ (ah = [] ∨ ah.getLast? = some 32) then rowW (TL.spl [32] 0 [] ah).dropLast (TL.spl [32] 0 [] ar.dropLast) else none
theorem pre1 {s c : Nat} {r : Tx} : TL.pre [s] (c :: r) = decide (c = s) := by
  show ([c] == [s]) = _
  by_cases h : c = s
  · rw [h]; simp
  · simp [h]
theorem par1 {s : Nat} : ∀ (t acc : Tx), (s ∉ t → TL.par [s] acc t = none) ∧ (∀ p q, TL.par [s] acc t = some (p, q) → ∃ p', p = acc ++ p' ∧ t = p' ++ s :: q ∧ s ∉ p') ∧ (TL.par [s] acc t = none → s ∉ t)
  | [], acc => ⟨fun _ => rfl, fun p q h => (by cases h), fun _ => (by simp)⟩
  | c :: r, acc => by
    obtain ⟨i1, i2, i3⟩ := par1 r (acc ++ [c])
    by_cases h : c = s
    · subst h
      have e : TL.par [c] acc (c :: r) = some (acc, r) := TL.par_hit (by rw [pre1]; simp)
      refine ⟨fun hn => absurd (List.mem_cons_self ..) hn, fun p q hq => ?_, fun hn => ?_⟩
      · rw [e] at hq
        cases hq
        exact ⟨[], by simp, rfl, by simp⟩
      · rw [e] at hn
        cases hn
    · have e : TL.par [s] acc (c :: r) = TL.par [s] (acc ++ [c]) r := TL.par_miss (by rw [pre1]; simp [h])
      refine ⟨fun hn => ?_, fun p q hq => ?_, fun hn => ?_⟩
      · rw [e]
        exact i1 fun z => hn (List.mem_cons_of_mem _ z)
      · rw [e] at hq
        obtain ⟨p', h1, h2, h3⟩ := i2 p q hq
        refine ⟨c :: p', by rw [h1]; simp, by rw [h2]; rfl, fun z => ?_⟩
        rcases List.mem_cons.mp z with z | z
        · exact h z.symm
        · exact h3 z
      · rw [e] at hn
        have := i3 hn
        intro z
        rcases List.mem_cons.mp z with z | z
        · exact h z.symm
        · exact this z
theorem par_is {s : Nat} {t p q : Tx} (h : TL.par [s] [] t = some (p, q)) : t = p ++ s :: q ∧ s ∉ p := by
  obtain ⟨p', h1, h2, h3⟩ := (par1 t []).2.1 p q h
  rw [List.nil_append] at h1
  subst h1
  exact ⟨h2, h3⟩
theorem spl_c {s c : Nat} {acc r : Tx} (h : c ≠ s) : TL.spl [s] 0 acc (c :: r) = TL.spl [s] 0 (acc ++ [c]) r := TL.spl_miss (by rw [pre1]; simp [h])
theorem spl_s {s : Nat} {acc r : Tx} : TL.spl [s] 0 acc (s :: r) = acc :: TL.spl [s] 0 [] r := TL.spl_hit (by rw [pre1]; simp)
theorem spl_ne {s : Nat} : ∀ (t acc : Tx), TL.spl [s] 0 acc t ≠ []
  | [], acc => by rw [TL.spl_nil]; simp
  | c :: r, acc => by
    by_cases h : c = s
    · subst h
      rw [spl_s]
      simp
    · rw [spl_c h]
      exact spl_ne r _
/-- a sign of the text, not the cut's own, stands in a part -/
theorem spl_mem {s c : Nat} (hc : c ≠ s) : ∀ (t acc : Tx), c ∈ acc ++ t → ∃ w ∈ TL.spl [s] 0 acc t, c ∈ w
  | [], acc, h => by
    rw [TL.spl_nil]
    exact ⟨acc, by simp, by simpa using h⟩
  | d :: r, acc, h => by
    by_cases hd : d = s
    · subst hd
      rw [spl_s]
      rcases List.mem_append.mp h with h | h
      · exact ⟨acc, by simp, h⟩
      · rcases List.mem_cons.mp h with h | h
        · exact absurd h hc
        · obtain ⟨w, h1, h2⟩ := spl_mem hc r [] (by simpa using h)
          exact ⟨w, List.mem_cons_of_mem _ h1, h2⟩
    · rw [spl_c hd]
      exact spl_mem hc r _ (by simpa using h)
/-- the last part -/
theorem spl_last {s : Nat} : ∀ (t acc : Tx), ((TL.spl [s] 0 acc t).getLast? = some [] ↔ (acc ++ t = [] ∨ t.getLast? = some s))
  | [], acc => by
    rw [TL.spl_nil]
    simp
  | d :: r, acc => by
    by_cases hd : d = s
    · subst hd
      rw [spl_s]
      have ne := spl_ne (s := d) r []
      have e : (acc :: TL.spl [d] 0 [] r).getLast? = (TL.spl [d] 0 [] r).getLast? := by
        cases hh : TL.spl [d] 0 [] r with
        | nil => exact absurd hh ne
        | cons a b => simp
      rw [e, spl_last r []]
      cases r with
      | nil => simp
      | cons a b => simp
    · rw [spl_c hd, spl_last r (acc ++ [d])]
      cases r with
      | nil => simp [hd]
      | cons a b => simp
theorem spl_len {s : Nat} : ∀ (t acc : Tx), (TL.spl [s] 0 acc t).length = t.count s + 1
  | [], acc => by rw [TL.spl_nil]; simp
  | d :: r, acc => by
    by_cases hd : d = s
    · subst hd
      rw [spl_s, List.length_cons, spl_len r []]
      simp
    · rw [spl_c hd, spl_len r _]
      simp [hd]
theorem spl_part {s : Nat} : ∀ (t acc : Tx), ∀ w ∈ TL.spl [s] 0 acc t, w.length ≤ acc.length + t.length
  | [], acc => by
    rw [TL.spl_nil]
    intro w hw
    rw [List.mem_singleton.mp hw]
    simp
  | d :: r, acc => by
    intro w hw
    by_cases hd : d = s
    · subst hd
      rw [spl_s] at hw
      rcases List.mem_cons.mp hw with hw | hw
      · rw [hw]; omega
      · have := spl_part r [] w hw
        simp at this ⊢
        omega
    · rw [spl_c hd] at hw
      have := spl_part r _ w hw
      simp at this ⊢
      omega
theorem okW_sign {w : Tx} (h : okW w = true) : ∀ c ∈ w, c = 45 ∨ (48 ≤ c ∧ c ≤ 57) := by
  unfold okW at h
  simp only [Bool.and_eq_true] at h
  obtain ⟨⟨_, h2⟩, _⟩ := h
  have ha : ∀ c ∈ digs w, 48 ≤ c ∧ c ≤ 57 := fun c hc => by
    have := List.all_eq_true.mp h2 c hc
    unfold dig at this
    simpa using this
  intro c hc
  unfold digs at ha
  by_cases hh : w.head? = some 45
  · rw [if_pos hh] at ha
    cases w with
    | nil => cases hc
    | cons x r =>
      have hx : x = 45 := by simpa using hh
      rcases List.mem_cons.mp hc with z | z
      · left; rw [z, hx]
      · right; exact ha c (by simpa using z)
  · rw [if_neg hh] at ha
    exact .inr (ha c hc)
theorem rowW_no {ws vs : List Tx} {w : Tx} {c : Nat} (h : w ∈ ws ∨ w ∈ vs) (hc : c ∈ w) (h1 : c = 40 ∨ c = 41) : rowW ws vs = none := by
  unfold rowW
  have hw : okW w = false := by
    cases e : okW w with
    | false => rfl
    | true =>
      rcases okW_sign e c hc with z | z
      · omega
      · omega
  rw [if_neg]
  intro z
  simp only [Bool.and_eq_true, List.all_eq_true] at z
  rcases h with h | h
  · rw [z.1 w h] at hw; cases hw
  · rw [z.2 w h] at hw; cases hw
theorem getLast_drop {l : Tx} {c : Nat} (h : l.getLast? = some c) : l = l.dropLast ++ [c] := by
  cases l with
  | nil => cases h
  | cons a b =>
    rw [List.getLast?_eq_some_getLast (List.cons_ne_nil a b)] at h
    have e := List.dropLast_concat_getLast (List.cons_ne_nil a b)
    cases h
    exact e.symm
/-- not one bracket of each, or no closing bracket at the end: no row -/
theorem parse_no {t : Tx} (h : ¬ (t.count 40 = 1 ∧ t.count 41 = 1 ∧ t.getLast? = some 41)) : parse t = none := by
  unfold parse
  cases hp : TL.par [40] [] t with
  | none => rfl
  | some pq =>
    obtain ⟨p, q⟩ := pq
    obtain ⟨e, hn⟩ := par_is hp
    show (if _ then _ else _) = _
    by_cases hq : q.getLast? = some 41 ∧ (p = [] ∨ p.getLast? = some 32)
    · rw [if_pos hq]
      obtain ⟨q1, q2⟩ := hq
      have eq := getLast_drop q1
      generalize hd : q.dropLast = d at eq
      subst eq
      have hl : t.getLast? = some 41 := by
        rw [e, show p ++ 40 :: (d ++ [41]) = (p ++ 40 :: d) ++ [41] by simp]
        exact List.getLast?_concat
      have c0 : p.count 40 = 0 := List.count_eq_zero.mpr hn
      have c1 : t.count 40 = 1 + d.count 40 := by
        rw [e]
        simp [List.count_append, c0, List.count_cons]
        omega
      have c2 : t.count 41 = p.count 41 + d.count 41 + 1 := by
        rw [e]
        simp [List.count_append, List.count_cons]
        omega
      by_cases k1 : d.count 40 = 0
      · have k2 : p.count 41 ≠ 0 ∨ d.count 41 ≠ 0 := by
          by_cases a : p.count 41 = 0
          · right
            intro b
            exact h ⟨by omega, by omega, hl⟩
          · exact .inl a
        rcases k2 with k2 | k2
        · have hm : (41 : Nat) ∈ p := by
            by_cases z : (41 : Nat) ∈ p
            · exact z
            · exact absurd (List.count_eq_zero.mpr z) k2
          obtain ⟨w, w1, w2⟩ := spl_mem (s := 32) (c := 41) (by decide) p [] (by simpa using hm)
          have hl2 := (spl_last (s := 32) p []).mpr (by simpa using q2)
          refine rowW_no (w := w) (.inl ?_) w2 (.inr rfl)
          have hne := spl_ne (s := 32) p []
          have ed : TL.spl [32] 0 [] p = (TL.spl [32] 0 [] p).dropLast ++ [[]] := by
            have e1 := List.dropLast_concat_getLast hne
            rw [List.getLast?_eq_some_getLast hne] at hl2
            rw [Option.some.inj hl2] at e1
            exact e1.symm
          rw [ed] at w1
          rcases List.mem_append.mp w1 with z | z
          · exact z
          · rw [List.mem_singleton.mp z] at w2
            cases w2
        · have hm : (41 : Nat) ∈ d := by
            by_cases z : (41 : Nat) ∈ d
            · exact z
            · exact absurd (List.count_eq_zero.mpr z) k2
          obtain ⟨w, w1, w2⟩ := spl_mem (s := 32) (c := 41) (by decide) d [] (by simpa using hm)
          exact rowW_no (.inr w1) w2 (.inr rfl)
      · have hm : (40 : Nat) ∈ d := by
          by_cases z : (40 : Nat) ∈ d
          · exact z
          · exact absurd (List.count_eq_zero.mpr z) k1
        obtain ⟨w, w1, w2⟩ := spl_mem (s := 32) (c := 40) (by decide) d [] (by simpa using hm)
        exact rowW_no (.inr w1) w2 (.inl rfl)
    · rw [if_neg hq]
/-- one bracket of each, the closing one at the end -/
theorem parse_in {t : Tx} (h : t.count 40 = 1 ∧ t.count 41 = 1 ∧ t.getLast? = some 41) : ∃ p d, TL.par [40] [] t = some (p, d ++ [41]) ∧ t = p ++ 40 :: (d ++ [41]) ∧
    parse t = if p = [] ∨ p.getLast? = some 32 then rowW (TL.spl [32] 0 [] p).dropLast (TL.spl [32] 0 [] d) else none := by
  obtain ⟨h1, h2, h3⟩ := h
  cases hp : TL.par [40] [] t with
  | none =>
    have := (par1 t []).2.2 hp
    rw [List.count_eq_zero.mpr this] at h1
    cases h1
  | some pq =>
    obtain ⟨p, q⟩ := pq
    obtain ⟨e, hn⟩ := par_is hp
    have hq : q.getLast? = some 41 := by
      cases q with
      | nil =>
        rw [e] at h3
        simp at h3
      | cons a b =>
        rw [e] at h3
        simpa using h3
    have eq := getLast_drop hq
    generalize hd : q.dropLast = d at eq
    subst eq
    refine ⟨p, d, rfl, e, ?_⟩
    unfold parse
    rw [hp]
    show (if _ then _ else _) = _
    by_cases k : p = [] ∨ p.getLast? = some 32
    · rw [if_pos ⟨hq, k⟩, if_pos k, List.dropLast_concat]
    · rw [if_neg (fun z => k z.2), if_neg k]
end Lr

/-! the methods of texts on lists of signs -/
namespace Lr
open PySem
open PyProof.Rows (stripBy_eq lo_facts hi_facts)
theorem lit {s : String} {l : Tx} (h : s.toList.map Char.toNat = l) : Str.ofString s = S8 l := TL.ext_tl (by rw [TL.tl_ofString, h])
theorem S8_eq {a b : Tx} : decide (S8 a = S8 b) = decide (a = b) := by
  by_cases h : a = b
  · rw [h]; simp
  · rw [decide_eq_false h, decide_eq_false fun z => h (SX.S_inj z)]
theorem starts1 (w : Tx) (c : Nat) : Txt.startswith (S8 w) (S8 [c]) = decide (w.head? = some c) := by
  show (decide (0 + (S8 [c]).length ≤ (S8 w).length) && Builtin.Str.subAt (S8 w) (S8 [c]) 0) = _
  rw [StrLaws.subAt_eq, SX.S_len, SX.S_len]
  cases w with
  | nil => rfl
  | cons a r =>
    show (decide (0 + 1 ≤ (a :: r).length) && ([a] == [c])) = decide (some a = some c)
    have e : decide (0 + 1 ≤ (a :: r).length) = true := by simp
    rw [e, Bool.true_and]
    by_cases h : a = c
    · rw [h]; simp
    · simp [h]
theorem ends1 (w : Tx) (c : Nat) : Txt.endswith (S8 w) (S8 [c]) = decide (w.getLast? = some c) := by
  show (decide (0 + (S8 [c]).length ≤ (S8 w).length) && Builtin.Str.subAt (S8 w) (S8 [c]) ((S8 w).length - (S8 [c]).length)) = _
  rw [StrLaws.subAt_eq, SX.S_len, SX.S_len]
  cases hl : w.getLast? with
  | none =>
    rw [List.getLast?_eq_none_iff.mp hl]
    rfl
  | some x =>
    have e := getLast_drop hl
    generalize w.dropLast = d at e
    subst e
    show (decide (0 + 1 ≤ (d ++ [x]).length) && (((d ++ [x]).drop ((d ++ [x]).length - 1)).take 1 == [c])) = _
    have e1 : decide (0 + 1 ≤ (d ++ [x]).length) = true := by simp
    have e2 : ((d ++ [x]).drop ((d ++ [x]).length - 1)).take 1 = [x] := by
      have : (d ++ [x]).length - 1 = d.length := by simp
      rw [this, List.drop_left]
      rfl
    rw [e1, e2, Bool.true_and]
    by_cases h : x = c
    · rw [h]; simp
    · simp [h]
theorem cnt1 (t : Tx) (c : Nat) (hc : c < 256) : Txt.count (S8 t) (S8 [c]) = (t.count c : Nat) := by
  have hk : ([c] : Tx).all (· < 256) = true := by simp [hc]
  have h1 := SX.split_S (a := t) (b := [c]) (by simp) hk
  have hl := congrArg List.length h1
  rw [List.length_map, spl_len] at hl
  show (((Builtin.Str.occurrences (S8 t) (S8 [c]) 0 (S8 t).length ((S8 t).length + 1)).length : Nat) : Int) = _
  congr 1
  cases t with
  | nil =>
    have := StrLaws.occ_length_le_len (S8 []) (S8 [c]) 0 (S8 []).length ((S8 []).length + 1)
    have hs := PySem.StrLaws.occ_spec (S8 []) (S8 [c]) 0 (S8 []).length ((S8 []).length + 1)
    cases ho : Builtin.Str.occurrences (S8 []) (S8 [c]) 0 (S8 []).length ((S8 []).length + 1) with
    | nil => rfl
    | cons a r =>
      have := (hs a (by rw [ho]; exact List.mem_cons_self ..)).1
      rw [SX.S_len, SX.S_len] at this
      simp at this
  | cons a r =>
    have e0 : (decide ((S8 (a :: r)).length < (S8 [c]).length) || decide (Builtin.Str.strKind (S8 (a :: r)) < Builtin.Str.strKind (S8 [c]))) = false := by
      have k := TL.kind_ok (x := S8 (a :: r)) (y := S8 [c]) (SX.all256 hk)
      rw [SX.S_len, SX.S_len, decide_eq_false k, Bool.or_false, decide_eq_false]
      simp
    unfold Txt.split at hl
    rw [if_neg (by rw [e0]; exact Bool.false_ne_true)] at hl
    cases ho : (Builtin.Str.occurrences (S8 (a :: r)) (S8 [c]) 0 (S8 (a :: r)).length ((S8 (a :: r)).length + 1)).isEmpty with
    | true =>
      rw [if_pos ho] at hl
      have : (Builtin.Str.occurrences (S8 (a :: r)) (S8 [c]) 0 (S8 (a :: r)).length ((S8 (a :: r)).length + 1)) = [] := List.isEmpty_iff.mp ho
      rw [this]
      simp at hl ⊢
      omega
    | false =>
      rw [if_neg (by rw [ho]; exact Bool.false_ne_true), length_partsBetween] at hl
      exact Nat.succ.inj hl
theorem ix0 {t p q : Tx} {c : Nat} (h : TL.par [c] [] t = some (p, q)) : Txt.index0 (S8 t) (S8 [c]) = some p.length := by
  have e := SX.partition_some (a := t) (b := [c]) (by simp) h
  obtain ⟨et, _⟩ := par_is h
  unfold Txt.index0
  unfold Txt.partition at e
  have hs := PySem.StrLaws.occ_spec (S8 t) (S8 [c]) 0 (S8 t).length 1
  cases ho : Builtin.Str.occurrences (S8 t) (S8 [c]) 0 (S8 t).length 1 with
  | nil =>
    rw [ho] at e
    have e2 := congrArg (fun z : Str × Str × Str => z.2.1.length) e
    have e2 : (0 : Nat) = (S8 [c]).length := e2
    rw [SX.S_len] at e2
    cases e2
  | cons i r =>
    rw [ho] at e
    have e2 : Builtin.Str.strSub (S8 t) 0 i = S8 p := congrArg (fun z : Str × Str × Str => z.1) e
    have hi := (hs i (by rw [ho]; exact List.mem_cons_self ..)).1
    rw [SX.S_len, SX.S_len] at hi
    have e3 := congrArg (fun z : Str => (TL.tl z).length) e2
    have e3 : (TL.tl (Builtin.Str.strSub (S8 t) 0 i)).length = p.length := e3
    rw [TL.tl_strSub] at e3
    have e4 : ((t.drop 0).take (i - 0)).length = p.length := e3
    simp at e4 hi
    show some i = some p.length
    rw [← e4]
    congr 1
    omega
/-- between two places -/
theorem slice_mid (p d : Tx) : Txt.slice (S8 (p ++ 40 :: (d ++ [41]))) (some ((p.length : Int) + 1)) (some (-1)) = S8 d := by
  rw [← C8.cutS_slice]
  refine TL.ext_tl ?_
  show ((p ++ 40 :: (d ++ [41])).drop (HT.sIx (S8 (p ++ 40 :: (d ++ [41]))).length 0 (some ((p.length : Int) + 1)))).take (HT.sIx (S8 (p ++ 40 :: (d ++ [41]))).length (S8 (p ++ 40 :: (d ++ [41]))).length (some (-1)) - HT.sIx (S8 (p ++ 40 :: (d ++ [41]))).length 0 (some ((p.length : Int) + 1))) = d
  rw [SX.S_len]
  have hn : (p ++ 40 :: (d ++ [41])).length = p.length + d.length + 2 := by simp; omega
  rw [hn]
  have e1 : HT.sIx (p.length + d.length + 2) 0 (some ((p.length : Int) + 1)) = p.length + 1 := by
    unfold HT.sIx
    simp only
    split <;> omega
  have e2 : HT.sIx (p.length + d.length + 2) (p.length + d.length + 2) (some (-1)) = p.length + d.length + 1 := by
    unfold HT.sIx
    simp only
    split <;> omega
  rw [e1, e2]
  have e3 : (p ++ 40 :: (d ++ [41])).drop (p.length + 1) = d ++ [41] := by
    rw [show p ++ 40 :: (d ++ [41]) = (p ++ [40]) ++ (d ++ [41]) by simp, show p.length + 1 = (p ++ [40]).length by simp, List.drop_left]
  rw [e3, show p.length + d.length + 1 - (p.length + 1) = d.length by omega, List.take_left]
/-- nothing but figures -/
theorem strip0 (goes : Nat → Bool) (d : Tx) : decide (Txt.stripBy goes true true (S8 d) = S8 []) = d.all goes := by
  rw [stripBy_eq]
  obtain ⟨l1, l2, l3⟩ := lo_facts goes (S8 d)
  generalize hlo : stripLo goes true (S8 d) = lo at l1 l2 l3
  obtain ⟨h1, h2, h3, h4⟩ := hi_facts goes (S8 d) lo l1
  generalize hhi : stripHi goes true (S8 d) lo = hi at h1 h2 h3 h4
  have gd : ∀ k, (S8 d).cps.getD k 0 = d.getD k 0 := fun k => by simp [SX.S, List.getD]
  have ln : (S8 d).length = d.length := SX.S_len d
  rw [ln] at l1 l3 h2 h3
  have e : (Builtin.Str.strSub (S8 d) lo hi = S8 []) ↔ hi = lo := by
    constructor
    · intro z
      have z2 := congrArg (fun z : Str => (TL.tl z).length) z
      have z2 : (TL.tl (Builtin.Str.strSub (S8 d) lo hi)).length = 0 := z2
      rw [TL.tl_strSub] at z2
      have z3 : ((d.drop lo).take (hi - lo)).length = 0 := z2
      simp at z3
      omega
    · intro z
      refine TL.ext_tl ?_
      rw [TL.tl_strSub, z]
      simp
  by_cases hall : d.all goes = true
  · rw [hall, decide_eq_true]
    refine e.mpr ?_
    rcases l3 with l3 | l3
    · omega
    · rw [gd] at l3
      by_cases hk : lo < d.length
      · have := List.all_eq_true.mp hall (d.getD lo 0) (by
          rw [List.getD_eq_getElem?_getD, List.getElem?_eq_getElem hk]
          exact List.getElem_mem hk)
        rw [this] at l3
        cases l3
      · omega
  · have hall : d.all goes = false := by simpa using hall
    rw [hall, decide_eq_false]
    intro z
    have z := e.mp z
    subst z
    refine absurd ?_ (by rw [hall]; exact Bool.false_ne_true : ¬ d.all goes = true)
    rw [List.all_eq_true]
    intro x hx
    obtain ⟨k, hk, rfl⟩ := List.mem_iff_getElem.mp hx
    have gk : d.getD k 0 = d[k] := by rw [List.getD_eq_getElem?_getD, List.getElem?_eq_getElem hk]; rfl
    rw [← gk, ← gd]
    by_cases h : k < hi
    · exact l2 k h
    · exact h3 k (by omega) hk
def FIG : Str := Str.ofString "0123456789"
theorem fig_goes (c : Nat) : FIG.cps.contains c = dig c := by
  have e : FIG = S8 [48, 49, 50, 51, 52, 53, 54, 55, 56, 57] := lit rfl
  rw [e]
  show ([48, 49, 50, 51, 52, 53, 54, 55, 56, 57] : Tx).toArray.contains c = dig c
  unfold dig
  rw [Bool.eq_iff_iff]
  simp
  omega
theorem stripF (d : Tx) : decide (Txt.stripChars (S8 d) FIG = S8 []) = d.all dig := by
  have e : (FIG.cps.contains : Nat → Bool) = dig := funext fig_goes
  show decide (Txt.stripBy FIG.cps.contains true true (S8 d) = S8 []) = _
  rw [e]
  exact strip0 dig d
theorem int_ok {w : Tx} (h : okW w = true) : intText? (S8 w) = some (valW w) ∧ w.length ≤ 61 := by
  unfold okW at h
  simp only [Bool.and_eq_true, decide_eq_true_eq] at h
  obtain ⟨⟨⟨h1, h2⟩, h3⟩, _⟩ := h
  have ha : NumText.AllDigits (digs w) := fun c hc => by
    have := List.all_eq_true.mp h3 c hc
    unfold dig at this
    simpa using this
  unfold digs at h1 h2 ha
  unfold valW
  by_cases hh : w.head? = some 45
  · rw [if_pos hh] at h1 h2 ha ⊢
    cases w with
    | nil => cases hh
    | cons a r =>
      have hx : a = 45 := by simpa using hh
      subst hx
      simp at h1 h2 ha ⊢
      refine ⟨?_, by omega⟩
      exact intText_neg (x := S8 (45 :: r)) rfl ha (fun z => by rw [z] at h1; simp at h1) (by rw [SX.S_len]; simp; omega)
  · rw [if_neg hh] at h1 h2 ha ⊢
    refine ⟨?_, by omega⟩
    exact intText_digits (x := S8 w) ha (fun z => by
      have z : w = [] := z
      rw [z] at h1
      simp at h1) (by rw [SX.S_len]; omega)
end Lr

/-! a row's text and its reading -/
namespace Lr
open PySem
def numT (i : Int) : Tx := if i < 0 then 45 :: TL.numL i.natAbs else TL.numL i.natAbs
theorem str_numT (i : Int) : Str.ofString (toString i) = S8 (numT i) := by
  unfold numT
  cases i with
  | ofNat n =>
    rw [if_neg (show ¬ Int.ofNat n < 0 from Int.not_lt.mpr (Int.natCast_nonneg n))]
    exact SX.num_S n
  | negSucc n =>
    rw [if_pos (show Int.negSucc n < 0 from Int.negSucc_lt_zero n)]
    refine TL.ext_tl ?_
    have h1 : TL.tl (Str.ofString (toString (((n + 1 : Nat) : Int)))) = TL.numL (n + 1) := TL.tl_num (n + 1)
    rw [TL.tl_ofString] at h1 ⊢
    have e : (toString (Int.negSucc n)).toList = '-' :: (toString ((n + 1 : Nat) : Int)).toList := by
      show ("-" ++ toString (n + 1)).toList = _
      rw [String.toList_append]
      rfl
    rw [e, List.map_cons, h1]
    rfl
theorem numL_head : ∀ n : Nat, 0 < n → (TL.numL n).head? ≠ some 48 := by
  intro n
  induction n using Nat.strongRecOn with
  | _ n ih =>
    intro h0
    by_cases h : n < 10
    · rw [TL.numL_lt h]
      simp
      omega
    · rw [TL.numL_step (by omega)]
      have := ih (n / 10) (by omega) (by omega)
      have ne := TL.numL_ne (n / 10)
      cases hh : TL.numL (n / 10) with
      | nil => exact absurd hh ne
      | cons a b =>
        rw [hh] at this
        simpa using this
theorem numT_ne (i : Int) : numT i ≠ [] := by
  unfold numT
  split
  · simp
  · exact TL.numL_ne _
theorem numT_sign (i : Int) : ∀ c ∈ numT i, c = 45 ∨ (48 ≤ c ∧ c ≤ 57) := by
  intro c hc
  unfold numT at hc
  split at hc
  · rcases List.mem_cons.mp hc with z | z
    · exact .inl z
    · exact .inr (TL.numL_digits _ c z)
  · exact .inr (TL.numL_digits _ c hc)
theorem numL60 {n : Nat} (h : n < 10 ^ 60) : (TL.numL n).length ≤ 60 := TL.numL_len (by decide) h
theorem numT_len {i : Int} (h : Big i) : (numT i).length ≤ 61 := by
  unfold Big at h
  have hn : i.natAbs < 10 ^ 60 := by omega
  have := numL60 hn
  unfold numT
  split
  · simp; omega
  · omega
theorem numT_ok {i : Int} (h : Big i) : okW (numT i) = true ∧ valW (numT i) = i := by
  unfold Big at h
  have hn : i.natAbs < 10 ^ 60 := by omega
  have hl := numL60 hn
  have hne := TL.numL_ne i.natAbs
  have hd := TL.numL_digits i.natAbs
  have hv := TL.numL_val i.natAbs
  have hl1 : 1 ≤ (TL.numL i.natAbs).length := by
    cases hh : TL.numL i.natAbs with
    | nil => exact absurd hh hne
    | cons a b => simp
  have hall : (TL.numL i.natAbs).all dig = true := List.all_eq_true.mpr fun c hc => by
    have := hd c hc
    unfold dig
    simp [this]
  by_cases hi : i < 0
  · have e : numT i = 45 :: TL.numL i.natAbs := by unfold numT; rw [if_pos hi]
    have hh := numL_head i.natAbs (by omega)
    refine ⟨?_, ?_⟩
    · unfold okW digs
      rw [e]
      simp only [List.head?_cons, if_true, List.drop_succ_cons, List.drop_zero]
      rw [decide_eq_true hl1, decide_eq_true hl, hall, decide_eq_false hh]
      rfl
    · unfold valW
      rw [e]
      simp only [List.head?_cons, if_true, List.drop_succ_cons, List.drop_zero]
      rw [hv]
      omega
  · have e : numT i = TL.numL i.natAbs := by unfold numT; rw [if_neg hi]
    have h45 : (TL.numL i.natAbs).head? ≠ some 45 := fun z => by
      cases hh : TL.numL i.natAbs with
      | nil => exact absurd hh hne
      | cons a b =>
        rw [hh] at z hd
        have : a = 45 := by simpa using z
        have := hd a (List.mem_cons_self ..)
        omega
    refine ⟨?_, ?_⟩
    · unfold okW digs
      rw [e, if_neg h45, decide_eq_true hl1, decide_eq_true hl, hall]
      by_cases h0 : i.natAbs = 0
      · rw [h0]
        decide
      · rw [decide_eq_false (numL_head i.natAbs (by omega))]
        rfl
    · unfold valW
      rw [e, if_neg h45, hv]
      omega
theorem join_nil : ∀ ys : List Tx, TL.joinL [] ys = ys.flatten
  | [] => rfl
  | [a] => by
    show a = _
    simp
  | a :: b :: r => by
    show a ++ ([] ++ TL.joinL [] (b :: r)) = _
    rw [join_nil (b :: r)]
    simp
def firstT (l : List Int) : Tx := (l.map fun i => numT i ++ [32]).flatten
def roundT (c : List Int) : Tx := TL.joinL [32] (c.map numT)
def textOf (r : Row) : Tx := firstT r.1 ++ 40 :: (roundT r.2 ++ [41])
theorem firstT_sign (l : List Int) : ∀ c ∈ firstT l, c = 32 ∨ c = 45 ∨ (48 ≤ c ∧ c ≤ 57) := by
  intro c hc
  unfold firstT at hc
  obtain ⟨w, hw, hcw⟩ := List.mem_flatten.mp hc
  obtain ⟨i, _, rfl⟩ := List.mem_map.mp hw
  rcases List.mem_append.mp hcw with z | z
  · exact .inr (numT_sign i c z)
  · exact .inl (List.mem_singleton.mp z)
theorem spl_first (l : List Int) : TL.spl [32] 0 [] (firstT l) = l.map numT ++ [[]] := by
  induction l with
  | nil => rfl
  | cons i l ih =>
    have e : firstT (i :: l) = numT i ++ ([32] ++ firstT l) := by
      unfold firstT
      simp
    have hf : (32 : Nat) ∉ numT i := fun z => by
      have := numT_sign i 32 z
      omega
    rw [e, TL.spl_part1 (s := 32) (S := []) hf, List.nil_append, ih]
    rfl
theorem parse_text {r : Row} (h : r.2 ≠ []) (hb : ∀ x ∈ r.1 ++ r.2, Big x) : parse (textOf r) = some r := by
  have hn : (40 : Nat) ∉ firstT r.1 := fun z => by
    have := firstT_sign r.1 40 z
    omega
  have hp : TL.par [40] [] (textOf r) = some (firstT r.1, roundT r.2 ++ [41]) := SX.par_head (c := 40) (sep := []) (roundT r.2 ++ [41]) hn
  unfold parse
  rw [hp]
  have hl : (roundT r.2 ++ [41]).getLast? = some 41 := List.getLast?_concat
  have h0 : firstT r.1 = [] ∨ (firstT r.1).getLast? = some 32 := by
    have := (spl_last (s := 32) (firstT r.1) []).mp (by rw [spl_first]; exact List.getLast?_concat)
    simpa using this
  show (if _ then _ else _) = _
  rw [if_pos ⟨hl, h0⟩, spl_first, List.dropLast_concat, List.dropLast_concat]
  have hs : TL.spl [32] 0 [] (roundT r.2) = r.2.map numT := SX.spl_join (c := 32) (sep := []) (by simpa using h) fun p hp => by
    obtain ⟨i, _, rfl⟩ := List.mem_map.mp hp
    intro z
    have := numT_sign i 32 z
    omega
  rw [hs]
  unfold rowW
  have a1 : (r.1.map numT).all okW = true := List.all_eq_true.mpr fun w hw => by
    obtain ⟨i, hi, rfl⟩ := List.mem_map.mp hw
    exact (numT_ok (hb i (List.mem_append_left _ hi))).1
  have a2 : (r.2.map numT).all okW = true := List.all_eq_true.mpr fun w hw => by
    obtain ⟨i, hi, rfl⟩ := List.mem_map.mp hw
    exact (numT_ok (hb i (List.mem_append_right _ hi))).1
  rw [a1, a2]
  have b1 : (r.1.map numT).map valW = r.1 := by
    rw [List.map_map]
    refine (List.map_congr_left fun i hi => ?_).trans (List.map_id _)
    exact (numT_ok (hb i (List.mem_append_left _ hi))).2
  have b2 : (r.2.map numT).map valW = r.2 := by
    rw [List.map_map]
    refine (List.map_congr_left fun i hi => ?_).trans (List.map_id _)
    exact (numT_ok (hb i (List.mem_append_right _ hi))).2
  show (if _ then some (_, _) else none) = _
  rw [b1, b2]
  rfl
/-! ### bounds -/
theorem valW_big {w : Tx} (h : okW w = true) : Big (valW w) := by
  have hs := okW_sign h
  unfold okW at h
  simp only [Bool.and_eq_true, decide_eq_true_eq] at h
  obtain ⟨⟨⟨h1, h2⟩, h3⟩, _⟩ := h
  have key : ∀ d : Tx, d.all dig = true → d.length ≤ 60 → NumText.digitsVal d < 10 ^ 60 := by
    intro d hd hl
    have step : ∀ (l : Tx) (a : Nat), l.all dig = true → l.foldl (fun acc c => acc * 10 + (c - 48)) a < (a + 1) * 10 ^ l.length := by
      intro l
      induction l with
      | nil =>
        intro a _
        simp
      | cons c l ih =>
        intro a ha
        rw [List.all_cons, Bool.and_eq_true] at ha
        have hc : 48 ≤ c ∧ c ≤ 57 := by
          have := ha.1
          unfold dig at this
          simpa using this
        have i1 := ih (a * 10 + (c - 48)) ha.2
        show l.foldl _ (a * 10 + (c - 48)) < _
        refine Nat.lt_of_lt_of_le i1 ?_
        rw [List.length_cons, Nat.pow_succ, Nat.mul_comm (10 ^ l.length) 10, ← Nat.mul_assoc]
        exact Nat.mul_le_mul_right _ (by omega)
    have := step d 0 hd
    rw [Nat.zero_add, Nat.one_mul] at this
    exact Nat.lt_of_lt_of_le this (Nat.pow_le_pow_right (by decide) hl)
  have k := key _ h3 h2
  unfold digs at k
  unfold valW Big
  by_cases hh : w.head? = some 45
  · rw [if_pos hh] at k ⊢
    have k : ((NumText.digitsVal (w.drop 1) : Nat) : Int) < 10 ^ 60 := by exact_mod_cast k
    omega
  · rw [if_neg hh] at k ⊢
    have k : ((NumText.digitsVal w : Nat) : Int) < 10 ^ 60 := by exact_mod_cast k
    omega
theorem rowW_is {ws vs : List Tx} {r : Row} (h : rowW ws vs = some r) : (∀ w ∈ ws, okW w = true) ∧ (∀ w ∈ vs, okW w = true) ∧ r = (ws.map valW, vs.map valW) := by
  unfold rowW at h
  split at h
  · rename_i z
    simp only [Bool.and_eq_true, List.all_eq_true] at z
    exact ⟨z.1, z.2, (Option.some.inj h).symm⟩
  · cases h
theorem rowW_none {ws vs : List Tx} (h : rowW ws vs = none) : (∃ w ∈ ws, okW w = false) ∨ ((∀ w ∈ ws, okW w = true) ∧ ∃ w ∈ vs, okW w = false) := by
  unfold rowW at h
  split at h
  · cases h
  · rename_i z
    by_cases hw : ws.all okW = true
    · right
      refine ⟨List.all_eq_true.mp hw, ?_⟩
      rw [hw, Bool.true_and] at z
      have z : vs.all okW = false := by simpa using z
      rw [List.all_eq_false] at z
      obtain ⟨w, h1, h2⟩ := z
      exact ⟨w, h1, by simpa using h2⟩
    · left
      have z : ws.all okW = false := by simpa using hw
      rw [List.all_eq_false] at z
      obtain ⟨w, h1, h2⟩ := z
      exact ⟨w, h1, by simpa using h2⟩
/-- what is read from a text is no longer than it, its signs are small -/
theorem parse_row {t : Tx} {r : Row} (h : parse t = some r) : r.2 ≠ [] ∧ r.1.length + r.2.length ≤ t.length + 1 ∧ ∀ x ∈ r.1 ++ r.2, Big x := by
  by_cases hc : t.count 40 = 1 ∧ t.count 41 = 1 ∧ t.getLast? = some 41
  · obtain ⟨p, d, _, et, ep⟩ := parse_in hc
    rw [ep] at h
    split at h
    · obtain ⟨w1, w2, rfl⟩ := rowW_is h
      have n1 := spl_len (s := 32) p []
      have n2 := spl_len (s := 32) d []
      have c1 := List.count_le_length (a := 32) (l := p)
      have c2 := List.count_le_length (a := 32) (l := d)
      have hl : t.length = p.length + d.length + 2 := by rw [et]; simp; omega
      refine ⟨?_, ?_, ?_⟩
      · simp only [ne_eq, List.map_eq_nil_iff]
        exact spl_ne d []
      · simp only [List.length_map, List.length_dropLast]
        omega
      · intro x hx
        rcases List.mem_append.mp hx with hx | hx
        · obtain ⟨w, hw, rfl⟩ := List.mem_map.mp hx
          exact valW_big (w1 w hw)
        · obtain ⟨w, hw, rfl⟩ := List.mem_map.mp hx
          exact valW_big (w2 w hw)
    · cases h
  · rw [parse_no hc] at h
    cases h
theorem first_len {l : List Int} (h : ∀ x ∈ l, Big x) : (firstT l).length ≤ 62 * l.length := by
  induction l with
  | nil => exact Nat.le_refl _
  | cons i l ih =>
    have e : firstT (i :: l) = numT i ++ ([32] ++ firstT l) := by
      unfold firstT
      simp
    have h1 := numT_len (h i (List.mem_cons_self ..))
    have h2 := ih fun x hx => h x (List.mem_cons_of_mem _ hx)
    rw [e]
    simp
    omega
theorem round_len : ∀ {c : List Int}, (∀ x ∈ c, Big x) → (roundT c).length ≤ 62 * c.length
  | [], _ => Nat.le_refl _
  | [i], h => by
    have h1 := numT_len (h i (List.mem_cons_self ..))
    show (numT i).length ≤ 62
    omega
  | i :: j :: c, h => by
    have h1 := numT_len (h i (List.mem_cons_self ..))
    have h2 := round_len (c := j :: c) fun x hx => h x (List.mem_cons_of_mem _ hx)
    have e : roundT (i :: j :: c) = numT i ++ ([32] ++ roundT (j :: c)) := rfl
    rw [e]
    simp at h2 ⊢
    omega
theorem text_len {r : Row} (h : ∀ x ∈ r.1 ++ r.2, Big x) : (textOf r).length ≤ 62 * (r.1.length + r.2.length) + 2 := by
  have h1 := first_len fun x hx => h x (List.mem_append_left _ hx)
  have h2 := round_len fun x hx => h x (List.mem_append_right _ hx)
  unfold textOf
  simp
  omega
theorem big_log {i : Int} (h : Big i) : i.natAbs.log2 < 1920 := by
  unfold Big at h
  have h1 : i.natAbs < 10 ^ 60 := by omega
  have h2 : i.natAbs < 2 ^ 250 := Nat.lt_of_lt_of_le h1 (by decide)
  exact Nat.lt_of_lt_of_le (PySem.Flt.log2_lt_of (by decide : 0 < 250) h2) (by decide : 250 ≤ 1920)
end Lr

namespace Lr
open PySem L2
open Evl (Ex)
structure Bi (mg : Str → Option Value) : Prop where
  isinstance : mg "isinstance" = none
  int : mg "int" = none
  bool : mg "bool" = none
  list : mg "list" = none
  tuple : mg "tuple" = none
  len : mg "len" = none
  all : mg "all" = none
  range : mg "range" = none
  max : mg "max" = none
  enumerate : mg "enumerate" = none
  any : mg "any" = none
  divmod : mg "divmod" = none
  min : mg "min" = none
  abs : mg "abs" = none
  str : mg "str" = none
def wholeP : Pd → Bool
  | .int _ => true
  | _ => false
def isIntB : Pd → Bool
  | .int _ => true
  | .bl _ => true
  | _ => false
def isBoolB : Pd → Bool
  | .bl _ => true
  | _ => false
theorem kit_int (d : Pd) (h : tyN d ≠ "") : kitB (tyN d) "int" = some (isIntB d) := by
  cases d with
  | raw v => exact absurd rfl h
  | obj _ _ _ => exact absurd rfl h
  | non => show kitB "NoneType" "int" = some false; decide +kernel
  | bl b => show kitB "bool" "int" = some true; decide +kernel
  | int b => show kitB "int" "int" = some true; decide +kernel
  | str b => show kitB "str" "int" = some false; decide +kernel
  | lst b => show kitB "list" "int" = some false; decide +kernel
  | scr b => show kitB "list" "int" = some false; decide +kernel
  | tup b => show kitB "tuple" "int" = some false; decide +kernel
  | dic b => show kitB "dict" "int" = some false; decide +kernel
  | lam _ _ _ _ => exact absurd rfl h
theorem kit_bool (d : Pd) (h : tyN d ≠ "") : kitB (tyN d) "bool" = some (isBoolB d) := by
  cases d with
  | raw v => exact absurd rfl h
  | obj _ _ _ => exact absurd rfl h
  | non => show kitB "NoneType" "bool" = some false; decide +kernel
  | bl b => show kitB "bool" "bool" = some true; decide +kernel
  | int b => show kitB "int" "bool" = some false; decide +kernel
  | str b => show kitB "str" "bool" = some false; decide +kernel
  | lst b => show kitB "list" "bool" = some false; decide +kernel
  | scr b => show kitB "list" "bool" = some false; decide +kernel
  | tup b => show kitB "tuple" "bool" = some false; decide +kernel
  | dic b => show kitB "dict" "bool" = some false; decide +kernel
  | lam _ _ _ _ => exact absurd rfl h
theorem whole_and (d : Pd) : (isIntB d && !isBoolB d) = wholeP d := by cases d <;> rfl
/-! small helps -/
theorem range_map {α β : Type} (l : List α) (z : α) (g : α → β) : (List.range l.length).map (fun i => g (l.getD i z)) = l.map g := by
  refine List.ext_getElem (by rw [List.length_map, List.length_range, List.length_map]) fun i h1 h2 => ?_
  rw [List.length_map, List.length_range] at h1
  rw [List.getElem_map, List.getElem_map, List.getElem_range, List.getD_eq_getElem?_getD, List.getElem?_eq_getElem h1]
  rfl
theorem getD_some {α : Type} {l : List α} {z : α} (i : Nat) (h : i < l.length) : l[i]? = some (l.getD i z) := by
  rw [List.getD_eq_getElem?_getD, List.getElem?_eq_getElem h]
  rfl
theorem atI_at {l : List Int} {z : Int} {j : Nat} (h : z = (j : Int)) (hj : j < l.length) : atI l z = some (l.getD j 0) := by
  rw [h]
  exact atI_nat (getD_some j hj)
theorem atI_cz {c : List Int} (h : c ≠ []) (z : Int) : atI c (z % (c.length : Int)) = some (cz c z) := by
  have hc : 0 < c.length := List.length_pos_iff.mpr h
  have h1 := Int.emod_nonneg z (show (c.length : Int) ≠ 0 by omega)
  have h2 := Int.emod_lt_of_pos z (show (0 : Int) < c.length by omega)
  unfold cz
  exact atI_at (by omega) (by omega)
theorem all_map_id {α : Type} (l : List α) (g : α → Bool) : (l.map g).all id = l.all g := by
  rw [List.all_map]
  rfl
theorem kit_ll : kitB "list" "list" = some true := by decide +kernel
theorem kit_tt : kitB "tuple" "tuple" = some true := by decide +kernel
theorem nn_int : ("int" : String) ≠ "" := by decide
theorem nn_list : ("list" : String) ≠ "" := by decide
theorem nn_tuple : ("tuple" : String) ≠ "" := by decide
theorem ee_nilL {X : Cx} {δ : Dl} {pos : Pos} : EE X (.List [] pos) δ (dL []) := (ef_lst ea_nil).ee
theorem most_at (ns : List Int) (b : Int) : atI [Pd.int 2, Pd.int 3, Pd.int 10, Pd.int 1000000] (drawF (ns.getD 0 0) b 4) = some (.int (mostF ns b)) := by
  have h1 := draw_nn (c := ns.getD 0 0) (k := b) (show (0 : Int) < 4 by decide)
  have h2 := draw_lt (c := ns.getD 0 0) (k := b) (show (0 : Int) < 4 by decide)
  show atI (([2, 3, 10, 1000000] : List Int).map Pd.int) _ = _
  rw [atI_map, atI_at (l := ([2, 3, 10, 1000000] : List Int)) (j := (drawF (ns.getD 0 0) b 4).toNat) (by omega) (by show _ < 4; omega)]
  rfl
theorem most_pos (ns : List Int) (b : Int) : 0 < mostF ns b := by
  rcases most_in ns b with h | h | h | h <;> rw [h] <;> decide
theorem most_lt (ns : List Int) (b : Int) : mostF ns b < 1073741824 := by
  rcases most_in ns b with h | h | h | h <;> rw [h] <;> decide
theorem signs_len (ns : List Int) (b : Int) : (signsF ns b).length = ns.length := by
  unfold signsF
  rw [List.length_map, List.length_range]
theorem circ0_len (s : List Int) (b cut : Int) : (circ0 s b cut).length ≤ max 1 s.length := by
  unfold circ0
  split
  · exact Nat.le_max_left _ _
  · rw [List.length_drop]
    omega
theorem pow60 : (10 : Int) ^ (60 : Int).toNat = 10 ^ 60 := rfl
/-! told -/
def toldB (r : Row) : Bool := decide (r.2 ≠ []) && ((List.range (r.2.length - 1)).all (fun e => !isPart r.2 (e + 1)) && (decide (r.1 = []) || !decide (r.1.getD (r.1.length - 1) 0 = r.2.getD (r.2.length - 1) 0)))
theorem toldB_iff (r : Row) : toldB r = true ↔ Told r := by
  unfold toldB Told
  rw [Bool.and_eq_true, Bool.and_eq_true, decide_eq_true_iff, List.all_eq_true, Bool.or_eq_true, decide_eq_true_iff]
  refine and_congr_right fun hne => and_congr ?_ ?_
  · have hp : 0 < r.2.length := List.length_pos_iff.mpr hne
    constructor
    · intro h d h1 h2 h3 h4
      have g := h (d - 1) (List.mem_range.mpr (by omega))
      rw [show d - 1 + 1 = d by omega, (isPart_iff h1 (by omega)).mpr ⟨h3, h4⟩] at g
      cases g
    · intro h e he
      have he := List.mem_range.mp he
      cases hb : isPart r.2 (e + 1) with
      | false => rfl
      | true =>
        obtain ⟨g1, g2⟩ := (isPart_iff (Nat.succ_pos e) (by omega)).mp hb
        exact absurd g2 (h (e + 1) (Nat.succ_pos e) (by omega) g1)
  · by_cases hl : r.1 = []
    · simp [hl]
    · rw [last_get hl, last_get hne]
      simp [hl]
/-! same -/
def sameB (r s : Row) : Bool := (List.range (max r.1.length s.1.length + r.2.length + s.2.length)).all fun p => decide (sgn r p = sgn s p)
theorem sameB_iff {r s : Row} (hr : r.2 ≠ []) (hs : s.2 ≠ []) : sameB r s = true ↔ ∀ p, sgn r p = sgn s p := by
  unfold sameB
  rw [List.all_eq_true]
  constructor
  · intro h
    exact same_enough hr hs fun p hp => of_decide_eq_true (h p (List.mem_range.mpr hp))
  · intro h p _
    exact decide_eq_true (h p)
theorem sgn_app (l c : List Int) (hc : c ≠ []) (p : Nat) : sgn (l ++ c, c) p = sgn (l, c) p := by
  by_cases h1 : p < l.length
  · rw [sgn_lo (show p < (l ++ c).length by rw [List.length_append]; omega), sgn_lo (show p < l.length from h1)]
    exact getD_app_l h1
  · obtain ⟨i, rfl⟩ : ∃ i, p = l.length + i := ⟨p - l.length, by omega⟩
    have e1 : sgn (l, c) (l.length + i) = cyc c i := sgn_hi (l, c) i
    rw [e1]
    by_cases h2 : i < c.length
    · rw [sgn_lo (show l.length + i < (l ++ c).length by rw [List.length_append]; omega), cyc_lt h2]
      show (l ++ c).getD (l.length + i) 0 = _
      rw [getD_app_r (by omega), Nat.add_sub_cancel_left]
    · obtain ⟨j, rfl⟩ : ∃ j, i = c.length + j := ⟨i - c.length, by omega⟩
      have e2 : sgn (l ++ c, c) ((l ++ c).length + j) = cyc c j := sgn_hi (l ++ c, c) j
      rw [List.length_append] at e2
      rw [← Nat.add_assoc, e2, Nat.add_comm c.length j]
      exact (cyc_per c j (Nat.zero_le _)).symm
theorem rep_two (c : List Int) : c ++ c = rep c 2 := by
  unfold rep
  simp [List.replicate]
theorem sgn_cyc {l c d : List Int} (h : ∀ i, cyc d i = cyc c i) (p : Nat) : sgn (l, d) p = sgn (l, c) p := by
  by_cases h1 : p < l.length
  · rw [sgn_lo (show p < l.length from h1), sgn_lo (show p < l.length from h1)]
  · obtain ⟨i, rfl⟩ : ∃ i, p = l.length + i := ⟨p - l.length, by omega⟩
    have e1 : sgn (l, c) (l.length + i) = cyc c i := sgn_hi (l, c) i
    have e2 : sgn (l, d) (l.length + i) = cyc d i := sgn_hi (l, d) i
    rw [e1, e2, h]
theorem sgn_rot (l c : List Int) (t : Nat) (ht : t ≤ c.length) (p : Nat) : sgn (l ++ c.take t, rot c t) p = sgn (l, c) p := by
  by_cases h1 : p < l.length
  · rw [sgn_lo (show p < (l ++ c.take t).length by rw [List.length_append]; omega), sgn_lo (show p < l.length from h1)]
    exact getD_app_l h1
  · obtain ⟨i, rfl⟩ : ∃ i, p = l.length + i := ⟨p - l.length, by omega⟩
    have e1 : sgn (l, c) (l.length + i) = cyc c i := sgn_hi (l, c) i
    have hl : (c.take t).length = t := by rw [List.length_take]; omega
    rw [e1]
    by_cases h2 : i < t
    · rw [sgn_lo (show l.length + i < (l ++ c.take t).length by rw [List.length_append]; omega), cyc_lt (by omega)]
      show (l ++ c.take t).getD (l.length + i) 0 = _
      rw [getD_app_r (by omega), Nat.add_sub_cancel_left, getD_take h2]
    · obtain ⟨j, rfl⟩ : ∃ j, i = t + j := ⟨i - t, by omega⟩
      have e2 : sgn (l ++ c.take t, rot c t) ((l ++ c.take t).length + j) = cyc (rot c t) j := sgn_hi (l ++ c.take t, rot c t) j
      rw [List.length_append, hl] at e2
      rw [← Nat.add_assoc, e2, rot_cyc ht, Nat.add_comm]
section
variable {P : Program} {w : World} {K : PySem.W.Frag} {mg : Str → Option Value} {base : Heap} {f : Addr} {fd : FuncData}
theorem has_of {CX : CXT} {x : Str} {k : Nat} {ps : List Str} {sp : Sp} {st : Stmt} (F : Fun K x x st f fd) (o : FnOk P w K mg base CX k f fd ps sp) (g : mg x = some (.ref f)) (b : Binds K fd ps []) : Has P w K mg base CX x k ps sp := ⟨f, fd, o, g, F.kp, b⟩
abbrev H0 (P : Program) (w : World) (K : PySem.W.Frag) (mg : Str → Option Value) (base : Heap) := Has P w K mg base CX0
def RisWhole : List Pd → Pd → Prop := fun ds d => ∃ x, ds = [x] ∧ tyN x ≠ "" ∧ d = .bl (wholeP x)
/-! are_signs: of a list without raw things | of another thing -/
def RareSigns : List Pd → Pd → Prop := fun ds d => ∃ x, ds = [x] ∧ ((∃ l, x = .lst l ∧ l.length ≤ 50000 ∧ (∀ e ∈ l, tyN e ≠ "") ∧ d = .bl (l.all wholeP)) ∨ ((∀ l, x ≠ .lst l) ∧ (∀ l, x ≠ .scr l) ∧ tyN x ≠ "" ∧ d = .bl false))
theorem whole_ints (ns : List Int) : (ns.map Pd.int).all wholeP = true := by
  rw [List.all_map]
  exact List.all_eq_true.mpr fun _ _ => rfl
theorem signs_ints {ns : List Int} (h : ns.length ≤ 50000) : RareSigns [dL ns] (.bl true) := ⟨_, rfl, .inl ⟨_, rfl, by rw [List.length_map]; exact h, fun e he => by
  obtain ⟨i, _, rfl⟩ := List.mem_map.mp he
  exact nn_int, by rw [whole_ints]⟩⟩
def RcheckRow : List Pd → Pd → Prop := fun ds d => ∃ r : Row, ds = [dR r] ∧ r.2 ≠ [] ∧ r.1.length ≤ 50000 ∧ r.2.length ≤ 50000 ∧ d = .non
def Rshort : List Pd → List Pd → Prop := fun ds zs => ∃ c : List Int, ds = [dL c] ∧ c.length ≤ 50000 ∧ zs = (short c).map .int
theorem isPart_eq {c : List Int} {i : Nat} (hi : i < c.length) : (decide ((c.length : Int) % ((i + 1 : Nat) : Int) = 0) && decide (c = (List.replicate (((c.length : Int) / ((i + 1 : Nat) : Int)).toNat) (cutP c none (some ((i + 1 : Nat) : Int)))).flatten)) = isPart c (i + 1) := by
  unfold isPart rep
  rw [cut_to, ← Int.natCast_ediv, Int.toNat_natCast, ← Int.natCast_emod]
  congr 1
  refine decide_eq_decide.mpr ?_
  omega
def RleastOf : List Pd → Row → Prop := fun ds r => ∃ l c : List Int, ds = [dL l, dL c] ∧ c ≠ [] ∧ l.length ≤ 50000 ∧ c.length ≤ 50000 ∧ r = leastF (l, c)
def Rleast : List Pd → Row → Prop := fun ds s => ∃ r : Row, ds = [dR r] ∧ r.2 ≠ [] ∧ r.1.length ≤ 50000 ∧ r.2.length ≤ 50000 ∧ s = leastF r
def Rcell : List Pd → Pd → Prop := fun ds d => ∃ (ns : List Int) (j : Nat), ds = [.scr ns, .int j] ∧ d = .int (ns.getD j 0)
def Rdraw : List Pd → Pd → Prop := fun ds d => ∃ c j m : Int, ds = [.int c, .int j, .int m] ∧ 0 < m ∧ 0 ≤ j ∧ j ≤ 1000000 ∧ d = .int (drawF c j m)
def Rsign : List Pd → Pd → Prop := fun ds d => ∃ (r : Row) (p : Nat), ds = [dR r, .int p] ∧ r.2 ≠ [] ∧ d = .int (sgn r p)
def Rtold : List Pd → Pd → Prop := fun ds d => ∃ r : Row, ds = [dR r] ∧ r.1.length ≤ 25000 ∧ r.2.length ≤ 25000 ∧ d = .bl (toldB r)
def Rsame : List Pd → Pd → Prop := fun ds d => ∃ r s : Row, ds = [dR r, dR s] ∧ r.2 ≠ [] ∧ s.2 ≠ [] ∧ max r.1.length s.1.length + r.2.length + s.2.length ≤ 50000 ∧ d = .bl (sameB r s)
def Rrow : List Pd → Pd → Prop := fun ds d => ∃ (ns : List Int) (b : Int), ds = [.scr ns, .int b] ∧ ns.length ≤ 63 ∧ 0 ≤ b ∧ b ≤ 1000 ∧ d = dR (rowF ns b)
def Rlaw : List Pd → Pd → Prop := fun ds d => ∃ ns : List Int, ds = [.scr ns] ∧ ns.length ≤ 63 ∧ d = .bl true
end
end Lr

namespace Lr
open PySem L2
def top (i : Nat) : Stmt := PySem.Challenge.pw_leadround_k08_written.main.body.getD i (.Pass ⟨0, 0, 0, 0⟩)
abbrev mostFig : Str := "MOST"
abbrev mostTxt : Str := "MOST"
abbrev s_is_whole : Stmt := top 10
abbrev ns_is_whole : List Str := ["thing"]
theorem cs_is_whole : FnScope ns_is_whole ["thing"] (defScope s_is_whole) := ⟨rfl, rfl, rfl, by decide +kernel, rfl, by decide +kernel, by decide +kernel⟩
abbrev s_are_signs : Stmt := top 11
abbrev ns_are_signs : List Str := ["thing", "sign"]
theorem cs_are_signs : FnScope ns_are_signs ["thing"] (defScope s_are_signs) := ⟨rfl, rfl, rfl, by decide +kernel, rfl, by decide +kernel, by decide +kernel⟩
abbrev s_check_row : Stmt := top 12
abbrev ns_check_row : List Str := ["row"]
theorem cs_check_row : FnScope ns_check_row ["row"] (defScope s_check_row) := ⟨rfl, rfl, rfl, by decide +kernel, rfl, by decide +kernel, by decide +kernel⟩
abbrev s_shortest : Stmt := top 13
abbrev ns_shortest : List Str := ["circle", "many", "part"]
theorem cs_shortest : FnScope ns_shortest ["circle"] (defScope s_shortest) := ⟨rfl, rfl, rfl, by decide +kernel, rfl, by decide +kernel, by decide +kernel⟩
abbrev s_least_of : Stmt := top 14
abbrev ns_least_of : List Str := ["lead", "circle", "kept", "gone", "turn"]
theorem cs_least_of : FnScope ns_least_of ["lead", "circle"] (defScope s_least_of) := ⟨rfl, rfl, rfl, by decide +kernel, rfl, by decide +kernel, by decide +kernel⟩
abbrev s_least : Stmt := top 15
abbrev ns_least : List Str := ["row"]
theorem cs_least : FnScope ns_least ["row"] (defScope s_least) := ⟨rfl, rfl, rfl, by decide +kernel, rfl, by decide +kernel, by decide +kernel⟩
abbrev s_written : Stmt := top 19
abbrev ns_written : List Str := ["row", "lead", "circle", "ahead", "sign"]
theorem cs_written : FnScope ns_written ["row"] (defScope s_written) := ⟨rfl, rfl, rfl, by decide +kernel, rfl, by decide +kernel, by decide +kernel⟩
abbrev s_number_in : Stmt := top 20
abbrev ns_number_in : List Str := ["word", "figures"]
theorem cs_number_in : FnScope ns_number_in ["word"] (defScope s_number_in) := ⟨rfl, rfl, rfl, by decide +kernel, rfl, by decide +kernel, by decide +kernel⟩
abbrev s_read : Stmt := top 21
abbrev ns_read : List Str := ["text", "ahead", "bar", "around", "lead", "word"]
theorem cs_read : FnScope ns_read ["text"] (defScope s_read) := ⟨rfl, rfl, rfl, by decide +kernel, rfl, by decide +kernel, by decide +kernel⟩
abbrev s_law_cell_at : Stmt := top 23
abbrev ns_law_cell_at : List Str := ["_law_script", "_law_k"]
theorem cs_law_cell_at : FnScope ns_law_cell_at ["_law_script", "_law_k"] (defScope s_law_cell_at) := ⟨rfl, rfl, rfl, by decide +kernel, rfl, by decide +kernel, by decide +kernel⟩
abbrev s_law_draw : Stmt := top 24
abbrev ns_law_draw : List Str := ["_law_cell", "_law_k", "_law_many", "_law_primes"]
theorem cs_law_draw : FnScope ns_law_draw ["_law_cell", "_law_k", "_law_many"] (defScope s_law_draw) := ⟨rfl, rfl, rfl, by decide +kernel, rfl, by decide +kernel, by decide +kernel⟩
abbrev s_law_row : Stmt := top 25
abbrev ns_law_row : List Str := ["_law_script", "_law_by", "_law_most", "_law_signs", "_law_cut", "_law_lead", "_law_circle", "_law_kind", "_law_k", "_law_cell"]
theorem cs_law_row : FnScope ns_law_row ["_law_script", "_law_by"] (defScope s_law_row) := ⟨rfl, rfl, rfl, by decide +kernel, rfl, by decide +kernel, by decide +kernel⟩
abbrev s_law_sign : Stmt := top 26
abbrev ns_law_sign : List Str := ["_law_row_here", "_law_place"]
theorem cs_law_sign : FnScope ns_law_sign ["_law_row_here", "_law_place"] (defScope s_law_sign) := ⟨rfl, rfl, rfl, by decide +kernel, rfl, by decide +kernel, by decide +kernel⟩
abbrev s_law_whole : Stmt := top 27
abbrev ns_law_whole : List Str := ["_law_number_here"]
theorem cs_law_whole : FnScope ns_law_whole ["_law_number_here"] (defScope s_law_whole) := ⟨rfl, rfl, rfl, by decide +kernel, rfl, by decide +kernel, by decide +kernel⟩
abbrev s_law_told : Stmt := top 28
abbrev ns_law_told : List Str := ["_law_found", "_law_many", "_law_part", "_law_sign_here"]
theorem cs_law_told : FnScope ns_law_told ["_law_found"] (defScope s_law_told) := ⟨rfl, rfl, rfl, by decide +kernel, rfl, by decide +kernel, by decide +kernel⟩
abbrev s_law_same : Stmt := top 29
abbrev ns_law_same : List Str := ["_law_one", "_law_other", "_law_enough", "_law_place"]
theorem cs_law_same : FnScope ns_law_same ["_law_one", "_law_other"] (defScope s_law_same) := ⟨rfl, rfl, rfl, by decide +kernel, rfl, by decide +kernel, by decide +kernel⟩
abbrev s_law_number : Stmt := top 30
abbrev ns_law_number : List Str := ["_law_text_here", "_law_digits"]
theorem cs_law_number : FnScope ns_law_number ["_law_text_here"] (defScope s_law_number) := ⟨rfl, rfl, rfl, by decide +kernel, rfl, by decide +kernel, by decide +kernel⟩
abbrev s_law_in : Stmt := top 31
abbrev ns_law_in : List Str := ["_law_text_here", "_law_at", "_law_words", "_law_lead", "_law_circle", "_law_word"]
theorem cs_law_in : FnScope ns_law_in ["_law_text_here"] (defScope s_law_in) := ⟨rfl, rfl, rfl, by decide +kernel, rfl, by decide +kernel, by decide +kernel⟩
abbrev s_law_text : Stmt := top 32
abbrev ns_law_text : List Str := ["_law_row_here", "_law_first", "_law_sign_here"]
theorem cs_law_text : FnScope ns_law_text ["_law_row_here"] (defScope s_law_text) := ⟨rfl, rfl, rfl, by decide +kernel, rfl, by decide +kernel, by decide +kernel⟩
abbrev s_law_refused : Stmt := top 33
abbrev ns_law_refused : List Str := ["_law_text_here", "error", "_law_some"]
theorem cs_law_refused : FnScope ns_law_refused ["_law_text_here"] (defScope s_law_refused) := ⟨rfl, rfl, rfl, by decide +kernel, rfl, by decide +kernel, by decide +kernel⟩
abbrev s_law_right : Stmt := top 34
abbrev ns_law_right : List Str := ["_law_text_here", "_law_due", "_law_found"]
theorem cs_law_right : FnScope ns_law_right ["_law_text_here"] (defScope s_law_right) := ⟨rfl, rfl, rfl, by decide +kernel, rfl, by decide +kernel, by decide +kernel⟩
abbrev s_law_few : Stmt := top 35
abbrev ns_law_few : List Str := ["_law_some"]
theorem cs_law_few : FnScope ns_law_few [] (defScope s_law_few) := ⟨rfl, rfl, rfl, by decide +kernel, rfl, by decide +kernel, by decide +kernel⟩
abbrev s_law : Stmt := top 36
abbrev ns_law : List Str := ["_law_script", "_law_row_here", "_law_lead", "_law_circle", "_law_text_here", "_law_handed", "_law_cell", "_law_k", "_law_at", "_law_put", "_law_rest", "_law_some", "_law_thing"]
theorem cs_law : FnScope ns_law ["_law_script"] (defScope s_law) := ⟨rfl, rfl, rfl, by decide +kernel, rfl, by decide +kernel, by decide +kernel⟩
end Lr

namespace Lr
open PySem L2
open Evl (Ex)
section
variable {P : Program} {w : World} {K : PySem.W.Frag} {mg : Str → Option Value} {base : Heap} {f : Addr} {fd : FuncData}
theorem ok_is_whole (F : Fun K "is_whole" "is_whole" s_is_whole f fd) (T : Bi mg) : FnOk P w K mg base CX0 1 f fd ["thing"] (SpR K RisWhole) := by
  refine ok_R F cs_is_whole (fun ds d h => ?_) fun cdv A outer s M H vs ds d Q E hr h k q => ?_
  · obtain ⟨x, rfl, _⟩ := h
    rfl
  · obtain ⟨x, rfl, hx, rfl⟩ := h
    refine blk_ret (ee_and (ee_isi (ee_var 0) T.isinstance T.int (kit_int x hx) hx) fun _ => ee_one (ee_not (ee_isi (ee_var 0) T.isinstance T.bool (kit_bool x hx) hx))) k fun v H' e1 h1 => q v H' e1 ?_
    rw [whole_and] at h1
    exact h1
theorem ok_are_signs (F : Fun K "are_signs" "are_signs" s_are_signs f fd) (T : Bi mg) (h1 : H0 P w K mg base "is_whole" 1 ["thing"] (SpR K RisWhole)) : FnOk P w K mg base CX0 2 f fd ["thing"] (SpR K RareSigns) := by
  refine ok_R F cs_are_signs (fun ds d h => ?_) fun cdv A outer s M H vs ds d Q E hr h k q => ?_
  · obtain ⟨x, rfl, _⟩ := h
    rfl
  · have hr1 : Room 1 _ := hr.mono (Nat.le_refl _)
    obtain ⟨x, rfl, ⟨l, rfl, hz, hl, rfl⟩ | ⟨hx, hx2, hx3, rfl⟩⟩ := h
    · refine blk_ret (ee_and (ee_isi (d := .lst l) (ee_var 0) T.isinstance T.list (k := true) (Tn := "list") kit_ll nn_list) fun _ => ee_one (ee_all (bs := l.map wholeP) rfl (EF.ee ((ef_lc (n := l.length) (jx := 1) (Yd := fun i => l.getD i .non) (f := fun i => .bl (wholeP (l.getD i .non))) rfl cs_are_signs.nd
        (iw_list (ee_var 0) fun i hi => getD_some i hi) (blkOk_by (N := ns_are_signs) (sc := defScope s_are_signs) (own := [("sign", 1)]) (by decide +kernel)) (fun _ _ _ _ _ => pg_name cs_are_signs.nd rfl (Or.inl rfl)) (by decide) hz (fun i _ => flat_bl)
        (fun s' H' C cl fp i hi => ee_call h1 hr1 pass0 (ea_cons (ee_var 1) ea_nil) ⟨_, rfl, hl _ (List.mem_of_getElem? (getD_some i hi)), rfl⟩)).is (by
          rw [range_map l .non (fun e => Pd.bl (wholeP e)), List.map_map]
          rfl))) T.all)) k fun v H' e1 g => q v H' e1 ?_
      rw [all_map_id] at g
      exact g
    · have hk : kitB (tyN x) "list" = some false := by
        cases x with
        | raw v => exact absurd rfl hx3
        | obj _ _ _ => exact absurd rfl hx3
        | non => show kitB "NoneType" "list" = some false; decide +kernel
        | bl b => show kitB "bool" "list" = some false; decide +kernel
        | int b => show kitB "int" "list" = some false; decide +kernel
        | str b => show kitB "str" "list" = some false; decide +kernel
        | lst b => exact absurd rfl (hx b)
        | scr b => exact absurd rfl (hx2 b)
        | tup b => show kitB "tuple" "list" = some false; decide +kernel
        | dic b => show kitB "dict" "list" = some false; decide +kernel
        | lam _ _ _ _ => exact absurd rfl hx3
      exact blk_ret (ee_and (l := false) (ee_isi (ee_var 0) T.isinstance T.list hk hx3) fun z => Bool.noConfusion z) k fun v H' e1 g => q v H' e1 g
theorem ok_check_row (F : Fun K "check_row" "check_row" s_check_row f fd) (T : Bi mg) (h1 : H0 P w K mg base "are_signs" 2 ["thing"] (SpR K RareSigns)) : FnOk P w K mg base CX0 3 f fd ["row"] (SpR K RcheckRow) := by
  refine ok_R F cs_check_row (fun ds d h => ?_) fun cdv A outer s M H vs ds d Q E hr h k q => ?_
  · obtain ⟨x, rfl, _⟩ := h
    rfl
  · obtain ⟨r, rfl, hne, l1, l2, rfl⟩ := h
    refine blk_no ((et_w (ew_or (et_not (et_val (ee_isi (d := dR r) (ee_var 0) T.isinstance T.tuple (k := true) (Tn := "tuple") kit_tt nn_tuple))) fun _ => ew_or (et_ne eqI hr (ee_lenT (ee_var 0) T.len) ee_int) fun _ =>
      ew_or (et_not (et_val (ee_call h1 hr pass0 (ea_cons (ee_r0 (ee_var 0)) ea_nil) (signs_ints l1)))) fun _ => ew_or1 (et_not (et_val (ee_call h1 hr pass0 (ea_cons (ee_r1 (ee_var 0)) ea_nil) (signs_ints l2)))))).is (by rfl)) k fun H1 e1 k1 => ?_
    refine blk_no ((et_eq eqI hr (ee_lenI (ee_r1 (ee_var 0)) T.len) ee_int).is (decide_eq_false (by
      have := List.length_pos_iff.mpr hne
      omega))) k1 fun H2 e2 k2 => blk_nil ?_
    exact q _ H2 k2.ex .non
end
end Lr

namespace Lr
open PySem L2
open Evl (Ex)
section
variable {P : Program} {w : World} {K : PySem.W.Frag} {mg : Str → Option Value} {base : Heap} {f : Addr} {fd : FuncData}
theorem ok_shortest (F : Fun K "shortest" "shortest" s_shortest f fd) (T : Bi mg) : FnOk P w K mg base CX0 1 f fd ["circle"] (SpF K Rshort) := by
  refine ok_F F cs_shortest (fun ds d h => ?_) fun cdv A outer s M H vs ds zs Q E hr h k q => ?_
  · obtain ⟨x, rfl, _⟩ := h
    rfl
  · obtain ⟨c, rfl, hz, rfl⟩ := h
    have nd := cs_shortest.nd
    refine blk_set nd 1 (ee_lenI (ee_var 0) T.len) k fun σ1 H1 e1 k1 => ?_
    refine blk_for nd 2 PassesOwn.never rfl (iw_range2 ee_int (ee_var 1) (by omega) (by omega) T.range) k1 (fun B i σ' H' => EO K M B H' σ' [some (dL c), some (.int c.length), none] ∧ ∀ e, e < i → isPart c (e + 1) = false)
      (fun B i σ' H' p => ⟨exM p.1.ex, p.1.kn.al⟩) (fun H2 e2 k2 => ⟨⟨Evl.Ex.refl _, k2.kn⟩, fun e he => by omega⟩) (fun B i v σ' H' H2 hi eB p e2 h2 => ?_) (fun B σ' H' eB p => ?_)
    · have hi' : i < c.length - 1 := by omega
      have h3 : Dt K M H2 v (.int ((i + 1 : Nat) : Int)) := by
        have e : (1 : Int) + (i : Int) = ((i + 1 : Nat) : Int) := by omega
        rw [← e]
        exact h2
      have k2 := (p.1.mono e2).set 2 h3
      refine blk_when ((et_w (ew_and (et_eq eqI hr (ee_mod (ee_var 1) (ee_var 2) (by omega)) ee_int) fun hd => ew_and1 (et_eq eqL hr (ee_var 0) (EF.ee (ef_repI (EF.ee (ef_cutI (ee_var 0) ep_none (ep_some (ee_var 2)))) (ee_div (ee_var 1) (ee_var 2) ⟨by omega, by omega⟩) (Int.ediv_nonneg (by omega) (by omega))
        (Int.le_trans (Int.ediv_le_self _ (by omega)) (by omega)) ?_))))).is (isPart_eq (by omega))) k2 (fun ht H3 e3 k3 => ?_) (fun ht H3 e3 k3 => ?_)
      · have hd := of_decide_eq_true hd
        rw [cut_to, List.length_take, ← Int.natCast_ediv, Int.toNat_natCast]
        refine Nat.le_trans (Nat.mul_le_mul_right _ (Nat.min_le_left _ _)) ?_
        exact Nat.le_trans (Nat.mul_div_le _ _) (by omega)
      · refine blk_retF (ef_cutI (ee_var 0) ep_none (ep_some (ee_var 2))) (k3.base (k1.ex.trans eB)) fun a xs H4 n4 e4 h4 h5 => q a xs H4 n4 e4 h4 ?_
        rw [cut_to] at h5
        rw [short_at hi' ht p.2]
        exact h5
      · refine blk_nil ⟨k3.lose 2, fun e he => ?_⟩
        by_cases hee : e = i
        · rw [hee]
          exact ht
        · exact p.2 e (by omega)
    · refine blk_retF (ef_list (ee_var 0) T.list) (p.1.base (k1.ex.trans eB)) fun a xs H4 n4 e4 h4 h5 => q a xs H4 n4 e4 h4 ?_
      rw [short_none fun e he => p.2 e (by omega)]
      exact h5
theorem ok_least_of (F : Fun K "least_of" "least_of" s_least_of f fd) (T : Bi mg) (h1 : H0 P w K mg base "shortest" 1 ["circle"] (SpF K Rshort)) : FnOk P w K mg base CX0 2 f fd ["lead", "circle"] (SpW K RleastOf) := by
  refine ok_W F cs_least_of (fun ds d h => ?_) fun cdv A outer s M H vs ds r Q E hr h k q => ?_
  · obtain ⟨l, c, rfl, _⟩ := h
    rfl
  · obtain ⟨l, c, rfl, hc, hl, hz, rfl⟩ := h
    have nd := cs_least_of.nd
    have hs := short_ne hc
    have hsl := short_le c
    have hsp : 0 < (short c).length := List.length_pos_iff.mpr hs
    refine blk_set nd 1 (EF.ee (ef_call h1 hr pass0 (ea_cons (ee_var 1) ea_nil) ⟨c, rfl, hz, rfl⟩)) k fun σ1 H1 e1 k1 => ?_
    refine blk_set nd 2 (ee_lenI (ee_var 0) T.len) k1 fun σ2 H2 e2 k2 => ?_
    refine blk_set nd 3 ee_int k2 fun σ3 H3 e3 k3 => ?_
    refine blk_while PassesOwn.never (fun m σ' H' => m ≤ l.length ∧ keepF l (short c) l.length = keepF l (short c) m ∧ EO K M H H' σ' [some (dL l), some (dL (short c)), some (.int (m : Int)), some (.int ((l.length : Int) - m)), none]) l.length
      ⟨Nat.le_refl _, rfl, by rw [Int.sub_self]; exact k3⟩ fun m σ' H' p => ?_
    obtain ⟨p1, p2, p3⟩ := p
    refine ⟨_, _, M, p3.kn, et_w (ew_and (l := decide (l.getD (m - 1) 0 = cz (short c) (-1 - ((l.length : Int) - m)))) (et_gt (ee_var 2) ee_int) fun hd => ew_and1 (et_eq eqI hr (ee_ixI (ee_var 0) (ee_sub (ee_var 2) ee_int) (atI_at (j := m - 1) ?_ ?_))
      (ee_ixI (ee_var 1) (ee_mod (ee_sub (ee_neg ee_int) (ee_var 3)) (ee_lenI (ee_var 1) T.len) (by omega)) (atI_cz hs _)))), fun ht H4 e4 => ?_, fun ht H4 e4 => ?_⟩
    · have := of_decide_eq_true hd
      omega
    · have := of_decide_eq_true hd
      omega
    · rw [Bool.and_eq_true, decide_eq_true_iff, decide_eq_true_iff] at ht
      obtain ⟨t1, t2⟩ := ht
      refine blk_aug nd 2 (f := fun i j => i - j) ip_sub rfl ee_int (p3.mono e4) fun σ5 H5 e5 k5 => blk_aug nd 3 (f := fun i j => i + j) ip_add rfl ee_int k5 fun σ6 H6 e6 k6 => blk_nil ⟨m - 1, by omega, by omega, ?_, ?_⟩
      · rw [p2]
        obtain ⟨j, rfl⟩ : ∃ j, m = j + 1 := ⟨m - 1, by omega⟩
        rw [Nat.add_sub_cancel] at t2 ⊢
        conv => lhs; unfold keepF
        exact if_pos t2
      · have a1 : (m : Int) - 1 = ((m - 1 : Nat) : Int) := by omega
        have a2 : (l.length : Int) - m + 1 = (l.length : Int) - ((m - 1 : Nat) : Int) := by omega
        rw [← a1]
        rw [← a1] at a2
        rw [← a2]
        exact k6
    · have fin : keepF l (short c) l.length = m := by
        rw [p2]
        by_cases hm : m = 0
        · rw [hm]
          rfl
        · obtain ⟨j, rfl⟩ : ∃ j, m = j + 1 := ⟨m - 1, by omega⟩
          unfold keepF
          refine if_neg fun z => ?_
          have z2 : l.getD j 0 = cz (short c) (-1 - ((l.length : Int) - ((j + 1 : Nat) : Int))) := by
            rw [Int.natCast_succ]
            exact z
          rw [Nat.add_sub_cancel, decide_eq_true (show (0 : Int) < ((j + 1 : Nat) : Int) by omega), decide_eq_true z2] at ht
          cases ht
      have hm : m ≤ l.length := p1
      refine blk_set nd 4 (ee_mod (ee_neg (ee_var 3)) (ee_lenI (ee_var 1) T.len) (by omega)) (p3.mono e4) fun σ5 H5 e5 k5 => ?_
      have tl := turnF_lt hs ((l.length : Int) - m)
      have et : -((l.length : Int) - m) % ((short c).length : Int) = ((turnF (short c) ((l.length : Int) - m) : Nat) : Int) := by
        unfold turnF
        exact (Int.toNat_of_nonneg (Int.emod_nonneg _ (by omega))).symm
      refine blk_retW (r := leastF (l, c)) ((ew_tup (ef_cutI (ee_var 0) ep_none (ep_some (ee_var 2))) (ef_catI (EF.ee (ef_cutI (ee_var 1) (ep_some (ee_var 4)) ep_none)) (EF.ee (ef_cutI (ee_var 1) ep_none (ep_some (ee_var 4)))) ?_)).is ?_) k5 q
      · refine Nat.le_trans (Nat.add_le_add (cut_len _ _ _) (cut_len _ _ _)) (by omega)
      · rw [et, cut_to, cut_to, cut_from]
        unfold leastF
        dsimp only
        rw [fin]
        rfl
end
end Lr

namespace Lr
open PySem L2
open Evl (Ex)
section
variable {P : Program} {w : World} {K : PySem.W.Frag} {mg : Str → Option Value} {base : Heap} {f : Addr} {fd : FuncData}
theorem ok_least (F : Fun K "least" "least" s_least f fd) (h1 : H0 P w K mg base "check_row" 3 ["row"] (SpR K RcheckRow)) (h2 : H0 P w K mg base "least_of" 2 ["lead", "circle"] (SpW K RleastOf)) : FnOk P w K mg base CX0 4 f fd ["row"] (SpW K Rleast) := by
  refine ok_W F cs_least (fun ds d h => ?_) fun cdv A outer s M H vs ds r Q E hr h k q => ?_
  · obtain ⟨l, rfl, _⟩ := h
    rfl
  · obtain ⟨r, rfl, a1, a2, a3, rfl⟩ := h
    refine blk_drop (ee_call h1 hr pass0 (ea_cons (ee_var 0) ea_nil) ⟨r, rfl, a1, a2, a3, rfl⟩) k fun H1 e1 k1 => ?_
    exact blk_retW (ew_call h2 (hr.mono (by decide)) pass0 (ea_cons (ee_r0 (ee_var 0)) (ea_cons (ee_r1 (ee_var 0)) ea_nil)) ⟨r.1, r.2, rfl, a1, a2, a3, rfl⟩) k1 q
end
end Lr

namespace Lr
open PySem L2
open Evl (Ex)
section
variable {P : Program} {w : World} {K : PySem.W.Frag} {mg : Str → Option Value} {base : Heap} {f : Addr} {fd : FuncData}
theorem ok_cell (F : Fun K "_law_cell_at" "_law_cell_at" s_law_cell_at f fd) (T : Bi mg) : FnOk P w K mg base CX0 1 f fd ["_law_script", "_law_k"] (SpR K Rcell) := by
  refine ok_R F cs_law_cell_at (fun ds d h => ?_) fun cdv A outer s M H vs ds d Q E hr h k q => ?_
  · obtain ⟨x, j, rfl, _⟩ := h
    rfl
  · obtain ⟨ns, j, rfl, rfl⟩ := h
    refine blk_when (et_lt (ee_var 1) (ee_lenS (ee_var 0) T.len)) k (fun ht H1 e1 k1 => ?_) (fun ht H1 e1 k1 => ?_)
    · have ht := of_decide_eq_true ht
      exact blk_ret (ee_ixS (ee_var 0) (ee_var 1) (atI_at rfl (by omega))) k1 q
    · have ht := of_decide_eq_false ht
      refine blk_ret ee_int k1 fun v H2 e2 h2 => q v H2 e2 ?_
      rw [List.getD_eq_getElem?_getD, List.getElem?_eq_none (by omega)]
      exact h2
theorem ok_draw (F : Fun K "_law_draw" "_law_draw" s_law_draw f fd) : FnOk P w K mg base CX0 1 f fd ["_law_cell", "_law_k", "_law_many"] (SpR K Rdraw) := by
  refine ok_R F cs_law_draw (fun ds d h => ?_) fun cdv A outer s M H vs ds d Q E hr h k q => ?_
  · obtain ⟨x, j, _, rfl, _⟩ := h
    rfl
  · obtain ⟨c, j, m, rfl, hm, hj, hj2, rfl⟩ := h
    refine blk_set cs_law_draw.nd 3 (ee_tup (ea_cons ee_int (ea_cons ee_int (ea_cons ee_int (ea_cons ee_int (ea_cons ee_int (ea_cons ee_int (ea_cons ee_int (ea_cons ee_int (ea_cons ee_int (ea_cons ee_int (ea_cons ee_int (ea_cons ee_int (ea_cons ee_int (ea_cons ee_int (ea_cons ee_int (ea_cons ee_int ea_nil))))))))))))))))) k fun σ1 H1 e1 k1 => ?_
    have b1 := Int.emod_nonneg j (show (16 : Int) ≠ 0 by decide)
    have b2 := Int.emod_lt_of_pos j (show (0 : Int) < 16 by decide)
    have hat : atI (primesL.map Pd.int) (j % 16) = some (.int (primesL.getD (j % 16).toNat 0)) := by
      rw [atI_map, atI_at (l := primesL) (j := (j % 16).toNat) (by omega) (by show _ < 16; omega)]
      rfl
    refine blk_ret (ee_mod (ee_mod (ee_add (ee_mul (ee_var 0) ee_int (.inr (by decide))) (ee_mul (ee_var 1) ee_int (.inr (by decide)))) (ee_ixT (ee_var 3) (ee_mod (ee_var 1) ee_int (by decide)) hat) prime_pos) (ee_var 2) hm) k1 q
theorem ok_row (F : Fun K "_law_row" "_law_row" s_law_row f fd) (T : Bi mg) (h1 : H0 P w K mg base "_law_cell_at" 1 ["_law_script", "_law_k"] (SpR K Rcell)) (h2 : H0 P w K mg base "_law_draw" 1 ["_law_cell", "_law_k", "_law_many"] (SpR K Rdraw)) :
    FnOk P w K mg base CX0 2 f fd ["_law_script", "_law_by"] (SpR K Rrow) := by
  refine ok_R F cs_law_row (fun ds d h => ?_) fun cdv A outer s M H vs ds d Q E hr h k q => ?_
  · obtain ⟨x, y, rfl, _⟩ := h
    rfl
  · have hr1 : Room 1 _ := hr
    obtain ⟨ns, b, rfl, hn, hb0, hb1, rfl⟩ := h
    have nd := cs_law_row.nd
    refine blk_set nd 2 (ee_ixT (ee_tup (ea_cons ee_int (ea_cons ee_int (ea_cons ee_int (ea_cons ee_int ea_nil))))) (ee_call h2 hr1 pass0 (ea_cons (ee_call h1 hr1 pass0 (ea_cons (ee_var 0) (ea_cons ee_int ea_nil)) ⟨ns, 0, rfl, rfl⟩) (ea_cons (ee_var 1) (ea_cons ee_int ea_nil)))
      ⟨_, _, _, rfl, by decide, hb0, by omega, rfl⟩) (most_at ns b)) k fun σ1 H1 e1 k1 => ?_
    refine blk_setLc2 (n := ns.length) (jx := 8) (jy := 9) (Ya := fun i => .int i) (Yb := fun i => .int (ns.getD i 0)) (f := fun i => .int (drawF (ns.getD i 0) ((i : Int) % 5 + b) (mostF ns b) - mostF ns b / 3)) nd 3 rfl (iw_enumS (f := fun i => ns.getD i 0) (ee_var 0) (fun i hi => getD_some i hi) T.enumerate)
      (blkOk_by (N := ns_law_row) (sc := defScope s_law_row) (own := [("_law_k", 8), ("_law_cell", 9)]) (by decide +kernel)) (fun _ _ _ _ _ => pg_tup rfl (pgs_cons (pg_name nd rfl (Or.inl rfl)) (pgs_cons (pg_name nd rfl (Or.inl rfl)) pgs_nil))) (by decide) (by decide) (by omega) (fun i _ => flat_int)
      (fun s' H' C cl fp i hi => ee_sub (ee_call h2 hr1 pass0 (ea_cons (ee_var 9) (ea_cons (ee_add (ee_mod (ee_var 8) ee_int (by decide)) (ee_var 1)) (ea_cons (ee_var 2) ea_nil))) ⟨_, _, _, rfl, most_pos ns b, by omega, by omega, rfl⟩) (ee_div (ee_var 2) ee_int ⟨by decide, by decide⟩)) k1 fun a xs H2 n2 e2 g1 g2 k2' => ?_
    have g3 : DtAll K (a :: M) H2 xs ((signsF ns b).map .int) := by
      unfold signsF
      rw [List.map_map]
      exact g2
    have k2 := k2'.set 3 (dt_fr k1.kn.al n2 g1 g3)
    have hsl := signs_len ns b
    refine blk_when (et_eq eqI hr (ee_mod (ee_lenS (ee_var 0) T.len) ee_int (by decide)) ee_int) k2 (fun ht H3 e3 k3 => ?_) (fun ht H3 e3 k3 => ?_)
    · have ht := of_decide_eq_true ht
      have ecut : cutP ns (some 1) none = ns.drop 1 := cut_from ns 1
      refine blk_setLc (n := (ns.drop 1).length) (jx := 9) (Yd := fun i => .int ((ns.drop 1).getD i 0)) (f := fun i => .int (greatF ((ns.drop 1).getD i 0))) nd 3 rfl (iw_listI (ns := ns.drop 1) (f := fun i => (ns.drop 1).getD i 0) ((EF.ee (ef_cutS (ee_var 0) (ep_some ee_int) ep_none)).is (by rw [ecut])) (fun i hi => getD_some i hi)) (blkOk_by (N := ns_law_row) (sc := defScope s_law_row) (own := [("_law_cell", 9)]) (by decide +kernel)) (fun _ _ _ _ _ => pg_name nd rfl (Or.inl rfl)) (by decide) (by rw [List.length_drop]; omega) (fun i _ => flat_int)
        (fun s' H' C cl fp i hi => ee_mul (ee_mod (ee_div (ee_var 9) ee_int ⟨by decide, by decide⟩) ((ee_pow ee_int ee_int (by unfold CPow; decide)).is (congrArg Pd.int pow60)) (by decide)) (ee_sub ee_int (ee_mul (ee_mod (ee_var 9) ee_int (by decide)) ee_int (.inr (by decide)))) (.inr (by omega))) k3 fun a xs H4 n4 e4 g4 g5 k4' => ?_
      have g6 : DtAll K (a :: M) H4 xs (((ns.drop 1).map greatF).map .int) := by
        have := range_map (ns.drop 1) 0 (fun c => Pd.int (greatF c))
        rw [this] at g5
        rw [List.map_map]
        exact g5
      have k4 := k4'.set 3 (dt_fr k3.kn.al n4 g4 g6)
      have hl : ((ns.drop 1).map greatF).length = (ns.drop 1).length := List.length_map _
      have c1 := Int.emod_nonneg (ns.getD 0 0) (show (((ns.drop 1).length : Int) + 1) ≠ 0 by omega)
      refine blk_set nd 4 ((ee_mod (ee_ixS (ee_var 0) ee_int (atI_at (j := 0) rfl (by omega))) (ee_add (ee_lenI (ee_var 3) T.len) ee_int) (by omega)).is (z := .int (ns.getD 0 0 % (((ns.drop 1).length : Int) + 1))) (by rw [hl])) k4 fun σ5 H5 e5 k5 => ?_
      have ec : ns.getD 0 0 % (((ns.drop 1).length : Int) + 1) = (((ns.getD 0 0 % (((ns.drop 1).length : Int) + 1)).toNat : Nat) : Int) := (Int.toNat_of_nonneg c1).symm
      refine blk_ret (d := .tup [dL (((ns.drop 1).map greatF).take (ns.getD 0 0 % (((ns.drop 1).length : Int) + 1)).toNat), dL (if ns.getD 0 0 % (((ns.drop 1).length : Int) + 1) < ((ns.drop 1).length : Int) then ((ns.drop 1).map greatF).drop (ns.getD 0 0 % (((ns.drop 1).length : Int) + 1)).toNat else [b % 2])])
        (ee_tup (ea_cons ((EF.ee (ef_cutI (ee_var 3) ep_none (ep_some (ee_var 4)))).is (by rw [ec, cut_to, ← ec])) (ea_cons (ee_if (et_lt (ee_var 4) (ee_lenI (ee_var 3) T.len)) (fun hc => (EF.ee (ef_cutI (ee_var 3) (ep_some (ee_var 4)) ep_none)).is ?_) (fun hc => (EF.ee (ef_lst (ea_cons (ee_mod (ee_var 1) ee_int (by decide)) ea_nil))).is ?_)) ea_nil))) k5 fun v H6 e6 g => q v H6 e6 ?_
      · have hc := of_decide_eq_true hc
        rw [hl] at hc
        rw [if_pos hc, ec, cut_from, ← ec]
      · have hc := of_decide_eq_false hc
        rw [hl] at hc
        rw [if_neg hc]
        rfl
      · have er : dR (rowF ns b) = .tup [dL (((ns.drop 1).map greatF).take (ns.getD 0 0 % (((ns.drop 1).length : Int) + 1)).toNat), dL (if ns.getD 0 0 % (((ns.drop 1).length : Int) + 1) < ((ns.drop 1).length : Int) then ((ns.drop 1).map greatF).drop (ns.getD 0 0 % (((ns.drop 1).length : Int) + 1)).toNat else [b % 2])] := by
          unfold rowF
          rw [if_pos ht]
        rw [er]
        exact g
    · have ht := of_decide_eq_false ht
      have m1 : (0 : Int) < (ns.length : Int) + 1 := by omega
      refine blk_set nd 4 (ee_call h2 hr1 pass0 (ea_cons (ee_call h1 hr1 pass0 (ea_cons (ee_var 0) (ea_cons ee_int ea_nil)) ⟨ns, 1, rfl, rfl⟩) (ea_cons (ee_add (ee_var 1) ee_int) (ea_cons (ee_add (ee_lenS (ee_var 0) T.len) ee_int) ea_nil))) ⟨_, _, _, rfl, m1, by omega, by omega, rfl⟩) k3 fun σ4 H4 e4 k4 => ?_
      have c1 := draw_nn (c := ns.getD 1 0) (k := b + 1) m1
      generalize hcut : drawF (ns.getD 1 0) (b + 1) ((ns.length : Int) + 1) = cut at c1 k4
      have ec : cut = ((cut.toNat : Nat) : Int) := (Int.toNat_of_nonneg c1).symm
      generalize hS : signsF ns b = S at hsl k4
      refine blk_par nd 5 6 rfl ((EF.ee (ef_cutI (ee_var 3) ep_none (ep_some (ee_var 4)))).is (z := dL (S.take cut.toNat)) (by rw [ec, cut_to, ← ec])) ((EF.ee (ef_cutI (ee_var 3) (ep_some (ee_var 4)) ep_none)).is (z := dL (S.drop cut.toNat)) (by rw [ec, cut_from, ← ec])) k4 fun σ5 H5 e5 k5 => ?_
      refine blk_set nd 7 (ee_call h2 hr1 pass0 (ea_cons (ee_call h1 hr1 pass0 (ea_cons (ee_var 0) (ea_cons ee_int ea_nil)) ⟨ns, 2, rfl, rfl⟩) (ea_cons (ee_add (ee_var 1) ee_int) (ea_cons ee_int ea_nil))) ⟨_, _, _, rfl, by decide, by omega, by omega, rfl⟩) k5 fun σ6 H6 e6 k6 => ?_
      generalize hkind : drawF (ns.getD 2 0) (b + 2) 5 = kind at k6
      refine blk_ifSet (d := dL (circ0 S b cut)) nd 6 (et_eq eqL hr (ee_var 6) ee_nilL) (fun hc => (EF.ee (ef_lst (ea_cons (ee_mod (ee_var 1) ee_int (by decide)) ea_nil))).is ?_) (fun hc => ?_) k6 fun σ7 H7 e7 k7 => ?_
      · unfold circ0
        rw [if_pos (of_decide_eq_true hc)]
        rfl
      · unfold circ0
        rw [if_neg (of_decide_eq_false hc)]
        rfl
      have c0l : (circ0 S b cut).length ≤ 63 := by
        have := circ0_len S b cut
        omega
      generalize hc0 : circ0 S b cut = c0 at k7 c0l
      have l0l : (S.take cut.toNat).length ≤ 63 := by
        rw [List.length_take]
        omega
      generalize hl0 : S.take cut.toNat = l0 at k7 l0l
      have eq4 : (1 : Int) + (c0.length : Int) / 4 = ((1 + c0.length / 4 : Nat) : Int) := by omega
      refine blk_ifSet (d := dL (if kind = 1 then rep (c0.take (1 + c0.length / 4)) 3 else c0)) nd 6 (et_eq eqI hr (ee_var 7) ee_int) (fun hc => (EF.ee (ef_repI (EF.ee (ef_cutI (ee_var 6) ep_none (ep_some (ee_add ee_int (ee_div (ee_lenI (ee_var 6) T.len) ee_int ⟨by decide, by decide⟩))))) ee_int (by decide) (by decide) ?_)).is ?_) (fun hc => ?_) k7 fun σ8 H8 e8 k8 => ?_
      · refine Nat.le_trans (Nat.mul_le_mul_right _ (cut_len _ _ _)) ?_
        show c0.length * 3 ≤ _
        omega
      · rw [if_pos (of_decide_eq_true hc), eq4, cut_to]
        rfl
      · rw [if_neg (of_decide_eq_false hc)]
        rfl
      have c1l : (if kind = 1 then rep (c0.take (1 + c0.length / 4)) 3 else c0).length ≤ 200 := by
        split
        · rw [rep_len, List.length_take]
          omega
        · omega
      generalize hc1 : (if kind = 1 then rep (c0.take (1 + c0.length / 4)) 3 else c0) = c1 at k8 c1l
      have eq2 : (c1.length : Int) / 2 = ((c1.length / 2 : Nat) : Int) := by omega
      refine blk_ifSet (d := dL (if kind = 2 then l0 ++ c1.drop (c1.length / 2) else l0)) nd 5 (et_eq eqI hr (ee_var 7) ee_int) (fun hc => (EF.ee (ef_catI (ee_var 5) (EF.ee (ef_cutI (ee_var 6) (ep_some (ee_div (ee_lenI (ee_var 6) T.len) ee_int ⟨by decide, by decide⟩)) ep_none)) ?_)).is ?_) (fun hc => ?_) k8 fun σ9 H9 e9 k9 => ?_
      · have := cut_len c1 (some ((c1.length : Int) / 2)) none
        omega
      · rw [if_pos (of_decide_eq_true hc), eq2, cut_from]
      · rw [if_neg (of_decide_eq_false hc)]
        rfl
      have l1l : (if kind = 2 then l0 ++ c1.drop (c1.length / 2) else l0).length ≤ 300 := by
        split
        · rw [List.length_append, List.length_drop]
          omega
        · omega
      generalize hl1 : (if kind = 2 then l0 ++ c1.drop (c1.length / 2) else l0) = l1 at k9 l1l
      refine blk_ifSet (d := dL (if kind = 3 then c1 ++ c1 else c1)) nd 6 (et_eq eqI hr (ee_var 7) ee_int) (fun hc => (EF.ee (ef_catI (ee_var 6) (ee_var 6) (by omega))).is ?_) (fun hc => ?_) k9 fun σ10 H10 e10 k10 => ?_
      · rw [if_pos (of_decide_eq_true hc)]
      · rw [if_neg (of_decide_eq_false hc)]
        rfl
      have d1 := draw_nn (c := ns.getD 2 0) (k := b + 3) (show (0 : Int) < 4 by decide)
      have d2 := draw_lt (c := ns.getD 2 0) (k := b + 3) (show (0 : Int) < 4 by decide)
      refine blk_ifSet (d := dL (if kind = 4 then rep l1 (1 + drawF (ns.getD 2 0) (b + 3) 4).toNat else l1)) nd 5 (et_eq eqI hr (ee_var 7) ee_int) (fun hc => (EF.ee (ef_repI (ee_var 5) (ee_add ee_int (ee_call h2 hr1 pass0 (ea_cons (ee_call h1 hr1 pass0 (ea_cons (ee_var 0) (ea_cons ee_int ea_nil)) ⟨ns, 2, rfl, rfl⟩) (ea_cons (ee_add (ee_var 1) ee_int) (ea_cons ee_int ea_nil))) ⟨_, _, _, rfl, by decide, by omega, by omega, rfl⟩)) (by omega) (by omega) ?_)).is ?_) (fun hc => ?_) k10 fun σ11 H11 e11 k11 => ?_
      · have h4 : (1 + drawF (ns.getD 2 0) (b + 3) 4).toNat ≤ 4 := by omega
        exact Nat.le_trans (Nat.mul_le_mul l1l h4) (by omega)
      · rw [if_pos (of_decide_eq_true hc)]
        rfl
      · rw [if_neg (of_decide_eq_false hc)]
        rfl
      refine blk_ret (ee_tup (ea_cons (ee_var 5) (ea_cons (ee_var 6) ea_nil))) k11 fun v H12 e12 g => q v H12 e12 ?_
      have er : dR (rowF ns b) = .tup [dL (if kind = 4 then rep l1 (1 + drawF (ns.getD 2 0) (b + 3) 4).toNat else l1), dL (if kind = 3 then c1 ++ c1 else c1)] := by
        unfold rowF
        rw [if_neg ht]
        dsimp only
        rw [hS, hcut, hkind, hc0, hl0, hc1, hl1]
      rw [er]
      exact g
end
end Lr

/-! texts.py walked -/
namespace Lr
open PySem L2
open Evl (Ex)
abbrev tx (t : Tx) : Pd := .str (S8 t)
theorem l40 : Str.ofString "(" = S8 [40] := lit rfl
theorem l41 : Str.ofString ")" = S8 [41] := lit rfl
theorem l32 : Str.ofString " " = S8 [32] := lit rfl
theorem l45 : Str.ofString "-" = S8 [45] := lit rfl
theorem l48 : Str.ofString "0" = S8 [48] := lit rfl
theorem l00 : Str.ofString "" = S8 [] := lit rfl
theorem EW.is {X : Cx} {e : Expr} {δ : Dl} {p q : Bool} (h : EW X e δ p) (w : p = q) : EW X e δ q := w ▸ h
section
variable {X : Cx} {δ : Dl} {a b c e o : Expr} {es : List Expr} {rest : List Stmt} {pos p p1 p2 : Pos} {x : Str} {D : Ends} {M : List Addr} {Hb H : Hp} {σ : L2.St} {d : Pd}
/-- a text that stands there -/
theorem ee_tx {s : Str} {t : Tx} {j : Nat} (h : s = S8 t) : EE X (.Constant (.str s) j pos) δ (tx t) := h ▸ ee_str
/-- a module's text -/
theorem ee_globS {s : Str} {t : Nat} (hm : X.mg x = some (.str s t)) (hg : Gl X x := by rfl) (hd : (x == ("__debug__" : Str)) = false := by decide) : EE X (.Name x p) δ (.str s) := fun M σ H _ Q q =>
  ⟨_, pe_glob (v := .str s) hg hm ⟨t, rfl⟩ hd, q _ H (Evl.Ex.refl H) (.str s)⟩
/-- return (name, e): the name's list is new as well -/
theorem blk_retW1 {l m : List Int} {i : Nat} {u : Addr} {x1 : Nat} (hσ : σ[i]? = some (some (.ref u))) (hu : Hb u = none) (hl : H u = some (.lst (l.map V.int))) (hb : EF X b δ (m.map .int)) (k : EO X.K M Hb H σ δ)
    (q : ∀ p a b H', Hb p = none → Hb a = none → Hb b = none → a ≠ b → Ex Hb H' → H' p = some (.tup [.ref a, .ref b]) → H' a = some (.lst (l.map V.int)) → H' b = some (.lst (m.map V.int)) → D.rt (.ref p) H')
    (hN : X.N[i]? = some x := by rfl) (hv : Vis X.env.scope x := by first | exact Or.inl rfl | exact Or.inr (Or.inl rfl)) (hd : (x == ("__debug__" : Str)) = false := by decide) (hcd : (x == ("__classdict__" : Str)) = false := by decide)
    (he : starEach [.Name x p1, b] X.env = (false, eval (.Name x p1) X.env) :: starEach [b] X.env := by rfl) (he2 : starEach [b] X.env = (false, eval b X.env) :: starEach [] X.env := by rfl) :
    Blk X (.Return (some (.Tuple [.Name x p1, b] x1 p2)) pos :: rest) D σ H :=
  ⟨_, pss_cons (ps_ret (pe_tup (pa_cons (pe_var hN hv hd hcd) (pa_cons pe_w pa_nil he2) he))) (u := tNever) pss_never, ⟨.ref u, hσ, hb M σ H k.kn _ fun w ys H2 hn2 e2 h3 h4 => ⟨by show 2 ≤ sizeLine; decide, fun p hp => by
    rw [dtI_inv h4] at h3
    have n1 : u ≠ p := ne_of_none (e2 _ _ hl) hp
    have n2 : w ≠ p := ne_of_none h3 hp
    refine q p u w _ (Evl.fresh_back (k.ex.trans e2) hp) hu (Evl.fresh_back k.ex hn2) (ne_of_none hl hn2) ((k.ex.trans e2).trans (Evl.Ex.new hp)) upd_same ?_ ?_
    · rw [upd_ne n1]
      exact e2 _ _ hl
    · rw [upd_ne n2]
      exact h3⟩⟩⟩
end
section
variable {P : Program} {w : World} {K : PySem.W.Frag} {mg : Str → Option Value} {base : Heap} {f : Addr} {fd : FuncData} {CT : Addr}
/-! ### written -/
def Fine (r : Row) : Prop := r.2 ≠ [] ∧ r.1.length + r.2.length ≤ 45000 ∧ ∀ x ∈ r.1 ++ r.2, Big x
def Rwritten : List Pd → Pd → Prop := fun ds d => ∃ r : Row, ds = [dR r] ∧ Fine r ∧ d = tx (textOf (leastF r))
theorem dL_tx {l : List Int} {g : Int → Tx} : l.map (fun i => tx (g i)) = (l.map fun i => S8 (g i)).map Pd.str := by rw [List.map_map]; rfl
theorem sumT {l : List Int} {g : Int → Tx} {n : Nat} (h : ∀ x ∈ l, (g x).length ≤ n) : ((l.map fun i => S8 (g i)).map (·.length)).sum ≤ n * l.length := by
  induction l with
  | nil => exact Nat.le_refl _
  | cons a l ih =>
    have h1 := h a (List.mem_cons_self ..)
    have h2 := ih fun x hx => h x (List.mem_cons_of_mem _ hx)
    rw [List.map_cons, List.map_cons, List.sum_cons, SX.S_len, List.length_cons, Nat.mul_succ]
    omega
theorem least_mem {r : Row} {x : Int} (h : x ∈ (leastF r).1 ++ (leastF r).2) : x ∈ r.1 ++ r.2 := by
  have hs : ∀ y ∈ short r.2, y ∈ r.2 := fun y hy => by
    unfold short at hy
    split at hy
    · exact List.mem_of_mem_take hy
    · exact hy
  unfold leastF at h
  rcases List.mem_append.mp h with h | h
  · exact List.mem_append_left _ (List.mem_of_mem_take h)
  · refine List.mem_append_right _ (hs x ?_)
    unfold rot at h
    rcases List.mem_append.mp h with h | h
    · exact List.mem_of_mem_drop h
    · exact List.mem_of_mem_take h
theorem least_fine {r : Row} (h : Fine r) : Fine (leastF r) := by
  obtain ⟨h1, h2, h3⟩ := h
  obtain ⟨l1, l2⟩ := least_lens (r := r)
  exact ⟨(least_told h1).1, by omega, fun x hx => h3 x (least_mem hx)⟩
theorem ee_first {X : Cx} {δ : Dl} {l : List Int} {o e : Expr} {pos apos : Pos} (ho : EE X o δ (tx [])) (he : EE X e δ (.lst (l.map fun i => tx (numT i ++ [32])))) (hb : ∀ x ∈ l, Big x) (hz : l.length ≤ 50000) (hs : starEach [e] X.env = [(false, eval e X.env)] := by rfl) (hbase : attributeBase o "join" X.env (eval o X.env) = eval o X.env := by rfl) (hline : (apos.endLine == pos.line) = true := by rfl) :
    EE X (.Call (.Attribute o "join" apos) [e] [] pos) δ (tx (firstT l)) := by
  have hsum := sumT (g := fun i => numT i ++ [32]) (l := l) (n := 62) fun x hx => by
    have := numT_len (hb x hx)
    simp
    omega
  refine (ee_join (ys := l.map fun i => S8 (numT i ++ [32])) ho (he.is (by rw [dL_tx (g := fun i => numT i ++ [32])])) (by rw [SX.S_len]; simp at hsum ⊢; omega) hs hbase hline).is ?_
  have e1 : (l.map fun i => S8 (numT i ++ [32])) = (l.map fun i => numT i ++ [32]).map SX.S := by rw [List.map_map]; rfl
  rw [e1, SX.join_S, join_nil]
  rfl
theorem ee_round {X : Cx} {δ : Dl} {l : List Int} {o e : Expr} {pos apos : Pos} (ho : EE X o δ (tx [32])) (he : EE X e δ (.lst (l.map fun i => tx (numT i)))) (hb : ∀ x ∈ l, Big x) (hz : l.length ≤ 50000) (hs : starEach [e] X.env = [(false, eval e X.env)] := by rfl) (hbase : attributeBase o "join" X.env (eval o X.env) = eval o X.env := by rfl) (hline : (apos.endLine == pos.line) = true := by rfl) :
    EE X (.Call (.Attribute o "join" apos) [e] [] pos) δ (tx (roundT l)) := by
  have hsum := sumT (g := fun i => numT i) (l := l) (n := 61) fun x hx => numT_len (hb x hx)
  refine (ee_join (ys := l.map fun i => S8 (numT i)) ho (he.is (by rw [dL_tx (g := fun i => numT i)])) (by rw [SX.S_len]; simp at hsum ⊢; omega) hs hbase hline).is ?_
  have e1 : (l.map fun i => S8 (numT i)) = (l.map numT).map SX.S := by rw [List.map_map]; rfl
  rw [e1, SX.join_S]
  rfl
/-- first + '(' + round + ')' -/
theorem ee_text {X : Cx} {δ : Dl} {r : Row} {a b c e : Expr} {p1 p2 p3 : Pos} (ha : EE X a δ (tx (firstT r.1))) (hb : EE X b δ (tx [40])) (hc : EE X c δ (tx (roundT r.2))) (he : EE X e δ (tx [41])) (hf : Fine r) :
    EE X (.BinOp (.BinOp (.BinOp a .Add b p1) .Add c p2) .Add e p3) δ (tx (textOf r)) := by
  have h1 := first_len fun x hx => hf.2.2 x (List.mem_append_left _ hx)
  have h2 := round_len fun x hx => hf.2.2 x (List.mem_append_right _ hx)
  have hl := hf.2.1
  refine (ee_addS ((ee_addS ((ee_addS ha hb (by rw [SX.S_len, SX.S_len]; simp; omega)).is (z := tx (firstT r.1 ++ [40])) (by rw [SX.S_cat])) hc (by rw [SX.S_len, SX.S_len]; simp; omega)).is (z := tx (firstT r.1 ++ [40] ++ roundT r.2)) (by rw [SX.S_cat])) he (by rw [SX.S_len, SX.S_len]; simp; omega)).is ?_
  rw [SX.S_cat]
  unfold textOf
  simp
theorem ok_written {t : Nat} (F : Fun K "written" "written" s_written f fd) (T : Bi mg) (hmost : mg "MOST" = some (.int (10 ^ 60) t)) (h0 : H0 P w K mg base "least" 4 ["row"] (SpW K Rleast)) : FnOk P w K mg base CX0 5 f fd ["row"] (SpR K Rwritten) := by
  refine ok_R F cs_written (fun ds d h => ?_) fun cdv A outer s M H vs ds d Q E hr h k q => ?_
  · obtain ⟨x, rfl, _⟩ := h
    rfl
  · have nd := cs_written.nd
    obtain ⟨r, rfl, hf, rfl⟩ := h
    have hg := least_fine hf
    obtain ⟨f1, f2, f3⟩ := hf
    refine blk_unpack nd 1 2 rfl (EWR.ee (ew_call h0 hr pass0 (ea_cons (ee_var 0) ea_nil) ⟨r, rfl, f1, by omega, by omega, rfl⟩)) k fun σ1 H1 e1 k1 => ?_
    have hal : (r.1 ++ r.2).length = r.1.length + r.2.length := List.length_append
    have hall : ((r.1 ++ r.2).map fun x => decide ((if x < 0 then -x else x) < 10 ^ 60)).all id = true := by
      rw [List.all_eq_true]
      intro y hy
      obtain ⟨x, hx, rfl⟩ := List.mem_map.mp hy
      have := f3 x hx
      unfold Big at this
      show decide ((if x < 0 then -x else x) < 10 ^ 60) = true
      rw [decide_eq_true_iff]
      split <;> omega
    refine blk_no ((et_not (et_val (ee_all (bs := (r.1 ++ r.2).map fun x => decide ((if x < 0 then -x else x) < 10 ^ 60)) rfl (EF.ee ((ef_lc (n := (r.1 ++ r.2).length) (jx := 4) (Yd := fun i => .int ((r.1 ++ r.2).getD i 0)) (f := fun i => .bl (decide ((if (r.1 ++ r.2).getD i 0 < 0 then -(r.1 ++ r.2).getD i 0 else (r.1 ++ r.2).getD i 0) < 10 ^ 60))) rfl nd
      (iw_listI (f := fun i => (r.1 ++ r.2).getD i 0) (EF.ee (ef_catI (ee_r0 (ee_var 0)) (ee_r1 (ee_var 0)) (by omega))) fun i hi => getD_some i hi) (blkOk_by (N := ns_written) (sc := defScope s_written) (own := [("sign", 4)]) (by decide +kernel)) (fun _ _ _ _ _ => pg_name nd rfl (Or.inl rfl)) (by decide)
      (by omega) (fun i _ => flat_bl)
      (fun s' H' C cl fp i hi => ee_lt (ee_abs (ee_var 4) T.abs) (ee_globI hmost))).is (by
        have := range_map (r.1 ++ r.2) 0 (fun x => Pd.bl (decide ((if x < 0 then -x else x) < 10 ^ 60)))
        rw [this, List.map_map]
        rfl))) T.all))).is (by rw [hall]; rfl)) k1 fun H2 e2 k2 => ?_
    have g1 : ∀ x ∈ (leastF r).1, Big x := fun x hx => hg.2.2 x (List.mem_append_left _ hx)
    have g2 : ∀ x ∈ (leastF r).2, Big x := fun x hx => hg.2.2 x (List.mem_append_right _ hx)
    have gl := hg.2.1
    refine blk_set nd 3 (ee_first (l := (leastF r).1) (ee_tx l00) (EF.ee ((ef_lc (n := (leastF r).1.length) (jx := 4) (Yd := fun i => .int ((leastF r).1.getD i 0)) (f := fun i => tx (numT ((leastF r).1.getD i 0) ++ [32])) rfl nd
      (iw_listI (f := fun i => (leastF r).1.getD i 0) (ee_var 1) fun i hi => getD_some i hi) (blkOk_by (N := ns_written) (sc := defScope s_written) (own := [("sign", 4)]) (by decide +kernel)) (fun _ _ _ _ _ => pg_name nd rfl (Or.inl rfl)) (by decide)
      (by omega) (fun i _ => flat_str)
      (fun s' H' C cl fp i hi => by
        have hb := g1 _ (List.mem_of_getElem? (getD_some (z := (0 : Int)) i hi))
        have hn := numT_len hb
        exact (ee_addS ((ee_strI (ee_var 4) (big_log hb) T.str).is (z := tx (numT ((leastF r).1.getD i 0))) (congrArg Pd.str (str_numT _))) (ee_tx l32) (by rw [SX.S_len, SX.S_len]; show _ + 1 ≤ _; omega)).is (by rw [SX.S_cat]))).is (by
        exact range_map (leastF r).1 0 (fun x => tx (numT x ++ [32]))))) g1 (by omega)) k2 fun σ3 H3 e3 k3 => ?_
    refine blk_ret (ee_text (r := leastF r) (ee_var 3) (ee_tx l40) (ee_round (l := (leastF r).2) (ee_tx l32) (EF.ee ((ef_lc (n := (leastF r).2.length) (jx := 4) (Yd := fun i => .int ((leastF r).2.getD i 0)) (f := fun i => tx (numT ((leastF r).2.getD i 0))) rfl nd
      (iw_listI (f := fun i => (leastF r).2.getD i 0) (ee_var 2) fun i hi => getD_some i hi) (blkOk_by (N := ns_written) (sc := defScope s_written) (own := [("sign", 4)]) (by decide +kernel)) (fun _ _ _ _ _ => pg_name nd rfl (Or.inl rfl)) (by decide)
      (by omega) (fun i _ => flat_str)
      (fun s' H' C cl fp i hi => by
        have hb := g2 _ (List.mem_of_getElem? (getD_some (z := (0 : Int)) i hi))
        exact (ee_strI (ee_var 4) (big_log hb) T.str).is (congrArg Pd.str (str_numT _)))).is (by
        exact range_map (leastF r).2 0 (fun x => tx (numT x))))) g2 (by omega)) (ee_tx l41) hg) k3 q
/-! ### number_in -/
def Rnum : List Pd → Pd → Prop := fun ds d => ∃ w : Tx, ds = [tx w] ∧ w.length ≤ 100000 ∧ okW w = true ∧ d = .int (valW w)
def RxNum (CT : Addr) : List Pd → Addr → Prop := fun ds C => ∃ w : Tx, ds = [tx w] ∧ w.length ≤ 100000 ∧ okW w = false ∧ C = CT
theorem digs_len (w : Tx) : (digs w).length ≤ w.length := by
  unfold digs
  split
  · rw [List.length_drop]; omega
  · exact Nat.le_refl _
theorem at0 (c : Nat) (r : Tx) : atI (c :: r) 0 = some c := by
  unfold atI ixN
  rw [if_pos (by decide), if_pos (by simp)]
  rfl
/-- no sign: the test -/
theorem et_bad {X : Cx} {δ : Dl} {w : Tx} {f1 f2 f3 w1 fg c1 c60 ce cz cz2 ix : Expr} {p1 p2 p3 p4 p5 p6 p7 p8 p9 p10 p11 p12 : Pos} (e1 : EE X f1 δ (tx (digs w))) (e2 : EE X f2 δ (tx (digs w))) (e3 : EE X f3 δ (tx (digs w))) (ew : EE X w1 δ (tx w)) (eg : EE X fg δ (.str FIG)) (h1 : EE X c1 δ (.int 1)) (h60 : EE X c60 δ (.int 60)) (he : EE X ce δ (tx [])) (hz : EE X cz δ (tx [48])) (hz2 : EE X cz2 δ (tx [48])) (hi : EE X ix δ (.int 0)) (hl : w.length ≤ 100000) {kb : Bool} (hkb : (!okW w) = kb)
    (hm : X.mg "len" = none) (hp : PlainIx ix) (hg : Gl X "len" := by rfl) (hs1 : starEach [f1] X.env = (false, eval f1 X.env) :: starEach [] X.env := by rfl) (hm2 : lastMarks [.LtE, .LtE] [.Call (.Name "len" p1) [f1] [] p2, c60] = false := by with_unfolding_all rfl)
    (hs : starEach [fg] X.env = [(false, eval fg X.env)] := by rfl) (hbase : attributeBase f2 "strip" X.env (eval f2 X.env) = eval f2 X.env := by rfl) (hline : (p5.endLine == p6.line) = true := by rfl) :
    ET X (.BoolOp .Or [.UnaryOp .Not (.Compare c1 [.LtE, .LtE] [.Call (.Name "len" p1) [f1] [] p2, c60] p3) p4, .Compare (.Call (.Attribute f2 "strip" p5) [fg] [] p6) [.NotEq] [ce] p7, .BoolOp .And [.Compare (.Subscript f3 ix p8) [.Eq] [cz] p9, .Compare w1 [.NotEq] [cz2] p10] p11] p12) δ kb := by
  subst hkb
  have dl := digs_len w
  have ln : (S8 (digs w)).length = (digs w).length := SX.S_len _
  refine et_w ((ew_or (l := (!((digs w).all dig)) || (decide ((digs w).head? = some 48) && !decide (w = [48]))) (et_not (ee_chain (k := decide ((1 : Int) ≤ ((S8 (digs w)).length : Nat))) (k' := decide ((((S8 (digs w)).length : Nat) : Int) ≤ 60)) op_le op_le rd_B0 (fun _ => rd_B0) h1 (ee_lenStr e1 (by rw [ln]; omega) hm hg hs1) h60 hm2)) fun hk => ?_).is ?_)
  · refine (ew_or (l := decide ((digs w).head? = some 48) && !decide (w = [48])) (et_neS (ee_stripC e2 eg (by rw [ln]; omega) hs hbase hline) he) fun _ => ?_).is ?_
    · have hk : (decide ((1 : Int) ≤ ((S8 (digs w)).length : Nat)) && decide ((((S8 (digs w)).length : Nat) : Int) ≤ 60)) = true := by simpa using hk
      rw [Bool.and_eq_true, decide_eq_true_eq, decide_eq_true_eq, ln] at hk
      cases hd : digs w with
      | nil =>
        rw [hd] at hk
        simp at hk
      | cons c r =>
        rw [hd] at e3 dl
        refine ew_or1 (et_w ((ew_and (et_eqS ((ee_ixC (ch := c) e3 hi (at0 c r) (by rw [SX.S_len]; omega) hp).is (z := tx [c]) rfl) hz) fun _ => ew_and1 (et_neS ew hz2)).is ?_))
        rw [S8_eq, S8_eq]
        congr 1
        simp
    · rw [stripF]
  · rw [ln]
    unfold okW
    have e1 : decide ((1 : Int) ≤ ((digs w).length : Nat)) = decide (1 ≤ (digs w).length) := by
      rw [Bool.eq_iff_iff]; simp; omega
    have e2 : decide ((((digs w).length : Nat) : Int) ≤ 60) = decide ((digs w).length ≤ 60) := by
      rw [Bool.eq_iff_iff]; simp; omega
    rw [e1, e2]
    cases decide (1 ≤ (digs w).length) <;> cases decide ((digs w).length ≤ 60) <;> cases (digs w).all dig <;> cases decide ((digs w).head? = some 48) <;> cases decide (w = [48]) <;> rfl
theorem figs_set {w : Tx} : Txt.slice (S8 w) (some 1) none = S8 (w.drop 1) := by
  rw [SX.slice_from (by decide)]
  rfl
theorem ok_number_in {t : Nat} (F : Fun K "number_in" "number_in" s_number_in f fd) (T : Bi mg) (hF : mg "FIGURES" = some (.str FIG t)) : FnOk P w K mg base CX0 1 f fd ["word"] (SpR K Rnum) := by
  refine ok_R F cs_number_in (fun ds d h => ?_) fun cdv A outer s M H vs ds d Q E hr h k q => ?_
  · obtain ⟨x, rfl, _⟩ := h
    rfl
  · have nd := cs_number_in.nd
    obtain ⟨w, rfl, hl, hk, rfl⟩ := h
    obtain ⟨i1, i2⟩ := int_ok hk
    refine blk_set nd 1 (ee_var 0) k fun σ1 H1 e1 k1 => ?_
    refine blk_ifSet (d := tx (digs w)) nd 1 (et_val ((ee_starts (ee_var 0) (ee_tx l45)).is (z := .bl (decide (w.head? = some 45))) (by rw [starts1]))) (fun ht => (ee_sl (ee_var 0) (ep_some ee_int) ep_none (by rw [SX.S_len]; omega)).is (by
      rw [figs_set]
      unfold digs
      rw [if_pos (of_decide_eq_true ht)])) (fun ht => by
      unfold digs
      rw [if_neg (of_decide_eq_false ht)]
      rfl) k1 fun σ2 H2 e2 k2 => ?_
    refine blk_no (et_bad (w := w) (ee_var 1) (ee_var 1) (ee_var 1) (ee_var 0) (ee_globS hF) ee_int ee_int (ee_tx l00) (ee_tx l48) (ee_tx l48) ee_int hl (by rw [hk]; rfl) T.len (fun _ _ => rfl)) k2 fun H3 e3 k3 => ?_
    exact blk_ret (ee_intS (ee_var 0) i1 (by rw [SX.S_len]; omega) T.int) k3 q
theorem ok_number_inX {t : Nat} (F : Fun K "number_in" "number_in" s_number_in f fd) (T : Bi mg) (hF : mg "FIGURES" = some (.str FIG t)) (xt : XC K mg "BadText" CT) : FnOk P w K mg base (L2N.CX P w) 1 f fd ["word"] (SpX K (RxNum CT)) := by
  refine ok_X F cs_number_in (fun ds C h => ?_) fun cdv A outer s M H vs ds C Q E hr h k q => ?_
  · obtain ⟨x, rfl, _⟩ := h
    rfl
  · have nd := cs_number_in.nd
    obtain ⟨w, rfl, hl, hk, rfl⟩ := h
    refine blk_set nd 1 (ee_var 0) k fun σ1 H1 e1 k1 => ?_
    refine blk_ifSet (d := tx (digs w)) nd 1 (et_val ((ee_starts (ee_var 0) (ee_tx l45)).is (z := .bl (decide (w.head? = some 45))) (by rw [starts1]))) (fun ht => (ee_sl (ee_var 0) (ep_some ee_int) ep_none (by rw [SX.S_len]; omega)).is (by
      rw [figs_set]
      unfold digs
      rw [if_pos (of_decide_eq_true ht)])) (fun ht => by
      unfold digs
      rw [if_neg (of_decide_eq_false ht)]
      rfl) k1 fun σ2 H2 e2 k2 => ?_
    exact blk_yesX (et_bad (kb := true) (w := w) (ee_var 1) (ee_var 1) (ee_var 1) (ee_var 0) (ee_globS hF) ee_int ee_int (ee_tx l00) (ee_tx l48) (ee_tx l48) ee_int hl (by rw [hk]; rfl) T.len (fun _ _ => rfl)) rfl xt takesX rfl k2 q
/-! ### read -/
theorem cut_last {α : Type} (xs : List α) : cutP xs none (some (-1)) = xs.dropLast := by
  unfold cutP
  have e1 : HT.sIx xs.length 0 none = 0 := rfl
  have e2 : HT.sIx xs.length xs.length (some (-1)) = xs.length - 1 := by
    unfold HT.sIx
    simp only
    split <;> omega
  rw [e1, e2, List.drop_zero, List.dropLast_eq_take]
  rfl
theorem slice_last (t : Tx) : Txt.slice (S8 t) none (some (-1)) = S8 t.dropLast := by
  cases t with
  | nil =>
    rw [← C8.cutS_slice]
    refine TL.ext_tl ?_
    rfl
  | cons a r => rw [SX.slice_butlast (List.cons_ne_nil a r), List.dropLast_eq_take]
theorem first_bad {ws : List Tx} (h : ∃ w ∈ ws, okW w = false) : ∃ b, b < ws.length ∧ okW (ws.getD b []) = false ∧ ∀ i, i < b → okW (ws.getD i []) = true := by
  induction ws with
  | nil =>
    obtain ⟨w, hw, _⟩ := h
    cases hw
  | cons a r ih =>
    by_cases ha : okW a = false
    · exact ⟨0, by simp, ha, fun i hi => absurd hi (Nat.not_lt_zero i)⟩
    · have ha : okW a = true := by simpa using ha
      obtain ⟨w, hw, h2⟩ := h
      rcases List.mem_cons.mp hw with z | z
      · rw [z, ha] at h2
        cases h2
      · obtain ⟨b, b1, b2, b3⟩ := ih ⟨w, z, h2⟩
        refine ⟨b + 1, by simp; exact b1, b2, fun i hi => ?_⟩
        cases i with
        | zero => exact ha
        | succ j => exact b3 j (by omega)
theorem split_tx {t : Tx} : (Txt.split (S8 t) (S8 [32])).map Pd.str = (TL.spl [32] 0 [] t).map tx := by
  rw [SX.split_S (by simp) (by decide), List.map_map]
  rfl
theorem tx_at {ws : List Tx} (i : Nat) (h : i < ws.length) : (ws.map tx)[i]? = some (tx (ws.getD i [])) := by
  rw [List.getElem?_map, getD_some (z := ([] : Tx)) i h]
  rfl
/-- (a, b), b raises -/
theorem ex_tup2 {X : Cx} {E : XK} {δ : Dl} {a b : Expr} {d : Pd} {C : Addr} {x1 : Nat} {pos : Pos} (ha : EE X a δ d) (hb : EX X E b δ C) (he : starEach [a, b] X.env = (false, eval a X.env) :: starEach [b] X.env := by rfl) (he2 : starEach [b] X.env = (false, eval b X.env) :: starEach [] X.env := by rfl) : EX X E (.Tuple [a, b] x1 pos) δ C := fun M σ H kn h Q =>
  ⟨_, pe_tup (pa_cons pe_w (pa_cons pe_w pa_nil he2) he), ha M σ H kn _ fun v H1 e1 g1 => hb M σ H1 (kn.mono e1) (fun H2 e2 => h H2 (e1.trans e2)) _⟩
def RreadW : List Pd → Row → Prop := fun ds r => ∃ t : Tx, ds = [tx t] ∧ t.length ≤ 40000 ∧ parse t = some r
def RxRead (CT : Addr) : List Pd → Addr → Prop := fun ds C => ∃ d, ds = [d] ∧ C = CT ∧ ((tyN d ≠ "" ∧ kitB (tyN d) "str" = some false) ∨ ∃ t : Tx, d = tx t ∧ t.length ≤ 40000 ∧ parse t = none)
theorem part_some {t p q : Tx} (h : TL.par [40] [] t = some (p, q)) : Pd.tup [.str (Txt.partition (S8 t) (S8 [40])).1, .str (Txt.partition (S8 t) (S8 [40])).2.1, .str (Txt.partition (S8 t) (S8 [40])).2.2] = .tup [tx p, tx [40], tx q] := by
  rw [SX.partition_some (by simp) h]
theorem part_none {t : Tx} (h : TL.par [40] [] t = none) : Pd.tup [.str (Txt.partition (S8 t) (S8 [40])).1, .str (Txt.partition (S8 t) (S8 [40])).2.1, .str (Txt.partition (S8 t) (S8 [40])).2.2] = .tup [tx t, tx [], tx []] := by
  rw [SX.partition_none (by simp) h]
/-- no round: the test -/
theorem et_noround {X : Cx} {δ : Dl} {p q : Tx} {a1 a2 r1 c1 c2 c3 : Expr} {p1 p2 p3 p4 p5 p6 p7 p8 p9 : Pos} (er : EE X r1 δ (tx q)) (h1 : EE X c1 δ (tx [41])) (ea : EE X a1 δ (tx p)) (he : EE X c2 δ (tx [])) (ea2 : EE X a2 δ (tx p)) (h3 : EE X c3 δ (tx [32])) {kb : Bool} (hkb : (!decide (q.getLast? = some 41) || (!decide (p = []) && !decide (p.getLast? = some 32))) = kb)
    (hs1 : starEach [c1] X.env = [(false, eval c1 X.env)] := by rfl) (hb1 : attributeBase r1 "endswith" X.env (eval r1 X.env) = eval r1 X.env := by rfl) (hl1 : (p1.endLine == p2.line) = true := by rfl)
    (hs2 : starEach [c3] X.env = [(false, eval c3 X.env)] := by rfl) (hb2 : attributeBase a2 "endswith" X.env (eval a2 X.env) = eval a2 X.env := by rfl) (hl2 : (p5.endLine == p6.line) = true := by rfl)
    (hv1 : ∀ whole, isTrue (.Call (.Attribute r1 "endswith" p1) [c1] [] p2) X.env whole = (do let v ← whole; standAt p2; holding [v] (truthy v)) := by intro _; rfl)
    (hv2 : ∀ whole, isTrue (.Call (.Attribute a2 "endswith" p5) [c3] [] p6) X.env whole = (do let v ← whole; standAt p6; holding [v] (truthy v)) := by intro _; rfl) :
    ET X (.BoolOp .Or [.UnaryOp .Not (.Call (.Attribute r1 "endswith" p1) [c1] [] p2) p3, .BoolOp .And [.Compare a1 [.NotEq] [c2] p4, .UnaryOp .Not (.Call (.Attribute a2 "endswith" p5) [c3] [] p6) p7] p8] p9) δ kb := by
  subst hkb
  have g1 : EE X (.Call (.Attribute r1 "endswith" p1) [c1] [] p2) δ (.bl (decide (q.getLast? = some 41))) := (ee_ends er h1 hs1 hb1 hl1).is (by rw [ends1])
  have g2 : EE X (.Call (.Attribute a2 "endswith" p5) [c3] [] p6) δ (.bl (decide (p.getLast? = some 32))) := (ee_ends ea2 h3 hs2 hb2 hl2).is (by rw [ends1])
  have g3 : ET X (.Compare a1 [.NotEq] [c2] p4) δ (!decide (p = [])) := by
    have := et_neS (pos := p4) ea he
    rw [S8_eq] at this
    exact this
  exact et_w (ew_or (et_not (et_val g1 hv1)) fun _ => ew_or1 (et_w (ew_and g3 fun _ => ew_and1 (et_not (et_val g2 hv2)))))
theorem valW_map (ws : List Tx) : (List.range ws.length).map (fun i => Pd.int (valW (ws.getD i []))) = (ws.map valW).map .int := by
  rw [range_map ws [] (fun w => Pd.int (valW w)), List.map_map]
  rfl
theorem getD_ok {ws : List Tx} (h : ∀ w ∈ ws, okW w = true) {i : Nat} (hi : i < ws.length) : okW (ws.getD i []) = true := h _ (List.mem_of_getElem? (getD_some (z := ([] : Tx)) i hi))
theorem getD_len {ws : List Tx} {n : Nat} (h : ∀ w ∈ ws, w.length ≤ n) (i : Nat) : (ws.getD i []).length ≤ n := by
  by_cases hi : i < ws.length
  · exact h _ (List.mem_of_getElem? (getD_some (z := ([] : Tx)) i hi))
  · rw [List.getD_eq_getElem?_getD, List.getElem?_eq_none (by omega)]
    exact Nat.zero_le _
theorem words_of (p d : Tx) : (∀ w ∈ (TL.spl [32] 0 [] p).dropLast, w.length ≤ p.length) ∧ (TL.spl [32] 0 [] p).dropLast.length ≤ p.length ∧ (∀ w ∈ TL.spl [32] 0 [] d, w.length ≤ d.length) ∧ (TL.spl [32] 0 [] d).length ≤ d.length + 1 := by
  have n1 := spl_len (s := 32) p []
  have n2 := spl_len (s := 32) d []
  have c1 := List.count_le_length (a := 32) (l := p)
  have c2 := List.count_le_length (a := 32) (l := d)
  refine ⟨fun w hw => ?_, by rw [List.length_dropLast]; omega, fun w hw => ?_, by omega⟩
  · have := spl_part (s := 32) p [] w (List.dropLast_subset _ hw)
    simpa using this
  · have := spl_part (s := 32) d [] w hw
    simpa using this
theorem par_len {t p q : Tx} (h : TL.par [40] [] t = some (p, q)) : p.length + q.length + 1 = t.length := by
  obtain ⟨e, _⟩ := par_is h
  rw [e]
  simp
  omega
theorem ok_read (F : Fun K "read" "read" s_read f fd) (T : Bi mg) (hN : H0 P w K mg base "number_in" 1 ["word"] (SpR K Rnum)) : FnOk P w K mg base CX0 2 f fd ["text"] (SpW K RreadW) := by
  refine ok_W F cs_read (fun ds r h => ?_) fun cdv A outer s M H vs ds r Q E hr h k q => ?_
  · obtain ⟨x, rfl, _⟩ := h
    rfl
  · have nd := cs_read.nd
    obtain ⟨t, rfl, hl, hp⟩ := h
    refine blk_no ((et_not (et_val (ee_isi (Tn := "str") (k := true) (ee_var 0) T.isinstance T.str (by show kitB "str" "str" = some true; decide +kernel) (hd := by show ("str" : String) ≠ ""; decide)))).is rfl) k fun H1 e1 k1 => ?_
    unfold parse at hp
    cases hpar : TL.par [40] [] t with
    | none =>
      rw [hpar] at hp
      cases hp
    | some pq =>
      obtain ⟨p, u⟩ := pq
      rw [hpar] at hp
      have hp : (if u.getLast? = some 41 ∧ (p = [] ∨ p.getLast? = some 32) then rowW (TL.spl [32] 0 [] p).dropLast (TL.spl [32] 0 [] u.dropLast) else none) = some r := hp
      have pl := par_len hpar
      by_cases hc : u.getLast? = some 41 ∧ (p = [] ∨ p.getLast? = some 32)
      · rw [if_pos hc] at hp
        obtain ⟨w1, w2, er⟩ := rowW_is hp
        obtain ⟨n1, n2, n3, n4⟩ := words_of p u.dropLast
        have n5 : u.dropLast.length ≤ u.length := by rw [List.length_dropLast]; omega
        generalize hws : (TL.spl [32] 0 [] p).dropLast = ws at w1 er n1 n2
        generalize hvs : TL.spl [32] 0 [] u.dropLast = vs' at w2 er n3 n4
        refine blk_unpack3 nd 1 2 3 rfl ((ee_partition (ee_var 0) (ee_tx l40) rfl (by rw [SX.S_len]; omega)).is (part_some hpar)) k1 fun σ2 H2 e2 k2 => ?_
        refine blk_no (et_noround (p := p) (q := u) (ee_var 3) (ee_tx l41) (ee_var 1) (ee_tx l00) (ee_var 1) (ee_tx l32) (by
          rw [decide_eq_true hc.1]
          rcases hc.2 with z | z
          · rw [decide_eq_true z]; rfl
          · rw [decide_eq_true z]; cases decide (p = []) <;> rfl)) k2 fun H3 e3 k3 => ?_
        refine blk_setLc (n := (ws.map tx).length) (jx := 5) (Yd := fun i => tx (ws.getD i [])) (f := fun i => .int (valW (ws.getD i []))) nd 4 rfl (iw_list (ds := ws.map tx) ((EF.ee (ef_cut (ds := (TL.spl [32] 0 [] p).map tx) ((EF.ee (ef_split (ee_var 1) (ee_tx l32) rfl (by rw [SX.S_len]; omega))).is (by rw [split_tx])) ep_none (ep_some (ee_neg ee_int)))).is (by rw [cut_last, ← List.map_dropLast, hws])) fun i hi => tx_at i (by simpa using hi))
          (blkOk_by (N := ns_read) (sc := defScope s_read) (own := [("word", 5)]) (by decide +kernel)) (fun _ _ _ _ _ => pg_name nd rfl (Or.inl rfl)) (by decide) (by rw [List.length_map]; omega) (fun i _ => flat_int)
          (fun s' H' C cl fp i hi => by
            rw [List.length_map] at hi
            exact ee_call hN hr pass0 (ea_cons (ee_var 5) ea_nil) ⟨_, rfl, by have := getD_len n1 i; omega, getD_ok w1 hi, rfl⟩) k3 fun a xs H4 m4 e4 g1 g2 k4 => ?_
        rw [List.length_map, valW_map] at g2
        have g3 := g1
        rw [dtI_inv g2] at g3
        refine blk_retW1 (l := ws.map valW) (m := vs'.map valW) (i := 4) (u := a) ?_ (Evl.fresh_back k3.ex m4) g3 ((ef_lc (n := (vs'.map tx).length) (jx := 5) (Yd := fun i => tx (vs'.getD i [])) (f := fun i => .int (valW (vs'.getD i []))) rfl nd (iw_list (ds := vs'.map tx) ((EF.ee (ef_split ((ee_sl (ee_var 3) ep_none (ep_some (ee_neg ee_int)) (by rw [SX.S_len]; omega)).is (z := tx u.dropLast) (by rw [slice_last])) (ee_tx l32) rfl (by rw [SX.S_len]; omega))).is (by rw [split_tx, hvs])) fun i hi => tx_at i (by simpa using hi))
          (blkOk_by (N := ns_read) (sc := defScope s_read) (own := [("word", 5)]) (by decide +kernel)) (fun _ _ _ _ _ => pg_name nd rfl (Or.inl rfl)) (by decide) (by rw [List.length_map]; omega) (fun i _ => flat_int)
          (fun s' H' C cl fp i hi => by
            rw [List.length_map] at hi
            exact ee_call hN hr pass0 (ea_cons (ee_var 5) ea_nil) ⟨_, rfl, by have := getD_len n3 i; omega, getD_ok w2 hi, rfl⟩)).is (by rw [List.length_map, valW_map])) (k4.set 4 (dt_fr k3.kn.al m4 g1 g2)) ?_
        · refine List.getElem?_set_self ?_
          rw [k4.kn.len]
          show 4 < 6
          decide
        · rw [er] at q
          exact q
      · rw [if_neg hc] at hp
        cases hp
theorem ok_readX (F : Fun K "read" "read" s_read f fd) (T : Bi mg) (xt : XC K mg "BadText" CT) (hN : H0 P w K mg base "number_in" 1 ["word"] (SpR K Rnum)) (hX : Has P w K mg base (L2N.CX P w) "number_in" 1 ["word"] (SpX K (RxNum CT))) : FnOk P w K mg base (L2N.CX P w) 2 f fd ["text"] (SpX K (RxRead CT)) := by
  refine ok_X F cs_read (fun ds C h => ?_) fun cdv A outer s M H vs ds C Q E hr h k q => ?_
  · obtain ⟨x, rfl, _⟩ := h
    rfl
  · have nd := cs_read.nd
    obtain ⟨d, rfl, rfl, ⟨h1, h2⟩ | ⟨t, rfl, hl, hp⟩⟩ := h
    · exact blk_yesX (t := true) (et_not (et_val (ee_isi (Tn := "str") (k := false) (ee_var 0) T.isinstance T.str h2 (hd := h1)))) rfl xt takesX rfl k q
    · refine blk_no ((et_not (et_val (ee_isi (Tn := "str") (k := true) (ee_var 0) T.isinstance T.str (by show kitB "str" "str" = some true; decide +kernel) (hd := by show ("str" : String) ≠ ""; decide)))).is rfl) k fun H1 e1 k1 => ?_
      unfold parse at hp
      cases hpar : TL.par [40] [] t with
      | none =>
        refine blk_unpack3 nd 1 2 3 rfl ((ee_partition (ee_var 0) (ee_tx l40) rfl (by rw [SX.S_len]; omega)).is (part_none hpar)) k1 fun σ2 H2 e2 k2 => ?_
        exact blk_yesX (et_noround (kb := true) (p := t) (q := []) (ee_var 3) (ee_tx l41) (ee_var 1) (ee_tx l00) (ee_var 1) (ee_tx l32) rfl) rfl xt takesX rfl k2 q
      | some pq =>
        obtain ⟨p, u⟩ := pq
        rw [hpar] at hp
        have hp : (if u.getLast? = some 41 ∧ (p = [] ∨ p.getLast? = some 32) then rowW (TL.spl [32] 0 [] p).dropLast (TL.spl [32] 0 [] u.dropLast) else none) = none := hp
        have pl := par_len hpar
        refine blk_unpack3 nd 1 2 3 rfl ((ee_partition (ee_var 0) (ee_tx l40) rfl (by rw [SX.S_len]; omega)).is (part_some hpar)) k1 fun σ2 H2 e2 k2 => ?_
        by_cases hc : u.getLast? = some 41 ∧ (p = [] ∨ p.getLast? = some 32)
        · rw [if_pos hc] at hp
          obtain ⟨n1, n2, n3, n4⟩ := words_of p u.dropLast
          have n5 : u.dropLast.length ≤ u.length := by rw [List.length_dropLast]; omega
          generalize hws : (TL.spl [32] 0 [] p).dropLast = ws at hp n1 n2
          generalize hvs : TL.spl [32] 0 [] u.dropLast = vs' at hp n3 n4
          refine blk_no (et_noround (p := p) (q := u) (ee_var 3) (ee_tx l41) (ee_var 1) (ee_tx l00) (ee_var 1) (ee_tx l32) (by
            rw [decide_eq_true hc.1]
            rcases hc.2 with z | z
            · rw [decide_eq_true z]; rfl
            · rw [decide_eq_true z]; cases decide (p = []) <;> rfl)) k2 fun H3 e3 k3 => ?_
          rcases rowW_none hp with hb | ⟨w1, hb⟩
          · obtain ⟨b, b1, b2, b3⟩ := first_bad hb
            exact blk_setLcR (n := (ws.map tx).length) (b := b) (jx := 5) (Yd := fun i => tx (ws.getD i [])) (f := fun i => .int (valW (ws.getD i []))) nd rfl rfl rfl takesX (iw_list (ds := ws.map tx) ((EF.ee (ef_cut (ds := (TL.spl [32] 0 [] p).map tx) ((EF.ee (ef_split (ee_var 1) (ee_tx l32) rfl (by rw [SX.S_len]; omega))).is (by rw [split_tx])) ep_none (ep_some (ee_neg ee_int)))).is (by rw [cut_last, ← List.map_dropLast, hws])) fun i hi => tx_at i (by simpa using hi))
              (blkOk_by (N := ns_read) (sc := defScope s_read) (own := [("word", 5)]) (by decide +kernel)) (fun _ _ _ _ _ => pg_name nd rfl (Or.inl rfl)) (by decide) (by rw [List.length_map]; omega) (by rw [List.length_map]; exact b1)
              (fun s' H' C cl fp i hi => ee_call hN hr pass0 (ea_cons (ee_var 5) ea_nil) ⟨_, rfl, by have := getD_len n1 i; omega, b3 i hi, rfl⟩)
              (fun s' H' C cl fp => ex_callB rfl hX hr (ea_cons (ee_var 5) ea_nil) ⟨_, rfl, by have := getD_len n1 b; omega, b2, rfl⟩) k3 q
          · refine blk_setLc (n := (ws.map tx).length) (jx := 5) (Yd := fun i => tx (ws.getD i [])) (f := fun i => .int (valW (ws.getD i []))) nd 4 rfl (iw_list (ds := ws.map tx) ((EF.ee (ef_cut (ds := (TL.spl [32] 0 [] p).map tx) ((EF.ee (ef_split (ee_var 1) (ee_tx l32) rfl (by rw [SX.S_len]; omega))).is (by rw [split_tx])) ep_none (ep_some (ee_neg ee_int)))).is (by rw [cut_last, ← List.map_dropLast, hws])) fun i hi => tx_at i (by simpa using hi))
              (blkOk_by (N := ns_read) (sc := defScope s_read) (own := [("word", 5)]) (by decide +kernel)) (fun _ _ _ _ _ => pg_name nd rfl (Or.inl rfl)) (by decide) (by rw [List.length_map]; omega) (fun i _ => flat_int)
              (fun s' H' C cl fp i hi => by
                rw [List.length_map] at hi
                exact ee_call hN hr pass0 (ea_cons (ee_var 5) ea_nil) ⟨_, rfl, by have := getD_len n1 i; omega, getD_ok w1 hi, rfl⟩) k3 fun a xs H4 m4 e4 g1 g2 k4 => ?_
            obtain ⟨b, b1, b2, b3⟩ := first_bad hb
            have k5 := k4.set 4 (dt_fr k3.kn.al m4 g1 g2)
            refine blk_retX (ex_tup2 (ee_var 4) (ex_lc (n := (vs'.map tx).length) (b := b) (jx := 5) (Yd := fun i => tx (vs'.getD i [])) (f := fun i => .int (valW (vs'.getD i []))) rfl nd rfl rfl takesX (iw_list (ds := vs'.map tx) ((EF.ee (ef_split ((ee_sl (ee_var 3) ep_none (ep_some (ee_neg ee_int)) (by rw [SX.S_len]; omega)).is (z := tx u.dropLast) (by rw [slice_last])) (ee_tx l32) rfl (by rw [SX.S_len]; omega))).is (by rw [split_tx, hvs])) fun i hi => tx_at i (by simpa using hi))
              (blkOk_by (N := ns_read) (sc := defScope s_read) (own := [("word", 5)]) (by decide +kernel)) (fun _ _ _ _ _ => pg_name nd rfl (Or.inl rfl)) (by decide) (by rw [List.length_map]; omega) (by rw [List.length_map]; exact b1)
              (fun s' H' C cl fp i hi => ee_call hN hr pass0 (ea_cons (ee_var 5) ea_nil) ⟨_, rfl, by have := getD_len n3 i; omega, b3 i hi, rfl⟩)
              (fun s' H' C cl fp => ex_callB rfl hX hr (ea_cons (ee_var 5) ea_nil) ⟨_, rfl, by have := getD_len n3 b; omega, b2, rfl⟩))) k5 q
        · refine blk_yesX (et_noround (kb := true) (p := p) (q := u) (ee_var 3) (ee_tx l41) (ee_var 1) (ee_tx l00) (ee_var 1) (ee_tx l32) ?_) rfl xt takesX rfl k2 q
          by_cases z1 : u.getLast? = some 41
          · have z2 : ¬ (p = [] ∨ p.getLast? = some 32) := fun z => hc ⟨z1, z⟩
            rw [decide_eq_false (fun z => z2 (.inl z)), decide_eq_false (fun z => z2 (.inr z))]
            cases decide (u.getLast? = some 41) <;> rfl
          · rw [decide_eq_false z1]
            rfl
end
end Lr

/-! the law of texts walked -/
namespace Lr
open PySem L2
open Evl (Ex)
section
variable {X : Cx} {δ : Dl} {e : Expr} {p pos : Pos}
theorem ee_anyH {bs : List Bool} (hc : L2H.HotC X) (ha : EE X e δ (.lst (bs.map .bl))) (hm : X.mg "any" = none) (hg : Gl X "any" := by rfl) (he : starEach [e] X.env = (false, eval e X.env) :: starEach [] X.env := by rfl) : EE X (.Call (.Name "any" p) [e] [] pos) δ (.bl (bs.any id)) :=
  ee_callB (cr_anyH hc) (fun M vs H al h Q q => by
    cases h with
    | cons h1 h2 =>
      cases h2
      obtain ⟨l, xs, rfl, h3, h4⟩ := dt_sq h1
      rw [dtB_inv h4] at h3
      exact ⟨l, bs, rfl, Evl.sq_of h3, q _ H (Evl.Ex.refl H) (.bl _)⟩) (ea_cons ha ea_nil he) hm hg (he := he)
end
/-- the classes of the errors -/
structure K8 (K : PySem.W.Frag) (mg : Str → Option Value) (CR CP CS CB CF CQ CT CE : Addr) : Prop where
  gr : mg "BadRow" = some (.ref CR)
  gp : mg "BadPlace" = some (.ref CP)
  gs : mg "BadSigns" = some (.ref CS)
  gb : mg "BadBase" = some (.ref CB)
  gf : mg "BadFigures" = some (.ref CF)
  gq : mg "BadFraction" = some (.ref CQ)
  gt : mg "BadText" = some (.ref CT)
  ge : mg "RowError" = some (.ref CE)
  gv : mg "ValueError" = none
  ex : ExcC K CT
  m : PySem.W.exmOne K (.ref CT) (.ref CE) = some true
  r : PySem.W.kitOne K (.ref CT) (.ref CR) = some false
  p : PySem.W.kitOne K (.ref CT) (.ref CP) = some false
  s : PySem.W.kitOne K (.ref CT) (.ref CS) = some false
  b : PySem.W.kitOne K (.ref CT) (.ref CB) = some false
  f : PySem.W.kitOne K (.ref CT) (.ref CF) = some false
  q : PySem.W.kitOne K (.ref CT) (.ref CQ) = some false
  t : PySem.W.kitOne K (.ref CT) (.ref CT) = some true
  v : PySem.W.kitOne K (.ref CT) (.type "ValueError") = some true
section
variable {P : Program} {w : World} {K : PySem.W.Frag} {mg : Str → Option Value} {base : Heap} {f : Addr} {fd : FuncData} {CR CP CS CB CF CQ CT CE : Addr}
/-! ### a number, a text -/
def numO (w : Tx) : Option Int := if okW w then some (valW w) else none
def RlawNum : List Pd → Pd → Prop := fun ds d => ∃ w : Tx, ds = [tx w] ∧ w.length ≤ 100000 ∧ d = noi (numO w)
theorem take1 (w : Tx) : decide (S8 (w.take 1) = S8 [45]) = decide (w.head? = some 45) := by
  rw [S8_eq]
  cases w with
  | nil => rfl
  | cons a r =>
    show decide ([a] = [45]) = decide (some a = some 45)
    congr 1
    simp
theorem ok_law_number (F : Fun K "_law_number" "_law_number" s_law_number f fd) (T : Bi mg) : FnOk P w K mg base CX0 1 f fd ["_law_text_here"] (SpR K RlawNum) := by
  refine ok_R F cs_law_number (fun ds d h => ?_) fun cdv A outer s M H vs ds d Q E hr h k q => ?_
  · obtain ⟨x, rfl, _⟩ := h
    rfl
  · have nd := cs_law_number.nd
    obtain ⟨w, rfl, hl, rfl⟩ := h
    have dl := digs_len w
    have ln : (S8 (digs w)).length = (digs w).length := SX.S_len _
    have hh : ∀ {X : Cx} {δ : Dl} {a b : Expr} {p : Pos}, EE X a δ (tx (w.take 1)) → EE X b δ (tx [45]) → ET X (.Compare a [.Eq] [b] p) δ (decide (w.head? = some 45)) := fun {X δ a b p} ha hb => by
      have := et_eqS (pos := p) ha hb
      rw [take1] at this
      exact this
    refine blk_set (d := tx (digs w)) nd 1 (ee_if (hh ((ee_sl (ee_var 0) ep_none (ep_some ee_int) (by rw [SX.S_len]; omega)).is (by rw [SX.slice_to (by decide)]; rfl)) (ee_tx l45)) (fun ht => (ee_sl (ee_var 0) (ep_some ee_int) ep_none (by rw [SX.S_len]; omega)).is (by
      rw [figs_set]
      unfold digs
      rw [if_pos (of_decide_eq_true ht)])) (fun ht => (ee_var 0 (d := tx w)).is (by
      unfold digs
      rw [if_neg (of_decide_eq_false ht)]))) k fun σ1 H1 e1 k1 => ?_
    have test : ∀ {X : Cx} {δ : Dl} {f0 f1 f2 f3 w1 fg c0 c60 ce cz cz2 ix : Expr} {p1 p2 p3 p4 p5 p6 p7 p8 p9 p10 p11 p12 : Pos}, EE X f0 δ (tx (digs w)) → EE X f1 δ (tx (digs w)) → EE X f2 δ (tx (digs w)) → EE X f3 δ (tx (digs w)) → EE X w1 δ (tx w) → EE X fg δ (.str FIG) → EE X c0 δ (tx []) → EE X c60 δ (.int 60) → EE X ce δ (tx []) → EE X cz δ (tx [48]) → EE X cz2 δ (tx [48]) → EE X ix δ (.int 0) →
        X.mg "len" = none → PlainIx ix → Gl X "len" → starEach [f1] X.env = (false, eval f1 X.env) :: starEach [] X.env → starEach [fg] X.env = [(false, eval fg X.env)] → attributeBase f2 "strip" X.env (eval f2 X.env) = eval f2 X.env → (p5.endLine == p6.line) = true →
        ET X (.BoolOp .Or [.Compare f0 [.Eq] [c0] p3, .Compare (.Call (.Name "len" p1) [f1] [] p2) [.Gt] [c60] p4, .Compare (.Call (.Attribute f2 "strip" p5) [fg] [] p6) [.NotEq] [ce] p7, .BoolOp .And [.Compare (.Subscript f3 ix p8) [.Eq] [cz] p9, .Compare w1 [.NotEq] [cz2] p10] p11] p12) δ (!okW w) := by
      intro X δ f0 f1 f2 f3 w1 fg c0 c60 ce cz cz2 ix p1 p2 p3 p4 p5 p6 p7 p8 p9 p10 p11 p12 e0 e1 e2 e3 ew eg h0 h60 he hz hz2 hi hm hp hg hs1 hs hbase hline
      refine et_w ((ew_or (l := decide ((60 : Int) < ((S8 (digs w)).length : Nat)) || (!((digs w).all dig) || (decide ((digs w).head? = some 48) && !decide (w = [48])))) (et_eqS e0 h0) fun hk => ?_).is ?_)
      · refine ew_or (et_gt (ee_lenStr e1 (by rw [ln]; omega) hm hg hs1) h60) fun _ => ?_
        refine (ew_or (l := decide ((digs w).head? = some 48) && !decide (w = [48])) (et_neS (ee_stripC e2 eg (by rw [ln]; omega) hs hbase hline) he) fun _ => ?_).is (by rw [stripF])
        rw [S8_eq] at hk
        have hk := of_decide_eq_false hk
        cases hd : digs w with
        | nil => exact absurd hd hk
        | cons c r =>
          rw [hd] at e3 dl
          refine ew_or1 (et_w ((ew_and (et_eqS ((ee_ixC (ch := c) e3 hi (at0 c r) (by rw [SX.S_len]; omega) hp).is (z := tx [c]) rfl) hz) fun _ => ew_and1 (et_neS ew hz2)).is ?_))
          rw [S8_eq, S8_eq]
          congr 1
          simp
      · rw [S8_eq, ln]
        unfold okW
        have e1 : decide (digs w = []) = !decide (1 ≤ (digs w).length) := by
          cases digs w with
          | nil => rfl
          | cons a r => simp
        have e2 : decide ((60 : Int) < ((digs w).length : Nat)) = !decide ((digs w).length ≤ 60) := by
          rw [Bool.eq_iff_iff]; simp; omega
        rw [e1, e2]
        cases decide (1 ≤ (digs w).length) <;> cases decide ((digs w).length ≤ 60) <;> cases (digs w).all dig <;> cases decide ((digs w).head? = some 48) <;> cases decide (w = [48]) <;> rfl
    refine blk_when (test (ee_var 1) (ee_var 1) (ee_var 1) (ee_var 1) (ee_var 0) (ee_str (x := FIG)) (ee_tx l00) ee_int (ee_tx l00) (ee_tx l48) (ee_tx l48) ee_int T.len (fun _ _ => rfl) rfl rfl rfl rfl rfl) k1 (fun ht H2 e2 k2 => ?_) (fun ht H2 e2 k2 => ?_)
    · have ht : okW w = false := by simpa using ht
      have e : noi (numO w) = .non := by unfold numO; rw [ht]; rfl
      rw [e] at q
      exact blk_ret ee_non k2 q
    · have ht : okW w = true := by simpa using ht
      obtain ⟨i1, i2⟩ := int_ok ht
      have e : noi (numO w) = .int (valW w) := by unfold numO; rw [ht]; rfl
      rw [e] at q
      exact blk_ret (ee_intS (ee_var 0) i1 (by rw [SX.S_len]; omega) T.int) k2 q
def RlawText : List Pd → Pd → Prop := fun ds d => ∃ r : Row, ds = [dR r] ∧ Fine r ∧ d = tx (textOf r)
theorem ok_law_text (F : Fun K "_law_text" "_law_text" s_law_text f fd) (T : Bi mg) : FnOk P w K mg base CX0 1 f fd ["_law_row_here"] (SpR K RlawText) := by
  refine ok_R F cs_law_text (fun ds d h => ?_) fun cdv A outer s M H vs ds d Q E hr h k q => ?_
  · obtain ⟨x, rfl, _⟩ := h
    rfl
  · have nd := cs_law_text.nd
    obtain ⟨r, rfl, hf, rfl⟩ := h
    have g1 : ∀ x ∈ r.1, Big x := fun x hx => hf.2.2 x (List.mem_append_left _ hx)
    have g2 : ∀ x ∈ r.2, Big x := fun x hx => hf.2.2 x (List.mem_append_right _ hx)
    have gl := hf.2.1
    refine blk_set nd 1 (ee_first (l := r.1) (ee_tx l00) (EF.ee ((ef_lc (n := r.1.length) (jx := 2) (Yd := fun i => .int (r.1.getD i 0)) (f := fun i => tx (numT (r.1.getD i 0) ++ [32])) rfl nd
      (iw_listI (f := fun i => r.1.getD i 0) (ee_r0 (ee_var 0)) fun i hi => getD_some i hi) (blkOk_by (N := ns_law_text) (sc := defScope s_law_text) (own := [("_law_sign_here", 2)]) (by decide +kernel)) (fun _ _ _ _ _ => pg_name nd rfl (Or.inl rfl)) (by decide)
      (by omega) (fun i _ => flat_str)
      (fun s' H' C cl fp i hi => by
        have hb := g1 _ (List.mem_of_getElem? (getD_some (z := (0 : Int)) i hi))
        have hn := numT_len hb
        exact (ee_addS ((ee_strI (ee_var 2) (big_log hb) T.str).is (z := tx (numT (r.1.getD i 0))) (congrArg Pd.str (str_numT _))) (ee_tx l32) (by rw [SX.S_len, SX.S_len]; show _ + 1 ≤ _; omega)).is (by rw [SX.S_cat]))).is (by
        exact range_map r.1 0 (fun x => tx (numT x ++ [32]))))) g1 (by omega)) k fun σ3 H3 e3 k3 => ?_
    refine blk_ret (ee_text (r := r) (ee_var 1) (ee_tx l40) (ee_round (l := r.2) (ee_tx l32) (EF.ee ((ef_lc (n := r.2.length) (jx := 2) (Yd := fun i => .int (r.2.getD i 0)) (f := fun i => tx (numT (r.2.getD i 0))) rfl nd
      (iw_listI (f := fun i => r.2.getD i 0) (ee_r1 (ee_var 0)) fun i hi => getD_some i hi) (blkOk_by (N := ns_law_text) (sc := defScope s_law_text) (own := [("_law_sign_here", 2)]) (by decide +kernel)) (fun _ _ _ _ _ => pg_name nd rfl (Or.inl rfl)) (by decide)
      (by omega) (fun i _ => flat_str)
      (fun s' H' C cl fp i hi => by
        have hb := g2 _ (List.mem_of_getElem? (getD_some (z := (0 : Int)) i hi))
        exact (ee_strI (ee_var 2) (big_log hb) T.str).is (congrArg Pd.str (str_numT _)))).is (by
        exact range_map r.2 0 (fun x => tx (numT x))))) g2 (by omega)) (ee_tx l41) hf) k3 q
/-! ### the law's own reading -/
def dIn (t : Tx) : Pd := match parse t with | none => .non | some r => dR r
def RlawIn : List Pd → Pd → Prop := fun ds d => ∃ t : Tx, ds = [tx t] ∧ t.length ≤ 40000 ∧ d = dIn t
theorem at_last {t : Tx} {c : Nat} (h : t.getLast? = some c) : atI t (-1) = some c := by
  have e := getLast_drop h
  generalize t.dropLast = d at e
  subst e
  unfold atI ixN
  rw [if_neg (by decide), if_pos (by simp; omega)]
  show (d ++ [c])[((-1 : Int) + ((d ++ [c]).length : Nat)).toNat]? = some c
  have e : ((-1 : Int) + ((d ++ [c]).length : Nat)).toNat = d.length := by simp; omega
  rw [e]
  simp
theorem nums_any (ws : List Tx) : (ws.map numO).any (fun o => o.isNone) = !(ws.all okW) := by
  induction ws with
  | nil => rfl
  | cons a r ih =>
    rw [List.map_cons, List.any_cons, ih, List.all_cons, Bool.not_and]
    congr 1
    unfold numO
    cases okW a <;> rfl
theorem nums_all {ws : List Tx} (h : ws.all okW = true) : (ws.map numO).map noi = (ws.map valW).map Pd.int := by
  rw [List.map_map, List.map_map]
  refine List.map_congr_left fun w hw => ?_
  have := List.all_eq_true.mp h w hw
  show noi (numO w) = .int (valW w)
  unfold numO
  rw [this]
  rfl
theorem nums_map (ws : List Tx) : (List.range ws.length).map (fun i => noi (numO (ws.getD i []))) = (ws.map numO).map noi := by
  rw [range_map ws [] (fun w => noi (numO w)), List.map_map]
  rfl
theorem flat_noi {o : Option Int} : Flat (noi o) := by
  cases o with
  | none => exact flat_non
  | some i => exact flat_int
theorem et_inno {X : Cx} {δ : Dl} {t : Tx} {k : Nat} {o1 o2 o3 b1 b2 b3 n1 n2 ix : Expr} {p1 p2 p3 p4 p5 p6 p7 p8 p9 : Pos} (hr : Room k X.A) (e1 : EE X o1 δ (tx t)) (e2 : EE X o2 δ (tx t)) (e3 : EE X o3 δ (tx t)) (g1 : EE X b1 δ (tx [40])) (g2 : EE X b2 δ (tx [41])) (g3 : EE X b3 δ (tx [41])) (h1 : EE X n1 δ (.int 1)) (h2 : EE X n2 δ (.int 1)) (hi : EE X ix δ (.int (-1))) (hp : PlainIx ix) (hl : t.length ≤ 100000) {kb : Bool} (hkb : (!(decide (t.count 40 = 1 ∧ t.count 41 = 1 ∧ t.getLast? = some 41))) = kb)
    (hs1 : starEach [b1] X.env = [(false, eval b1 X.env)] := by rfl) (hb1 : attributeBase o1 "count" X.env (eval o1 X.env) = eval o1 X.env := by rfl) (hl1 : (p1.endLine == p2.line) = true := by rfl)
    (hs2 : starEach [b2] X.env = [(false, eval b2 X.env)] := by rfl) (hb2 : attributeBase o2 "count" X.env (eval o2 X.env) = eval o2 X.env := by rfl) (hl2 : (p4.endLine == p5.line) = true := by rfl) :
    ET X (.BoolOp .Or [.Compare (.Call (.Attribute o1 "count" p1) [b1] [] p2) [.NotEq] [n1] p3, .Compare (.Call (.Attribute o2 "count" p4) [b2] [] p5) [.NotEq] [n2] p6, .Compare (.Subscript o3 ix p7) [.NotEq] [b3] p8] p9) δ kb := by
  subst hkb
  have c1 : EE X (.Call (.Attribute o1 "count" p1) [b1] [] p2) δ (.int (t.count 40 : Nat)) := (ee_countS e1 g1 hs1 hb1 hl1).is (by rw [cnt1 t 40 (by decide)])
  have c2 : EE X (.Call (.Attribute o2 "count" p4) [b2] [] p5) δ (.int (t.count 41 : Nat)) := (ee_countS e2 g2 hs2 hb2 hl2).is (by rw [cnt1 t 41 (by decide)])
  refine et_w ((ew_or (l := !(decide (t.count 41 = 1)) || !(decide (t.getLast? = some 41))) (et_ne (x := ((t.count 40 : Nat) : Int)) (y := 1) eqI hr c1 h1) fun hk => ew_or (l := !(decide (t.getLast? = some 41))) ((et_ne (x := ((t.count 41 : Nat) : Int)) (y := 1) eqI hr c2 h2).is (by congr 1; rw [Bool.eq_iff_iff]; simp; omega)) fun _ => ?_).is ?_)
  · have hk : t.count 40 = 1 := by
      have hk : (((t.count 40 : Nat) : Int)) = 1 := by simpa using hk
      omega
    have hne : t ≠ [] := fun z => by rw [z] at hk; cases hk
    cases hla : t.getLast? with
    | none => exact absurd (List.getLast?_eq_none_iff.mp hla) hne
    | some c =>
      have := et_neS (pos := p8) ((ee_ixC (pos := p7) (ch := c) e3 hi (at_last hla) (by rw [SX.S_len]; omega) hp).is (z := tx [c]) rfl) g3
      rw [S8_eq] at this
      refine ew_or1 (this.is ?_)
      congr 1
      rw [Bool.eq_iff_iff]
      simp
  · have e : decide (((t.count 40 : Nat) : Int) = 1) = decide (t.count 40 = 1) := by rw [Bool.eq_iff_iff]; simp; omega
    rw [e]
    by_cases a : t.count 40 = 1 <;> by_cases b : t.count 41 = 1 <;> by_cases c : t.getLast? = some 41 <;> simp [a, b, c]
theorem ok_law_in (F : Fun K "_law_in" "_law_in" s_law_in f fd) (T : Bi mg) (hN : H0 P w K mg base "_law_number" 1 ["_law_text_here"] (SpR K RlawNum)) : FnOk P w K mg base CX0 2 f fd ["_law_text_here"] (SpR K RlawIn) := by
  refine ok_R F cs_law_in (fun ds d h => ?_) fun cdv A outer s M H vs ds d Q E hr h k q => ?_
  · obtain ⟨x, rfl, _⟩ := h
    rfl
  · have nd := cs_law_in.nd
    obtain ⟨t, rfl, hl, rfl⟩ := h
    refine blk_when (et_inno (t := t) hr (ee_var 0) (ee_var 0) (ee_var 0) (ee_tx l40) (ee_tx l41) (ee_tx l41) ee_int ee_int (ee_neg ee_int) (fun _ _ => rfl) (by omega) rfl) k (fun ht H1 e1 k1 => ?_) (fun ht H1 e1 k1 => ?_)
    · have hp : parse t = none := parse_no fun z => by
        rw [decide_eq_true z] at ht
        cases ht
      have e : dIn t = .non := by unfold dIn; rw [hp]
      rw [e] at q
      exact blk_ret ee_non k1 q
    · have ht : t.count 40 = 1 ∧ t.count 41 = 1 ∧ t.getLast? = some 41 := by simpa using ht
      obtain ⟨p, u, hpar, et, ep⟩ := parse_in ht
      have hlen : p.length + u.length + 2 = t.length := by rw [et]; simp; omega
      obtain ⟨n1, n2, n3, n4⟩ := words_of p u
      refine blk_set (d := .int ((p.length : Nat) : Int)) nd 1 (ee_indexS rfl (ee_var 0) (ee_tx l40) (ix0 hpar)) k1 fun σ2 H2 e2 k2 => ?_
      have hcut : Txt.slice (S8 t) none (some ((p.length : Nat) : Int)) = S8 p := by
        rw [SX.slice_to (by omega), et]
        congr 1
        rw [Int.toNat_natCast, List.take_left]
      refine blk_setF (ds := (TL.spl [32] 0 [] p).map tx) nd 2 ((ef_split ((ee_sl (ee_var 0) ep_none (ep_some (ee_var 1)) (by rw [SX.S_len]; omega)).is (z := tx p) (by rw [hcut])) (ee_tx l32) rfl (by rw [SX.S_len]; omega)).is (by rw [split_tx])) k2 fun a xs H3 m3 e3 g1 g2 k3 => ?_
      have hne := spl_ne (s := 32) p []
      have esp : TL.spl [32] 0 [] p = (TL.spl [32] 0 [] p).dropLast ++ [(TL.spl [32] 0 [] p).getLast hne] := (List.dropLast_concat_getLast hne).symm
      have hlast := spl_last (s := 32) p []
      rw [List.getLast?_eq_some_getLast hne] at hlast
      generalize (TL.spl [32] 0 [] p).getLast hne = lw at esp hlast
      generalize hws : (TL.spl [32] 0 [] p).dropLast = ws at esp n1 n2 ep
      have g3 : H3 a = some (.lst ((ws.map S8 ++ [S8 lw]).map V.str)) := by
        have e : (TL.spl [32] 0 [] p).map tx = (ws.map S8 ++ [S8 lw]).map Pd.str := by
          rw [esp, List.map_append, List.map_append, List.map_map]
          rfl
        rw [e] at g2
        rw [← dtT_inv g2]
        exact g1
      have aM : a ∉ M := k2.kn.al.nw m3
      have k4 : EO K (a :: M) H H3 (σ2.set 2 (some (.ref a))) (((startD ns_law_in [tx t]).set 1 (some (.int ((p.length : Nat) : Int)))).set 2 (some (.raw (.ref a)))) := ⟨k3.ex, (k2.kn.more m3 e3 g3).set 2 (.raw _)⟩
      refine blk_popIf (ys := ws.map S8) (w := S8 lw) (ee_var 2) (ee_str (x := Str.ofString "")) g3 (List.mem_cons_self ..) (Evl.fresh_back k2.ex m3) k4 (fun hw H4 e4 k5 => ?_) (fun hw H4 e4 k5 => ?_)
      · have hlw : lw ≠ [] := fun z => hw (by rw [z]; exact l00.symm)
        have hno : ¬ (p = [] ∨ p.getLast? = some 32) := fun z => hlw (Option.some.inj (hlast.mpr (by simpa using z)))
        have hp : parse t = none := by rw [ep, if_neg hno]
        have e : dIn t = .non := by unfold dIn; rw [hp]
        rw [e] at q
        exact blk_ret ee_non k5 fun v H5 e5 g5 => by
          cases g5
          exact q _ H5 e5 .non
      · have hlw : lw = [] := SX.S_inj (hw.trans l00)
        have hyes : p = [] ∨ p.getLast? = some 32 := by simpa using hlast.mp (by rw [hlw])
        rw [if_pos hyes] at ep
        have g4 : H4 a = some (.lst ((ws.map S8).map V.str)) := e4 _ _ upd_same
        have wtx : (ws.map S8).map Pd.str = ws.map tx := by rw [List.map_map]; rfl
        have k6 : EO K M H H4 (σ2.set 2 (some (.ref a))) (((startD ns_law_in [tx t]).set 1 (some (.int ((p.length : Nat) : Int)))).set 2 (some (.lst (ws.map tx)))) := ⟨k5.ex, (k5.kn.less (M' := M) fun y hy => List.mem_cons_of_mem _ hy).turn (i := 2) (e := .lst (ws.map tx)) rfl fun v hv => by
          cases dt_raw hv
          exact .lst aM g4 (by rw [← wtx]; exact dtT _)⟩
        refine blk_setLc (n := (ws.map tx).length) (jx := 5) (Yd := fun i => tx (ws.getD i [])) (f := fun i => noi (numO (ws.getD i []))) nd 3 rfl (iw_list (ds := ws.map tx) (ee_var 2) fun i hi => tx_at i (by simpa using hi))
          (blkOk_by (N := ns_law_in) (sc := defScope s_law_in) (own := [("_law_word", 5)]) (by decide +kernel)) (fun _ _ _ _ _ => pg_name nd rfl (Or.inl rfl)) (by decide) (by rw [List.length_map]; omega) (fun i _ => flat_noi)
          (fun s' H' C cl fp i hi => ee_call hN hr pass0 (ea_cons (ee_var 5) ea_nil) ⟨_, rfl, by have := getD_len n1 i; omega, rfl⟩) k6 fun b ys H5 m5 e5 g5 g6 k7 => ?_
        rw [List.length_map, nums_map] at g6
        have k8 := k7.set 3 (dt_fr k6.kn.al m5 g5 g6)
        generalize hvs : TL.spl [32] 0 [] u = vs' at ep n3 n4
        have hmid : Txt.slice (S8 t) (some (((p.length : Nat) : Int) + 1)) (some (-1)) = S8 u := by rw [et]; exact slice_mid p u
        refine blk_setLc (n := (vs'.map tx).length) (jx := 5) (Yd := fun i => tx (vs'.getD i [])) (f := fun i => noi (numO (vs'.getD i []))) nd 4 rfl (iw_list (ds := vs'.map tx) ((EF.ee (ef_split ((ee_sl (ee_var 0) (ep_some (ee_add (ee_var 1) ee_int)) (ep_some (ee_neg ee_int)) (by rw [SX.S_len]; omega)).is (z := tx u) (by rw [hmid])) (ee_tx l32) rfl (by rw [SX.S_len]; omega))).is (by rw [split_tx, hvs])) fun i hi => tx_at i (by simpa using hi))
          (blkOk_by (N := ns_law_in) (sc := defScope s_law_in) (own := [("_law_word", 5)]) (by decide +kernel)) (fun _ _ _ _ _ => pg_name nd rfl (Or.inl rfl)) (by decide) (by rw [List.length_map]; omega) (fun i _ => flat_noi)
          (fun s' H' C cl fp i hi => ee_call hN hr pass0 (ea_cons (ee_var 5) ea_nil) ⟨_, rfl, by have := getD_len n3 i; omega, rfl⟩) k8 fun b2 ys2 H6 m6 e6 g7 g8 k9 => ?_
        rw [List.length_map, nums_map] at g8
        have k10 := k9.set 4 (dt_fr k8.kn.al m6 g7 g8)
        have hany : (ws.map numO ++ vs'.map numO).any (fun o => o.isNone) = !(ws.all okW && vs'.all okW) := by
          rw [List.any_append, nums_any, nums_any]
          cases ws.all okW <;> cases vs'.all okW <;> rfl
        refine blk_ret (ee_if (et_noneIn (os := ws.map numO ++ vs'.map numO) ((EF.ee (ef_cat (ee_var 3) (ee_var 4) (by rw [List.length_map, List.length_map, List.length_map, List.length_map]; omega))).is (by rw [List.map_append]))) (fun ht => ?_) (fun ht => ?_)) k10 q
        · rw [hany] at ht
          have hp : parse t = none := by
            rw [ep]
            unfold rowW
            rw [if_neg]
            intro z
            rw [z] at ht
            cases ht
          have e : dIn t = .non := by unfold dIn; rw [hp]
          rw [e]
          exact ee_non
        · rw [hany] at ht
          have hok : (ws.all okW && vs'.all okW) = true := by simpa using ht
          have hp : parse t = some (ws.map valW, vs'.map valW) := by
            rw [ep]
            unfold rowW
            rw [if_pos hok]
          have e : dIn t = dR (ws.map valW, vs'.map valW) := by unfold dIn; rw [hp]
          rw [e]
          rw [Bool.and_eq_true] at hok
          refine (ee_tup (ea_cons (ee_var 3) (ea_cons (ee_var 4) ea_nil))).is ?_
          rw [nums_all hok.1, nums_all hok.2]
end
end Lr

/-! what is refused, what is right -/
namespace Lr
open PySem L2
open Evl (Ex)
section
variable {P : Program} {w : World} {K : PySem.W.Frag} {mg : Str → Option Value} {base : Heap} {f : Addr} {fd : FuncData} {CR CP CS CB CF CQ CT CE : Addr}
theorem run_blk {X : Cx} {ss : List Stmt} {pins : List (Addr × Obj)} {s : Shared} {σ : St} {H : Hp} {D : Ends} (I : L2.Inv X pins σ H s) (h : Blk X ss D σ H) : wpAny (model X.prog X.w) X.A (execs ss X.env) (SP X pins D) X.xe s := by
  obtain ⟨t, p, ht⟩ := h
  exact p.run pins s σ H D I ht
def Rrefused (CT : Addr) : List Pd → Pd → Prop := fun ds d => RxRead CT ds CT ∧ d = .bl true
theorem ok_refused (F : Fun K "_law_refused" "_law_refused" s_law_refused f fd) (T : Bi mg) (g : K8 K mg CR CP CS CB CF CQ CT CE) (hX : Has P w K mg base (L2N.CX P w) "read" 2 ["text"] (SpX K (RxRead CT))) : FnOk P w K mg base CX0 3 f fd ["_law_text_here"] (SpR K (Rrefused CT)) := by
  refine ok_R F cs_law_refused (fun ds d h => ?_) fun cdv A outer s M H vs ds d Q E hr h k q => ?_
  · obtain ⟨⟨x, rfl, _⟩, _⟩ := h
    rfl
  · have nd := cs_law_refused.nd
    obtain ⟨⟨dd, rfl, hh⟩, rfl⟩ := h
    have hR : RxRead CT [dd] CT := ⟨dd, rfl, hh⟩
    obtain ⟨rf, rd, FR, hg, kp, bn⟩ := hX
    refine ⟨_, pss_cons (L2N.ps_try_as (i := 1) (c := .ref CE) (Wout := fun _ _ _ _ => False)
      (tb := fun W D σ H => ∃ M, Kn K M H σ [some dd, none, none] ∧ ∀ H', Ex H H' → W (.ref CT) none σ H')
      (ts := fun a cls d D σ H => ∃ M, cls = .ref CT ∧ d = none ∧ Kn K M H σ [some dd, some (.raw (.ref a)), none] ∧ ∀ H', Ex H H' → D.rt (.bl true) H')
      rfl rfl nd rfl rfl ⟨rfl, by decide, .inl g.ge⟩ takesN0 (fun W pn xe tk _ => ?_) (fun a oe cls d pn hz hf => ?_)) pss_w, ?_⟩
    · refine ⟨fun pins s' σ H' D I h => ?_⟩
      obtain ⟨M', kn, hW⟩ := h
      exact (pss_one (ps_expr (pe_callS (E := WE W) FR (by exact hr) (by rfl) hg kp bn (L2N.passAt tk) pa_w) rfl)).run pins s' σ H' D I ((ea_cons (ee_var 0) ea_nil) M' σ H' kn _ fun vs H1 x1 h1 => ⟨M', [dd], CT, kn.al.mono x1, h1, hR, fun H2 x2 => hW H2 (x1.trans x2)⟩)
    · refine ⟨fun pins s' σ H' D I h => ?_⟩
      obtain ⟨M', rfl, rfl, kn, hq⟩ := h
      have hot : L2H.HotC (Cx.suite ((cxOf CX0 P w K mg base ns_law_refused "_law_refused" (defScope s_law_refused) f cdv A outer s H E).nox) a ((a, oe) :: pn)) := by
        obtain ⟨ovs, ho⟩ := hf
        exact ⟨(a, oe), ⟨rfl, ovs, ho, hz.2.2 ovs ho⟩, List.mem_cons_self ..⟩
      have er : Err (Cx.suite ((cxOf CX0 P w K mg base ns_law_refused "_law_refused" (defScope s_law_refused) f cdv A outer s H E).nox) a ((a, oe) :: pn)) a CT := ⟨g.ex, oe, List.mem_cons_self .., hz.zc, hf⟩
      have k0 : EO K M' H' H' σ [some dd, some (.raw (.ref a)), none] := ⟨Evl.Ex.refl _, kn⟩
      refine run_blk I ?_
      refine blk_set (d := .lst ([false, false, false].map Pd.bl)) nd 2 (EF.ee (ef_lst (ea_cons (ee_isE er (ee_var 1) g.b T.isinstance g.gb) (ea_cons (ee_isE er (ee_var 1) g.f T.isinstance g.gf) (ea_cons (ee_isE er (ee_var 1) g.q T.isinstance g.gq) ea_nil))))) k0 fun σ1 H1 e1 k1 => ?_
      refine blk_set (d := .lst ([false, false, false, false, false, false].map Pd.bl)) nd 2 ((EF.ee (ef_cat (ee_var 2) (EF.ee (ef_lst (ea_cons (ee_isE er (ee_var 1) g.p T.isinstance g.gp) (ea_cons (ee_isE er (ee_var 1) g.r T.isinstance g.gr) (ea_cons (ee_isE er (ee_var 1) g.s T.isinstance g.gs) ea_nil))))) (by show 3 + 3 ≤ 100000; decide))).is rfl) k1 fun σ2 H2 e2 k2 => ?_
      refine blk_ret (d := .bl true) ((ee_and (ee_isE er (ee_var 1) g.t T.isinstance g.gt) fun _ => ee_and (ee_isET er (ee_var 1) g.v T.isinstance g.gv) fun _ => ee_one (ee_not (ee_anyH (bs := [false, false, false, false, false, false]) hot (ee_var 2) T.any))).is rfl) k2 fun v H3 e3 g3 => ?_
      cases dt_bl g3
      exact hq H3 e3
    · refine ⟨M, k.kn, fun H1 e1 => ⟨true, g.m, fun _ a na => ⟨M, rfl, rfl, (k.kn.mono e1).set 1 (.raw _), fun H2 e2 => ?_⟩, fun z => Bool.noConfusion z⟩⟩
      exact q _ H2 (e1.trans e2) (.bl _)
def RlawRight : List Pd → Pd → Prop := fun ds d => ∃ t : Tx, ds = [tx t] ∧ t.length ≤ 40000 ∧ d = .bl true
theorem parse_fine {t : Tx} {r : Row} (h : parse t = some r) (hl : t.length ≤ 40000) : Fine r := by
  obtain ⟨h1, h2, h3⟩ := parse_row h
  exact ⟨h1, by omega, h3⟩
theorem ok_law_right (F : Fun K "_law_right" "_law_right" s_law_right f fd) (T : Bi mg) (hI : H0 P w K mg base "_law_in" 2 ["_law_text_here"] (SpR K RlawIn)) (hRf : H0 P w K mg base "_law_refused" 3 ["_law_text_here"] (SpR K (Rrefused CT))) (hR : H0 P w K mg base "read" 2 ["text"] (SpW K RreadW))
    (hW : H0 P w K mg base "written" 5 ["row"] (SpR K Rwritten)) (hT : H0 P w K mg base "_law_text" 1 ["_law_row_here"] (SpR K RlawText)) (hL : H0 P w K mg base "least" 4 ["row"] (SpW K Rleast)) : FnOk P w K mg base CX0 6 f fd ["_law_text_here"] (SpR K RlawRight) := by
  refine ok_R F cs_law_right (fun ds d h => ?_) fun cdv A outer s M H vs ds d Q E hr h k q => ?_
  · obtain ⟨x, rfl, _⟩ := h
    rfl
  · have nd := cs_law_right.nd
    have hr2 := hr.mono (show 2 ≤ 5 by decide)
    have hr3 := hr.mono (show 3 ≤ 5 by decide)
    have hr1 := hr.mono (show 1 ≤ 5 by decide)
    have hr4 := hr.mono (show 4 ≤ 5 by decide)
    obtain ⟨t, rfl, hl, rfl⟩ := h
    refine blk_set (d := dIn t) nd 1 (ee_call hI hr2 pass0 (ea_cons (ee_var 0) ea_nil) ⟨t, rfl, hl, rfl⟩) k fun σ1 H1 e1 k1 => ?_
    cases hp : parse t with
    | none =>
      have e : dIn t = .non := by unfold dIn; rw [hp]
      rw [e] at k1
      refine blk_when (t := true) (et_isN (ee_var 1)) k1 (fun _ H2 e2 k2 => ?_) (fun z => by cases z)
      exact blk_ret (ee_call hRf hr3 pass0 (ea_cons (ee_var 0) ea_nil) ⟨⟨tx t, rfl, rfl, .inr ⟨t, rfl, hl, hp⟩⟩, rfl⟩) k2 q
    | some r =>
      have e : dIn t = dR r := by unfold dIn; rw [hp]
      rw [e] at k1
      have hf := parse_fine hp hl
      have hg := least_fine hf
      obtain ⟨f1, f2, f3⟩ := id hf
      refine blk_no (et_isT (ee_var 1)) k1 fun H2 e2 k2 => ?_
      refine blk_setW (r := r) nd 2 (ew_call hR hr2 pass0 (ea_cons (ee_var 0) ea_nil) ⟨t, rfl, hl, hp⟩) k2 fun p a b H3 np na nb ab e3 g1 g2 g3 k3 => ?_
      refine blk_no ((et_w ((ew_or (l := false) (et_not (et_val (ee_isi (Tn := "tuple") (k := true) (ee_var 2) T.isinstance T.tuple (by show kitB "tuple" "tuple" = some true; decide +kernel) (hd := by show ("tuple" : String) ≠ ""; decide)))) fun _ => ew_or1 ((et_ne (x := r) (y := r) eqR hr (ee_var 2) (ee_var 1)).is (by simp))).is rfl))) k3 fun H4 e4 k4 => ?_
      refine blk_no ((et_neS (ee_call hW hr pass0 (ea_cons (ee_var 2) ea_nil) ⟨r, rfl, hf, rfl⟩) (ee_call hT hr1 pass0 (ea_cons (EWR.ee (ew_call hL hr4 pass0 (ea_cons (ee_var 1) ea_nil) ⟨r, rfl, f1, by omega, by omega, rfl⟩)) ea_nil) ⟨leastF r, rfl, hg, rfl⟩)).is (by simp)) k4 fun H5 e5 k5 => ?_
      have e35 := e4.trans e5
      have g1' := e35 _ _ g1
      have g2' := e35 _ _ g2
      have g3' := e35 _ _ g3
      have pa : p ≠ a := fun z => by rw [z, g2] at g1; cases g1
      have pb : p ≠ b := fun z => by rw [z, g3] at g1; cases g1
      have pM : p ∉ M := k2.kn.al.nw np
      have kn5 := (k2.kn.more2 na nb (e3.trans e35) g2' g3').set 2 (.tup (a := p) (ds := [.raw (.ref a), .raw (.ref b)]) (by
        intro z
        rcases List.mem_cons.mp z with z | z
        · exact pa z
        · rcases List.mem_cons.mp z with z | z
          · exact pb z
          · exact pM z) g1' (.cons (.raw _) (.cons (.raw _) .nil)))
      have k6 : EO K (a :: b :: M) H H5 _ _ := ⟨k5.ex, kn5⟩
      have fa : H a = none := Evl.fresh_back k2.ex na
      have fb : H b = none := Evl.fresh_back k2.ex nb
      refine blk_append (xs := r.1.map V.int) (ee_ixT (ee_var 2) ee_int rfl) ee_int g2' (by rw [List.length_map]; omega) (List.mem_cons_self ..) fa k6 fun v H6 e6 g6 k7 => ?_
      refine blk_append (xs := r.2.map V.int) (ee_ixT (ee_var 2) ee_int rfl) ee_int (by
        rw [upd_ne ab.symm]
        exact e6 _ _ g3') (by rw [List.length_map]; omega) (List.mem_cons_of_mem _ (List.mem_cons_self ..)) fb k7 fun v2 H7 e7 g7 k8 => ?_
      refine blk_ret (d := .bl true) ((ee_eq (x := r) (y := r) eqR hr (EWR.ee (ew_call hR hr2 pass0 (ea_cons (ee_var 0) ea_nil) ⟨t, rfl, hl, hp⟩)) (ee_var 1)).is (by simp)) k8 fun v3 H8 e8 g8 => ?_
      cases dt_bl g8
      exact q _ H8 e8 (.bl _)
end
end Lr

/-! the few texts; the law -/
namespace Lr
open PySem L2
open Evl (Ex)
def few1 : List Str := [Str.ofString "", Str.ofString "()", Str.ofString "(", Str.ofString ")", Str.ofString "(1)", Str.ofString "1 (2)", Str.ofString "1 2 (3 4)", Str.ofString "1(2)", Str.ofString "(1 2", Str.ofString "1 2)", Str.ofString "1 2", Str.ofString "(1) 2", Str.ofString "(1)(2)", Str.ofString "((1))"]
def few2 : List Str := [Str.ofString " (1)", Str.ofString "(1) ", Str.ofString "( 1)", Str.ofString "(1 )", Str.ofString "(1  2)", Str.ofString "1  (2)", Str.ofString "1  2 (3)", Str.ofString "(-1)", Str.ofString "-1 (-2 0)", Str.ofString "(-0)"]
def few3 : List Str := [Str.ofString "(01)", Str.ofString "00 (1)", Str.ofString "(+1)", Str.ofString "(1_0)", Str.ofString "(x)", Str.ofString "x (1)", Str.ofString "(1,2)", Str.ofString "(1\n)", Str.ofString "1\t(2)", Str.ofString "(1\t2)", Str.ofString "(1)\n"]
def nine (k : Nat) : Tx := List.replicate k 57
def few4 : List Str := [Str.ofString "1 1 (1 1)", S8 ([40] ++ nine 60 ++ [41]), S8 ([40] ++ nine 61 ++ [41]), S8 ([45] ++ nine 60 ++ [32, 40, 49, 41])]
def few5 : List Str := [S8 (nine 4000 ++ [32, 40, 49, 41]), Str.ofString "(1 2) (3)"]
def fewS : List Str := few1 ++ few2 ++ few3 ++ few4 ++ few5
theorem foldl9 : ∀ (k : Nat) (a : Array Nat), (List.replicate k (#[57] : Array Nat)).foldl (· ++ ·) a = a ++ (nine k).toArray
  | 0, a => by simp [nine]
  | k + 1, a => by
    rw [List.replicate_succ, List.foldl_cons, foldl9 k]
    refine Array.toList_inj.mp ?_
    simp [nine, List.replicate_succ]
theorem mul9 {k : Nat} (h : 2 ≤ k) : Txt.mul (Str.ofString "9") (k : Int) = S8 (nine k) := by
  have e : Str.ofString "9" = S8 [57] := lit rfl
  rw [e]
  unfold Txt.mul
  rw [if_neg (by omega), if_neg]
  · refine Str.ext' ?_
    show (List.replicate ((k : Int)).toNat (#[57] : Array Nat)).foldl (· ++ ·) #[] = (nine k).toArray
    rw [Int.toNat_natCast, foldl9]
    simp
  · rw [Bool.or_eq_true]
    intro z
    rcases z with z | z
    · have := eq_of_beq z
      omega
    · rw [SX.S_len] at z
      cases z
theorem mulOk9 {k : Nat} (h : 2 ≤ k) (h2 : k ≤ 5000) : MulOk (Str.ofString "9") (k : Int) := by
  have e : (Str.ofString "9").length = 1 := by rw [show Str.ofString "9" = S8 [57] from lit rfl, SX.S_len]; rfl
  refine ⟨?_, fun _ _ => ?_, fun _ _ => ?_⟩
  · rw [Bool.or_eq_false_iff, decide_eq_false_iff_not, decide_eq_false_iff_not]
    omega
  · rw [e]
    have : (2 ^ 63 - 1 : Int) / (k : Int) ≥ 1 := (Int.le_ediv_iff_mul_le (by omega)).mpr (by omega)
    omega
  · rw [e, Int.toNat_natCast, Nat.one_mul]
    show decide (k > sizeLine) = false
    refine decide_eq_false ?_
    have : (5000 : Nat) ≤ sizeLine := by decide
    omega
theorem few_len : ∀ s ∈ fewS, s.length ≤ 5000 := by
  intro s hs
  have a : ∀ s ∈ few1 ++ few2 ++ few3, s.length ≤ 5000 := by decide +kernel
  unfold fewS at hs
  rcases List.mem_append.mp hs with hs | hs
  · rcases List.mem_append.mp hs with hs | hs
    · exact a s hs
    · unfold few4 at hs
      simp only [List.mem_cons, List.not_mem_nil, or_false] at hs
      rcases hs with rfl | rfl | rfl | rfl
      · decide +kernel
      · rw [SX.S_len]; simp [nine]
      · rw [SX.S_len]; simp [nine]
      · rw [SX.S_len]; simp [nine]
  · unfold few5 at hs
    simp only [List.mem_cons, List.not_mem_nil, or_false] at hs
    rcases hs with rfl | rfl
    · rw [SX.S_len]; simp [nine]
    · decide +kernel
section
variable {X : Cx} {δ : Dl} {p pos : Pos} {x : Str} {ps : List Str} {k : Nat} {d : Pd} {CX : CXT}
/-- a call without arguments -/
theorem ee_call0 {R : List Pd → Pd → Prop} (F : Has X.prog X.w X.K X.mg X.base CX x k ps (SpR X.K R)) (hr : Room k X.A) (hx : Passes CX X E0) (hR : R [] d) (hg : Gl X x := by rfl) (hdb : (x == ("__debug__" : Str)) = false := by decide) : EE X (.Call (.Name x p) [] [] pos) δ d := fun M σ H kn Q q => by
  obtain ⟨f, fd, F, g, kp, b⟩ := F
  refine ⟨_, pe_call0 F hr hg g kp b .nil hx hdb, ⟨M, [], d, kn.al, .nil, hR, fun v H1 e1 g1 => q v H1 e1 g1⟩⟩
end
section
variable {P : Program} {w : World} {K : PySem.W.Frag} {mg : Str → Option Value} {base : Heap} {f : Addr} {fd : FuncData} {CR CP CS CB CF CQ CT CE : Addr}
def Rfew : List Pd → Pd → Prop := fun ds d => ds = [] ∧ d = .lst (fewS.map Pd.str)
theorem l9 {X : Cx} {δ : Dl} {a b : Expr} {pos : Pos} {k : Nat} (ha : EE X a δ (.str (Str.ofString "9"))) (hb : EE X b δ (.int (k : Int))) (h : 2 ≤ k) (h2 : k ≤ 5000) : EE X (.BinOp a .Mult b pos) δ (tx (nine k)) := (ee_mulS ha hb (mulOk9 h h2)).is (by rw [mul9 h])
theorem ee_cat {X : Cx} {δ : Dl} {a b : Expr} {pos : Pos} {s t : Tx} (ha : EE X a δ (tx s)) (hb : EE X b δ (tx t)) (hz : s.length + t.length ≤ 16000000) : EE X (.BinOp a .Add b pos) δ (tx (s ++ t)) := (ee_addS ha hb (by rw [SX.S_len, SX.S_len]; exact hz)).is (by rw [SX.S_cat])
theorem ok_few (F : Fun K "_law_few" "_law_few" s_law_few f fd) (T : Bi mg) : FnOk P w K mg base CX0 1 f fd [] (SpR K Rfew) := by
  refine ok_R F cs_law_few (fun ds d h => ?_) fun cdv A outer s M H vs ds d Q E hr h k q => ?_
  · obtain ⟨rfl, _⟩ := h
    rfl
  · have nd := cs_law_few.nd
    obtain ⟨rfl, rfl⟩ := h
    have s14 : Str.ofString " (1)" = S8 [32, 40, 49, 41] := lit rfl
    refine blk_set (d := .lst (few1.map Pd.str)) nd 0 (EF.ee (ef_lst (by
      refine ea_cons ee_str (ea_cons ee_str (ea_cons ee_str (ea_cons ee_str (ea_cons ee_str (ea_cons ee_str (ea_cons ee_str (ea_cons ee_str (ea_cons ee_str (ea_cons ee_str (ea_cons ee_str (ea_cons ee_str (ea_cons ee_str (ea_cons ee_str ea_nil)))))))))))))) (by show 14 ≤ 100000; decide))) k fun σ1 H1 e1 k1 => ?_
    refine blk_set (d := .lst ((few1 ++ few2).map Pd.str)) nd 0 ((EF.ee (ef_cat (es' := few2.map Pd.str) (ee_var 0) (EF.ee (ef_lst (ea_cons ee_str (ea_cons ee_str (ea_cons ee_str (ea_cons ee_str (ea_cons ee_str (ea_cons ee_str (ea_cons ee_str (ea_cons ee_str (ea_cons ee_str (ea_cons ee_str ea_nil)))))))))) (by show 10 ≤ 100000; decide))) (by show 14 + 10 ≤ 100000; decide))).is (by rw [List.map_append])) k1 fun σ2 H2 e2 k2 => ?_
    refine blk_set (d := .lst ((few1 ++ few2 ++ few3).map Pd.str)) nd 0 ((EF.ee (ef_cat (es' := few3.map Pd.str) (ee_var 0) (EF.ee (ef_lst (ea_cons ee_str (ea_cons ee_str (ea_cons ee_str (ea_cons ee_str (ea_cons ee_str (ea_cons ee_str (ea_cons ee_str (ea_cons ee_str (ea_cons ee_str (ea_cons ee_str (ea_cons ee_str ea_nil))))))))))) (by show 11 ≤ 100000; decide))) (by show 24 + 11 ≤ 100000; decide))).is (by rw [List.map_append (l₁ := few1 ++ few2)])) k2 fun σ3 H3 e3 k3 => ?_
    refine blk_set (d := .lst ((few1 ++ few2 ++ few3 ++ few4).map Pd.str)) nd 0 ((EF.ee (ef_cat (es' := few4.map Pd.str) (ee_var 0) (EF.ee (ef_lst (ea_cons ee_str (ea_cons (ee_cat (ee_cat (ee_tx l40) (l9 (k := 60) ee_str ee_int (by decide) (by decide)) (by simp [nine])) (ee_tx l41) (by simp [nine])) (ea_cons (ee_cat (ee_cat (ee_tx l40) (l9 (k := 61) ee_str ee_int (by decide) (by decide)) (by simp [nine])) (ee_tx l41) (by simp [nine]))
      (ea_cons (ee_cat (ee_cat (ee_tx l45) (l9 (k := 60) ee_str ee_int (by decide) (by decide)) (by simp [nine])) (ee_tx s14) (by simp [nine])) ea_nil)))) (by show 4 ≤ 100000; decide))) (by show 35 + 4 ≤ 100000; decide))).is (by rw [List.map_append (l₁ := few1 ++ few2 ++ few3)])) k3 fun σ4 H4 e4 k4 => ?_
    exact blk_ret ((EF.ee (ef_cat (es' := few5.map Pd.str) (ee_var 0) (EF.ee (ef_lst (ea_cons (ee_cat (l9 (k := 4000) ee_str ee_int (by decide) (by decide)) (ee_tx s14) (by simp [nine])) (ea_cons ee_str ea_nil)) (by show 2 ≤ 100000; decide))) (by show 39 + 2 ≤ 100000; decide))).is (by
      show _ = Pd.lst (fewS.map Pd.str)
      unfold fewS
      rw [List.map_append (l₁ := few1 ++ few2 ++ few3 ++ few4)])) k4 q
theorem str_tx (s : Str) : s = S8 (TL.tl s) := (SX.S_tl s).symm
theorem puts_at {i : Int} (h0 : 0 ≤ i) (h1 : i < 16) : ∃ c, atI (TL.tl (Str.ofString "0123456789 ()-x\n")) i = some c := by
  have all : ∀ j : Fin 16, (atI (TL.tl (Str.ofString "0123456789 ()-x\n")) ((j.1 : Nat) : Int)).isSome = true := by decide +kernel
  have e : i = ((i.toNat : Nat) : Int) := by omega
  have := all ⟨i.toNat, by omega⟩
  rw [e]
  exact Option.isSome_iff_exists.mp this
theorem ok_law (F : Fun K "law" "law" s_law f fd) (T : Bi mg) (hC : H0 P w K mg base "_law_cell_at" 1 ["_law_script", "_law_k"] (SpR K Rcell)) (hD : H0 P w K mg base "_law_draw" 1 ["_law_cell", "_law_k", "_law_many"] (SpR K Rdraw)) (hRow : H0 P w K mg base "_law_row" 2 ["_law_script", "_law_by"] (SpR K Rrow)) (hL : H0 P w K mg base "least" 4 ["row"] (SpW K Rleast)) (hT : H0 P w K mg base "_law_text" 1 ["_law_row_here"] (SpR K RlawText)) (hW : H0 P w K mg base "written" 5 ["row"] (SpR K Rwritten))
    (hG : H0 P w K mg base "_law_right" 6 ["_law_text_here"] (SpR K RlawRight)) (hR : H0 P w K mg base "read" 2 ["text"] (SpW K RreadW)) (hFew : H0 P w K mg base "_law_few" 1 [] (SpR K Rfew)) (hRf : H0 P w K mg base "_law_refused" 3 ["_law_text_here"] (SpR K (Rrefused CT))) : FnOk P w K mg base CX0 7 f fd ["_law_script"] (SpR K Rlaw) := by
  refine ok_R F cs_law (fun ds d h => ?_) fun cdv A outer s M H vs ds d Q E hr h k q => ?_
  · obtain ⟨x, rfl, _⟩ := h
    rfl
  · have nd := cs_law.nd
    have hr1 := hr.mono (show 1 ≤ 6 by decide)
    have hr2 := hr.mono (show 2 ≤ 6 by decide)
    have hr3 := hr.mono (show 3 ≤ 6 by decide)
    have hr4 := hr.mono (show 4 ≤ 6 by decide)
    have hr5 := hr.mono (show 5 ≤ 6 by decide)
    obtain ⟨ns, rfl, hn, rfl⟩ := h
    have ro := row_ok (b := 1) hn
    refine blk_set (d := dR (rowF ns 1)) nd 1 (ee_call hRow hr2 pass0 (ea_cons (ee_var 0) (ea_cons ee_int ea_nil)) ⟨ns, 1, rfl, hn, by decide, by decide, rfl⟩) k fun σ1 H1 e1 k1 => ?_
    generalize rowF ns 1 = r at ro k1
    obtain ⟨f1, rl, rc, bl, bc⟩ := ro
    have hf : Fine r := ⟨f1, by omega, fun x hx => (List.mem_append.mp hx).elim (bl x) (bc x)⟩
    have hg := least_fine hf
    have hll := least_lens (r := r)
    have hpt := parse_text hg.1 hg.2.2
    have htl := text_len hg.2.2
    refine blk_unpack nd 2 3 rfl (EWR.ee (ew_call hL hr4 pass0 (ea_cons (ee_var 1) ea_nil) ⟨r, rfl, f1, by omega, by omega, rfl⟩)) k1 fun σ2 H2 e2 k2 => ?_
    refine blk_set (d := tx (textOf (leastF r))) nd 4 (ee_call hT hr1 pass0 (ea_cons ((ee_tup (ea_cons (ee_var 2) (ea_cons (ee_var 3) ea_nil))).is (z := dR (leastF r)) rfl) ea_nil) ⟨leastF r, rfl, hg, rfl⟩) k2 fun σ3 H3 e3 k3 => ?_
    refine blk_set (d := dR r) nd 5 (ee_tup (ea_cons (EF.ee (ef_list (ee_r0 (ee_var 1)) T.list)) (ea_cons (EF.ee (ef_list (ee_r1 (ee_var 1)) T.list)) ea_nil))) k3 fun σ4 H4 e4 k4 => ?_
    refine blk_no ((et_w ((ew_or (l := false) (et_neS (ee_call hW hr5 pass0 (ea_cons (ee_var 5) ea_nil) ⟨r, rfl, hf, rfl⟩) (ee_var 4)) fun _ => ew_or1 ((et_ne (x := r) (y := r) eqR hr (ee_var 5) (ee_var 1)).is (by simp))).is (by simp)))) k4 fun H5 e5 k5 => ?_
    generalize htt : textOf (leastF r) = t at hpt htl k5
    have htb : t.length ≤ 39000 := by omega
    refine blk_no ((et_w ((ew_or (l := false) (et_not (et_val (ee_call hG hr pass0 (ea_cons (ee_var 4) ea_nil) ⟨t, rfl, by omega, rfl⟩))) fun _ => ew_or1 ((et_ne (x := leastF r) (y := leastF r) eqR hr (EWR.ee (ew_call hR hr2 pass0 (ea_cons (ee_var 4) ea_nil) ⟨t, rfl, by omega, hpt⟩)) ((ee_tup (ea_cons (ee_var 2) (ea_cons (ee_var 3) ea_nil))).is (z := dR (leastF r)) rfl)).is (by simp))).is rfl))) k5 fun H6 e6 k6 => ?_
    refine blk_set (d := .int (ns.getD 3 0 + 7 * ns.getD 0 0)) nd 6 (ee_add (ee_call hC hr1 pass0 (ea_cons (ee_var 0) (ea_cons ee_int ea_nil)) ⟨ns, 3, rfl, rfl⟩) (ee_mul ee_int (ee_call hC hr1 pass0 (ea_cons (ee_var 0) (ea_cons ee_int ea_nil)) ⟨ns, 0, rfl, rfl⟩) (.inl (by decide)))) k6 fun σ7 H7 e7 k7 => ?_
    generalize ns.getD 3 0 + 7 * ns.getD 0 0 = cell at k7
    refine blk_for (n := 3) (Yd := fun i => .int i) nd 7 PassesOwn.never rfl (iw_range1 (n := 3) ee_int (by decide) (by decide) T.range) k7
      (fun B i σ' H' => EO K M B H' σ' [some (.scr ns), some (dR r), some (dL (leastF r).1), some (dL (leastF r).2), some (tx t), some (dR r), some (.int cell), none, none, none, none, none, none])
      (fun B i σ' H' p => ⟨exM p.ex, p.kn.al⟩) (fun H8 e8 k8 => k8.here) (fun B i v σ' H' H8 hi eB p e8 g8 => ?_) (fun B σ' H' eB p => ?_)
    · have k8 := (p.mono e8).set 7 g8
      have lt : (0 : Int) < (t.length : Nat) + 1 := by omega
      have d1 := draw_nn (c := cell + i) (k := 1) lt
      have d2 := draw_lt (c := cell + i) (k := 1) lt
      refine blk_set (d := .int (drawF (cell + i) 1 ((t.length : Nat) + 1))) nd 8 (ee_call hD hr1 pass0 (ea_cons (ee_add (ee_var 6) (ee_var 7)) (ea_cons ee_int (ea_cons (ee_add ((ee_lenStr (ee_var 4) (by rw [SX.S_len]; omega) T.len).is (z := .int (t.length : Nat)) (by rw [SX.S_len])) ee_int) ea_nil))) ⟨_, _, _, rfl, lt, by decide, by decide, rfl⟩) k8 fun σ9 H9 e9 k9 => ?_
      generalize drawF (cell + i) 1 ((t.length : Nat) + 1) = at_ at d1 d2 k9
      have d3 := draw_nn (c := cell + i) (k := 2) (show (0 : Int) < 16 by decide)
      have d4 := draw_lt (c := cell + i) (k := 2) (show (0 : Int) < 16 by decide)
      obtain ⟨ch, hch⟩ := puts_at d3 d4
      refine blk_set (d := tx [ch]) nd 9 ((ee_ixC (ch := ch) (ee_str (x := Str.ofString "0123456789 ()-x\n")) (ee_call hD hr1 pass0 (ea_cons (ee_add (ee_var 6) (ee_var 7)) (ea_cons ee_int (ea_cons ee_int ea_nil))) ⟨_, _, _, rfl, by decide, by decide, by decide, rfl⟩) hch (by decide +kernel)).is rfl) k9 fun σ10 H10 e10 k10 => ?_
      obtain ⟨put, hput⟩ : ∃ put : Tx, put = if drawF (cell + i) 3 2 = 0 then [] else [ch] := ⟨_, rfl⟩
      have lput : put.length ≤ 1 := by
        rw [hput]
        split <;> simp
      refine blk_ifSet (d := tx put) nd 9 (et_eq (x := drawF (cell + i) 3 2) (y := 0) eqI hr (ee_call hD hr1 pass0 (ea_cons (ee_add (ee_var 6) (ee_var 7)) (ea_cons ee_int (ea_cons ee_int ea_nil))) ⟨_, _, _, rfl, by decide, by decide, by decide, rfl⟩) ee_int) (fun ht => (ee_tx l00).is (by rw [hput, if_pos (of_decide_eq_true ht)])) (fun ht => by
        rw [hput, if_neg (of_decide_eq_false ht)]
        rfl) k10 fun σ11 H11 e11 k11 => ?_
      have d5 := draw_nn (c := cell + i) (k := 4) (show (0 : Int) < 2 by decide)
      refine blk_set (d := tx (t.drop (at_ + drawF (cell + i) 4 2).toNat)) nd 10 ((ee_sl (ee_var 4) (ep_some (ee_add (ee_var 8) (ee_call hD hr1 pass0 (ea_cons (ee_add (ee_var 6) (ee_var 7)) (ea_cons ee_int (ea_cons ee_int ea_nil))) ⟨_, _, _, rfl, by decide, by decide, by decide, rfl⟩))) ep_none (by rw [SX.S_len]; omega)).is (by rw [SX.slice_from (by omega)])) k11 fun σ12 H12 e12 k12 => ?_
      have lt1 : (t.take at_.toNat).length ≤ at_.toNat := by rw [List.length_take]; omega
      have lt2 : (t.drop (at_ + drawF (cell + i) 4 2).toNat).length ≤ t.length - at_.toNat := by
        rw [List.length_drop]
        omega
      refine blk_no ((et_not (et_val (ee_call hG hr pass0 (ea_cons (ee_cat (ee_cat ((ee_sl (ee_var 4) ep_none (ep_some (ee_var 8)) (by rw [SX.S_len]; omega)).is (z := tx (t.take at_.toNat)) (by rw [SX.slice_to d1])) (ee_var 9) (by omega)) (ee_var 10) (by rw [List.length_append]; omega)) ea_nil) ⟨_, rfl, by rw [List.length_append, List.length_append]; omega, rfl⟩))).is rfl) k12 fun H13 e13 k13 => ?_
      exact blk_nil (((((k13.lose 7).lose 8).lose 9).lose 10))
    · have k8 := p.base (k7.ex.trans eB)
      have hz : fewS.length = 41 := rfl
      refine blk_no ((et_not (et_val (ee_all (bs := fewS.map fun _ => true) rfl (EF.ee ((ef_lc (n := fewS.length) (jx := 11) (Yd := fun j => .str (fewS.getD j (Str.ofString ""))) (f := fun j => .bl true) rfl nd
        (iw_list (ds := fewS.map Pd.str) (ee_call0 hFew hr1 pass0 ⟨rfl, rfl⟩) fun j hj => by
          rw [List.length_map] at hj
          rw [List.getElem?_map, getD_some (z := Str.ofString "") j hj]
          rfl) (blkOk_by (N := ns_law) (sc := defScope s_law) (own := [("_law_some", 11)]) (by decide +kernel)) (fun _ _ _ _ _ => pg_name nd rfl (Or.inl rfl)) (by decide)
        (by decide) (fun j _ => flat_bl)
        (fun s' H' C cl fp j hj => by
          have hm := few_len _ (List.mem_of_getElem? (getD_some (z := Str.ofString "") j hj))
          refine ee_call hG hr pass0 (ea_cons (ee_var 11) ea_nil) ⟨TL.tl (fewS.getD j (Str.ofString "")), congrArg (fun z => [Pd.str z]) (str_tx _), ?_, rfl⟩
          rw [← TL.len_tl]
          omega)).is (by
          rw [List.map_map]
          exact range_map fewS (Str.ofString "") (fun e => Pd.bl true)))) T.all))).is (by
            rw [all_map_id, List.all_eq_true.mpr (fun _ _ => rfl)]
            rfl)) k8 fun H9 e9 k9 => ?_
      have n1 : ("NoneType" : String) ≠ "" := by decide
      have n2 : ("int" : String) ≠ "" := by decide
      have n4 : ("list" : String) ≠ "" := by decide
      have n7 : ("bool" : String) ≠ "" := by decide
      have hth : ∀ y ∈ [Pd.non, .int 5, .lst [.str (Str.ofString "(1)")], .bl true], RxRead CT [y] CT := fun y hy => by
        simp only [List.mem_cons, List.not_mem_nil, or_false] at hy
        rcases hy with rfl | rfl | rfl | rfl
        · exact ⟨_, rfl, rfl, .inl ⟨n1, by show kitB "NoneType" "str" = some false; decide +kernel⟩⟩
        · exact ⟨_, rfl, rfl, .inl ⟨n2, by show kitB "int" "str" = some false; decide +kernel⟩⟩
        · exact ⟨_, rfl, rfl, .inl ⟨n4, by show kitB "list" "str" = some false; decide +kernel⟩⟩
        · exact ⟨_, rfl, rfl, .inl ⟨n7, by show kitB "bool" "str" = some false; decide +kernel⟩⟩
      generalize hsl : ([.non, .int 5, .lst [.str (Str.ofString "(1)")], .bl true] : List Pd) = sl at hth
      have slz : sl.length = 4 := by rw [← hsl]; rfl
      refine blk_ret ((ee_all (bs := sl.map fun _ => true) rfl (EF.ee ((ef_lc (n := sl.length) (jx := 12) (Yd := fun j => sl.getD j .non) (f := fun j => .bl true) rfl nd
        (iw_list ((EF.ee (ef_lst (ea_cons ee_non (ea_cons ee_int (ea_cons (EF.ee (ef_lst (ea_cons ee_str ea_nil))) (ea_cons ee_bl ea_nil)))) (by show 4 ≤ 100000; decide))).is (z := .lst sl) (by rw [← hsl])) fun j hj => getD_some j hj) (blkOk_by (N := ns_law) (sc := defScope s_law) (own := [("_law_thing", 12)]) (by decide +kernel)) (fun _ _ _ _ _ => pg_name nd rfl (Or.inl rfl)) (by decide)
        (by omega) (fun j _ => flat_bl)
        (fun s' H' C cl fp j hj => ee_call hRf hr3 pass0 (ea_cons (ee_var 12) ea_nil) ⟨hth _ (List.mem_of_getElem? (getD_some (z := Pd.non) j hj)), rfl⟩)).is (by
          rw [List.map_map]
          exact range_map sl .non (fun e => Pd.bl true)))) T.all).is (by
            rw [all_map_id, List.all_eq_true.mpr (fun _ _ => rfl)])) k9 q
end
end Lr

namespace Lr
open PySem L2
theorem sqm_of {K : PySem.W.Frag} {H : Hp} {a : Addr} {xs : List V} (h : SqL K H a xs) : SqM K [] H a xs := by
  rcases h with h | h
  · exact .inl ⟨by simp, h⟩
  · exact .inr h
theorem all_mk {l : PySem.W.OpenLaw} {w : World} {K : PySem.W.Frag} {h : Heap} {mg : Str → Option Value} {fa : Addr} (X : K.In h) (G : h.Ns mainGlobals mg) (hfa : mg "law" = some (.ref fa))
    {tk_MOST : Nat} {tk_FIGURES : Nat} {sv_FIGURES : Str} {C_BadRow : Addr} {C_BadPlace : Addr} {C_BadSigns : Addr} {C_BadBase : Addr} {C_BadFigures : Addr} {C_BadFraction : Addr} {C_BadText : Addr} {C_RowError : Addr} {od1 an1 : Option Addr} {sl1 : Array (Option Value)} {f1 : Addr} {oc1 kV1 dc1 pm1 cd1 ct1 : Value} {od2 an2 : Option Addr} {sl2 : Array (Option Value)} {f2 : Addr} {oc2 kV2 dc2 pm2 cd2 ct2 : Value} {od3 an3 : Option Addr} {sl3 : Array (Option Value)} {f3 : Addr} {oc3 kV3 dc3 pm3 cd3 ct3 : Value} {od4 an4 : Option Addr} {sl4 : Array (Option Value)} {f4 : Addr} {oc4 kV4 dc4 pm4 cd4 ct4 : Value} {od5 an5 : Option Addr} {sl5 : Array (Option Value)} {f5 : Addr} {oc5 kV5 dc5 pm5 cd5 ct5 : Value} {od6 an6 : Option Addr} {sl6 : Array (Option Value)} {f6 : Addr} {oc6 kV6 dc6 pm6 cd6 ct6 : Value} {od7 an7 : Option Addr} {sl7 : Array (Option Value)} {f7 : Addr} {oc7 kV7 dc7 pm7 cd7 ct7 : Value} {od8 an8 : Option Addr} {sl8 : Array (Option Value)} {f8 : Addr} {oc8 kV8 dc8 pm8 cd8 ct8 : Value} {od9 an9 : Option Addr} {sl9 : Array (Option Value)} {f9 : Addr} {oc9 kV9 dc9 pm9 cd9 ct9 : Value} {od10 an10 : Option Addr} {sl10 : Array (Option Value)} {f10 : Addr} {oc10 kV10 dc10 pm10 cd10 ct10 : Value} {od11 an11 : Option Addr} {sl11 : Array (Option Value)} {f11 : Addr} {oc11 kV11 dc11 pm11 cd11 ct11 : Value} {od12 an12 : Option Addr} {sl12 : Array (Option Value)} {f12 : Addr} {oc12 kV12 dc12 pm12 cd12 ct12 : Value} {od13 an13 : Option Addr} {sl13 : Array (Option Value)} {f13 : Addr} {oc13 kV13 dc13 pm13 cd13 ct13 : Value} {od14 an14 : Option Addr} {sl14 : Array (Option Value)} {f14 : Addr} {oc14 kV14 dc14 pm14 cd14 ct14 : Value} {od15 an15 : Option Addr} {sl15 : Array (Option Value)} {f15 : Addr} {oc15 kV15 dc15 pm15 cd15 ct15 : Value} {od16 an16 : Option Addr} {sl16 : Array (Option Value)} {f16 : Addr} {oc16 kV16 dc16 pm16 cd16 ct16 : Value} {od17 an17 : Option Addr} {sl17 : Array (Option Value)} {f17 : Addr} {oc17 kV17 dc17 pm17 cd17 ct17 : Value} {od18 an18 : Option Addr} {sl18 : Array (Option Value)} {f18 : Addr} {oc18 kV18 dc18 pm18 cd18 ct18 : Value} {od19 an19 : Option Addr} {sl19 : Array (Option Value)} {f19 : Addr} {oc19 kV19 dc19 pm19 cd19 ct19 : Value}
    (n_MOST : PySem.W.nsIn K mainGlobals "MOST" = some (some (.int 1000000000000000000000000000000000000000000000000000000000000 tk_MOST)))
    (n_FIGURES : PySem.W.nsIn K mainGlobals "FIGURES" = some (some (.str sv_FIGURES tk_FIGURES)))
    (q_FIGURES : sv_FIGURES = Str.ofString "0123456789")
    (g_BadRow : PySem.W.nsIn K mainGlobals "BadRow" = some (some (.ref C_BadRow)))
    (g_BadPlace : PySem.W.nsIn K mainGlobals "BadPlace" = some (some (.ref C_BadPlace)))
    (g_BadSigns : PySem.W.nsIn K mainGlobals "BadSigns" = some (some (.ref C_BadSigns)))
    (g_BadBase : PySem.W.nsIn K mainGlobals "BadBase" = some (some (.ref C_BadBase)))
    (g_BadFigures : PySem.W.nsIn K mainGlobals "BadFigures" = some (some (.ref C_BadFigures)))
    (g_BadFraction : PySem.W.nsIn K mainGlobals "BadFraction" = some (some (.ref C_BadFraction)))
    (g_BadText : PySem.W.nsIn K mainGlobals "BadText" = some (some (.ref C_BadText)))
    (g_RowError : PySem.W.nsIn K mainGlobals "RowError" = some (some (.ref C_RowError)))
    (va_ : PySem.W.nsIn K mainGlobals "ValueError" = some none)
    (hn_ : PySem.W.specialIn K (.builtin "object.__class__") "__get__" = some (some (.builtin "getset_descriptor.__get__")))
    (htk_ : PySem.W.takesIn K (.builtin "object.__class__") = some true)
    (bb_RowError : PySem.W.subIn K (.ref C_RowError) (.type "BaseException") = some true)
    (hd_RowError : PySem.W.hasDictIn K C_RowError = true)
    (ty_RowError : PySem.W.typeIn K (.ref C_RowError) = some (.type "type"))
    (kx_BadText : PySem.W.excIn K C_BadText [.type "ValueError", .type "Exception", .type "BaseException", .type "object"] "ValueError.__new__" = true)
    (kk_BadText : PySem.W.keepIn K (.ref C_BadText) = true)
    (bb_BadText : PySem.W.subIn K (.ref C_BadText) (.type "BaseException") = some true)
    (ty_BadText : PySem.W.typeIn K (.ref C_BadText) = some (.type "type"))
    (eg_BadText : PySem.W.findIn K (.ref C_BadText) "__getattribute__" = some (some (.builtin "BaseException.__getattribute__")))
    (ek_BadText : PySem.W.findIn K (.ref C_BadText) "__getattr__" = some none)
    (hd_BadText : PySem.W.hasDictIn K C_BadText = true)
    (ha_BadText : PySem.W.findIn K (.ref C_BadText) "__class__" = some (some (.builtin "object.__class__")))
    (hm_BadText : PySem.W.mroIn K C_BadText (.type "object") = some true)
    (se_BadText : PySem.W.subIn K (.ref C_BadText) (.ref C_RowError) = some true)
    (kit_BadText_BadRow : PySem.W.kitOne K (.ref C_BadText) (.ref C_BadRow) = some false)
    (kit_BadText_BadPlace : PySem.W.kitOne K (.ref C_BadText) (.ref C_BadPlace) = some false)
    (kit_BadText_BadSigns : PySem.W.kitOne K (.ref C_BadText) (.ref C_BadSigns) = some false)
    (kit_BadText_BadBase : PySem.W.kitOne K (.ref C_BadText) (.ref C_BadBase) = some false)
    (kit_BadText_BadFigures : PySem.W.kitOne K (.ref C_BadText) (.ref C_BadFigures) = some false)
    (kit_BadText_BadFraction : PySem.W.kitOne K (.ref C_BadText) (.ref C_BadFraction) = some false)
    (kit_BadText_BadText : PySem.W.kitOne K (.ref C_BadText) (.ref C_BadText) = some true)
    (kit_BadText_ValueError : PySem.W.kitOne K (.ref C_BadText) (.type "ValueError") = some true)
    (a1 : PySem.W.nsIn K mainGlobals "is_whole" = some (some (.ref f1)))
    (l1 : K.lookup f1 = some ⟨oc1, od1, .func (PySem.W.fnOf "is_whole" "is_whole" (defArgs s_is_whole) (defBody s_is_whole) (defScope s_is_whole) .none kV1 dc1 pm1 an1 cd1 ct1), sl1⟩) (c1 : PySem.W.codeIn K cd1 "is_whole" = true) (k1 : PySem.W.keepIn K (.ref f1) = true)
    (a2 : PySem.W.nsIn K mainGlobals "are_signs" = some (some (.ref f2)))
    (l2 : K.lookup f2 = some ⟨oc2, od2, .func (PySem.W.fnOf "are_signs" "are_signs" (defArgs s_are_signs) (defBody s_are_signs) (defScope s_are_signs) .none kV2 dc2 pm2 an2 cd2 ct2), sl2⟩) (c2 : PySem.W.codeIn K cd2 "are_signs" = true) (k2 : PySem.W.keepIn K (.ref f2) = true)
    (a3 : PySem.W.nsIn K mainGlobals "check_row" = some (some (.ref f3)))
    (l3 : K.lookup f3 = some ⟨oc3, od3, .func (PySem.W.fnOf "check_row" "check_row" (defArgs s_check_row) (defBody s_check_row) (defScope s_check_row) .none kV3 dc3 pm3 an3 cd3 ct3), sl3⟩) (c3 : PySem.W.codeIn K cd3 "check_row" = true) (k3 : PySem.W.keepIn K (.ref f3) = true)
    (a4 : PySem.W.nsIn K mainGlobals "shortest" = some (some (.ref f4)))
    (l4 : K.lookup f4 = some ⟨oc4, od4, .func (PySem.W.fnOf "shortest" "shortest" (defArgs s_shortest) (defBody s_shortest) (defScope s_shortest) .none kV4 dc4 pm4 an4 cd4 ct4), sl4⟩) (c4 : PySem.W.codeIn K cd4 "shortest" = true) (k4 : PySem.W.keepIn K (.ref f4) = true)
    (a5 : PySem.W.nsIn K mainGlobals "least_of" = some (some (.ref f5)))
    (l5 : K.lookup f5 = some ⟨oc5, od5, .func (PySem.W.fnOf "least_of" "least_of" (defArgs s_least_of) (defBody s_least_of) (defScope s_least_of) .none kV5 dc5 pm5 an5 cd5 ct5), sl5⟩) (c5 : PySem.W.codeIn K cd5 "least_of" = true) (k5 : PySem.W.keepIn K (.ref f5) = true)
    (a6 : PySem.W.nsIn K mainGlobals "least" = some (some (.ref f6)))
    (l6 : K.lookup f6 = some ⟨oc6, od6, .func (PySem.W.fnOf "least" "least" (defArgs s_least) (defBody s_least) (defScope s_least) .none kV6 dc6 pm6 an6 cd6 ct6), sl6⟩) (c6 : PySem.W.codeIn K cd6 "least" = true) (k6 : PySem.W.keepIn K (.ref f6) = true)
    (a7 : PySem.W.nsIn K mainGlobals "written" = some (some (.ref f7)))
    (l7 : K.lookup f7 = some ⟨oc7, od7, .func (PySem.W.fnOf "written" "written" (defArgs s_written) (defBody s_written) (defScope s_written) .none kV7 dc7 pm7 an7 cd7 ct7), sl7⟩) (c7 : PySem.W.codeIn K cd7 "written" = true) (k7 : PySem.W.keepIn K (.ref f7) = true)
    (a8 : PySem.W.nsIn K mainGlobals "number_in" = some (some (.ref f8)))
    (l8 : K.lookup f8 = some ⟨oc8, od8, .func (PySem.W.fnOf "number_in" "number_in" (defArgs s_number_in) (defBody s_number_in) (defScope s_number_in) .none kV8 dc8 pm8 an8 cd8 ct8), sl8⟩) (c8 : PySem.W.codeIn K cd8 "number_in" = true) (k8 : PySem.W.keepIn K (.ref f8) = true)
    (a9 : PySem.W.nsIn K mainGlobals "read" = some (some (.ref f9)))
    (l9 : K.lookup f9 = some ⟨oc9, od9, .func (PySem.W.fnOf "read" "read" (defArgs s_read) (defBody s_read) (defScope s_read) .none kV9 dc9 pm9 an9 cd9 ct9), sl9⟩) (c9 : PySem.W.codeIn K cd9 "read" = true) (k9 : PySem.W.keepIn K (.ref f9) = true)
    (a10 : PySem.W.nsIn K mainGlobals "_law_cell_at" = some (some (.ref f10)))
    (l10 : K.lookup f10 = some ⟨oc10, od10, .func (PySem.W.fnOf "_law_cell_at" "_law_cell_at" (defArgs s_law_cell_at) (defBody s_law_cell_at) (defScope s_law_cell_at) .none kV10 dc10 pm10 an10 cd10 ct10), sl10⟩) (c10 : PySem.W.codeIn K cd10 "_law_cell_at" = true) (k10 : PySem.W.keepIn K (.ref f10) = true)
    (a11 : PySem.W.nsIn K mainGlobals "_law_draw" = some (some (.ref f11)))
    (l11 : K.lookup f11 = some ⟨oc11, od11, .func (PySem.W.fnOf "_law_draw" "_law_draw" (defArgs s_law_draw) (defBody s_law_draw) (defScope s_law_draw) .none kV11 dc11 pm11 an11 cd11 ct11), sl11⟩) (c11 : PySem.W.codeIn K cd11 "_law_draw" = true) (k11 : PySem.W.keepIn K (.ref f11) = true)
    (a12 : PySem.W.nsIn K mainGlobals "_law_row" = some (some (.ref f12)))
    (l12 : K.lookup f12 = some ⟨oc12, od12, .func (PySem.W.fnOf "_law_row" "_law_row" (defArgs s_law_row) (defBody s_law_row) (defScope s_law_row) .none kV12 dc12 pm12 an12 cd12 ct12), sl12⟩) (c12 : PySem.W.codeIn K cd12 "_law_row" = true) (k12 : PySem.W.keepIn K (.ref f12) = true)
    (a13 : PySem.W.nsIn K mainGlobals "_law_number" = some (some (.ref f13)))
    (l13 : K.lookup f13 = some ⟨oc13, od13, .func (PySem.W.fnOf "_law_number" "_law_number" (defArgs s_law_number) (defBody s_law_number) (defScope s_law_number) .none kV13 dc13 pm13 an13 cd13 ct13), sl13⟩) (c13 : PySem.W.codeIn K cd13 "_law_number" = true) (k13 : PySem.W.keepIn K (.ref f13) = true)
    (a14 : PySem.W.nsIn K mainGlobals "_law_in" = some (some (.ref f14)))
    (l14 : K.lookup f14 = some ⟨oc14, od14, .func (PySem.W.fnOf "_law_in" "_law_in" (defArgs s_law_in) (defBody s_law_in) (defScope s_law_in) .none kV14 dc14 pm14 an14 cd14 ct14), sl14⟩) (c14 : PySem.W.codeIn K cd14 "_law_in" = true) (k14 : PySem.W.keepIn K (.ref f14) = true)
    (a15 : PySem.W.nsIn K mainGlobals "_law_text" = some (some (.ref f15)))
    (l15 : K.lookup f15 = some ⟨oc15, od15, .func (PySem.W.fnOf "_law_text" "_law_text" (defArgs s_law_text) (defBody s_law_text) (defScope s_law_text) .none kV15 dc15 pm15 an15 cd15 ct15), sl15⟩) (c15 : PySem.W.codeIn K cd15 "_law_text" = true) (k15 : PySem.W.keepIn K (.ref f15) = true)
    (a16 : PySem.W.nsIn K mainGlobals "_law_refused" = some (some (.ref f16)))
    (l16 : K.lookup f16 = some ⟨oc16, od16, .func (PySem.W.fnOf "_law_refused" "_law_refused" (defArgs s_law_refused) (defBody s_law_refused) (defScope s_law_refused) .none kV16 dc16 pm16 an16 cd16 ct16), sl16⟩) (c16 : PySem.W.codeIn K cd16 "_law_refused" = true) (k16 : PySem.W.keepIn K (.ref f16) = true)
    (a17 : PySem.W.nsIn K mainGlobals "_law_right" = some (some (.ref f17)))
    (l17 : K.lookup f17 = some ⟨oc17, od17, .func (PySem.W.fnOf "_law_right" "_law_right" (defArgs s_law_right) (defBody s_law_right) (defScope s_law_right) .none kV17 dc17 pm17 an17 cd17 ct17), sl17⟩) (c17 : PySem.W.codeIn K cd17 "_law_right" = true) (k17 : PySem.W.keepIn K (.ref f17) = true)
    (a18 : PySem.W.nsIn K mainGlobals "_law_few" = some (some (.ref f18)))
    (l18 : K.lookup f18 = some ⟨oc18, od18, .func (PySem.W.fnOf "_law_few" "_law_few" (defArgs s_law_few) (defBody s_law_few) (defScope s_law_few) .none kV18 dc18 pm18 an18 cd18 ct18), sl18⟩) (c18 : PySem.W.codeIn K cd18 "_law_few" = true) (k18 : PySem.W.keepIn K (.ref f18) = true)
    (a19 : PySem.W.nsIn K mainGlobals "law" = some (some (.ref f19)))
    (l19 : K.lookup f19 = some ⟨oc19, od19, .func (PySem.W.fnOf "law" "law" (defArgs s_law) (defBody s_law) (defScope s_law) .none kV19 dc19 pm19 an19 cd19 ct19), sl19⟩) (c19 : PySem.W.codeIn K cd19 "law" = true) (k19 : PySem.W.keepIn K (.ref f19) = true)
    (z_isinstance : PySem.W.nsIn K mainGlobals "isinstance" = some none)
    (z_int : PySem.W.nsIn K mainGlobals "int" = some none)
    (z_bool : PySem.W.nsIn K mainGlobals "bool" = some none)
    (z_list : PySem.W.nsIn K mainGlobals "list" = some none)
    (z_tuple : PySem.W.nsIn K mainGlobals "tuple" = some none)
    (z_len : PySem.W.nsIn K mainGlobals "len" = some none)
    (z_all : PySem.W.nsIn K mainGlobals "all" = some none)
    (z_range : PySem.W.nsIn K mainGlobals "range" = some none)
    (z_max : PySem.W.nsIn K mainGlobals "max" = some none)
    (z_enumerate : PySem.W.nsIn K mainGlobals "enumerate" = some none)
    (z_any : PySem.W.nsIn K mainGlobals "any" = some none)
    (z_divmod : PySem.W.nsIn K mainGlobals "divmod" = some none)
    (z_min : PySem.W.nsIn K mainGlobals "min" = some none)
    (z_abs : PySem.W.nsIn K mainGlobals "abs" = some none)
    (z_str : PySem.W.nsIn K mainGlobals "str" = some none) :
    ∃ fd : FuncData, (∀ (s : Shared) (v : Value), BindsTo s fd ⟨[v], []⟩ [("_law_script", v)]) ∧ ∀ base : Heap, K.In base → base.Ns mainGlobals mg → FnOk l.prog w K mg base CX0 7 fa fd ["_law_script"] (SpR K Rlaw) := by
  have e := hfa.symm.trans (PySem.W.mg_of X G a19)
  cases e
  have N_MOST := PySem.W.mg_of X G n_MOST
  have N_FIGURES := PySem.W.mg_of X G n_FIGURES
  rw [q_FIGURES] at N_FIGURES
  have G_BadRow := PySem.W.mg_of X G g_BadRow
  have G_BadPlace := PySem.W.mg_of X G g_BadPlace
  have G_BadSigns := PySem.W.mg_of X G g_BadSigns
  have G_BadBase := PySem.W.mg_of X G g_BadBase
  have G_BadFigures := PySem.W.mg_of X G g_BadFigures
  have G_BadFraction := PySem.W.mg_of X G g_BadFraction
  have G_BadText := PySem.W.mg_of X G g_BadText
  have G_RowError := PySem.W.mg_of X G g_RowError
  have X_BadText : XC K mg "BadText" C_BadText := ⟨kx_BadText, G_BadText, kk_BadText, bb_BadText, ty_BadText⟩
  have F_is_whole := fun_mk (st := s_is_whole) l1 c1 k1
  have B_is_whole := F_is_whole.binds (ps := ["thing"]) fun _ _ _ _ _ _ us hl => match us, hl with | [_], _ => rfl
  have G_is_whole := PySem.W.mg_of X G a1
  have F_are_signs := fun_mk (st := s_are_signs) l2 c2 k2
  have B_are_signs := F_are_signs.binds (ps := ["thing"]) fun _ _ _ _ _ _ us hl => match us, hl with | [_], _ => rfl
  have G_are_signs := PySem.W.mg_of X G a2
  have F_check_row := fun_mk (st := s_check_row) l3 c3 k3
  have B_check_row := F_check_row.binds (ps := ["row"]) fun _ _ _ _ _ _ us hl => match us, hl with | [_], _ => rfl
  have G_check_row := PySem.W.mg_of X G a3
  have F_shortest := fun_mk (st := s_shortest) l4 c4 k4
  have B_shortest := F_shortest.binds (ps := ["circle"]) fun _ _ _ _ _ _ us hl => match us, hl with | [_], _ => rfl
  have G_shortest := PySem.W.mg_of X G a4
  have F_least_of := fun_mk (st := s_least_of) l5 c5 k5
  have B_least_of := F_least_of.binds (ps := ["lead", "circle"]) fun _ _ _ _ _ _ us hl => match us, hl with | [_, _], _ => rfl
  have G_least_of := PySem.W.mg_of X G a5
  have F_least := fun_mk (st := s_least) l6 c6 k6
  have B_least := F_least.binds (ps := ["row"]) fun _ _ _ _ _ _ us hl => match us, hl with | [_], _ => rfl
  have G_least := PySem.W.mg_of X G a6
  have F_written := fun_mk (st := s_written) l7 c7 k7
  have B_written := F_written.binds (ps := ["row"]) fun _ _ _ _ _ _ us hl => match us, hl with | [_], _ => rfl
  have G_written := PySem.W.mg_of X G a7
  have F_number_in := fun_mk (st := s_number_in) l8 c8 k8
  have B_number_in := F_number_in.binds (ps := ["word"]) fun _ _ _ _ _ _ us hl => match us, hl with | [_], _ => rfl
  have G_number_in := PySem.W.mg_of X G a8
  have F_read := fun_mk (st := s_read) l9 c9 k9
  have B_read := F_read.binds (ps := ["text"]) fun _ _ _ _ _ _ us hl => match us, hl with | [_], _ => rfl
  have G_read := PySem.W.mg_of X G a9
  have F_law_cell_at := fun_mk (st := s_law_cell_at) l10 c10 k10
  have B_law_cell_at := F_law_cell_at.binds (ps := ["_law_script", "_law_k"]) fun _ _ _ _ _ _ us hl => match us, hl with | [_, _], _ => rfl
  have G_law_cell_at := PySem.W.mg_of X G a10
  have F_law_draw := fun_mk (st := s_law_draw) l11 c11 k11
  have B_law_draw := F_law_draw.binds (ps := ["_law_cell", "_law_k", "_law_many"]) fun _ _ _ _ _ _ us hl => match us, hl with | [_, _, _], _ => rfl
  have G_law_draw := PySem.W.mg_of X G a11
  have F_law_row := fun_mk (st := s_law_row) l12 c12 k12
  have B_law_row := F_law_row.binds (ps := ["_law_script", "_law_by"]) fun _ _ _ _ _ _ us hl => match us, hl with | [_, _], _ => rfl
  have G_law_row := PySem.W.mg_of X G a12
  have F_law_number := fun_mk (st := s_law_number) l13 c13 k13
  have B_law_number := F_law_number.binds (ps := ["_law_text_here"]) fun _ _ _ _ _ _ us hl => match us, hl with | [_], _ => rfl
  have G_law_number := PySem.W.mg_of X G a13
  have F_law_in := fun_mk (st := s_law_in) l14 c14 k14
  have B_law_in := F_law_in.binds (ps := ["_law_text_here"]) fun _ _ _ _ _ _ us hl => match us, hl with | [_], _ => rfl
  have G_law_in := PySem.W.mg_of X G a14
  have F_law_text := fun_mk (st := s_law_text) l15 c15 k15
  have B_law_text := F_law_text.binds (ps := ["_law_row_here"]) fun _ _ _ _ _ _ us hl => match us, hl with | [_], _ => rfl
  have G_law_text := PySem.W.mg_of X G a15
  have F_law_refused := fun_mk (st := s_law_refused) l16 c16 k16
  have B_law_refused := F_law_refused.binds (ps := ["_law_text_here"]) fun _ _ _ _ _ _ us hl => match us, hl with | [_], _ => rfl
  have G_law_refused := PySem.W.mg_of X G a16
  have F_law_right := fun_mk (st := s_law_right) l17 c17 k17
  have B_law_right := F_law_right.binds (ps := ["_law_text_here"]) fun _ _ _ _ _ _ us hl => match us, hl with | [_], _ => rfl
  have G_law_right := PySem.W.mg_of X G a17
  have F_law_few := fun_mk (st := s_law_few) l18 c18 k18
  have B_law_few := F_law_few.binds (ps := []) fun _ _ _ _ _ _ us hl => match us, hl with | [], _ => rfl
  have G_law_few := PySem.W.mg_of X G a18
  have F_law := fun_mk (st := s_law) l19 c19 k19
  have B_law := F_law.binds (ps := ["_law_script"]) fun _ _ _ _ _ _ us hl => match us, hl with | [_], _ => rfl
  have G_law := PySem.W.mg_of X G a19
  have C_BadText_ : ExcC K C_BadText := ⟨eg_BadText, ek_BadText, bb_BadText, hd_BadText, ha_BadText, hn_, htk_, hm_BadText⟩
  have T : Bi mg := ⟨PySem.W.mg_none_of X G z_isinstance, PySem.W.mg_none_of X G z_int, PySem.W.mg_none_of X G z_bool, PySem.W.mg_none_of X G z_list, PySem.W.mg_none_of X G z_tuple, PySem.W.mg_none_of X G z_len, PySem.W.mg_none_of X G z_all, PySem.W.mg_none_of X G z_range, PySem.W.mg_none_of X G z_max, PySem.W.mg_none_of X G z_enumerate, PySem.W.mg_none_of X G z_any, PySem.W.mg_none_of X G z_divmod, PySem.W.mg_none_of X G z_min, PySem.W.mg_none_of X G z_abs, PySem.W.mg_none_of X G z_str⟩
  refine ⟨PySem.W.fnOf "law" "law" (defArgs s_law) (defBody s_law) (defScope s_law) .none kV19 dc19 pm19 an19 cd19 ct19, fun s v => .of_eq rfl, fun base _ _ => ?_⟩
  have k8 : K8 K mg C_BadRow C_BadPlace C_BadSigns C_BadBase C_BadFigures C_BadFraction C_BadText C_RowError := ⟨G_BadRow, G_BadPlace, G_BadSigns, G_BadBase, G_BadFigures, G_BadFraction, G_BadText, G_RowError, PySem.W.mg_none_of X G va_, C_BadText_, PySem.W.exm_ref bb_RowError hd_RowError ty_RowError se_BadText, kit_BadText_BadRow, kit_BadText_BadPlace, kit_BadText_BadSigns, kit_BadText_BadBase, kit_BadText_BadFigures, kit_BadText_BadFraction, kit_BadText_BadText, kit_BadText_ValueError⟩
  have h_is_whole := has_of F_is_whole (ok_is_whole (P := l.prog) (w := w) (base := base) F_is_whole T) G_is_whole B_is_whole
  have h_are_signs := has_of F_are_signs (ok_are_signs F_are_signs T h_is_whole) G_are_signs B_are_signs
  have h_check_row := has_of F_check_row (ok_check_row F_check_row T h_are_signs) G_check_row B_check_row
  have h_shortest := has_of F_shortest (ok_shortest (P := l.prog) (w := w) (base := base) F_shortest T) G_shortest B_shortest
  have h_least_of := has_of F_least_of (ok_least_of F_least_of T h_shortest) G_least_of B_least_of
  have h_least := has_of F_least (ok_least F_least h_check_row h_least_of) G_least B_least
  have h_written := has_of F_written (ok_written F_written T N_MOST h_least) G_written B_written
  have h_number_in := has_of F_number_in (ok_number_in (P := l.prog) (w := w) (base := base) F_number_in T N_FIGURES) G_number_in B_number_in
  have x_number_in := has_of F_number_in (ok_number_inX (P := l.prog) (w := w) (base := base) F_number_in T N_FIGURES X_BadText) G_number_in B_number_in
  have h_read := has_of F_read (ok_read F_read T h_number_in) G_read B_read
  have x_read := has_of F_read (ok_readX F_read T X_BadText h_number_in x_number_in) G_read B_read
  have h_cell := has_of F_law_cell_at (ok_cell (P := l.prog) (w := w) (base := base) F_law_cell_at T) G_law_cell_at B_law_cell_at
  have h_draw := has_of F_law_draw (ok_draw (P := l.prog) (w := w) (mg := mg) (base := base) F_law_draw) G_law_draw B_law_draw
  have h_row := has_of F_law_row (ok_row F_law_row T h_cell h_draw) G_law_row B_law_row
  have h_num := has_of F_law_number (ok_law_number (P := l.prog) (w := w) (base := base) F_law_number T) G_law_number B_law_number
  have h_in := has_of F_law_in (ok_law_in F_law_in T h_num) G_law_in B_law_in
  have h_text := has_of F_law_text (ok_law_text (P := l.prog) (w := w) (base := base) F_law_text T) G_law_text B_law_text
  have h_refused := has_of F_law_refused (ok_refused F_law_refused T k8 x_read) G_law_refused B_law_refused
  have h_right := has_of F_law_right (ok_law_right F_law_right T h_in h_refused h_read h_written h_text h_least) G_law_right B_law_right
  have h_few := has_of F_law_few (ok_few (P := l.prog) (w := w) (base := base) F_law_few T) G_law_few B_law_few
  exact ok_law F_law T h_cell h_draw h_row h_least h_text h_written h_right h_read h_few h_refused
end Lr

open PySem PySem.W PyProof.Rows
set_option maxRecDepth 100000 in
set_option maxHeartbeats 0 in
theorem PySem.Challenge.cw_leadround_k08_written_holds : PySem.Challenge.rw_leadround_k08_written.Holds := by
  w_on; o_law; k_head; (case hw => w_witness2)
  k_fill
  refine L2.walk_of (l := PySem.Challenge.rw_leadround_k08_written) (n := 63) (k := 7) (x := "_law_script") (CX := fun _ => L2.CX0) (sp := fun w => Lr.SpR _ Lr.Rlaw) rfl (by decide) rfl ⟨rfl, by decide, by decide⟩ (fun w h Y => PySem.W.kIn_of Y) ?F (fun w H a ns hl _ hS => ⟨[], [.scr ns], .bl true, Lr.Al.nil, .cons (.scr (Lr.sqm_of hS)) .nil, ⟨ns, rfl, hl, rfl⟩, fun v H2 _ h => Lr.dt_bl h⟩) (fun _ _ _ _ _ h => h)
  case F =>
    intro w mg fa h KX G hmg
    refine' Lr.all_mk KX G hmg ?n_MOST ?n_FIGURES ?q_FIGURES ?g_BadRow ?g_BadPlace ?g_BadSigns ?g_BadBase ?g_BadFigures ?g_BadFraction ?g_BadText ?g_RowError ?va_ ?hn_ ?htk_ ?bb_RowError ?hd_RowError ?ty_RowError ?kx_BadText ?kk_BadText ?bb_BadText ?ty_BadText ?eg_BadText ?ek_BadText ?hd_BadText ?ha_BadText ?hm_BadText ?se_BadText ?kit_BadText_BadRow ?kit_BadText_BadPlace ?kit_BadText_BadSigns ?kit_BadText_BadBase ?kit_BadText_BadFigures ?kit_BadText_BadFraction ?kit_BadText_BadText ?kit_BadText_ValueError ?a1 ?l1 ?c1 ?k1 ?a2 ?l2 ?c2 ?k2 ?a3 ?l3 ?c3 ?k3 ?a4 ?l4 ?c4 ?k4 ?a5 ?l5 ?c5 ?k5 ?a6 ?l6 ?c6 ?k6 ?a7 ?l7 ?c7 ?k7 ?a8 ?l8 ?c8 ?k8 ?a9 ?l9 ?c9 ?k9 ?a10 ?l10 ?c10 ?k10 ?a11 ?l11 ?c11 ?k11 ?a12 ?l12 ?c12 ?k12 ?a13 ?l13 ?c13 ?k13 ?a14 ?l14 ?c14 ?k14 ?a15 ?l15 ?c15 ?k15 ?a16 ?l16 ?c16 ?k16 ?a17 ?l17 ?c17 ?k17 ?a18 ?l18 ?c18 ?k18 ?a19 ?l19 ?c19 ?k19 ?z_isinstance ?z_int ?z_bool ?z_list ?z_tuple ?z_len ?z_all ?z_range ?z_max ?z_enumerate ?z_any ?z_divmod ?z_min ?z_abs ?z_str
    case n_MOST => k_is
    case n_FIGURES => k_is
    case q_FIGURES => rfl
    case g_BadRow => k_is
    case g_BadPlace => k_is
    case g_BadSigns => k_is
    case g_BadBase => k_is
    case g_BadFigures => k_is
    case g_BadFraction => k_is
    case g_BadText => k_is
    case g_RowError => k_is
    case va_ => k_is
    case hn_ => k_is
    case htk_ => k_is
    case bb_RowError => k_is
    case hd_RowError => k_is
    case ty_RowError => k_is
    case kx_BadText => k_exc
    case kk_BadText => k_is
    case bb_BadText => k_is
    case ty_BadText => k_is
    case eg_BadText => k_is
    case ek_BadText => k_is
    case hd_BadText => k_is
    case ha_BadText => k_is
    case hm_BadText => k_is
    case se_BadText => k_is
    case kit_BadText_BadRow => kit_is
    case kit_BadText_BadPlace => kit_is
    case kit_BadText_BadSigns => kit_is
    case kit_BadText_BadBase => kit_is
    case kit_BadText_BadFigures => kit_is
    case kit_BadText_BadFraction => kit_is
    case kit_BadText_BadText => kit_is
    case kit_BadText_ValueError => kit_is
    case a1 => k_is
    case l1 => k_is
    case c1 => k_is
    case k1 => k_is
    case a2 => k_is
    case l2 => k_is
    case c2 => k_is
    case k2 => k_is
    case a3 => k_is
    case l3 => k_is
    case c3 => k_is
    case k3 => k_is
    case a4 => k_is
    case l4 => k_is
    case c4 => k_is
    case k4 => k_is
    case a5 => k_is
    case l5 => k_is
    case c5 => k_is
    case k5 => k_is
    case a6 => k_is
    case l6 => k_is
    case c6 => k_is
    case k6 => k_is
    case a7 => k_is
    case l7 => k_is
    case c7 => k_is
    case k7 => k_is
    case a8 => k_is
    case l8 => k_is
    case c8 => k_is
    case k8 => k_is
    case a9 => k_is
    case l9 => k_is
    case c9 => k_is
    case k9 => k_is
    case a10 => k_is
    case l10 => k_is
    case c10 => k_is
    case k10 => k_is
    case a11 => k_is
    case l11 => k_is
    case c11 => k_is
    case k11 => k_is
    case a12 => k_is
    case l12 => k_is
    case c12 => k_is
    case k12 => k_is
    case a13 => k_is
    case l13 => k_is
    case c13 => k_is
    case k13 => k_is
    case a14 => k_is
    case l14 => k_is
    case c14 => k_is
    case k14 => k_is
    case a15 => k_is
    case l15 => k_is
    case c15 => k_is
    case k15 => k_is
    case a16 => k_is
    case l16 => k_is
    case c16 => k_is
    case k16 => k_is
    case a17 => k_is
    case l17 => k_is
    case c17 => k_is
    case k17 => k_is
    case a18 => k_is
    case l18 => k_is
    case c18 => k_is
    case k18 => k_is
    case a19 => k_is
    case l19 => k_is
    case c19 => k_is
    case k19 => k_is
    case z_isinstance => k_is
    case z_int => k_is
    case z_bool => k_is
    case z_list => k_is
    case z_tuple => k_is
    case z_len => k_is
    case z_all => k_is
    case z_range => k_is
    case z_max => k_is
    case z_enumerate => k_is
    case z_any => k_is
    case z_divmod => k_is
    case z_min => k_is
    case z_abs => k_is
    case z_str => k_is

