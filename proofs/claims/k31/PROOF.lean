import PyProof.Rows.All
import PySem.Challenge.RW_seensettings_k31_stems
import HandS.Base
import HandS.ForMost
import HandS.ForExc
import HandS.Lambda
import HandS.Nested
import HandS.Zip
import KE.GoesEnum
import KE.GoesNew
import HandS.TupAny
import HandS.IsInst
import HandS.Wide
import HandS.Deep
import HandS.RaiseMore
import HandS.Style
import PyProof.ListStr
import PyProof.TupleOfStr
import HandS.Star
import HandS.Conv
import PyProof.StrOps2
import HandS.StrMore
import HandS.SetFor
import HandS.Ends
import HandS.More
import HandS.ExcIs
import HandS.ExcField
import HandS.ExcValue
import HandS.Iter
import KE.DataFind
import HandS.FStr
import HandS.CallLocal
import HandS.ExcInit
import HandS.DictComp
import HandS.TupLen
import KE.KDictDisplayH
import HandS.SetKeys
import HandS.Flow
import HandS.TupMul
import PyProof.ReprLen
import HandS.Text
set_option Elab.async false
set_option linter.all false
set_option maxRecDepth 100000
namespace Y
open PySem
/-- the defs that make lambdas (of a law that reaches none: no name) -/
def lamNames : List Str := ["stems"]
end Y
namespace Y
open PySem PySem.Spec L2

/-! ### values of the mirror -/
structure Ex where
  c : Str
  line : Option Int
/-- a lambda that was made: its object, its words, its expression, what it captured -/
structure CloI where
  f : Addr
  F : NdefX.NF
  e : Expr
  vs : List V
/-- the lambda's object -/
def LamO (i : CloI) : HO := .ext fun h => ∃ (qf : Str) (pm ctv : Value), h.get? i.f = some (PySem.W.kla_obj "<lambda>" qf i.F.params i.e i.F.scope i.F.cl pm i.F.c ctv)
inductive W where
  | d (x : PyData) | loc (n : Nat) | tup (ws : List W) | scr (ns : List Int) | exc (e : Ex) | kd (kvs : List (L2.Key × PyData)) | clo (id : CloI) (ws : List W) | fn (x : Str)
inductive MO where
  | dead | lst (ds : List PyData) | lsw (ws : List W) | obj (c : Str) (fs : List (Str × W)) | dct (kvs : List (L2.Key × PyData)) | dctT (kvs : List (List L2.Key × PyData))
inductive Res (α : Type) where
  | ok (a : α) (M : List MO) | err (e : Ex) (M : List MO) | stuck
abbrev Rho := List (Option W)
abbrev EF := Rho → List MO → Res W
def Res.bind {α β : Type} : Res α → (α → List MO → Res β) → Res β
  | .ok a M, k => k a M
  | .err e M, _ => .err e M
  | .stuck, _ => .stuck

/-! ### ghosts -/
structure Gh where
  ph : List Addr
  F : Hp
structure Tx where
  K : PySem.W.Frag
  mg : Str → Option Value
abbrev tx (X : Cx) : Tx := ⟨X.K, X.mg⟩

/-- a tuple that is tracked -/
def TqT (_ : PySem.W.Frag) (F : Hp) (a : Addr) (xs : List V) : Prop := F a = some (.tup xs)
mutual
/-- v stands for the datum: lists are tracked -/
inductive Dq (K : PySem.W.Frag) (F : Hp) : V → PyData → Prop
  | non : Dq K F .non .none
  | bl (b : Bool) : Dq K F (.bl b) (.bool b)
  | int (i : Int) : Dq K F (.int i) (.int i)
  | str (x : Str) : Dq K F (.str x) (.str x)
  | lst {a : Addr} {xs : List V} {ds : List PyData} : F a = some (.lst xs) → DqAll K F xs ds → Dq K F (.ref a) (.list ds)
  | tup {a : Addr} {xs : List V} {ds : List PyData} : TqT K F a xs → DqAll K F xs ds → Dq K F (.ref a) (.tuple ds)
inductive DqAll (K : PySem.W.Frag) (F : Hp) : List V → List PyData → Prop
  | nil : DqAll K F [] []
  | cons {v : V} {vs : List V} {d : PyData} {ds : List PyData} : Dq K F v d → DqAll K F vs ds → DqAll K F (v :: vs) (d :: ds)
end
/-- an exception that was caught, at a -/
def ExH (cls : Value) (d : Option Addr) (a : Addr) : HO := .ext fun h => ∃ (oe : Obj) (vs : Array Value), h.get? a = some oe ∧ Zc cls d oe ∧ oe.data = .fields vs
/-- its line stands in its own dict -/
def Ln (F : Hp) (e : Ex) (d : Option Addr) : Prop := match e.line with
  | none => d = none
  | some i => ∃ dx, d = some dx ∧ F dx = some (.xd [(("line" : Str), .int i)])
mutual
inductive RW (K : PySem.W.Frag) (g : Gh) : V → W → Prop
  | d {v : V} {x : PyData} : Dq K g.F v x → RW K g v (.d x)
  | scr {a : Addr} {ns : List Int} : SqL K g.F a (ns.map V.int) → RW K g (.ref a) (.scr ns)
  | loc {a : Addr} {n : Nat} : g.ph[n]? = some a → RW K g (.ref a) (.loc n)
  | exc {a C : Addr} {d : Option Addr} {e : Ex} : PySem.W.nsIn K mainGlobals e.c = some (some (.ref C)) → g.F a = some (ExH (.ref C) d a) → Ln g.F e d → RW K g (.ref a) (.exc e)
  | kd {a : Addr} {vs : List (L2.Key × V)} {kvs : List (L2.Key × PyData)} : g.F a = some (.dK vs) → vs.map (·.1) = kvs.map (·.1) → DqAll K g.F (vs.map (·.2)) (kvs.map (·.2)) → RW K g (.ref a) (.kd kvs)
  | tup {a : Addr} {xs : List V} {ws : List W} : TqT K g.F a xs → RWs K g xs ws → RW K g (.ref a) (.tup ws)
  | fn {f : Addr} {x : Str} : PySem.W.nsIn K mainGlobals x = some (some (.ref f)) → RW K g (.ref f) (.fn x)
  | clo {i : CloI} {ws : List W} : g.F i.f = some (LamO i) → g.F i.F.c = some (LamX.CodeO i.F.c i.F.qual) → RWs K g i.vs ws → RW K g (.ref i.f) (.clo i ws)
inductive RWs (K : PySem.W.Frag) (g : Gh) : List V → List W → Prop
  | nil : RWs K g [] []
  | cons {v : V} {vs : List V} {w : W} {ws : List W} : RW K g v w → RWs K g vs ws → RWs K g (v :: vs) (w :: ws)
end

def Sub (F H : Hp) : Prop := ∀ a o, F a = some o → H a = some o
theorem Ln.sub {F H : Hp} (s : Sub F H) {e : Ex} {d : Option Addr} (h : Ln F e d) : Ln H e d := by
  unfold Ln at *
  split at h
  · exact h
  · obtain ⟨dx, e1, e2⟩ := h
    exact ⟨dx, e1, s _ _ e2⟩
theorem Sub.refl (F : Hp) : Sub F F := fun _ _ h => h
theorem Sub.trans {F G H : Hp} (a : Sub F G) (b : Sub G H) : Sub F H := fun x o h => b x o (a x o h)
theorem Sub.upd {F : Hp} {p : Addr} {o : HO} (h : F p = none) : Sub F (upd F p o) := fun a u e => by
  rw [upd_ne (ne_of_none e h)]; exact e
theorem Sub.upd2 {F H : Hp} {p : Addr} {o : HO} (s : Sub F H) : Sub (L2.upd F p o) (L2.upd H p o) := fun a u e => by
  by_cases h : a = p
  · subst h; rw [upd_same] at e ⊢; exact e
  · rw [upd_ne h] at e ⊢; exact s _ _ e
theorem Sub.none {F H : Hp} (s : Sub F H) {p : Addr} (h : H p = none) : F p = none := by
  cases e : F p with
  | none => rfl
  | some o => rw [s p o e] at h; cases h
theorem SqL.sub {K : PySem.W.Frag} {F H : Hp} {a : Addr} {xs : List V} (s : Sub F H) (h : SqL K F a xs) : SqL K H a xs := by
  rcases h with (h | ⟨o, h⟩) | h
  · exact .inl (.inl (s _ _ h))
  · exact .inl (.inr ⟨o, s _ _ h⟩)
  · exact .inr h
theorem SqT.sub {K : PySem.W.Frag} {F H : Hp} {a : Addr} {xs : List V} (s : Sub F H) (h : SqT K F a xs) : SqT K H a xs := by
  rcases h with (h | ⟨o, h⟩) | h
  · exact .inl (.inl (s _ _ h))
  · exact .inl (.inr ⟨o, s _ _ h⟩)
  · exact .inr h
theorem TqT.sub {K : PySem.W.Frag} {F H : Hp} {a : Addr} {xs : List V} (s : Sub F H) (h : TqT K F a xs) : TqT K H a xs := s _ _ h
theorem TqT.t {K : PySem.W.Frag} {H : Hp} {a : Addr} {xs : List V} (h : TqT K H a xs) : SqT K H a xs := .inl (.inl h)
theorem TqT.up {K : PySem.W.Frag} {F H : Hp} {a : Addr} {xs : List V} (s : Sub F H) (h : TqT K F a xs) : SqT K H a xs := (h.sub s).t
theorem TqT.of {K : PySem.W.Frag} {H : Hp} {a : Addr} {xs : List V} (h : H a = some (.tup xs)) : TqT K H a xs := h
mutual
theorem Dq.sub {K : PySem.W.Frag} {F H : Hp} (s : Sub F H) : ∀ {v : V} {x : PyData}, Dq K F v x → Dq K H v x
  | _, _, .non => .non
  | _, _, .bl b => .bl b
  | _, _, .int b => .int b
  | _, _, .str b => .str b
  | _, _, .lst h t => .lst (s _ _ h) (DqAll.sub s t)
  | _, _, .tup h t => .tup (TqT.sub s h) (DqAll.sub s t)
theorem DqAll.sub {K : PySem.W.Frag} {F H : Hp} (s : Sub F H) : ∀ {v : List V} {x : List PyData}, DqAll K F v x → DqAll K H v x
  | _, _, .nil => .nil
  | _, _, .cons h t => .cons (Dq.sub s h) (DqAll.sub s t)
end
mutual
theorem Dq.dp {K : PySem.W.Frag} {F : Hp} : ∀ {v : V} {x : PyData}, Dq K F v x → Dp K F v x
  | _, _, .non => .non
  | _, _, .bl b => .bl b
  | _, _, .int b => .int b
  | _, _, .str b => .str b
  | _, _, .lst h t => .lst (.of h) (DqAll.dp t)
  | _, _, .tup h t => .tup h.t (DqAll.dp t)
theorem DqAll.dp {K : PySem.W.Frag} {F : Hp} : ∀ {v : List V} {x : List PyData}, DqAll K F v x → DpAll K F v x
  | _, _, .nil => .nil
  | _, _, .cons h t => .cons (Dq.dp h) (DqAll.dp t)
end
theorem DqAll.length {K : PySem.W.Frag} {F : Hp} : ∀ {v : List V} {x : List PyData}, DqAll K F v x → v.length = x.length
  | _, _, .nil => rfl
  | _, _, .cons _ t => by rw [List.length_cons, List.length_cons, DqAll.length t]
theorem DqAll.get {K : PySem.W.Frag} {F : Hp} : ∀ {v : List V} {x : List PyData} {i : Nat} {d : PyData}, DqAll K F v x → x[i]? = some d → ∃ u, v[i]? = some u ∧ Dq K F u d
  | _, _, _, _, .nil, e => by simp at e
  | _, _, 0, _, .cons h _, e => by simp at e; subst e; exact ⟨_, rfl, h⟩
  | _, _, i + 1, _, .cons _ t, e => by
    obtain ⟨u, e1, e2⟩ := DqAll.get (i := i) t (by simpa using e)
    exact ⟨u, by simpa using e1, e2⟩
theorem DqAll.append {K : PySem.W.Frag} {F : Hp} : ∀ {v v' : List V} {x x' : List PyData}, DqAll K F v x → DqAll K F v' x' → DqAll K F (v ++ v') (x ++ x')
  | _, _, _, _, .nil, h => h
  | _, _, _, _, .cons h t, h' => .cons h (DqAll.append t h')
theorem DqAll.take {K : PySem.W.Frag} {F : Hp} : ∀ {v : List V} {x : List PyData} (n : Nat), DqAll K F v x → DqAll K F (v.take n) (x.take n)
  | _, _, 0, _ => .nil
  | _, _, _ + 1, .nil => .nil
  | _, _, n + 1, .cons h t => .cons h (DqAll.take n t)
theorem DqAll.drop {K : PySem.W.Frag} {F : Hp} : ∀ {v : List V} {x : List PyData} (n : Nat), DqAll K F v x → DqAll K F (v.drop n) (x.drop n)
  | _, _, 0, h => h
  | _, _, _ + 1, .nil => .nil
  | _, _, n + 1, .cons _ t => DqAll.drop n t
theorem DqAll.set {K : PySem.W.Frag} {F : Hp} {u : V} {d : PyData} (h : Dq K F u d) : ∀ {v : List V} {x : List PyData} (n : Nat), DqAll K F v x → DqAll K F (v.set n u) (x.set n d)
  | _, _, _, .nil => .nil
  | _, _, 0, .cons _ t => .cons h t
  | _, _, n + 1, .cons q t => .cons q (DqAll.set h n t)
theorem RWs.length {K : PySem.W.Frag} {g : Gh} : ∀ {v : List V} {x : List W}, RWs K g v x → v.length = x.length
  | _, _, .nil => rfl
  | _, _, .cons _ t => by rw [List.length_cons, List.length_cons, RWs.length t]
theorem RWs.get {K : PySem.W.Frag} {g : Gh} : ∀ {v : List V} {x : List W} {i : Nat} {d : W}, RWs K g v x → x[i]? = some d → ∃ u, v[i]? = some u ∧ RW K g u d
  | _, _, _, _, .nil, e => by simp at e
  | _, _, 0, _, .cons h _, e => by simp at e; subst e; exact ⟨_, rfl, h⟩
  | _, _, i + 1, _, .cons _ t, e => by
    obtain ⟨u, e1, e2⟩ := RWs.get (i := i) t (by simpa using e)
    exact ⟨u, by simpa using e1, e2⟩

/-- ghosts grow -/
structure Gr (g g' : Gh) : Prop where
  ph : ∀ (n : Nat) (a : Addr), g.ph[n]? = some a → g'.ph[n]? = some a
  F : Sub g.F g'.F
theorem Gr.refl (g : Gh) : Gr g g := ⟨fun _ _ h => h, Sub.refl _⟩
theorem Gr.trans {a b c : Gh} (h : Gr a b) (k : Gr b c) : Gr a c := ⟨fun n x e => k.ph n x (h.ph n x e), h.F.trans k.F⟩
mutual
theorem RW.gr {K : PySem.W.Frag} {g g' : Gh} (s : Gr g g') : ∀ {v : V} {x : W}, RW K g v x → RW K g' v x
  | _, _, .d h => .d (Dq.sub s.F h)
  | _, _, .scr h => .scr (SqL.sub s.F h)
  | _, _, .loc e => .loc (s.ph _ _ e)
  | _, _, .exc h1 h2 h3 => .exc h1 (s.F _ _ h2) (Ln.sub s.F h3)
  | _, _, .kd h1 h2 h3 => .kd (s.F _ _ h1) h2 (DqAll.sub s.F h3)
  | _, _, .tup h t => .tup (TqT.sub s.F h) (RWs.gr s t)
  | _, _, .fn h => .fn h
  | _, _, .clo h1 h2 t => .clo (s.F _ _ h1) (s.F _ _ h2) (RWs.gr s t)
theorem RWs.gr {K : PySem.W.Frag} {g g' : Gh} (s : Gr g g') : ∀ {v : List V} {x : List W}, RWs K g v x → RWs K g' v x
  | _, _, .nil => .nil
  | _, _, .cons h t => .cons (RW.gr s h) (RWs.gr s t)
end

def MOk (K : PySem.W.Frag) (g : Gh) (H : Hp) (a : Addr) : MO → Prop
  | .dead => True
  | .lst ds => ∃ xs, H a = some (.lst xs) ∧ DqAll K g.F xs ds
  | .lsw ws => ∃ xs, H a = some (.lst xs) ∧ RWs K g xs ws
  | .obj c fs => ∃ (vs : List (Str × V)), (∃ (C dx : Addr), PySem.W.nsIn K mainGlobals c = some (some (.ref C)) ∧ H a = some (.ins C dx vs)) ∧ vs.map (·.1) = fs.map (·.1) ∧ RWs K g (vs.map (·.2)) (fs.map (·.2))
  | .dct kvs => ∃ vs, H a = some (.dK vs) ∧ vs.map (·.1) = kvs.map (·.1) ∧ DqAll K g.F (vs.map (·.2)) (kvs.map (·.2))
  | .dctT kvs => ∃ vs, H a = some (.dT vs) ∧ vs.map (·.1) = kvs.map (·.1) ∧ DqAll K g.F (vs.map (·.2)) (kvs.map (·.2))
def MO.live : MO → Bool
  | .dead => false
  | _ => true
theorem MOk.grK {K : PySem.W.Frag} {g g' : Gh} (s : Gr g g') {H H' : Hp} {a : Addr} (h : ∀ o, (∀ ps, o ≠ .tbl ps) → H a = some o → H' a = some o) : ∀ {o : MO}, MOk K g H a o → MOk K g' H' a o
  | .dead, _ => trivial
  | .lst _, ⟨xs, e, r⟩ => ⟨xs, h _ (fun _ z => by cases z) e, DqAll.sub s.F r⟩
  | .lsw _, ⟨xs, e, r⟩ => ⟨xs, h _ (fun _ z => by cases z) e, RWs.gr s r⟩
  | .obj _ _, ⟨vs, ⟨C, dx, n, e⟩, q, r⟩ => ⟨vs, ⟨C, dx, n, h _ (fun _ z => by cases z) e⟩, q, RWs.gr s r⟩
  | .dct _, ⟨vs, e, q, r⟩ => ⟨vs, h _ (fun _ z => by cases z) e, q, DqAll.sub s.F r⟩
  | .dctT _, ⟨vs, e, q, r⟩ => ⟨vs, h _ (fun _ z => by cases z) e, q, DqAll.sub s.F r⟩
theorem MOk.gr {K : PySem.W.Frag} {g g' : Gh} (s : Gr g g') {H H' : Hp} {a : Addr} (h : ∀ o, H a = some o → H' a = some o) {o : MO} (k : MOk K g H a o) : MOk K g' H' a o := MOk.grK s (fun o _ => h o) k
theorem MOk.there {K : PySem.W.Frag} {g : Gh} {H : Hp} {a : Addr} : ∀ {o : MO}, MOk K g H a o → o.live = true → ∃ u, H a = some u
  | .dead, _, l => by cases l
  | .lst _, ⟨_, q, _⟩, _ => ⟨_, q⟩
  | .lsw _, ⟨_, q, _⟩, _ => ⟨_, q⟩
  | .obj _ _, ⟨_, ⟨_, _, _, q⟩, _⟩, _ => ⟨_, q⟩
  | .dct _, ⟨_, q, _⟩, _ => ⟨_, q⟩
  | .dctT _, ⟨_, q, _⟩, _ => ⟨_, q⟩

/-- a table of code objects: each of them is known -/
def TabOk (F : Hp) (ps : Array Value) : Prop := TriplesOk ps.toList ∧ ∀ (pos : Pos) (cv : Value), codeAmong pos ps.toList = some cv → ∃ c q, cv = .ref c ∧ F c = some (LamX.CodeO c q)
theorem TabOk.sub {F F' : Hp} {ps : Array Value} (s : Sub F F') (h : TabOk F ps) : TabOk F' ps := ⟨h.1, fun pos cv e => let ⟨c, q, e1, e2⟩ := h.2 pos cv e; ⟨c, q, e1, s _ _ e2⟩⟩
/-- the table of a def's code object -/
def tabOfN (K : PySem.W.Frag) (x : Str) : Option Addr := match PySem.W.nsIn K mainGlobals x with
  | some (some (.ref f)) => match K.lookup f with
    | some ⟨_, _, .func fd, _⟩ => match fd.code with
      | .ref c => match K.lookup c with
        | some ⟨_, _, .fields vs, _⟩ => match (vs[11]? : Option Value) with
          | some (.ref P) => some P
          | _ => none
        | _ => none
      | _ => none
    | _ => none
  | _ => none
def tabsK (K : PySem.W.Frag) : List Addr := lamNames.filterMap (tabOfN K)
def TabR (K : PySem.W.Frag) (F : Hp) (ph : List Addr) (H : Hp) : Prop := ∀ P ∈ tabsK K, ∃ ps, H P = some (.tbl ps) ∧ P ∉ ph ∧ F P = none ∧ TabOk F ps
theorem TabR.go {K : PySem.W.Frag} {F F' H H' : Hp} {ph ph' : List Addr} (t : TabR K F ph H) (hF : Sub F F') (hH : ∀ P ps, H P = some (.tbl ps) → P ∉ ph → H' P = some (.tbl ps)) (hp : ∀ P ∈ ph', P ∈ ph ∨ H P = none) (hn : ∀ P ps, H P = some (.tbl ps) → P ∉ ph → F P = none → F' P = none := by intro _ _ _ _ n; exact n) : TabR K F' ph' H' := fun P hP => by
  obtain ⟨ps, h1, h2, h4, h3⟩ := t P hP
  refine ⟨ps, hH P ps h1 h2, fun z => ?_, hn P ps h1 h2 h4, h3.sub hF⟩
  rcases hp P z with y | y
  · exact h2 y
  · rw [h1] at y; cases y
theorem TabR.upd {K : PySem.W.Frag} {F H : Hp} {ph : List Addr} {D : Addr} {o : HO} (t : TabR K F ph H) (h : ∀ ps, H D ≠ some (.tbl ps)) : TabR K F ph (upd H D o) := t.go (Sub.refl _) (fun P ps e _ => by rw [upd_ne (fun z => h ps (by rw [← z]; exact e))]; exact e) fun _ h => .inl h
theorem TabR.updP {K : PySem.W.Frag} {F H : Hp} {ph : List Addr} {D : Addr} {o : HO} (t : TabR K F ph H) (h : D ∈ ph) : TabR K F ph (L2.upd H D o) := t.go (Sub.refl _) (fun P ps e n => by show L2.upd H D o P = _; rw [upd_ne (fun z => n (by rw [z]; exact h))]; exact e) fun _ h => .inl h
/-- the mirror's store stands in the heap -/
structure Rel (K : PySem.W.Frag) (g : Gh) (M : List MO) (H : Hp) : Prop where
  sub : Sub g.F H
  len : g.ph.length = M.length
  at_ : ∀ (n : Nat) (o : MO), M[n]? = some o → o.live = true → ∃ a, g.ph[n]? = some a ∧ g.F a = none ∧ MOk K g H a o
  inj : ∀ (n m : Nat) (a : Addr), g.ph[n]? = some a → g.ph[m]? = some a → n = m
  tr : ∀ a ∈ g.ph, ∃ o, H a = some o
  tab : TabR K g.F g.ph H
/-- what is not tracked stays; a table may grow -/
def Kept (F F' H' : Hp) (a : Addr) (o : HO) : Prop := H' a = some o ∨ ∃ ps ps', o = .tbl ps ∧ H' a = some (.tbl ps') ∧ (TabOk F ps → TabOk F' ps')
theorem Kept.of {F F' H' : Hp} {a : Addr} {o : HO} (k : Kept F F' H' a o) (h : ∀ ps, o ≠ .tbl ps) : H' a = some o := by
  rcases k with k | ⟨ps, _, e, _⟩
  · exact k
  · exact absurd e (h ps)
theorem Kept.ex {F F' H' : Hp} {a : Addr} {o : HO} (k : Kept F F' H' a o) : ∃ o', H' a = some o' := by
  rcases k with k | ⟨_, _, _, k, _⟩ <;> exact ⟨_, k⟩
theorem Kept.sub2 {F F' F'' H' : Hp} {a : Addr} {o : HO} (k : Kept F F' H' a o) (s : Sub F' F'') : Kept F F'' H' a o := by
  rcases k with k | ⟨ps, ps', e, k, t⟩
  · exact .inl k
  · exact .inr ⟨ps, ps', e, k, fun z => (t z).sub s⟩
theorem Kept.upd {F F' H' : Hp} {a D : Addr} {o x : HO} (k : Kept F F' H' a o) (h : a ≠ D) : Kept F F' (upd H' D x) a o := by
  rcases k with k | ⟨ps, ps', e, k, t⟩
  · exact .inl (by rw [upd_ne h]; exact k)
  · exact .inr ⟨ps, ps', e, by rw [upd_ne h]; exact k, t⟩
/-- one step of the world -/
structure Ext (g : Gh) (H : Hp) (g' : Gh) (H' : Hp) : Prop where
  gr : Gr g g'
  keep : ∀ a o, H a = some o → a ∉ g.ph → Kept g.F g'.F H' a o
  new : ∀ a, g.F a = none → g'.F a ≠ none → H a = none ∨ a ∈ g.ph
  newph : ∀ a ∈ g'.ph, a ∈ g.ph ∨ H a = none
theorem Ext.refl (g : Gh) (H : Hp) : Ext g H g H := ⟨Gr.refl g, fun _ _ h _ => .inl h, fun a h h' => absurd h h', fun a h => .inl h⟩
theorem Ext.trans {g g' g'' : Gh} {H H' H'' : Hp} (a : Ext g H g' H') (b : Ext g' H' g'' H'') : Ext g H g'' H'' := by
  refine ⟨a.gr.trans b.gr, fun x o e n => ?_, fun x e e' => ?_, fun x hm => ?_⟩
  · have k := a.keep x o e n
    obtain ⟨o1, q1⟩ := k.ex
    have n' : x ∉ g'.ph := fun hm => by
      rcases a.newph x hm with z | z
      · exact n z
      · rw [z] at e; cases e
    rcases k with k | ⟨ps, ps', e1, k, kt⟩
    · rcases b.keep x o k n' with l | ⟨ps, ps', e1, l, lt⟩
      · exact .inl l
      · exact .inr ⟨ps, ps', e1, l, fun t => lt (t.sub a.gr.F)⟩
    · rcases b.keep x _ k n' with l | ⟨qs, qs', e2, l, lt⟩
      · exact .inr ⟨ps, ps', e1, l, fun t => (kt t).sub b.gr.F⟩
      · injection e2 with e2
        subst e2
        exact .inr ⟨ps, qs', e1, l, fun t => lt (kt t)⟩
  · by_cases h : g'.F x = none
    · rcases b.new x h e' with z | z
      · cases q : H x with
        | none => exact .inl rfl
        | some o =>
          by_cases hm : x ∈ g.ph
          · exact .inr hm
          · obtain ⟨o', k⟩ := (a.keep x o q hm).ex
            rw [k] at z; cases z
      · rcases a.newph x z with y | y
        · exact .inr y
        · exact .inl y
    · exact a.new x e h
  · rcases b.newph x hm with z | z
    · exact a.newph x z
    · cases q : H x with
      | none => exact .inr rfl
      | some o =>
        by_cases hm' : x ∈ g.ph
        · exact .inl hm'
        · obtain ⟨o', k⟩ := (a.keep x o q hm').ex
          rw [k] at z; cases z
/-- something new is laid and frozen -/
theorem Rel.lay {K : PySem.W.Frag} {g : Gh} {M : List MO} {H : Hp} {p : Addr} {o : HO} (r : Rel K g M H) (h : H p = none) : Rel K ⟨g.ph, upd g.F p o⟩ M (upd H p o) := by
  have hF : g.F p = none := r.sub.none h
  refine ⟨Sub.upd2 r.sub, r.len, fun n u e l => ?_, r.inj, fun a hm => let ⟨u, q⟩ := r.tr a hm; ⟨u, by rw [upd_ne (ne_of_none q h)]; exact q⟩, r.tab.go (Sub.upd hF) (fun P ps e _ => by rw [upd_ne (ne_of_none e h)]; exact e) (fun _ z => .inl z) fun P ps e _ n => (upd_ne (ne_of_none e h)).trans n⟩
  obtain ⟨a, e1, e2, e3⟩ := r.at_ n u e l
  have ne : a ≠ p := by
    rintro rfl
    obtain ⟨z, q⟩ := e3.there l
    rw [h] at q
    cases q
  refine ⟨a, e1, ?_, MOk.gr (g := g) (g' := ⟨g.ph, upd g.F p o⟩) ⟨fun _ _ z => z, Sub.upd hF⟩ (fun o' q => ?_) e3⟩
  · show upd g.F p o a = none
    rw [upd_ne ne]; exact e2
  · rw [upd_ne ne]; exact q
theorem Ext.lay {g : Gh} {H : Hp} {p : Addr} {o : HO} (s : Sub g.F H) (h : H p = none) : Ext g H ⟨g.ph, upd g.F p o⟩ (upd H p o) :=
  ⟨⟨fun _ _ z => z, Sub.upd (s.none h)⟩, fun a u e _ => .inl (by rw [upd_ne (ne_of_none e h)]; exact e), fun a e e' => by
    by_cases q : a = p
    · subst q; exact .inl h
    · exact absurd (by show upd g.F p o a = none; rw [upd_ne q]; exact e) e', fun a hm => .inl hm⟩

/-- the slots -/
structure RS (K : PySem.W.Frag) (g : Gh) (σ : St) (ρ : Rho) : Prop where
  len : σ.length = ρ.length
  at_ : ∀ (i : Nat) (w : W), ρ[i]? = some (some w) → ∃ v, σ[i]? = some (some v) ∧ RW K g v w
theorem RS.gr {K : PySem.W.Frag} {g g' : Gh} {σ : St} {ρ : Rho} (s : Gr g g') (r : RS K g σ ρ) : RS K g' σ ρ :=
  ⟨r.len, fun i w e => let ⟨v, a, b⟩ := r.at_ i w e; ⟨v, a, RW.gr s b⟩⟩
theorem RS.set {K : PySem.W.Frag} {g : Gh} {σ : St} {ρ : Rho} {v : V} {w : W} (r : RS K g σ ρ) (i : Nat) (h : RW K g v w) : RS K g (σ.set i (some v)) (ρ.set i (some w)) := by
  refine ⟨by simpa using r.len, fun j u e => ?_⟩
  by_cases hj : i = j
  · subst hj
    by_cases hl : i < ρ.length
    · rw [List.getElem?_set_self hl] at e
      cases e
      exact ⟨v, by rw [List.getElem?_set_self (by rw [r.len]; exact hl)], h⟩
    · rw [List.getElem?_eq_none (by simpa using hl)] at e; cases e
  · rw [List.getElem?_set_ne hj] at e ⊢
    exact r.at_ j u e
theorem RS.unset {K : PySem.W.Frag} {g : Gh} {σ : St} {ρ : Rho} (r : RS K g σ ρ) (i : Nat) : RS K g (σ.set i none) (ρ.set i none) := by
  refine ⟨by simpa using r.len, fun j u e => ?_⟩
  by_cases hj : i = j
  · subst hj
    by_cases hl : i < ρ.length
    · rw [List.getElem?_set_self hl] at e; cases e
    · rw [List.getElem?_eq_none (by simpa using hl)] at e; cases e
  · rw [List.getElem?_set_ne hj] at e ⊢
    exact r.at_ j u e

/-- an exception: its class by name, its line -/
structure IsEx (T : Tx) (e : Ex) (cls : Value) (d : Option Addr) (F : Hp) : Prop where
  cl : ∃ C, cls = .ref C ∧ PySem.W.nsIn T.K mainGlobals e.c = some (some (.ref C))
  ln : Ln F e d
theorem IsEx.sub {T : Tx} {F H : Hp} (s : Sub F H) {e : Ex} {cls : Value} {d : Option Addr} (h : IsEx T e cls d F) : IsEx T e cls d H := ⟨h.cl, h.ln.sub s⟩

/-! ### what is wanted behind an evaluation -/
def Bhd {α β : Type} (T : Tx) (xw : Value → Option Addr → Hp → Prop) (Rl : Gh → β → α → Prop) (Q : β → Hp → Prop) (r : Res α) (g : Gh) (H : Hp) : Prop :=
  match r with
  | .ok w M' => ∀ v g' H', Rel T.K g' M' H' → Ext g H g' H' → Rl g' v w → Q v H'
  | .err e M' => ∀ cls d g' H', Rel T.K g' M' H' → Ext g H g' H' → IsEx T e cls d g'.F → xw cls d H'
  | .stuck => False
section
variable {α β γ δ : Type} {T : Tx} {Rl : Gh → β → α → Prop} {R2 : Gh → δ → γ → Prop} {Q Q' : β → Hp → Prop} {r : Res α} {g g1 : Gh} {H H1 : Hp}
theorem Bhd.later {xw : Value → Option Addr → Hp → Prop} (f : Bhd T xw Rl Q r g H) (e : Ext g H g1 H1) : Bhd T xw Rl Q r g1 H1 := by
  cases r with
  | ok w M' => exact fun v g' H' r' e' => f v g' H' r' (e.trans e')
  | err x M' => exact fun c d g' H' r' e' => f c d g' H' r' (e.trans e')
  | stuck => exact f
theorem Bhd.mono {xw xw' : Value → Option Addr → Hp → Prop} (f : Bhd T xw Rl Q r g H) (h : ∀ v H', Q v H' → Q' v H') (hx : ∀ c d H', xw c d H' → xw' c d H') : Bhd T xw' Rl Q' r g H := by
  cases r with
  | ok w M' => exact fun v g' H' r' e' q => h _ _ (f v g' H' r' e' q)
  | err x M' => exact fun c d g' H' r' e' q => hx _ _ _ (f c d g' H' r' e' q)
  | stuck => exact f
/-- the reading of a mirrored evaluation -/
def tG (T : Tx) (xw : WX) (Rl : Gh → β → α → Prop) (f : Rho → List MO → Res α) (σ : L2.St) (H : Hp) (Q : β → Hp → Prop) : Prop :=
  ∃ (g : Gh) (ρ : Rho) (M : List MO), Rel T.K g M H ∧ RS T.K g σ ρ ∧ Bhd T (fun c d H => xw c d σ H) Rl Q (f ρ M) g H
theorem tG_mono {xw : WX} {f : Rho → List MO → Res α} {σ : L2.St} (h : tG T xw Rl f σ H Q) (k : ∀ v H', Q v H' → Q' v H') : tG T xw Rl f σ H Q' :=
  let ⟨g, ρ, M, r, s, f'⟩ := h
  ⟨g, ρ, M, r, s, Bhd.mono f' k fun _ _ _ z => z⟩
theorem tG_bind {xw : WX} {f : Rho → List MO → Res γ} {k : Rho → γ → List MO → Res α} {σ : L2.St} (h : tG T xw Rl (fun ρ M => (f ρ M).bind (k ρ)) σ H Q) :
    tG T xw R2 f σ H fun v H1 => ∃ g ρ M w, Rel T.K g M H1 ∧ RS T.K g σ ρ ∧ R2 g v w ∧ Bhd T (fun c d H => xw c d σ H) Rl Q (k ρ w M) g H1 := by
  obtain ⟨g, ρ, M, r, s, f'⟩ := h
  refine ⟨g, ρ, M, r, s, ?_⟩
  have f'' : Bhd T (fun c d H => xw c d σ H) Rl Q ((f ρ M).bind (k ρ)) g H := f'
  cases e : f ρ M with
  | ok w M' =>
    rw [e] at f''
    exact fun v g' H' r' e' q => ⟨g', ρ, M', w, r', s.gr e'.gr, q, Bhd.later f'' e'⟩
  | err x M' =>
    rw [e] at f''
    exact f''
  | stuck =>
    rw [e] at f''
    exact f''
end
abbrev tE (T : Tx) (xw : WX) (f : EF) : TE := tG T xw (RW T.K) f
def evs : List EF → Rho → List MO → Res (List W)
  | [], _, M => .ok [] M
  | f :: fs, ρ, M => (f ρ M).bind fun w M1 => (evs fs ρ M1).bind fun ws M2 => .ok (w :: ws) M2
abbrev tA (T : Tx) (xw : WX) (fs : List EF) : TA := tG T xw (RWs T.K) (evs fs)
abbrev TF := Rho → List MO → Res Bool
abbrev tT (T : Tx) (xw : WX) (f : TF) : TT := tG T xw (fun _ (b c : Bool) => b = c) f

/-! ### the judgements -/
abbrev ME (X : Cx) (xw : WX) (e : Expr) (f : EF) : Prop := PE X e (tE (tx X) xw f)
abbrev MA (X : Cx) (xw : WX) (es : List Expr) (fs : List EF) : Prop := PA X es (tA (tx X) xw fs)
abbrev MT (X : Cx) (xw : WX) (e : Expr) (f : TF) : Prop := PT X e (tT (tx X) xw f)
theorem PE.imp {X : Cx} {e : Expr} {t t' : TE} (h : PE X e t) (k : ∀ σ H Q, t' σ H Q → t σ H Q) : PE X e t' := ⟨fun pins s σ H Q I q => h.run pins s σ H Q I (k σ H Q q)⟩
theorem PT.imp {X : Cx} {e : Expr} {t t' : TT} (h : PT X e t) (k : ∀ σ H Q, t' σ H Q → t σ H Q) : PT X e t' := ⟨fun pins s σ H Q I q => h.run pins s σ H Q I (k σ H Q q)⟩
theorem PA.imp {X : Cx} {e : List Expr} {t t' : TA} (h : PA X e t) (k : ∀ σ H Q, t' σ H Q → t σ H Q) : PA X e t' := ⟨fun pos pins s σ H Q I q => h.run pos pins s σ H Q I (k σ H Q q)⟩
theorem PS.imp {X : Cx} {e : Stmt} {t t' : TS} (h : PS X e t) (k : ∀ D σ H, t' D σ H → t D σ H) : PS X e t' := ⟨fun pins s σ H D I q => h.run pins s σ H D I (k D σ H q)⟩
theorem PSs.imp {X : Cx} {e : List Stmt} {t t' : TS} (h : PSs X e t) (k : ∀ D σ H, t' D σ H → t D σ H) : PSs X e t' := ⟨fun pins s σ H D I q => h.run pins s σ H D I (k D σ H q)⟩

section
variable {X : Cx} {xw : WX}
theorem ma_nil : MA X xw [] [] := PA.imp pa_nil fun σ H Q ⟨g, ρ, M, r, s, f⟩ => f [] g H r (Ext.refl _ _) .nil
theorem ma_cons {e : Expr} {es : List Expr} {f : EF} {fs : List EF} (he : ME X xw e f) (ha : MA X xw es fs) (hs : starEach (e :: es) X.env = (false, eval e X.env) :: starEach es X.env := by rfl) : MA X xw (e :: es) (f :: fs) := by
  refine PA.imp (pa_cons he ha hs) fun σ H Q h => ?_
  refine tG_mono (tG_bind (R2 := RW X.K) h) fun v H1 ⟨g, ρ, M, w, r, s, q, b⟩ => ?_
  refine ⟨g, ρ, M, r, s, ?_⟩
  have b' : Bhd (tx X) (fun c d H => xw c d σ H) (RWs X.K) Q ((evs fs ρ M).bind fun ws M2 => .ok (w :: ws) M2) g H1 := b
  cases e : evs fs ρ M with
  | ok ws M2 =>
    rw [e] at b'
    exact fun vs g' H' r' e' q' => b' (v :: vs) g' H' r' e' (.cons (RW.gr e'.gr q) q')
  | err x M2 =>
    rw [e] at b'
    exact b'
  | stuck =>
    rw [e] at b'
    exact b'
end
end Y
namespace Y
open PySem PySem.Spec L2

/-! ### primitives -/
abbrev Pr := List W → List MO → Option (W × List MO)
def PrOk (K : PySem.W.Frag) (p : Pr) (r : List V → Hp → VK → Prop) : Prop :=
  ∀ (g : Gh) (M : List MO) (H : Hp) (vs : List V) (ws : List W) (w : W) (M' : List MO) (Q : VK), Rel K g M H → RWs K g vs ws → p ws M = some (w, M') →
    (∀ v g' H', Rel K g' M' H' → Ext g H g' H' → RW K g' v w → Q v H') → r vs H Q
def ans (o : Option (W × List MO)) : Res W := match o with
  | some (w, M') => .ok w M'
  | none => .stuck
def sPr (p : Pr) (fs : List EF) : EF := fun ρ M => (evs fs ρ M).bind fun ws M1 => ans (p ws M1)

theorem bhd_ans {T : Tx} {xw : Value → Option Addr → Hp → Prop} {p : Pr} {r : List V → Hp → VK → Prop} (hp : PrOk T.K p r) {g : Gh} {M : List MO} {H : Hp} {vs : List V} {ws : List W} {Q : VK}
    (R : Rel T.K g M H) (rw_ : RWs T.K g vs ws) (b : Bhd T xw (RW T.K) Q (ans (p ws M)) g H) : r vs H Q := by
  cases e : p ws M with
  | none => rw [e] at b; exact b.elim
  | some y =>
    obtain ⟨w, M'⟩ := y
    rw [e] at b
    exact hp g M H vs ws w M' Q R rw_ e b

/-- arguments, then a primitive -/
theorem prim_args {T : Tx} {xw : WX} {p : Pr} {r : List V → Hp → VK → Prop} (hp : PrOk T.K p r) {fs : List EF} {σ : L2.St} {H : Hp} {Q : VK} (h : tE T xw (sPr p fs) σ H Q) : tA T xw fs σ H fun vs H1 => r vs H1 Q :=
  tG_mono (tG_bind (R2 := RWs T.K) h) fun _ _ ⟨_, _, _, _, R, _, q, b⟩ => bhd_ans hp R q b
theorem prim2 {T : Tx} {xw : WX} {p : Pr} {r : List V → Hp → VK → Prop} (hp : PrOk T.K p r) {fa fb : EF} {σ : L2.St} {H : Hp} {Q : VK} (h : tE T xw (sPr p [fa, fb]) σ H Q) :
    tE T xw fa σ H fun x H1 => tE T xw fb σ H1 fun y H2 => r [x, y] H2 Q := by
  have h' : tE T xw (fun ρ M => (fa ρ M).bind fun w1 M1 => (fb ρ M1).bind fun w2 M2 => ans (p [w1, w2] M2)) σ H Q := by
    obtain ⟨g, ρ, M, R, S, b⟩ := h
    refine ⟨g, ρ, M, R, S, ?_⟩
    have b' : Bhd T (fun c d H => xw c d σ H) (RW T.K) Q ((evs [fa, fb] ρ M).bind fun ws M1 => ans (p ws M1)) g H := b
    show Bhd T (fun c d H => xw c d σ H) (RW T.K) Q ((fa ρ M).bind fun w1 M1 => (fb ρ M1).bind fun w2 M2 => ans (p [w1, w2] M2)) g H
    unfold evs evs evs at b'
    cases e1 : fa ρ M with
    | stuck => rw [e1] at b'; exact b'
    | err x M2 => rw [e1] at b'; exact b'
    | ok w1 M1 =>
      rw [e1] at b'
      show Bhd T (fun c d H => xw c d σ H) (RW T.K) Q ((fb ρ M1).bind fun w2 M2 => ans (p [w1, w2] M2)) g H
      cases e2 : fb ρ M1 with
      | stuck => simp only [Res.bind, e2] at b'; exact b'
      | err x M2 => simp only [Res.bind, e2] at b'; exact b'
      | ok w2 M2 => simp only [Res.bind, e2] at b'; exact b'
  refine tG_mono (tG_bind (R2 := RW T.K) h') fun v H1 ⟨g, ρ, M, w, R, S, q, b⟩ => ⟨g, ρ, M, R, S, ?_⟩
  cases e2 : fb ρ M with
  | stuck => rw [e2] at b; exact b
  | err x M2 => rw [e2] at b; exact b
  | ok w2 M2 =>
    rw [e2] at b
    exact fun y g' H' r' e' q' => bhd_ans hp r' (.cons (RW.gr e'.gr q) (.cons q' .nil)) (Bhd.later b e')
theorem prim1 {T : Tx} {xw : WX} {p : Pr} {r : List V → Hp → VK → Prop} (hp : PrOk T.K p r) {fa : EF} {σ : L2.St} {H : Hp} {Q : VK} (h : tE T xw (sPr p [fa]) σ H Q) :
    tE T xw fa σ H fun x H1 => r [x] H1 Q := by
  have h' : tE T xw (fun ρ M => (fa ρ M).bind fun w1 M1 => ans (p [w1] M1)) σ H Q := by
    obtain ⟨g, ρ, M, R, S, b⟩ := h
    refine ⟨g, ρ, M, R, S, ?_⟩
    have b' : Bhd T (fun c d H => xw c d σ H) (RW T.K) Q ((evs [fa] ρ M).bind fun ws M1 => ans (p ws M1)) g H := b
    show Bhd T (fun c d H => xw c d σ H) (RW T.K) Q ((fa ρ M).bind fun w1 M1 => ans (p [w1] M1)) g H
    unfold evs evs at b'
    cases e1 : fa ρ M with
    | stuck => rw [e1] at b'; exact b'
    | err x M2 => rw [e1] at b'; exact b'
    | ok w1 M1 => rw [e1] at b'; exact b'
  exact tG_mono (tG_bind (R2 := RW T.K) h') fun v H1 ⟨g, ρ, M, w, R, S, q, b⟩ => bhd_ans hp R (.cons q .nil) b

/-! ### primitives over data -/
def Dv (K : PySem.W.Frag) (F H : Hp) (v : V) (x : PyData) : Prop := Dq K F v x ∨ ∃ a xs ds, v = .ref a ∧ x = .list ds ∧ H a = some (.lst xs) ∧ DqAll K F xs ds
def vw (M : List MO) : W → Option PyData
  | .d x => some x
  | .loc n => match M[n]? with
    | some (.lst ds) => some (.list ds)
    | _ => none
  | _ => none
def vws (M : List MO) : List W → Option (List PyData)
  | [] => some []
  | w :: ws => match vw M w with
    | some x => match vws M ws with
      | some xs => some (x :: xs)
      | none => none
    | none => none
inductive DvAll (K : PySem.W.Frag) (F H : Hp) : List V → List PyData → Prop
  | nil : DvAll K F H [] []
  | cons {v : V} {vs : List V} {d : PyData} {ds : List PyData} : Dv K F H v d → DvAll K F H vs ds → DvAll K F H (v :: vs) (d :: ds)
theorem vw_ok {K : PySem.W.Frag} {g : Gh} {M : List MO} {H : Hp} (R : Rel K g M H) : ∀ {w : W} {v : V} {x : PyData}, RW K g v w → vw M w = some x → Dv K g.F H v x
  | .d y, v, x, r, e => by
    cases r with
    | d h => cases e; exact .inl h
  | .loc n, v, x, r, e => by
    cases r with
    | loc h =>
      rename_i a
      replace e : (match M[n]? with | some (.lst ds) => some (.list ds) | _ => Option.none) = some x := e
      cases q : M[n]? with
      | none => rw [q] at e; cases e
      | some o =>
        cases o with
        | dead => rw [q] at e; cases e
        | lsw ws => rw [q] at e; cases e
        | obj _ _ => rw [q] at e; cases e
        | dct _ => rw [q] at e; cases e
        | dctT _ => rw [q] at e; cases e
        | lst ds =>
          rw [q] at e
          cases e
          obtain ⟨b, e1, e2, xs, e3, e4⟩ := R.at_ n _ q rfl
          rw [h] at e1
          cases e1
          exact .inr ⟨a, xs, ds, rfl, rfl, e3, e4⟩
  | .tup ws, _, _, _, e => by cases e
  | .scr ws, _, _, _, e => by cases e
  | .exc ws, _, _, _, e => by cases e
  | .kd ws, _, _, _, e => by cases e
  | .clo _ ws, _, _, _, e => by cases e
  | .fn _, _, _, _, e => by cases e
theorem vws_ok {K : PySem.W.Frag} {g : Gh} {M : List MO} {H : Hp} (R : Rel K g M H) : ∀ {ws : List W} {vs : List V} {xs : List PyData}, RWs K g vs ws → vws M ws = some xs → DvAll K g.F H vs xs
  | [], _, _, .nil, e => by cases e; exact .nil
  | w :: ws, _, _, .cons h t, e => by
    unfold vws at e
    cases q : vw M w with
    | none => rw [q] at e; cases e
    | some x =>
      cases q2 : vws M ws with
      | none => rw [q, q2] at e; cases e
      | some xs =>
        rw [q, q2] at e
        cases e
        exact .cons (vw_ok R h q) (vws_ok R t q2)
structure Lay (F H F' H' : Hp) : Prop where
  f : Sub F F'
  h : Sub H H'
  s : Sub F' H'
  new : ∀ a, F a = none → F' a ≠ none → H a = none
theorem Lay.refl {F H : Hp} (s : Sub F H) : Lay F H F H := ⟨Sub.refl _, Sub.refl _, s, fun _ h h' => absurd h h'⟩
theorem Lay.new1 {F H : Hp} (s : Sub F H) {p : Addr} {o : HO} (h : H p = none) : Lay F H (upd F p o) (upd H p o) :=
  ⟨Sub.upd (s.none h), Sub.upd h, Sub.upd2 s, fun a e e' => by
    by_cases q : a = p
    · subst q; exact h
    · rw [upd_ne q] at e'; exact absurd e e'⟩
theorem Lay.rel {K : PySem.W.Frag} {g : Gh} {M : List MO} {H F' H' : Hp} (R : Rel K g M H) (l : Lay g.F H F' H') : Rel K ⟨g.ph, F'⟩ M H' := by
  refine ⟨l.s, R.len, fun n o e lv => ?_, R.inj, fun a hm => let ⟨u, q⟩ := R.tr a hm; ⟨u, l.h _ _ q⟩, R.tab.go l.f (fun P ps e _ => l.h _ _ e) (fun _ z => .inl z) fun P ps e _ n => Classical.byContradiction fun z => by have := l.new P n z; rw [e] at this; cases this⟩
  obtain ⟨a, e1, e2, e3⟩ := R.at_ n o e lv
  refine ⟨a, e1, ?_, MOk.gr (g := g) (g' := ⟨g.ph, F'⟩) ⟨fun _ _ z => z, l.f⟩ (fun o' q => l.h _ _ q) e3⟩
  show F' a = none
  cases q : F' a with
  | none => rfl
  | some u =>
    have z := l.new a e2 (by rw [q]; simp)
    obtain ⟨z', q'⟩ := e3.there lv
    rw [z] at q'
    cases q'
theorem Lay.ext {g : Gh} {H F' H' : Hp} (l : Lay g.F H F' H') : Ext g H ⟨g.ph, F'⟩ H' :=
  ⟨⟨fun _ _ z => z, l.f⟩, fun a o e _ => .inl (l.h a o e), fun a e e' => .inl (l.new a e e'), fun a h => .inl h⟩
abbrev DPr := List PyData → Option PyData
def dpr (p : DPr) : Pr := fun ws M => match vws M ws with
  | some xs => match p xs with
    | some y => some (.d y, M)
    | none => none
  | none => none
def DPrOk (K : PySem.W.Frag) (p : DPr) (r : List V → Hp → VK → Prop) : Prop :=
  ∀ (F H : Hp) (vs : List V) (xs : List PyData) (y : PyData) (Q : VK), Sub F H → DvAll K F H vs xs → p xs = some y → (∀ v F' H', Lay F H F' H' → Dq K F' v y → Q v H') → r vs H Q
theorem dpr_ok {K : PySem.W.Frag} {p : DPr} {r : List V → Hp → VK → Prop} (h : DPrOk K p r) : PrOk K (dpr p) r := by
  intro g M H vs ws w M' Q R rw_ e k
  unfold dpr at e
  cases q : vws M ws with
  | none => rw [q] at e; cases e
  | some xs =>
    cases q2 : p xs with
    | none => rw [q] at e; simp only [q2] at e; cases e
    | some y =>
      rw [q] at e
      simp only [q2] at e
      cases e
      exact h g.F H vs xs y Q R.sub (vws_ok R rw_ q) q2 fun v F' H' l dq => k v ⟨g.ph, F'⟩ H' (l.rel R) l.ext (.d dq)
theorem Dv.dp {K : PySem.W.Frag} {F H : Hp} (s : Sub F H) {v : V} {x : PyData} : Dv K F H v x → Dp K H v x
  | .inl h => Dq.dp (Dq.sub s h)
  | .inr ⟨a, xs, ds, e1, e2, e3, e4⟩ => by subst e1 e2; exact .lst (.of e3) (DqAll.dp (DqAll.sub s e4))
theorem Dv.int {K : PySem.W.Frag} {F H : Hp} {v : V} {i : Int} : Dv K F H v (.int i) → v = .int i
  | .inl h => by cases h; rfl
  | .inr ⟨a, xs, ds, e1, e2, e3, e4⟩ => by cases e2
theorem Dv.bl {K : PySem.W.Frag} {F H : Hp} {v : V} {i : Bool} : Dv K F H v (.bool i) → v = .bl i
  | .inl h => by cases h; rfl
  | .inr ⟨a, xs, ds, e1, e2, e3, e4⟩ => by cases e2
theorem Dv.str {K : PySem.W.Frag} {F H : Hp} {v : V} {i : Str} : Dv K F H v (.str i) → v = .str i
  | .inl h => by cases h; rfl
  | .inr ⟨a, xs, ds, e1, e2, e3, e4⟩ => by cases e2
theorem Dv.non {K : PySem.W.Frag} {F H : Hp} {v : V} : Dv K F H v .none → v = .non
  | .inl h => by cases h; rfl
  | .inr ⟨a, xs, ds, e1, e2, e3, e4⟩ => by cases e2
theorem Dv.lst {K : PySem.W.Frag} {F H : Hp} (s : Sub F H) {v : V} {ds : List PyData} : Dv K F H v (.list ds) → ∃ a xs, v = .ref a ∧ H a = some (.lst xs) ∧ DqAll K F xs ds
  | .inl h => by cases h with | lst h t => exact ⟨_, _, rfl, s _ _ h, t⟩
  | .inr ⟨a, xs, ds, e1, e2, e3, e4⟩ => by cases e2; exact ⟨a, xs, e1, e3, e4⟩
theorem Dv.tup {K : PySem.W.Frag} {F H : Hp} {v : V} {ds : List PyData} : Dv K F H v (.tuple ds) → ∃ a xs, v = .ref a ∧ TqT K F a xs ∧ DqAll K F xs ds
  | .inl h => by cases h with | tup h t => exact ⟨_, _, rfl, h, t⟩
  | .inr ⟨a, xs, ds, e1, e2, e3, e4⟩ => by cases e2
theorem DvAll.one {K : PySem.W.Frag} {F H : Hp} {vs : List V} {x : PyData} (h : DvAll K F H vs [x]) : ∃ v, vs = [v] ∧ Dv K F H v x := by
  cases h with
  | cons a t => cases t; exact ⟨_, rfl, a⟩
theorem DvAll.two {K : PySem.W.Frag} {F H : Hp} {vs : List V} {x y : PyData} (h : DvAll K F H vs [x, y]) : ∃ v u, vs = [v, u] ∧ Dv K F H v x ∧ Dv K F H u y := by
  cases h with
  | cons a t => cases t with
    | cons b t => cases t; exact ⟨_, _, rfl, a, b⟩
theorem DvAll.three {K : PySem.W.Frag} {F H : Hp} {vs : List V} {x y z : PyData} (h : DvAll K F H vs [x, y, z]) : ∃ v u w, vs = [v, u, w] ∧ Dv K F H v x ∧ Dv K F H u y ∧ Dv K F H w z := by
  cases h with
  | cons a t => cases t with
    | cons b t => cases t with
      | cons c t => cases t; exact ⟨_, _, _, rfl, a, b, c⟩

/-! ### rules for expressions -/
section
variable {X : Cx} {xw : WX} {a b : Expr} {fa fb : EF} {pos : Pos} {p : Pr}
def r2 (r : R2) : List V → Hp → VK → Prop := fun vs H Q => ∃ x y, vs = [x, y] ∧ r x y H Q
def r1 (r : V → Hp → VK → Prop) : List V → Hp → VK → Prop := fun vs H Q => ∃ x, vs = [x] ∧ r x H Q
theorem me_bin {op : Operator} {r : R2} (ho : OpR X (binaryOp op) r) (hp : PrOk X.K p (r2 r)) (ha : ME X xw a fa) (hb : ME X xw b fb) : ME X xw (.BinOp a op b pos) (sPr p [fa, fb]) :=
  PE.imp (pe_op ho ha hb) fun _ _ _ h => tG_mono (prim2 (T := tx X) hp h) fun _ _ h => tG_mono h fun _ _ ⟨_, _, e, q⟩ => by cases e; exact q
theorem me_un {op : UnaryOp} {r : V → Hp → VK → Prop} (ho : UnR X (unaryOp op) r) (hp : PrOk X.K p (r1 r)) (ha : ME X xw a fa) : ME X xw (.UnaryOp op a pos) (sPr p [fa]) :=
  PE.imp (pe_un ho ha) fun _ _ _ h => tG_mono (prim1 (T := tx X) hp h) fun _ _ ⟨_, e, q⟩ => by cases e; exact q
theorem me_cmp {op : CmpOp} {r : R2} (ho : OpR X (compareOp op) r) (hp : PrOk X.K p (r2 r)) (ha : ME X xw a fa) (hb : ME X xw b fb) (hm : behindInMarks op b = false) : ME X xw (.Compare a [op] [b] pos) (sPr p [fa, fb]) :=
  PE.imp (pe_cmpR ho ha hb hm) fun _ _ _ h => tG_mono (prim2 (T := tx X) hp h) fun _ _ h => tG_mono h fun _ _ ⟨_, _, e, q⟩ => by cases e; exact q
theorem me_ix {r : R2} (hr : IxR X r) (hp : PrOk X.K p (r2 r)) (ha : ME X xw a fa) (hb : ME X xw b fb) (hs : PlainIx b := by exact fun _ _ => rfl) : ME X xw (.Subscript a b pos) (sPr p [fa, fb]) :=
  PE.imp (pe_ix hr ha hb hs) fun _ _ _ h => tG_mono (prim2 (T := tx X) hp h) fun _ _ h => tG_mono h fun _ _ ⟨_, _, e, q⟩ => by cases e; exact q
variable {x : Str} {p1 : Pos} {e : Expr} {es : List Expr} {fs : List EF} {id T : String} {r : List V → Hp → VK → Prop}
theorem me_callB (hc : CallR X (.builtin id) r) (hp : PrOk X.K p r) (hg : Gl X x) (hm : X.mg x = none) (hv : bootBuiltins x = some (.builtin id)) (ha : MA X xw (e :: es) fs) (hn : x ≠ "__name__" := by decide) (hdb : (x == ("__debug__" : Str)) = false := by decide)
    (he : starEach (e :: es) X.env = (false, eval e X.env) :: starEach es X.env := by rfl) (hpl : (backTo pos (starEach es X.env)).any (·.1) = false := by rfl) : ME X xw (.Call (.Name x p1) (e :: es) [] pos) (sPr p fs) :=
  PE.imp (pe_callB hc hg hm hv ha hn hdb he hpl) fun _ _ _ h => prim_args (T := tx X) hp h
theorem me_callTy (hc : CallR X (.type T) r) (hp : PrOk X.K p r) (hg : Gl X x) (hm : X.mg x = none) (hv : bootBuiltins x = some (.type T)) (ha : MA X xw (e :: es) fs) (hn : x ≠ "__name__" := by decide) (hdb : (x == ("__debug__" : Str)) = false := by decide)
    (he : starEach (e :: es) X.env = (false, eval e X.env) :: starEach es X.env := by rfl) (hpl : (backTo pos (starEach es X.env)).any (·.1) = false := by rfl) : ME X xw (.Call (.Name x p1) (e :: es) [] pos) (sPr p fs) :=
  PE.imp (pe_callTy hc hg hm hv ha hn hdb he hpl) fun _ _ _ h => prim_args (T := tx X) hp h
/-! names and constants -/
def sV (i : Nat) : EF := fun ρ M => match ρ[i]? with
  | some (some w) => .ok w M
  | _ => .stuck
theorem me_v (i : Nat) {x : Str} {pos : Pos} (hN : X.N[i]? = some x := by rfl) (hv : Vis X.env.scope x := by first | exact Or.inl rfl | exact Or.inr (Or.inl rfl) | exact Or.inr (Or.inr rfl)) (hd : (x == ("__debug__" : Str)) = false := by decide)
    (hcd : (x == ("__classdict__" : Str)) = false := by decide) : ME X xw (.Name x pos) (sV i) :=
  PE.imp (pv i hN hv hd hcd) fun σ H Q ⟨g, ρ, M, R, S, b⟩ => by
    unfold sV at b
    cases q : ρ[i]? with
    | none => rw [q] at b; exact b.elim
    | some o =>
      cases o with
      | none => rw [q] at b; exact b.elim
      | some w =>
        rw [q] at b
        obtain ⟨v, e, r⟩ := S.at_ i w q
        exact ⟨v, e, b v g H R (Ext.refl _ _) r⟩
def sC (d : PyData) : EF := fun _ M => .ok (.d d) M
theorem tE_const {T : Tx} {d : PyData} {v : V} (h : ∀ F, Dq T.K F v d) {σ : L2.St} {H : Hp} {Q : VK} (q : tE T xw (sC d) σ H Q) : tC v σ H Q :=
  let ⟨g, _, _, R, _, b⟩ := q
  b v g H R (Ext.refl _ _) (.d (h _))
theorem me_int {i : Int} {j pos} : ME X xw (.Constant (.int i) j pos) (sC (.int i)) := PE.imp pe_int fun _ _ _ q => tE_const (fun _ => .int _) q
theorem me_bl {i : Bool} {j pos} : ME X xw (.Constant (.bool i) j pos) (sC (.bool i)) := PE.imp pe_bl fun _ _ _ q => tE_const (fun _ => .bl _) q
theorem me_str {i : Str} {j pos} : ME X xw (.Constant (.str i) j pos) (sC (.str i)) := PE.imp pe_str fun _ _ _ q => tE_const (fun _ => .str _) q
theorem me_non {j pos} : ME X xw (.Constant .none j pos) (sC .none) := PE.imp pe_non fun _ _ _ q => tE_const (fun _ => .non) q
end
end Y
namespace Y
open PySem PySem.Spec L2

/-! ### statements -/
inductive SR where
  | nx (ρ : Rho) (M : List MO) | ret (w : W) (M : List MO) | bk (ρ : Rho) (M : List MO) | ct (ρ : Rho) (M : List MO) | er (e : Ex) (ρ : Rho) (M : List MO) | stuck
abbrev SF := Rho → List MO → SR
def BhdS (T : Tx) (xw : WX) (D : Ends) (r : SR) (g : Gh) (H : Hp) : Prop :=
  match r with
  | .nx ρ M => ∀ σ g' H', Rel T.K g' M H' → Ext g H g' H' → RS T.K g' σ ρ → D.nx σ H'
  | .bk ρ M => ∀ σ g' H', Rel T.K g' M H' → Ext g H g' H' → RS T.K g' σ ρ → D.bk σ H'
  | .ct ρ M => ∀ σ g' H', Rel T.K g' M H' → Ext g H g' H' → RS T.K g' σ ρ → D.ct σ H'
  | .ret w M => ∀ v g' H', Rel T.K g' M H' → Ext g H g' H' → RW T.K g' v w → D.rt v H'
  | .er e ρ M => ∀ cls d σ g' H', Rel T.K g' M H' → Ext g H g' H' → RS T.K g' σ ρ → IsEx T e cls d g'.F → xw cls d σ H'
  | .stuck => False
theorem BhdS.later {T : Tx} {xw : WX} {D : Ends} {r : SR} {g g1 : Gh} {H H1 : Hp} (f : BhdS T xw D r g H) (e : Ext g H g1 H1) : BhdS T xw D r g1 H1 := by
  cases r with
  | nx ρ M => exact fun σ g' H' r' e' => f σ g' H' r' (e.trans e')
  | bk ρ M => exact fun σ g' H' r' e' => f σ g' H' r' (e.trans e')
  | ct ρ M => exact fun σ g' H' r' e' => f σ g' H' r' (e.trans e')
  | ret ρ M => exact fun σ g' H' r' e' => f σ g' H' r' (e.trans e')
  | er x ρ M => exact fun c d σ g' H' r' e' => f c d σ g' H' r' (e.trans e')
  | stuck => exact f
theorem BhdS.imp {T : Tx} {xw xw' : WX} {D D' : Ends} {r : SR} {g : Gh} {H : Hp} (f : BhdS T xw D r g H) (h1 : ∀ σ H', D.nx σ H' → D'.nx σ H') (h2 : ∀ v H', D.rt v H' → D'.rt v H') (h3 : ∀ σ H', D.bk σ H' → D'.bk σ H') (h4 : ∀ σ H', D.ct σ H' → D'.ct σ H')
    (h5 : ∀ c d σ H', xw c d σ H' → xw' c d σ H') : BhdS T xw' D' r g H := by
  cases r with
  | nx ρ M => exact fun σ g' H' r' e' q => h1 _ _ (f σ g' H' r' e' q)
  | bk ρ M => exact fun σ g' H' r' e' q => h3 _ _ (f σ g' H' r' e' q)
  | ct ρ M => exact fun σ g' H' r' e' q => h4 _ _ (f σ g' H' r' e' q)
  | ret ρ M => exact fun σ g' H' r' e' q => h2 _ _ (f σ g' H' r' e' q)
  | er x ρ M => exact fun c d σ g' H' r' e' q q' => h5 _ _ _ _ (f c d σ g' H' r' e' q q')
  | stuck => exact f
def tS (T : Tx) (xw : WX) (f : SF) : TS := fun D σ H => ∃ (g : Gh) (ρ : Rho) (M : List MO), Rel T.K g M H ∧ RS T.K g σ ρ ∧ BhdS T xw D (f ρ M) g H
abbrev MS (X : Cx) (xw : WX) (st : Stmt) (f : SF) : Prop := PS X st (tS (tx X) xw f)
abbrev MSs (X : Cx) (xw : WX) (st : List Stmt) (f : SF) : Prop := PSs X st (tS (tx X) xw f)

def sNx : SF := fun ρ M => .nx ρ M
def sSeq (f h : SF) : SF := fun ρ M => match f ρ M with
  | .nx ρ' M' => h ρ' M'
  | r => r
/-- an expression's value, then a statement's end -/
def sThen (f : EF) (k : Rho → W → List MO → SR) : SF := fun ρ M => match f ρ M with
  | .ok w M' => k ρ w M'
  | .err e M' => .er e ρ M'
  | .stuck => .stuck
def sSet (i : Nat) (f : EF) : SF := sThen f fun ρ w M => .nx (ρ.set i (some w)) M
def sExpr (f : EF) : SF := sThen f fun ρ _ M => .nx ρ M
def sRet (f : EF) : SF := sThen f fun _ w M => .ret w M
def sRetN : SF := fun _ M => .ret (.d .none) M
def sIf (c : TF) (a b : SF) : SF := fun ρ M => match c ρ M with
  | .ok true M' => a ρ M'
  | .ok false M' => b ρ M'
  | .err e M' => .er e ρ M'
  | .stuck => .stuck
def sBk : SF := fun ρ M => .bk ρ M
def sCt : SF := fun ρ M => .ct ρ M

section
variable {X : Cx} {xw : WX} {st : Stmt} {sts : List Stmt} {f h : SF} {e : Expr} {fe : EF} {pos : Pos}
theorem tS_then {T : Tx} {k : Rho → W → List MO → SR} {D : Ends} {σ : L2.St} {H : Hp} (q : tS T xw (sThen fe k) D σ H) :
    tE T xw fe σ H fun v H1 => ∃ g ρ M w, Rel T.K g M H1 ∧ RS T.K g σ ρ ∧ RW T.K g v w ∧ BhdS T xw D (k ρ w M) g H1 := by
  obtain ⟨g, ρ, M, R, S, b⟩ := q
  refine ⟨g, ρ, M, R, S, ?_⟩
  unfold sThen at b
  cases e1 : fe ρ M with
  | stuck => rw [e1] at b; exact b
  | err x M2 => rw [e1] at b; exact fun c d g' H' r' e' q' => b c d σ g' H' r' e' (S.gr e'.gr) q'
  | ok w M2 => rw [e1] at b; exact fun v g' H' r' e' q' => ⟨g', ρ, M2, w, r', S.gr e'.gr, q', b.later e'⟩
theorem mss_nil : MSs X xw [] sNx := PSs.imp pss_nil fun D σ H ⟨g, ρ, M, R, S, b⟩ => b σ g H R (Ext.refl _ _) S
theorem tS_seq {T : Tx} {D : Ends} {σ : L2.St} {H : Hp} (q : tS T xw (sSeq f h) D σ H) : tS T xw f { D with nx := tS T xw h D } σ H := by
  obtain ⟨g, ρ, M, R, S, b⟩ := q
  refine ⟨g, ρ, M, R, S, ?_⟩
  unfold sSeq at b
  cases e1 : f ρ M with
  | nx ρ' M' => rw [e1] at b; exact fun σ' g' H' r' e' s' => ⟨g', ρ', M', r', s', BhdS.later b e'⟩
  | bk ρ' M' => rw [e1] at b; exact b
  | ct ρ' M' => rw [e1] at b; exact b
  | ret ρ' M' => rw [e1] at b; exact b
  | er e ρ' M' => rw [e1] at b; exact b
  | stuck => rw [e1] at b; exact b
theorem mss_cons (h1 : MS X xw st f) (h2 : MSs X xw sts h) : MSs X xw (st :: sts) (sSeq f h) := PSs.imp (pss_cons h1 h2) fun _ _ _ q => tS_seq q
theorem mss_one (h1 : MS X xw st f) : MSs X xw [st] f := pss_one h1
theorem ms_set {i : Nat} {x : Str} {pos' : Pos} (hN : X.N.Nodup) (he : ME X xw e fe) (hi : X.N[i]? = some x := by rfl) (hx : Loc X.env.scope x := by first | exact Or.inl rfl | exact Or.inr rfl) (hs : swapsWith e (some (.Name x pos')) pos.line X.env = pure false := by rfl)
    (hf : X.fn x = true ∨ X.env.scope.names.lookup x = some .local := by first | exact .inl rfl | exact .inr rfl) : MS X xw (.Assign [.Name x pos'] e pos) (sSet i fe) :=
  PS.imp (ps_set hN hi hx he hs hf) fun D σ H q => tG_mono (tS_then q) fun v H1 ⟨g, ρ, M, w, R, S, r, b⟩ => b _ g H1 R (Ext.refl _ _) (S.set i r)
theorem ms_expr (he : ME X xw e fe) (hs : swapsWith e none pos.line X.env = pure false := by rfl) : MS X xw (.Expr e pos) (sExpr fe) :=
  PS.imp (ps_expr he hs) fun D σ H q => tG_mono (tS_then q) fun v H1 ⟨g, ρ, M, w, R, S, r, b⟩ => b _ g H1 R (Ext.refl _ _) S
theorem ms_ret (he : ME X xw e fe) : MS X xw (.Return (some e) pos) (sRet fe) :=
  PS.imp (ps_ret he) fun D σ H q => tG_mono (tS_then q) fun v H1 ⟨g, ρ, M, w, R, S, r, b⟩ => b _ g H1 R (Ext.refl _ _) r
theorem ms_retN : MS X xw (.Return none pos) sRetN := PS.imp ps_retN fun D σ H ⟨g, ρ, M, R, S, b⟩ => b .non g H R (Ext.refl _ _) (.d .non)
theorem ms_pass : MS X xw (.Pass pos) sNx := PS.imp ps_pass fun D σ H ⟨g, ρ, M, R, S, b⟩ => b σ g H R (Ext.refl _ _) S
theorem ms_break : MS X xw (.Break pos) sBk := PS.imp ps_break fun D σ H ⟨g, ρ, M, R, S, b⟩ => b σ g H R (Ext.refl _ _) S
theorem ms_continue : MS X xw (.Continue pos) sCt := PS.imp ps_continue fun D σ H ⟨g, ρ, M, R, S, b⟩ => b σ g H R (Ext.refl _ _) S
theorem ms_if {c : Expr} {a b : List Stmt} {fc : TF} {fa fb : SF} (hc : MT X xw c fc) (ha : MSs X xw a fa) (hb : MSs X xw b fb) : MS X xw (.If c a b pos) (sIf fc fa fb) :=
  PS.imp (ps_if hc ha hb) fun D σ H ⟨g, ρ, M, R, S, b⟩ => by
    refine ⟨g, ρ, M, R, S, ?_⟩
    unfold sIf at b
    cases e1 : fc ρ M with
    | stuck => rw [e1] at b; exact b
    | err x M2 => rw [e1] at b; exact fun c d g' H' r' e' q' => b c d σ g' H' r' e' (S.gr e'.gr) q'
    | ok w M2 =>
      rw [e1] at b
      intro v g' H' r' e' q'
      have q'' : v = w := q'
      subst q''
      cases v with
      | true => exact iteT ⟨g', ρ, M2, r', S.gr e'.gr, BhdS.later b e'⟩
      | false => exact iteF ⟨g', ρ, M2, r', S.gr e'.gr, BhdS.later b e'⟩
end

/-! ### tests, and, or, not, if-else -/
def sVal (f : EF) : TF := fun ρ M => (f ρ M).bind fun w M => match w with
  | .d (.bool b) => .ok b M
  | _ => .stuck
def sNot (f : TF) : TF := fun ρ M => (f ρ M).bind fun b M => .ok (!b) M
def sAnd (f h : TF) : TF := fun ρ M => (f ρ M).bind fun b M => if b = true then h ρ M else .ok false M
def sOr (f h : TF) : TF := fun ρ M => (f ρ M).bind fun b M => if b = true then .ok true M else h ρ M
def sBl (f : TF) : EF := fun ρ M => (f ρ M).bind fun b M => .ok (.d (.bool b)) M
def sIte (c : TF) (a b : EF) : EF := fun ρ M => (c ρ M).bind fun k M => if k = true then a ρ M else b ρ M
section
variable {X : Cx} {xw : WX} {a b c : Expr} {fa fb : EF} {fc fd : TF} {pos : Pos} {rest : List Expr}
theorem tT_val {T : Tx} {σ : L2.St} {H : Hp} {Q : Bool → Hp → Prop} (h : tT T xw (sVal fa) σ H Q) : tB (tE T xw fa) σ H Q := by
  refine tG_mono (tG_bind (R2 := RW T.K) h) fun v H1 ⟨g, ρ, M, w, R, S, q, b⟩ => ?_
  cases w with
  | loc n => exact b.elim
  | tup n => exact b.elim
  | scr n => exact b.elim
  | exc n => exact b.elim
  | kd n => exact b.elim
  | clo _ n => exact b.elim
  | fn n => exact b.elim
  | d x =>
    cases x with
    | bool k => cases q with | d q => cases q; exact ⟨k, rfl, b k g H1 R (Ext.refl _ _) rfl⟩
    | none => exact b.elim
    | int _ => exact b.elim
    | str _ => exact b.elim
    | list _ => exact b.elim
    | tuple _ => exact b.elim
    | dict _ => exact b.elim
theorem mt_val (ha : ME X xw a fa) (he : ∀ whole, isTrue a X.env whole = (do let v ← whole; standAt a.pos; holding [v] (truthy v)) := by intro _; rfl) : MT X xw a (sVal fa) :=
  PT.imp (pt_val ha he) fun _ _ _ h => tT_val h
theorem mt_cmp {op : CmpOp} {r : R2} {p : Pr} (ho : OpR X (compareOp op) r) (hp : PrOk X.K p (r2 r)) (ha : ME X xw a fa) (hb : ME X xw b fb) (hm : behindInMarks op b = false) : MT X xw (.Compare a [op] [b] pos) (sVal (sPr p [fa, fb])) :=
  PT.imp (pt_cmpR ho ha hb hm) fun σ H Q h => by
    have h1 := tT_val h
    have h2 : tOp r (tE (tx X) xw fa) (tE (tx X) xw fb) σ H fun x H1 => ∃ c, x = .bl c ∧ Q c H1 := tG_mono (prim2 (T := tx X) hp h1) fun _ _ h => tG_mono h fun _ _ ⟨_, _, e, q⟩ => by cases e; exact q
    exact h2
theorem mt_not (ha : MT X xw a fc) : MT X xw (.UnaryOp .Not a pos) (sNot fc) :=
  PT.imp (pt_not ha) fun σ H Q h => tG_mono (tG_bind (R2 := fun _ (b c : Bool) => b = c) h) fun v H1 ⟨g, ρ, M, w, R, S, q, b⟩ => by
    have q' : v = w := q
    subst q'
    exact b _ g H1 R (Ext.refl _ _) rfl
abbrev MW (X : Cx) (xw : WX) (e : Expr) (f : TF) : Prop := PW X e (tT (tx X) xw f)
theorem PW.imp {X : Cx} {e : Expr} {t t' : TT} (h : PW X e t) (k : ∀ σ H Q, t' σ H Q → t σ H Q) : PW X e t' := ⟨fun w pins s σ H Q I q => h.run w pins s σ H Q I (k σ H Q q)⟩
theorem mw_and1 (ha : MT X xw a fc) : MW X xw (.BoolOp .And [a] pos) fc := pw_and1 ha
theorem mw_or1 (ha : MT X xw a fc) : MW X xw (.BoolOp .Or [a] pos) fc := pw_or1 ha
theorem mw_and (ha : MT X xw a fc) (hb : MW X xw (.BoolOp .And (b :: rest) pos) fd) : MW X xw (.BoolOp .And (a :: b :: rest) pos) (sAnd fc fd) :=
  PW.imp (pw_and ha hb) fun σ H Q h => tG_mono (tG_bind (R2 := fun _ (b c : Bool) => b = c) h) fun v H1 ⟨g, ρ, M, w, R, S, q, b⟩ => by
    have q' : v = w := q
    subst q'
    cases v with
    | true => exact iteT ⟨g, ρ, M, R, S, b⟩
    | false => exact iteF (b false g H1 R (Ext.refl _ _) rfl)
theorem mw_or (ha : MT X xw a fc) (hb : MW X xw (.BoolOp .Or (b :: rest) pos) fd) : MW X xw (.BoolOp .Or (a :: b :: rest) pos) (sOr fc fd) :=
  PW.imp (pw_or ha hb) fun σ H Q h => tG_mono (tG_bind (R2 := fun _ (b c : Bool) => b = c) h) fun v H1 ⟨g, ρ, M, w, R, S, q, b⟩ => by
    have q' : v = w := q
    subst q'
    cases v with
    | true => exact iteT (b true g H1 R (Ext.refl _ _) rfl)
    | false => exact iteF ⟨g, ρ, M, R, S, b⟩
theorem mt_w (h : MW X xw a fc) : MT X xw a fc := h.pt
/-! as values: all parts truths -/
def sAndV (f h : EF) : EF := fun ρ M => (f ρ M).bind fun w M => match w with
  | .d (.bool true) => h ρ M
  | .d (.bool false) => .ok (.d (.bool false)) M
  | _ => .stuck
def sOrV (f h : EF) : EF := fun ρ M => (f ρ M).bind fun w M => match w with
  | .d (.bool false) => h ρ M
  | .d (.bool true) => .ok (.d (.bool true)) M
  | _ => .stuck
def sNotV (f : EF) : EF := fun ρ M => (f ρ M).bind fun w M => match w with
  | .d (.bool b) => .ok (.d (.bool (!b))) M
  | _ => .stuck
theorem me_one {op} (h : ME X xw a fa) : ME X xw (.BoolOp op [a] pos) fa := pe_one h
theorem me_and (ha : ME X xw a fa) (hb : ME X xw (.BoolOp .And (b :: rest) pos) fb) : ME X xw (.BoolOp .And (a :: b :: rest) pos) (sAndV fa fb) :=
  PE.imp (pe_and ha hb) fun σ H Q h => tG_mono (tG_bind (R2 := RW X.K) h) fun v H1 ⟨g, ρ, M, w, R, S, q, b⟩ => by
    cases w with
    | loc n => exact b.elim
    | tup n => exact b.elim
    | scr n => exact b.elim
    | exc n => exact b.elim
    | kd n => exact b.elim
    | clo _ n => exact b.elim
    | fn n => exact b.elim
    | d x =>
      cases x with
      | bool k =>
        cases q with
        | d q =>
          cases q
          cases k with
          | true => exact ⟨true, rfl, iteT ⟨g, ρ, M, R, S, b⟩⟩
          | false => exact ⟨false, rfl, iteF (b _ g H1 R (Ext.refl _ _) (.d (.bl _)))⟩
      | none => exact b.elim
      | int _ => exact b.elim
      | str _ => exact b.elim
      | list _ => exact b.elim
      | tuple _ => exact b.elim
      | dict _ => exact b.elim
theorem me_or (ha : ME X xw a fa) (hb : ME X xw (.BoolOp .Or (b :: rest) pos) fb) : ME X xw (.BoolOp .Or (a :: b :: rest) pos) (sOrV fa fb) :=
  PE.imp (pe_or ha hb) fun σ H Q h => tG_mono (tG_bind (R2 := RW X.K) h) fun v H1 ⟨g, ρ, M, w, R, S, q, b⟩ => by
    cases w with
    | loc n => exact b.elim
    | tup n => exact b.elim
    | scr n => exact b.elim
    | exc n => exact b.elim
    | kd n => exact b.elim
    | clo _ n => exact b.elim
    | fn n => exact b.elim
    | d x =>
      cases x with
      | bool k =>
        cases q with
        | d q =>
          cases q
          cases k with
          | true => exact ⟨true, rfl, iteT (b _ g H1 R (Ext.refl _ _) (.d (.bl _)))⟩
          | false => exact ⟨false, rfl, iteF ⟨g, ρ, M, R, S, b⟩⟩
      | none => exact b.elim
      | int _ => exact b.elim
      | str _ => exact b.elim
      | list _ => exact b.elim
      | tuple _ => exact b.elim
      | dict _ => exact b.elim
theorem me_not (ha : ME X xw a fa) : ME X xw (.UnaryOp .Not a pos) (sNotV fa) :=
  PE.imp (pe_not ha) fun σ H Q h => tG_mono (tG_bind (R2 := RW X.K) h) fun v H1 ⟨g, ρ, M, w, R, S, q, b⟩ => by
    cases w with
    | loc n => exact b.elim
    | tup n => exact b.elim
    | scr n => exact b.elim
    | exc n => exact b.elim
    | kd n => exact b.elim
    | clo _ n => exact b.elim
    | fn n => exact b.elim
    | d x =>
      cases x with
      | bool k => cases q with | d q => cases q; exact ⟨k, rfl, b _ g H1 R (Ext.refl _ _) (.d (.bl _))⟩
      | none => exact b.elim
      | int _ => exact b.elim
      | str _ => exact b.elim
      | list _ => exact b.elim
      | tuple _ => exact b.elim
      | dict _ => exact b.elim
theorem me_ite (hc : MT X xw c fc) (ha : ME X xw a fa) (hb : ME X xw b fb) : ME X xw (.IfExp c a b pos) (sIte fc fa fb) :=
  PE.imp (pe_ifExp hc ha hb) fun σ H Q h => tG_mono (tG_bind (R2 := fun _ (b c : Bool) => b = c) h) fun v H1 ⟨g, ρ, M, w, R, S, q, b⟩ => by
    have q' : v = w := q
    subst q'
    cases v with
    | true => exact iteT ⟨g, ρ, M, R, S, b⟩
    | false => exact iteF ⟨g, ρ, M, R, S, b⟩
end
end Y
namespace Y
open PySem PySem.Spec L2

/-! ### what a context must have -/
structure Ctx (X : Cx) (k : Nat) (xw : WX) : Prop where
  calm : X.calm = true
  nd : X.N.Nodup
  takes : Takes X xw
  own : PassesOwn (model X.prog X.w) X.A X.env X.xe
  room : Room k X.A
  gd : X.A.guards = some []
theorem Ctx.mono {X : Cx} {j k : Nat} {xw : WX} (C : Ctx X k xw) (h : j ≤ k) : Ctx X j xw := ⟨C.calm, C.nd, C.takes, C.own, C.room.mono h, C.gd⟩
abbrev xw0 : WX := fun _ _ _ _ => False
theorem Ctx.blk {X : Cx} {k : Nat} {xw : WX} (C : Ctx X k xw) (s : Shared) (H : Hp) (scope : Scope) (cenv : Env) (fp : List Addr) : Ctx (X.blk s H scope cenv fp) k xw0 :=
  ⟨C.calm, C.nd, takes0, PassesOwn.never, C.room, C.gd⟩

/-! ### what a def is worth -/
abbrev MF := List W → List MO → Res W
def spM (T : Tx) (mf : MF) : Sp := fun vs H Q E => ∃ (g : Gh) (ws : List W) (M : List MO), Rel T.K g M H ∧ RWs T.K g vs ws ∧ Bhd T E (RW T.K) Q (mf ws M) g H
structure FnM (P : Program) (w : World) (K : PySem.W.Frag) (mg : Str → Option Value) (base : Heap) (k : Nat) (f : Addr) (fd : FuncData) (ps : List Str) (mf : MF) : Prop where
  run : ∀ (A : Around) (outer : List Env) (s : Shared) (H : Hp) (args : Args) (us : List Value) (vs : List V) (Q : VK) (E : XK), Room k A → A.guards = some [] → Env0 P w K mg base A outer s H → BindsTo s fd args (ps.zip us) → Vals vs us →
    vs.length = ps.length → spM ⟨K, mg⟩ mf vs H Q E → codeAny (model P w) A (.call (.ref f) args) (CR (L2.CX P w) outer P w H s Q E) s
structure Cal (P : Program) (w : World) (K : PySem.W.Frag) (mg : Str → Option Value) (base : Heap) (k : Nat) (x : Str) (ps : List Str) (mf : MF) : Prop where
  ex : ∃ (f : Addr) (fd : FuncData), FnM P w K mg base k f fd ps mf ∧ mg x = some (.ref f) ∧ PySem.W.keepIn K (.ref f) = true ∧ Binds K fd ps []
theorem Cal.mono {P : Program} {w : World} {K : PySem.W.Frag} {mg : Str → Option Value} {base : Heap} {j k : Nat} {x : Str} {ps : List Str} {mf : MF} (c : Cal P w K mg base j x ps mf) (h : j ≤ k) : Cal P w K mg base k x ps mf :=
  let ⟨f, fd, F, r⟩ := c.ex
  ⟨f, fd, ⟨fun A outer s H args us vs Q E hr => F.run A outer s H args us vs Q E (hr.mono h)⟩, r⟩
/-- a def's mirror is as good as another that says more -/
theorem Cal.of {P : Program} {w : World} {K : PySem.W.Frag} {mg : Str → Option Value} {base : Heap} {k : Nat} {x : Str} {ps : List Str} {mf mf' : MF} (c : Cal P w K mg base k x ps mf) (h : ∀ ws M, mf' ws M = .stuck ∨ mf ws M = mf' ws M) : Cal P w K mg base k x ps mf' :=
  let ⟨f, fd, F, r⟩ := c.ex
  ⟨f, fd, ⟨fun A outer s H args us vs Q E hr hg e0 hb hv hl ⟨g, ws, M, R, S, b⟩ => F.run A outer s H args us vs Q E hr hg e0 hb hv hl (by
    refine ⟨g, ws, M, R, S, ?_⟩
    rcases h ws M with e | e
    · rw [e] at b; exact b.elim
    · rw [e]; exact b)⟩, r⟩

/-- the callee runs -/
theorem run_fnM {X : Cx} {k : Nat} {xw : WX} {f : Addr} {fd : FuncData} {ps : List Str} {mf : MF} (C : Ctx X k xw) (F : FnM X.prog X.w X.K X.mg X.base k f fd ps mf) (hb : Binds X.K fd ps [])
    {pins : List (Addr × Obj)} {σ : L2.St} {H : Hp} {s : Shared} {Q : VK} {us : List Value} {vs : List V} (I : Inv X pins σ H s) (r : Vals vs us) (hl : vs.length = ps.length) (h : spM (tx X) mf vs H Q (WE xw σ)) :
    wpAny (model X.prog X.w) X.A (call (.ref f) us) (EP X pins σ Q) X.xe s := by
  have hl' : us.length = ps.length := by rw [← r.length]; exact hl
  have b := hb s us I.kIn (by rw [List.append_nil]; exact hl')
  rw [List.append_nil] at b
  refine wpAny_call (codeAny_mono (F.run X.A X.stack s H ⟨us, []⟩ us vs Q (WE xw σ) C.room C.gd I.env0 b r hl h) fun r s' hq => ?_)
  cases r with
  | error e => exact passAt C.takes σ pins H s e s' I hq
  | ok fl =>
    cases fl with
    | ret u => exact I.after hq
    | next => exact False.elim hq
    | brk => exact False.elim hq
    | cont => exact False.elim hq
/-- f(e, ..): how the callee sees the arguments: cv gives its own arguments and store, and what its answer is worth here -/
def tCallM (T : Tx) (mf : MF) (n : Nat) (xw : WX) (t : TA) : TE := fun σ H Q => t σ H fun vs H1 => vs.length = n ∧ spM T mf vs H1 Q (WE xw σ)
theorem pe_callM {X : Cx} {k : Nat} {xw : WX} {x : Str} {ps : List Str} {mf : MF} (C : Ctx X k xw) (c : Cal X.prog X.w X.K X.mg X.base k x ps mf) {e : Expr} {es : List Expr} {t : TA} {p pos : Pos} (ha : PA X (e :: es) t) (hg : Gl X x) (hdb : (x == ("__debug__" : Str)) = false := by decide)
    (he : starEach (e :: es) X.env = (false, eval e X.env) :: starEach es X.env := by rfl) (hpl : (backTo pos (starEach es X.env)).any (·.1) = false := by rfl) :
    PE X (.Call (.Name x p) (e :: es) [] pos) (tCallM (tx X) mf ps.length xw t) := by
  obtain ⟨f, fd, F, hm, hk, hb⟩ := c.ex
  refine ⟨fun pins s σ H Q I h => ?_⟩
  refine wpAny_Call_Name_kw (ld_glob I hg hm ?_ hdb)
  refine PySem.W.callWith_K (h₀ := X.base) I.ok.mod.kin hk (thn (ha.run pos pins s σ H _ I h) fun us s1 ⟨vs, H1, I1, r, q⟩ => ⟨I1.kIn, ?_⟩) he hpl
  exact run_fnM C F hb I1 r q.1 q.2

/-! ### a call by arguments -/
/-- the callee gets the whole store -/
def sCallW (mf : MF) (n : Nat) (fs : List EF) : EF := fun ρ M => (evs fs ρ M).bind fun ws M1 => if ws.length = n then mf ws M1 else .stuck
theorem me_callW {X : Cx} {k : Nat} {xw : WX} {x : Str} {ps : List Str} {mf : MF} (C : Ctx X k xw) (c : Cal X.prog X.w X.K X.mg X.base k x ps mf) {e : Expr} {es : List Expr} {fs : List EF} {p pos : Pos} (ha : MA X xw (e :: es) fs) (hg : Gl X x := by rfl) (hdb : (x == ("__debug__" : Str)) = false := by decide)
    (he : starEach (e :: es) X.env = (false, eval e X.env) :: starEach es X.env := by rfl) (hpl : (backTo pos (starEach es X.env)).any (·.1) = false := by rfl) :
    ME X xw (.Call (.Name x p) (e :: es) [] pos) (sCallW mf ps.length fs) :=
  PE.imp (pe_callM C c ha hg hdb he hpl) fun σ H Q h => tG_mono (tG_bind (R2 := RWs X.K) h) fun vs H1 ⟨g, ρ, M, ws, R, S, q, b⟩ => by
    by_cases hl : ws.length = ps.length
    · rw [if_pos hl] at b
      exact ⟨q.length.trans hl, g, ws, M, R, q, b⟩
    · rw [if_neg hl] at b; exact b.elim

/-! ### a call with a store of its own -/
/-- the places of the arguments that are loc -/
def locs : List W → List Nat
  | [] => []
  | .loc n :: ws => n :: locs ws
  | _ :: ws => locs ws
/-- the arguments with their locs numbered from k -/
def relo : Nat → List W → List W
  | _, [] => []
  | k, .loc _ :: ws => .loc k :: relo (k + 1) ws
  | k, w :: ws => w :: relo k ws
def W.plain : W → Bool
  | .tup _ => false
  | .clo _ _ => false
  | _ => true
def subM (M : List MO) : List Nat → Option (List MO)
  | [] => some []
  | n :: ns => match M[n]? with
    | some (.lst ds) => match subM M ns with
      | some r => some (.lst ds :: r)
      | none => none
    | _ => none
/-- back into the store -/
def putM : List MO → List Nat → List MO → List MO
  | M, [], _ => M
  | M, _, [] => M
  | M, n :: ns, o :: os => putM (M.set n o) ns os
/-- frozen -/
def fz : Nat → List MO → W → Option PyData
  | _, _, .d x => some x
  | 0, _, _ => none
  | j + 1, M, .loc n => match M[n]? with
    | some (.lst ds) => some (.list ds)
    | some (.lsw ws) => (ws.mapM (fz j M)).map .list
    | _ => none
  | j + 1, M, .tup ws => (ws.mapM (fz j M)).map .tuple
  | _, _, .scr _ => none
  | _, _, .exc _ => none
  | _, _, .kd _ => none
  | _, _, .clo _ _ => none
  | _, _, .fn _ => none
def dataOnly : List MO → Bool
  | [] => true
  | .lst _ :: r => dataOnly r
  | _ :: _ => false
/-- the answer frozen, the callee's own store dropped -/
def freeze (M : List MO) (ix : List Nat) : Res W → Res W
  | .ok w M' => if dataOnly (M'.take ix.length) = true then match fz 3 (List.replicate ix.length .dead ++ M'.drop ix.length) w with
      | some x => .ok (.d x) (putM M ix (M'.take ix.length))
      | none => .stuck
    else .stuck
  | .err e M' => if dataOnly (M'.take ix.length) = true then .err e (putM M ix (M'.take ix.length)) else .stuck
  | .stuck => .stuck
def callF (mf : MF) (n : Nat) (ws : List W) (M : List MO) : Res W :=
  if ws.length = n ∧ ws.all W.plain = true ∧ (locs ws).Nodup then match subM M (locs ws) with
    | some Mc => freeze M (locs ws) (mf (relo 0 ws) Mc)
    | none => .stuck
  else .stuck
def sCallF (mf : MF) (n : Nat) (fs : List EF) : EF := fun ρ M => (evs fs ρ M).bind fun ws M1 => callF mf n ws M1
end Y
namespace Y
open PySem PySem.Spec L2

theorem mapM_all {K : PySem.W.Frag} {g : Gh} {F : Hp} {f : W → Option PyData} (ih : ∀ w v x, RW K g v w → f w = some x → Dq K F v x) : ∀ {ws : List W} {vs : List V} {xs : List PyData}, RWs K g vs ws → ws.mapM f = some xs → DqAll K F vs xs
  | [], _, _, .nil, e => by
    rw [List.mapM_nil] at e
    cases e
    exact .nil
  | w :: ws, _, _, .cons h t, e => by
    rw [List.mapM_cons] at e
    cases q : f w with
    | none => rw [q] at e; cases e
    | some x =>
      cases q2 : ws.mapM f with
      | none => rw [q, q2] at e; cases e
      | some xs =>
        rw [q, q2] at e
        cases e
        exact .cons (ih _ _ _ h q) (mapM_all ih t q2)
theorem fz_ok {K : PySem.W.Frag} {g : Gh} {F2 H : Hp} {M : List MO} (hM : ∀ (n : Nat) (o : MO), M[n]? = some o → o.live = true → ∃ a, g.ph[n]? = some a ∧ F2 a = H a ∧ MOk K g H a o) (hs : Sub g.F F2) :
    ∀ (j : Nat) (w : W) (v : V) (x : PyData), RW K g v w → fz j M w = some x → Dq K F2 v x
  | j, .d y, v, x, r, e => by
    have e' : y = x := by cases j <;> exact Option.some.inj e
    subst e'
    cases r with
    | d h => exact Dq.sub hs h
  | 0, .loc n, v, x, r, e => by cases e
  | 0, .tup n, v, x, r, e => by cases e
  | j, .scr n, v, x, r, e => by cases j <;> cases e
  | j, .exc n, v, x, r, e => by cases j <;> cases e
  | j, .kd n, v, x, r, e => by cases j <;> cases e
  | j, .clo _ n, v, x, r, e => by cases j <;> cases e
  | j, .fn n, v, x, r, e => by cases j <;> cases e
  | j + 1, .loc n, v, x, r, e => by
    cases r with
    | loc h =>
      rename_i a
      replace e : (match M[n]? with | some (.lst ds) => some (.list ds) | some (.lsw ws) => (ws.mapM (fz j M)).map .list | _ => Option.none) = some x := e
      cases q : M[n]? with
      | none => rw [q] at e; cases e
      | some o =>
        cases o with
        | dead => rw [q] at e; cases e
        | obj _ _ => rw [q] at e; cases e
        | dct _ => rw [q] at e; cases e
        | dctT _ => rw [q] at e; cases e
        | lst ds =>
          rw [q] at e
          cases e
          obtain ⟨b, e1, e2, xs, e3, e4⟩ := hM n _ q rfl
          rw [h] at e1
          cases e1
          exact .lst (e2.trans e3) (DqAll.sub hs e4)
        | lsw ws =>
          rw [q] at e
          obtain ⟨b, e1, e2, xs, e3, e4⟩ := hM n _ q rfl
          rw [h] at e1
          cases e1
          cases q2 : ws.mapM (fz j M) with
          | none => simp only [q2] at e; cases e
          | some ys =>
            simp only [q2] at e
            cases e
            exact .lst (e2.trans e3) (mapM_all (fun w v x => fz_ok hM hs j w v x) e4 q2)
  | j + 1, .tup ws, v, x, r, e => by
    cases r with
    | tup h t =>
      replace e : (ws.mapM (fz j M)).map .tuple = some x := e
      cases q2 : ws.mapM (fz j M) with
      | none => rw [q2] at e; cases e
      | some ys =>
        rw [q2] at e
        cases e
        exact .tup (TqT.sub hs h) (mapM_all (fun w v x => fz_ok hM hs j w v x) t q2)

theorem subM_len {M : List MO} : ∀ {ix : List Nat} {Mc : List MO}, subM M ix = some Mc → Mc.length = ix.length
  | [], _, e => by cases e; rfl
  | n :: ns, _, e => by
    unfold subM at e
    split at e
    · split at e
      · rename_i r q
        cases e
        simp only [List.length_cons, subM_len q]
      · cases e
    · cases e
theorem subM_at {M : List MO} : ∀ {ix : List Nat} {Mc : List MO} {i n : Nat}, subM M ix = some Mc → ix[i]? = some n → ∃ ds, M[n]? = some (.lst ds) ∧ Mc[i]? = some (.lst ds)
  | [], _, _, _, _, h => by simp at h
  | m :: ns, _, i, n, e, h => by
    unfold subM at e
    split at e
    · rename_i ds q1
      split at e
      · rename_i r q
        cases e
        cases i with
        | zero => simp at h; subst h; exact ⟨ds, q1, rfl⟩
        | succ i =>
          obtain ⟨d2, h1, h2⟩ := subM_at (i := i) q (by simpa using h)
          exact ⟨d2, h1, by simpa using h2⟩
      · cases e
    · cases e
theorem putM_len : ∀ (M : List MO) (ix : List Nat) (os : List MO), (putM M ix os).length = M.length
  | M, [], _ => by unfold putM; rfl
  | M, _ :: _, [] => by unfold putM; rfl
  | M, n :: ns, o :: os => by unfold putM; rw [putM_len, List.length_set]
theorem putM_out : ∀ {M : List MO} {ix : List Nat} {os : List MO} {n : Nat}, n ∉ ix → (putM M ix os)[n]? = M[n]?
  | M, [], _, _, _ => by unfold putM; rfl
  | M, _ :: _, [], _, _ => by unfold putM; rfl
  | M, m :: ns, o :: os, n, h => by
    unfold putM
    rw [putM_out (fun z => h (List.mem_cons_of_mem _ z)), List.getElem?_set_ne (fun z => h (by rw [z]; exact List.mem_cons_self))]
theorem putM_in : ∀ {M : List MO} {ix : List Nat} {os : List MO} {i n : Nat}, ix.Nodup → ix[i]? = some n → n < M.length → os.length = ix.length → (putM M ix os)[n]? = os[i]?
  | M, [], _, _, _, _, h, _, _ => by simp at h
  | M, _ :: _, [], _, _, _, _, _, h => by simp at h
  | M, m :: ns, o :: os, i, n, nd, h, hl, hz => by
    unfold putM
    rw [List.nodup_cons] at nd
    cases i with
    | zero =>
      simp at h
      subst h
      rw [putM_out nd.1, List.getElem?_set_self hl]
      rfl
    | succ i =>
      rw [putM_in (i := i) nd.2 (by simpa using h) (by rw [List.length_set]; exact hl) (by simpa using hz)]
      rfl
theorem relo_ok {K : PySem.W.Frag} {g gc : Gh} (hF : gc.F = g.F) : ∀ {ws : List W} {vs : List V} (k : Nat), RWs K g vs ws → ws.all W.plain = true → (∀ j n, (locs ws)[j]? = some n → gc.ph[k + j]? = g.ph[n]?) → RWs K gc vs (relo k ws)
  | [], _, _, .nil, _, _ => .nil
  | w :: ws, _, k, .cons h t, pl, hj => by
    simp only [List.all_cons, Bool.and_eq_true] at pl
    cases w with
    | d x =>
      refine .cons ?_ (relo_ok hF k t pl.2 hj)
      cases h with
      | d q => exact .d (by rw [hF]; exact q)
    | clo i x => exact absurd pl.1 (by unfold W.plain; exact Bool.false_ne_true)
    | fn x =>
      refine .cons ?_ (relo_ok hF k t pl.2 hj)
      cases h with
      | fn q => exact .fn q
    | kd x =>
      refine .cons ?_ (relo_ok hF k t pl.2 hj)
      cases h with
      | kd h1 h2 h3 => exact .kd (by rw [hF]; exact h1) h2 (by rw [hF]; exact h3)
    | exc x =>
      refine .cons ?_ (relo_ok hF k t pl.2 hj)
      cases h with
      | exc h1 h2 h3 => exact .exc h1 (by rw [hF]; exact h2) (by rw [hF]; exact h3)
    | scr x =>
      refine .cons ?_ (relo_ok hF k t pl.2 hj)
      cases h with
      | scr q => exact .scr (by rw [hF]; exact q)
    | tup x => exact absurd pl.1 (by unfold W.plain; exact Bool.false_ne_true)
    | loc n =>
      refine .cons ?_ (relo_ok hF (k + 1) t pl.2 fun j m e => ?_)
      · cases h with
        | loc q =>
          have z := hj 0 n rfl
          rw [Nat.add_zero] at z
          exact .loc (z.trans q)
      · have z := hj (j + 1) m (by simpa [locs] using e)
        rw [← z, Nat.add_assoc, Nat.add_comm 1 j]
theorem dataOnly_at : ∀ {M : List MO} {i : Nat} {o : MO}, dataOnly M = true → M[i]? = some o → ∃ ds, o = .lst ds
  | [], _, _, _, h => by simp at h
  | .lst ds :: r, 0, _, _, h => by simp at h; exact ⟨ds, h.symm⟩
  | .lst ds :: r, i + 1, _, d, h => dataOnly_at (M := r) (i := i) (by simpa [dataOnly] using d) (by simpa using h)
  | .dead :: _, _, _, d, _ => by simp [dataOnly] at d
  | .lsw _ :: _, _, _, d, _ => by simp [dataOnly] at d
  | .obj _ _ :: _, _, _, d, _ => by simp [dataOnly] at d
  | .dct _ :: _, _, _, d, _ => by simp [dataOnly] at d
  | .dctT _ :: _, _, _, d, _ => by simp [dataOnly] at d

/-- the callee's ghost -/
def ghC (g : Gh) (ix : List Nat) : Gh := ⟨ix.map fun n => g.ph.getD n 0, g.F⟩
section
variable {K : PySem.W.Frag} {g : Gh} {M Mc : List MO} {H : Hp} {ix : List Nat}
theorem ghC_at (g : Gh) {ix : List Nat} {i n : Nat} (h : ix[i]? = some n) : (ghC g ix).ph[i]? = some (g.ph.getD n 0) := by
  show (ix.map fun n => g.ph.getD n 0)[i]? = _
  rw [List.getElem?_map, h]
  rfl
theorem ph_at (R : Rel K g M H) (e : subM M ix = some Mc) {i n : Nat} (h : ix[i]? = some n) : ∃ a, g.ph[n]? = some a ∧ g.ph.getD n 0 = a ∧ (ghC g ix).ph[i]? = some a ∧ g.F a = none := by
  obtain ⟨ds, h1, _⟩ := subM_at e h
  obtain ⟨a, e1, e2, _⟩ := R.at_ n _ h1 rfl
  have z : g.ph.getD n 0 = a := by rw [List.getD_eq_getElem?_getD, e1]; rfl
  exact ⟨a, e1, z, by rw [ghC_at g h, z], e2⟩
theorem mem_ghC (R : Rel K g M H) (e : subM M ix = some Mc) {a : Addr} (h : a ∈ (ghC g ix).ph) : ∃ (i n : Nat), ix[i]? = some n ∧ g.ph[n]? = some a := by
  obtain ⟨i, hi⟩ := List.mem_iff_getElem?.mp h
  have hl : i < ix.length := by
    have := (List.getElem?_eq_some_iff.mp hi).1
    show i < ix.length
    simpa [ghC] using this
  have hn : ix[i]? = some ix[i] := List.getElem?_eq_getElem hl
  obtain ⟨b, e1, _, e3, _⟩ := ph_at R e hn
  rw [hi] at e3
  cases e3
  exact ⟨i, _, hn, e1⟩
theorem rel_ghC (R : Rel K g M H) (e : subM M ix = some Mc) (nd : ix.Nodup) : Rel K (ghC g ix) Mc H := by
  refine ⟨R.sub, ?_, fun i o ho lv => ?_, fun i j a h1 h2 => ?_, fun a hm => let ⟨i, n, _, q⟩ := mem_ghC R e hm; R.tr a (List.mem_of_getElem? q), R.tab.go (Sub.refl _) (fun P ps e _ => e) fun P hm => let ⟨i, n, _, q⟩ := mem_ghC R e hm; .inl (List.mem_of_getElem? q)⟩
  · show (ix.map _).length = _
    rw [List.length_map, subM_len e]
  · have hl : i < ix.length := by rw [← subM_len e]; exact (List.getElem?_eq_some_iff.mp ho).1
    have hn : ix[i]? = some ix[i] := List.getElem?_eq_getElem hl
    obtain ⟨ds, q1, q2⟩ := subM_at e hn
    rw [q2] at ho
    cases ho
    obtain ⟨a, e1, e2, e3, e4⟩ := ph_at R e hn
    obtain ⟨b, f1, f2, xs, f3, f4⟩ := R.at_ _ _ q1 rfl
    rw [e1] at f1
    cases f1
    exact ⟨a, e3, e4, xs, f3, f4⟩
  · have hi : i < ix.length := by
      have := (List.getElem?_eq_some_iff.mp h1).1
      simpa [ghC] using this
    have hj : j < ix.length := by
      have := (List.getElem?_eq_some_iff.mp h2).1
      simpa [ghC] using this
    obtain ⟨b, e1, _, e3, _⟩ := ph_at R e (List.getElem?_eq_getElem hi)
    obtain ⟨c, f1, _, f3, _⟩ := ph_at R e (List.getElem?_eq_getElem hj)
    rw [h1] at e3
    cases e3
    rw [h2] at f3
    cases f3
    exact (List.getElem_inj nd).mp (R.inj _ _ _ e1 f1)
/-- what comes back: the caller's store, the callee's new things frozen -/
theorem back_ok (R : Rel K g M H) (e : subM M ix = some Mc) (nd : ix.Nodup) {g' : Gh} {M' : List MO} {H' : Hp} (R' : Rel K g' M' H') (E' : Ext (ghC g ix) H g' H') (hd : dataOnly (M'.take ix.length) = true) :
    ∃ F2 : Hp, Rel K ⟨g.ph, F2⟩ (putM M ix (M'.take ix.length)) H' ∧ Ext g H ⟨g.ph, F2⟩ H' ∧ Sub g'.F F2 ∧
      ∀ (n : Nat) (o : MO), (List.replicate ix.length MO.dead ++ M'.drop ix.length)[n]? = some o → o.live = true → ∃ a, g'.ph[n]? = some a ∧ F2 a = H' a ∧ MOk K g' H' a o := by
  classical
  have hk : ∀ i n, ix[i]? = some n → ∃ a, g.ph[n]? = some a ∧ g'.ph[i]? = some a ∧ g.F a = none := fun i n h => by
    obtain ⟨a, e1, _, e3, e4⟩ := ph_at R e h
    exact ⟨a, e1, E'.gr.ph _ _ e3, e4⟩
  have hlen : ix.length ≤ M'.length := by
    rcases Nat.lt_or_ge M'.length ix.length with h | h
    · have hn : ix[M'.length]? = some ix[M'.length] := List.getElem?_eq_getElem h
      obtain ⟨a, _, e2, _⟩ := hk _ _ hn
      have := (List.getElem?_eq_some_iff.mp e2).1
      rw [R'.len] at this
      exact absurd this (Nat.lt_irrefl _)
    · exact h
  have notNew : ∀ a i n, ix[i]? = some n → g.ph[n]? = some a → a ∉ g'.ph.drop ix.length := fun a i n h1 h2 hm => by
    obtain ⟨b, f1, f2, _⟩ := hk i n h1
    rw [h2] at f1
    cases f1
    obtain ⟨j, hj⟩ := List.mem_iff_getElem?.mp hm
    rw [List.getElem?_drop] at hj
    have := R'.inj _ _ _ f2 hj
    have hi := (List.getElem?_eq_some_iff.mp h1).1
    omega
  have old : ∀ a, a ∈ g'.ph → a ∈ (ghC g ix).ph ∨ H a = none := E'.newph
  let F2 : Hp := fun b => if b ∈ g'.ph.drop ix.length then H' b else g'.F b
  have s2 : Sub g'.F F2 := fun b o q => by
    show (if b ∈ g'.ph.drop ix.length then H' b else g'.F b) = some o
    by_cases h : b ∈ g'.ph.drop ix.length
    · rw [if_pos h]; exact R'.sub _ _ q
    · rw [if_neg h]; exact q
  have hF2 : ∀ b, b ∉ g'.ph.drop ix.length → F2 b = g'.F b := fun b h => if_neg h
  have liveOut : ∀ n a, n ∉ ix → g.ph[n]? = some a → a ∉ (ghC g ix).ph := fun n a hn h1 hm => by
    obtain ⟨i, m, h2, h3⟩ := mem_ghC R e hm
    have := R.inj _ _ _ h1 h3
    subst this
    exact hn (List.mem_of_getElem? h2)
  refine ⟨F2, ⟨fun b o q => ?_, ?_, fun n o ho lv => ?_, R.inj, fun a hm => ?_, fun P hP => ?_⟩, ⟨⟨fun _ _ z => z, E'.gr.F.trans s2⟩, fun a o q hm => (E'.keep a o q fun z => ?_).sub2 s2, fun a h1 h2 => ?_, fun a h => .inl h⟩, s2, fun n o ho lv => ?_⟩
  · have q' : (if b ∈ g'.ph.drop ix.length then H' b else g'.F b) = some o := q
    by_cases h : b ∈ g'.ph.drop ix.length
    · rw [if_pos h] at q'; exact q'
    · rw [if_neg h] at q'; exact R'.sub _ _ q'
  · show g.ph.length = _
    rw [putM_len]; exact R.len
  · by_cases hn : n ∈ ix
    · obtain ⟨i, hi⟩ := List.mem_iff_getElem?.mp hn
      obtain ⟨a, e1, e2, e3⟩ := hk i n hi
      have hnl : n < M.length := by rw [← R.len]; exact (List.getElem?_eq_some_iff.mp e1).1
      rw [putM_in nd hi hnl (by rw [List.length_take]; omega)] at ho
      obtain ⟨ds, rfl⟩ := dataOnly_at hd ho
      rw [List.getElem?_take] at ho
      split at ho
      · obtain ⟨b, f1, f2, xs, f3, f4⟩ := R'.at_ i _ ho rfl
        rw [e2] at f1
        cases f1
        exact ⟨a, e1, by show F2 a = none; rw [hF2 a (notNew a i n hi e1)]; exact f2, xs, f3, DqAll.sub s2 f4⟩
      · cases ho
    · rw [putM_out hn] at ho
      obtain ⟨a, e1, e2, e3⟩ := R.at_ n o ho lv
      have hna := liveOut n a hn e1
      obtain ⟨u, hu⟩ := e3.there lv
      have n1 : a ∉ g'.ph.drop ix.length := fun hm => by
        rcases old a (List.mem_of_mem_drop hm) with z | z
        · exact hna z
        · rw [hu] at z; cases z
      refine ⟨a, e1, ?_, MOk.grK (g := g) (g' := ⟨g.ph, F2⟩) ⟨fun _ _ z => z, E'.gr.F.trans s2⟩ (fun o' nt q => (E'.keep _ _ q hna).of nt) e3⟩
      show F2 a = none
      rw [hF2 a n1]
      cases q : g'.F a with
      | none => rfl
      | some y =>
        rcases E'.new a e2 (by rw [q]; simp) with z | z
        · rw [hu] at z; cases z
        · exact absurd z hna
  · obtain ⟨u, hu⟩ := R.tr a hm
    by_cases hc : a ∈ (ghC g ix).ph
    · obtain ⟨i, n, h1, h2⟩ := mem_ghC R e hc
      obtain ⟨b, f1, f2, _⟩ := hk i n h1
      rw [h2] at f1
      cases f1
      exact R'.tr a (List.mem_of_getElem? f2)
    · exact (E'.keep a u hu hc).ex
  · obtain ⟨ps, h1, h2, h4, h3⟩ := R'.tab P hP
    obtain ⟨ps0, k1, k2, k4, k3⟩ := R.tab P hP
    exact ⟨ps, h1, k2, by show F2 P = none; rw [hF2 P (fun z => h2 (List.mem_of_mem_drop z))]; exact h4, h3.sub s2⟩
  · obtain ⟨i, n, _, h2⟩ := mem_ghC R e z
    exact hm (List.mem_of_getElem? h2)
  · have h2' : (if a ∈ g'.ph.drop ix.length then H' a else g'.F a) ≠ none := h2
    have fin : a ∈ (ghC g ix).ph ∨ H a = none → H a = none ∨ a ∈ g.ph := fun z => by
      rcases z with z | z
      · obtain ⟨i, n, _, q⟩ := mem_ghC R e z
        exact .inr (List.mem_of_getElem? q)
      · exact .inl z
    by_cases h : a ∈ g'.ph.drop ix.length
    · exact fin (old a (List.mem_of_mem_drop h))
    · rw [if_neg h] at h2'
      exact fin ((E'.new a h1 h2').symm)
  · by_cases hn : n < ix.length
    · rw [List.getElem?_append_left (by rw [List.length_replicate]; exact hn), List.getElem?_replicate] at ho
      rw [if_pos hn] at ho
      cases ho
      cases lv
    · rw [List.getElem?_append_right (by rw [List.length_replicate]; omega), List.length_replicate, List.getElem?_drop] at ho
      have hz : ix.length + (n - ix.length) = n := by omega
      rw [hz] at ho
      obtain ⟨a, e1, e2, e3⟩ := R'.at_ n o ho lv
      refine ⟨a, e1, ?_, e3⟩
      show (if a ∈ g'.ph.drop ix.length then H' a else g'.F a) = H' a
      rw [if_pos]
      refine List.mem_iff_getElem?.mpr ⟨n - ix.length, ?_⟩
      rw [List.getElem?_drop, hz]
      exact e1
end
theorem me_callF {X : Cx} {k : Nat} {xw : WX} {x : Str} {ps : List Str} {mf : MF} (C : Ctx X k xw) (c : Cal X.prog X.w X.K X.mg X.base k x ps mf) {e : Expr} {es : List Expr} {fs : List EF} {p pos : Pos} (ha : MA X xw (e :: es) fs) (hg : Gl X x := by rfl) (hdb : (x == ("__debug__" : Str)) = false := by decide)
    (he : starEach (e :: es) X.env = (false, eval e X.env) :: starEach es X.env := by rfl) (hpl : (backTo pos (starEach es X.env)).any (·.1) = false := by rfl) :
    ME X xw (.Call (.Name x p) (e :: es) [] pos) (sCallF mf ps.length fs) :=
  PE.imp (pe_callM C c ha hg hdb he hpl) fun σ H Q h => tG_mono (tG_bind (R2 := RWs X.K) h) fun vs H1 ⟨g, ρ, M, ws, R, S, q, b⟩ => by
    unfold callF at b
    split at b
    · rename_i hc
      obtain ⟨hl, hpl, nd⟩ := hc
      cases hs : subM M (locs ws) with
      | none => rw [hs] at b; exact b.elim
      | some Mc =>
        rw [hs] at b
        refine ⟨q.length.trans hl, ghC g (locs ws), relo 0 ws, Mc, rel_ghC R hs nd, relo_ok (g := g) (gc := ghC g (locs ws)) rfl 0 q hpl fun j n e => ?_, ?_⟩
        · obtain ⟨a, e1, _, e3, _⟩ := ph_at R hs e
          rw [Nat.zero_add, e1]; exact e3
        · replace b : Bhd (tx X) (fun c d H => xw c d σ H) (RW X.K) Q (freeze M (locs ws) (mf (relo 0 ws) Mc)) g H1 := b
          cases r : mf (relo 0 ws) Mc with
          | stuck => rw [r] at b; exact b
          | err x M' =>
            rw [r] at b
            unfold freeze at b
            simp only at b
            split at b
            · rename_i hd
              intro cls d g' H' R' E' ix
              obtain ⟨F2, r2, e2, s2, _⟩ := back_ok R hs nd R' E' hd
              exact b cls d _ H' r2 e2 (ix.sub s2)
            · exact b.elim
          | ok w M' =>
            rw [r] at b
            unfold freeze at b
            simp only at b
            split at b
            · rename_i hd
              cases hz : fz 3 (List.replicate (locs ws).length MO.dead ++ M'.drop (locs ws).length) w with
              | none => rw [hz] at b; exact b.elim
              | some x =>
                rw [hz] at b
                intro v g' H' R' E' rw_
                obtain ⟨F2, r2, e2, s2, hM⟩ := back_ok R hs nd R' E' hd
                exact b v _ H' r2 e2 (.d (fz_ok hM s2 3 w v x rw_ hz))
            · exact b.elim
    · exact b.elim
end Y
namespace Y
open PySem PySem.Spec PyProof.Rows L2

/-! ### a def by its body -/
def start0 (n : Nat) (ws : List W) : Rho := ws.map some ++ List.replicate (n - ws.length) none
def fin : SR → Res W
  | .ret w M => .ok w M
  | .nx _ M => .ok (.d .none) M
  | .er e _ M => .err e M
  | _ => .stuck
def defF (n : Nat) (sf : SF) : MF := fun ws M => fin (sf (start0 n ws) M)
theorem rs_start {K : PySem.W.Frag} {g : Gh} {N : List Str} {vs : List V} {ws : List W} (r : RWs K g vs ws) : RS K g (L2.start N vs) (start0 N.length ws) := by
  have hl := r.length
  refine ⟨?_, fun i w e => ?_⟩
  · unfold L2.start start0
    rw [List.length_append, List.length_append, List.length_map, List.length_map, List.length_replicate, List.length_replicate, hl]
  · unfold start0 at e
    by_cases hi : i < ws.length
    · rw [List.getElem?_append_left (by rw [List.length_map]; exact hi), List.getElem?_map, List.getElem?_eq_getElem hi] at e
      cases e
      obtain ⟨v, e1, e2⟩ := r.get (i := i) (List.getElem?_eq_getElem hi)
      refine ⟨v, ?_, e2⟩
      unfold L2.start
      rw [List.getElem?_append_left (by rw [List.length_map]; omega), List.getElem?_map, e1]
      rfl
    · rw [List.getElem?_append_right (by rw [List.length_map]; omega), List.getElem?_replicate] at e
      split at e <;> cases e
theorem guards_deeper {A : Around} {env : Env} (h : A.guards = some []) : (A.deeper env).guards = some [] := by
  first
    | exact h
    | simpa [Around.deeper] using h
theorem ctx_def {P : Program} {w : World} {K : PySem.W.Frag} {mg : Str → Option Value} {base : Heap} {N ps : List Str} {qual : Str} {scope : Scope} {f : Addr} {cd : Value} {A : Around} {outer : List Env} {s : Shared} {H : Hp} {E : XK} {k : Nat}
    (S : FnScope N ps scope) (hr : Room k (A.deeper (envOfC qual scope s.heap.objs.size f cd))) (hg : A.guards = some []) : Ctx (cxOf (L2.CX P w) P w K mg base N qual scope f cd A outer s H E) k (fun c d _ H => E c d H) :=
  ⟨rfl, S.nd, takes_of rfl rfl rfl rfl, passes_of rfl, hr, guards_deeper hg⟩
/-- the rule: the body's mirror for every context -/
theorem fnM_of {P : Program} {w : World} {K : PySem.W.Frag} {mg : Str → Option Value} {base : Heap} {x qual : Str} {st : Stmt} {f : Addr} {fd : FuncData} {N ps : List Str} {k : Nat} {sf : SF} (F : Fun K x qual st f fd) (S : FnScope N ps (defScope st))
    (hbody : ∀ (cdv : Value) (A : Around) (outer : List Env) (s : Shared) (H : Hp) (E : XK), Ctx (cxOf (L2.CX P w) P w K mg base N qual (defScope st) f cdv A outer s H E) k (fun c d _ H => E c d H) →
      MSs (cxOf (L2.CX P w) P w K mg base N qual (defScope st) f cdv A outer s H E) (fun c d _ H => E c d H) (defBody st) sf) : FnM P w K mg base (k + 1) f fd ps (defF N.length sf) := by
  obtain ⟨oc, od, kV, doc, pm, an, cdv, ct, osl, rfl, lk, hcd⟩ := F.ex
  refine ⟨fun A outer s H args us vs Q E hr hgd e0 hb r hl hsp => ?_⟩
  have KX : K.In s.heap := e0.mod.kin.keeps fun b o e => (e0.bs b o e).1
  have lim : s.heap.NoLimit := e0.mod.nolimit.keeps fun b o e => (e0.bs b o e).1
  have hkind : ∀ y ∈ ps.zip us, (defScope st).names.lookup y.1 = some .local ∨ ((defScope st).names.lookup y.1 = some .cell ∧ ((cellsFrom (s.heap.objs.size + 1) (defScope st).names []).lookup y.1).isSome = true) := fun ⟨n, v⟩ hy => by
    rcases S.par n (List.of_mem_zip hy).1 with q | q
    · exact .inl q
    · exact .inr ⟨q, PySem.W.cellsFrom_some _ _ _ (.inl q)⟩
  refine codeAny_call_function hr.depth (KX _ _ lk) rfl S.co S.gen rfl (PySem.W.codeRec_of KX hcd) (hb _ _ _ _ ?_)
  refine wpAny_newFunctionEnv_cells S.kind hkind fun env he s1 x => ?_
  subst he
  refine ⟨lim.keeps x.toInCall.keep, codeAny_func ?_⟩
  have C : Ctx (cxOf (L2.CX P w) P w K mg base N qual (defScope st) f cdv A outer s H E) k (fun c d _ H => E c d H) := ctx_def S (hr.deeper _) hgd
  have ht := hbody cdv A outer s H E C
  have I : Inv (cxOf (L2.CX P w) P w K mg base N qual (defScope st) f cdv A outer s H E) [] (L2.start N vs) H s1 := inv_start S hr.hd e0 hl r x
  have hq : tS ⟨K, mg⟩ (fun c d _ H => E c d H) sf { nx := fun _ H' => Q .non H', rt := Q } (L2.start N vs) H := by
    obtain ⟨g, ws, M, R, rw_, b⟩ := hsp
    refine ⟨g, start0 N.length ws, M, R, rs_start rw_, ?_⟩
    unfold defF at b
    cases e : sf (start0 N.length ws) M with
    | nx ρ M' => rw [e] at b; exact fun σ g' H' r' e' _ => b .non g' H' r' e' (.d .non)
    | ret v M' => rw [e] at b; exact b
    | bk ρ M' => rw [e] at b; exact b.elim
    | ct ρ M' => rw [e] at b; exact b.elim
    | stuck => rw [e] at b; exact b.elim
    | er x ρ M' => rw [e] at b; exact fun c d σ g' H' r' e' _ => b c d g' H' r' e'
  refine wpAny_mono (ht.run [] s1 (L2.start N vs) H _ I hq) (fun fl s' hs => ?_) fun e s' hs => hs
  have fin : ∀ {σ' : L2.St} {H' : Hp} {v : V} {u : Value}, Inv (cxOf (L2.CX P w) P w K mg base N qual (defScope st) f cdv A outer s H E) [] σ' H' s' → RelV v u → Q v H' → CE outer P w H s Q u s' :=
    fun {σ' H' v u} J rv q => ⟨v, H', J.os, J.bare, J.base, J.hok, rv, q⟩
  cases fl with
  | ret u =>
    obtain ⟨v, σ', H', J, rv, q⟩ := hs
    exact fin J rv q
  | next =>
    obtain ⟨σ', H', J, q⟩ := hs
    exact fin (v := V.non) (u := Value.none) J rfl q
  | brk =>
    obtain ⟨_, _, _, q⟩ := hs
    exact False.elim q
  | cont =>
    obtain ⟨_, _, _, q⟩ := hs
    exact False.elim q
/-- what the top says of a def -/
structure Txt1 (K : PySem.W.Frag) (mg : Str → Option Value) (x : Str) (st : Stmt) (ps : List Str) : Prop where
  ex : ∃ (f : Addr) (fd : FuncData), Fun K x x st f fd ∧ mg x = some (.ref f) ∧ Binds K fd ps []
theorem cal_of {P : Program} {w : World} {K : PySem.W.Frag} {mg : Str → Option Value} {base : Heap} {x : Str} {st : Stmt} {N ps : List Str} {k : Nat} {sf : SF} (t : Txt1 K mg x st ps) (S : FnScope N ps (defScope st))
    (hbody : ∀ (f : Addr) (cdv : Value) (A : Around) (outer : List Env) (s : Shared) (H : Hp) (E : XK), Ctx (cxOf (L2.CX P w) P w K mg base N x (defScope st) f cdv A outer s H E) k (fun c d _ H => E c d H) →
      MSs (cxOf (L2.CX P w) P w K mg base N x (defScope st) f cdv A outer s H E) (fun c d _ H => E c d H) (defBody st) sf) : Cal P w K mg base (k + 1) x ps (defF N.length sf) :=
  let ⟨f, fd, F, m, b⟩ := t.ex
  ⟨f, fd, fnM_of F S (hbody f), m, F.kp, b⟩
end Y
namespace Y
open PySem PySem.Spec L2

/-! ### what is walked -/
structure ItOk (K : PySem.W.Frag) (F0 : Hp) (J : It) (ds : List PyData) : Prop where
  go : ∀ (i : Nat) (H : Hp), i < ds.length → Sub F0 H → J.go i H
  stop : ∀ (H : Hp), Sub F0 H → J.stop ds.length H
  yld : ∀ (i : Nat) (d : PyData) (F H : Hp) (x : V) (H' : Hp), ds[i]? = some d → Sub F0 F → Sub F H → J.yld i H x H' → ∃ F', Lay F H F' H' ∧ Dq K F' x d
theorem ItOk.sub {K : PySem.W.Frag} {F0 F1 : Hp} {J : It} {ds : List PyData} (h : ItOk K F0 J ds) (s : Sub F0 F1) : ItOk K F1 J ds :=
  ⟨fun i H l q => h.go i H l (s.trans q), fun H q => h.stop H (s.trans q), fun i d F H x H' e q => h.yld i d F H x H' e (s.trans q)⟩
abbrev IF := Rho → List MO → Res (List PyData)
abbrev tI (T : Tx) (xw : WX) (f : IF) : TI := tG T xw (fun g (J : It) ds => ItOk T.K g.F J ds) f
abbrev MI (X : Cx) (xw : WX) (tg iter : Expr) (f : IF) : Prop := PI X tg iter (tI (tx X) xw f)
theorem PI.imp {X : Cx} {tg iter : Expr} {t t' : TI} (h : PI X tg iter t) (k : ∀ σ H Q, t' σ H Q → t σ H Q) : PI X tg iter t' := ⟨fun pins s σ H R I q => h.run pins s σ H R I (k σ H R q)⟩

/-! ### targets -/
def Off (vs : List Nat) (σ σ' : L2.St) : Prop := σ'.length = σ.length ∧ ∀ j : Nat, j ∉ vs → σ'[j]? = σ[j]?
theorem Off.trans {a b : List Nat} {σ σ' σ'' : L2.St} (h : Off a σ σ') (k : Off b σ' σ'') : Off (a ++ b) σ σ'' :=
  ⟨k.1.trans h.1, fun j hj => (k.2 j fun z => hj (List.mem_append_right _ z)).trans (h.2 j fun z => hj (List.mem_append_left _ z))⟩
theorem wipe_at (σ : L2.St) (j : Nat) : ∀ vs : List Nat, (wipe σ vs)[j]? = if j ∈ vs then (if j < σ.length then some none else none) else σ[j]?
  | [] => by simp [wipe]
  | v :: vs => by
    unfold wipe
    by_cases hj : v = j
    · subst hj
      by_cases hl : v < σ.length
      · rw [List.getElem?_set_self (by rw [wipe_length]; exact hl)]
        simp [hl]
      · rw [List.getElem?_eq_none (by rw [List.length_set, wipe_length]; omega)]
        simp [hl]
    · rw [List.getElem?_set_ne hj, wipe_at σ j vs]
      have : j ≠ v := fun e => hj e.symm
      simp [this]
theorem wipe_off {vs ws : List Nat} {σ σ' : L2.St} (h : Off vs (wipe σ ws) σ') (s : ∀ v ∈ vs, v ∈ ws) : wipe σ' ws = wipe σ ws := by
  apply List.ext_getElem?
  intro j
  have hl : σ'.length = σ.length := by rw [h.1, wipe_length]
  rw [wipe_at, wipe_at, hl]
  by_cases hj : j ∈ ws
  · rw [if_pos hj, if_pos hj]
  · rw [if_neg hj, if_neg hj, h.2 j fun z => hj (s j z), wipe_at, if_neg hj]
abbrev GF := W → Rho → List MO → Option (Rho × List MO)
def tGt (T : Tx) (vs : List Nat) (gt : GF) : TG := fun v σ H Q => ∃ (g : Gh) (ρ : Rho) (M : List MO) (w : W), Rel T.K g M H ∧ RS T.K g σ ρ ∧ RW T.K g v w ∧
  ∃ ρ' M', gt w ρ M = some (ρ', M') ∧ ∀ σ' g' H', Rel T.K g' M' H' → Ext g H g' H' → RS T.K g' σ' ρ' → Off vs σ σ' → Q σ' H'
abbrev MG (X : Cx) (tg : Expr) (vs : List Nat) (gt : GF) : Prop := PG X tg (tGt (tx X) vs gt)
theorem PG.imp {X : Cx} {tg : Expr} {t t' : TG} (h : PG X tg t) (k : ∀ v σ H Q, t' v σ H Q → t v σ H Q) : PG X tg t' := ⟨fun pins s σ H v u Q I r q => h.run pins s σ H v u Q I r (k v σ H Q q)⟩
theorem PGs.imp {X : Cx} {tg : List Expr} {t t' : TGs} (h : PGs X tg t) (k : ∀ v σ H Q, t' v σ H Q → t v σ H Q) : PGs X tg t' := ⟨fun pins s σ H v u Q I r q => h.run pins s σ H v u Q I r (k v σ H Q q)⟩
def gN (i : Nat) : GF := fun w ρ M => some (ρ.set i (some w), M)
theorem mg_name {X : Cx} {x : Str} {pos : Pos} (i : Nat) (hN : X.N.Nodup) (hi : X.N[i]? = some x := by rfl) (hx : Loc X.env.scope x := by first | exact Or.inl rfl | exact Or.inr rfl) (hf : X.fn x = true ∨ X.env.scope.names.lookup x = some .local := by first | exact .inl rfl | exact .inr rfl) :
    MG X (.Name x pos) [i] (gN i) :=
  PG.imp (pg_name hN hi hx hf) fun v σ H Q ⟨g, ρ, M, w, R, S, r, ρ', M', e, k⟩ => by
    cases e
    exact k _ g H R (Ext.refl _ _) (S.set i r) ⟨by rw [List.length_set], fun j hj => by rw [List.getElem?_set_ne (fun z => hj (by simp [z]))]⟩
/-- several targets over data -/
def gs : List GF → List PyData → Rho → List MO → Option (Rho × List MO)
  | [], [], ρ, M => some (ρ, M)
  | t :: ts, d :: ds, ρ, M => match t (.d d) ρ M with
    | some (ρ', M') => gs ts ds ρ' M'
    | none => none
  | _, _, _, _ => none
def tGts (T : Tx) (us : List Nat) (ts : List GF) : TGs := fun v σ H Q => ∃ (g : Gh) (ρ : Rho) (M : List MO) (ds : List PyData), Rel T.K g M H ∧ RS T.K g σ ρ ∧ DqAll T.K g.F v ds ∧
  ∃ ρ' M', gs ts ds ρ M = some (ρ', M') ∧ ∀ σ' g' H', Rel T.K g' M' H' → Ext g H g' H' → RS T.K g' σ' ρ' → Off us σ σ' → Q σ' H'
abbrev MGs (X : Cx) (tg : List Expr) (vs : List Nat) (ts : List GF) : Prop := PGs X tg (tGts (tx X) vs ts)
theorem mgs_nil {X : Cx} : MGs X [] [] [] := PGs.imp pgs_nil fun v σ H Q ⟨g, ρ, M, ds, R, S, r, ρ', M', e, k⟩ => by
  cases ds with
  | nil =>
    cases r
    cases e
    exact ⟨rfl, k σ g H R (Ext.refl _ _) S ⟨rfl, fun _ _ => rfl⟩⟩
  | cons d ds => cases e
theorem mgs_cons {X : Cx} {e : Expr} {es : List Expr} {vs us : List Nat} {t : GF} {ts : List GF} (h1 : MG X e vs t) (h2 : MGs X es us ts) (hs : (assignEach (e :: es) X.env).map (·.2) = assign e X.env :: (assignEach es X.env).map (·.2) := by rfl) : MGs X (e :: es) (vs ++ us) (t :: ts) :=
  PGs.imp (pgs_cons h1 h2 hs) fun v σ H Q ⟨g, ρ, M, ds, R, S, r, ρ', M', e, k⟩ => by
    cases ds with
    | nil => cases e
    | cons d ds =>
      cases r with
      | cons rd rr =>
        rename_i u us'
        unfold gs at e
        cases q : t (.d d) ρ M with
        | none => rw [q] at e; cases e
        | some y =>
          obtain ⟨ρ1, M1⟩ := y
          rw [q] at e
          refine ⟨_, _, rfl, g, ρ, M, .d d, R, S, .d rd, ρ1, M1, q, fun σ1 g1 H1 R1 E1 S1 O1 => ?_⟩
          exact ⟨g1, ρ1, M1, ds, R1, S1, DqAll.sub E1.gr.F rr, ρ', M', e, fun σ2 g2 H2 R2 E2 S2 O2 => k σ2 g2 H2 R2 (E1.trans E2) S2 (O1.trans O2)⟩
def gT (ts : List GF) : GF := fun w ρ M => match w with
  | .d (.tuple ds) => gs ts ds ρ M
  | _ => none
theorem gs_len : ∀ {ts : List GF} {ds : List PyData} {ρ : Rho} {M : List MO} {y : Rho × List MO}, gs ts ds ρ M = some y → ds.length = ts.length
  | [], [], _, _, _, _ => rfl
  | [], _ :: _, _, _, _, e => by cases e
  | _ :: _, [], _, _, _, e => by cases e
  | t :: ts, d :: ds, ρ, M, y, e => by
    unfold gs at e
    split at e
    · rw [List.length_cons, List.length_cons, gs_len e]
    · cases e
theorem mg_tup {X : Cx} {es : List Expr} {k : Nat} {pos : Pos} {vs : List Nat} {ts : List GF} (hc : X.calm = true) (h : MGs X es vs ts) (hl : ts.length = es.length := by rfl) (hn : (assignEach es X.env).length = es.length := by rfl) (hst : (assignEach es X.env).findIdx? (·.1) = none := by rfl) :
    MG X (.Tuple es k pos) vs (gT ts) :=
  PG.imp (pg_tup (n := es.length) hc h hn hst) fun v σ H Q ⟨g, ρ, M, w, R, S, r, ρ', M', e, kk⟩ => by
    cases w with
    | loc n => cases e
    | tup n => cases e
    | scr n => cases e
    | exc n => cases e
    | kd n => cases e
    | clo _ n => cases e
    | fn n => cases e
    | d x =>
      cases x with
      | tuple ds =>
        cases r with
        | d r =>
          cases r with
          | tup hs ha =>
            refine ⟨_, _, rfl, TqT.up R.sub hs, ?_, g, ρ, M, ds, R, S, ha, ρ', M', e, kk⟩
            rw [ha.length, gs_len e, hl]
      | none => cases e
      | bool _ => cases e
      | int _ => cases e
      | str _ => cases e
      | list _ => cases e
      | dict _ => cases e

/-! ### for -/
def forL (gt : GF) (body : SF) : List PyData → SF
  | [], ρ, M => .nx ρ M
  | d :: ds, ρ, M => match gt (.d d) ρ M with
    | some (ρ1, M1) => match body ρ1 M1 with
      | .nx ρ2 M2 => forL gt body ds ρ2 M2
      | .ct ρ2 M2 => forL gt body ds ρ2 M2
      | .bk ρ2 M2 => .nx ρ2 M2
      | r => r
    | none => .stuck
def sFor (it : IF) (gt : GF) (body : SF) : SF := fun ρ M => match it ρ M with
  | .ok ds M1 => forL gt body ds ρ M1
  | .err e M1 => .er e ρ M1
  | .stuck => .stuck
theorem ms_for {X : Cx} {k : Nat} {xw : WX} {tg iter : Expr} {body : List Stmt} {fi : IF} {vs : List Nat} {gt : GF} {fb : SF} {pos : Pos} (C : Ctx X k xw) (hi : MI X xw tg iter fi) (hg : MG X tg vs gt) (hb : MSs X xw body fb)
    (hs : ∀ x, foldedSetIterable iter X.env x = pure x := by intro _; rfl) : MS X xw (.For tg iter body [] pos) (sFor fi gt fb) :=
  PS.imp (ps_for C.own C.calm hi hg hb hs) fun D σ H ⟨g0, ρ0, M0, R0, S0, b0⟩ => by
    refine ⟨g0, ρ0, M0, R0, S0, ?_⟩
    unfold sFor at b0
    cases ei : fi ρ0 M0 with
    | stuck => rw [ei] at b0; exact b0
    | err x M2 => rw [ei] at b0; exact fun c d g' H' r' e' q' => b0 c d σ g' H' r' e' (S0.gr e'.gr) q'
    | ok ds M2 =>
      rw [ei] at b0
      intro J g1 H1 R1 E1 hJ
      refine ⟨fun i m σ H => m = ds.length - i ∧ i ≤ ds.length ∧ ∃ g ρ M, Rel X.K g M H ∧ RS X.K g σ ρ ∧ Sub g1.F g.F ∧ BhdS (tx X) xw D (forL gt fb (ds.drop i) ρ M) g H,
        ⟨ds.length, rfl, Nat.zero_le _, g1, ρ0, M2, R1, S0.gr E1.gr, Sub.refl _, BhdS.later b0 E1⟩, ?_⟩
      rintro i m σ H ⟨rfl, hi, g, ρ, M, R, S, sF, b⟩
      by_cases hlt : i < ds.length
      · have hd : ds[i]? = some ds[i] := List.getElem?_eq_getElem hlt
        rw [List.drop_eq_getElem_cons hlt] at b
        unfold forL at b
        cases eg : gt (.d ds[i]) ρ M with
        | none => rw [eg] at b; exact b.elim
        | some y =>
          obtain ⟨ρ1, M1⟩ := y
          rw [eg] at b
          simp only at b
          refine .inr ⟨hJ.go i H hlt (sF.trans R.sub), fun σ' H' => ∃ g ρ M, Rel X.K g M H' ∧ RS X.K g σ' ρ ∧ Sub g1.F g.F ∧ BhdS (tx X) xw D (forL gt fb (ds.drop (i + 1)) ρ M) g H',
            fun σ' H' n => ⟨ds.length - (i + 1), by omega, rfl, hlt, n⟩, fun x H' hy => ?_⟩
          obtain ⟨F', L, dq⟩ := hJ.yld i _ g.F H x H' hd sF R.sub hy
          refine ⟨⟨g.ph, F'⟩, ρ, M, .d ds[i], L.rel R, S.gr L.ext.gr, .d dq, ρ1, M1, eg, fun σ2 g2 H2 R2 E2 S2 _ => ⟨g2, ρ1, M1, R2, S2, ?_⟩⟩
          have E3 := L.ext.trans E2
          cases eb : fb ρ1 M1 with
          | nx ρ2 M2 => rw [eb] at b; exact fun σ' g' H' r' e' s' => ⟨g', ρ2, M2, r', s', sF.trans (E3.trans e').gr.F, BhdS.later b (E3.trans e')⟩
          | ct ρ2 M2 => rw [eb] at b; exact fun σ' g' H' r' e' s' => ⟨g', ρ2, M2, r', s', sF.trans (E3.trans e').gr.F, BhdS.later b (E3.trans e')⟩
          | bk ρ2 M2 => rw [eb] at b; exact fun σ' g' H' r' e' s' => BhdS.later b E3 σ' g' H' r' e' s'
          | ret ρ2 M2 => rw [eb] at b; exact fun σ' g' H' r' e' s' => BhdS.later b E3 σ' g' H' r' e' s'
          | er x ρ2 M2 => rw [eb] at b; exact fun c d σ' g' H' r' e' s' => BhdS.later b E3 c d σ' g' H' r' e' s'
          | stuck => rw [eb] at b; exact b.elim
      · have hz : ds.drop i = [] := List.drop_of_length_le (by omega)
        rw [hz] at b
        exact .inl ⟨by rw [show i = ds.length by omega]; exact hJ.stop H (sF.trans R.sub), b σ g H R (Ext.refl _ _) S⟩

/-! ### comprehensions -/
def wip (ρ : Rho) : List Nat → Rho
  | [] => ρ
  | v :: vs => (wip ρ vs).set v none
theorem rs_wip {K : PySem.W.Frag} {g : Gh} {σ : L2.St} {ρ : Rho} (S : RS K g σ ρ) : ∀ vs : List Nat, RS K g (wipe σ vs) (wip ρ vs)
  | [] => S
  | v :: vs => (rs_wip S vs).unset v
def compL (gt : GF) (tt : TF) (te : EF) (ρ : Rho) : List PyData → List MO → Option (List PyData × List MO)
  | [], M => some ([], M)
  | d :: ds, M => match gt (.d d) ρ M with
    | some (ρ1, M1) => match tt ρ1 M1 with
      | .ok true M2 => match te ρ1 M2 with
        | .ok (.d x) M3 => match compL gt tt te ρ ds M3 with
          | some (xs, M4) => some (x :: xs, M4)
          | none => none
        | _ => none
      | .ok false M2 => compL gt tt te ρ ds M2
      | _ => none
    | none => none
def sLc (it : IF) (gt : GF) (tt : TF) (te : EF) (vs : List Nat) : EF := fun ρ M => (it ρ M).bind fun ds M1 => if ds.length ≤ sizeLine then match compL gt tt te (wip ρ vs) ds M1 with
    | some (xs, M2) => .ok (.d (.list xs)) M2
    | none => .stuck
  else .stuck
def sYes : TF := fun _ M => .ok true M
abbrev MTs (X : Cx) (ifs : List Expr) (f : TF) : Prop := PTs X ifs (tT (tx X) xw0 f)
theorem PTs.imp {X : Cx} {e : List Expr} {t t' : TT} (h : PTs X e t) (k : ∀ σ H Q, t' σ H Q → t σ H Q) : PTs X e t' := ⟨fun pins s σ H Q I q => h.run pins s σ H Q I (k σ H Q q)⟩
theorem mts_nil {X : Cx} : MTs X [] sYes := PTs.imp pts_nil fun σ H Q ⟨g, ρ, M, R, S, b⟩ => b true g H R (Ext.refl _ _) rfl
theorem mts_one {X : Cx} {c : Expr} {f : TF} (h : MT X xw0 c f) : MTs X [c] f := pts_one h
theorem Rel.updD {K : PySem.W.Frag} {g : Gh} {M : List MO} {H : Hp} {D : Addr} {o : HO} (R : Rel K g M H) (h1 : g.F D = none) (h2 : D ∉ g.ph) (h3 : ∀ ps, H D ≠ some (.tbl ps)) : Rel K g M (upd H D o) := by
  have ne : ∀ a, a ∈ g.ph → a ≠ D := fun a hm z => h2 (by rw [← z]; exact hm)
  refine ⟨fun a u e => ?_, R.len, fun n u e l => ?_, R.inj, fun a hm => ?_, R.tab.upd h3⟩
  · rw [upd_ne (ne_of_none e h1)]; exact R.sub _ _ e
  · obtain ⟨a, e1, e2, e3⟩ := R.at_ n u e l
    refine ⟨a, e1, e2, MOk.gr (Gr.refl g) (fun o' q => ?_) e3⟩
    rw [upd_ne (ne a (List.mem_of_getElem? e1))]
    exact q
  · obtain ⟨u, q⟩ := R.tr a hm
    exact ⟨u, by rw [upd_ne (ne a hm)]; exact q⟩
theorem Ext.updD {g g1 : Gh} {H H1 : Hp} {D : Addr} {o : HO} (E : Ext g1 H1 g H) (h : H1 D = none) : Ext g1 H1 g (upd H D o) :=
  ⟨E.gr, fun a u e n => (E.keep a u e n).upd (ne_of_none e h), E.new, E.newph⟩
theorem Ext.outD {g g' : Gh} {H H' : Hp} {D : Addr} {o : HO} (E : Ext g H g' H') (hD : H D = some o) (h1 : g.F D = none) (h2 : D ∉ g.ph) (nt : ∀ ps, o ≠ .tbl ps := by intro _ z; cases z) : H' D = some o ∧ g'.F D = none ∧ D ∉ g'.ph := by
  refine ⟨(E.keep D o hD h2).of nt, ?_, fun z => ?_⟩
  · cases q : g'.F D with
    | none => rfl
    | some u =>
      rcases E.new D h1 (by rw [q]; simp) with z | z
      · rw [hD] at z; cases z
      · exact absurd z h2
  · rcases E.newph D z with y | y
    · exact h2 y
    · rw [hD] at y; cases y
theorem lc_core {T : Tx} {xq : Value → Option Addr → Hp → Prop} {gt : GF} {tt : TF} {te : EF} {vs us : List Nat} (hus : ∀ v ∈ us, v ∈ vs) {σ : L2.St} {H1 : Hp} {Q : VK} {J : It} {g1 : Gh} {ρ : Rho} {M1 : List MO} {ds : List PyData} (R1 : Rel T.K g1 M1 H1) (S1 : RS T.K g1 σ ρ) (hJ : ItOk T.K g1.F J ds)
    (b : Bhd T xq (RW T.K) Q (if ds.length ≤ sizeLine then match compL gt tt te (wip ρ vs) ds M1 with
      | some (xs, M2) => .ok (.d (.list xs)) M2
      | none => .stuck
    else .stuck) g1 H1) :
    tLc (fun _ H R => R J H) (tGt T us gt) (tT T xw0 tt) (tE T xw0 te) vs σ H1 Q := by
  refine fun D hD => ?_
  by_cases hz : ds.length ≤ sizeLine
  · rw [if_pos hz] at b
    cases ec : compL gt tt te (wip ρ vs) ds M1 with
    | none => rw [ec] at b; exact b.elim
    | some y =>
      obtain ⟨all, Mend⟩ := y
      rw [ec] at b
      have hF : g1.F D = none := R1.sub.none hD
      have hph : D ∉ g1.ph := fun z => by obtain ⟨u, q⟩ := R1.tr D z; rw [hD] at q; cases q
      refine ⟨fun i m H => m = ds.length - i ∧ i ≤ ds.length ∧ ∃ (g : Gh) (M : List MO) (acc : List V) (xs ys : List PyData), Rel T.K g M H ∧ Ext g1 H1 g H ∧ H D = some (.lst acc) ∧ g.F D = none ∧ D ∉ g.ph ∧ DqAll T.K g.F acc xs ∧ acc.length ≤ i ∧
          compL gt tt te (wip ρ vs) (ds.drop i) M = some (ys, Mend) ∧ all = xs ++ ys,
        ⟨ds.length, rfl, Nat.zero_le _, g1, M1, [], [], all, R1.updD hF hph (fun _ z => by rw [hD] at z; cases z), (Ext.refl _ _).updD hD, upd_same, hF, hph, .nil, Nat.le_refl _, ec, rfl⟩, ?_⟩
      rintro i m H ⟨rfl, hi, g, M, acc, xs, ys, R, E, hDa, hFD, hphD, da, hal, ec', eall⟩
      have sF : Sub g1.F g.F := E.gr.F
      by_cases hlt : i < ds.length
      · have hd : ds[i]? = some ds[i] := List.getElem?_eq_getElem hlt
        rw [List.drop_eq_getElem_cons hlt] at ec'
        unfold compL at ec'
        cases eg : gt (.d ds[i]) (wip ρ vs) M with
        | none => rw [eg] at ec'; cases ec'
        | some y =>
          obtain ⟨ρ1, Mg⟩ := y
          rw [eg] at ec'
          simp only at ec'
          cases et : tt ρ1 Mg with
          | stuck => rw [et] at ec'; cases ec'
          | err _ _ => rw [et] at ec'; cases ec'
          | ok bb M2 =>
            rw [et] at ec'
            refine .inr ⟨hJ.go i H hlt (sF.trans R.sub), fun H' => ∃ (g : Gh) (M : List MO) (acc : List V) (xs ys : List PyData), Rel T.K g M H' ∧ Ext g1 H1 g H' ∧ H' D = some (.lst acc) ∧ g.F D = none ∧ D ∉ g.ph ∧ DqAll T.K g.F acc xs ∧ acc.length ≤ i + 1 ∧
              compL gt tt te (wip ρ vs) (ds.drop (i + 1)) M = some (ys, Mend) ∧ all = xs ++ ys, fun H' n => ⟨ds.length - (i + 1), by omega, rfl, hlt, n⟩, fun x H' hy => ?_⟩
            obtain ⟨F', L, dq⟩ := hJ.yld i _ g.F H x H' hd sF R.sub hy
            refine ⟨⟨g.ph, F'⟩, wip ρ vs, M, .d ds[i], L.rel R, rs_wip (S1.gr (E.gr.trans L.ext.gr)) vs, .d dq, ρ1, Mg, eg, fun σ2 g2 H2 R2 E2 S2 O2 => ⟨wipe_off O2 hus, g2, ρ1, Mg, R2, S2, ?_⟩⟩
            rw [et]
            intro b' g3 H3 R3 E3 hb
            have hb' : b' = bb := hb
            subst hb'
            have E03 : Ext g H g3 H3 := (L.ext.trans E2).trans E3
            obtain ⟨o1, o2, o3⟩ := E03.outD hDa hFD hphD
            cases b' with
            | false => exact iteF ⟨g3, M2, acc, xs, ys, R3, E.trans E03, o1, o2, o3, DqAll.sub E03.gr.F da, by omega, ec', eall⟩
            | true =>
              simp only at ec'
              refine iteT ⟨g3, ρ1, M2, R3, S2.gr E3.gr, ?_⟩
              cases ee : te ρ1 M2 with
              | stuck => rw [ee] at ec'; cases ec'
              | err _ _ => rw [ee] at ec'; cases ec'
              | ok w M3 =>
                cases w with
                | loc n => rw [ee] at ec'; cases ec'
                | tup n => rw [ee] at ec'; cases ec'
                | scr n => rw [ee] at ec'; cases ec'
                | exc n => rw [ee] at ec'; cases ec'
                | kd n => rw [ee] at ec'; cases ec'
                | clo _ n => rw [ee] at ec'; cases ec'
                | fn n => rw [ee] at ec'; cases ec'
                | d z =>
                  rw [ee] at ec'
                  simp only at ec'
                  cases er : compL gt tt te (wip ρ vs) (ds.drop (i + 1)) M3 with
                  | none => rw [er] at ec'; cases ec'
                  | some y =>
                    obtain ⟨zs, M4⟩ := y
                    rw [er] at ec'
                    cases ec'
                    intro v g4 H4 R4 E4 rv
                    have E04 := E03.trans E4
                    obtain ⟨p1, p2, p3⟩ := E04.outD hDa hFD hphD
                    cases rv with
                    | d dz =>
                      refine ⟨acc, p1, by omega, g4, M3, acc ++ [v], xs ++ [z], zs, R4.updD p2 p3 (fun _ z => by rw [p1] at z; cases z), (E.trans E04).updD hD, upd_same, p2, p3, DqAll.append (DqAll.sub E04.gr.F da) (.cons dz .nil), ?_, er, ?_⟩
                      · rw [List.length_append]; show acc.length + 1 ≤ _; omega
                      · rw [eall, List.append_assoc]; rfl
      · have hz' : ds.drop i = [] := List.drop_of_length_le (by omega)
        rw [hz'] at ec'
        unfold compL at ec'
        cases ec'
        refine .inl ⟨by rw [show i = ds.length by omega]; exact hJ.stop H (sF.trans R.sub), ?_⟩
        refine b (.ref D) ⟨g.ph, upd g.F D (.lst acc)⟩ H ⟨fun a u q => ?_, R.len, fun n u e l => ?_, R.inj, R.tr, R.tab.go (Sub.upd hFD) (fun _ _ e _ => e) (fun _ z => .inl z) fun P ps e _ n => (upd_ne (fun z => by rw [z, hDa] at e; cases e)).trans n⟩ ⟨⟨E.gr.ph, E.gr.F.trans (Sub.upd hFD)⟩, fun a o q hn => (E.keep a o q hn).sub2 (Sub.upd hFD), fun a h1 h2 => ?_, E.newph⟩ (.d ?_)
        · have q' : upd g.F D (.lst acc) a = some u := q
          by_cases h : a = D
          · subst h
            rw [upd_same] at q'
            rw [hDa]; exact q'
          · rw [upd_ne h] at q'; exact R.sub _ _ q'
        · obtain ⟨a, e1, e2, e3⟩ := R.at_ n u e l
          refine ⟨a, e1, ?_, MOk.gr (g := g) (g' := ⟨g.ph, upd g.F D (.lst acc)⟩) ⟨fun _ _ z => z, Sub.upd hFD⟩ (fun _ q => q) e3⟩
          show upd g.F D (.lst acc) a = none
          rw [upd_ne (fun z => hphD (by rw [← z]; exact List.mem_of_getElem? e1))]
          exact e2
        · by_cases h : a = D
          · subst h; exact .inl hD
          · refine E.new a h1 ?_
            have h2' : upd g.F D (.lst acc) a ≠ none := h2
            rw [upd_ne h] at h2'
            exact h2'
        · rw [eall, List.append_nil]
          exact .lst upd_same (DqAll.sub (Sub.upd hFD) da)
  · rw [if_neg hz] at b; exact b.elim
theorem lc_imp {T : Tx} {xw : WX} {fi : IF} {gt : GF} {tt : TF} {te : EF} {vs us : List Nat} (hus : ∀ v ∈ us, v ∈ vs) {σ : L2.St} {H : Hp} {Q : VK} (h : tE T xw (sLc fi gt tt te vs) σ H Q) :
    tLc (tI T xw fi) (tGt T us gt) (tT T xw0 tt) (tE T xw0 te) vs σ H Q :=
  tG_mono (tG_bind (R2 := fun g (J : It) ds => ItOk T.K g.F J ds) h) fun J H1 ⟨g1, ρ, M1, ds, R1, S1, hJ, b⟩ => lc_core (xq := fun c d H => xw c d σ H) hus R1 S1 hJ b
theorem me_lc {X : Cx} {k : Nat} {xw : WX} {elt tg iter : Expr} {ifs : List Expr} {scope : Scope} {own : List (Str × Nat)} {pos : Pos} {fi : IF} {gt : GF} {tt : TF} {te : EF} {us : List Nat} (C : Ctx X k xw) (hi : MI X xw tg iter fi) (ok : BlkOk X.N X.env.scope scope own)
    (hg : ∀ (s : Shared) (H : Hp) (A : Addr) (cl : List (Str × Addr)) (fp : List Addr), Ctx (X.blk s H scope (compEnvC scope cl A X.env) fp) k xw0 → MG (X.blk s H scope (compEnvC scope cl A X.env) fp) tg us gt) (ht : ∀ (s : Shared) (H : Hp) (A : Addr) (cl : List (Str × Addr)) (fp : List Addr), Ctx (X.blk s H scope (compEnvC scope cl A X.env) fp) k xw0 → MTs (X.blk s H scope (compEnvC scope cl A X.env) fp) ifs tt)
    (he : ∀ (s : Shared) (H : Hp) (A : Addr) (cl : List (Str × Addr)) (fp : List Addr), Ctx (X.blk s H scope (compEnvC scope cl A X.env) fp) k xw0 → ME (X.blk s H scope (compEnvC scope cl A X.env) fp) xw0 elt te) (hus : ∀ v ∈ us, v ∈ own.map (·.2) := by decide) (hs : ∀ x, foldedSetIterable iter X.env x = pure x := by intro _; rfl) :
    ME X xw (.ListComp elt [⟨tg, iter, ifs, 0⟩] scope pos) (sLc fi gt tt te (own.map (·.2))) :=
  PE.imp (pe_lc C.calm C.nd hi ok (fun s H A cl fp => hg s H A cl fp (C.blk _ _ _ _ _)) (fun s H A cl fp => ht s H A cl fp (C.blk _ _ _ _ _)) (fun s H A cl fp => he s H A cl fp (C.blk _ _ _ _ _)) hs) fun σ H Q h => lc_imp (T := tx X) hus h
theorem ms_setLc {X : Cx} {k : Nat} {xw : WX} {i : Nat} {y : Str} {py : Pos} {elt tg iter : Expr} {ifs : List Expr} {scope : Scope} {own : List (Str × Nat)} {pos spos : Pos} {fi : IF} {gt : GF} {tt : TF} {te : EF} {us : List Nat} (C : Ctx X k xw) (hi : MI X xw tg iter fi) (ok : BlkOk X.N X.env.scope scope own)
    (hg : ∀ (s : Shared) (H : Hp) (A : Addr) (cl : List (Str × Addr)) (fp : List Addr), Ctx (X.blk s H scope (compEnvC scope cl A X.env) fp) k xw0 → MG (X.blk s H scope (compEnvC scope cl A X.env) fp) tg us gt) (ht : ∀ (s : Shared) (H : Hp) (A : Addr) (cl : List (Str × Addr)) (fp : List Addr), Ctx (X.blk s H scope (compEnvC scope cl A X.env) fp) k xw0 → MTs (X.blk s H scope (compEnvC scope cl A X.env) fp) ifs tt)
    (he : ∀ (s : Shared) (H : Hp) (A : Addr) (cl : List (Str × Addr)) (fp : List Addr), Ctx (X.blk s H scope (compEnvC scope cl A X.env) fp) k xw0 → ME (X.blk s H scope (compEnvC scope cl A X.env) fp) xw0 elt te) (hy : X.N[i]? = some y := by rfl) (hyl : X.env.scope.names.lookup y = some .local := by rfl)
    (hsw : swapsWith (.ListComp elt [⟨tg, iter, ifs, 0⟩] scope pos) (some (.Name y py)) spos.line X.env = pure true := by exact (sw_true rfl rfl rfl (by decide +kernel))) (hus : ∀ v ∈ us, v ∈ own.map (·.2) := by decide) (hs : ∀ x, foldedSetIterable iter X.env x = pure x := by intro _; rfl) :
    MS X xw (.Assign [.Name y py] (.ListComp elt [⟨tg, iter, ifs, 0⟩] scope pos) spos) (sSet i (sLc fi gt tt te (own.map (·.2)))) :=
  PS.imp (ps_setLc C.calm C.nd hy hyl hsw hi ok (fun s H A cl fp => hg s H A cl fp (C.blk _ _ _ _ _)) (fun s H A cl fp => ht s H A cl fp (C.blk _ _ _ _ _)) (fun s H A cl fp => he s H A cl fp (C.blk _ _ _ _ _)) hs) fun D σ H q => lc_imp (T := tx X) hus (tG_mono (tS_then q) fun v H1 ⟨g, ρ, M, w, R, S, r, b⟩ => b _ g H1 R (Ext.refl _ _) (S.set i r))
end Y
namespace Y
open PySem PySem.Spec PyProof.Rows L2

/-! ### walking a list, a tuple, a text -/
def chs (s : Str) : List PyData := s.cps.toList.map fun c => .str ⟨#[c]⟩
def itD (f : EF) : IF := fun ρ M => (f ρ M).bind fun w M => match w with
  | .d (.list ds) => .ok ds M
  | .d (.tuple ds) => .ok ds M
  | .d (.str s) => .ok (chs s) M
  | _ => .stuck
theorem pi_seq3 {X : Cx} {tg l : Expr} {tl : TE} (hl : PE X l tl) : PI X tg l fun σ H R => tl σ H fun x H1 => (∃ a, x = .ref a ∧ (∃ xs, SqL X.K H1 a xs) ∧ R (Itl X.K a) H1) ∨ (∃ a, x = .ref a ∧ (∃ xs, SqT X.K H1 a xs) ∧ R (Itt X.K a) H1) ∨ ∃ z, x = .str z ∧ R (Its z) H1 := by
  refine ⟨fun pins s σ H R I h => ?_⟩
  refine thn (hl.run pins s σ H _ I h) fun v s1 ⟨x, H1, I1, r1, q1⟩ => ?_
  rcases q1 with ⟨a, e, ⟨xs, hq⟩, q⟩ | ⟨a, e, ⟨xs, hq⟩, q⟩ | ⟨z, e, q⟩
  · subst e
    cases r1
    obtain ⟨its, rv, p, hz⟩ := I1.list hq
    refine wpAny_pyIter_list p.isList ?_
    refine ⟨s1.heap.objs.size, [s1.heap.objs.size], _, _, H1, rfl, I1.kept (t' := s1.toks) fun b o e => Heap.get?_push_of_some _ e, turn_list a _, ⟨_, Heap.get?_push_size _ rfl, rfl, rfl⟩, fun b hb => ?_, q⟩
    have e : b = s1.heap.objs.size := by simpa using hb
    subst e
    exact I1.fpOk (Nat.le_refl _) (I1.hok.fresh (Nat.le_refl _))
  · subst e
    cases r1
    obtain ⟨its, rv, p, hz⟩ := I1.tuple hq
    refine wpAny_pyIter_tuple (show s1.heap.IsTuple a its.toArray from p) ?_
    refine ⟨s1.heap.objs.size, [s1.heap.objs.size], _, _, H1, rfl, I1.kept (t' := s1.toks) fun b o e => Heap.get?_push_of_some _ e, turn_tuple a _, ⟨_, Heap.get?_push_size _ rfl, rfl, rfl⟩, fun b hb => ?_, q⟩
    have e : b = s1.heap.objs.size := by simpa using hb
    subst e
    exact I1.fpOk (Nat.le_refl _) (I1.hok.fresh (Nat.le_refl _))
  · subst e
    obtain ⟨t, rfl⟩ := r1
    cases ha : z.cps.all (· < 128)
    · exact wpAny_pyIter_wide ha (pi_one (tk := s1.toks) I1 _ (turn_str _ z t "str_iterator" (.inr rfl)) ⟨_, Heap.get?_push_size _ rfl, rfl, rfl⟩ q)
    · exact wpAny_pyIter_ascii ha (pi_one (tk := s1.toks) I1 _ (turn_str _ z t "str_ascii_iterator" (.inl rfl)) ⟨_, Heap.get?_push_size _ rfl, rfl, rfl⟩ q)
theorem itok_lst {K : PySem.W.Frag} {F : Hp} {a : Addr} {xs : List V} {ds : List PyData} (h : F a = some (.lst xs)) (d : DqAll K F xs ds) : ItOk K F (Itl K a) ds := by
  have hl := d.length
  refine ⟨fun i H hi s => ⟨xs, xs[i]'(by omega), .of (s _ _ h), List.getElem?_eq_getElem _⟩, fun H s => ⟨xs, .of (s _ _ h), by omega⟩, fun i x F' H v H' e s1 s2 hy => ?_⟩
  obtain ⟨rfl, hv⟩ := hy
  obtain ⟨u, e1, e2⟩ := d.get e
  have := hv xs (.of (s2 _ _ (s1 _ _ h)))
  rw [e1] at this
  cases this
  exact ⟨F', Lay.refl s2, Dq.sub s1 e2⟩
theorem itok_tup {K : PySem.W.Frag} {F : Hp} {a : Addr} {xs : List V} {ds : List PyData} (h : TqT K F a xs) (d : DqAll K F xs ds) : ItOk K F (Itt K a) ds := by
  have hl := d.length
  refine ⟨fun i H hi s => ⟨xs, xs[i]'(by omega), TqT.up s h, List.getElem?_eq_getElem _⟩, fun H s => ⟨xs, TqT.up s h, by omega⟩, fun i x F' H v H' e s1 s2 hy => ?_⟩
  obtain ⟨rfl, hv⟩ := hy
  obtain ⟨u, e1, e2⟩ := d.get e
  have := hv xs (TqT.up (s1.trans s2) h)
  rw [e1] at this
  cases this
  exact ⟨F', Lay.refl s2, Dq.sub s1 e2⟩
theorem chs_len (s : Str) : (chs s).length = s.cps.size := by unfold chs; rw [List.length_map, Array.length_toList]
theorem chs_get {s : Str} {i : Nat} {d : PyData} (e : (chs s)[i]? = some d) : ∃ c, s.cps[i]? = some c ∧ d = .str ⟨#[c]⟩ := by
  unfold chs at e
  rw [List.getElem?_map, Array.getElem?_toList] at e
  cases q : s.cps[i]? with
  | none => rw [q] at e; cases e
  | some c => rw [q] at e; cases e; exact ⟨c, rfl, rfl⟩
theorem itok_str {K : PySem.W.Frag} {F : Hp} {z : Str} : ItOk K F (Its z) (chs z) := by
  have hl := chs_len z
  refine ⟨fun i H hi s => by show i < z.cps.size; omega, fun H s => by show z.cps.size ≤ (chs z).length; omega, fun i x F' H v H' e s1 s2 hy => ?_⟩
  obtain ⟨rfl, c, e1, rfl⟩ := hy
  obtain ⟨c', e2, rfl⟩ := chs_get e
  rw [e1] at e2
  cases e2
  exact ⟨F', Lay.refl s2, .str _⟩
theorem mi_seq {X : Cx} {xw : WX} {tg l : Expr} {f : EF} (hl : ME X xw l f) : MI X xw tg l (itD f) :=
  PI.imp (pi_seq3 hl) fun σ H R h => tG_mono (tG_bind (R2 := RW X.K) h) fun v H1 ⟨g, ρ, M, w, R1, S, q, b⟩ => by
    cases w with
    | loc n => exact b.elim
    | tup n => exact b.elim
    | scr n => exact b.elim
    | exc n => exact b.elim
    | kd n => exact b.elim
    | clo _ n => exact b.elim
    | fn n => exact b.elim
    | d x =>
      cases x with
      | list ds =>
        cases q with
        | d q => cases q with
          | lst h t => exact .inl ⟨_, rfl, ⟨_, .of (R1.sub _ _ h)⟩, b _ g H1 R1 (Ext.refl _ _) (itok_lst h t)⟩
      | tuple ds =>
        cases q with
        | d q => cases q with
          | tup h t => exact .inr (.inl ⟨_, rfl, ⟨_, TqT.up R1.sub h⟩, b _ g H1 R1 (Ext.refl _ _) (itok_tup h t)⟩)
      | str z =>
        cases q with
        | d q => cases q; exact .inr (.inr ⟨_, rfl, b _ g H1 R1 (Ext.refl _ _) itok_str⟩)
      | none => exact b.elim
      | bool _ => exact b.elim
      | int _ => exact b.elim
      | dict _ => exact b.elim
/-! ### range -/
def rng (lo : Int) (n : Nat) : List PyData := (List.range n).map fun i => .int (lo + (i : Nat))
theorem rng_len (lo : Int) (n : Nat) : (rng lo n).length = n := by unfold rng; rw [List.length_map, List.length_range]
theorem itok_rng {K : PySem.W.Frag} {F : Hp} {lo : Int} {n : Nat} : ItOk K F (Itr lo n) (rng lo n) := by
  have hl := rng_len lo n
  refine ⟨fun i H hi s => by show i < n; omega, fun H s => by show n ≤ (rng lo n).length; omega, fun i x F' H v H' e s1 s2 hy => ?_⟩
  obtain ⟨rfl, rfl⟩ := hy
  unfold rng at e
  rw [List.getElem?_map] at e
  cases q : (List.range n)[i]? with
  | none => rw [q] at e; cases e
  | some c =>
    rw [q] at e
    cases e
    obtain ⟨h1, h2⟩ := List.getElem?_eq_some_iff.mp q
    rw [List.getElem_range] at h2
    subst h2
    exact ⟨F', Lay.refl s2, .int _⟩
def itR1 (fs : List EF) : IF := fun ρ M => (evs fs ρ M).bind fun ws M => match ws with
  | [.d (.int j)] => if -(2 ^ 62) ≤ j ∧ j < 2 ^ 62 then .ok (rng 0 j.toNat) M else .stuck
  | _ => .stuck
def itR2 (fs : List EF) : IF := fun ρ M => (evs fs ρ M).bind fun ws M => match ws with
  | [.d (.int i), .d (.int j)] => if -(2 ^ 62) ≤ i ∧ i < 2 ^ 62 ∧ -(2 ^ 62) ≤ j ∧ j < 2 ^ 62 then .ok (rng i (j - i).toNat) M else .stuck
  | _ => .stuck
theorem mi_range1 {X : Cx} {xw : WX} {tg a : Expr} {fs : List EF} {p pos : Pos} (ha : MA X xw [a] fs) (hm : X.mg "range" = none) (hg : Gl X "range" := by rfl) (hs : starEach [a] X.env = [(false, eval a X.env)] := by rfl) : MI X xw tg (.Call (.Name "range" p) [a] [] pos) (itR1 fs) :=
  PI.imp (pi_range1 hg hm ha hs) fun σ H R h => tG_mono (tG_bind (R2 := RWs X.K) h) fun v H1 ⟨g, ρ, M, ws, R1, S, q, b⟩ => by
    simp only at b
    split at b
    · rename_i j
      cases q with
      | cons q t =>
        cases t
        cases q with
        | d q =>
          cases q
          split at b
          · rename_i hc
            exact ⟨j, rfl, hc.1, hc.2, b _ g H1 R1 (Ext.refl _ _) itok_rng⟩
          · exact b.elim
    · exact b.elim
theorem mi_range2 {X : Cx} {xw : WX} {tg a a2 : Expr} {fs : List EF} {p pos : Pos} (ha : MA X xw [a, a2] fs) (hm : X.mg "range" = none) (hg : Gl X "range" := by rfl) (hs : starEach [a, a2] X.env = [(false, eval a X.env), (false, eval a2 X.env)] := by rfl) (hs2 : starEach [a2] X.env = [(false, eval a2 X.env)] := by rfl) :
    MI X xw tg (.Call (.Name "range" p) [a, a2] [] pos) (itR2 fs) :=
  PI.imp (pi_range2 hg hm ha hs hs2) fun σ H R h => tG_mono (tG_bind (R2 := RWs X.K) h) fun v H1 ⟨g, ρ, M, ws, R1, S, q, b⟩ => by
    simp only at b
    split at b
    · rename_i i j
      cases q with
      | cons q t =>
        cases t with
        | cons q' t =>
          cases t
          cases q with
          | d q =>
            cases q
            cases q' with
            | d q' =>
              cases q'
              split at b
              · rename_i hc
                exact ⟨i, j, rfl, hc, b _ g H1 R1 (Ext.refl _ _) itok_rng⟩
              · exact b.elim
    · exact b.elim
/-! ### pairs: zip, enumerate -/
/-- at turn i a new pair -/
def Itp (n : Nat) (ps : Nat → Option (V × V)) : It :=
  ⟨fun i _ => i < n, fun i H v H' => ∃ T x y, v = .ref T ∧ H T = none ∧ H' = upd H T (.tup [x, y]) ∧ ps i = some (x, y), fun i _ => i = n⟩
theorem itok_pairs {K : PySem.W.Frag} {F : Hp} {n : Nat} {ps : Nat → Option (V × V)} {ds : List PyData} (hn : ds.length = n) (h : ∀ i d, ds[i]? = some d → ∃ x y a b, ps i = some (x, y) ∧ d = .tuple [a, b] ∧ (∀ G, Sub F G → Dq K G x a ∧ Dq K G y b)) : ItOk K F (Itp n ps) ds := by
  refine ⟨fun i H hi s => by show i < n; omega, fun H s => by show ds.length = n; omega, fun i d F' H v H' e s1 s2 hy => ?_⟩
  obtain ⟨T, x, y, rfl, hT, rfl, hp⟩ := hy
  obtain ⟨x', y', a, b, hp', rfl, hd⟩ := h i d e
  rw [hp] at hp'
  cases hp'
  have hs : Sub F' (upd F' T (.tup [x, y])) := Sub.upd (s2.none hT)
  exact ⟨_, Lay.new1 s2 hT, .tup (.of upd_same) (.cons (hd _ (s1.trans hs)).1 (.cons (hd _ (s1.trans hs)).2 .nil))⟩
section
variable {P : Program} {w : World} {K : PySem.W.Frag} {elts : List Expr} {kk : Nat} {tpos : Pos}
def zps (x y : Str) : Nat → Option (V × V) := fun i => match x.cps[i]?, y.cps[i]? with
  | some c, some d => some (.str ⟨#[c]⟩, .str ⟨#[d]⟩)
  | _, _ => none
theorem isTup2 {h : Heap} {T : Addr} {a b : Value} (e : h.IsTuple T #[a, b]) : IsTup h T [a, b].toArray := e
theorem turn_zipS {x y : Str} {t u : Tok} {N : Addr} : Turn P w K (.Tuple elts kk tpos) (Itp (min x.cps.size y.cps.size) (zps x y)) [N + 4, N + 2, N + 3, N, N + 1] (N + 4)
    (fun i h => IsZip h (N + 4) (N + 2) (N + 3) .none ∧ IsTupOf2 h (N + 2) (.ref N) (.ref (N + 1)) ∧ (∃ a1 a2, IsTupOf2 h (N + 3) a1 a2) ∧ h.IsStrIter N (strIterType x) x t i ∧ h.IsStrIter (N + 1) (strIterType y) y u i) where
  mem := by simp
  obj := fun i h st b hb => by
    obtain ⟨h1, h2, ⟨a1, a2, h3⟩, h4, h5⟩ := st
    have e' : b = N + 4 ∨ b = N + 2 ∨ b = N + 3 ∨ b = N ∨ b = N + 1 := by simpa using hb
    rcases e' with z | z | z | z | z
    · rw [z]; obtain ⟨o, e⟩ : ∃ o, h.get? (N + 4) = some o ∧ ∀ v, o.data ≠ .cell v := by first | exact ⟨_, h1, fun v q => nomatch q⟩ | (obtain ⟨o, e, c, d⟩ := h1; exact ⟨o, e, fun v q => by rw [d] at q; cases q⟩)
      exact ⟨o, e⟩
    · rw [z]; first | exact ⟨_, h2, fun v q => nomatch q⟩ | (obtain ⟨o, e, c, d⟩ := h2; exact ⟨o, e, fun v q => by rw [d] at q; cases q⟩)
    · rw [z]; first | exact ⟨_, h3, fun v q => nomatch q⟩ | (obtain ⟨o, e, c, d⟩ := h3; exact ⟨o, e, fun v q => by rw [d] at q; cases q⟩)
    · rw [z]; obtain ⟨o, e, c, d⟩ := h4; exact ⟨o, e, fun v q => by rw [d] at q; cases q⟩
    · rw [z]; obtain ⟨o, e, c, d⟩ := h5; exact ⟨o, e, fun v q => by rw [d] at q; cases q⟩
  keep := fun i h h' st k => by
    obtain ⟨h1, h2, ⟨a1, a2, h3⟩, ⟨o4, e4, c4, d4⟩, ⟨o5, e5, c5, d5⟩⟩ := st
    refine ⟨?_, ?_, ⟨a1, a2, ?_⟩, ⟨o4, k N (by simp) o4 e4, c4, d4⟩, ⟨o5, k (N + 1) (by simp) o5 e5, c5, d5⟩⟩
    · first | exact k _ (by simp) _ h1 | exact h1.at fun o e => k _ (by simp) o e
    · first | exact k _ (by simp) _ h2 | exact h2.at fun o e => k _ (by simp) o e
    · first | exact k _ (by simp) _ h3 | exact h3.at fun o e => k _ (by simp) o e
  item := by
    intro X hP hw hK hc i pins s σ H E I hf st hg
    subst hP hw hK
    have hh := I.ok.hd hc
    have D1 := Draws.text (prog := X.prog) (w := X.w) (A := X.A.in1) hh N x t
    have D2 := Draws.text (prog := X.prog) (w := X.w) (A := X.A.in1) hh (N + 1) y u
    have G := GoesN.zip2 (elts := elts) (x1 := kk) (pos := tpos) (zip_sep2 (N := N) (fp1 := []) (fp2 := []) (by simp) (by simp)) D1 D2
    refine G.goes i s (fun u' s2 => ∃ x' H', Inv X pins σ H' s2 ∧ RelV x' u' ∧ (Itp (min x.cps.size y.cps.size) (zps x y)).yld i H x' H' ∧ _ ∧ ∀ b ∈ [N + 4, N + 2, N + 3, N, N + 1], H' b = none) E hg st fun v h' tk hY st' hk htk => ?_
    obtain ⟨T, a, b, rfl, hT, ⟨c, u1, hc1, rfl⟩, ⟨d, u2, hd1, rfl⟩, hTup⟩ := hY
    have hk' : ∀ b o, b ∉ [N + 4, N + 2, N + 3, N, N + 1] → s.heap.get? b = some o → h'.get? b = some o := fun b o hb e => hk b o (fun z => hb (by
      have : b = N + 4 ∨ b = N + 3 ∨ b = N ∨ b = N + 1 := by simpa using z
      rcases this with z | z | z | z <;> simp [z])) e
    have new : ObjOk X.prog X.w (upd H T (.tup [.str ⟨#[c]⟩, .str ⟨#[d]⟩])) h' T (.tup [.str ⟨#[c]⟩, .str ⟨#[d]⟩]) :=
      ⟨by show 2 ≤ sizeLine; decide, [.str ⟨#[c]⟩ u1, .str ⟨#[d]⟩ u2], .cons ⟨_, rfl⟩ (.cons ⟨_, rfl⟩ .nil), isTup2 hTup⟩
    have I1 := I.turnedNew (t' := tk) (ch := [N + 4, N + 2, N + 3, N, N + 1]) hk' hf hT new
    refine ⟨.ref T, _, I1, rfl, ⟨T, _, _, rfl, I.hok.fresh hT, rfl, ?_⟩, st', fun b hb => ?_⟩
    · unfold zps
      rw [hc1, hd1]
    · rw [upd_ne]
      · exact (hf b hb).1
      · intro z
        subst z
        obtain ⟨h1, h2, ⟨a1, a2, h3⟩, ⟨o4, e4, c4, d4⟩, ⟨o5, e5, c5, d5⟩⟩ := st
        have e' : b = N + 4 ∨ b = N + 2 ∨ b = N + 3 ∨ b = N ∨ b = N + 1 := by simpa using hb
        have hlt : b < s.heap.objs.size := by
          rcases e' with z | z | z | z | z
          · rw [z]; first | exact Heap.lt_size h1 | (obtain ⟨o, e, _⟩ := h1; exact Heap.lt_size e)
          · rw [z]; first | exact Heap.lt_size h2 | (obtain ⟨o, e, _⟩ := h2; exact Heap.lt_size e)
          · rw [z]; first | exact Heap.lt_size h3 | (obtain ⟨o, e, _⟩ := h3; exact Heap.lt_size e)
          · rw [z]; exact Heap.lt_size e4
          · rw [z]; exact Heap.lt_size e5
        exact absurd (Nat.lt_of_lt_of_le hlt hT) (Nat.lt_irrefl _)
  done := by
    intro X hP hw hK hc i pins s σ H E I hf st hg
    subst hP hw hK
    have hh := I.ok.hd hc
    have D1 := Draws.text (prog := X.prog) (w := X.w) (A := X.A.in1) hh N x t
    have D2 := Draws.text (prog := X.prog) (w := X.w) (A := X.A.in1) hh (N + 1) y u
    have G := GoesN.zip2 (elts := elts) (x1 := kk) (pos := tpos) (zip_sep2 (N := N) (fp1 := []) (fp2 := []) (by simp) (by simp)) D1 D2
    have hi : i = min x.cps.size y.cps.size := hg
    subst hi
    refine G.stops s (fun s1 => Inv X pins σ H s1) E st fun h' tk hk htk => I.turnedL (t' := tk) (ch := [N + 4, N + 2, N + 3, N, N + 1]) (fun b o hb e => hk b o (fun z => hb (by
      have : b = N + 4 ∨ b = N + 3 ∨ b = N ∨ b = N + 1 := by simpa using z
      rcases this with z | z | z | z <;> simp [z])) e) hf
  self := fun A i s Q E st h => by
    obtain ⟨h1, _⟩ := st
    exact wpAny_pyIter_zip h1 h
def eps (x : Str) : Nat → Option (V × V) := fun i => match x.cps[i]? with
  | some c => some (.int (i : Nat), .str ⟨#[c]⟩)
  | _ => none
theorem turn_enumS {x : Str} {t : Tok} {N : Addr} : Turn P w K (.Tuple elts kk tpos) (Itp x.cps.size (eps x)) [N + 1, N] (N + 1)
    (fun i h => (∃ old, IsEnum h (N + 1) N (0 + (i : Int)) old) ∧ h.IsStrIter N (strIterType x) x t i) where
  mem := by simp
  obj := fun i h st b hb => by
    obtain ⟨⟨old, he⟩, h4⟩ := st
    have e' : b = N + 1 ∨ b = N := by simpa using hb
    rcases e' with z | z
    · rw [z]; exact ⟨_, he, fun v q => nomatch q⟩
    · rw [z]; obtain ⟨o, e, c, d⟩ := h4; exact ⟨o, e, fun v q => by rw [d] at q; cases q⟩
  keep := fun i h h' st k => by
    obtain ⟨⟨old, he⟩, ⟨o4, e4, c4, d4⟩⟩ := st
    exact ⟨⟨old, k _ (by simp) _ he⟩, ⟨o4, k N (by simp) o4 e4, c4, d4⟩⟩
  item := by
    intro X hP hw hK hc i pins s σ H E I hf st hg
    subst hP hw hK
    have hh := I.ok.hd hc
    have D1 := Draws.text (prog := X.prog) (w := X.w) (A := X.A.in1) hh N x t
    have G := GoesN.enumFrom (elts := elts) (x1 := kk) (pos := tpos) 0 D1 (N + 1) (Nat.succ_ne_self _) (by simp) (by simp)
    refine G.goes i s (fun u' s2 => ∃ x' H', Inv X pins σ H' s2 ∧ RelV x' u' ∧ (Itp x.cps.size (eps x)).yld i H x' H' ∧ _ ∧ ∀ b ∈ [N + 1, N], H' b = none) E hg st fun v h' tk hY st' hk htk => ?_
    obtain ⟨T, u1, a, rfl, hT, ⟨c, u2, hc1, rfl⟩, hTup⟩ := hY
    have new : ObjOk X.prog X.w (upd H T (.tup [.int (i : Nat), .str ⟨#[c]⟩])) h' T (.tup [.int (i : Nat), .str ⟨#[c]⟩]) :=
      ⟨by show 2 ≤ sizeLine; decide, [.int (0 + (i : Int)) u1, .str ⟨#[c]⟩ u2], .cons ⟨u1, by rw [Int.zero_add]⟩ (.cons ⟨_, rfl⟩ .nil), isTup2 hTup⟩
    have I1 := I.turnedNew (t' := tk) (ch := [N + 1, N]) hk hf hT new
    refine ⟨.ref T, _, I1, rfl, ⟨T, _, _, rfl, I.hok.fresh hT, rfl, ?_⟩, st', fun b hb => ?_⟩
    · unfold eps
      rw [hc1]
    · rw [upd_ne]
      · exact (hf b hb).1
      · intro z
        subst z
        obtain ⟨⟨old, he⟩, ⟨o4, e4, c4, d4⟩⟩ := st
        have e' : b = N + 1 ∨ b = N := by simpa using hb
        have hlt : b < s.heap.objs.size := by
          rcases e' with z | z
          · rw [z]; exact Heap.lt_size he
          · rw [z]; exact Heap.lt_size e4
        exact absurd (Nat.lt_of_lt_of_le hlt hT) (Nat.lt_irrefl _)
  done := by
    intro X hP hw hK hc i pins s σ H E I hf st hg
    subst hP hw hK
    have hh := I.ok.hd hc
    have D1 := Draws.text (prog := X.prog) (w := X.w) (A := X.A.in1) hh N x t
    have G := GoesN.enumFrom (elts := elts) (x1 := kk) (pos := tpos) 0 D1 (N + 1) (Nat.succ_ne_self _) (by simp) (by simp)
    have hi : i = x.cps.size := hg
    subst hi
    exact G.stops s (fun s1 => Inv X pins σ H s1) E st fun h' tk hk htk => I.turnedL (t' := tk) (ch := [N + 1, N]) hk hf
  self := fun A i s Q E st h => by
    obtain ⟨⟨old, he⟩, _⟩ := st
    exact wpAny_pyIter_enum he h
end
section
variable {X : Cx} {e e2 : Expr} {ta : TA} {p pos tpos : Pos} {elts : List Expr} {kk : Nat}
theorem pi_zipS (hg : Gl X "zip") (hm : X.mg "zip" = none) (ha : PA X [e, e2] ta)
    (hs : starEach [e, e2] X.env = (false, eval e X.env) :: starEach [e2] X.env := by rfl) (hpl : (backTo pos (starEach [e2] X.env)).any (·.1) = false := by rfl) :
    PI X (.Tuple elts kk tpos) (.Call (.Name "zip" p) [e, e2] [] pos) fun σ H R => ta σ H fun vs H1 => ∃ x y, vs = [.str x, .str y] ∧ R (Itp (min x.cps.size y.cps.size) (zps x y)) H1 := by
  refine ⟨fun pins s σ H R I h => ?_⟩
  refine Call_ (ld_blt I hg hm PyProof.Rows.boot_zip (PyProof.Rows.callWith_type1 (thn (ha.run pos pins s σ H _ I h) fun us s1 ⟨vs, H1, I1, r1, q1⟩ => ?_) hs hpl))
  obtain ⟨x, y, ex, q⟩ := q1
  subst ex
  cases r1 with
  | cons r rr =>
    cases rr with
    | cons r' rr =>
      cases rr
      obtain ⟨t, rfl⟩ := r
      obtain ⟨u, rfl⟩ := r'
      refine zip_begins2 (begins_text x t) (begins_text y u) trivial trivial fun h' hz hTI hTO h1 h2 hsz hk => wpAny_pyIter_zip hz ?_
      have I2 : Inv X pins σ H1 { s1 with heap := h' } := I1.kept (t' := s1.toks) hk
      refine ⟨s1.heap.objs.size + 4, [s1.heap.objs.size + 4, s1.heap.objs.size + 2, s1.heap.objs.size + 3, s1.heap.objs.size, s1.heap.objs.size + 1], _, _, H1, rfl, I2, turn_zipS (x := x) (y := y) (t := t) (u := u), ⟨hz, hTI, ⟨_, _, hTO⟩, ⟨_, h1, rfl, rfl⟩, ⟨_, h2, rfl, rfl⟩⟩, fun c hcm => ?_, q⟩
      have e' : c = s1.heap.objs.size + 4 ∨ c = s1.heap.objs.size + 2 ∨ c = s1.heap.objs.size + 3 ∨ c = s1.heap.objs.size ∨ c = s1.heap.objs.size + 1 := by simpa using hcm
      have hle : s1.heap.objs.size ≤ c := by
        rcases e' with z | z | z | z | z
        · rw [z]; exact Nat.le_add_right _ _
        · rw [z]; exact Nat.le_add_right _ _
        · rw [z]; exact Nat.le_add_right _ _
        · rw [z]; exact Nat.le_refl _
        · rw [z]; exact Nat.le_add_right _ _
      exact I1.fpOk hle (I1.hok.fresh hle)
theorem pi_enumS (hg : Gl X "enumerate") (hm : X.mg "enumerate" = none) (ha : PA X [e] ta) (hs : starEach [e] X.env = [(false, eval e X.env)] := by rfl) :
    PI X (.Tuple elts kk tpos) (.Call (.Name "enumerate" p) [e] [] pos) fun σ H R => ta σ H fun vs H1 => ∃ x, vs = [.str x] ∧ R (Itp x.cps.size (eps x)) H1 := by
  refine ⟨fun pins s σ H R I h => ?_⟩
  refine Call_ (ld_blt I hg hm boot_enumerate (PyProof.Rows.callWith_type1 (thn (ha.run pos pins s σ H _ I h) fun us s1 ⟨vs, H1, I1, r1, q1⟩ => ?_) hs rfl))
  obtain ⟨x, ex, q⟩ := q1
  subst ex
  cases r1 with
  | cons r rr =>
    cases rr
    obtain ⟨t, rfl⟩ := r
    refine call_enumerate_str fun h' he hit hsz hk => wpAny_pyIter_enum he ?_
    have I2 : Inv X pins σ H1 { s1 with heap := h' } := I1.kept (t' := s1.toks) hk
    refine ⟨s1.heap.objs.size + 1, [s1.heap.objs.size + 1, s1.heap.objs.size], _, _, H1, rfl, I2, turn_enumS (x := x) (t := t), ⟨⟨.none, he⟩, hit⟩, fun b hb => ?_, q⟩
    have e' : b = s1.heap.objs.size + 1 ∨ b = s1.heap.objs.size := by simpa using hb
    have hle : s1.heap.objs.size ≤ b := by
      rcases e' with z | z
      · rw [z]; exact Nat.le_add_right _ _
      · rw [z]; exact Nat.le_refl _
    exact I1.fpOk hle (I1.hok.fresh hle)
end
def prs (xs ys : List PyData) : List PyData := (xs.zip ys).map fun p => .tuple [p.1, p.2]
def enu (xs : List PyData) : List PyData := prs (rng 0 xs.length) xs
end Y
namespace Y
open PySem PySem.Spec L2

theorem dpr2 {K : PySem.W.Frag} {p : DPr} {r : R2} (h : ∀ (F H : Hp) (v u : V) (x y z : PyData) (Q : VK), Sub F H → Dv K F H v x → Dv K F H u y → p [x, y] = some z → (∀ v F' H', Lay F H F' H' → Dq K F' v z → Q v H') → r v u H Q)
    (hl : ∀ xs z, p xs = some z → xs.length = 2) : PrOk K (dpr p) (r2 r) := dpr_ok fun F H vs xs y Q s dv e k => by
  have hl' := hl xs y e
  match xs, hl' with
  | [a, b], _ =>
    obtain ⟨v, u, rfl, d1, d2⟩ := dv.two
    exact ⟨v, u, rfl, h F H v u a b y Q s d1 d2 e k⟩
theorem dpr1 {K : PySem.W.Frag} {p : DPr} {r : V → Hp → VK → Prop} (h : ∀ (F H : Hp) (v : V) (x z : PyData) (Q : VK), Sub F H → Dv K F H v x → p [x] = some z → (∀ v F' H', Lay F H F' H' → Dq K F' v z → Q v H') → r v H Q)
    (hl : ∀ xs z, p xs = some z → xs.length = 1) : PrOk K (dpr p) (r1 r) := dpr_ok fun F H vs xs y Q s dv e k => by
  have hl' := hl xs y e
  match xs, hl' with
  | [a], _ =>
    obtain ⟨v, rfl, d1⟩ := dv.one
    exact ⟨v, rfl, h F H v a y Q s d1 e k⟩
/-- a result that is plain -/
theorem kq {K : PySem.W.Frag} {F H : Hp} {Q : VK} {v : V} {z : PyData} (s : Sub F H) (k : ∀ v F' H', Lay F H F' H' → Dq K F' v z → Q v H') (d : Dq K F v z) : Q v H := k v F H (Lay.refl s) d
theorem kn {K : PySem.W.Frag} {F H : Hp} {Q : VK} {p : Addr} {xs : List V} {ds : List PyData} (s : Sub F H) (k : ∀ v F' H', Lay F H F' H' → Dq K F' v (.list ds) → Q v H') (d : DqAll K F xs ds) (hp : H p = none) : Q (.ref p) (upd H p (.lst xs)) :=
  k _ _ _ (Lay.new1 s hp) (.lst upd_same (DqAll.sub (Sub.upd (s.none hp)) d))
theorem kt {K : PySem.W.Frag} {F H : Hp} {Q : VK} {p : Addr} {xs : List V} {ds : List PyData} (s : Sub F H) (k : ∀ v F' H', Lay F H F' H' → Dq K F' v (.tuple ds) → Q v H') (d : DqAll K F xs ds) (hp : H p = none) : Q (.ref p) (upd H p (.tup xs)) :=
  k _ _ _ (Lay.new1 s hp) (.tup (.of upd_same) (DqAll.sub (Sub.upd (s.none hp)) d))

/-! ### + -/
def pAdd : DPr
  | [.int i, .int j] => some (.int (i + j))
  | [.str a, .str b] => if a.length + b.length ≤ sizeLine then some (.str (a ++ b)) else none
  | [.list a, .list b] => if a.length + b.length ≤ sizeLine then some (.list (a ++ b)) else none
  | [.tuple a, .tuple b] => if a.length + b.length ≤ sizeLine then some (.tuple (a ++ b)) else none
  | _ => none
section
variable {X : Cx} {xw : WX} {a b : Expr} {fa fb : EF} {pos : Pos}
theorem add_ok (X : Cx) : ∃ r, OpR X (binaryOp .Add) r ∧ PrOk X.K (dpr pAdd) (r2 r) := by
  refine ⟨_, ((op_add.or op_add_str).or op_cat).or op_catA, dpr2 (fun F H v u x y z Q s d1 d2 e k => ?_) fun xs z e => ?_⟩
  · unfold pAdd at e
    split at e
    · rename_i i j q
      cases q
      cases e
      cases d1.int
      cases d2.int
      exact .inl (.inl (.inl ⟨i, j, rfl, rfl, kq s k (.int _)⟩))
    · rename_i i j q
      cases q
      split at e
      · cases e
        cases d1.str
        cases d2.str
        exact .inl (.inl (.inr ⟨i, j, rfl, rfl, by assumption, kq s k (.str _)⟩))
      · cases e
    · rename_i i j q
      cases q
      split at e
      · cases e
        obtain ⟨p, xs, rfl, h1, h2⟩ := d1.lst s
        obtain ⟨p', xs', rfl, h1', h2'⟩ := d2.lst s
        exact .inl (.inr ⟨p, p', xs, xs', rfl, rfl, h1, h1', by rw [h2.length, h2'.length]; assumption, fun q hq => kn s k (h2.append h2') hq⟩)
      · cases e
    · rename_i i j q
      cases q
      split at e
      · cases e
        obtain ⟨p, xs, rfl, h1, h2⟩ := d1.tup
        obtain ⟨p', xs', rfl, h1', h2'⟩ := d2.tup
        refine .inr ⟨p, p', xs, xs', rfl, rfl, TqT.up s h1, TqT.up s h1', by rw [h2.length, h2'.length]; assumption, fun e => ?_, fun e e' => ?_, fun _ _ q hq => kt s k (h2.append h2') hq⟩
        · subst e
          cases h2
          exact kq s k (.tup h1' h2')
        · subst e'
          cases h2'
          exact kq s k (.tup h1 (by rw [List.append_nil]; exact h2))
      · cases e
    · cases e
  · unfold pAdd at e
    split at e <;> first | rfl | cases e
theorem me_add (ha : ME X xw a fa) (hb : ME X xw b fb) : ME X xw (.BinOp a .Add b pos) (sPr (dpr pAdd) [fa, fb]) := let ⟨_, h1, h2⟩ := add_ok X; me_bin h1 h2 ha hb

/-! ### ints -/
def pI2 (C : Int → Int → Bool) (f : Int → Int → Int) : DPr
  | [.int i, .int j] => if C i j = true then some (.int (f i j)) else none
  | _ => none
theorem i2_ok {C : Int → Int → Bool} {C' : Int → Int → Prop} {f : Int → Int → Int} (h : ∀ i j, C i j = true → C' i j) (K : PySem.W.Frag) : PrOk K (dpr (pI2 C f)) (r2 (rI C' fun i j => .int (f i j))) := by
  refine dpr2 (fun F H v u x y z Q s d1 d2 e k => ?_) fun xs z e => ?_
  · unfold pI2 at e
    split at e
    · rename_i i j q
      cases q
      split at e
      · cases e
        cases d1.int
        cases d2.int
        exact ⟨i, j, rfl, rfl, h _ _ (by assumption), kq s k (.int _)⟩
      · cases e
    · cases e
  · unfold pI2 at e
    split at e <;> first | rfl | cases e
def pSub : DPr := pI2 (fun _ _ => true) fun i j => i - j
def cMul (i j : Int) : Bool := decide ((-(2 ^ 64) < i ∧ i < 2 ^ 64) ∨ (-(2 ^ 64) < j ∧ j < 2 ^ 64) ∨ i.natAbs.log2 + j.natAbs.log2 < 1000000)
theorem cMul_ok {i j : Int} (h : cMul i j = true) : IntMulOk i j := by
  rcases of_decide_eq_true h with h | h | h
  · exact CMul.ok (.inl h)
  · exact CMul.ok (.inr h)
  · exact CMulW.ok h
theorem op_mulA : OpR X (binaryOp .Mult) (rI (fun i j => cMul i j = true) fun i j => .int (i * j)) := opI fun _ _ _ _ _ _ _ hc q => PyProof.Rows.mul_int q (cMul_ok hc)
def pMod : DPr := pI2 (fun _ j => decide (0 < j)) fun i j => i % j
def pFdiv : DPr := pI2 (fun _ j => decide (0 < j ∧ j < 1073741824)) fun i j => i / j
def cPow (i j : Int) : Bool := decide (0 ≤ j ∧ j ≤ 1000000 ∧ i.natAbs < 2 ^ 64)
def pPow : DPr := pI2 cPow fun i j => i ^ j.toNat
def pShl : DPr := pI2 cPow fun i j => i * 2 ^ j.toNat
def pShr : DPr := pI2 (fun _ j => decide (0 ≤ j)) fun i j => i / 2 ^ j.toNat
def pAnd : DPr := pI2 (fun _ _ => true) Builtin.bitAnd
def pOr : DPr := pI2 (fun _ _ => true) Builtin.bitOr
def pXor : DPr := pI2 (fun _ _ => true) Builtin.bitXor
theorem rI_of {g : Int → Int → V} {f : Value → Value → Sem Value} (h : OpR X f (rI0 g)) : OpR X f (rI (fun _ _ => True) g) := fun pins s σ H x y v u Q I rx ry ⟨i, j, e1, e2, _, q⟩ => h pins s σ H x y v u Q I rx ry ⟨i, j, e1, e2, q⟩
theorem me_sub (ha : ME X xw a fa) (hb : ME X xw b fb) : ME X xw (.BinOp a .Sub b pos) (sPr (dpr pSub) [fa, fb]) := me_bin (rI_of op_sub) (i2_ok (fun _ _ _ => trivial) _) ha hb
theorem me_mod (ha : ME X xw a fa) (hb : ME X xw b fb) : ME X xw (.BinOp a .Mod b pos) (sPr (dpr pMod) [fa, fb]) := me_bin op_mod (i2_ok (fun _ _ h => of_decide_eq_true h) _) ha hb
theorem me_fdiv (ha : ME X xw a fa) (hb : ME X xw b fb) : ME X xw (.BinOp a .FloorDiv b pos) (sPr (dpr pFdiv) [fa, fb]) := me_bin op_fdiv (i2_ok (fun _ _ h => of_decide_eq_true h) _) ha hb
theorem me_pow (ha : ME X xw a fa) (hb : ME X xw b fb) : ME X xw (.BinOp a .Pow b pos) (sPr (dpr pPow) [fa, fb]) := me_bin op_pow (i2_ok (fun _ _ h => of_decide_eq_true h) _) ha hb
theorem me_shl (ha : ME X xw a fa) (hb : ME X xw b fb) : ME X xw (.BinOp a .LShift b pos) (sPr (dpr pShl) [fa, fb]) := me_bin op_shl (i2_ok (fun _ _ h => of_decide_eq_true h) _) ha hb
theorem me_shr (ha : ME X xw a fa) (hb : ME X xw b fb) : ME X xw (.BinOp a .RShift b pos) (sPr (dpr pShr) [fa, fb]) := me_bin op_shr (i2_ok (fun _ _ h => of_decide_eq_true h) _) ha hb
theorem me_bitand (ha : ME X xw a fa) (hb : ME X xw b fb) : ME X xw (.BinOp a .BitAnd b pos) (sPr (dpr pAnd) [fa, fb]) := me_bin (rI_of op_and) (i2_ok (fun _ _ _ => trivial) _) ha hb
theorem me_bitor (ha : ME X xw a fa) (hb : ME X xw b fb) : ME X xw (.BinOp a .BitOr b pos) (sPr (dpr pOr) [fa, fb]) := me_bin (rI_of op_or) (i2_ok (fun _ _ _ => trivial) _) ha hb
theorem me_bitxor (ha : ME X xw a fa) (hb : ME X xw b fb) : ME X xw (.BinOp a .BitXor b pos) (sPr (dpr pXor) [fa, fb]) := me_bin (rI_of op_xor) (i2_ok (fun _ _ _ => trivial) _) ha hb
/-! ### * -/
def repS (s : Str) (n : Nat) : Str := ⟨((List.replicate n s.cps.toList).flatten).toArray⟩
theorem dq_rep {K : PySem.W.Frag} {F : Hp} {xs : List V} {ds : List PyData} (d : DqAll K F xs ds) : ∀ n : Nat, DqAll K F (List.replicate n xs).flatten (List.replicate n ds).flatten
  | 0 => .nil
  | n + 1 => by
    rw [List.replicate_succ, List.replicate_succ, List.flatten_cons, List.flatten_cons]
    exact d.append (dq_rep d n)
def pMul : DPr
  | [.int i, .int j] => if cMul i j = true then some (.int (i * j)) else none
  | [.list a, .int j] => if 0 ≤ j ∧ j < 2 ^ 63 ∧ a.length * j.toNat ≤ sizeLine then some (.list (List.replicate j.toNat a).flatten) else none
  | _ => none
theorem mul_ok (X : Cx) : ∃ r, OpR X (binaryOp .Mult) r ∧ PrOk X.K (dpr pMul) (r2 r) := by
  refine ⟨_, op_mulA.or op_rep, dpr2 (fun F H v u x y z Q s d1 d2 e k => ?_) fun xs z e => ?_⟩
  · unfold pMul at e
    split at e
    · rename_i i j q
      cases q
      split at e
      · cases e
        cases d1.int
        cases d2.int
        exact .inl ⟨i, j, rfl, rfl, by assumption, kq s k (.int _)⟩
      · cases e
    · rename_i i j q
      cases q
      split at e
      · rename_i hc
        cases e
        obtain ⟨p, xs, rfl, h1, h2⟩ := d1.lst s
        cases d2.int
        exact .inr ⟨p, j, xs, rfl, rfl, h1, by omega, hc.2.1, by rw [h2.length]; exact hc.2.2, fun q hq => kn s k (dq_rep h2 _) hq⟩
      · cases e
    · cases e
  · unfold pMul at e
    split at e <;> first | rfl | cases e
theorem me_mul (ha : ME X xw a fa) (hb : ME X xw b fb) : ME X xw (.BinOp a .Mult b pos) (sPr (dpr pMul) [fa, fb]) := let ⟨_, h1, h2⟩ := mul_ok X; me_bin h1 h2 ha hb

/-! ### comparisons -/
def pC2 (f : Int → Int → Bool) : DPr
  | [.int i, .int j] => some (.bool (f i j))
  | _ => none
theorem c2_ok {f : Int → Int → Bool} (K : PySem.W.Frag) : PrOk K (dpr (pC2 f)) (r2 (rI0 fun i j => .bl (f i j))) := by
  refine dpr2 (fun F H v u x y z Q s d1 d2 e k => ?_) fun xs z e => ?_
  · unfold pC2 at e
    split at e
    · rename_i i j q
      cases q
      cases e
      cases d1.int
      cases d2.int
      exact ⟨i, j, rfl, rfl, kq s k (.bl _)⟩
    · cases e
  · unfold pC2 at e
    split at e <;> first | rfl | cases e
def pLt : DPr := pC2 fun i j => decide (i < j)
def pLe : DPr := pC2 fun i j => decide (i ≤ j)
def pGt : DPr := pC2 fun i j => decide (j < i)
def pGe : DPr := pC2 fun i j => decide (j ≤ i)
theorem me_lt (ha : ME X xw a fa) (hb : ME X xw b fb) : ME X xw (.Compare a [.Lt] [b] pos) (sPr (dpr pLt) [fa, fb]) := me_cmp op_lt (c2_ok _) ha hb (nobehind _ (by decide) (by decide))
theorem me_le (ha : ME X xw a fa) (hb : ME X xw b fb) : ME X xw (.Compare a [.LtE] [b] pos) (sPr (dpr pLe) [fa, fb]) := me_cmp op_le (c2_ok _) ha hb (nobehind _ (by decide) (by decide))
theorem me_gt (ha : ME X xw a fa) (hb : ME X xw b fb) : ME X xw (.Compare a [.Gt] [b] pos) (sPr (dpr pGt) [fa, fb]) := me_cmp op_gt (c2_ok _) ha hb (nobehind _ (by decide) (by decide))
theorem me_ge (ha : ME X xw a fa) (hb : ME X xw b fb) : ME X xw (.Compare a [.GtE] [b] pos) (sPr (dpr pGe) [fa, fb]) := me_cmp op_ge (c2_ok _) ha hb (nobehind _ (by decide) (by decide))
theorem mt_lt (ha : ME X xw a fa) (hb : ME X xw b fb) : MT X xw (.Compare a [.Lt] [b] pos) (sVal (sPr (dpr pLt) [fa, fb])) := mt_cmp op_lt (c2_ok _) ha hb (nobehind _ (by decide) (by decide))
theorem mt_le (ha : ME X xw a fa) (hb : ME X xw b fb) : MT X xw (.Compare a [.LtE] [b] pos) (sVal (sPr (dpr pLe) [fa, fb])) := mt_cmp op_le (c2_ok _) ha hb (nobehind _ (by decide) (by decide))
theorem mt_gt (ha : ME X xw a fa) (hb : ME X xw b fb) : MT X xw (.Compare a [.Gt] [b] pos) (sVal (sPr (dpr pGt) [fa, fb])) := mt_cmp op_gt (c2_ok _) ha hb (nobehind _ (by decide) (by decide))
theorem mt_ge (ha : ME X xw a fa) (hb : ME X xw b fb) : MT X xw (.Compare a [.GtE] [b] pos) (sVal (sPr (dpr pGe) [fa, fb])) := mt_cmp op_ge (c2_ok _) ha hb (nobehind _ (by decide) (by decide))
def pEq : DPr
  | [.str a, .str b] => some (.bool (decide (a = b)))
  | [x, y] => if SeqAt.shaped x = true ∧ SeqAt.shaped y = true then some (.bool (PyData.eqv x y)) else none
  | _ => none
def pNe : DPr
  | [.str a, .str b] => some (.bool (!decide (a = b)))
  | [x, y] => if SeqAt.shaped x = true ∧ SeqAt.shaped y = true then some (.bool (!PyData.eqv x y)) else none
  | _ => none
theorem dec_strV {a b : Str} : decide (V.str a = V.str b) = decide (a = b) := by
  by_cases h : a = b
  · rw [decide_eq_true h, decide_eq_true (by rw [h])]
  · rw [decide_eq_false h, decide_eq_false fun z => h (V.str.inj z)]
theorem eq_ok {k : Nat} (hu : X.A.units + 64 < cLine) : ∃ r, OpR X (compareOp .Eq) r ∧ PrOk X.K (dpr pEq) (r2 r) := by
  refine ⟨_, (op_eqD hu).or op_eq, dpr2 (fun F H v u x y z Q s d1 d2 e k => ?_) fun xs z e => ?_⟩
  · unfold pEq at e
    split at e
    · rename_i a b q
      cases q
      cases e
      cases d1.str
      cases d2.str
      exact .inr ⟨rfl, by rw [dec_strV]; exact kq s k (.bl _)⟩
    · rename_i q
      cases q
      split at e
      · rename_i hc
        cases e
        exact .inl ⟨_, _, d1.dp s, d2.dp s, hc.1, hc.2, kq s k (.bl _)⟩
      · cases e
    · cases e
  · unfold pEq at e
    split at e <;> first | rfl | cases e
theorem ne_ok {k : Nat} (hu : X.A.units + 64 < cLine) : ∃ r, OpR X (compareOp .NotEq) r ∧ PrOk X.K (dpr pNe) (r2 r) := by
  refine ⟨_, (op_neD hu).or op_ne, dpr2 (fun F H v u x y z Q s d1 d2 e k => ?_) fun xs z e => ?_⟩
  · unfold pNe at e
    split at e
    · rename_i a b q
      cases q
      cases e
      cases d1.str
      cases d2.str
      exact .inr ⟨rfl, by rw [dec_strV]; exact kq s k (.bl _)⟩
    · rename_i q
      cases q
      split at e
      · rename_i hc
        cases e
        exact .inl ⟨_, _, d1.dp s, d2.dp s, hc.1, hc.2, kq s k (.bl _)⟩
      · cases e
    · cases e
  · unfold pNe at e
    split at e <;> first | rfl | cases e
theorem ctx_u {k : Nat} (C : Ctx X k xw) : X.A.units + 65 < cLine := by have := C.room.un; omega
theorem me_eq {k : Nat} (C : Ctx X k xw) (ha : ME X xw a fa) (hb : ME X xw b fb) : ME X xw (.Compare a [.Eq] [b] pos) (sPr (dpr pEq) [fa, fb]) := let ⟨_, h1, h2⟩ := eq_ok (k := k) (X := X) C.room.units; me_cmp h1 h2 ha hb (nobehind _ (by decide) (by decide))
theorem me_ne {k : Nat} (C : Ctx X k xw) (ha : ME X xw a fa) (hb : ME X xw b fb) : ME X xw (.Compare a [.NotEq] [b] pos) (sPr (dpr pNe) [fa, fb]) := let ⟨_, h1, h2⟩ := ne_ok (k := k) (X := X) C.room.units; me_cmp h1 h2 ha hb (nobehind _ (by decide) (by decide))
theorem mt_eq {k : Nat} (C : Ctx X k xw) (ha : ME X xw a fa) (hb : ME X xw b fb) : MT X xw (.Compare a [.Eq] [b] pos) (sVal (sPr (dpr pEq) [fa, fb])) := let ⟨_, h1, h2⟩ := eq_ok (k := k) (X := X) C.room.units; mt_cmp h1 h2 ha hb (nobehind _ (by decide) (by decide))
theorem mt_ne {k : Nat} (C : Ctx X k xw) (ha : ME X xw a fa) (hb : ME X xw b fb) : MT X xw (.Compare a [.NotEq] [b] pos) (sVal (sPr (dpr pNe) [fa, fb])) := let ⟨_, h1, h2⟩ := ne_ok (k := k) (X := X) C.room.units; mt_cmp h1 h2 ha hb (nobehind _ (by decide) (by decide))
/-! x is None -/
def pIsN : DPr
  | [.none] => some (.bool true)
  | [.bool _] => some (.bool false)
  | [.int _] => some (.bool false)
  | [.str _] => some (.bool false)
  | [.list _] => some (.bool false)
  | [.tuple _] => some (.bool false)
  | _ => none
def pNotN : DPr := fun xs => match pIsN xs with
  | some (.bool b) => some (.bool (!b))
  | _ => none
theorem isN_bool {x z : PyData} (e : pIsN [x] = some z) : ∃ b, z = .bool b := by
  unfold pIsN at e
  split at e <;> first | (cases e; exact ⟨_, rfl⟩) | cases e
theorem isN_dec {K : PySem.W.Frag} {F H : Hp} {v : V} {x : PyData} {b : Bool} (s : Sub F H) (d : Dv K F H v x) (e : pIsN [x] = some (.bool b)) : decide (v = .non) = b := by
  unfold pIsN at e
  split at e
  · rename_i q; cases q; cases e; cases d.non; rfl
  · rename_i q; cases q; cases e; cases d.bl; rfl
  · rename_i q; cases q; cases e; cases d.int; rfl
  · rename_i q; cases q; cases e; cases d.str; rfl
  · rename_i q; cases q; cases e; obtain ⟨p, xs, rfl, _⟩ := d.lst s; rfl
  · rename_i q; cases q; cases e; obtain ⟨p, xs, rfl, _⟩ := d.tup; rfl
  · cases e
theorem me_isN {j pos'} (ha : ME X xw a fa) : ME X xw (.Compare a [.Is] [.Constant .none j pos'] pos) (sPr (dpr pIsN) [fa]) :=
  PE.imp (pe_cmp (pc_isN ha) (nobehind _ (by decide) (by decide))) fun σ H Q h => tG_mono (prim1 (T := tx X) (r := r1 fun x H Q => Q (.bl (decide (x = .non))) H) (dpr1 (fun F H v x z Q s d e k => by
    obtain ⟨b, rfl⟩ := isN_bool e
    rw [isN_dec s d e]
    exact kq s k (.bl _)) fun xs z e => by
    unfold pIsN at e
    split at e <;> first | rfl | cases e) h) fun v H1 ⟨x, e, q⟩ => by cases e; exact q
theorem me_notN {j pos'} (ha : ME X xw a fa) : ME X xw (.Compare a [.IsNot] [.Constant .none j pos'] pos) (sPr (dpr pNotN) [fa]) :=
  PE.imp (pe_cmp (pc_notN ha) (nobehind _ (by decide) (by decide))) fun σ H Q h => tG_mono (prim1 (T := tx X) (r := r1 fun x H Q => Q (.bl (!decide (x = .non))) H) (dpr1 (fun F H v x z Q s d e k => by
    unfold pNotN at e
    split at e
    · rename_i b q
      cases e
      rw [isN_dec s d q]
      exact kq s k (.bl _)
    · cases e) fun xs z e => by
    unfold pNotN at e
    split at e
    · rename_i b q
      unfold pIsN at q
      split at q <;> first | rfl | cases q
    · cases e) h) fun v H1 ⟨x, e, q⟩ => by cases e; exact q
end
end Y
namespace Y
open PySem PySem.Spec PyProof.Rows L2

section
variable {X : Cx} {xw : WX} {a b : Expr} {fa fb : EF} {pos : Pos}
/-! ### in -/
def rInT (K : PySem.W.Frag) : R2 := fun x y H Q => ∃ d ds, Dp K H x d ∧ Dp K H y (.tuple ds) ∧ SeqAt.shaped d = true ∧ SeqAt.shaped (.tuple ds) = true ∧ Q (.bl (ds.any fun z => PyData.eqv z d)) H
def rNotInT (K : PySem.W.Frag) : R2 := fun x y H Q => ∃ d ds, Dp K H x d ∧ Dp K H y (.tuple ds) ∧ SeqAt.shaped d = true ∧ SeqAt.shaped (.tuple ds) = true ∧ Q (.bl (!ds.any fun z => PyData.eqv z d)) H
theorem op_inT (hu : X.A.units + 65 < cLine) : OpR X (compareOp .In) (rInT X.K) := by
  intro pins s σ H x y v u Q I rx ry h
  obtain ⟨d, ds, hd, he, sd, se, q⟩ := h
  obtain ⟨as, r1⟩ := Dp.reads I d x v hd rx
  obtain ⟨bs, r2⟩ := Dp.reads I (.tuple ds) y u he ry
  exact SeqAt.in_tuple_reads r2 r1 (SeqAt.canLay_of_shaped se) (SeqAt.canLay_of_shaped sd) (room_in_shaped sd hu) ⟨.bl _, H, I, rfl, q⟩
theorem op_notInT (hu : X.A.units + 65 < cLine) : OpR X (compareOp .NotIn) (rNotInT X.K) := by
  intro pins s σ H x y v u Q I rx ry h
  obtain ⟨d, ds, hd, he, sd, se, q⟩ := h
  obtain ⟨as, r1⟩ := Dp.reads I d x v hd rx
  obtain ⟨bs, r2⟩ := Dp.reads I (.tuple ds) y u he ry
  exact SeqAt.notIn_tuple_reads r2 r1 (SeqAt.canLay_of_shaped se) (SeqAt.canLay_of_shaped sd) (room_in_shaped sd hu) ⟨.bl _, H, I, rfl, q⟩
/-- is x in y -/
def inB : PyData → PyData → Option Bool
  | x, .list ds => if SeqAt.shaped x = true ∧ SeqAt.shaped (.list ds) = true then some (ds.any fun z => PyData.eqv z x) else none
  | x, .tuple ds => if SeqAt.shaped x = true ∧ SeqAt.shaped (.tuple ds) = true then some (ds.any fun z => PyData.eqv z x) else none
  | .str ⟨⟨[c]⟩⟩, .str z => some (decide (c ∈ z.cps.toList))
  | _, _ => none
def pIn : DPr
  | [x, y] => match inB x y with
    | some b => some (.bool b)
    | none => none
  | _ => none
def pNotIn : DPr
  | [x, y] => match inB x y with
    | some b => some (.bool (!b))
    | none => none
  | _ => none
theorem in_ok {k : Nat} (C : Ctx X k xw) : ∃ r, OpR X (compareOp .In) r ∧ PrOk X.K (dpr pIn) (r2 r) := by
  refine ⟨_, (op_in_sign.or (op_inD (ctx_u C))).or (op_inT (ctx_u C)), dpr2 (fun F H v u x y z Q s d1 d2 e k => ?_) fun xs z e => ?_⟩
  · replace e : (match inB x y with | some b => some (PyData.bool b) | none => none) = some z := e
    cases q : inB x y with
    | none => rw [q] at e; cases e
    | some b =>
      rw [q] at e
      cases e
      unfold inB at q
      split at q
      · split at q
        · rename_i hc
          cases q
          exact .inl (.inr ⟨_, _, d1.dp s, d2.dp s, hc.1, hc.2, kq s k (.bl _)⟩)
        · cases q
      · split at q
        · rename_i hc
          cases q
          exact .inr ⟨_, _, d1.dp s, d2.dp s, hc.1, hc.2, kq s k (.bl _)⟩
        · cases q
      · cases q
        cases d1.str
        cases d2.str
        exact .inl (.inl ⟨_, _, rfl, rfl, kq s k (.bl _)⟩)
      · cases q
  · unfold pIn at e
    split at e
    · rfl
    · cases e
theorem notIn_ok {k : Nat} (C : Ctx X k xw) : ∃ r, OpR X (compareOp .NotIn) r ∧ PrOk X.K (dpr pNotIn) (r2 r) := by
  refine ⟨_, (op_notIn_sign.or (op_notInD (ctx_u C))).or (op_notInT (ctx_u C)), dpr2 (fun F H v u x y z Q s d1 d2 e k => ?_) fun xs z e => ?_⟩
  · replace e : (match inB x y with | some b => some (PyData.bool (!b)) | none => none) = some z := e
    cases q : inB x y with
    | none => rw [q] at e; cases e
    | some b =>
      rw [q] at e
      cases e
      unfold inB at q
      split at q
      · split at q
        · rename_i hc
          cases q
          exact .inl (.inr ⟨_, _, d1.dp s, d2.dp s, hc.1, hc.2, kq s k (.bl _)⟩)
        · cases q
      · split at q
        · rename_i hc
          cases q
          exact .inr ⟨_, _, d1.dp s, d2.dp s, hc.1, hc.2, kq s k (.bl _)⟩
        · cases q
      · cases q
        cases d1.str
        cases d2.str
        exact .inl (.inl ⟨_, _, rfl, rfl, kq s k (.bl _)⟩)
      · cases q
  · unfold pNotIn at e
    split at e
    · rfl
    · cases e
theorem me_in {k : Nat} (C : Ctx X k xw) (ha : ME X xw a fa) (hb : ME X xw b fb) (hm : behindInMarks .In b = false := by rfl) : ME X xw (.Compare a [.In] [b] pos) (sPr (dpr pIn) [fa, fb]) := let ⟨_, h1, h2⟩ := in_ok C; me_cmp h1 h2 ha hb hm
theorem me_notIn {k : Nat} (C : Ctx X k xw) (ha : ME X xw a fa) (hb : ME X xw b fb) (hm : behindInMarks .NotIn b = false := by rfl) : ME X xw (.Compare a [.NotIn] [b] pos) (sPr (dpr pNotIn) [fa, fb]) := let ⟨_, h1, h2⟩ := notIn_ok C; me_cmp h1 h2 ha hb hm
theorem mt_in {k : Nat} (C : Ctx X k xw) (ha : ME X xw a fa) (hb : ME X xw b fb) (hm : behindInMarks .In b = false := by rfl) : MT X xw (.Compare a [.In] [b] pos) (sVal (sPr (dpr pIn) [fa, fb])) := let ⟨_, h1, h2⟩ := in_ok C; mt_cmp h1 h2 ha hb hm
theorem mt_notIn {k : Nat} (C : Ctx X k xw) (ha : ME X xw a fa) (hb : ME X xw b fb) (hm : behindInMarks .NotIn b = false := by rfl) : MT X xw (.Compare a [.NotIn] [b] pos) (sVal (sPr (dpr pNotIn) [fa, fb])) := let ⟨_, h1, h2⟩ := notIn_ok C; mt_cmp h1 h2 ha hb hm
theorem mt_isN {j pos'} (ha : ME X xw a fa) : MT X xw (.Compare a [.Is] [.Constant .none j pos'] pos) (sVal (sPr (dpr pIsN) [fa])) :=
  PT.imp (pt_cmp (pc_isN ha) (nobehind _ (by decide) (by decide))) fun σ H Q h => by
    have h1 := tT_val h
    exact tG_mono (prim1 (T := tx X) (r := r1 fun x H Q => Q (.bl (decide (x = .non))) H) (dpr1 (fun F H v x z Q s d e k => by
      obtain ⟨b, rfl⟩ := isN_bool e
      rw [isN_dec s d e]
      exact kq s k (.bl _)) fun xs z e => by
      unfold pIsN at e
      split at e <;> first | rfl | cases e) h1) fun v H1 ⟨x, e, q⟩ => by cases e; exact q
theorem mt_notN {j pos'} (ha : ME X xw a fa) : MT X xw (.Compare a [.IsNot] [.Constant .none j pos'] pos) (sVal (sPr (dpr pNotN) [fa])) :=
  PT.imp (pt_cmp (pc_notN ha) (nobehind _ (by decide) (by decide))) fun σ H Q h => by
    have h1 := tT_val h
    exact tG_mono (prim1 (T := tx X) (r := r1 fun x H Q => Q (.bl (!decide (x = .non))) H) (dpr1 (fun F H v x z Q s d e k => by
      unfold pNotN at e
      split at e
      · rename_i b q
        cases e
        rw [isN_dec s d q]
        exact kq s k (.bl _)
      · cases e) fun xs z e => by
      unfold pNotN at e
      split at e
      · rename_i b q
        unfold pIsN at q
        split at q <;> first | rfl | cases q
      · cases e) h1) fun v H1 ⟨x, e, q⟩ => by cases e; exact q

/-! ### subscripts -/
theorem atI_dq {K : PySem.W.Frag} {F : Hp} {xs : List V} {ds : List PyData} {i : Int} {d : PyData} (h : DqAll K F xs ds) (e : atI ds i = some d) : ∃ v, atI xs i = some v ∧ Dq K F v d := by
  unfold atI at e ⊢
  rw [h.length]
  cases q : ixN ds.length i with
  | none => rw [q] at e; cases e
  | some j =>
    rw [q] at e
    exact h.get e
def pIx : DPr
  | [.list ds, .int i] => atI ds i
  | [.tuple ds, .int i] => atI ds i
  | [.str z, .int i] => if z.length ≤ sizeLine then (match atI z.cps.toList i with
    | some c => some (.str ⟨#[c]⟩)
    | none => none) else none
  | _ => none
theorem ix_ok (K : PySem.W.Frag) : PrOk K (dpr pIx) (r2 (rIx K)) := by
  refine dpr2 (fun F H v u x y z Q s d1 d2 e k => ?_) fun xs z e => ?_
  · unfold pIx at e
    split at e
    · rename_i q
      cases q
      obtain ⟨p, xs, rfl, h1, h2⟩ := d1.lst s
      cases d2.int
      obtain ⟨w, e1, e2⟩ := atI_dq h2 e
      exact .inl ⟨p, xs, _, w, rfl, rfl, .of h1, e1, kq s k e2⟩
    · rename_i q
      cases q
      obtain ⟨p, xs, rfl, h1, h2⟩ := d1.tup
      cases d2.int
      obtain ⟨w, e1, e2⟩ := atI_dq h2 e
      exact .inr (.inl ⟨p, xs, _, w, rfl, rfl, TqT.up s h1, e1, kq s k e2⟩)
    · rename_i q
      cases q
      split at e
      · split at e
        · cases e
          cases d1.str
          cases d2.int
          exact .inr (.inr ⟨_, _, _, rfl, rfl, by assumption, by assumption, kq s k (.str _)⟩)
        · cases e
      · cases e
    · cases e
  · unfold pIx at e
    split at e <;> first | rfl | cases e
theorem me_sub1 (ha : ME X xw a fa) (hb : ME X xw b fb) (hs : PlainIx b := by exact fun _ _ => rfl) : ME X xw (.Subscript a b pos) (sPr (dpr pIx) [fa, fb]) := me_ix ix_seq (ix_ok _) ha hb hs
/-! slices -/
def cutL {α : Type} (xs : List α) (lo hi : Option Int) : List α := (xs.drop (HT.sIx xs.length 0 lo)).take (HT.sIx xs.length xs.length hi - HT.sIx xs.length 0 lo)
theorem cut_dq {K : PySem.W.Frag} {F : Hp} {xs : List V} {ds : List PyData} (h : DqAll K F xs ds) (lo hi : Option Int) : DqAll K F (cutV xs lo hi) (cutL ds lo hi) := by
  unfold cutV cutL
  rw [h.length]
  exact (h.drop _).take _
abbrev OF := Rho → List MO → Res (Option Int)
abbrev MO' (X : Cx) (xw : WX) (e : Option Expr) (f : OF) : Prop := PO X e (tG (tx X) xw (fun _ (a b : Option Int) => a = b) f)
theorem PO.imp {X : Cx} {e : Option Expr} {t t' : TO} (h : PO X e t) (k : ∀ σ H Q, t' σ H Q → t σ H Q) : PO X e t' := ⟨fun pins s σ H Q I q => h.run pins s σ H Q I (k σ H Q q)⟩
def oN : OF := fun _ M => .ok none M
def oS (f : EF) : OF := fun ρ M => (f ρ M).bind fun w M => match w with
  | .d (.int i) => .ok (some i) M
  | _ => .stuck
theorem mo_none : MO' X xw none oN := PO.imp po_none fun σ H Q ⟨g, ρ, M, R, S, b⟩ => b none g H R (Ext.refl _ _) rfl
theorem mo_some (ha : ME X xw a fa) : MO' X xw (some a) (oS fa) := PO.imp (po_some ha) fun σ H Q h => tG_mono (tG_bind (R2 := RW X.K) h) fun v H1 ⟨g, ρ, M, w, R, S, q, b⟩ => by
  split at b
  · cases q with
    | d q => cases q; exact ⟨_, rfl, b _ g H1 R (Ext.refl _ _) rfl⟩
  · exact b.elim
def slD (lo hi : Option Int) : PyData → Option PyData
  | .list ds => some (.list (cutL ds lo hi))
  | .tuple ds => some (.tuple (cutL ds lo hi))
  | .str z => if z.length ≤ sizeLine then some (.str (cutS z lo hi)) else none
  | _ => none
def sSl (f : EF) (lo hi : OF) : EF := fun ρ M => (f ρ M).bind fun w M1 => (lo ρ M1).bind fun l M2 => (hi ρ M2).bind fun h M3 => match vw M3 w with
  | some x => match slD l h x with
    | some y => .ok (.d y) M3
    | none => .stuck
  | none => .stuck
theorem me_sl {lo hi : Option Expr} {fl fh : OF} {p2 : Pos} (ha : ME X xw a fa) (hl : MO' X xw lo fl) (hh : MO' X xw hi fh) : ME X xw (.Subscript a (.Slice lo hi none p2) pos) (sSl fa fl fh) :=
  PE.imp (pe_slice ((sl_list.or sl_tupA).or sl_str) ha hl hh) fun σ H Q h => by
    refine tG_mono (tG_bind (R2 := RW X.K) h) fun v H1 ⟨g, ρ, M, w, R, S, q, b⟩ => ?_
    have b2 : tG (tx X) xw (RW X.K) (fun ρ M => (fl ρ M).bind fun l M2 => (fh ρ M2).bind fun h M3 => match vw M3 w with
      | some x => match slD l h x with
        | some y => .ok (.d y) M3
        | none => .stuck
      | none => .stuck) σ H1 Q := ⟨g, ρ, M, R, S, b⟩
    refine ⟨g, ρ, M, R, S, ?_⟩
    cases el : fl ρ M with
    | stuck => simp only [Res.bind, el] at b; exact b
    | err x M2 => simp only [Res.bind, el] at b; exact b
    | ok l M2 =>
      simp only [Res.bind, el] at b
      intro l' g2 H2 R2 E2 hl'
      have hl'' : l' = l := hl'
      subst hl''
      refine ⟨g2, ρ, M2, R2, S.gr E2.gr, ?_⟩
      cases eh : fh ρ M2 with
      | stuck => rw [eh] at b; exact b
      | err x M3 => rw [eh] at b; exact fun c d g' H' r' e' => b c d g' H' r' (E2.trans e')
      | ok h M3 =>
        rw [eh] at b
        simp only at b
        intro h' g3 H3 R3 E3 hh'
        have hh'' : h' = h := hh'
        subst hh''
        have q3 := RW.gr (E2.trans E3).gr q
        cases ev : vw M3 w with
        | none => rw [ev] at b; exact b.elim
        | some x =>
          rw [ev] at b
          simp only at b
          have dv := vw_ok R3 q3 ev
          have s3 := R3.sub
          have kk : ∀ y, slD l' h' x = some y → ∀ v F' H', Lay g3.F H3 F' H' → Dq X.K F' v y → Q v H' := fun y ey v F' H' L dq => by
            rw [ey] at b
            exact Bhd.later b (E2.trans E3) v ⟨g3.ph, F'⟩ H' (L.rel R3) L.ext (.d dq)
          cases x with
          | list ds =>
            obtain ⟨p, xs, rfl, h1, h2⟩ := dv.lst s3
            exact .inl (.inl ⟨p, xs, rfl, .of h1, fun q hq => kn s3 (kk _ rfl) (cut_dq h2 l' h') hq⟩)
          | tuple ds =>
            obtain ⟨p, xs, rfl, h1, h2⟩ := dv.tup
            refine .inl (.inr ⟨p, xs, rfl, TqT.up s3 h1, fun hw => kq s3 (kk _ rfl) (.tup h1 ?_), fun _ q hq => kt s3 (kk _ rfl) (cut_dq h2 l' h') hq⟩)
            have := cut_dq h2 l' h'
            unfold cutV at this
            rw [hw.1, hw.2, List.drop_zero, Nat.sub_zero, List.take_length] at this
            exact this
          | str z =>
            cases dv.str
            by_cases hz : z.length ≤ sizeLine
            · exact .inr ⟨z, rfl, hz, kq s3 (kk (.str (cutS z l' h')) (show (if z.length ≤ sizeLine then some (PyData.str (cutS z l' h')) else none) = _ from if_pos hz)) (.str _)⟩
            · have : slD l' h' (.str z) = none := (show (if z.length ≤ sizeLine then some (PyData.str (cutS z l' h')) else none) = _ from if_neg hz)
              rw [this] at b
              exact b.elim
          | none => exact b.elim
          | bool _ => exact b.elim
          | int _ => exact b.elim
          | dict _ => exact b.elim
end
end Y
namespace Y
open PySem PySem.Spec PyProof.Rows L2

/-- a call's primitive over data -/
theorem dprN {K : PySem.W.Frag} {p : DPr} {r : List V → Hp → VK → Prop} (h : DPrOk K p r) : PrOk K (dpr p) r := dpr_ok h
section
variable {X : Cx} {xw : WX} {a b : Expr} {fa fb : EF} {pos p1 : Pos} {k : Nat}
/-! ### len -/
def pLen : DPr
  | [.list ds] => some (.int ds.length)
  | [.tuple ds] => some (.int ds.length)
  | [.str z] => if z.length ≤ sizeLine then some (.int z.length) else none
  | _ => none
theorem len_ok (K : PySem.W.Frag) : PrOk K (dpr pLen) (fun xs H Q => ∃ x n, xs = [x] ∧ LenV K x H n ∧ Q (.int n) H) := dprN fun F H vs xs y Q s dv e k => by
  unfold pLen at e
  split at e
  · cases e
    obtain ⟨v, rfl, d⟩ := dv.one
    obtain ⟨p, xs, rfl, h1, h2⟩ := d.lst s
    exact ⟨_, _, rfl, .inl ⟨xs, .of h1, rfl⟩, by rw [h2.length]; exact kq s k (.int _)⟩
  · cases e
    obtain ⟨v, rfl, d⟩ := dv.one
    obtain ⟨p, xs, rfl, h1, h2⟩ := d.tup
    exact ⟨_, _, rfl, .inr ⟨xs, TqT.up s h1, rfl⟩, by rw [h2.length]; exact kq s k (.int _)⟩
  · split at e
    · cases e
      obtain ⟨v, rfl, d⟩ := dv.one
      cases d.str
      exact ⟨_, _, rfl, ⟨by assumption, rfl⟩, kq s k (.int _)⟩
    · cases e
  · cases e
theorem me_len (ha : MA X xw [a] [fa]) (hm : X.mg "len" = none) (hg : Gl X "len" := by rfl) (he : starEach [a] X.env = (false, eval a X.env) :: starEach [] X.env := by rfl) : ME X xw (.Call (.Name "len" p1) [a] [] pos) (sPr (dpr pLen) [fa]) := me_callB call_len (len_ok _) hg hm PySem.boot_len ha (he := he)
/-! ### int -/
def pInt : DPr
  | [.int i] => some (.int i)
  | [.bool b] => some (.int (if b then 1 else 0))
  | [.str z] => if z.length ≤ 640 then (match intText? z with
    | some n => some (.int n)
    | none => none) else none
  | _ => none
theorem int_ok : ∃ r, CallR X (.type "int") r ∧ PrOk X.K (dpr pInt) r := by
  refine ⟨_, call_int1.or call_int_str, dprN fun F H vs xs y Q s dv e k => ?_⟩
  unfold pInt at e
  split at e
  · cases e
    obtain ⟨v, rfl, d⟩ := dv.one
    cases d.int
    exact .inl (.inl ⟨_, rfl, kq s k (.int _)⟩)
  · cases e
    obtain ⟨v, rfl, d⟩ := dv.one
    cases d.bl
    exact .inl (.inr ⟨_, rfl, kq s k (.int _)⟩)
  · split at e
    · split at e
      · cases e
        obtain ⟨v, rfl, d⟩ := dv.one
        cases d.str
        exact .inr ⟨_, _, rfl, by assumption, by assumption, kq s k (.int _)⟩
      · cases e
    · cases e
  · cases e
theorem me_int1 (ha : MA X xw [a] [fa]) (hm : X.mg "int" = none) (hg : Gl X "int" := by rfl) (he : starEach [a] X.env = (false, eval a X.env) :: starEach [] X.env := by rfl) : ME X xw (.Call (.Name "int" p1) [a] [] pos) (sPr (dpr pInt) [fa]) := let ⟨_, h1, h2⟩ := int_ok (X := X); me_callTy h1 h2 hg hm PyProof.Rows.boot_int ha (he := he)
/-! ### str, repr -/
def okShow (d : PyData) : Bool := d.showable && !d.hasDict && decide (d.depth ≤ 60) && decide (d.shown.length ≤ sizeLine)
def pStr : DPr
  | [.str z] => some (.str z)
  | [d] => if okShow d = true then some (.str d.shown) else none
  | _ => none
def pRepr : DPr
  | [d] => if okShow d = true then some (.str d.shown) else none
  | _ => none
theorem okShow_of {d : PyData} (h : okShow d = true) : d.showable = true ∧ d.hasDict = false ∧ d.depth ≤ 60 ∧ d.shown.length ≤ sizeLine := by
  unfold okShow at h
  simp only [Bool.and_eq_true, decide_eq_true_eq, Bool.not_eq_true'] at h
  exact ⟨h.1.1.1, h.1.1.2, h.1.2, h.2⟩
def rStr (K : PySem.W.Frag) : List V → Hp → VK → Prop := fun vs H Q => ∃ v d, vs = [v] ∧ Dp K H v d ∧ ((∃ z, d = .str z ∧ Q (.str z) H) ∨ ((∀ z, d ≠ .str z) ∧ okShow d = true ∧ Q (.str d.shown) H))
theorem call_strD (C : Ctx X k xw) : CallR X (.type "str") (rStr X.K) := by
  intro pins s σ H xs us Q I r h
  obtain ⟨v, d, rfl, hd, h⟩ := h
  obtain ⟨u, rfl, rx⟩ := vals1 r
  obtain ⟨as, rd⟩ := Dp.reads I d v u hd rx
  have hu := C.room.un
  rcases h with ⟨z, rfl, q⟩ | ⟨hn, hok, q⟩
  · cases hd
    obtain ⟨t, rfl⟩ := rx
    exact PySem.P.str_of_str ⟨.str z, H, I, ⟨_, rfl⟩, q⟩
  · obtain ⟨h1, h2, h3, h4⟩ := okShow_of hok
    cases hd with
    | non => cases rx; exact PySem.P.str_of_none ⟨.str _, H, I.tok _, ⟨_, rfl⟩, q⟩
    | bl b => cases rx; exact PySem.P.str_of_bool ⟨.str _, H, I.tok _, ⟨_, rfl⟩, q⟩
    | int i => obtain ⟨t, rfl⟩ := rx; exact PySem.P.str_of_int (by simpa [PyData.showable] using h1) ⟨.str _, H, I.tok _, ⟨_, rfl⟩, q⟩
    | str z => exact absurd rfl (hn z)
    | lst hs ha =>
      cases rx
      exact str_of_reads rd h1 (PySem.PyData.noDict_hsm h2) C.gd (by omega) (fun _ _ e => e) (fun h' u tk hk => ⟨.str _, H, I.kept (t' := tk) hk, ⟨_, rfl⟩, q⟩) h4
    | tup hs ha =>
      cases rx
      exact str_of_reads rd h1 (PySem.PyData.noDict_hsm h2) C.gd (by omega) (fun _ _ e => e) (fun h' u tk hk => ⟨.str _, H, I.kept (t' := tk) hk, ⟨_, rfl⟩, q⟩) h4
theorem str_ok (K : PySem.W.Frag) : PrOk K (dpr pStr) (rStr K) := dprN fun F H vs xs y Q s dv e k => by
  unfold pStr at e
  split at e
  · cases e
    obtain ⟨v, rfl, d⟩ := dv.one
    exact ⟨v, _, rfl, d.dp s, .inl ⟨_, rfl, kq s k (.str _)⟩⟩
  · rename_i d hn
    split at e
    · cases e
      obtain ⟨v, rfl, d⟩ := dv.one
      exact ⟨v, _, rfl, d.dp s, .inr ⟨hn, by assumption, kq s k (.str _)⟩⟩
    · cases e
  · cases e
theorem me_str1 (C : Ctx X k xw) (ha : MA X xw [a] [fa]) (hm : X.mg "str" = none) (hg : Gl X "str" := by rfl) (he : starEach [a] X.env = (false, eval a X.env) :: starEach [] X.env := by rfl) : ME X xw (.Call (.Name "str" p1) [a] [] pos) (sPr (dpr pStr) [fa]) := me_callTy (call_strD C) (str_ok _) hg hm PyProof.Rows.boot_str ha (he := he)
/-! ### list, tuple -/
def rListS : List V → Hp → VK → Prop := fun xs H Q => ∃ z, xs = [.str z] ∧ z.cps.size ≤ sizeLine ∧ ∀ l, H l = none → Q (.ref l) (upd H l (.lst (z.cps.toList.map fun c => .str ⟨#[c]⟩)))
def rTupS : List V → Hp → VK → Prop := fun xs H Q => ∃ z, xs = [.str z] ∧ z.cps.size ≤ sizeLine ∧ ∀ l, H l = none → Q (.ref l) (upd H l (.tup (z.cps.toList.map fun c => .str ⟨#[c]⟩)))
theorem vals_signs {z : Str} {acc : Array Value} (h : ItemsOf (SignAt z) acc z.cps.size) : Vals (z.cps.toList.map fun c => V.str ⟨#[c]⟩) acc.toList := by
  refine vals_of_at (by rw [List.length_map, Array.length_toList, Array.length_toList]; exact h.1.symm) fun j x u e1 e2 => ?_
  rw [List.getElem?_map, Array.getElem?_toList] at e1
  rw [Array.getElem?_toList] at e2
  obtain ⟨c, t, e3, rfl⟩ := h.2 j u e2
  rw [e3] at e1
  cases e1
  exact ⟨t, rfl⟩
theorem call_list_S (hc : X.calm = true) : CallR X (.type "list") rListS := by
  intro pins s σ H xs us Q I r h
  obtain ⟨z, rfl, hz, q⟩ := h
  obtain ⟨u, rfl, rx⟩ := vals1 r
  obtain ⟨t, rfl⟩ := rx
  refine call_list_str (I.ok.hd hc) z t (fun h' tk acc' c' hk hS hacc => ?_) hz
  exact ⟨.ref s.heap.objs.size, _, I.laid (t' := tk) hk (Nat.le_refl _) (show ObjOk X.prog X.w _ h' _ (.lst _) from ⟨by rw [List.length_map, Array.length_toList]; exact hz, acc'.toList, c', vals_signs hacc, by simpa using hS⟩), rfl, q _ (I.hok.fresh (Nat.le_refl _))⟩
theorem call_tup_S (hc : X.calm = true) : CallR X (.type "tuple") rTupS := by
  intro pins s σ H xs us Q I r h
  obtain ⟨z, rfl, hz, q⟩ := h
  obtain ⟨u, rfl, rx⟩ := vals1 r
  obtain ⟨t, rfl⟩ := rx
  refine call_tuple_str (I.ok.hd hc) z t (fun h' tk acc hk hacc => ?_) hz
  have I1 : Inv X pins σ H { s with heap := h', toks := tk } := I.kept (t' := tk) hk
  have I2 : Inv X pins σ (upd H h'.objs.size (.tup (z.cps.toList.map fun c => V.str ⟨#[c]⟩))) { s with heap := h'.push { cls := .type "tuple", data := .seq acc }, toks := tk } :=
    I1.laid (t' := tk) (fun b o e => Heap.get?_push_of_some _ e) (Nat.le_refl _) (show ObjOk X.prog X.w _ _ _ (.tup _) from ⟨by rw [List.length_map, Array.length_toList]; exact hz, acc.toList, vals_signs hacc, by simpa using IsTup.new _ _⟩)
  exact ⟨.ref h'.objs.size, _, I2, rfl, q _ (I1.hok.fresh (Nat.le_refl _))⟩
theorem dq_chs {K : PySem.W.Frag} {F : Hp} (z : Str) : DqAll K F (z.cps.toList.map fun c => V.str ⟨#[c]⟩) (chs z) := by
  unfold chs
  induction z.cps.toList with
  | nil => exact .nil
  | cons c r ih => exact .cons (.str _) ih
def pList : DPr
  | [.list ds] => some (.list ds)
  | [.tuple ds] => some (.list ds)
  | [.str z] => if z.cps.size ≤ sizeLine then some (.list (chs z)) else none
  | _ => none
def pTuple : DPr
  | [.list ds] => some (.tuple ds)
  | [.tuple ds] => some (.tuple ds)
  | [.str z] => if z.cps.size ≤ sizeLine then some (.tuple (chs z)) else none
  | _ => none
theorem list_ok (hc : X.calm = true) : ∃ r, CallR X (.type "list") r ∧ PrOk X.K (dpr pList) r := by
  refine ⟨_, call_list_of.or (call_list_S hc), dprN fun F H vs xs y Q s dv e k => ?_⟩
  unfold pList at e
  split at e
  · cases e
    obtain ⟨v, rfl, d⟩ := dv.one
    obtain ⟨p, xs, rfl, h1, h2⟩ := d.lst s
    exact .inl ⟨p, xs, rfl, .inl (.of h1), fun l hl => kn s k h2 hl⟩
  · cases e
    obtain ⟨v, rfl, d⟩ := dv.one
    obtain ⟨p, xs, rfl, h1, h2⟩ := d.tup
    exact .inl ⟨p, xs, rfl, .inr (TqT.up s h1), fun l hl => kn s k h2 hl⟩
  · split at e
    · cases e
      obtain ⟨v, rfl, d⟩ := dv.one
      cases d.str
      exact .inr ⟨_, rfl, by assumption, fun l hl => kn s k (dq_chs _) hl⟩
    · cases e
  · cases e
theorem tuple_ok (hc : X.calm = true) : ∃ r, CallR X (.type "tuple") r ∧ PrOk X.K (dpr pTuple) r := by
  refine ⟨_, call_tuple_of.or (call_tup_S hc), dprN fun F H vs xs y Q s dv e k => ?_⟩
  unfold pTuple at e
  split at e
  · cases e
    obtain ⟨v, rfl, d⟩ := dv.one
    obtain ⟨p, xs, rfl, h1, h2⟩ := d.lst s
    exact .inl ⟨p, xs, rfl, .inl ⟨.of h1, fun l hl => kt s k h2 hl⟩⟩
  · cases e
    obtain ⟨v, rfl, d⟩ := dv.one
    obtain ⟨p, xs, rfl, h1, h2⟩ := d.tup
    exact .inl ⟨p, xs, rfl, .inr ⟨TqT.up s h1, kq s k (.tup h1 h2)⟩⟩
  · split at e
    · cases e
      obtain ⟨v, rfl, d⟩ := dv.one
      cases d.str
      exact .inr ⟨_, rfl, by assumption, fun l hl => kt s k (dq_chs _) hl⟩
    · cases e
  · cases e
theorem me_list1 (C : Ctx X k xw) (ha : MA X xw [a] [fa]) (hm : X.mg "list" = none) (hg : Gl X "list" := by rfl) (he : starEach [a] X.env = (false, eval a X.env) :: starEach [] X.env := by rfl) : ME X xw (.Call (.Name "list" p1) [a] [] pos) (sPr (dpr pList) [fa]) := let ⟨_, h1, h2⟩ := list_ok C.calm; me_callTy h1 h2 hg hm PyProof.Rows.boot_list ha (he := he)
theorem me_tuple1 (C : Ctx X k xw) (ha : MA X xw [a] [fa]) (hm : X.mg "tuple" = none) (hg : Gl X "tuple" := by rfl) (he : starEach [a] X.env = (false, eval a X.env) :: starEach [] X.env := by rfl) : ME X xw (.Call (.Name "tuple" p1) [a] [] pos) (sPr (dpr pTuple) [fa]) := let ⟨_, h1, h2⟩ := tuple_ok C.calm; me_callTy h1 h2 hg hm PyProof.Rows.boot_tuple ha (he := he)
/-! ### all, any, sum, max, min -/
def bls : List PyData → Option (List Bool)
  | [] => some []
  | .bool b :: r => match bls r with
    | some bs => some (b :: bs)
    | none => none
  | _ => none
def intsD : List PyData → Option (List Int)
  | [] => some []
  | .int b :: r => match intsD r with
    | some bs => some (b :: bs)
    | none => none
  | _ => none
def strsD : List PyData → Option (List Str)
  | [] => some []
  | .str b :: r => match strsD r with
    | some bs => some (b :: bs)
    | none => none
  | _ => none
theorem bls_dq {K : PySem.W.Frag} {F : Hp} : ∀ {ds : List PyData} {xs : List V} {bs : List Bool}, DqAll K F xs ds → bls ds = some bs → xs = bs.map V.bl
  | [], _, _, .nil, e => by cases e; rfl
  | d :: ds, _, _, .cons h t, e => by
    unfold bls at e
    split at e
    · rename_i q; cases q
    · rename_i b r q
      cases q
      split at e
      · cases e
        cases h
        rw [bls_dq t (by assumption)]
        rfl
      · cases e
    · cases e
theorem intsD_dq {K : PySem.W.Frag} {F : Hp} : ∀ {ds : List PyData} {xs : List V} {bs : List Int}, DqAll K F xs ds → intsD ds = some bs → xs = bs.map V.int
  | [], _, _, .nil, e => by cases e; rfl
  | d :: ds, _, _, .cons h t, e => by
    unfold intsD at e
    split at e
    · rename_i q; cases q
    · rename_i b r q
      cases q
      split at e
      · cases e
        cases h
        rw [intsD_dq t (by assumption)]
        rfl
      · cases e
    · cases e
theorem strsD_dq {K : PySem.W.Frag} {F : Hp} : ∀ {ds : List PyData} {xs : List V} {bs : List Str}, DqAll K F xs ds → strsD ds = some bs → xs = bs.map V.str
  | [], _, _, .nil, e => by cases e; rfl
  | d :: ds, _, _, .cons h t, e => by
    unfold strsD at e
    split at e
    · rename_i q; cases q
    · rename_i b r q
      cases q
      split at e
      · cases e
        cases h
        rw [strsD_dq t (by assumption)]
        rfl
      · cases e
    · cases e
def pAll : DPr
  | [.list ds] => match bls ds with
    | some bs => some (.bool (bs.all id))
    | none => none
  | _ => none
def pAny : DPr
  | [.list ds] => match bls ds with
    | some bs => some (.bool (bs.any id))
    | none => none
  | _ => none
def pSum : DPr
  | [.list ds] => match intsD ds with
    | some bs => some (.int bs.sum)
    | none => none
  | _ => none
theorem all_ok (K : PySem.W.Frag) : PrOk K (dpr pAll) (rAll K) := dprN fun F H vs xs y Q s dv e k => by
  unfold pAll at e
  split at e
  · split at e
    · rename_i bs q
      cases e
      obtain ⟨v, rfl, d⟩ := dv.one
      obtain ⟨p, xs, rfl, h1, h2⟩ := d.lst s
      exact ⟨p, bs, rfl, by rw [← bls_dq h2 q]; exact .of h1, kq s k (.bl _)⟩
    · cases e
  · cases e
theorem any_ok (K : PySem.W.Frag) : PrOk K (dpr pAny) (rAny K) := dprN fun F H vs xs y Q s dv e k => by
  unfold pAny at e
  split at e
  · split at e
    · rename_i bs q
      cases e
      obtain ⟨v, rfl, d⟩ := dv.one
      obtain ⟨p, xs, rfl, h1, h2⟩ := d.lst s
      exact ⟨p, bs, rfl, by rw [← bls_dq h2 q]; exact .of h1, kq s k (.bl _)⟩
    · cases e
  · cases e
theorem sum_ok (K : PySem.W.Frag) : PrOk K (dpr pSum) (rSum K) := dprN fun F H vs xs y Q s dv e k => by
  unfold pSum at e
  split at e
  · split at e
    · rename_i bs q
      cases e
      obtain ⟨v, rfl, d⟩ := dv.one
      obtain ⟨p, xs, rfl, h1, h2⟩ := d.lst s
      exact ⟨p, bs, rfl, by rw [← intsD_dq h2 q]; exact .of h1, kq s k (.int _)⟩
    · cases e
  · cases e
theorem me_all (C : Ctx X k xw) (ha : MA X xw [a] [fa]) (hm : X.mg "all" = none) (hg : Gl X "all" := by rfl) (he : starEach [a] X.env = (false, eval a X.env) :: starEach [] X.env := by rfl) : ME X xw (.Call (.Name "all" p1) [a] [] pos) (sPr (dpr pAll) [fa]) := me_callB (cr_all C.calm) (all_ok _) hg hm PyProof.Rows.boot_all ha (he := he)
theorem me_any (C : Ctx X k xw) (ha : MA X xw [a] [fa]) (hm : X.mg "any" = none) (hg : Gl X "any" := by rfl) (he : starEach [a] X.env = (false, eval a X.env) :: starEach [] X.env := by rfl) : ME X xw (.Call (.Name "any" p1) [a] [] pos) (sPr (dpr pAny) [fa]) := me_callB (cr_any C.calm) (any_ok _) hg hm PyProof.Rows.boot_any ha (he := he)
theorem me_sum (C : Ctx X k xw) (ha : MA X xw [a] [fa]) (hm : X.mg "sum" = none) (hg : Gl X "sum" := by rfl) (he : starEach [a] X.env = (false, eval a X.env) :: starEach [] X.env := by rfl) : ME X xw (.Call (.Name "sum" p1) [a] [] pos) (sPr (dpr pSum) [fa]) := me_callB (cr_sum C.calm) (sum_ok _) hg hm PyProof.Rows.boot_sum ha (he := he)
def pMax : DPr
  | [.int i, .int j] => some (.int (if j > i then j else i))
  | _ => none
def pMin : DPr
  | [.int i, .int j] => some (.int (if j < i then j else i))
  | _ => none
theorem max_ok (K : PySem.W.Frag) : PrOk K (dpr pMax) (fun xs H Q => ∃ i j, xs = [.int i, .int j] ∧ Q (.int (if j > i then j else i)) H) := dprN fun F H vs xs y Q s dv e k => by
  unfold pMax at e
  split at e
  · cases e
    obtain ⟨v, u, rfl, d1, d2⟩ := dv.two
    cases d1.int
    cases d2.int
    exact ⟨_, _, rfl, kq s k (.int _)⟩
  · cases e
theorem min_ok (K : PySem.W.Frag) : PrOk K (dpr pMin) (fun xs H Q => ∃ i j, xs = [.int i, .int j] ∧ Q (.int (if j < i then j else i)) H) := dprN fun F H vs xs y Q s dv e k => by
  unfold pMin at e
  split at e
  · cases e
    obtain ⟨v, u, rfl, d1, d2⟩ := dv.two
    cases d1.int
    cases d2.int
    exact ⟨_, _, rfl, kq s k (.int _)⟩
  · cases e
theorem me_max (C : Ctx X k xw) (ha : MA X xw [a, b] [fa, fb]) (hm : X.mg "max" = none) (hg : Gl X "max" := by rfl) (he : starEach [a, b] X.env = (false, eval a X.env) :: starEach [b] X.env := by rfl) (hpl : (backTo pos (starEach [b] X.env)).any (·.1) = false := by rfl) : ME X xw (.Call (.Name "max" p1) [a, b] [] pos) (sPr (dpr pMax) [fa, fb]) := me_callB (call_max2 C.calm) (max_ok _) hg hm PyProof.Rows.boot_max ha (he := he) (hpl := hpl)
theorem me_min (C : Ctx X k xw) (ha : MA X xw [a, b] [fa, fb]) (hm : X.mg "min" = none) (hg : Gl X "min" := by rfl) (he : starEach [a, b] X.env = (false, eval a X.env) :: starEach [b] X.env := by rfl) (hpl : (backTo pos (starEach [b] X.env)).any (·.1) = false := by rfl) : ME X xw (.Call (.Name "min" p1) [a, b] [] pos) (sPr (dpr pMin) [fa, fb]) := me_callB (call_min2 C.calm) (min_ok _) hg hm PyProof.Rows.boot_min ha (he := he) (hpl := hpl)
/-! ### isinstance -/
def tyN : PyData → String
  | .none => "NoneType"
  | .bool _ => "bool"
  | .int _ => "int"
  | .str _ => "str"
  | .list _ => "list"
  | .tuple _ => "tuple"
  | .dict _ => "dict"
inductive Ty where
  | int | bool | str | list | tuple
def Ty.nm : Ty → String
  | .int => "int"
  | .bool => "bool"
  | .str => "str"
  | .list => "list"
  | .tuple => "tuple"
def isT : Ty → PyData → Bool
  | .int, .int _ => true
  | .int, .bool _ => true
  | .bool, .bool _ => true
  | .str, .str _ => true
  | .list, .list _ => true
  | .tuple, .tuple _ => true
  | _, _ => false
theorem isT_kit (T : Ty) (d : PyData) : kitB (tyN d) T.nm = some (isT T d) := by
  cases T <;> cases d <;> first | rfl | decide +kernel | (unfold tyN Ty.nm isT; decide +kernel)
theorem dv_ty {K : PySem.W.Frag} {F H : Hp} {v : V} {x : PyData} (s : Sub F H) (d : Dv K F H v x) : TyX K H v (.type (tyN x)) := by
  cases x with
  | none => cases d.non; exact .base .non
  | bool b => cases d.bl; exact .base (.bl _)
  | int b => cases d.int; exact .base (.int _)
  | str b => cases d.str; exact .base (.str _)
  | list ds => obtain ⟨p, xs, rfl, h1, _⟩ := d.lst s; exact .base (.lst h1)
  | tuple ds =>
    obtain ⟨p, xs, rfl, h1, _⟩ := d.tup
    rcases TqT.up s h1 with (h | ⟨o, h⟩) | ⟨o, its, n, h, c, _⟩
    · exact .base (.tup h)
    · exact .fTuple h
    · exact .kTuple h c
  | dict ds =>
    rcases d with d | ⟨_, _, _, _, e, _⟩
    · cases d
    · cases e
def sIsi (T : Ty) (f : EF) : EF := fun ρ M => (f ρ M).bind fun w M => match vw M w with
  | some d => .ok (.d (.bool (isT T d))) M
  | none => .stuck
theorem boot_ty : ∀ T : Ty, bootBuiltins (Str.ofString T.nm) = some (.type T.nm) := by
  intro T
  cases T <;> decide +kernel
theorem me_isi (T : Ty) {x : Str} {p2 : Pos} (ha : ME X xw a fa) (hm : X.mg "isinstance" = none) (hmT : X.mg x = none) (hx : x = Str.ofString T.nm := by rfl) (hg : Gl X "isinstance" := by rfl) (hgT : Gl X x := by rfl)
    (he : starEach [a, .Name x p2] X.env = (false, eval a X.env) :: starEach [.Name x p2] X.env := by rfl) (hpl : (backTo pos (starEach [.Name x p2] X.env)).any (·.1) = false := by rfl) (he2 : starEach [.Name x p2] X.env = (false, eval (.Name x p2) X.env) :: starEach [] X.env := by rfl) :
    ME X xw (.Call (.Name "isinstance" p1) [a, .Name x p2] [] pos) (sIsi T fa) := by
  subst hx
  have n1 : Str.ofString T.nm ≠ "__name__" := by cases T <;> decide
  have n2 : (Str.ofString T.nm == ("__debug__" : Str)) = false := by cases T <;> decide
  refine PE.imp (pe_callB call_isi hg hm PyProof.Rows.boot_isinstance (pa_cons ha (pa_cons (pe_bltn (v := .ty T.nm) hgT hmT (boot_ty T) rfl n1 n2) pa_nil he2) he) (he := he) (hpl := hpl)) fun σ H Q h => ?_
  refine tG_mono (tG_bind (R2 := RW X.K) h) fun v H1 ⟨g, ρ, M, w, R, S, q, b⟩ => ?_
  cases ev : vw M w with
  | none => simp only [ev] at b; exact b.elim
  | some d =>
    simp only [ev] at b
    exact ⟨v, .ty T.nm, _, _, _, rfl, .ty _, dv_ty R.sub (vw_ok R q ev), kit_ty (isT_kit T d), b _ g H1 R (Ext.refl _ _) (.d (.bl _))⟩
/-! ### displays -/
/-- the items, as data -/
def allD : List W → Option (List PyData)
  | [] => some []
  | .d x :: ws => match allD ws with
    | some xs => some (x :: xs)
    | none => none
  | _ => none
theorem allD_ok {K : PySem.W.Frag} {g : Gh} : ∀ {ws : List W} {vs : List V} {xs : List PyData}, RWs K g vs ws → allD ws = some xs → DqAll K g.F vs xs
  | [], _, _, .nil, e => by cases e; exact .nil
  | w :: ws, _, _, .cons h t, e => by
    unfold allD at e
    split at e
    · rename_i q; cases q
    · rename_i x r q
      cases q
      split at e
      · cases e
        cases h with
        | d h => exact .cons h (allD_ok t (by assumption))
      · cases e
    · cases e
abbrev LF := Rho → List MO → Res (List W)
abbrev ML (X : Cx) (xw : WX) (es : List Expr) (f : LF) : Prop := PA X es (tG (tx X) xw (RWs X.K) f)
def sLst (f : LF) : EF := fun ρ M => (f ρ M).bind fun ws M => match allD ws with
  | some xs => if xs.length ≤ sizeLine then .ok (.d (.list xs)) M else .stuck
  | none => .stuck
/-- a tuple: of data, or with things that may grow -/
def sTup (f : LF) : EF := fun ρ M => (f ρ M).bind fun ws M => if ws.length ≤ sizeLine then match allD ws with
  | some xs => .ok (.d (.tuple xs)) M
  | none => .ok (.tup ws) M
  else .stuck
/-- a list that may grow -/
def sLive (f : LF) : EF := fun ρ M => (f ρ M).bind fun ws M => match allD ws with
  | some xs => if xs.length ≤ sizeLine then .ok (.loc M.length) (M ++ [.lst xs]) else .stuck
  | none => .stuck
theorem Rel.live {K : PySem.W.Frag} {g : Gh} {M : List MO} {H : Hp} {p : Addr} {vs : List V} {xs : List PyData} (R : Rel K g M H) (hp : H p = none) (d : DqAll K g.F vs xs) : Rel K ⟨g.ph ++ [p], g.F⟩ (M ++ [.lst xs]) (upd H p (.lst vs)) ∧ Ext g H ⟨g.ph ++ [p], g.F⟩ (upd H p (.lst vs)) := by
  have hF : g.F p = none := R.sub.none hp
  have hn : p ∉ g.ph := fun z => by obtain ⟨u, q⟩ := R.tr p z; rw [hp] at q; cases q
  have gr : Gr g ⟨g.ph ++ [p], g.F⟩ := ⟨fun n a e => by
    show (g.ph ++ [p])[n]? = some a
    rw [List.getElem?_append_left (List.getElem?_eq_some_iff.mp e).1]; exact e, Sub.refl _⟩
  have up : ∀ a o, H a = some o → upd H p (.lst vs) a = some o := fun a o e => by rw [upd_ne (ne_of_none e hp)]; exact e
  refine ⟨⟨fun a u e => up _ _ (R.sub _ _ e), by simp [R.len], fun n o e l => ?_, fun n m a e1 e2 => ?_, fun a hm => ?_, R.tab.go (Sub.refl _) (fun P ps e _ => up _ _ e) fun a hm => (List.mem_append.mp hm).imp id fun z => by rw [List.mem_singleton.mp z]; exact hp⟩, ⟨gr, fun a o e _ => .inl (up _ _ e), fun a h h' => absurd h h', fun a hm => ?_⟩⟩
  · by_cases hl : n < M.length
    · rw [List.getElem?_append_left hl] at e
      obtain ⟨a, e1, e2, e3⟩ := R.at_ n o e l
      exact ⟨a, gr.ph _ _ e1, e2, MOk.gr gr (up a) e3⟩
    · have hz : n = M.length := by
        have := (List.getElem?_eq_some_iff.mp e).1
        simp at this
        omega
      subst hz
      rw [List.getElem?_append_right (Nat.le_refl _), Nat.sub_self] at e
      cases e
      refine ⟨p, ?_, hF, vs, upd_same, d⟩
      show (g.ph ++ [p])[M.length]? = some p
      rw [List.getElem?_append_right (by rw [R.len]; exact Nat.le_refl _), R.len, Nat.sub_self]
      rfl
  · have h1 : (g.ph ++ [p])[n]? = some a := e1
    have h2 : (g.ph ++ [p])[m]? = some a := e2
    by_cases hn1 : n < g.ph.length
    · rw [List.getElem?_append_left hn1] at h1
      by_cases hm1 : m < g.ph.length
      · rw [List.getElem?_append_left hm1] at h2
        exact R.inj n m a h1 h2
      · rw [List.getElem?_append_right (by omega)] at h2
        have : a = p := by
          have := List.mem_of_getElem? h2
          simpa using this
        exact absurd (this ▸ List.mem_of_getElem? h1) hn
    · rw [List.getElem?_append_right (by omega)] at h1
      have ha : a = p := by
        have := List.mem_of_getElem? h1
        simpa using this
      by_cases hm1 : m < g.ph.length
      · rw [List.getElem?_append_left hm1] at h2
        exact absurd (ha ▸ List.mem_of_getElem? h2) hn
      · have l1 := (List.getElem?_eq_some_iff.mp e1).1
        have l2 := (List.getElem?_eq_some_iff.mp e2).1
        simp at l1 l2
        omega
  · have hm' : a ∈ g.ph ∨ a = p := by simpa using hm
    rcases hm' with z | z
    · obtain ⟨u, q⟩ := R.tr a z
      exact ⟨u, up _ _ q⟩
    · subst z; exact ⟨_, upd_same⟩
  · have hm' : a ∈ g.ph ∨ a = p := by simpa using hm
    rcases hm' with z | z
    · exact .inl z
    · subst z; exact .inr hp
theorem RWs.sub {K : PySem.W.Frag} {g : Gh} {p : Addr} {o : HO} {vs : List V} {ws : List W} (h : RWs K g vs ws) (hp : g.F p = none) : RWs K ⟨g.ph, L2.upd g.F p o⟩ vs ws := RWs.gr (g := g) (g' := ⟨g.ph, L2.upd g.F p o⟩) ⟨fun _ _ z => z, Sub.upd hp⟩ h
theorem me_lst {es : List Expr} {f : LF} (h : ML X xw es f) : ME X xw (.List es pos) (sLst f) :=
  PE.imp (pe_lst h) fun σ H Q q => tG_mono (tG_bind (R2 := RWs X.K) q) fun vs H1 ⟨g, ρ, M, ws, R, S, r, b⟩ => by
    simp only at b
    split at b
    · rename_i xs e
      split at b
      · have d := allD_ok r e
        refine ⟨by rw [d.length]; assumption, fun p hp => ?_⟩
        exact b _ ⟨g.ph, upd g.F p (.lst vs)⟩ _ (R.lay hp) (Ext.lay R.sub hp) (.d (.lst upd_same (DqAll.sub (Sub.upd (R.sub.none hp)) d)))
      · exact b.elim
    · exact b.elim
theorem me_live {es : List Expr} {f : LF} (h : ML X xw es f) : ME X xw (.List es pos) (sLive f) :=
  PE.imp (pe_lst h) fun σ H Q q => tG_mono (tG_bind (R2 := RWs X.K) q) fun vs H1 ⟨g, ρ, M, ws, R, S, r, b⟩ => by
    simp only at b
    split at b
    · rename_i xs e
      split at b
      · have d := allD_ok r e
        refine ⟨by rw [d.length]; assumption, fun p hp => ?_⟩
        obtain ⟨R', E'⟩ := Rel.live R hp d
        exact b _ _ _ R' E' (.loc (by show (g.ph ++ [p])[M.length]? = some p; rw [List.getElem?_append_right (by rw [R.len]; exact Nat.le_refl _), R.len, Nat.sub_self]; rfl))
      · exact b.elim
    · exact b.elim
theorem me_tup {x1 : Nat} {es : List Expr} {f : LF} (h : ML X xw es f) : ME X xw (.Tuple es x1 pos) (sTup f) :=
  PE.imp (pe_tup h) fun σ H Q q => tG_mono (tG_bind (R2 := RWs X.K) q) fun vs H1 ⟨g, ρ, M, ws, R, S, r, b⟩ => by
    simp only at b
    split at b
    · rename_i hz
      refine ⟨by rw [r.length]; exact hz, fun p hp => ?_⟩
      split at b
      · rename_i xs e
        exact b _ ⟨g.ph, upd g.F p (.tup vs)⟩ _ (R.lay hp) (Ext.lay R.sub hp) (.d (.tup (.of upd_same) (DqAll.sub (Sub.upd (R.sub.none hp)) (allD_ok r e))))
      · exact b _ ⟨g.ph, upd g.F p (.tup vs)⟩ _ (R.lay hp) (Ext.lay R.sub hp) (.tup (.of upd_same) (RWs.sub r (R.sub.none hp)))
    · exact b.elim
/-- *e among the items -/
def lCons (f : EF) (h : LF) : LF := fun ρ M => (f ρ M).bind fun w M1 => (h ρ M1).bind fun ws M2 => .ok (w :: ws) M2
def lNil : LF := fun _ M => .ok [] M
def lStar (f : EF) (h : LF) : LF := fun ρ M => (f ρ M).bind fun w M1 => match vw M1 w with
  | some (.list ds) => (h ρ M1).bind fun ws M2 => .ok (ds.map .d ++ ws) M2
  | some (.tuple ds) => (h ρ M1).bind fun ws M2 => .ok (ds.map .d ++ ws) M2
  | _ => .stuck
theorem ml_nil : ML X xw [] lNil := PA.imp pa_nil fun σ H Q ⟨g, ρ, M, r, s, f⟩ => f [] g H r (Ext.refl _ _) .nil
theorem ml_cons {e : Expr} {es : List Expr} {f : EF} {fs : LF} (he : ME X xw e f) (ha : ML X xw es fs) (hs : starEach (e :: es) X.env = (false, eval e X.env) :: starEach es X.env := by rfl) : ML X xw (e :: es) (lCons f fs) := by
  refine PA.imp (pa_cons he ha hs) fun σ H Q h => ?_
  refine tG_mono (tG_bind (R2 := RW X.K) h) fun v H1 ⟨g, ρ, M, w, r, s, q, b⟩ => ?_
  refine ⟨g, ρ, M, r, s, ?_⟩
  have b' : Bhd (tx X) (fun c d H => xw c d σ H) (RWs X.K) Q ((fs ρ M).bind fun ws M2 => .ok (w :: ws) M2) g H1 := b
  cases e : fs ρ M with
  | ok ws M2 =>
    rw [e] at b'
    exact fun vs g' H' r' e' q' => b' (v :: vs) g' H' r' e' (.cons (RW.gr e'.gr q) q')
  | err x M2 =>
    rw [e] at b'
    exact b'
  | stuck =>
    rw [e] at b'
    exact b'
end
end Y
namespace Y
open PySem PySem.Spec PyProof.Rows L2

section
variable {X : Cx} {xw : WX} {a b : Expr} {fa fb : EF} {pos p1 : Pos} {k : Nat}
/-! ### the script -/
def pLenS : Pr
  | [.scr ns], M => some (.d (.int ns.length), M)
  | _, _ => none
def pIxS : Pr
  | [.scr ns, .d (.int i)], M => match atI ns i with
    | some n => some (.d (.int n), M)
    | none => none
  | _, _ => none
theorem lenS_ok (K : PySem.W.Frag) : PrOk K pLenS (fun xs H Q => ∃ x n, xs = [x] ∧ LenV K x H n ∧ Q (.int n) H) := by
  intro g M H vs ws w M' Q R rw_ e k
  unfold pLenS at e
  split at e
  · cases e
    cases rw_ with
    | cons h t =>
      cases t
      cases h with
      | scr h => exact ⟨_, _, rfl, .inl ⟨_, SqL.sub R.sub h, by rw [List.length_map]⟩, k _ g H R (Ext.refl _ _) (.d (.int _))⟩
  · cases e
theorem ixS_ok (K : PySem.W.Frag) : PrOk K pIxS (r2 (rIx K)) := by
  intro g M H vs ws w M' Q R rw_ e k
  unfold pIxS at e
  split at e
  · rename_i M0 ns i
    cases q : atI ns i with
    | none => rw [q] at e; cases e
    | some n =>
      rw [q] at e
      cases e
      cases rw_ with
      | cons h t =>
        cases t with
        | cons h2 t =>
          cases t
          cases h with
          | scr h =>
            cases h2 with
            | d h2 =>
              cases h2
              refine ⟨_, _, rfl, .inl ⟨_, _, _, .int n, rfl, rfl, SqL.sub R.sub h, ?_, k _ g H R (Ext.refl _ _) (.d (.int _))⟩⟩
              unfold atI at q ⊢
              rw [List.length_map]
              cases q2 : ixN ns.length i with
              | none => rw [q2] at q; cases q
              | some j =>
                rw [q2] at q
                replace q : ns[j]? = some n := q
                show (ns.map V.int)[j]? = some (.int n)
                rw [List.getElem?_map, q]
                rfl
  · cases e
theorem me_lenS (ha : MA X xw [a] [fa]) (hm : X.mg "len" = none) (hg : Gl X "len" := by rfl) (he : starEach [a] X.env = (false, eval a X.env) :: starEach [] X.env := by rfl) : ME X xw (.Call (.Name "len" p1) [a] [] pos) (sPr pLenS [fa]) := me_callB call_len (lenS_ok _) hg hm PySem.boot_len ha (he := he)
theorem me_ixS (ha : ME X xw a fa) (hb : ME X xw b fb) (hs : PlainIx b := by exact fun _ _ => rfl) : ME X xw (.Subscript a b pos) (sPr pIxS [fa, fb]) := me_ix ix_seq (ixS_ok _) ha hb hs

/-! ### str * int -/
theorem fold_rep (z : Str) : ∀ (n : Nat) (acc : Array Nat), (List.replicate n z.cps).foldl (· ++ ·) acc = acc ++ ((List.replicate n z.cps.toList).flatten).toArray
  | 0, acc => by simp
  | n + 1, acc => by
    rw [List.replicate_succ, List.foldl_cons, fold_rep z n, List.replicate_succ, List.flatten_cons]
    apply Array.toList_inj.mp
    simp [Array.toList_append]
theorem op_repS : OpR X (binaryOp .Mult) (fun x y H Q => ∃ z k, x = .str z ∧ y = .int k ∧ 0 ≤ k ∧ k < 1048576 ∧ z.length * k.toNat ≤ sizeLine ∧ Q (.str (repS z k.toNat)) H) := by
  intro pins s σ H x y v u Q I rx ry h
  obtain ⟨z, k, rfl, rfl, h0, h1, hz, q⟩ := h
  obtain ⟨t, rfl⟩ := rx
  obtain ⟨t2, rfl⟩ := ry
  have hs : (sizeLine : Nat) ≤ 2 ^ 40 := by decide
  refine PySem.P.mul_str ?_ (fun a1 a2 => ?_) (fun a1 a2 => ?_) ?_
  · rw [decide_eq_false (by omega), decide_eq_false (by omega)]; rfl
  · have hk : 1 ≤ k := by omega
    have h3 : ((z.length : Nat) : Int) * k ≤ 2 ^ 40 := by
      have := Int.ofNat_le.mpr (Nat.le_trans hz hs)
      rw [Int.natCast_mul, Int.toNat_of_nonneg h0] at this
      exact_mod_cast this
    have h4 : ((z.length : Nat) : Int) ≤ (2 ^ 63 - 1) / k := (Int.le_ediv_iff_mul_le (by omega)).mpr (by omega)
    omega
  · exact PyProof.Rows.short24 (by
      have : (sizeLine : Nat) ≤ 16777216 := by decide
      omega)
  · by_cases hk1 : k < 1
    · rw [if_pos hk1]
      have : k.toNat = 0 := by omega
      rw [this] at q
      exact ⟨by decide, .str _, H, I.tok _, ⟨_, rfl⟩, q⟩
    · rw [if_neg hk1]
      by_cases h2 : (k == 1 || z.length == 0) = true
      · rw [if_pos h2]
        have e : repS z k.toNat = z := by
          rcases Bool.or_eq_true .. ▸ h2 with h | h
          · have : k.toNat = 1 := by
              have := eq_of_beq h
              omega
            unfold repS
            rw [this]
            simp
          · have hz0 : z.cps = #[] := Array.eq_empty_of_size_eq_zero (by simpa [Str.length] using h)
            unfold repS
            rw [hz0]
            have : (List.replicate k.toNat ([] : List Nat)).flatten = [] := by
              induction k.toNat with
              | zero => rfl
              | succ n ih => rw [List.replicate_succ, List.flatten_cons, ih]; rfl
            simp only [this]
            show (⟨#[]⟩ : Str) = z
            rw [← hz0]
        rw [e] at q
        exact ⟨.str _, H, I, ⟨_, rfl⟩, q⟩
      · rw [if_neg h2, fold_rep]
        refine ⟨?_, .str _, H, I.tok _, ⟨_, rfl⟩, ?_⟩
        · rw [Array.empty_append]
          show ((List.replicate k.toNat z.cps.toList).flatten).toArray.size ≤ sizeLine
          rw [List.size_toArray, List.length_flatten, List.map_replicate, List.sum_replicate_nat, Array.length_toList, Nat.mul_comm]
          exact hz
        · rw [Array.empty_append]; exact q
def pMul2 : DPr
  | [.str z, .int j] => if 0 ≤ j ∧ j < 1048576 ∧ z.length * j.toNat ≤ sizeLine then some (.str (repS z j.toNat)) else none
  | _ => none
theorem me_mulS (ha : ME X xw a fa) (hb : ME X xw b fb) : ME X xw (.BinOp a .Mult b pos) (sPr (dpr pMul2) [fa, fb]) := by
  refine me_bin op_repS (dpr2 (fun F H v u x y z Q s d1 d2 e k => ?_) fun xs z e => ?_) ha hb
  · unfold pMul2 at e
    split at e
    · rename_i q
      cases q
      split at e
      · rename_i hc
        cases e
        cases d1.str
        cases d2.int
        exact ⟨_, _, rfl, rfl, hc.1, hc.2.1, hc.2.2, kq s k (.str _)⟩
      · cases e
    · cases e
  · unfold pMul2 at e
    split at e <;> first | rfl | cases e

/-! ### x is True -/
def pIsB : DPr
  | [.bool a, .bool b] => some (.bool (decide (a = b)))
  | _ => none
def pNotB : DPr
  | [.bool a, .bool b] => some (.bool (!decide (a = b)))
  | _ => none
theorem isB_ok (K : PySem.W.Frag) : PrOk K (dpr pIsB) (r2 rIsB) := dpr2 (fun F H v u x y z Q s d1 d2 e k => by
  unfold pIsB at e
  split at e
  · rename_i q
    cases q
    cases e
    cases d1.bl
    cases d2.bl
    exact ⟨_, _, rfl, rfl, kq s k (.bl _)⟩
  · cases e) fun xs z e => by
  unfold pIsB at e
  split at e <;> first | rfl | cases e
theorem notB_ok (K : PySem.W.Frag) : PrOk K (dpr pNotB) (r2 rNotB) := dpr2 (fun F H v u x y z Q s d1 d2 e k => by
  unfold pNotB at e
  split at e
  · rename_i q
    cases q
    cases e
    cases d1.bl
    cases d2.bl
    exact ⟨_, _, rfl, rfl, kq s k (.bl _)⟩
  · cases e) fun xs z e => by
  unfold pNotB at e
  split at e <;> first | rfl | cases e
theorem me_isB (ha : ME X xw a fa) (hb : ME X xw b fb) (hm : behindInMarks .Is b = false := by rfl) : ME X xw (.Compare a [.Is] [b] pos) (sPr (dpr pIsB) [fa, fb]) := me_cmp op_isBl (isB_ok _) ha hb hm
theorem me_notB (ha : ME X xw a fa) (hb : ME X xw b fb) (hm : behindInMarks .IsNot b = false := by rfl) : ME X xw (.Compare a [.IsNot] [b] pos) (sPr (dpr pNotB) [fa, fb]) := me_cmp op_notBl (notB_ok _) ha hb hm
theorem mt_isB (ha : ME X xw a fa) (hb : ME X xw b fb) (hm : behindInMarks .Is b = false := by rfl) : MT X xw (.Compare a [.Is] [b] pos) (sVal (sPr (dpr pIsB) [fa, fb])) := mt_cmp op_isBl (isB_ok _) ha hb hm
theorem mt_notB (ha : ME X xw a fa) (hb : ME X xw b fb) (hm : behindInMarks .IsNot b = false := by rfl) : MT X xw (.Compare a [.IsNot] [b] pos) (sVal (sPr (dpr pNotB) [fa, fb])) := mt_cmp op_notBl (notB_ok _) ha hb hm

/-! ### -x -/
def pNeg : DPr
  | [.int i] => some (.int (-i))
  | _ => none
theorem me_neg (ha : ME X xw a fa) : ME X xw (.UnaryOp .USub a pos) (sPr (dpr pNeg) [fa]) := me_un un_neg (dpr1 (fun F H v x z Q s d e k => by
  unfold pNeg at e
  split at e
  · rename_i q
    cases q
    cases e
    cases d.int
    exact ⟨_, rfl, kq s k (.int _)⟩
  · cases e) fun xs z e => by
  unfold pNeg at e
  split at e <;> first | rfl | cases e) ha

/-! ### global constants -/
theorem me_gInt {x : Str} {i : Int} (hm' : ∃ t, X.mg x = some (.int i t)) (hg : Gl X x := by rfl) (hd : (x == ("__debug__" : Str)) = false := by decide) : ME X xw (.Name x pos) (sC (.int i)) :=
  let ⟨_, hm⟩ := hm'
  PE.imp (pe_glob hg hm (v := .int i) ⟨_, rfl⟩ hd) fun _ _ _ q => tE_const (fun _ => .int _) q

/-! ### not reached -/
def eStuck : EF := fun _ _ => .stuck
def sStuck : SF := fun _ _ => .stuck
theorem me_stuck {e : Expr} : ME X xw e eStuck := ⟨fun _ _ _ _ _ _ h => by obtain ⟨_, _, _, _, _, b⟩ := h; exact b.elim⟩
theorem ms_stuck {s : Stmt} : MS X xw s sStuck := ⟨fun _ _ _ _ _ _ h => by obtain ⟨_, _, _, _, _, b⟩ := h; exact b.elim⟩
end
end Y
namespace Y
open PySem PySem.Spec PyProof.Rows L2

/-! ### a live list is rewritten -/
theorem Rel.put {K : PySem.W.Frag} {g : Gh} {M : List MO} {H : Hp} {n : Nat} {p : Addr} {vs : List V} {xs : List PyData} (R : Rel K g M H) (hp : g.ph[n]? = some p) (hF : g.F p = none) (d : DqAll K g.F vs xs) :
    Rel K g (M.set n (.lst xs)) (upd H p (.lst vs)) ∧ Ext g H g (upd H p (.lst vs)) := by
  have hm : p ∈ g.ph := List.mem_of_getElem? hp
  have hl : n < M.length := by rw [← R.len]; exact (List.getElem?_eq_some_iff.mp hp).1
  refine ⟨⟨fun a u e => ?_, by rw [List.length_set]; exact R.len, fun m o e l => ?_, R.inj, fun a hm => ?_, R.tab.updP hm⟩, ⟨Gr.refl g, fun a o e hn => ?_, fun a h h' => absurd h h', fun a h => .inl h⟩⟩
  · rw [upd_ne (ne_of_none e hF)]; exact R.sub _ _ e
  · by_cases h : n = m
    · subst h
      rw [List.getElem?_set_self hl] at e
      cases e
      exact ⟨p, hp, hF, vs, upd_same, d⟩
    · rw [List.getElem?_set_ne h] at e
      obtain ⟨a, e1, e2, e3⟩ := R.at_ m o e l
      refine ⟨a, e1, e2, MOk.gr (Gr.refl g) (fun o' q => ?_) e3⟩
      rw [upd_ne]
      · exact q
      · intro z
        subst z
        exact h (R.inj _ _ _ hp e1)
  · by_cases h : a = p
    · subst h; exact ⟨_, upd_same⟩
    · rw [upd_ne h]; exact R.tr a hm
  · exact .inl (by rw [upd_ne (fun z => hn (by rw [z]; exact hm))]; exact e)

section
variable {X : Cx} {xw : WX} {a b : Expr} {fa fb : EF} {pos p1 : Pos} {k : Nat}
/-! ### methods -/
inductive MT' where
  | str | list
def MT'.nm : MT' → String
  | .str => "str"
  | .list => "list"
def tyW (T : MT') (M : List MO) (w : W) : Bool := match T, w with
  | .str, .d (.str _) => true
  | .list, .d (.list _) => true
  | .list, .loc n => match M[n]? with
    | some (.lst _) => true
    | some (.lsw _) => true
    | _ => false
  | _, _ => false
theorem tyW_ok {K : PySem.W.Frag} {g : Gh} {M : List MO} {H : Hp} {T : MT'} {w : W} {v : V} (R : Rel K g M H) (r : RW K g v w) (h : tyW T M w = true) : tyV K T.nm v H := by
  unfold tyW at h
  split at h
  · cases r with
    | d r => cases r; rfl
  · cases r with
    | d r => cases r with | lst h1 h2 => exact .inl ⟨rfl, _, .of (R.sub _ _ h1)⟩
  · cases r with
    | loc e =>
      split at h
      · rename_i q
        obtain ⟨b, e1, e2, xs, e3, e4⟩ := R.at_ _ _ q rfl
        rw [e] at e1
        cases e1
        exact .inl ⟨rfl, _, .of e3⟩
      · rename_i q
        obtain ⟨b, e1, e2, xs, e3, e4⟩ := R.at_ _ _ q rfl
        rw [e] at e1
        cases e1
        exact .inl ⟨rfl, _, .of e3⟩
      · cases h
  · cases h
def sMeth (T : MT') (p : Pr) (f : EF) (fs : List EF) : EF := fun ρ M => (f ρ M).bind fun w M1 => if tyW T M1 w = true then (evs fs ρ M1).bind fun ws M2 => ans (p (w :: ws) M2) else .stuck
def rM (r : V → List V → Hp → VK → Prop) : List V → Hp → VK → Prop := fun vs H Q => ∃ x xs, vs = x :: xs ∧ r x xs H Q
theorem meth_imp {T : MT'} {p : Pr} {r : V → List V → Hp → VK → Prop} (hp : PrOk X.K p (rM r)) {fs : List EF} {σ : L2.St} {H : Hp} {Q : VK} (h : tE (tx X) xw (sMeth T p fa fs) σ H Q) :
    tE (tx X) xw fa σ H fun x H1 => tyV X.K T.nm x H1 ∧ tA (tx X) xw fs σ H1 fun xs H2 => r x xs H2 Q := by
  refine tG_mono (tG_bind (R2 := RW X.K) h) fun v H1 ⟨g, ρ, M, w, R, S, q, b⟩ => ?_
  split at b
  · rename_i ht
    refine ⟨tyW_ok R q ht, ?_⟩
    refine ⟨g, ρ, M, R, S, ?_⟩
    cases e : evs fs ρ M with
    | stuck => rw [e] at b; exact b
    | err x M2 => rw [e] at b; exact b
    | ok ws M2 =>
      rw [e] at b
      intro vs g' H' R' E' q'
      obtain ⟨x, xs, e1, h1⟩ := bhd_ans (T := tx X) hp R' (.cons (RW.gr E'.gr q) q') (Bhd.later b E')
      cases e1
      exact h1
  · exact b.elim
theorem me_meth0 (T : MT') {o : Expr} {name : Str} {apos cpos : Pos} {id : String} {r : V → List V → Hp → VK → Prop} {p : Pr} (pa : PlainAttrs T.nm) (slot : Slot T.nm name id) (hty : typeOf (.builtin id) = pure (.type "method_descriptor")) (hm : MtR X id r) (hp : PrOk X.K p (rM r)) (ho : ME X xw o fa)
    (hbase : attributeBase o name X.env (eval o X.env) = eval o X.env := by rfl) (hline : (apos.endLine == cpos.line) = true := by rfl) : ME X xw (.Call (.Attribute o name apos) [] [] cpos) (sMeth T p fa []) :=
  PE.imp (pe_bm0 pa slot hty hm ho hbase hline) fun σ H Q h => tG_mono (meth_imp hp h) fun v H1 ⟨t, ⟨g, ρ, M, R, S, b⟩⟩ => ⟨t, b [] g H1 R (Ext.refl _ _) .nil⟩
theorem me_meth (T : MT') {o e : Expr} {es : List Expr} {fs : List EF} {name : Str} {apos cpos : Pos} {id : String} {r : V → List V → Hp → VK → Prop} {p : Pr} (pa : PlainAttrs T.nm) (slot : Slot T.nm name id) (hty : typeOf (.builtin id) = pure (.type "method_descriptor")) (hm : MtR X id r) (hp : PrOk X.K p (rM r)) (ho : ME X xw o fa) (ha : MA X xw (e :: es) fs)
    (hbase : attributeBase o name X.env (eval o X.env) = eval o X.env := by rfl)
    (hfew : ((backTo cpos (starEach (e :: es) X.env)).all (fun x => !x.1) && (backToKw cpos (keywordEach [] X.env)).all (fun x => x.1.isSome)
      && decide ((e :: es).length + ([] : List Keyword).length + (if ([] : List Keyword).isEmpty then 0 else 1) < 30)) = true := by rfl)
    (hline : (apos.endLine == cpos.line) = true := by rfl) (hs : starEach (e :: es) X.env = (false, eval e X.env) :: starEach es X.env := by rfl) (hplain : (backTo cpos (starEach es X.env)).any (·.1) = false := by rfl) :
    ME X xw (.Call (.Attribute o name apos) (e :: es) [] cpos) (sMeth T p fa fs) :=
  PE.imp (pe_bm pa slot hty hm ho ha hbase hfew hline hs hplain) fun σ H Q h => meth_imp hp h
/-- data methods -/
theorem dprM {K : PySem.W.Frag} {p : DPr} {r : V → List V → Hp → VK → Prop} (h : ∀ (F H : Hp) (v : V) (vs : List V) (x : PyData) (xs : List PyData) (z : PyData) (Q : VK), Sub F H → Dv K F H v x → DvAll K F H vs xs → p (x :: xs) = some z → (∀ v F' H', Lay F H F' H' → Dq K F' v z → Q v H') → r v vs H Q)
    (h0 : p [] = none := by rfl) : PrOk K (dpr p) (rM r) := dpr_ok fun F H vs xs y Q s dv e k => by
  cases dv with
  | nil => rw [h0] at e; cases e
  | cons a t => exact ⟨_, _, rfl, h F H _ _ _ _ y Q s a t e k⟩
def pJoin : DPr
  | [.str a, .list ds] => match strsD ds with
    | some ys => if (ys.map (·.length)).sum + ys.length * a.length ≤ 16777216 then some (.str (Txt.join a ys)) else none
    | none => none
  | [.str a, .tuple ds] => match strsD ds with
    | some ys => if (ys.map (·.length)).sum + ys.length * a.length ≤ 16777216 then some (.str (Txt.join a ys)) else none
    | none => none
  | _ => none
def pCount : DPr
  | [.str a, .str b] => some (.int (Txt.count a b))
  | _ => none
def pUpper : DPr
  | [.str a] => if a.length ≤ 5592405 then some (.str (Txt.upper a)) else none
  | _ => none
variable {o e : Expr} {es : List Expr} {fs : List EF} {apos cpos : Pos}
theorem me_join (ho : ME X xw o fa) (ha : MA X xw [a] [fb])
    (hbase : attributeBase o "join" X.env (eval o X.env) = eval o X.env := by rfl)
    (hfew : ((backTo cpos (starEach [a] X.env)).all (fun x => !x.1) && (backToKw cpos (keywordEach [] X.env)).all (fun x => x.1.isSome)
      && decide ([a].length + ([] : List Keyword).length + (if ([] : List Keyword).isEmpty then 0 else 1) < 30)) = true := by rfl)
    (hline : (apos.endLine == cpos.line) = true := by rfl) (hs : starEach [a] X.env = (false, eval a X.env) :: starEach [] X.env := by rfl) : ME X xw (.Call (.Attribute o "join" apos) [a] [] cpos) (sMeth .str (dpr pJoin) fa [fb]) := by
  refine me_meth .str F.plainAttrs_str F.slot_str_join F.type_str_join mt_join (dprM fun F H v vs x xs z Q s d ds e k => ?_) ho ha hbase hfew hline hs
  unfold pJoin at e
  split at e
  · rename_i q
    cases q
    split at e
    · rename_i ys hy
      split at e
      · cases e
        cases d.str
        obtain ⟨v, rfl, d⟩ := ds.one
        obtain ⟨p, xs, rfl, h1, h2⟩ := d.lst s
        exact ⟨_, p, ys, rfl, rfl, .inl (by rw [← strsD_dq h2 hy]; exact .of h1), by assumption, kq s k (.str _)⟩
      · cases e
    · cases e
  · rename_i q
    cases q
    split at e
    · rename_i ys hy
      split at e
      · cases e
        cases d.str
        obtain ⟨v, rfl, d⟩ := ds.one
        obtain ⟨p, xs, rfl, h1, h2⟩ := d.tup
        exact ⟨_, p, ys, rfl, rfl, .inr (by rw [← strsD_dq h2 hy]; exact TqT.up s h1), by assumption, kq s k (.str _)⟩
      · cases e
    · cases e
  · cases e
theorem me_count (ho : ME X xw o fa) (ha : MA X xw [a] [fb])
    (hbase : attributeBase o "count" X.env (eval o X.env) = eval o X.env := by rfl)
    (hfew : ((backTo cpos (starEach [a] X.env)).all (fun x => !x.1) && (backToKw cpos (keywordEach [] X.env)).all (fun x => x.1.isSome)
      && decide ([a].length + ([] : List Keyword).length + (if ([] : List Keyword).isEmpty then 0 else 1) < 30)) = true := by rfl)
    (hline : (apos.endLine == cpos.line) = true := by rfl) (hs : starEach [a] X.env = (false, eval a X.env) :: starEach [] X.env := by rfl) : ME X xw (.Call (.Attribute o "count" apos) [a] [] cpos) (sMeth .str (dpr pCount) fa [fb]) := by
  refine me_meth .str F.plainAttrs_str F.slot_str_count F.type_str_count mt_count (dprM fun F H v vs x xs z Q s d ds e k => ?_) ho ha hbase hfew hline hs
  unfold pCount at e
  split at e
  · rename_i q
    cases q
    cases e
    cases d.str
    obtain ⟨v, rfl, d⟩ := ds.one
    cases d.str
    exact ⟨_, _, rfl, rfl, kq s k (.int _)⟩
  · cases e
theorem me_upper (ho : ME X xw o fa)
    (hbase : attributeBase o "upper" X.env (eval o X.env) = eval o X.env := by rfl)
    (hline : (apos.endLine == cpos.line) = true := by rfl) : ME X xw (.Call (.Attribute o "upper" apos) [] [] cpos) (sMeth .str (dpr pUpper) fa []) := by
  refine me_meth0 .str F.plainAttrs_str F.slot_str_upper F.type_str_upper mt_upper (dprM fun F H v vs x xs z Q s d ds e k => ?_) ho hbase hline
  unfold pUpper at e
  split at e
  · rename_i q
    cases q
    split at e
    · cases e
      cases d.str
      cases ds
      exact ⟨_, rfl, rfl, by assumption, kq s k (.str _)⟩
    · cases e
  · cases e
/-! on live lists -/
def pAppend : Pr
  | [.loc n, .d x], M => match M[n]? with
    | some (.lst ds) => if ds.length < sizeLine then some (.d .none, M.set n (.lst (ds ++ [x]))) else none
    | _ => none
  | _, _ => none
theorem append_ok (K : PySem.W.Frag) : PrOk K pAppend (rM rAppend) := by
  intro g M H vs ws w M' Q R rw_ e k
  unfold pAppend at e
  split at e
  · split at e
    · rename_i q
      split at e
      · cases e
        cases rw_ with
        | cons h t =>
          cases t with
          | cons h2 t =>
            cases t
            cases h with
            | loc h =>
              cases h2 with
              | d h2 =>
                obtain ⟨p, e1, e2, xs, e3, e4⟩ := R.at_ _ _ q rfl
                rw [h] at e1
                cases e1
                obtain ⟨R', E'⟩ := Rel.put R h e2 (e4.append (.cons h2 .nil))
                exact ⟨_, _, rfl, _, xs, _, rfl, rfl, e3, by rw [e4.length]; assumption, k _ g _ R' E' (.d .non)⟩
      · cases e
    · cases e
  · cases e
theorem me_append (ho : ME X xw o fa) (ha : MA X xw [a] [fb])
    (hbase : attributeBase o "append" X.env (eval o X.env) = eval o X.env := by rfl)
    (hfew : ((backTo cpos (starEach [a] X.env)).all (fun x => !x.1) && (backToKw cpos (keywordEach [] X.env)).all (fun x => x.1.isSome)
      && decide ([a].length + ([] : List Keyword).length + (if ([] : List Keyword).isEmpty then 0 else 1) < 30)) = true := by rfl)
    (hline : (apos.endLine == cpos.line) = true := by rfl) (hs : starEach [a] X.env = (false, eval a X.env) :: starEach [] X.env := by rfl) : ME X xw (.Call (.Attribute o "append" apos) [a] [] cpos) (sMeth .list pAppend fa [fb]) :=
  me_meth .list F.plainAttrs_list F.slot_list_append F.type_list_append mt_append (append_ok _) ho ha hbase hfew hline hs
/-! ### target = value -/
def sAsg (f : EF) (gt : GF) : SF := fun ρ M => match f ρ M with
  | .ok w M1 => match gt w ρ M1 with
    | some (ρ1, M2) => .nx ρ1 M2
    | none => .stuck
  | .err e M1 => .er e ρ M1
  | .stuck => .stuck
theorem ms_asg {tg e : Expr} {f : EF} {us : List Nat} {gt : GF} (he : ME X xw e f) (hg : MG X tg us gt) (hs : swapsWithSole [tg] e pos.line X.env = pure false := by rfl) (hw : swappedStores [tg] e X.env = pure none := by rfl)
    (h1 : (assignEach [tg] X.env).map (·.2) = [assign tg X.env] := by rfl) : MS X xw (.Assign [tg] e pos) (sAsg f gt) :=
  PS.imp (ps_asg he hg hs hw h1) fun D σ H ⟨g, ρ, M, R, S, b⟩ => by
    refine ⟨g, ρ, M, R, S, ?_⟩
    unfold sAsg at b
    cases e : f ρ M with
    | stuck => rw [e] at b; exact b
    | err x M2 => rw [e] at b; exact fun c d g' H' r' e' q' => b c d σ g' H' r' e' (S.gr e'.gr) q'
    | ok w M1 =>
      rw [e] at b
      intro v g1 H1 R1 E1 rw_
      cases e2 : gt w ρ M1 with
      | none => simp only [e2] at b; exact b.elim
      | some y =>
        obtain ⟨ρ1, M2⟩ := y
        simp only [e2] at b
        exact ⟨g1, ρ, M1, w, R1, S.gr E1.gr, rw_, ρ1, M2, e2, fun σ' g' H' R' E' S' _ => b σ' g' H' R' (E1.trans E') S'⟩
/-- o[i] = .. on a live list -/
def gS (fo fi : EF) : GF := fun w ρ M => match fo ρ M with
  | .ok (.loc n) M1 => match fi ρ M1 with
    | .ok (.d (.int i)) M2 => match M2[n]? with
      | some (.lst ds) => match w, ixN ds.length i with
        | .d x, some j => some (ρ, M2.set n (.lst (ds.set j x)))
        | _, _ => none
      | _ => none
    | _ => none
  | _ => none
theorem mg_sub {o i : Expr} {fo fi : EF} (ho : ME X xw0 o fo) (hi : ME X xw0 i fi)
    (ha : ∀ v, assign (.Subscript o i pos) X.env v = (do
      let ov ← holding [v] (eval o X.env)
      let iv ← holding [v, ov] (eval i X.env)
      standAt pos
      holding [v, ov, iv] (setItem ov iv v)
      release [v, ov, iv] []) := by intro _; rfl) : MG X (.Subscript o i pos) [] (gS fo fi) :=
  PG.imp (pg_sub ho hi set_list ha) fun v σ H Q ⟨g, ρ, M, w, R, S, r, ρ', M', e, k⟩ => by
    unfold gS at e
    split at e
    · rename_i n M1 eo
      split at e
      · rename_i i M2 ei
        split at e
        · rename_i ds q
          split at e
          · rename_i x j hj
            cases e
            refine ⟨g, ρ, M, R, S, ?_⟩
            rw [eo]
            intro ov g1 H1 R1 E1 r1
            refine ⟨g1, ρ, M1, R1, S.gr E1.gr, ?_⟩
            rw [ei]
            intro iv g2 H2 R2 E2 r2
            cases r1 with
            | loc r1 =>
              cases r2 with
              | d r2 =>
                cases r2
                cases r with
                | d r =>
                  have h1 := E2.gr.ph _ _ r1
                  obtain ⟨p, e1, e2, xs, e3, e4⟩ := R2.at_ _ _ q rfl
                  rw [h1] at e1
                  cases e1
                  have r' := Dq.sub (E1.gr.F.trans E2.gr.F) r
                  obtain ⟨R', E'⟩ := Rel.put R2 h1 e2 (e4.set r' j)
                  refine ⟨_, xs, i, j, rfl, rfl, e3, by rw [e4.length]; exact hj, ?_⟩
                  exact k σ g2 _ R' ((E1.trans E2).trans E') (S.gr (E1.gr.trans E2.gr)) ⟨rfl, fun _ _ => rfl⟩
          · cases e
        · cases e
      · cases e
    · cases e
/-! ### a, b = x, y -/
def sPar2 (i j : Nat) (fs : List EF) : SF := fun ρ M => match evs fs ρ M with
  | .ok [w1, w2] M1 => .nx ((ρ.set i (some w1)).set j (some w2)) M1
  | .err e M1 => .er e ρ M1
  | _ => .stuck
def sPar3 (i j l : Nat) (fs : List EF) : SF := fun ρ M => match evs fs ρ M with
  | .ok [w1, w2, w3] M1 => .nx (((ρ.set i (some w1)).set j (some w2)).set l (some w3)) M1
  | .err e M1 => .er e ρ M1
  | _ => .stuck
theorem ms_par2 {x y : Str} {px py pt : Pos} {kt k2 pt2} {fs : List EF} (C : Ctx X k xw) (i j : Nat) (ha : MA X xw [a, b] fs) (hi : X.N[i]? = some x := by rfl) (hj : X.N[j]? = some y := by rfl) (hij : i ≠ j := by decide)
    (hx : X.env.scope.names.lookup x = some .local := by rfl) (hy : X.env.scope.names.lookup y = some .local := by rfl)
    (hw : swappedStores [.Tuple [.Name x px, .Name y py] kt pt] (.Tuple [a, b] k2 pt2) X.env = pure (some [x, y]) := by rfl)
    (hs : swapsWithSole [.Tuple [.Name x px, .Name y py] kt pt] (.Tuple [a, b] k2 pt2) pos.line X.env = pure false := by rfl) :
    MS X xw (.Assign [.Tuple [.Name x px, .Name y py] kt pt] (.Tuple [a, b] k2 pt2) pos) (sPar2 i j fs) :=
  PS.imp (ps_par C.calm C.nd hi hj hij hx hy ha hw hs) fun D σ H ⟨g, ρ, M, R, S, q⟩ => by
    refine ⟨g, ρ, M, R, S, ?_⟩
    unfold sPar2 at q
    split at q
    · rename_i w1 w2 M1 e
      rw [e]
      intro vs g' H' R' E' rw_
      cases rw_ with
      | cons r1 t =>
        cases t with
        | cons r2 t =>
          cases t
          exact ⟨_, _, rfl, q _ g' H' R' E' (((S.gr E'.gr).set i r1).set j r2)⟩
    · rename_i e
      rw [e]
      exact fun c d g' H' r' e' q' => q c d σ g' H' r' e' (S.gr e'.gr) q'
    · exact q.elim
theorem ms_par3 {x y z : Str} {c : Expr} {px py pz pt : Pos} {kt k2 pt2} {fs : List EF} (C : Ctx X k xw) (i j l : Nat) (ha : MA X xw [a, b, c] fs) (hi : X.N[i]? = some x := by rfl) (hj : X.N[j]? = some y := by rfl) (hl : X.N[l]? = some z := by rfl) (hij : i ≠ j := by decide) (hil : i ≠ l := by decide) (hjl : j ≠ l := by decide)
    (hx : X.env.scope.names.lookup x = some .local := by rfl) (hy : X.env.scope.names.lookup y = some .local := by rfl) (hz : X.env.scope.names.lookup z = some .local := by rfl)
    (hw : swappedStores [.Tuple [.Name x px, .Name y py, .Name z pz] kt pt] (.Tuple [a, b, c] k2 pt2) X.env = pure (some [x, y, z]) := by rfl)
    (hs : swapsWithSole [.Tuple [.Name x px, .Name y py, .Name z pz] kt pt] (.Tuple [a, b, c] k2 pt2) pos.line X.env = pure false := by rfl) :
    MS X xw (.Assign [.Tuple [.Name x px, .Name y py, .Name z pz] kt pt] (.Tuple [a, b, c] k2 pt2) pos) (sPar3 i j l fs) :=
  PS.imp (ps_par3 C.calm C.nd hi hj hl hij hil hjl hx hy hz ha hw hs) fun D σ H ⟨g, ρ, M, R, S, q⟩ => by
    refine ⟨g, ρ, M, R, S, ?_⟩
    unfold sPar3 at q
    split at q
    · rename_i w1 w2 w3 M1 e
      rw [e]
      intro vs g' H' R' E' rw_
      cases rw_ with
      | cons r1 t =>
        cases t with
        | cons r2 t =>
          cases t with
          | cons r3 t =>
            cases t
            exact ⟨_, _, _, rfl, q _ g' H' R' E' ((((S.gr E'.gr).set i r1).set j r2).set l r3)⟩
    · rename_i e
      rw [e]
      exact fun c d g' H' r' e' q' => q c d σ g' H' r' e' (S.gr e'.gr) q'
    · exact q.elim
/-! ### zip of two texts -/
def itZS (fs : List EF) : IF := fun ρ M => (evs fs ρ M).bind fun ws M => match ws with
  | [.d (.str x), .d (.str y)] => .ok (prs (chs x) (chs y)) M
  | _ => .stuck
theorem prs_get {xs ys : List PyData} {i : Nat} {d : PyData} (e : (prs xs ys)[i]? = some d) : ∃ a b, xs[i]? = some a ∧ ys[i]? = some b ∧ d = .tuple [a, b] := by
  unfold prs at e
  rw [List.getElem?_map] at e
  cases q : (xs.zip ys)[i]? with
  | none => rw [q] at e; cases e
  | some p =>
    rw [q] at e
    cases e
    obtain ⟨a, b⟩ := p
    rw [List.getElem?_zip_eq_some] at q
    exact ⟨a, b, q.1, q.2, rfl⟩
theorem mi_zipS {e e2 : Expr} {p tpos : Pos} {elts : List Expr} {kk : Nat} {fs : List EF} (ha : MA X xw [e, e2] fs) (hm : X.mg "zip" = none) (hg : Gl X "zip" := by rfl)
    (hs : starEach [e, e2] X.env = (false, eval e X.env) :: starEach [e2] X.env := by rfl) (hpl : (backTo pos (starEach [e2] X.env)).any (·.1) = false := by rfl) :
    MI X xw (.Tuple elts kk tpos) (.Call (.Name "zip" p) [e, e2] [] pos) (itZS fs) :=
  PI.imp (pi_zipS hg hm ha hs hpl) fun σ H R h => tG_mono (tG_bind (R2 := RWs X.K) h) fun vs H1 ⟨g, ρ, M, ws, R1, S, r, b⟩ => by
    split at b
    · rename_i x y
      cases r with
      | cons r1 t =>
        cases t with
        | cons r2 t =>
          cases t
          cases r1 with
          | d r1 =>
            cases r2 with
            | d r2 =>
              cases r1
              cases r2
              refine ⟨x, y, rfl, b _ g H1 R1 (Ext.refl _ _) (itok_pairs ?_ fun i d e => ?_)⟩
              · unfold prs
                rw [List.length_map, List.length_zip, chs_len, chs_len]
              · obtain ⟨a, b, e1, e2, rfl⟩ := prs_get e
                obtain ⟨c, h1, rfl⟩ := chs_get e1
                obtain ⟨c', h2, rfl⟩ := chs_get e2
                refine ⟨.str ⟨#[c]⟩, .str ⟨#[c']⟩, _, _, ?_, rfl, fun _ _ => ⟨.str _, .str _⟩⟩
                unfold zps
                rw [h1, h2]
    · exact b.elim
/-! ### list(..) that may grow -/
def sLiveOf (f : EF) : EF := fun ρ M => (f ρ M).bind fun w M => match vw M w with
  | some x => match pList [x] with
    | some (.list ds) => .ok (.loc M.length) (M ++ [.lst ds])
    | _ => .stuck
  | none => .stuck
theorem me_liveL (C : Ctx X k xw) (ha : MA X xw [a] [fa]) (hm : X.mg "list" = none) (hg : Gl X "list" := by rfl) (he : starEach [a] X.env = (false, eval a X.env) :: starEach [] X.env := by rfl) : ME X xw (.Call (.Name "list" p1) [a] [] pos) (sLiveOf fa) := by
  refine PE.imp (pe_callTy (call_list_of.or (call_list_S C.calm)) hg hm PyProof.Rows.boot_list ha (he := he)) fun σ H Q h => ?_
  have h' : tE (tx X) xw (sPr (fun ws M => match ws with
    | [w] => match vw M w with
      | some x => match pList [x] with
        | some (.list ds) => some (.loc M.length, M ++ [.lst ds])
        | _ => none
      | none => none
    | _ => none) [fa]) σ H Q := by
    obtain ⟨g, ρ, M, R, S, b⟩ := h
    refine ⟨g, ρ, M, R, S, ?_⟩
    unfold sLiveOf at b
    unfold sPr evs evs
    cases e : fa ρ M with
    | stuck => rw [e] at b; exact b
    | err x M2 => rw [e] at b; exact b
    | ok w M1 =>
      rw [e] at b
      simp only [Res.bind] at b ⊢
      cases e1 : vw M1 w with
      | none => rw [e1] at b; exact b.elim
      | some x =>
        rw [e1] at b
        simp only at b ⊢
        split at b
        · exact b
        · exact b.elim
  refine prim_args (T := tx X) (r := fun xs H Q => (∃ p ys, xs = [V.ref p] ∧ (SqL X.K H p ys ∨ SqT X.K H p ys) ∧ ∀ (l : Addr), H l = none → Q (V.ref l) (upd H l (HO.lst ys))) ∨ rListS xs H Q) (fun g M H vs ws w M' Q R rw_ e k => ?_) h'
  split at e
  · split at e
    · rename_i x hx
      split at e
      · rename_i ds hd
        cases e
        cases rw_ with
        | cons h t =>
          cases t
          have dv := vw_ok R h hx
          have kk : ∀ (p : Addr) (xs : List V), H p = none → DqAll X.K g.F xs ds → Q (.ref p) (upd H p (.lst xs)) := fun p xs hp d => by
            obtain ⟨R', E'⟩ := Rel.live R hp d
            exact k _ _ _ R' E' (.loc (by show (g.ph ++ [p])[M.length]? = some p; rw [List.getElem?_append_right (by rw [R.len]; exact Nat.le_refl _), R.len, Nat.sub_self]; rfl))
          have s := R.sub
          unfold pList at hd
          split at hd
          · rename_i q
            cases q
            cases hd
            obtain ⟨p, xs, rfl, h1, h2⟩ := dv.lst s
            exact .inl ⟨p, xs, rfl, .inl (.of h1), fun l hl => kk l xs hl h2⟩
          · rename_i q
            cases q
            cases hd
            obtain ⟨p, xs, rfl, h1, h2⟩ := dv.tup
            exact .inl ⟨p, xs, rfl, .inr (TqT.up s h1), fun l hl => kk l xs hl h2⟩
          · rename_i q
            cases q
            split at hd
            · cases hd
              cases dv.str
              exact .inr ⟨_, rfl, by assumption, fun l hl => kk l _ hl (dq_chs _)⟩
            · cases hd
          · cases hd
      · cases e
    · cases e
  · cases e
end
end Y
namespace Y
open PySem PySem.Spec PyProof.Rows L2
theorem cxNo {P : Program} {w : World} {outer : List Env} {H : Hp} {s : Shared} {u : Value} {s' : Shared} : ¬ L2.CX P w outer H s (fun _ _ _ => False) u s' :=
  fun ⟨_, _, _, _, _, _, _, _, _, _, _, _, z⟩ => z
theorem law_callM {P : Program} {w : World} {K : PySem.W.Frag} {mg mb : Str → Option Value} {k : Nat} {fa a : Addr} {x : Str} {mf : MF} {s1 : Shared} {vz : List Value} {nz : List Int}
    (kx : K.In s1.heap) (nA : s1.heap.Ns mainGlobals mg) (nB : s1.heap.Ns builtinsNs mb) (nC : ∀ x : Str, x ≠ "__name__" → mb x = bootBuiltins x) (lm : s1.heap.NoLimit) (gn : s1.gens = #[])
    (aH : s1.heap.get? a = some { cls := .type "list", data := .seq vz.toArray }) (iA : IntsAre vz nz) (lN : nz.length ≤ sizeLine) (rm : Room k callerA)
    {nm : Str} (F : ∀ base : Heap, Cal P w K mg base k nm [x] mf) (fH : mg nm = some (.ref fa))
    (spH : ∀ G : Hp, Only G → SqL K G a (nz.map V.int) → spM ⟨K, mg⟩ mf [.ref a] G (fun v5 _ => v5 = .bl true) fun _ _ _ => False) :
    codeAny (model P w) callerA (.call (.ref fa) ⟨[.ref a], []⟩) (fun res s2 => res = .ok (.ret (.bool true)) ∧ OldK s1.heap s2.heap ∧ s2.os = s1.os ∧ AllBare s2.gens) s1 := by
  have vr := vals_ints iA
  have vl := iA.length
  have heart : ∀ G : Hp, Only G → SqL K G a (nz.map V.int) → HOk P w G s1.heap → (∀ bb, G bb ≠ none → bb = a) → (G a ≠ none → K.lookup a = none) →
      codeAny (model P w) callerA (.call (.ref fa) ⟨[.ref a], []⟩) (fun res s2 => res = .ok (.ret (.bool true)) ∧ OldK s1.heap s2.heap ∧ s2.os = s1.os ∧ AllBare s2.gens) s1 := by
    intro G oO sS okH aA kA
    have atB : ∀ {bb : Addr} {ob : Obj}, s1.heap.get? bb = some ob → G bb = none → (hidT s1.heap G).get? bb = some ob := fun e5 n => hidT_get e5 n
    have neA : ∀ {bb : Addr} {ob : Obj} {es5 : Array DictEntry} {ep5 : Nat}, s1.heap.get? bb = some ob → ob.data = .dict es5 ep5 → G bb = none := fun {bb ob es5 ep5} e5 d5 => by
      cases qq : G bb with
      | none => rfl
      | some uu =>
        have ee : bb = a := aA bb (by rw [qq]; simp)
        subst ee
        rw [aH] at e5; cases e5
        have dd2 : Data.seq vz.toArray _ = Data.dict es5 ep5 := d5
        cases dd2
    have nmK : ∀ {bb : Addr} {m5 : Str → Option Value}, s1.heap.Ns bb m5 → (hidT s1.heap G).Ns bb m5 := fun {bb m5} ⟨ob, es5, ep5, e5, d5, res⟩ => ⟨ob, es5, ep5, atB e5 (neA e5 d5), d5, res⟩
    have kB : K.In (hidT s1.heap G) := fun bb ob e5 => atB (kx bb ob e5) (by
      cases qq : G bb with
      | none => rfl
      | some uu =>
        have ee : bb = a := aA bb (by rw [qq]; simp)
        subst ee
        rw [kA (by rw [qq]; simp)] at e5; cases e5)
    have md : Mod K mg (hidT s1.heap G) := ⟨kB, nmK nA, ⟨mb, nmK nB, nC⟩, let ⟨mc, h1, h2⟩ := lm; ⟨mc, nmK h1, h2⟩⟩
    have env : Env0 P w K mg (hidT s1.heap G) callerA [] s1 G := ⟨rfl, md, fun bb ob e5 => of_hidT e5, Nat.le_of_eq (hidT_size _ _), trivial, fun bb nB => absurd (show bb ∈ ([] : List Addr) from nB) (by simp), okH, .of_eq gn⟩
    obtain ⟨f1, fd, F1, f2, _, bd⟩ := (F (hidT s1.heap G)).ex
    rw [fH] at f2
    cases f2
    refine codeAny_mono (F1.run callerA [] s1 G ⟨[.ref a], []⟩ [.ref a] [.ref a] _ _ rm rfl env (bd s1 [.ref a] kx rfl) (.cons rfl .nil) rfl (spH G oO sS)) fun res s2 h5 => ?_
    cases res with
    | error e5 => exact (cxNo h5).elim
    | ok flw =>
      cases flw with
      | next => exact False.elim h5
      | brk => exact False.elim h5
      | cont => exact False.elim h5
      | ret uu =>
        obtain ⟨v5, H', oS, br, unt, okH2, r9, qq⟩ := h5
        have q9 : v5 = .bl true := qq
        subst q9
        obtain rfl : uu = Value.bool true := r9
        refine ⟨rfl, OldK.of_keep fun bb ob e5 => ?_, oS, br⟩
        cases qq : G bb with
        | none => exact unt.keep bb ob e5 qq (by intro zx; exact absurd (show bb ∈ ([] : List Addr) from zx) (by simp)) (by simp)
        | some uu =>
          rcases oO bb with zx | ⟨ob, xz, zx⟩
          · rw [qq] at zx; cases zx
          · have zz := unt.frzs bb ob _ zx
            obtain ⟨ea, _⟩ := okH bb _ zx
            obtain ⟨eb, _⟩ := okH2 bb _ zz
            rw [e5] at ea; cases ea
            exact eb
  cases kL : K.lookup a with
  | some ob =>
    have e5 := kx a ob kL
    rw [aH] at e5
    cases e5
    refine heart (fun _ => none) (fun _ => .inl rfl) (.inr ⟨_, vz.toArray, _, kL, rfl, rfl, rfl, by rw [List.size_toArray, vl]; exact lN, by simpa using vr⟩) (fun bb uu zx => by have z9 : (none : Option HO) = some uu := zx; cases z9) (fun bb zx => absurd rfl zx) fun zx => absurd rfl zx
  | none =>
    refine heart (fun bb => if bb = a then some (.frz { cls := .type "list", data := .seq vz.toArray } (.lst (nz.map V.int))) else none) (fun bb => ?_) (.inl (.inr ⟨{ cls := .type "list", data := .seq vz.toArray }, if_pos rfl⟩)) (fun bb uu zx => ?_) (fun bb zx => ?_) fun _ => kL
    · by_cases nB : bb = a
      · exact .inr ⟨_, _, if_pos nB⟩
      · exact .inl (if_neg nB)
    · by_cases nB : bb = a
      · have z9 := (if_pos nB).symm.trans zx
        cases z9
        subst nB
        exact ⟨aH, by rw [List.length_map]; exact lN, vz, _, vr, aH⟩
      · have z9 := (if_neg nB).symm.trans zx
        cases z9
    · by_cases nB : bb = a
      · exact nB
      · exact absurd (if_neg nB) zx
/-- the law's goal by the mirror of its def -/
theorem walk_ofM {l : PySem.W.OpenLaw} {n k : Nat} {q : Program} {loose : List Str} {XP : (Str → Option Value) → Heap → Prop} {YP : World → Heap → Prop} {d : DefRec} {K : Params → PySem.W.Frag} {mf : MF} {x : Str}
    (hn : l.most = some n) (hn2 : n ≤ sizeLine) (hdf : d.params.defaults = []) (rm : Room k callerA) (hY : ∀ (w : World) (h : Heap), YP w h → (K w.params).In h)
    (F : ∀ (w : World) (mg : Str → Option Value) (fa : Addr) (h : Heap), (K w.params).In h → h.Ns mainGlobals mg → mg d.name = some (.ref fa) → ∀ base : Heap, Cal l.prog w (K w.params) mg base k d.name [x] mf)
    (hm : ∀ ns : List Int, ns.length ≤ n → ∃ M, mf [.scr ns] [] = .ok (.d (.bool true)) M) (hN : lamNames = [] := by rfl) : PySem.W.WalkO q loose XP YP l.row.toRowW d [] (fun f vs => PySem.call f vs) := by
  refine Att.attach_call hn hdf fun w s0 s1 mg mb fa o pm cd doc a vs ns G Y ho hd hcd hmg hobj hints hlen hg => ?_
  have kx := hY w _ Y
  refine law_callM (mf := mf) kx G.T.g G.T.b G.T.builtins G.T.nolimit hg hobj hints (Nat.le_trans hlen hn2) rm (F w mg fa _ kx G.T.g hmg) hmg fun H hO hS => ?_
  obtain ⟨M, e⟩ := hm ns hlen
  refine ⟨⟨[], H⟩, [.scr ns], [], ⟨Sub.refl _, rfl, fun n o e => by simp at e, fun n m a e => by simp at e, fun a h => by simp at h, fun P hP => by unfold tabsK at hP; rw [hN] at hP; cases hP⟩, .cons (.scr hS) .nil, ?_⟩
  rw [e]
  intro v g' H' R E r
  cases r with
  | d r => cases r; rfl
end Y
namespace Y
open PySem PySem.Spec PyProof.Rows L2
/-! ### a tuple from behind -/
section
variable {prog : Program} {w : World} {A : Around} {E : Value → Shared → Prop} {s : Shared}
theorem places_rev (n : Nat) : Builtin.Slice.slicePlaces ((n : Int) - 1) (-1) (-1) = n := by
  unfold Builtin.Slice.slicePlaces
  rw [if_neg (by decide)]
  by_cases h : (n : Int) - 1 > -1
  · rw [if_pos h]
    have : ((n : Int) - 1 - -1 - 1) / (- -1) + 1 = n := by
      rw [show (- -1 : Int) = 1 by decide, Int.ediv_one]
      omega
    rw [this, Int.toNat_natCast]
  · rw [if_neg h]
    show (0 : Int).toNat = n
    omega
theorem applied_rev {sl : Addr} {vl vu vs : Value} {n : Nat} {Q : Int × Int × Nat → Shared → Prop} (hs : s.heap.IsSliceOf sl vl vu vs) (pl : IsPart vl none) (pu : IsPart vu none) (ps : IsPart vs (some (-1)))
    (h : Q ((n : Int) - 1, -1, n) s) : wpAny (model prog w) A (Builtin.Slice.sliceApplied (.ref sl) (pure (n : Int))) Q E s := by
  obtain ⟨os, hos, hcs, hds⟩ := id hs
  unfold Builtin.Slice.sliceApplied Builtin.Slice.sliceFields
  refine wpAny_bind (wpAny_bind (wpAny_field hos hds (x := vl) rfl (wpAny_bind (wpAny_field hos hds (x := vu) rfl (wpAny_bind (wpAny_field hos hds (x := vs) rfl (wpAny_pure ?_)))))))
  refine wpAny_bind (HT.slicePart_ ps ?_)
  show wpAny _ _ (if ((-1 : Int) == 0) = true then _ else _) _ _ s
  rw [if_neg (by decide)]
  refine wpAny_bind (HT.slicePart_ pl (wpAny_bind (HT.slicePart_ pu (wpAny_bind (wpAny_pure ?_)))))
  show wpAny _ _ (pure (((n : Int) - 1), (-1 : Int), Builtin.Slice.slicePlaces ((n : Int) - 1) (-1) (-1))) _ _ s
  rw [places_rev]
  exact wpAny_pure h
theorem pick_rev (xs : Array Value) : ((List.range xs.size).filterMap fun (m : Nat) => xs[(((xs.size : Int) - 1) + (m : Int) * (-1)).toNat]?).toArray = xs.toList.reverse.toArray := by
  congr 1
  apply List.ext_getElem?
  intro i
  have e : ((List.range xs.size).filterMap fun (m : Nat) => xs[(((xs.size : Int) - 1) + (m : Int) * (-1)).toNat]?) = (List.range xs.size).map fun m => xs.toList.reverse.getD m .none := by
    have hall : ∀ m ∈ List.range xs.size, xs[(((xs.size : Int) - 1) + (m : Int) * (-1)).toNat]? = some (xs.toList.reverse.getD m .none) := fun m hm => by
      have hm' := List.mem_range.mp hm
      have h1 : (((xs.size : Int) - 1) + (m : Int) * (-1)).toNat = xs.size - 1 - m := by omega
      rw [h1, List.getD_eq_getElem?_getD, List.getElem?_reverse (by rw [Array.length_toList]; exact hm'), Array.length_toList, Array.getElem?_toList, Array.getElem?_eq_getElem (by omega)]
      rfl
    generalize List.range xs.size = l at hall
    induction l with
    | nil => rfl
    | cons a r ih =>
      rw [List.filterMap_cons, hall a List.mem_cons_self, List.map_cons, ih fun m hm => hall m (List.mem_cons_of_mem _ hm)]
  rw [e, List.getElem?_map]
  by_cases h : i < xs.size
  · rw [List.getElem?_range h, List.getElem?_eq_getElem (l := xs.toList.reverse) (by simpa using h)]
    show some (xs.toList.reverse.getD i .none) = _
    rw [List.getD_eq_getElem?_getD, List.getElem?_eq_getElem (l := xs.toList.reverse) (by simpa using h)]
    rfl
  · rw [List.getElem?_eq_none (by simpa using h), List.getElem?_eq_none (by simpa using h)]
    rfl
theorem item_tuple_rev {t sl : Addr} {items : Array Value} {vl vu vs : Value} {Q : Value → Shared → Prop} (ht : IsTup s.heap t items) (hs : s.heap.IsSliceOf sl vl vu vs) (pl : IsPart vl none) (pu : IsPart vu none) (ps : IsPart vs (some (-1)))
    (h : Q (.ref s.heap.objs.size) { s with heap := s.heap.push { cls := .type "tuple", data := .seq items.toList.reverse.toArray } }) (hsz : items.size ≤ sizeLine) : wpAny (model prog w) A (getItem (.ref t) (.ref sl)) Q E s := by
  have htake : sizeOk (.seq items.toList.reverse.toArray) := by
    show items.toList.reverse.toArray.size ≤ sizeLine
    rw [List.size_toArray, List.length_reverse, Array.length_toList]
    exact hsz
  obtain ⟨os, hos, hcs, hds⟩ := id hs
  have hT : s.TypeIs (.ref sl) "slice" := ⟨os, hos, hcs⟩
  unfold getItem
  try with_reducible refine wpAny_holding ?_
  first | refine wpAny_bind (wpAny_pure ?_) | skip
  refine wpAny_bind (wpAny_sequenceKey ht.typeIs (by decide) ?_)
  refine wpAny_bind (wpAny_callSpecial?_slot (name := Str.ofString "__getitem__") ht.typeIs PyProof.Rows.slot_tuple_getitem (wpAny_call_entry PyProof.Rows.slot_tuple_getitem ht.typeIs entry_tuple_getitem ?_ (args_tuple_getitem _ _)))
  show wpAny _ _ (Builtin.Tuple.tupleItemsOf (.ref t) >>= _) _ _ s
  refine wpAny_bind (tupleItemsOf_ ht (wpAny_bind (wpAny_typeOf hT ?_)))
  rw [if_pos (by decide)]
  refine wpAny_bind (applied_rev hs pl pu ps ?_)
  have hno : ¬ ((((items.size : Int) - 1) == 0 && (-1 : Int) == 1 && items.size == items.size) = true) := by
    rw [show ((-1 : Int) == 1) = false from by decide, Bool.and_false, Bool.false_and]
    exact Bool.false_ne_true
  show wpAny _ _ (if (((items.size : Int) - 1) == 0 && (-1 : Int) == 1 && items.size == items.size) = true then _ else _) _ _ s
  rw [if_neg hno, pick_rev]
  first
    | exact wpAny_bind (m := Builtin.Tuple.tupleExact _) (wpAny_newObj_type (wpAny_pure ⟨_, rfl, wpAny_pure h⟩) htake)
    | exact wpAny_bind (m := Builtin.Tuple.tupleExact _) (wpAny_newObj_type (wpAny_bind (wpAny_pure (wpAny_pure ⟨_, rfl, wpAny_pure h⟩))) htake)
    | exact wpAny_bind (wpAny_bind (m := Builtin.Tuple.tupleExact _) (wpAny_newObj_type (wpAny_pure (wpAny_pure ⟨_, rfl, wpAny_pure h⟩)) htake))
    | exact wpAny_bind (wpAny_bind (m := Builtin.Tuple.tupleExact _) (wpAny_newObj_type (wpAny_pure ⟨_, rfl, wpAny_pure h⟩) htake))
end
section
variable {X : Cx} {xw : WX}
/-- a list or a tuple from behind -/
theorem pe_revB {e : Expr} {te : TE} {k : Nat} {p1 p2 p3 pos : Pos} (he : PE X e te) : PE X (.Subscript e (.Slice none none (some (.UnaryOp .USub (.Constant (.int 1) k p1) p2)) p3) pos)
    fun σ H Q => te σ H fun x G => (∃ a xs, x = .ref a ∧ SqL X.K G a xs ∧ ∀ p, G p = none → Q (.ref p) (upd G p (.lst xs.reverse))) ∨ ∃ a xs, x = .ref a ∧ SqT X.K G a xs ∧ ∀ p, G p = none → Q (.ref p) (upd G p (.tup xs.reverse)) := by
  refine ⟨fun pins s σ H Q I h => Subscript_ (thn (he.run pins s σ H _ I h) fun v sa ⟨x, Ga, Ia, ra, qa⟩ => ?_)⟩
  have part : PO X (some (.UnaryOp .USub (.Constant (.int 1) k p1) p2)) (tPart (tUn (rU fun i => .int (-i)) (tC (.int 1)))) := po_some (pe_un un_neg pe_int)
  refine wpAny_Slice (thn (po_none.run pins sa σ Ga (fun o G => o = none ∧ G = Ga) Ia ⟨rfl, rfl⟩) fun vl sb ⟨l, Gb, Ib, pl, el, eb⟩ => ?_)
  subst el eb
  refine thn (po_none.run pins sb σ Gb (fun o G => o = none ∧ G = Gb) Ib ⟨rfl, rfl⟩) fun vu sc ⟨u, Gc, Ic, pu, eu, ec⟩ => ?_
  subst eu ec
  refine thn (part.run pins sc σ Gc (fun o G => o = some (-1) ∧ G = Gc) Ic ⟨1, rfl, -1, rfl, rfl, rfl⟩) fun vs sd ⟨o, Gd, Id, ps, eo, ed⟩ => ?_
  subst eo ed
  have Ie : Inv X pins σ Gd { sd with heap := sd.heap.push { cls := .type "slice", data := .fields #[vl, vu, vs] } } := Id.kept (t' := sd.toks) fun b ob q => Heap.get?_push_of_some _ q
  rcases qa with ⟨a, xs, ex, hx, q⟩ | ⟨a, xs, ex, hx, q⟩
  · subst ex
    cases ra
    obtain ⟨its, r, ht, hz⟩ := Ie.list hx
    have hlen := r.length
    show wpAny (model X.prog X.w) X.A (subscriptTail e (.Slice none none (some (.UnaryOp .USub (.Constant (.int 1) k p1) p2)) p3) (.ref a) (.ref sd.heap.objs.size)) (EP X pins σ Q) X.xe { sd with heap := sd.heap.push { cls := .type "slice", data := .fields #[vl, vu, vs] } }
    refine tail_any (ops := [.ref a, .ref sd.heap.objs.size]) ht.isList.typeIs (PySem.slot_list_getitem.lookup) ?_ (by with_unfolding_all rfl)
    refine wpAny_getItem_list_slice ht.isList (Heap.IsSliceOf.new _ vl vu vs) pl pu ps (by decide) ?_ (by rw [List.size_toArray]; omega)
    rw [PySem.W.krv_pick]
    exact ⟨.ref _, _, Ie.laid (t' := sd.toks) (o := .lst xs.reverse) (fun b ob q => Heap.get?_push_of_some _ q) (Nat.le_refl _) ⟨by rw [List.length_reverse]; exact hz, _, 0, r.reverse, Heap.get?_push_size _ rfl⟩, rfl, q _ (Ie.hok.fresh (Nat.le_refl _))⟩
  · subst ex
    cases ra
    obtain ⟨its, r, ht, hz⟩ := Ie.tuple hx
    have hlen := r.length
    show wpAny (model X.prog X.w) X.A (subscriptTail e (.Slice none none (some (.UnaryOp .USub (.Constant (.int 1) k p1) p2)) p3) (.ref a) (.ref sd.heap.objs.size)) (EP X pins σ Q) X.xe { sd with heap := sd.heap.push { cls := .type "slice", data := .fields #[vl, vu, vs] } }
    refine tail_any (ops := [.ref a, .ref sd.heap.objs.size]) ht.typeIs (PyProof.Rows.slot_tuple_getitem.lookup) ?_ (by with_unfolding_all rfl)
    refine item_tuple_rev ht (Heap.IsSliceOf.new _ vl vu vs) pl pu ps ?_ (by rw [List.size_toArray]; omega)
    exact ⟨.ref _, _, Ie.laid (t' := sd.toks) (o := .tup xs.reverse) (fun b ob q => Heap.get?_push_of_some _ q) (Nat.le_refl _) ⟨by rw [List.length_reverse]; exact hz, _, r.reverse, IsTup.new _ _⟩, rfl, q _ (Ie.hok.fresh (Nat.le_refl _))⟩
def revD : PyData → Option PyData
  | .list ds => some (.list ds.reverse)
  | .tuple ds => some (.tuple ds.reverse)
  | _ => none
def sRev (f : EF) : EF := fun ρ M => (f ρ M).bind fun w M => match (vw M w).bind revD with
  | some y => .ok (.d y) M
  | none => .stuck
theorem DqAll.rev {K : PySem.W.Frag} {F : Hp} : ∀ {v : List V} {x : List PyData}, DqAll K F v x → DqAll K F v.reverse x.reverse
  | _, _, .nil => .nil
  | _, _, .cons h t => by
    rw [List.reverse_cons, List.reverse_cons]
    exact (DqAll.rev t).append (.cons h .nil)
theorem me_rev {e : Expr} {f : EF} {k : Nat} {p1 p2 p3 pos : Pos} (he : ME X xw e f) : ME X xw (.Subscript e (.Slice none none (some (.UnaryOp .USub (.Constant (.int 1) k p1) p2)) p3) pos) (sRev f) :=
  PE.imp (pe_revB he) fun σ H Q h => tG_mono (tG_bind (R2 := RW X.K) h) fun v H1 ⟨g, ρ, M, w, R, S, q, b⟩ => by
    cases ev : vw M w with
    | none => rw [ev] at b; exact b.elim
    | some x =>
      rw [ev] at b
      have dv := vw_ok R q ev
      have s := R.sub
      have kk : ∀ y, revD x = some y → ∀ v F' H', Lay g.F H1 F' H' → Dq X.K F' v y → Q v H' := fun y ey v F' H' L dq => by
        have b' := b
        simp only [Option.bind_some, ey] at b'
        exact b' v ⟨g.ph, F'⟩ H' (L.rel R) L.ext (.d dq)
      cases x with
      | list ds =>
        obtain ⟨p, xs, rfl, h1, h2⟩ := dv.lst s
        exact .inl ⟨p, xs, rfl, .of h1, fun q hq => kn s (kk _ rfl) h2.rev hq⟩
      | tuple ds =>
        obtain ⟨p, xs, rfl, h1, h2⟩ := dv.tup
        exact .inr ⟨p, xs, rfl, TqT.up s h1, fun q hq => kt s (kk _ rfl) h2.rev hq⟩
      | _ => exact b.elim
end
end Y
namespace Y
open PySem PySem.Spec PyProof.Rows L2
/-! ### dicts of the module -/
mutual
/-- a value of the module's own, as data -/
inductive KDat (K : PySem.W.Frag) : Value → V → PyData → Prop
  | non : KDat K .none .non .none
  | bl (b : Bool) : KDat K (.bool b) (.bl b) (.bool b)
  | int (i : Int) (t : Tok) : KDat K (.int i t) (.int i) (.int i)
  | str (x : Str) (t : Tok) : KDat K (.str x t) (.str x) (.str x)
  | tup {a : Addr} {o : Obj} {its : Array Value} {n : Nat} {vs : List V} {ds : List PyData} : K.lookup a = some o → o.cls = .type "tuple" → o.data = .seq its n → its.size ≤ sizeLine → KDats K its.toList vs ds → KDat K (.ref a) (.ref a) (.tuple ds)
inductive KDats (K : PySem.W.Frag) : List Value → List V → List PyData → Prop
  | nil : KDats K [] [] []
  | cons {u : Value} {us : List Value} {v : V} {vs : List V} {d : PyData} {ds : List PyData} : KDat K u v d → KDats K us vs ds → KDats K (u :: us) (v :: vs) (d :: ds)
end
def flatD : PyData → Bool
  | .tuple _ => false
  | _ => true
theorem KDat.rel1 {K : PySem.W.Frag} {u : Value} {v : V} {d : PyData} (h : KDat K u v d) : RelV v u := by
  cases h with
  | non => rfl
  | bl b => rfl
  | int i t => exact ⟨t, rfl⟩
  | str x t => exact ⟨t, rfl⟩
  | tup h1 h2 h3 h4 h5 => rfl
theorem KDat.rel2 {K : PySem.W.Frag} {u : Value} {v : V} {d : PyData} (h : KDat K u v d) (hf : flatD d = true) (F : Hp) : Dq K F v d := by
  cases h with
  | non => exact .non
  | bl b => exact .bl b
  | int i t => exact .int i
  | str x t => exact .str x
  | tup h1 h2 h3 h4 h5 => cases hf
theorem KDats.rel1 {K : PySem.W.Frag} : ∀ {u : List Value} {v : List V} {d : List PyData}, KDats K u v d → Vals v u
  | _, _, _, .nil => .nil
  | _, _, _, .cons h t => .cons h.rel1 (KDats.rel1 t)
mutual
theorem KDat.dp {K : PySem.W.Frag} {H : Hp} : ∀ {u : Value} {v : V} {d : PyData}, KDat K u v d → Dp K H v d
  | _, _, _, .non => .non
  | _, _, _, .bl b => .bl b
  | _, _, _, .int i t => .int i
  | _, _, _, .str x t => .str x
  | _, _, _, .tup h1 h2 h3 h4 h5 => .tup (.inr ⟨_, _, _, h1, h2, h3, h4, KDats.rel1 h5⟩) (KDats.dp h5)
theorem KDats.dp {K : PySem.W.Frag} {H : Hp} : ∀ {u : List Value} {v : List V} {d : List PyData}, KDats K u v d → DpAll K H v d
  | _, _, _, .nil => .nil
  | _, _, _, .cons h t => .cons (KDat.dp h) (KDats.dp t)
end
/-- the written dict under a name -/
structure KD (K : PySem.W.Frag) (P : Params) (mg : Str → Option Value) (x : Str) (kvs : List (Str × PyData)) : Prop where
  ex : ∃ (p : Addr) (es : Array DictEntry) (n : Nat), mg x = some (.ref p) ∧ K.lookup p = some ⟨.type "dict", none, .dict es n, #[]⟩ ∧ PySem.W.KeysLit P es.toList ∧ (p == sysModules) = false ∧
    ∀ z, match kvs.lookup z with
      | none => PySem.W.nsIn K p z = some none
      | some d => ∃ u v, PySem.W.nsIn K p z = some (some u) ∧ KDat K u v d
inductive KEnts (K : PySem.W.Frag) (P : Params) : List DictEntry → List (Str × PyData) → Prop
  | nil : KEnts K P [] []
  | cons {x : Str} {t : Tok} {u : Value} {v : V} {d : PyData} {es : List DictEntry} {kvs : List (Str × PyData)} : KDat K u v d → KEnts K P es kvs → KEnts K P (⟨PyData.keyHash P x, .str x t, u⟩ :: es) ((x, d) :: kvs)
theorem KEnts.lit {K : PySem.W.Frag} {P : Params} : ∀ {es : List DictEntry} {kvs : List (Str × PyData)}, KEnts K P es kvs → PySem.W.KeysLit P es
  | _, _, .nil => trivial
  | _, _, .cons _ r => ⟨⟨_, _, rfl, rfl⟩, r.lit⟩
theorem isStr_str {x z : Str} {t : Tok} : (Value.str x t).isStr z = (z == x) := by
  rw [PySem.W.isStr_of]
  show (x == z) = (z == x)
  rw [Bool.eq_iff_iff, beq_iff_eq, beq_iff_eq]
  exact eq_comm
theorem KEnts.get {K : PySem.W.Frag} {P : Params} (z : Str) : ∀ {es : List DictEntry} {kvs : List (Str × PyData)}, KEnts K P es kvs → match kvs.lookup z with
    | none => es.find? (fun e => e.key.isStr z) = none ∧ es.any (fun e => e.refKey) = false
    | some d => ∃ e v, es.find? (fun e => e.key.isStr z) = some e ∧ KDat K e.val v d
  | _, _, .nil => ⟨rfl, rfl⟩
  | _, _, .cons (x := x) (t := t) (u := u) (v := v) (d := d) (es := es) (kvs := kvs) k r => by
    have ih := r.get z
    rw [List.lookup_cons]
    cases e : z == x with
    | true => exact ⟨⟨PyData.keyHash P x, .str x t, u⟩, v, by rw [List.find?_cons]; simp only [isStr_str, e], k⟩
    | false =>
      show match kvs.lookup z with | none => _ | some d => _
      cases e2 : kvs.lookup z with
      | none =>
        rw [e2] at ih
        refine ⟨by rw [List.find?_cons]; simp only [isStr_str, e]; exact ih.1, ?_⟩
        rw [List.any_cons, ih.2]
        rfl
      | some d2 =>
        rw [e2] at ih
        obtain ⟨e', v', h1, h2⟩ := ih
        exact ⟨e', v', by rw [List.find?_cons]; simp only [isStr_str, e]; exact h1, h2⟩
theorem kd_mk {K : PySem.W.Frag} {P : Params} {mg : Str → Option Value} {x : Str} {p : Addr} {es : List DictEntry} {n : Nat} {kvs : List (Str × PyData)} (hm : mg x = some (.ref p)) (hl : K.lookup p = some ⟨.type "dict", none, .dict es.toArray n, #[]⟩) (hlow : (p == sysModules) = false) (hE : KEnts K P es kvs) : KD K P mg x kvs := by
  refine ⟨p, es.toArray, n, hm, hl, by simpa using hE.lit, hlow, fun z => ?_⟩
  have h := hE.get z
  cases e : kvs.lookup z with
  | none =>
    rw [e] at h
    show PySem.W.nsIn K p z = some none
    unfold PySem.W.nsIn
    rw [hl]
    simp only [h.1, h.2]
    rfl
  | some d =>
    rw [e] at h
    obtain ⟨en, v, h1, h2⟩ := h
    refine ⟨en.val, v, ?_, h2⟩
    unfold PySem.W.nsIn
    rw [hl]
    simp only [h1]
section
variable {X : Cx} {xw : WX} {a b : Expr} {fa fb : EF} {pos p1 : Pos} {k : Nat} {x : Str} {kvs : List (Str × PyData)}
def asKIn (kvs : List (Str × PyData)) (b : Bool) : W → List MO → Res W
  | .d (.str z), M => .ok (.d (.bool ((kvs.lookup z).isSome == b))) M
  | _, _ => .stuck
def sKIn (kvs : List (Str × PyData)) (b : Bool) (f : EF) : EF := fun ρ M => (f ρ M).bind (asKIn kvs b)
theorem me_kIn (T : KD X.K X.w.params X.mg x kvs) (ha : ME X xw a fa) (hg : Gl X x := by rfl) (hd : (x == ("__debug__" : Str)) = false := by decide) : ME X xw (.Compare a [.In] [.Name x p1] pos) (sKIn kvs true fa) := by
  obtain ⟨p, es, n, hm, h1, h2, h3, h4⟩ := T.ex
  refine PE.imp (pe_cmpR (op_in_kd ⟨h1, h2, h3⟩) ha (pe_glob hg hm (v := .ref p) rfl hd) (by rfl)) fun σ H Q h => tG_mono (tG_bind (R2 := RW X.K) h) fun v H1 ⟨g, ρ, M, w, R, S, q, b⟩ => ?_
  unfold asKIn at b
  split at b
  · rename_i z
    cases q with
    | d q =>
      cases q
      have h5 := h4 z
      cases e : kvs.lookup z with
      | none =>
        rw [e] at h5 b
        exact ⟨z, none, rfl, rfl, h5, b _ g H1 R (Ext.refl _ _) (.d (.bl _))⟩
      | some d =>
        rw [e] at h5 b
        obtain ⟨u, v, h6, _⟩ := h5
        exact ⟨z, some u, rfl, rfl, h6, b _ g H1 R (Ext.refl _ _) (.d (.bl _))⟩
  · exact b.elim
def asKGet (kvs : List (Str × PyData)) : W → List MO → Res W
  | .d (.str z), M => match kvs.lookup z with
    | some d => if flatD d = true then .ok (.d d) M else .stuck
    | none => .stuck
  | _, _ => .stuck
def sKGet (kvs : List (Str × PyData)) (f : EF) : EF := fun ρ M => (f ρ M).bind (asKGet kvs)
theorem me_kGet (T : KD X.K X.w.params X.mg x kvs) (ha : ME X xw a fa) (hg : Gl X x := by rfl) (hd : (x == ("__debug__" : Str)) = false := by decide) (hs : PlainIx a := by exact fun _ _ => rfl) : ME X xw (.Subscript (.Name x p1) a pos) (sKGet kvs fa) := by
  obtain ⟨p, es, n, hm, h1, h2, h3, h4⟩ := T.ex
  refine PE.imp (pe_ix ix_kdict (pe_glob hg hm (v := .ref p) rfl hd) ha hs) fun σ H Q h => tG_mono (tG_bind (R2 := RW X.K) h) fun v H1 ⟨g, ρ, M, w, R, S, q, b⟩ => ?_
  unfold asKGet at b
  split at b
  · rename_i z
    cases q with
    | d q =>
      cases q
      have h5 := h4 z
      cases e : kvs.lookup z with
      | none => rw [e] at b; exact b.elim
      | some d =>
        rw [e] at h5 b
        obtain ⟨u, v, h6, h7⟩ := h5
        simp only at b
        split at b
        · rename_i hf
          exact ⟨p, z, v, rfl, rfl, ⟨es, n, u, h1, h2, h6, h7.rel1⟩, b v g H1 R (Ext.refl _ _) (.d (h7.rel2 hf _))⟩
        · exact b.elim
  · exact b.elim
/-- a not in D[k], the dict's values being tuples -/
def asKNotInT (kvs : List (Str × PyData)) : W → W → List MO → Res W
  | .d (.str z), .d (.str y), M => match kvs.lookup y with
    | some (.tuple ds) => if SeqAt.shaped (.str z) = true ∧ SeqAt.shaped (.tuple ds) = true then .ok (.d (.bool (!(ds.any fun d => PyData.eqv d (.str z))))) M else .stuck
    | _ => .stuck
  | _, _, _ => .stuck
def sKNotInT (kvs : List (Str × PyData)) (f h : EF) : EF := fun ρ M => (f ρ M).bind fun w M1 => (h ρ M1).bind fun u M2 => asKNotInT kvs w u M2
theorem me_kNotInT (C : Ctx X k xw) (T : KD X.K X.w.params X.mg x kvs) (ha : ME X xw a fa) (hb : ME X xw b fb) (hg : Gl X x := by rfl) (hd : (x == ("__debug__" : Str)) = false := by decide) (hs : PlainIx b := by exact fun _ _ => rfl) {p2 : Pos}
    (hm' : behindInMarks .NotIn (.Subscript (.Name x p1) b p2) = false := by rfl) : ME X xw (.Compare a [.NotIn] [.Subscript (.Name x p1) b p2] pos) (sKNotInT kvs fa fb) := by
  obtain ⟨p, es, n, hm, h1, h2, h3, h4⟩ := T.ex
  refine PE.imp (pe_cmpR (op_notInT (ctx_u C)) ha (pe_ix ix_kdict (pe_glob hg hm (v := .ref p) rfl hd) hb hs) hm') fun σ H Q h => tG_mono (tG_bind (R2 := RW X.K) h) fun v H1 ⟨g, ρ, M, w, R, S, q, b⟩ => ?_
  refine ⟨g, ρ, M, R, S, ?_⟩
  cases e2 : fb ρ M with
  | stuck => rw [e2] at b; exact b
  | err y M2 => rw [e2] at b; exact b
  | ok u M2 =>
    rw [e2] at b
    intro v2 g2 H2 R2 E2 r2
    replace b : Bhd (tx X) (fun c d H => xw c d σ H) (RW X.K) Q (asKNotInT kvs w u M2) g H1 := b
    unfold asKNotInT at b
    split at b
    · rename_i z y
      cases q with
      | d q =>
        cases q
        cases r2 with
        | d r2 =>
          cases r2
          have h5 := h4 y
          cases e : kvs.lookup y with
          | none => simp only [e] at b; exact b.elim
          | some d =>
            simp only [e] at b h5
            obtain ⟨u, v, h6, h7⟩ := h5
            cases d with
            | tuple ds =>
              simp only at b
              split at b
              · rename_i hc
                exact ⟨p, y, v, rfl, rfl, ⟨es, n, u, h1, h2, h6, h7.rel1⟩, _, _, .str z, h7.dp, hc.1, hc.2, b _ g2 H2 R2 E2 (.d (.bl _))⟩
              · exact b.elim
            | _ => exact b.elim
    · exact b.elim
theorem mt_kNotInT (C : Ctx X k xw) (T : KD X.K X.w.params X.mg x kvs) (ha : ME X xw a fa) (hb : ME X xw b fb) (hg : Gl X x := by rfl) (hd : (x == ("__debug__" : Str)) = false := by decide) (hs : PlainIx b := by exact fun _ _ => rfl) {p2 : Pos}
    (hm' : behindInMarks .NotIn (.Subscript (.Name x p1) b p2) = false := by rfl) : MT X xw (.Compare a [.NotIn] [.Subscript (.Name x p1) b p2] pos) (sVal (sKNotInT kvs fa fb)) := by
  obtain ⟨p, es, n, hm, h1, h2, h3, h4⟩ := T.ex
  refine PT.imp (pt_cmpR (op_notInT (ctx_u C)) ha (pe_ix ix_kdict (pe_glob hg hm (v := .ref p) rfl hd) hb hs) hm') fun σ H Q0 h0 => ?_
  have h := tT_val h0
  refine tG_mono (tG_bind (R2 := RW X.K) h) fun v H1 ⟨g, ρ, M, w, R, S, q, b⟩ => ?_
  refine ⟨g, ρ, M, R, S, ?_⟩
  cases e2 : fb ρ M with
  | stuck => rw [e2] at b; exact b
  | err y M2 => rw [e2] at b; exact b
  | ok u M2 =>
    rw [e2] at b
    intro v2 g2 H2 R2 E2 r2
    replace b : Bhd (tx X) (fun c d H => xw c d σ H) (RW X.K) (fun x H => ∃ c, x = .bl c ∧ Q0 c H) (asKNotInT kvs w u M2) g H1 := b
    unfold asKNotInT at b
    split at b
    · rename_i z y
      cases q with
      | d q =>
        cases q
        cases r2 with
        | d r2 =>
          cases r2
          have h5 := h4 y
          cases e : kvs.lookup y with
          | none => simp only [e] at b; exact b.elim
          | some d =>
            simp only [e] at b h5
            obtain ⟨u, v, h6, h7⟩ := h5
            cases d with
            | tuple ds =>
              simp only at b
              split at b
              · rename_i hc
                exact ⟨p, y, v, rfl, rfl, ⟨es, n, u, h1, h2, h6, h7.rel1⟩, _, _, .str z, h7.dp, hc.1, hc.2, b _ g2 H2 R2 E2 (.d (.bl _))⟩
              · exact b.elim
            | _ => exact b.elim
    · exact b.elim
end
end Y
namespace Y
open PySem PySem.Spec PyProof.Rows L2

/-! ### a caught exception is tracked -/
theorem exh_ok {P : Program} {w : World} {H : Hp} {h : Heap} {a : Addr} {cls : Value} {d : Option Addr} {oe : Obj} {vs : Array Value} (e : h.get? a = some oe) (z : Zc cls d oe) (q : oe.data = .fields vs) : ObjOk P w H h a (ExH cls d a) :=
  ⟨⟨oe, vs, e, z, q⟩, ⟨oe, e⟩, fun h1 h2 ⟨o1, v1, e1, z1, q1⟩ k => ⟨o1, v1, k _ e1, z1, q1⟩⟩
theorem exh_at {P : Program} {w : World} {H : Hp} {h : Heap} {a : Addr} {cls : Value} {d : Option Addr} (ok : HOk P w H h) (e : H a = some (ExH cls d a)) : ∃ (oe : Obj) (vs : Array Value), h.get? a = some oe ∧ Zc cls d oe ∧ oe.data = .fields vs :=
  (show ObjOk P w H h a (ExH cls d a) from ok a _ e).1
section
variable {X : Cx} {pins : List (Addr × Obj)} {σ : L2.St} {H : Hp} {s : Shared}
theorem inv_trackX (I : Inv X pins σ H s) {a : Addr} {cls : Value} {d : Option Addr} {oe : Obj} {vs : Array Value} (e : s.heap.get? a = some oe) (z : Zc cls d oe) (q : oe.data = .fields vs) (na : H a = none) (n0 : X.s_0.heap.get? a = none) (nL : a ≠ X.env.locals)
    (np : ∀ p ∈ X.pn ++ pins, p.1 ≠ a) : Inv X pins σ (upd H a (ExH cls d a)) s := by
  have up : ∀ {b : Addr} {o : HO}, H b = some o → upd H a (ExH cls d a) b = some o := fun {b o} r => by rw [upd_ne (ne_of_none r na)]; exact r
  refine ⟨I.ok, I.os, I.bare, ⟨I.base.keep, I.base.slot, fun b o r n hx => ?_, I.base.there, fun b xs r => up (I.base.tups b xs r), fun b o u r => up (I.base.frzs b o u r), fun b ps r => ?_⟩, I.loc, I.cell, ?_, fun x c r => ?_, fun p hp => ?_, fun b u r => ?_, I.len⟩
  · rw [upd_ne (fun z => by rw [z, n0] at r; cases r)]
    exact I.base.free b o r n hx
  · obtain ⟨m, r'⟩ := I.base.tbls b ps r
    exact ⟨m, up r'⟩
  · rw [upd_ne (Ne.symm nL)]
    exact I.free
  · have nc : c ≠ a := fun z => by
      obtain ⟨v, o, ho, hd⟩ := I.cell x c r
      rw [z, e] at ho
      cases ho
      rw [q] at hd
      cases hd
    rw [upd_ne nc]
    exact I.freeC x c r
  · obtain ⟨h1, h2, h3, h4, h5⟩ := I.pin p hp
    exact ⟨h1, by rw [upd_ne (np p hp)]; exact h2, h3, h4, h5⟩
  · by_cases hb : b = a
    · subst hb
      rw [upd_same] at r
      cases r
      exact exh_ok e z q
    · rw [upd_ne hb] at r
      exact (I.hok b u r).stay (fun _ _ _ t => t) (fun _ t => up t) fun _ _ t => up t
theorem inv_suiteX (I : Inv X pins σ H s) (a : Addr) : Inv (X.suite a (X.pn ++ pins)) [] σ H s :=
  { I with ok := I.ok.suite a (X.pn ++ pins), pin := fun p hp => I.pin p (by simpa using hp) }
theorem inv_unsuiteX {a : Addr} {pn' : List (Addr × Obj)} (I : Inv (X.suite a (X.pn ++ pins)) pn' σ H s) (ok : X.Ok) : Inv X pins σ H s :=
  { I with ok := ok, pin := fun p hp => I.pin p (List.mem_append_left pn' hp) }
end
/-- what the except clause wishes: the name's slot holds it, its suite runs -/
def wTry (K : PySem.W.Frag) (c : Value) (i : Nat) (ts : Addr → TS) (D : Ends) : WX := fun cls d σ H =>
  PySem.W.exmOne K cls c = some true ∧ ∀ a, H a = none → ts a { nx := fun σ1 H1 => D.nx (σ1.set i none) H1, rt := D.rt, bk := fun σ1 H1 => D.bk (σ1.set i none) H1, ct := fun σ1 H1 => D.ct (σ1.set i none) H1 } (σ.set i (some (.ref a))) (upd H a (ExH cls d a))
section
variable {X : Cx} {x y : Str} {c : Value} {i : Nat} {body more : List Stmt} {first : Stmt} {p1 p2 p3 : Pos} {tb : WX → TS} {ts : Addr → TS}
theorem ps_tryX (hs : X.stack = X.env :: X.outer) (hl : X.env.frame = some X.env.locals) (hx : X.ex = []) (nd : X.N.Nodup) (hi : X.N[i]? = some y) (hy : X.env.kindOf y = some .local) (hc : Names X x c)
    (hb : ∀ (W : WX) (pn : List (Addr × Obj)) (xe : Value → Shared → Prop), Takes (X.tr pn xe) W → PassesOwn (model X.prog X.w) X.A X.env xe → PSs (X.tr pn xe) body (tb W))
    (hsu : ∀ (a : Addr) (pn : List (Addr × Obj)), PSs (X.suite a pn) (first :: more) (ts a)) :
    PS X (.Try body [.ExceptHandler (some (.Name x p1)) (some y) (first :: more) p2] [] [] p3) (fun D σ H => tb (wTry X.K c i ts D) D σ H) := by
  refine ⟨fun ps u σ H D I h => ?_⟩
  have ok := I.ok
  have frm : X.A.frames = some (X.env :: X.outer) := ok.frames.trans (congrArg some hs)
  refine wpAny_Try_except ?_
  refine wpAny_mono ((hb (wTry X.K c i ts D) (X.pn ++ ps) (fun e u1 => wpAny (model X.prog X.w) X.A (noteFrame e X.env) (fun _ u2 => wpAny (model X.prog X.w) X.A (setFlight e none) (fun _ u3 =>
    wpAny (model X.prog X.w) X.A (handleBy e X.env [.ExceptHandler (some (.Name x p1)) (some y) (first :: more) p2]) (SP X ps D) X.xe u3) X.xe u2) X.xe u1) (fun v u' air => ?_) PassesOwn.looking).run [] u σ H D (I.toTry _) h) (fun fl u1 hfl => ?_) (fun _ _ z => z)
  · obtain ⟨a, B, sI, pl, σ', H', cls, d, rfl, J', nb, up, sky, na, os, ag, hm, hyes⟩ := air
    have J : Inv X ps σ' H' sI := J'.ofTry ok
    have sk : Sky B (X.env :: X.outer) a (Zc cls d) X.env.locals u'.heap := hs ▸ sky
    show wpAny (model X.prog X.w) X.A (noteFrame (.ref a) X.env) _ _ _
    refine Sky.land Zc.steady frm hl sk fun h3 fl3 up3 => ?_
    have J3 : Inv X ps σ' H' { u' with heap := h3 } := J.landed nb fl3.1 (up.trans up3) os ag
    obtain ⟨o3, v3, g3, z3, d3⟩ := fl3.there
    have offFr : a ∉ frs (X.env :: X.outer) := fun hm => by
      obtain ⟨_, o', q, hn⟩ := fl3.2.2.1.mem hm
      rw [g3] at q
      cases q
      exact hn _ d3
    have offL : a ≠ X.env.locals := fun z => offFr (List.mem_filterMap.mpr ⟨X.env, List.mem_cons_self, by rw [hl, z]⟩)
    have newI : sI.heap.get? a = none := by
      cases q : sI.heap.get? a with
      | none => rfl
      | some o =>
        have := nb a o q (by rw [hs]; exact offFr)
        rw [fl3.2.1] at this
        cases this
    have new0 : X.s_0.heap.get? a = none := by
      cases q : X.s_0.heap.get? a with
      | none => rfl
      | some o =>
        obtain ⟨o', q'⟩ := J.base.there a o q (by rw [hx]; exact List.not_mem_nil)
        rw [newI] at q'
        cases q'
    have offP : ∀ p ∈ X.pn ++ ps, p.1 ≠ a := fun p hp z => by
      have := (J.pin p hp).1
      rw [z, newI] at this
      cases this
    have S3 := inv_suiteX J3 a
    refine wpAny_handleBy_cons (codeAny_handlers_test ?_) (by intro q; cases q)
    have lt : PySem.W.Looks (model X.prog X.w) h3 (typeOf (.ref a)) cls := fun _ _ _ _ k q => wpAny_typeOf_ref (k _ _ g3) (by rw [z3.1]; exact q)
    have lm := PySem.W.exm_one (M := model X.prog X.w) J3.kIn lt hm
    have ask : ∀ {Q : Value → Shared → Prop} {E : Value → Shared → Prop}, Q c { u' with heap := h3 } → wpAny (model X.prog X.w) (X.A.mark (some (.ref a))) (eval (.Name x p1) X.env) Q E { u' with heap := h3 } := fun {Q E} q => by
      obtain ⟨c1, c2, c3 | ⟨c3, c4, c5⟩⟩ := hc
      · exact ld_glob (X := X.suite a (X.pn ++ ps)) S3 c1 c3 q c2
      · exact ld_blt (X := X.suite a (X.pn ++ ps)) S3 c1 c3 c4 q c5 c2
    refine ask (lm.here ?_)
    refine codeAny_handlers_suite_as ?_
    refine HandSPX.lands_againZ fl3 fun h4 fl4 up4 => ?_
    have J4 : Inv X ps σ' H' { u' with heap := h4 } := J.landed nb fl4.1 ((up.trans up3).trans up4) os ag
    obtain ⟨o4, v4, g4, z4, d4⟩ := fl4.there
    have J5 : Inv X ps σ' (upd H' a (ExH cls d a)) { u' with heap := h4 } := inv_trackX J4 g4 z4 d4 na new0 offL offP
    refine store_ok (X := X.suite a (X.pn ++ ps)) (v := .ref a) (inv_suiteX J5 a) nd hi (.inl hy) rfl (fun u5 S5 => ?_) (.inr hy)
    refine wpAny_mono ((hsu a (X.pn ++ ps)).run [] u5 _ _ _ S5 (hyes a na)) (fun fl u6 hfl => ?_) (fun _ _ z => z.elim)
    have away : ∀ {σ6 : L2.St} {H6 : Hp} {Q : Shared → Prop}, Inv (X.suite a (X.pn ++ ps)) [] σ6 H6 u6 → (∀ u7, Inv X ps (σ6.set i none) H6 u7 → Q u7) →
        wpAny (model X.prog X.w) X.A (do bindName X.env y .none; unbindBehindTheSuite X.env y p2) (fun _ u7 => Q u7) X.xe u6 := fun S6 hq => gone_ok (inv_unsuiteX S6 ok) nd hi hy hq
    cases fl with
    | next =>
      obtain ⟨_, _, S6, q6⟩ := hfl
      exact away S6 fun u7 J7 => ⟨_, _, J7, q6⟩
    | brk =>
      obtain ⟨_, _, S6, q6⟩ := hfl
      exact away S6 fun u7 J7 => ⟨_, _, J7, q6⟩
    | cont =>
      obtain ⟨_, _, S6, q6⟩ := hfl
      exact away S6 fun u7 J7 => ⟨_, _, J7, q6⟩
    | ret r =>
      obtain ⟨_, _, _, S6, r6, q6⟩ := hfl
      exact away S6 fun u7 J7 => ⟨_, _, _, J7, r6, q6⟩
  · cases fl with
    | next =>
      obtain ⟨_, _, J7, q⟩ := hfl
      exact wpAny_execs_nil ⟨_, _, J7.ofTry ok, q⟩
    | brk =>
      obtain ⟨_, _, J7, q⟩ := hfl
      exact ⟨_, _, J7.ofTry ok, q⟩
    | cont =>
      obtain ⟨_, _, J7, q⟩ := hfl
      exact ⟨_, _, J7.ofTry ok, q⟩
    | ret r =>
      obtain ⟨_, _, _, J7, r, q⟩ := hfl
      exact ⟨_, _, _, J7.ofTry ok, r, q⟩
end
end Y
namespace Y
open PySem PySem.Spec PyProof.Rows L2

/-! ### exception classes of the program's own -/
abbrev veMro : List Value := [.type "ValueError", .type "Exception", .type "BaseException", .type "object"]
structure XCls (K : PySem.W.Frag) (mg : Str → Option Value) (x : Str) (C S : Addr) : Prop where
  ns : PySem.W.nsIn K mainGlobals x = some (some (.ref C))
  mg : mg x = some (.ref C)
  cd : ∃ c, PySem.W.clsIn K C = some c ∧ c.mro = .ref C :: .ref S :: veMro ∧ c.hasDict = true
  ty : PySem.W.typeIn K (.ref C) = some (.type "type")
  kp : PySem.W.keepIn K (.ref C) = true
  gg : PySem.W.findIn K (.ref C) "__getattribute__" = some (some (.builtin "BaseException.__getattribute__"))
  gk : PySem.W.findIn K (.ref C) "__getattr__" = some none
  gc : PySem.W.findIn K (.ref C) "__class__" = some (some (.builtin "object.__class__"))
/-- all of them: name, place; own: has an __init__ of its own -/
inductive XL (K : PySem.W.Frag) (mg : Str → Option Value) (S : Addr) : List (Str × Addr) → Prop
  | nil : XL K mg S []
  | cons {x : Str} {C : Addr} {r : List (Str × Addr)} : XCls K mg x C S → (PySem.W.excIn K C veMro "ValueError.__new__" = true ∨ x = "NoText") → XL K mg S r → XL K mg S ((x, C) :: r)
structure XTab (K : PySem.W.Frag) (mg : Str → Option Value) (xs : List Str) (S : Addr) (tab : List (Str × Addr)) : Prop where
  all : XL K mg S tab
  nm : tab.map (·.1) = xs
  inj : (tab.map (·.2)).Nodup
  nS : S ∉ tab.map (·.2)
  mgS : mg "SettingsError" = some (.ref S)
  cdS : ∃ c, PySem.W.clsIn K S = some c ∧ c.mro = .ref S :: veMro ∧ c.hasDict = true
  tyS : PySem.W.typeIn K (.ref S) = some (.type "type")
  g1 : PySem.W.specialIn K (.builtin "object.__class__") "__get__" = some (some (.builtin "getset_descriptor.__get__"))
  t1 : PySem.W.takesIn K (.builtin "object.__class__") = some true
theorem XL.get {K : PySem.W.Frag} {mg : Str → Option Value} {S : Addr} {x : Str} : ∀ {tab : List (Str × Addr)}, XL K mg S tab → x ∈ tab.map (·.1) → ∃ C, (x, C) ∈ tab ∧ XCls K mg x C S ∧ (PySem.W.excIn K C veMro "ValueError.__new__" = true ∨ x = "NoText")
  | _, .nil, h => nomatch h
  | _, .cons c e r, h => by
    rw [List.map_cons] at h
    rcases List.mem_cons.mp h with rfl | h
    · exact ⟨_, List.mem_cons_self, c, e⟩
    · obtain ⟨C, h1, h2⟩ := r.get h
      exact ⟨C, List.mem_cons_of_mem _ h1, h2⟩
section
variable {K : PySem.W.Frag} {mg : Str → Option Value} {xs : List Str} {S : Addr} {tab : List (Str × Addr)} {x y : Str} {C D : Addr}
theorem XTab.get (T : XTab K mg xs S tab) (h : x ∈ xs) : ∃ C, (x, C) ∈ tab ∧ XCls K mg x C S ∧ (PySem.W.excIn K C veMro "ValueError.__new__" = true ∨ x = "NoText") := T.all.get (by rw [T.nm]; exact h)
theorem inj_of_nodup : ∀ {tab : List (Str × Addr)}, (tab.map (·.2)).Nodup → (x, C) ∈ tab → (y, C) ∈ tab → x = y
  | [], _, h, _ => nomatch h
  | p :: r, n, h1, h2 => by
    rw [List.map_cons, List.nodup_cons] at n
    rcases List.mem_cons.mp h1 with e1 | h1
    · rcases List.mem_cons.mp h2 with e2 | h2
      · rw [← e1] at e2; exact (congrArg Prod.fst e2).symm
      · exact absurd (List.mem_map.mpr ⟨(y, C), h2, by rw [← e1]⟩) n.1
    · rcases List.mem_cons.mp h2 with e2 | h2
      · exact absurd (List.mem_map.mpr ⟨(x, C), h1, by rw [← e2]⟩) n.1
      · exact inj_of_nodup n.2 h1 h2
theorem XTab.inj' (T : XTab K mg xs S tab) (h1 : (x, C) ∈ tab) (h2 : (y, C) ∈ tab) : x = y := inj_of_nodup T.inj h1 h2
theorem XCls.sub (c : XCls K mg x C S) (b : Value) : PySem.W.subIn K (.ref C) b = some ((.ref C :: .ref S :: veMro : List Value).contains b) := by
  obtain ⟨d, h1, h2, _⟩ := c.cd
  show (PySem.W.clsIn K C).bind _ = _
  rw [h1, Option.bind_some, h2]
  rfl
theorem XCls.dict (c : XCls K mg x C S) : PySem.W.hasDictIn K C = true := by
  obtain ⟨d, h1, _, h3⟩ := c.cd
  show (PySem.W.clsIn K C).any _ = true
  rw [h1]
  exact h3
theorem XCls.isc (c : XCls K mg x C S) (T : XTab K mg xs S tab) : ExcC K C := ⟨c.gg, c.gk, (c.sub _).trans rfl, c.dict, c.gc, T.g1, T.t1, (c.sub _).trans rfl⟩
theorem val_ref_beq {a b : Addr} : ((Value.ref a : Value) == .ref b) = decide (a = b) := by
  by_cases h : a = b
  · subst h; rw [decide_eq_true rfl]; exact beq_self_eq_true _
  · rw [decide_eq_false h]
    exact beq_eq_false_iff_ne.mpr fun z => h (Value.ref.inj z)
theorem kitCls_ref {K : PySem.W.Frag} {t : Value} {C : Addr} (h1 : (PySem.W.clsIn K C).isSome = true) (h2 : PySem.W.typeIn K (.ref C) = some (.type "type")) : PySem.W.kitCls K t (.ref C) = PySem.W.subIn K t (.ref C) := by
  show (if ((PySem.W.clsIn K C).isSome && PySem.W.typeIn K (.ref C) == some (.type "type")) = true then PySem.W.subIn K t (.ref C) else none) = _
  rw [h1, h2]
  exact if_pos (by rfl)
/-- is an instance of C one of D -/
theorem XTab.kit (T : XTab K mg xs S tab) (h1 : (x, C) ∈ tab) (c : XCls K mg x C S) (h2 : (y, D) ∈ tab) (d : XCls K mg y D S) : PySem.W.kitOne K (.ref C) (.ref D) = some (decide (x = y)) := by
  obtain ⟨dd, e1, e2, e3⟩ := d.cd
  unfold PySem.W.kitOne
  rw [val_ref_beq]
  by_cases h : C = D
  · subst h
    rw [decide_eq_true rfl, if_pos rfl, T.inj' h1 h2, decide_eq_true rfl]
  · rw [decide_eq_false h, if_neg (by decide)]
    have hxy : x ≠ y := fun z => by
      subst z
      have := c.ns.symm.trans d.ns
      exact h (Value.ref.inj (Option.some.inj (Option.some.inj this)))
    rw [decide_eq_false hxy]
    rw [kitCls_ref (by rw [e1]; rfl) d.ty, c.sub]
    have hS : ¬ S = D := fun z => T.nS (by subst z; exact List.mem_map.mpr ⟨_, h2, rfl⟩)
    refine congrArg some ?_
    rw [List.contains_cons, List.contains_cons, val_ref_beq, decide_eq_false (Ne.symm h), val_ref_beq, decide_eq_false (Ne.symm hS)]
    rfl
theorem XTab.kitS (T : XTab K mg xs S tab) (c : XCls K mg x C S) (h1 : (x, C) ∈ tab) : PySem.W.kitOne K (.ref C) (.ref S) = some true := by
  obtain ⟨dd, e1, e2, e3⟩ := T.cdS
  unfold PySem.W.kitOne
  split
  · rfl
  · rw [kitCls_ref (by rw [e1]; rfl) T.tyS, c.sub]
    refine congrArg some ?_
    rw [List.contains_cons, List.contains_cons, beq_self_eq_true, Bool.true_or, Bool.or_true]
theorem XCls.kitV (c : XCls K mg x C S) : PySem.W.kitOne K (.ref C) (.type "ValueError") = some true := by
  unfold PySem.W.kitOne
  split
  · rfl
  · show (if PySem.W.kitMeta "ValueError" = true then PySem.W.subIn K (.ref C) (.type "ValueError") else none) = _
    rw [if_pos (by decide +kernel), c.sub]
    rfl
theorem XTab.exm (T : XTab K mg xs S tab) (c : XCls K mg x C S) : PySem.W.exmOne K (.ref C) (.ref S) = some true := by
  obtain ⟨dd, e1, e2, e3⟩ := T.cdS
  unfold PySem.W.exmOne
  have hs : ∀ b, PySem.W.subIn K (.ref S) b = some ((.ref S :: veMro : List Value).contains b) := fun b => by
    show (PySem.W.clsIn K S).bind _ = _
    rw [e1, Option.bind_some, e2]
    rfl
  rw [hs, if_pos (by rfl)]
  rw [kitCls_ref (by rw [e1]; rfl) T.tyS, c.sub]
  refine congrArg some ?_
  rw [List.contains_cons, List.contains_cons, beq_self_eq_true, Bool.true_or, Bool.or_true]
end

/-! ### raise -/
def sRaise (x : Str) : SF := fun ρ M => .er ⟨x, none⟩ ρ M
theorem ms_raise {X : Cx} {k : Nat} {xw : WX} {xs : List Str} {S : Addr} {tab : List (Str × Addr)} {x m : Str} {j : Nat} {p p2 p3 pos : Pos} (C : Ctx X k xw) (T : XTab X.K X.mg xs S tab) (hx : x ∈ xs) (hn : x ≠ "NoText" := by decide) (hg : Gl X x := by rfl)
    (hdb : (x == ("__debug__" : Str)) = false := by decide) : MS X xw (.Raise (some (.Call (.Name x p) [.Constant (.str m) j p2] [] pos)) none p3) (sRaise x) := by
  obtain ⟨c, h1, h2, h3 | h3⟩ := T.get hx
  · refine PS.imp (ps_raise C.calm C.takes (pmk_own PySem.F.excBase_ValueError h3 h2.mg h2.kp (raises_own ((h2.sub _).trans rfl) h2.ty) hg hdb)) fun D σ H ⟨g, ρ, M, R, S', b⟩ => ?_
    exact b _ none σ g H R (Ext.refl _ _) S' ⟨⟨c, rfl, h2.ns⟩, rfl⟩
  · exact absurd h3 hn

/-! ### try .. except SettingsError as y -/
def sTry (xs : List Str) (i : Nat) (fb fs : SF) : SF := fun ρ M => match fb ρ M with
  | .er e ρ1 M1 => if e.c ∈ xs then match fs (ρ1.set i (some (.exc e))) M1 with
      | .nx ρ2 M2 => .nx (ρ2.set i none) M2
      | .bk ρ2 M2 => .bk (ρ2.set i none) M2
      | .ct ρ2 M2 => .ct (ρ2.set i none) M2
      | .ret w M2 => .ret w M2
      | _ => .stuck
    else .stuck
  | r => r
theorem Rel.layX {K : PySem.W.Frag} {g : Gh} {M : List MO} {H : Hp} {p : Addr} {o : HO} (r : Rel K g M H) (h : H p = none) : Rel K ⟨g.ph, L2.upd g.F p o⟩ M (L2.upd H p o) := r.lay h
theorem Ctx.try_ {X : Cx} {k : Nat} {xw W : WX} {pn : List (Addr × Obj)} {xe : Value → Shared → Prop} (C : Ctx X k xw) (t : Takes (X.tr pn xe) W) (o : PassesOwn (model X.prog X.w) X.A X.env xe) : Ctx (X.tr pn xe) k W := ⟨C.calm, C.nd, t, o, C.room, C.gd⟩
theorem ms_try {X : Cx} {k : Nat} {xw : WX} {xs : List Str} {S : Addr} {tab : List (Str × Addr)} {y : Str} {body more : List Stmt} {first : Stmt} {fb fs : SF} {p1 p2 p3 : Pos} (C : Ctx X k xw) (T : XTab X.K X.mg xs S tab) (i : Nat)
    (hb : ∀ (W : WX) (pn : List (Addr × Obj)) (xe : Value → Shared → Prop), Ctx (X.tr pn xe) k W → MSs (X.tr pn xe) W body fb)
    (hsu : ∀ (a : Addr) (pn : List (Addr × Obj)), MSs (X.suite a pn) xw0 (first :: more) fs) (hi : X.N[i]? = some y := by rfl) (hy : X.env.kindOf y = some .local := by rfl) (hg : Gl X "SettingsError" := by rfl)
    (hs : X.stack = X.env :: X.outer := by rfl) (hl : X.env.frame = some X.env.locals := by rfl) (hx : X.ex = [] := by rfl) :
    MS X xw (.Try body [.ExceptHandler (some (.Name "SettingsError" p1)) (some y) (first :: more) p2] [] [] p3) (sTry xs i fb fs) := by
  refine PS.imp (ps_tryX (c := .ref S) (i := i) (tb := fun W => tS (tx X) W fb) (ts := fun a => tS (tx X) xw0 fs) hs hl hx C.nd hi hy ⟨hg, rfl, .inl T.mgS⟩ (fun W pn xe t o => hb W pn xe (C.try_ t o)) hsu) fun D σ H ⟨g, ρ, M, R, Sl, b⟩ => ?_
  refine ⟨g, ρ, M, R, Sl, ?_⟩
  unfold sTry at b
  cases e1 : fb ρ M with
  | nx ρ1 M1 => rw [e1] at b; exact b
  | bk ρ1 M1 => rw [e1] at b; exact b
  | ct ρ1 M1 => rw [e1] at b; exact b
  | ret ρ1 M1 => rw [e1] at b; exact b
  | stuck => rw [e1] at b; exact b
  | er e ρ1 M1 =>
    rw [e1] at b
    simp only at b
    split at b
    · rename_i hin
      intro cls d σ1 g1 H1 R1 E1 S1 ix
      obtain ⟨⟨C1, rfl, hns⟩, hln⟩ := ix
      obtain ⟨C2, h1, h2, _⟩ := T.get hin
      have hC : C1 = C2 := Value.ref.inj (Option.some.inj (Option.some.inj (hns.symm.trans h2.ns)))
      subst hC
      refine ⟨T.exm h2, fun a na => ?_⟩
      have R2 := R1.lay (o := ExH (.ref C1) d a) na
      have E2 : Ext g1 H1 ⟨g1.ph, L2.upd g1.F a (ExH (.ref C1) d a)⟩ (L2.upd H1 a (ExH (.ref C1) d a)) := Ext.lay R1.sub na
      have rx : RW X.K ⟨g1.ph, L2.upd g1.F a (ExH (.ref C1) d a)⟩ (.ref a) (.exc e) := .exc hns L2.upd_same (hln.sub (Sub.upd (R1.sub.none na)))
      refine ⟨_, _, M1, R2, (S1.gr E2.gr).set i rx, ?_⟩
      cases e2 : fs (ρ1.set i (some (.exc e))) M1 with
      | nx ρ2 M2 => rw [e2] at b; exact fun σ3 g3 H3 R3 E3 S3 => b (σ3.set i none) g3 H3 R3 ((E1.trans E2).trans E3) (S3.unset i)
      | bk ρ2 M2 => rw [e2] at b; exact fun σ3 g3 H3 R3 E3 S3 => b (σ3.set i none) g3 H3 R3 ((E1.trans E2).trans E3) (S3.unset i)
      | ct ρ2 M2 => rw [e2] at b; exact fun σ3 g3 H3 R3 E3 S3 => b (σ3.set i none) g3 H3 R3 ((E1.trans E2).trans E3) (S3.unset i)
      | ret w M2 => rw [e2] at b; exact fun v g3 H3 R3 E3 r3 => b v g3 H3 R3 ((E1.trans E2).trans E3) r3
      | er x ρ2 M2 => rw [e2] at b; exact b.elim
      | stuck => rw [e2] at b; exact b.elim
    · exact b.elim

/-! ### isinstance of such a class -/
inductive XK where
  | own (x : Str) | base | ve
def XK.of : XK → Ex → Bool
  | .own x, e => decide (e.c = x)
  | _, _ => true
def sIsX (xs : List Str) (q : XK) (f : EF) : EF := fun ρ M => (f ρ M).bind fun w M => match w with
  | .exc e => if e.c ∈ xs then .ok (.d (.bool (q.of e))) M else .stuck
  | .d _ => .ok (.d (.bool false)) M
  | _ => .stuck
theorem _root_.L2.ExcC.cls_there {K : PySem.W.Frag} {D : Addr} (Z : ExcC K D) : ∃ cd, PySem.W.clsIn K D = some cd := by
  cases e : PySem.W.clsIn K D with
  | some cd => exact ⟨cd, rfl⟩
  | none =>
    have h : (PySem.W.clsIn K D).any _ = true := Z.hd
    rw [e] at h
    cases h
/-- the class of a caught exception, whether it has a dict or not -/
theorem cls_of_exc {prog : Program} {w : World} {B : Around} {E : Value → Shared → Prop} {Q : Option Value → Shared → Prop} {K : PySem.W.Frag} {z D : Addr} {oz : Obj} {od : Option Obj} {u : Shared} (Z : ExcC K D) (kin : K.In u.heap) (at_ : PySem.W.InstAt u.heap z oz D od) (fin : Q (some (.ref D)) { u with toks := u.toks + 1 }) :
    wpAny (model prog w) B (getAttr? (.ref z) "__class__") Q E u := by
  have found : PySem.W.findObj K D od "__class__" = some (.bind (.builtin "getset_descriptor.__get__") (.builtin "object.__class__")) := by
    obtain ⟨cd, hc⟩ := Z.cls_there
    unfold PySem.W.findObj
    rw [hc, Option.bind_some, Z.ha, Option.bind_some]
    simp [Z.hn, Z.ht]
  obtain ⟨hp, gg, dd, tk, oo⟩ := u
  have l0 := at_.type (M := model prog w)
  have l1 := PySem.W.looks_findIn (M := model prog w) kin Z.hg
  have l2 := PySem.W.looks_findIn (M := model prog w) kin Z.hk
  have l3 := PySem.W.looks_find (M := model prog w) kin at_ found
  have isB : PySem.W.Looks (model prog w) hp (isInstance (.ref z) (.type "BaseException")) true := l0.andThen (PySem.W.looks_subIn kin Z.hs)
  have n2 : (Value.builtin "BaseException.__getattribute__" == Value.builtin "object.__getattribute__") = false := by decide +kernel
  have n1 : (onTheHeap (Value.ref D) && Value.builtin "BaseException.__getattribute__" == Value.builtin "object.__getattribute__") = false := by rw [n2]; rfl
  unfold getAttr? getAttrBy? getAttrBy
  refine wpAny_bind (wpAny_mkText (wpAny_bind (wpAny_attempt (wpAny_holding (wpAny_bind (l0.at (wpAny_bind (l1.at ?_))))))))
  show wpAny _ _ (if (onTheHeap (Value.ref D) && Value.builtin "BaseException.__getattribute__" == Value.builtin "object.__getattribute__") = true then _ else _) _ _ _
  rw [n1, if_neg Bool.false_ne_true]
  unfold getAttrByItsOwn hookBefore
  refine wpAny_bind (by
    rw [if_pos (show onTheHeap (Value.ref D) = true from rfl)]
    refine l2.at (wpAny_bind (wpAny_attempt (wpAny_holding ?_)))
    unfold callGetattribute
    rw [show (false && onTheHeap (Value.builtin "BaseException.__getattribute__")) = false from rfl, if_neg Bool.false_ne_true]
    unfold boundAndCalled
    rw [PySem.F.excAttr_ValueError.ga.bind (.ref z)]
    refine wpAny_bind (wpAny_pure ?_)
    show wpAny _ _ (call (.builtin "BaseException.__getattribute__") [.ref z, .str "__class__" tk]) _ _ _
    refine wpAny_call (codeAny_call_builtin PySem.F.excAttr_ValueError.ga.plain PySem.F.entry_bexc_ga ?_)
    refine @PySem.W.check_slot (model prog w) _ _ ⟨hp, gg, dd, tk + 1, oo⟩ "BaseException.__getattribute__" "BaseException" "__getattribute__" (.ref z) [.str "__class__" tk] [] _ (by decide +kernel) (by decide +kernel) isB (PySem.F.args_bexc_ga (.ref z) (.str "__class__" tk)) ?_
    unfold Builtin.«object.__getattribute__»
    refine wpAny_bind (wpAny_of_eq (a := ((Value.ref z : Value), [Value.str "__class__" tk])) (by first | rfl | (simp only [slotArgs]; rfl)) ?_)
    refine wpAny_bind (wpAny_pure (wpAny_bind (l0.at (wpAny_bind (l3.at ?_)))))
    show wpAny _ _ (holding [Value.builtin "object.__class__"] (call (.builtin "getset_descriptor.__get__") [.builtin "object.__class__", .ref z, .ref D]) >>= ret) _ _ _
    refine wpAny_bind (wpAny_holding (wpAny_call (PySem.W.class_get (s := ⟨hp, gg, dd, tk + 1, oo⟩) (ox := oz) (od := od) kin at_ Z.hm ?_)))
    refine wpAny_pure ?_
    show wpAny _ _ (handedOut (.ref D)) _ _ _
    rw [PySem.W.handedOut_of (v := .ref D) rfl]
    first
      | exact wpAny_pure (wpAny_pure fin)
      | exact wpAny_pure fin
      | exact wpAny_pure (wpAny_bind (wpAny_pure (wpAny_pure fin))))
theorem kit_of_exc {K : PySem.W.Frag} {z D : Addr} {oz : Obj} {od : Option Obj} (Z : ExcC K D) : PySem.W.KitX K (.ref z) (.ref D) (fun h => PySem.W.InstAt h z oz D od) where
  ty := fun _ _ _ I => I.type
  it := fun M h kin _ => by
    obtain ⟨cd, hc⟩ := Z.cls_there
    unfold PySem.W.clsIn at hc
    split at hc
    · rename_i oD
      intro B Q E u k q
      unfold isType loadHead
      exact wpAny_bind (wpAny_loadPart (k _ _ (kin _ _ oD)) (wpAny_pure q))
    · cases hc
  ne := fun h tp dd its n sl X htp => (PySem.W.handS_kitx_exc (x := z) (ox := oz) Z.hg Z.hk Z.hs Z.hd Z.ha Z.hn Z.ht Z.hm).ne h tp dd its n sl X htp
  ca := fun X I k => cls_of_exc Z X I k
/-- isinstance(e, c), e a caught exception that is tracked -/
def rIsX (K : PySem.W.Frag) : List V → Hp → VK → Prop := fun xs H Q => ∃ (a D : Addr) (c : V) (u : Value) (b : Bool) (d : Option Addr), xs = [.ref a, c] ∧ ClsV c u ∧ ExcC K D ∧ H a = some (ExH (.ref D) d a) ∧ (d = none ∨ ∃ dx fs, d = some dx ∧ H dx = some (.xd fs)) ∧ PySem.W.kitOne K (.ref D) u = some b ∧ Q (.bl b) H
theorem call_isX {X : Cx} : CallR X (.builtin "isinstance") (rIsX X.K) := by
  intro pins s σ H xs us Q I r h
  obtain ⟨a, D, c, u, b, d, rfl, k, C, ha, hd, e, q⟩ := h
  obtain ⟨u1, u2, rfl, r1, r2⟩ := vals2 r
  have e2 := k.eq r2
  subst e2
  obtain rfl : u1 = Value.ref a := r1
  obtain ⟨oe, vs, g1, z1, d1⟩ := exh_at I.hok ha
  obtain ⟨oc, od, oda, osl⟩ := oe
  obtain ⟨h1, h2⟩ := z1
  dsimp only at h1 h2 d1
  subst h1 h2 d1
  rcases hd with rfl | ⟨dx, fs, rfl, hx⟩
  · have J : PySem.W.InstAt s.heap a ⟨.ref D, none, .fields vs, osl⟩ D none := ⟨g1, rfl, rfl, trivial⟩
    exact PySem.W.kia_one (kit_of_exc C) I.kIn J e (fun z => nomatch z) fun tk => ⟨.bl b, H, I.tok tk, rfl, q⟩
  · have hx' : ObjOk X.prog X.w H s.heap dx (.xd fs) := I.hok dx _ hx
    obtain ⟨mA, hns, _⟩ := hx'
    obtain ⟨oo, ho, _⟩ := lookIn_ns hns
    have J : PySem.W.InstAt s.heap a ⟨.ref D, some dx, .fields vs, osl⟩ D (some oo) := ⟨g1, rfl, rfl, ho⟩
    exact PySem.W.kia_one (kit_of_exc C) I.kIn J e (fun z => nomatch z) fun tk => ⟨.bl b, H, I.tok tk, rfl, q⟩
def okM (o : Option (List Value)) : Bool := match o with
  | some l => l.all fun v => match v with
    | .type t => t != "ValueError"
    | _ => false
  | none => false
theorem mro_ok (d : PyData) : okM (fastBuiltinMro (tyN d)) = true := by
  cases d
  · exact (by decide +kernel : okM (fastBuiltinMro "NoneType") = true)
  · exact (by decide +kernel : okM (fastBuiltinMro "bool") = true)
  · exact (by decide +kernel : okM (fastBuiltinMro "int") = true)
  · exact (by decide +kernel : okM (fastBuiltinMro "str") = true)
  · exact (by decide +kernel : okM (fastBuiltinMro "list") = true)
  · exact (by decide +kernel : okM (fastBuiltinMro "tuple") = true)
  · exact (by decide +kernel : okM (fastBuiltinMro "dict") = true)
theorem mro_no {K : PySem.W.Frag} (d : PyData) {u : Value} (h : (∃ C, u = .ref C) ∨ u = .type "ValueError") : PySem.W.subIn K (.type (tyN d)) u = some false := by
  show (fastBuiltinMro (tyN d)).map (fun l => l.contains u) = some false
  have q := mro_ok d
  unfold okM at q
  split at q
  · rename_i l e
    rw [e]
    refine congrArg some (Bool.eq_false_iff.mpr fun z => ?_)
    have hm : u ∈ l := List.contains_iff_mem.mp z
    have := List.all_eq_true.mp q u hm
    rcases h with ⟨C, rfl⟩ | rfl
    · cases this
    · exact absurd this (by decide)
  · cases q
theorem kit_data {K : PySem.W.Frag} (d : PyData) {C : Addr} (h1 : (PySem.W.clsIn K C).isSome = true) (h2 : PySem.W.typeIn K (.ref C) = some (.type "type")) : PySem.W.kitOne K (.type (tyN d)) (.ref C) = some false := by
  unfold PySem.W.kitOne
  rw [if_neg (by intro z; exact absurd (eq_of_beq z) (by intro z; cases z)), kitCls_ref h1 h2]
  exact mro_no d (.inl ⟨_, rfl⟩)
theorem tyN_ne (d : PyData) : ((Value.type (tyN d)) == .type "ValueError") = false := by
  cases d
  · exact (by decide : ((Value.type "NoneType") == .type "ValueError") = false)
  · exact (by decide : ((Value.type "bool") == .type "ValueError") = false)
  · exact (by decide : ((Value.type "int") == .type "ValueError") = false)
  · exact (by decide : ((Value.type "str") == .type "ValueError") = false)
  · exact (by decide : ((Value.type "list") == .type "ValueError") = false)
  · exact (by decide : ((Value.type "tuple") == .type "ValueError") = false)
  · exact (by decide : ((Value.type "dict") == .type "ValueError") = false)
theorem kit_dataV {K : PySem.W.Frag} (d : PyData) : PySem.W.kitOne K (.type (tyN d)) (.type "ValueError") = some false := by
  unfold PySem.W.kitOne
  rw [tyN_ne, if_neg (by decide)]
  show (if PySem.W.kitMeta "ValueError" = true then PySem.W.subIn K (.type (tyN d)) (.type "ValueError") else none) = _
  rw [if_pos (by decide +kernel)]
  exact mro_no d (.inr rfl)
section
variable {X : Cx} {xw : WX} {a : Expr} {fa : EF} {pos p1 p2 : Pos} {xs : List Str} {S : Addr} {tab : List (Str × Addr)}
theorem isX_imp {c : V} {u : Value} {q : XK} (T : XTab X.K X.mg xs S tab) (hc : ClsV c u) (hk : ∀ x C, (x, C) ∈ tab → XCls X.K X.mg x C S → PySem.W.kitOne X.K (.ref C) u = some (q.of ⟨x, none⟩)) (hd : ∀ d, PySem.W.kitOne X.K (.type (tyN d)) u = some false)
    {σ : L2.St} {H : Hp} {Q : VK} (h : tE (tx X) xw (sIsX xs q fa) σ H Q) : tE (tx X) xw fa σ H fun v H1 => rIsi X.K [v, c] H1 Q ∨ rIsX X.K [v, c] H1 Q := by
  refine tG_mono (tG_bind (R2 := RW X.K) h) fun v H1 ⟨g, ρ, M, w, R, Sl, r, b⟩ => ?_
  cases w with
  | loc n => exact b.elim
  | tup n => exact b.elim
  | scr n => exact b.elim
  | kd n => exact b.elim
  | clo _ n => exact b.elim
  | fn n => exact b.elim
  | d x =>
    cases r with
    | d r => exact .inl ⟨v, c, _, _, _, rfl, hc, dv_ty R.sub (.inl r), hd x, b _ g H1 R (Ext.refl _ _) (.d (.bl _))⟩
  | exc e =>
    simp only at b
    split at b
    · rename_i hin
      cases r with
      | @exc pa C d _ hns hF hln =>
        obtain ⟨C2, h1, h2, _⟩ := T.get hin
        have hC : C = C2 := Value.ref.inj (Option.some.inj (Option.some.inj (hns.symm.trans h2.ns)))
        subst hC
        have hdn : d = none ∨ ∃ dx fs, d = some dx ∧ H1 dx = some (.xd fs) := by
          unfold Ln at hln
          split at hln
          · exact .inl hln
          · obtain ⟨dx, e1, e2⟩ := hln
            exact .inr ⟨dx, _, e1, R.sub _ _ e2⟩
        have hq : q.of e = q.of ⟨e.c, none⟩ := by cases q <;> rfl
        exact .inr ⟨_, C, c, u, _, d, rfl, hc, h2.isc T, R.sub _ _ hF, hdn, (hk _ _ h1 h2).trans (congrArg some hq.symm), b _ g H1 R (Ext.refl _ _) (.d (.bl _))⟩
    · exact b.elim
theorem call_isXX {X : Cx} : CallR X (.builtin "isinstance") (fun vs H Q => rIsi X.K vs H Q ∨ rIsX X.K vs H Q) := fun pins s σ H xs us Q I r h => h.elim (call_isi pins s σ H xs us Q I r) (call_isX pins s σ H xs us Q I r)
theorem me_isX {x : Str} (T : XTab X.K X.mg xs S tab) (hx : x ∈ xs) (ha : ME X xw a fa) (hm : X.mg "isinstance" = none) (hg : Gl X "isinstance" := by rfl) (hgx : Gl X x := by rfl) (hdb : (x == ("__debug__" : Str)) = false := by decide)
    (he : starEach [a, .Name x p2] X.env = (false, eval a X.env) :: starEach [.Name x p2] X.env := by rfl) (hpl : (backTo pos (starEach [.Name x p2] X.env)).any (·.1) = false := by rfl) (he2 : starEach [.Name x p2] X.env = (false, eval (.Name x p2) X.env) :: starEach [] X.env := by rfl) :
    ME X xw (.Call (.Name "isinstance" p1) [a, .Name x p2] [] pos) (sIsX xs (.own x) fa) := by
  obtain ⟨D, d1, d2, _⟩ := T.get hx
  obtain ⟨dd, e1, _⟩ := d2.cd
  refine PE.imp (pe_callB call_isXX hg hm PyProof.Rows.boot_isinstance (pa_cons ha (pa_cons (pe_glob hgx d2.mg (v := .ref D) rfl hdb) pa_nil he2) he) (he := he) (hpl := hpl)) fun σ H Q h => ?_
  exact isX_imp (q := .own x) T (.own D) (fun y C h1 h2 => T.kit h1 h2 d1 d2) (fun d => kit_data d (by rw [e1]; rfl) d2.ty) h
theorem me_isXS (T : XTab X.K X.mg xs S tab) (ha : ME X xw a fa) (hm : X.mg "isinstance" = none) (hg : Gl X "isinstance" := by rfl) (hgx : Gl X "SettingsError" := by rfl)
    (he : starEach [a, .Name "SettingsError" p2] X.env = (false, eval a X.env) :: starEach [.Name "SettingsError" p2] X.env := by rfl) (hpl : (backTo pos (starEach [.Name "SettingsError" p2] X.env)).any (·.1) = false := by rfl) (he2 : starEach [.Name "SettingsError" p2] X.env = (false, eval (.Name "SettingsError" p2) X.env) :: starEach [] X.env := by rfl) :
    ME X xw (.Call (.Name "isinstance" p1) [a, .Name "SettingsError" p2] [] pos) (sIsX xs .base fa) := by
  obtain ⟨dd, e1, _⟩ := T.cdS
  refine PE.imp (pe_callB call_isXX hg hm PyProof.Rows.boot_isinstance (pa_cons ha (pa_cons (pe_glob hgx T.mgS (v := .ref S) rfl rfl) pa_nil he2) he) (he := he) (hpl := hpl)) fun σ H Q h => ?_
  exact isX_imp (q := .base) T (.own S) (fun y C h1 h2 => T.kitS h2 h1) (fun d => kit_data d (by rw [e1]; rfl) T.tyS) h
theorem me_isXV (T : XTab X.K X.mg xs S tab) (ha : ME X xw a fa) (hm : X.mg "isinstance" = none) (hmv : X.mg "ValueError" = none) (hg : Gl X "isinstance" := by rfl) (hgx : Gl X "ValueError" := by rfl)
    (he : starEach [a, .Name "ValueError" p2] X.env = (false, eval a X.env) :: starEach [.Name "ValueError" p2] X.env := by rfl) (hpl : (backTo pos (starEach [.Name "ValueError" p2] X.env)).any (·.1) = false := by rfl) (he2 : starEach [.Name "ValueError" p2] X.env = (false, eval (.Name "ValueError" p2) X.env) :: starEach [] X.env := by rfl) :
    ME X xw (.Call (.Name "isinstance" p1) [a, .Name "ValueError" p2] [] pos) (sIsX xs .ve fa) := by
  refine PE.imp (pe_callB call_isXX hg hm PyProof.Rows.boot_isinstance (pa_cons ha (pa_cons (pe_bltn (v := .ty "ValueError") hgx hmv (by decide +kernel) rfl (by decide) rfl) pa_nil he2) he) (he := he) (hpl := hpl)) fun σ H Q h => ?_
  exact isX_imp (q := .ve) T (.ty "ValueError") (fun y C h1 h2 => h2.kitV) (fun d => kit_dataV d) h
/-! x is None, x perhaps an exception -/
def pIsNX (k : Bool) : Pr := fun ws M => match ws with
  | [.exc _] => some (.d (.bool (!k)), M)
  | [.d x] => match pIsN [x] with
    | some (.bool b) => some (.d (.bool (b == k)), M)
    | _ => none
  | _ => none
theorem isNX_ok (K : PySem.W.Frag) (k : Bool) : PrOk K (pIsNX k) (r1 fun x H Q => Q (.bl (decide (x = .non) == k)) H) := fun g M H vs ws w M' Q R r e q => by
  unfold pIsNX at e
  split at e
  · cases e
    cases r with
    | cons r1 r2 =>
      cases r2
      cases r1 with
      | exc h1 h2 h3 =>
        refine ⟨_, rfl, ?_⟩
        have := q (.bl (!k)) g H R (Ext.refl _ _) (.d (.bl _))
        cases k <;> exact this
  · cases r with
    | cons r1 r2 =>
      cases r2
      cases r1 with
      | d d1 =>
        split at e
        · rename_i b eb
          cases e
          refine ⟨_, rfl, ?_⟩
          show Q (.bl (decide (_ = V.non) == k)) H
          rw [isN_dec R.sub (.inl d1) eb]
          exact q _ g H R (Ext.refl _ _) (.d (.bl _))
        · cases e
  · cases e
theorem me_isNX {j pos'} (ha : ME X xw a fa) : ME X xw (.Compare a [.Is] [.Constant .none j pos'] pos) (sPr (pIsNX true) [fa]) :=
  PE.imp (pe_cmp (pc_isN ha) (nobehind _ (by decide) (by decide))) fun σ H Q h => tG_mono (prim1 (T := tx X) (isNX_ok _ true) h) fun v H1 ⟨x, e, q⟩ => by cases e; simpa using q
theorem me_notNX {j pos'} (ha : ME X xw a fa) : ME X xw (.Compare a [.IsNot] [.Constant .none j pos'] pos) (sPr (pIsNX false) [fa]) :=
  PE.imp (pe_cmp (pc_notN ha) (nobehind _ (by decide) (by decide))) fun σ H Q h => tG_mono (prim1 (T := tx X) (isNX_ok _ false) h) fun v H1 ⟨x, e, q⟩ => by cases e; simpa using q
theorem mt_isNX {j pos'} (ha : ME X xw a fa) : MT X xw (.Compare a [.Is] [.Constant .none j pos'] pos) (sVal (sPr (pIsNX true) [fa])) :=
  PT.imp (pt_cmp (pc_isN ha) (nobehind _ (by decide) (by decide))) fun σ H Q h => tG_mono (prim1 (T := tx X) (isNX_ok _ true) (tT_val h)) fun v H1 ⟨x, e, q⟩ => by cases e; simpa using q
theorem mt_notNX {j pos'} (ha : ME X xw a fa) : MT X xw (.Compare a [.IsNot] [.Constant .none j pos'] pos) (sVal (sPr (pIsNX false) [fa])) :=
  PT.imp (pt_cmp (pc_notN ha) (nobehind _ (by decide) (by decide))) fun σ H Q h => tG_mono (prim1 (T := tx X) (isNX_ok _ false) (tT_val h)) fun v H1 ⟨x, e, q⟩ => by cases e; simpa using q
end

/-! ### the table, its places hidden -/
structure XT (K : PySem.W.Frag) (mg : Str → Option Value) (xs : List Str) : Prop where
  ex : ∃ S tab, XTab K mg xs S tab
section
variable {X : Cx} {xw : WX} {a : Expr} {fa : EF} {pos p1 p2 p3 : Pos} {xs : List Str} {k : Nat}
theorem mx_raise {x m : Str} {j : Nat} {p : Pos} (C : Ctx X k xw) (T : XT X.K X.mg xs) (hx : x ∈ xs := by decide) (hn : x ≠ "NoText" := by decide) (hg : Gl X x := by rfl)
    (hdb : (x == ("__debug__" : Str)) = false := by decide) : MS X xw (.Raise (some (.Call (.Name x p) [.Constant (.str m) j p2] [] pos)) none p3) (sRaise x) :=
  let ⟨_, _, t⟩ := T.ex
  ms_raise C t hx hn hg hdb
theorem mx_try {y : Str} {body more : List Stmt} {first : Stmt} {fb fs : SF} (C : Ctx X k xw) (T : XT X.K X.mg xs) (i : Nat)
    (hb : ∀ (W : WX) (pn : List (Addr × Obj)) (xe : Value → Shared → Prop), Ctx (X.tr pn xe) k W → MSs (X.tr pn xe) W body fb)
    (hsu : ∀ (a : Addr) (pn : List (Addr × Obj)), MSs (X.suite a pn) xw0 (first :: more) fs) (hi : X.N[i]? = some y := by rfl) (hy : X.env.kindOf y = some .local := by rfl) (hg : Gl X "SettingsError" := by rfl)
    (hs : X.stack = X.env :: X.outer := by rfl) (hl : X.env.frame = some X.env.locals := by rfl) (hx : X.ex = [] := by rfl) :
    MS X xw (.Try body [.ExceptHandler (some (.Name "SettingsError" p1)) (some y) (first :: more) p2] [] [] p3) (sTry xs i fb fs) :=
  let ⟨_, _, t⟩ := T.ex
  ms_try C t i hb hsu hi hy hg hs hl hx
theorem mx_is {x : Str} (T : XT X.K X.mg xs) (ha : ME X xw a fa) (hm : X.mg "isinstance" = none) (hx : x ∈ xs := by decide) (hg : Gl X "isinstance" := by rfl) (hgx : Gl X x := by rfl) (hdb : (x == ("__debug__" : Str)) = false := by decide)
    (he : starEach [a, .Name x p2] X.env = (false, eval a X.env) :: starEach [.Name x p2] X.env := by rfl) (hpl : (backTo pos (starEach [.Name x p2] X.env)).any (·.1) = false := by rfl) (he2 : starEach [.Name x p2] X.env = (false, eval (.Name x p2) X.env) :: starEach [] X.env := by rfl) :
    ME X xw (.Call (.Name "isinstance" p1) [a, .Name x p2] [] pos) (sIsX xs (.own x) fa) :=
  let ⟨_, _, t⟩ := T.ex
  me_isX t hx ha hm hg hgx hdb he hpl he2
theorem mx_isS (T : XT X.K X.mg xs) (ha : ME X xw a fa) (hm : X.mg "isinstance" = none) (hg : Gl X "isinstance" := by rfl) (hgx : Gl X "SettingsError" := by rfl)
    (he : starEach [a, .Name "SettingsError" p2] X.env = (false, eval a X.env) :: starEach [.Name "SettingsError" p2] X.env := by rfl) (hpl : (backTo pos (starEach [.Name "SettingsError" p2] X.env)).any (·.1) = false := by rfl) (he2 : starEach [.Name "SettingsError" p2] X.env = (false, eval (.Name "SettingsError" p2) X.env) :: starEach [] X.env := by rfl) :
    ME X xw (.Call (.Name "isinstance" p1) [a, .Name "SettingsError" p2] [] pos) (sIsX xs .base fa) :=
  let ⟨_, _, t⟩ := T.ex
  me_isXS t ha hm hg hgx he hpl he2
theorem mx_isV (T : XT X.K X.mg xs) (ha : ME X xw a fa) (hm : X.mg "isinstance" = none) (hmv : X.mg "ValueError" = none) (hg : Gl X "isinstance" := by rfl) (hgx : Gl X "ValueError" := by rfl)
    (he : starEach [a, .Name "ValueError" p2] X.env = (false, eval a X.env) :: starEach [.Name "ValueError" p2] X.env := by rfl) (hpl : (backTo pos (starEach [.Name "ValueError" p2] X.env)).any (·.1) = false := by rfl) (he2 : starEach [.Name "ValueError" p2] X.env = (false, eval (.Name "ValueError" p2) X.env) :: starEach [] X.env := by rfl) :
    ME X xw (.Call (.Name "isinstance" p1) [a, .Name "ValueError" p2] [] pos) (sIsX xs .ve fa) :=
  let ⟨_, _, t⟩ := T.ex
  me_isXV t ha hm hmv hg hgx he hpl he2
end
/-- for the end: one class by what the written part says -/
theorem xcls_mk {K : PySem.W.Frag} {mg : Str → Option Value} {h : Heap} (X : K.In h) (G : h.Ns mainGlobals mg) {x : Str} {C S : Addr} {e : ClassData} (a : PySem.W.nsIn K mainGlobals x = some (some (.ref C))) (m : PySem.W.clsIn K C = some e) (r : e.mro = .ref C :: .ref S :: veMro)
    (d : e.hasDict = true) (ty : PySem.W.typeIn K (.ref C) = some (.type "type")) (kp : PySem.W.keepIn K (.ref C) = true) (gg : PySem.W.findIn K (.ref C) "__getattribute__" = some (some (.builtin "BaseException.__getattribute__"))) (gk : PySem.W.findIn K (.ref C) "__getattr__" = some none)
    (gc : PySem.W.findIn K (.ref C) "__class__" = some (some (.builtin "object.__class__"))) : XCls K mg x C S := ⟨a, PySem.W.mg_of X G a, ⟨e, m, r, d⟩, ty, kp, gg, gk, gc⟩
end Y
namespace Y
open PySem PySem.Spec PyProof.Rows L2

/-! ### enumerate of a tuple -/
def encl (it : Addr) : Obj := { cls := .type "enumerate", data := .fields #[.none, .bool false, .ref it, rawInt 0, .none, .none] }
theorem enumT_new {t : Addr} {items : Array Value} {o : Obj} (B : Begins (.ref t) o fun h => h.IsTuple t items) :
    Meets (Builtin.«enumerate.__new__» ⟨[.type "enumerate", .ref t], []⟩) (fun _ R s => s.heap.IsTuple t items ∧
      R (.ok (.ret (.ref (s.heap.push o).objs.size))) { s with heap := (s.heap.push o).push (encl s.heap.objs.size) }) :=
  .of_wp fun prog w A R s h => by
    obtain ⟨hp, g, d, tk, os⟩ := s
    obtain ⟨h1, h⟩ := h
    have hsub := sub_enumerate
    have q1 : ∀ {A' : Around} {E : Value → Shared → Prop} {Q : Value → Shared → Prop}, Q (.ref hp.objs.size) ⟨hp.push o, g, d, tk, os⟩ → wpAny (model prog w) A' (pyIter (.ref t)) Q E ⟨hp, g, d, tk, os⟩ :=
      fun q => B.iter prog w _ _ ⟨hp, g, d, tk, os⟩ _ h1 q
    wp_walk using q1
    refine wpAny_stack_any fun st => wpAny_pure ?_
    split
    · rename_i c _ _ _ _ _
      cases (c == Value.type "enumerate")
      · wp_walk using q1
        exact ⟨_, rfl, h⟩
      · wp_walk using q1
        exact ⟨_, rfl, h⟩
    · wp_walk using q1
      exact ⟨_, rfl, h⟩
section
variable {prog : Program} {w : World} {A : Around} {E : Value → Shared → Prop} {s : Shared}
theorem call_enumT {t : Addr} {items : Array Value} {Q : Value → Shared → Prop} (ht : s.heap.IsTuple t items)
    (h : ∀ h', IsEnum h' (s.heap.objs.size + 1) s.heap.objs.size 0 .none → h'.IsTupleIter s.heap.objs.size t 0 →
      (∀ b o, s.heap.get? b = some o → h'.get? b = some o) → Q (.ref (s.heap.objs.size + 1)) { s with heap := h' }) :
    wpAny (model prog w) A (call (.type "enumerate") [.ref t]) Q E s := by
  refine callType_new F.called_enumerate (by decide) (F.typeCall_enumerate_1 _) (F.newCall_enumerate_1 _) (fun obj => F.args_object_init_2 obj _) F.entry_enumerate_new
    (enumT_new (begins_tuple t items)) ⟨ht, ?_⟩
  have hz : (s.heap.push { cls := .type "tuple_iterator", data := .fields #[.ref t, .int 0 0] }).objs.size = s.heap.objs.size + 1 := Heap.size_push ..
  show _ ∧ _
  rw [hz]
  have he := Heap.get?_push_size (s.heap.push { cls := .type "tuple_iterator", data := .fields #[.ref t, .int 0 0] }) (o := encl s.heap.objs.size) rfl
  rw [hz] at he
  refine ⟨⟨_, he, rfl⟩, h _ he ⟨_, Heap.get?_push_of_some _ (Heap.get?_push_size _ rfl), rfl, rfl⟩ fun b o x => Heap.get?_push_of_some _ (Heap.get?_push_of_some _ x)⟩
end
/-- the tuple at a, each item in a new pair -/
def IteT (K : PySem.W.Frag) (a : Addr) : It :=
  ⟨fun i H => ∃ (xs : List V) (x : V), SqT K H a xs ∧ xs[i]? = some x, fun i H v H' => ∃ T x, v = .ref T ∧ H T = none ∧ H' = L2.upd H T (.tup [.int (i : Nat), x]) ∧ ∀ xs, SqT K H a xs → xs[i]? = some x, fun i H => ∃ xs : List V, SqT K H a xs ∧ xs.length = i⟩
theorem turn_enumT {P : Program} {w : World} {K : PySem.W.Frag} {elts : List Expr} {kk : Nat} {tpos : Pos} {a N : Addr} : Turn P w K (.Tuple elts kk tpos) (IteT K a) [N + 1, N] (N + 1)
    (fun i h => (∃ old, IsEnum h (N + 1) N (0 + (i : Int)) old) ∧ h.IsTupleIter N a i ∧ a ≠ N ∧ a ≠ N + 1) where
  mem := by simp
  obj := fun i h st b hb => by
    obtain ⟨⟨old, he⟩, h4, _⟩ := st
    have e' : b = N + 1 ∨ b = N := by simpa using hb
    rcases e' with z | z
    · rw [z]; exact ⟨_, he, fun v q => nomatch q⟩
    · rw [z]; obtain ⟨o, e, c, d⟩ := h4; exact ⟨o, e, fun v q => by rw [d] at q; cases q⟩
  keep := fun i h h' st k => by
    obtain ⟨⟨old, he⟩, h4, n1, n2⟩ := st
    exact ⟨⟨old, k _ (by simp) _ he⟩, h4.at fun o e => k N (by simp) o e, n1, n2⟩
  item := by
    intro X hP hw hK hc i pins s σ H E I hf st hg
    subst hP hw hK
    have hh := I.ok.hd hc
    obtain ⟨xs, x, hq, hx⟩ := hg
    obtain ⟨its, rv, p, hz⟩ := I.tuple hq
    obtain ⟨u, hu, ru⟩ := rv.get hx
    obtain ⟨he, hit, n1, n2⟩ := st
    have D1 := Draws.tuple (prog := X.prog) (w := X.w) (A := X.A.in1) hh N a n1 its.toArray
    have G := GoesN.enumFrom (elts := elts) (x1 := kk) (pos := tpos) 0 D1 (N + 1) (Nat.succ_ne_self _) (by simp [Ne.symm n2]) (by simp)
    have hi : i < its.toArray.size := by have := (List.getElem?_eq_some_iff.mp hu).1; simpa using this
    refine G.goes i s (fun u' s2 => ∃ x' H', Inv X pins σ H' s2 ∧ RelV x' u' ∧ (IteT X.K a).yld i H x' H' ∧ _ ∧ ∀ b ∈ [N + 1, N], H' b = none) E hi ⟨he, hit, p⟩ fun v h' tk hY st' hk htk => ?_
    obtain ⟨T, u1, y, rfl, hT, hy, hTup⟩ := hY
    have hyu : y = u := by
      have : its.toArray[i]? = some u := by simpa using hu
      rw [this] at hy
      exact (Option.some.inj hy).symm
    subst hyu
    have new : ObjOk X.prog X.w (L2.upd H T (.tup [.int (i : Nat), x])) h' T (.tup [.int (i : Nat), x]) :=
      ⟨by show 2 ≤ sizeLine; decide, [.int (0 + (i : Int)) u1, y], .cons ⟨u1, by rw [Int.zero_add]⟩ (.cons ru .nil), isTup2 hTup⟩
    have I1 := I.turnedNew (t' := tk) (ch := [N + 1, N]) hk hf hT new
    refine ⟨.ref T, _, I1, rfl, ⟨T, x, rfl, I.hok.fresh hT, rfl, fun ys hys => by rw [I.tuple_inj hys hq]; exact hx⟩, ⟨st'.1, st'.2.1, n1, n2⟩, fun b hb => ?_⟩
    rw [upd_ne]
    · exact (hf b hb).1
    · intro z
      subst z
      obtain ⟨old, he⟩ := he
      obtain ⟨o4, e4, c4, d4⟩ := hit
      have e' : b = N + 1 ∨ b = N := by simpa using hb
      have hlt : b < s.heap.objs.size := by
        rcases e' with z | z
        · rw [z]; exact Heap.lt_size he
        · rw [z]; exact Heap.lt_size e4
      exact absurd (Nat.lt_of_lt_of_le hlt hT) (Nat.lt_irrefl _)
  done := by
    intro X hP hw hK hc i pins s σ H E I hf st hg
    subst hP hw hK
    have hh := I.ok.hd hc
    obtain ⟨xs, hq, hx⟩ := hg
    obtain ⟨its, rv, p, hz⟩ := I.tuple hq
    have hl := rv.length
    obtain ⟨he, hit, n1, n2⟩ := st
    have D1 := Draws.tuple (prog := X.prog) (w := X.w) (A := X.A.in1) hh N a n1 its.toArray
    have G := GoesN.enumFrom (elts := elts) (x1 := kk) (pos := tpos) 0 D1 (N + 1) (Nat.succ_ne_self _) (by simp [Ne.symm n2]) (by simp)
    have hi : i = its.toArray.size := by simp; omega
    subst hi
    exact G.stops s (fun s1 => Inv X pins σ H s1) E ⟨he, hit, p⟩ fun h' tk hk htk => I.turnedL (t' := tk) (ch := [N + 1, N]) hk hf
  self := fun A i s Q E st h => by
    obtain ⟨⟨old, he⟩, _⟩ := st
    exact wpAny_pyIter_enum he h
section
variable {X : Cx} {e : Expr} {ta : TA} {p pos tpos : Pos} {elts : List Expr} {kk : Nat}
theorem pi_enumT (hg : Gl X "enumerate") (hm : X.mg "enumerate" = none) (ha : PA X [e] ta) (hs : starEach [e] X.env = [(false, eval e X.env)] := by rfl) :
    PI X (.Tuple elts kk tpos) (.Call (.Name "enumerate" p) [e] [] pos) fun σ H R => ta σ H fun vs H1 => ∃ a xs, vs = [.ref a] ∧ SqT X.K H1 a xs ∧ R (IteT X.K a) H1 := by
  refine ⟨fun pins s σ H R I h => ?_⟩
  refine Call_ (ld_blt I hg hm boot_enumerate (PyProof.Rows.callWith_type1 (thn (ha.run pos pins s σ H _ I h) fun us s1 ⟨vs, H1, I1, r1, q1⟩ => ?_) hs rfl))
  obtain ⟨a, xs, ex, hq, q⟩ := q1
  subst ex
  cases r1 with
  | cons r rr =>
    cases rr
    cases r
    obtain ⟨its, rv, p', hz⟩ := I1.tuple hq
    obtain ⟨o1, ho1, _⟩ := id p'
    have hlt : a < s1.heap.objs.size := Heap.lt_size ho1
    refine call_enumT p' fun h' he hit hk => wpAny_pyIter_enum he ?_
    have I2 : Inv X pins σ H1 { s1 with heap := h' } := I1.kept (t' := s1.toks) hk
    refine ⟨s1.heap.objs.size + 1, [s1.heap.objs.size + 1, s1.heap.objs.size], _, _, H1, rfl, I2, turn_enumT (a := a), ⟨⟨.none, he⟩, hit, Nat.ne_of_lt hlt, Nat.ne_of_lt (Nat.lt_succ_of_lt hlt)⟩, fun b hb => ?_, q⟩
    have e' : b = s1.heap.objs.size + 1 ∨ b = s1.heap.objs.size := by simpa using hb
    have hle : s1.heap.objs.size ≤ b := by
      rcases e' with z | z
      · rw [z]; exact Nat.le_add_right _ _
      · rw [z]; exact Nat.le_refl _
    exact I1.fpOk hle (I1.hok.fresh hle)
end
end Y
namespace Y
open PySem PySem.Spec PyProof.Rows L2

/-! ### zip of two lists or of two tuples -/
theorem prs_len {xs ys : List PyData} : (prs xs ys).length = min xs.length ys.length := by
  unfold prs
  rw [List.length_map, List.length_zip]
theorem itok_zipL {K : PySem.W.Frag} {F : Hp} {a b : Addr} {xs ys : List V} {ds es : List PyData} (h1 : F a = some (.lst xs)) (d1 : DqAll K F xs ds) (h2 : F b = some (.lst ys)) (d2 : DqAll K F ys es) : ItOk K F (Itz K a b) (prs ds es) := by
  have l1 := d1.length
  have l2 := d2.length
  refine ⟨fun i H hi s => ?_, fun H s => ?_, fun i d F' H v H' e s1 s2 hy => ?_⟩
  · rw [prs_len] at hi
    have i1 : i < xs.length := by omega
    have i2 : i < ys.length := by omega
    exact ⟨xs, ys, xs[i], ys[i], .of (s _ _ h1), .of (s _ _ h2), List.getElem?_eq_getElem i1, List.getElem?_eq_getElem i2⟩
  · rw [prs_len]
    exact ⟨xs, ys, .of (s _ _ h1), .of (s _ _ h2), by omega⟩
  · obtain ⟨T, x, y, rfl, hT, rfl, q1, q2⟩ := hy
    obtain ⟨x', y', e1, e2, rfl⟩ := prs_get e
    have r1 := q1 xs (.of (s2 _ _ (s1 _ _ h1)))
    have r2 := q2 ys (.of (s2 _ _ (s1 _ _ h2)))
    obtain ⟨u, f1, f2⟩ := d1.get e1
    obtain ⟨u', f3, f4⟩ := d2.get e2
    rw [r1] at f1
    rw [r2] at f3
    cases f1
    cases f3
    have hs : Sub F (L2.upd F' T (.tup [x, y])) := s1.trans (Sub.upd (s2.none hT))
    exact ⟨_, Lay.new1 s2 hT, .tup (.of upd_same) (.cons (Dq.sub hs f2) (.cons (Dq.sub hs f4) .nil))⟩
theorem itok_zipT {K : PySem.W.Frag} {F : Hp} {a b : Addr} {xs ys : List V} {ds es : List PyData} (h1 : TqT K F a xs) (d1 : DqAll K F xs ds) (h2 : TqT K F b ys) (d2 : DqAll K F ys es) : ItOk K F (RZ.ItzT K a b) (prs ds es) := by
  have l1 := d1.length
  have l2 := d2.length
  refine ⟨fun i H hi s => ?_, fun H s => ?_, fun i d F' H v H' e s1 s2 hy => ?_⟩
  · rw [prs_len] at hi
    have i1 : i < xs.length := by omega
    have i2 : i < ys.length := by omega
    exact ⟨xs, ys, xs[i], ys[i], TqT.up s h1, TqT.up s h2, List.getElem?_eq_getElem i1, List.getElem?_eq_getElem i2⟩
  · rw [prs_len]
    exact ⟨xs, ys, TqT.up s h1, TqT.up s h2, by omega⟩
  · obtain ⟨T, x, y, rfl, hT, rfl, q1, q2⟩ := hy
    obtain ⟨x', y', e1, e2, rfl⟩ := prs_get e
    have r1 := q1 xs (TqT.up (s1.trans s2) h1)
    have r2 := q2 ys (TqT.up (s1.trans s2) h2)
    obtain ⟨u, f1, f2⟩ := d1.get e1
    obtain ⟨u', f3, f4⟩ := d2.get e2
    rw [r1] at f1
    rw [r2] at f3
    cases f1
    cases f3
    have hs : Sub F (L2.upd F' T (.tup [x, y])) := s1.trans (Sub.upd (s2.none hT))
    exact ⟨_, Lay.new1 s2 hT, .tup (.of upd_same) (.cons (Dq.sub hs f2) (.cons (Dq.sub hs f4) .nil))⟩
def asZL : List W → List MO → Res (List PyData)
  | [.d (.list x), .d (.list y)], M => .ok (prs x y) M
  | [.d (.tuple x), .d (.tuple y)], M => .ok (prs x y) M
  | _, _ => .stuck
def itZL (fs : List EF) : IF := fun ρ M => (evs fs ρ M).bind asZL
section
variable {X : Cx} {xw : WX} {k : Nat} {pos p : Pos}
theorem mi_zipL {e e2 : Expr} {tpos : Pos} {elts : List Expr} {kk : Nat} {fs : List EF} (C : Ctx X k xw) (ha : MA X xw [e, e2] fs) (hm : X.mg "zip" = none) (hg : Gl X "zip" := by rfl)
    (hs : starEach [e, e2] X.env = (false, eval e X.env) :: starEach [e2] X.env := by rfl) (hpl : (backTo pos (starEach [e2] X.env)).any (·.1) = false := by rfl) :
    MI X xw (.Tuple elts kk tpos) (.Call (.Name "zip" p) [e, e2] [] pos) (itZL fs) :=
  PI.imp (RZ.pi_zipA hg hm ha hs hpl) fun σ H R h => tG_mono (tG_bind (R2 := RWs X.K) h) fun vs H1 ⟨g, ρ, M, ws, R1, S, r, b⟩ => by
    unfold asZL at b
    split at b
    · rename_i x y
      cases r with
      | cons r1 t =>
        cases t with
        | cons r2 t =>
          cases t
          cases r1 with
          | d r1 =>
            cases r2 with
            | d r2 =>
              cases r1 with
              | lst h1 d1 =>
                cases r2 with
                | lst h2 d2 => exact ⟨_, _, _, _, rfl, .inl ⟨.of (R1.sub _ _ h1), .of (R1.sub _ _ h2), b _ g H1 R1 (Ext.refl _ _) (itok_zipL h1 d1 h2 d2)⟩⟩
    · rename_i x y
      cases r with
      | cons r1 t =>
        cases t with
        | cons r2 t =>
          cases t
          cases r1 with
          | d r1 =>
            cases r2 with
            | d r2 =>
              cases r1 with
              | tup h1 d1 =>
                cases r2 with
                | tup h2 d2 => exact ⟨_, _, _, _, rfl, .inr ⟨TqT.up R1.sub h1, TqT.up R1.sub h2, b _ g H1 R1 (Ext.refl _ _) (itok_zipT h1 d1 h2 d2)⟩⟩
    · exact b.elim
/-! ### enumerate -/
theorem enu_get {ds : List PyData} {i : Nat} {d : PyData} (e : (enu ds)[i]? = some d) : ∃ x, ds[i]? = some x ∧ d = .tuple [.int (i : Nat), x] := by
  obtain ⟨a, b, e1, e2, rfl⟩ := prs_get (show (prs (rng 0 ds.length) ds)[i]? = some d from e)
  unfold rng at e1
  rw [List.getElem?_map] at e1
  have hi : i < ds.length := (List.getElem?_eq_some_iff.mp e2).1
  rw [List.getElem?_range hi] at e1
  cases e1
  exact ⟨b, e2, by simp⟩
theorem enu_len {ds : List PyData} : (enu ds).length = ds.length := by
  unfold enu
  rw [prs_len, rng_len, Nat.min_self]
theorem itok_enumL {K : PySem.W.Frag} {F : Hp} {a : Addr} {xs : List V} {ds : List PyData} (h1 : F a = some (.lst xs)) (d1 : DqAll K F xs ds) : ItOk K F (Ite K a) (enu ds) := by
  have l1 := d1.length
  refine ⟨fun i H hi s => ?_, fun H s => ?_, fun i d F' H v H' e s1 s2 hy => ?_⟩
  · rw [enu_len] at hi
    have i1 : i < xs.length := by omega
    exact ⟨xs, xs[i], .of (s _ _ h1), List.getElem?_eq_getElem i1⟩
  · rw [enu_len]
    exact ⟨xs, .of (s _ _ h1), by omega⟩
  · obtain ⟨T, x, rfl, hT, rfl, q1⟩ := hy
    obtain ⟨x', e1, rfl⟩ := enu_get e
    have r1 := q1 xs (.of (s2 _ _ (s1 _ _ h1)))
    obtain ⟨u, f1, f2⟩ := d1.get e1
    rw [r1] at f1
    cases f1
    have hs : Sub F (L2.upd F' T (.tup [.int (i : Nat), x])) := s1.trans (Sub.upd (s2.none hT))
    exact ⟨_, Lay.new1 s2 hT, .tup (.of upd_same) (.cons (.int _) (.cons (Dq.sub hs f2) .nil))⟩
theorem itok_enumT {K : PySem.W.Frag} {F : Hp} {a : Addr} {xs : List V} {ds : List PyData} (h1 : TqT K F a xs) (d1 : DqAll K F xs ds) : ItOk K F (IteT K a) (enu ds) := by
  have l1 := d1.length
  refine ⟨fun i H hi s => ?_, fun H s => ?_, fun i d F' H v H' e s1 s2 hy => ?_⟩
  · rw [enu_len] at hi
    have i1 : i < xs.length := by omega
    exact ⟨xs, xs[i], TqT.up s h1, List.getElem?_eq_getElem i1⟩
  · rw [enu_len]
    exact ⟨xs, TqT.up s h1, by omega⟩
  · obtain ⟨T, x, rfl, hT, rfl, q1⟩ := hy
    obtain ⟨x', e1, rfl⟩ := enu_get e
    have r1 := q1 xs (TqT.up (s1.trans s2) h1)
    obtain ⟨u, f1, f2⟩ := d1.get e1
    rw [r1] at f1
    cases f1
    have hs : Sub F (L2.upd F' T (.tup [.int (i : Nat), x])) := s1.trans (Sub.upd (s2.none hT))
    exact ⟨_, Lay.new1 s2 hT, .tup (.of upd_same) (.cons (.int _) (.cons (Dq.sub hs f2) .nil))⟩
theorem pi_enumA {X : Cx} {e : Expr} {ta : TA} {p pos tpos : Pos} {elts : List Expr} {kk : Nat} (hg : Gl X "enumerate") (hm : X.mg "enumerate" = none) (ha : PA X [e] ta) (hs : starEach [e] X.env = [(false, eval e X.env)] := by rfl) :
    PI X (.Tuple elts kk tpos) (.Call (.Name "enumerate" p) [e] [] pos) fun σ H R => ta σ H fun vs H1 => (∃ a xs, vs = [.ref a] ∧ SqL X.K H1 a xs ∧ R (Ite X.K a) H1) ∨ ∃ a xs, vs = [.ref a] ∧ SqT X.K H1 a xs ∧ R (IteT X.K a) H1 := by
  refine ⟨fun pins s σ H R I h => ?_⟩
  refine Call_ (ld_blt I hg hm boot_enumerate (PyProof.Rows.callWith_type1 (thn (ha.run pos pins s σ H _ I h) fun us s1 ⟨vs, H1, I1, r1, q1⟩ => ?_) hs rfl))
  rcases q1 with ⟨a, xs, ex, hq, q⟩ | ⟨a, xs, ex, hq, q⟩
  · subst ex
    cases r1 with
    | cons r rr =>
      cases rr
      cases r
      obtain ⟨its, rv, p', hz⟩ := I1.list hq
      refine call_enumerate_list p'.isList fun h' he hit hsz hk => wpAny_pyIter_enum he ?_
      have I2 : Inv X pins σ H1 { s1 with heap := h' } := I1.kept (t' := s1.toks) hk
      refine ⟨s1.heap.objs.size + 1, [s1.heap.objs.size + 1, s1.heap.objs.size], _, _, H1, rfl, I2, turn_enum a (s1.heap.objs.size + 1) s1.heap.objs.size, ⟨⟨.none, he⟩, hit, Nat.succ_ne_self _⟩, fun b hb => ?_, q⟩
      have e' : b = s1.heap.objs.size + 1 ∨ b = s1.heap.objs.size := by simpa using hb
      have hle : s1.heap.objs.size ≤ b := by
        rcases e' with z | z
        · rw [z]; exact Nat.le_add_right _ _
        · rw [z]; exact Nat.le_refl _
      exact I1.fpOk hle (I1.hok.fresh hle)
  · subst ex
    cases r1 with
    | cons r rr =>
      cases rr
      cases r
      obtain ⟨its, rv, p', hz⟩ := I1.tuple hq
      obtain ⟨o1, ho1, _⟩ := id p'
      have hlt : a < s1.heap.objs.size := Heap.lt_size ho1
      refine call_enumT p' fun h' he hit hk => wpAny_pyIter_enum he ?_
      have I2 : Inv X pins σ H1 { s1 with heap := h' } := I1.kept (t' := s1.toks) hk
      refine ⟨s1.heap.objs.size + 1, [s1.heap.objs.size + 1, s1.heap.objs.size], _, _, H1, rfl, I2, turn_enumT (a := a), ⟨⟨.none, he⟩, hit, Nat.ne_of_lt hlt, Nat.ne_of_lt (Nat.lt_succ_of_lt hlt)⟩, fun b hb => ?_, q⟩
      have e' : b = s1.heap.objs.size + 1 ∨ b = s1.heap.objs.size := by simpa using hb
      have hle : s1.heap.objs.size ≤ b := by
        rcases e' with z | z
        · rw [z]; exact Nat.le_add_right _ _
        · rw [z]; exact Nat.le_refl _
      exact I1.fpOk hle (I1.hok.fresh hle)
def asEL : List W → List MO → Res (List PyData)
  | [.d (.list x)], M => .ok (enu x) M
  | [.d (.tuple x)], M => .ok (enu x) M
  | _, _ => .stuck
def itEL (fs : List EF) : IF := fun ρ M => (evs fs ρ M).bind asEL
theorem mi_enumL {e : Expr} {tpos : Pos} {elts : List Expr} {kk : Nat} {fs : List EF} (C : Ctx X k xw) (ha : MA X xw [e] fs) (hm : X.mg "enumerate" = none) (hg : Gl X "enumerate" := by rfl) (hs : starEach [e] X.env = [(false, eval e X.env)] := by rfl) :
    MI X xw (.Tuple elts kk tpos) (.Call (.Name "enumerate" p) [e] [] pos) (itEL fs) :=
  PI.imp (pi_enumA hg hm ha hs) fun σ H R h => tG_mono (tG_bind (R2 := RWs X.K) h) fun vs H1 ⟨g, ρ, M, ws, R1, S, r, b⟩ => by
    unfold asEL at b
    split at b
    · rename_i x
      cases r with
      | cons r1 t =>
        cases t
        cases r1 with
        | d r1 =>
          cases r1 with
          | lst h1 d1 => exact .inl ⟨_, _, rfl, .of (R1.sub _ _ h1), b _ g H1 R1 (Ext.refl _ _) (itok_enumL h1 d1)⟩
    · rename_i x
      cases r with
      | cons r1 t =>
        cases t
        cases r1 with
        | d r1 =>
          cases r1 with
          | tup h1 d1 => exact .inr ⟨_, _, rfl, TqT.up R1.sub h1, b _ g H1 R1 (Ext.refl _ _) (itok_enumT h1 d1)⟩
    · exact b.elim
def asES : List W → List MO → Res (List PyData)
  | [.d (.str x)], M => .ok (enu (chs x)) M
  | _, _ => .stuck
def itES (fs : List EF) : IF := fun ρ M => (evs fs ρ M).bind asES
theorem mi_enumS {e : Expr} {tpos : Pos} {elts : List Expr} {kk : Nat} {fs : List EF} (C : Ctx X k xw) (ha : MA X xw [e] fs) (hm : X.mg "enumerate" = none) (hg : Gl X "enumerate" := by rfl) (hs : starEach [e] X.env = [(false, eval e X.env)] := by rfl) :
    MI X xw (.Tuple elts kk tpos) (.Call (.Name "enumerate" p) [e] [] pos) (itES fs) :=
  PI.imp (pi_enumS hg hm ha hs) fun σ H R h => tG_mono (tG_bind (R2 := RWs X.K) h) fun vs H1 ⟨g, ρ, M, ws, R1, S, r, b⟩ => by
    unfold asES at b
    split at b
    · rename_i x
      cases r with
      | cons r1 t =>
        cases t
        cases r1 with
        | d r1 =>
          cases r1
          refine ⟨x, rfl, b _ g H1 R1 (Ext.refl _ _) (itok_pairs (by rw [enu_len, chs_len]) fun i d e => ?_)⟩
          obtain ⟨y, e1, rfl⟩ := enu_get e
          obtain ⟨c, h1, rfl⟩ := chs_get e1
          refine ⟨.int (i : Nat), .str ⟨#[c]⟩, _, _, ?_, rfl, fun _ _ => ⟨.int _, .str _⟩⟩
          unfold eps
          rw [h1]
    · exact b.elim
end
end Y
namespace Y
open PySem PySem.Spec PyProof.Rows L2

/-! ### count and index of a list -/
def rCountD (K : PySem.W.Frag) : V → List V → Hp → VK → Prop := fun x xs H Q => ∃ (a : Addr) (y : V) (d : PyData) (ds : List PyData), x = V.ref a ∧ xs = [y] ∧ Dp K H (V.ref a) (.list ds) ∧ Dp K H y d ∧ SeqAt.shaped (.list ds) = true ∧ SeqAt.shaped d = true ∧
  Q (.int ((ds.countP fun z => PyData.eqv z d : Nat) : Int)) H
section
variable {X : Cx}
theorem mt_countD (hu : X.A.units + 65 < cLine) : MtR X "list.count" (rCountD X.K) := by
  intro pins s σ H x xs v us Q I rx rxs h
  obtain ⟨a, y, d, ds, rfl, rfl, hl, hy, sl, sd, q⟩ := h
  cases rx
  cases rxs with
  | cons ry rt =>
    rename_i uy ut
    cases rt
    obtain ⟨bs, r1⟩ := Dp.reads I d y uy hy ry
    cases hl with
    | lst hs ha =>
      obtain ⟨its, rv, ho, hlen⟩ := I.list hs
      obtain ⟨as, h4⟩ := Dp.readsAll I ds _ its ha rv
      refine SeqAt.count_list_data (vs := its.toArray) (show s.heap.IsList a its.toArray from ho.isList) (by simpa using h4) r1 (PyData.plainAll_of_canLay0 _ (SeqAt.canLay_of_shaped sl)) (PyData.plain_of_canLay0 _ (SeqAt.canLay_of_shaped sd)) (room_in_shaped sd hu) ?_
      exact ⟨.int _, H, I.tok _, ⟨_, rfl⟩, q⟩
variable {xw : WX} {a o : Expr} {fa fb : EF} {apos cpos : Pos} {k : Nat}
def pCountL : DPr
  | [.list ds, d] => if SeqAt.shaped (.list ds) = true ∧ SeqAt.shaped d = true then some (.int ((ds.countP fun z => PyData.eqv z d : Nat) : Int)) else none
  | _ => none
theorem me_countL (C : Ctx X k xw) (ho : ME X xw o fa) (ha : MA X xw [a] [fb])
    (hbase : attributeBase o "count" X.env (eval o X.env) = eval o X.env := by rfl)
    (hfew : ((backTo cpos (starEach [a] X.env)).all (fun x => !x.1) && (backToKw cpos (keywordEach [] X.env)).all (fun x => x.1.isSome)
      && decide ([a].length + ([] : List Keyword).length + (if ([] : List Keyword).isEmpty then 0 else 1) < 30)) = true := by rfl)
    (hline : (apos.endLine == cpos.line) = true := by rfl) (hs : starEach [a] X.env = (false, eval a X.env) :: starEach [] X.env := by rfl) : ME X xw (.Call (.Attribute o "count" apos) [a] [] cpos) (sMeth .list (dpr pCountL) fa [fb]) := by
  refine me_meth .list F.plainAttrs_list F.slot_list_count F.type_list_count (mt_countD (ctx_u C)) (dprM fun F H v vs x xs z Q s d ds e k => ?_) ho ha hbase hfew hline hs
  unfold pCountL at e
  split at e
  · rename_i l y q
    cases q
    split at e
    · rename_i hc
      cases e
      obtain ⟨u, rfl, du⟩ := ds.one
      obtain ⟨p, ys, rfl, h1, h2⟩ := d.lst s
      exact ⟨p, u, _, _, rfl, rfl, d.dp s, du.dp s, hc.1, hc.2, kq s k (.int _)⟩
    · cases e
  · cases e
def findJ (ds : List PyData) (d : PyData) : Option Nat := ds.findIdx? fun z => PyData.eqv z d
def pIndexL : DPr
  | [.list ds, d] => if SeqAt.shaped (.list ds) = true ∧ SeqAt.shaped d = true then (findJ ds d).map fun j => .int (j : Nat) else none
  | _ => none
theorem me_indexL (C : Ctx X k xw) (ho : ME X xw o fa) (ha : MA X xw [a] [fb])
    (hbase : attributeBase o "index" X.env (eval o X.env) = eval o X.env := by rfl)
    (hfew : ((backTo cpos (starEach [a] X.env)).all (fun x => !x.1) && (backToKw cpos (keywordEach [] X.env)).all (fun x => x.1.isSome)
      && decide ([a].length + ([] : List Keyword).length + (if ([] : List Keyword).isEmpty then 0 else 1) < 30)) = true := by rfl)
    (hline : (apos.endLine == cpos.line) = true := by rfl) (hs : starEach [a] X.env = (false, eval a X.env) :: starEach [] X.env := by rfl) : ME X xw (.Call (.Attribute o "index" apos) [a] [] cpos) (sMeth .list (dpr pIndexL) fa [fb]) := by
  refine me_meth .list F.plainAttrs_list F.slot_list_index F.type_list_index (mt_indexD (ctx_u C)) (dprM fun F H v vs x xs z Q s d ds e k => ?_) ho ha hbase hfew hline hs
  unfold pIndexL at e
  split at e
  · rename_i l y q
    cases q
    split at e
    · rename_i hc
      cases ej : findJ l y with
      | none => rw [ej] at e; cases e
      | some j =>
        rw [ej] at e
        cases e
        obtain ⟨u, rfl, du⟩ := ds.one
        obtain ⟨p, ys, rfl, h1, h2⟩ := d.lst s
        unfold findJ at ej
        rw [List.findIdx?_eq_some_iff_getElem] at ej
        obtain ⟨hj, e1, e2⟩ := ej
        refine ⟨p, u, _, _, j, l[j], rfl, rfl, d.dp s, du.dp s, hc.1, hc.2, List.getElem?_eq_getElem hj, e1, fun m z' hm hz => ?_, kq s k (.int _)⟩
        obtain ⟨hm', rfl⟩ := List.getElem?_eq_some_iff.mp hz
        have := e2 m hm
        simpa using this
    · cases e
  · cases e
end
end Y
namespace Y
open PySem PySem.Spec PyProof.Rows L2

/-! ### a + b that may grow -/
def pAddLive : Pr := fun ws M => match vws M ws with
  | some [.list a, .list b] => if a.length + b.length ≤ sizeLine then some (.loc M.length, M ++ [.lst (a ++ b)]) else none
  | _ => none
theorem addLive_ok (K : PySem.W.Frag) : PrOk K pAddLive (r2 rCat) := fun g M H vs ws w M' Q R r e q => by
  unfold pAddLive at e
  split at e
  · rename_i a b h
    split at e
    · rename_i hl
      cases e
      obtain ⟨x, y, rfl, d1, d2⟩ := (vws_ok R r h).two
      obtain ⟨p1, v1, rfl, h1, a1⟩ := d1.lst R.sub
      obtain ⟨p2, v2, rfl, h2, a2⟩ := d2.lst R.sub
      refine ⟨_, _, rfl, p1, p2, v1, v2, rfl, rfl, h1, h2, by rw [a1.length, a2.length]; exact hl, fun p hp => ?_⟩
      obtain ⟨R', E'⟩ := Rel.live R hp (a1.append a2)
      exact q _ _ _ R' E' (.loc (by show (g.ph ++ [p])[M.length]? = some p; rw [List.getElem?_append_right (by rw [R.len]; exact Nat.le_refl _), R.len, Nat.sub_self]; rfl))
    · cases e
  · cases e
section
variable {X : Cx} {xw : WX} {a b o e : Expr} {fa fb fc : EF} {pos apos cpos : Pos} {k : Nat}
theorem me_addLive (ha : ME X xw a fa) (hb : ME X xw b fb) : ME X xw (.BinOp a .Add b pos) (sPr pAddLive [fa, fb]) := me_bin op_cat (addLive_ok _) ha hb
/-! ### x op= e -/
theorem ms_aug {i : Nat} {x : Str} {op : Operator} {ti : TIp} {p : DPr} {pos' : Pos} (ho : OpR X (inplaceOp op) ti) (hp : PrOk X.K (dpr p) (r2 ti)) (hN : X.N.Nodup) (he : ME X xw e fa) (hi : X.N[i]? = some x := by rfl) (hx : Loc X.env.scope x := by first | exact Or.inl rfl | exact Or.inr rfl)
    (hf : X.fn x = true ∨ X.env.scope.names.lookup x = some .local := by first | exact .inl rfl | exact .inr rfl) : MS X xw (.AugAssign (.Name x pos') op e pos) (sSet i (sPr (dpr p) [sV i, fa])) :=
  PS.imp (ps_aug hN hi hx he (fun pins s σ H x y v u Q I r1 r2 h => ho pins s σ H x y v u Q I r1 r2 h) hf) fun D σ H q => by
    have h := prim2 (T := tx X) hp (tG_mono (tS_then q) fun v H1 ⟨g, ρ, M, w, R, S, r, b⟩ => (b (σ.set i (some v)) g H1 R (Ext.refl _ _) (S.set i r) : D.nx (σ.set i (some v)) H1))
    obtain ⟨g, ρ, M, R, S, b⟩ := h
    unfold sV at b
    cases q : ρ[i]? with
    | none => rw [q] at b; exact b.elim
    | some o =>
      cases o with
      | none => rw [q] at b; exact b.elim
      | some w =>
        rw [q] at b
        obtain ⟨v, e, r⟩ := S.at_ i w q
        exact ⟨v, e, tG_mono (b v g H R (Ext.refl _ _) r) fun y H2 ⟨x', y', e', t⟩ => by cases e'; exact t⟩
variable {i : Nat} {x : Str} {pos' : Pos}
def pAugAdd : DPr := pI2 (fun _ _ => true) fun i j => i + j
theorem ms_augAdd (hN : X.N.Nodup) (he : ME X xw e fa) (hi : X.N[i]? = some x := by rfl) (hx : Loc X.env.scope x := by first | exact Or.inl rfl | exact Or.inr rfl)
    (hf : X.fn x = true ∨ X.env.scope.names.lookup x = some .local := by first | exact .inl rfl | exact .inr rfl) : MS X xw (.AugAssign (.Name x pos') .Add e pos) (sSet i (sPr (dpr pAugAdd) [sV i, fa])) := ms_aug (rI_of iop_add) (i2_ok (fun _ _ _ => trivial) _) hN he hi hx hf
theorem ms_augShr (hN : X.N.Nodup) (he : ME X xw e fa) (hi : X.N[i]? = some x := by rfl) (hx : Loc X.env.scope x := by first | exact Or.inl rfl | exact Or.inr rfl)
    (hf : X.fn x = true ∨ X.env.scope.names.lookup x = some .local := by first | exact .inl rfl | exact .inr rfl) : MS X xw (.AugAssign (.Name x pos') .RShift e pos) (sSet i (sPr (dpr pShr) [sV i, fa])) := ms_aug iop_shr (i2_ok (fun _ _ h => of_decide_eq_true h) _) hN he hi hx hf
theorem ms_augXor (hN : X.N.Nodup) (he : ME X xw e fa) (hi : X.N[i]? = some x := by rfl) (hx : Loc X.env.scope x := by first | exact Or.inl rfl | exact Or.inr rfl)
    (hf : X.fn x = true ∨ X.env.scope.names.lookup x = some .local := by first | exact .inl rfl | exact .inr rfl) : MS X xw (.AugAssign (.Name x pos') .BitXor e pos) (sSet i (sPr (dpr pXor) [sV i, fa])) := ms_aug (rI_of iop_xor) (i2_ok (fun _ _ _ => trivial) _) hN he hi hx hf
/-! ### while -/
def sWhile (c : TF) (body : SF) : Nat → SF
  | 0 => fun _ _ => .stuck
  | n + 1 => fun ρ M => match c ρ M with
    | .ok true M1 => match body ρ M1 with
      | .nx ρ2 M2 => sWhile c body n ρ2 M2
      | .ct ρ2 M2 => sWhile c body n ρ2 M2
      | .bk ρ2 M2 => .nx ρ2 M2
      | r => r
    | .ok false M1 => .nx ρ M1
    | .err e M1 => .er e ρ M1
    | .stuck => .stuck
theorem ms_while {c : Expr} {body : List Stmt} {fc : TF} {fb : SF} (n : Nat) (C : Ctx X k xw) (hc : MT X xw c fc) (hb : MSs X xw body fb) : MS X xw (.While c body [] pos) (sWhile fc fb n) :=
  PS.imp (ps_while C.own hc hb) fun D σ H q => by
    refine ⟨fun m σ H => tS (tx X) xw (sWhile fc fb m) D σ H, ⟨n, q⟩, fun m σ H ⟨g, ρ, M, R, S, b⟩ => ?_⟩
    cases m with
    | zero => exact b.elim
    | succ m =>
      refine ⟨g, ρ, M, R, S, ?_⟩
      unfold sWhile at b
      cases e1 : fc ρ M with
      | stuck => rw [e1] at b; exact b
      | err x M1 => rw [e1] at b; exact fun c d g' H' r' e' q' => b c d σ g' H' r' e' (S.gr e'.gr) q'
      | ok v M1 =>
        rw [e1] at b
        intro v' g' H' R' E' q'
        have q'' : v' = v := q'
        subst q''
        cases v' with
        | false => exact iteF (b σ g' H' R' E' (S.gr E'.gr))
        | true =>
          refine iteT ⟨fun σ' H' => tS (tx X) xw (sWhile fc fb m) D σ' H', fun σ' H' h => ⟨m, Nat.lt_succ_self m, h⟩, g', ρ, M1, R', S.gr E'.gr, ?_⟩
          simp only at b
          cases e2 : fb ρ M1 with
          | nx ρ2 M2 => rw [e2] at b; exact fun σ3 g3 H3 R3 E3 S3 => ⟨g3, ρ2, M2, R3, S3, BhdS.later b (E'.trans E3)⟩
          | ct ρ2 M2 => rw [e2] at b; exact fun σ3 g3 H3 R3 E3 S3 => ⟨g3, ρ2, M2, R3, S3, BhdS.later b (E'.trans E3)⟩
          | bk ρ2 M2 => rw [e2] at b; exact fun σ3 g3 H3 R3 E3 S3 => b σ3 g3 H3 R3 (E'.trans E3) S3
          | ret w M2 => rw [e2] at b; exact BhdS.later b E'
          | er x ρ2 M2 => rw [e2] at b; exact BhdS.later b E'
          | stuck => rw [e2] at b; exact b.elim
end
/-! ### displays of dicts -/
def trsOf (T : Tx) (xw : WX) : List L2.Key → List EF → List (TE × TE)
  | k :: ks, f :: fs => (tC (kV k), tE T xw f) :: trsOf T xw ks fs
  | _, _ => []
theorem pairs_imp {T : Tx} {xw : WX} {g0 : Gh} {H0 : Hp} {Q : VK} {σ : L2.St} : ∀ {ks : List L2.Key} {fs : List EF} {g : Gh} {ρ : Rho} {M : List MO} {H : Hp} {k : List W → List MO → Res W}, ks.length = fs.length → Rel T.K g M H → RS T.K g σ ρ → Ext g0 H0 g H →
    Bhd T (fun c d H => xw c d σ H) (RW T.K) Q ((evs fs ρ M).bind k) g0 H0 →
    tPairs (trsOf T xw ks fs) σ H fun ps H2 => ∃ g2 M2 vs ws, Rel T.K g2 M2 H2 ∧ Ext g H g2 H2 ∧ ps = (ks.map kV).zip vs ∧ RWs T.K g2 vs ws ∧ ws.length = fs.length ∧ Bhd T (fun c d H => xw c d σ H) (RW T.K) Q (k ws M2) g0 H0
  | [], [], g, ρ, M, H, k, _, R, S, E, b => ⟨g, M, [], [], R, Ext.refl _ _, rfl, .nil, rfl, b⟩
  | [], _ :: _, _, _, _, _, _, h, _, _, _, _ => by cases h
  | _ :: _, [], _, _, _, _, _, h, _, _, _, _ => by cases h
  | kk :: ks, f :: fs, g, ρ, M, H, k, hl, R, S, E, b => by
    have b' : Bhd T (fun c d H => xw c d σ H) (RW T.K) Q ((f ρ M).bind fun w M1 => (evs fs ρ M1).bind fun ws M2 => k (w :: ws) M2) g0 H0 := by
      unfold evs at b
      cases e : f ρ M with
      | stuck => rw [e] at b; exact b
      | err x M1 => rw [e] at b; exact b
      | ok w M1 =>
        rw [e] at b
        show Bhd T (fun c d H => xw c d σ H) (RW T.K) Q ((evs fs ρ M1).bind fun ws M2 => k (w :: ws) M2) g0 H0
        cases e2 : evs fs ρ M1 with
        | stuck => simp only [Res.bind, e2] at b; exact b
        | err x M2 => simp only [Res.bind, e2] at b; exact b
        | ok ws M2 => simp only [Res.bind, e2] at b; exact b
    refine ⟨g, ρ, M, R, S, ?_⟩
    cases e : f ρ M with
    | stuck => rw [e] at b'; exact b'
    | err x M1 => rw [e] at b'; exact fun c d g' H' r' e' q' => b' c d g' H' r' (E.trans e') q'
    | ok w M1 =>
      rw [e] at b'
      intro v g' H' R' E' rw_
      have ih := pairs_imp (T := T) (xw := xw) (g0 := g0) (H0 := H0) (Q := Q) (σ := σ) (ks := ks) (fs := fs) (g := g') (ρ := ρ) (M := M1) (H := H') (k := fun ws M2 => k (w :: ws) M2) (by simpa using hl) R' (S.gr E'.gr) (E.trans E') b'
      refine tPairs_mono ih fun ps H2 ⟨g2, M2, vs, ws, r1, r2, r3, r4, r5, r6⟩ => ⟨g2, M2, v :: vs, w :: ws, r1, E'.trans r2, by rw [r3]; rfl, .cons (RW.gr r2.gr rw_) r4, by rw [List.length_cons, List.length_cons, r5], r6⟩
where
  tPairs_mono {σ : L2.St} {Q Q' : List (V × V) → Hp → Prop} : ∀ {ks : List L2.Key} {fs : List EF} {H : Hp}, tPairs (trsOf T xw ks fs) σ H Q → (∀ ps H2, Q ps H2 → Q' ps H2) → tPairs (trsOf T xw ks fs) σ H Q'
    | [], [], _, h, k => k _ _ h
    | [], _ :: _, _, h, k => k _ _ h
    | _ :: _, [], _, h, k => k _ _ h
    | _ :: ks, _ :: fs, _, h, k => tG_mono h fun _ _ h2 => tPairs_mono (ks := ks) (fs := fs) h2 fun _ _ h3 => k _ _ h3
/-- a display with constant keys, each once -/
def asDisp (ks : List L2.Key) (ws : List W) (M : List MO) : Res W := match allD ws with
  | some xs => if ks.length = xs.length ∧ ks.length ≤ 15 ∧ ks.Nodup then .ok (.kd (ks.zip xs)) M else .stuck
  | none => .stuck
def sDisp (ks : List L2.Key) (fs : List EF) : EF := fun ρ M => (evs fs ρ M).bind (asDisp ks)
theorem merge_nodup : ∀ {kvs acc : List (L2.Key × V)}, ((acc ++ kvs).map (·.1)).Nodup → mergeK acc kvs = acc ++ kvs
  | [], acc, _ => by rw [List.append_nil]; rfl
  | p :: r, acc, h => by
    have hp : (acc.any fun kv => decide (kv.1 = p.1)) = false := by
      rw [List.any_eq_false]
      intro q hq z
      rw [List.map_append, List.map_cons, List.nodup_append] at h
      exact h.2.2 q.1 (List.mem_map.mpr ⟨q, hq, rfl⟩) p.1 List.mem_cons_self (of_decide_eq_true z)
    show mergeK (putK acc p.1 p.2) r = _
    have e : putK acc p.1 p.2 = acc ++ [p] := by
      unfold putK
      rw [hp]
      rfl
    rw [e, merge_nodup (by simpa using h), List.append_assoc]
    rfl
theorem zip_fst {α β : Type} : ∀ {ks : List α} {vs : List β}, ks.length = vs.length → (ks.zip vs).map (·.1) = ks
  | [], [], _ => rfl
  | [], _ :: _, h => by cases h
  | _ :: _, [], h => by cases h
  | _ :: ks, _ :: vs, h => by rw [List.zip_cons_cons, List.map_cons, zip_fst (by simpa using h)]
theorem zip_snd {α β : Type} : ∀ {ks : List α} {vs : List β}, ks.length = vs.length → (ks.zip vs).map (·.2) = vs
  | [], [], _ => rfl
  | [], _ :: _, h => by cases h
  | _ :: _, [], h => by cases h
  | _ :: ks, _ :: vs, h => by rw [List.zip_cons_cons, List.map_cons, zip_snd (by simpa using h)]
theorem zip_kV : ∀ {ks : List L2.Key} {vs : List V}, (ks.map kV).zip vs = (ks.zip vs).map fun kv => (kV kv.1, kv.2)
  | [], _ => rfl
  | _ :: _, [] => rfl
  | _ :: ks, _ :: vs => by
    rw [List.map_cons, List.zip_cons_cons, List.zip_cons_cons, List.map_cons, zip_kV]
section
variable {X : Cx} {xw : WX} {pos : Pos} {keys : List (Option Expr)} {values : List Expr}
abbrev MPs (X : Cx) (xw : WX) (pos : Pos) (keys : List (Option Expr)) (values : List Expr) (ks : List L2.Key) (fs : List EF) : Prop := PPs X pos keys values (trsOf (tx X) xw ks fs)
theorem mp_nil : MPs X xw pos [] [] [] [] := pps_nil
theorem mp_cons {z : Str} {j : Nat} {p : Pos} {e : Expr} {f : EF} {ks : List L2.Key} {fs : List EF} (he : ME X xw e f) (h : MPs X xw pos keys values ks fs) : MPs X xw pos (some (.Constant (.str z) j p) :: keys) (e :: values) (.inr z :: ks) (f :: fs) := pps_cons pe_str he h
theorem me_disp {ks : List L2.Key} {fs : List EF} (h : MPs X xw pos keys values ks fs) (hk : ks.length = fs.length := by rfl) (hall : keys.all (·.isSome) = true := by rfl) (hl : keys.length = values.length := by rfl) (h0 : keys ≠ [] := by intro z; cases z)
    (h15 : keys.length ≤ 15 := by decide) : ME X xw (.Dict keys values pos) (sDisp ks fs) :=
  PE.imp (pe_disp h hall hl h0 h15) fun σ H Q ⟨g, ρ, M, R, S, b⟩ p hp => by
    have hF : g.F p = none := R.sub.none hp
    have hph : p ∉ g.ph := fun z => by obtain ⟨u, q⟩ := R.tr p z; rw [hp] at q; cases q
    have E1 : Ext g H g (L2.upd H p (.dK [])) := (Ext.refl g H).updD hp
    refine pairs_imp.tPairs_mono (T := tx X) (xw := xw) (pairs_imp (T := tx X) (xw := xw) (k := asDisp ks) hk (R.updD hF hph (fun _ z => by rw [hp] at z; cases z)) S E1 b) fun ps H2 ⟨g2, M2, vs, ws, R2, E2, e3, r4, l5, b6⟩ => ?_
    obtain ⟨o1, o2, o3⟩ := E2.outD upd_same hF hph
    unfold asDisp at b6
    cases ea : allD ws with
    | none => rw [ea] at b6; exact b6.elim
    | some xs =>
      rw [ea] at b6
      simp only at b6
      split at b6
      · rename_i hc
        obtain ⟨c1, c2, c3⟩ := hc
        have d := allD_ok r4 ea
        have lv : ks.length = vs.length := by rw [r4.length, l5, hk]
        refine ⟨o1, ks.zip vs, ?_, by rw [List.length_zip]; omega, ?_⟩
        · rw [e3]
          exact zip_kV
        · have em : mergeK [] (ks.zip vs) = ks.zip vs := merge_nodup (by rw [List.nil_append, zip_fst lv]; exact c3)
          rw [em]
          have hs : Sub g2.F (L2.upd g2.F p (.dK (ks.zip vs))) := Sub.upd o2
          have R3 : Rel X.K ⟨g2.ph, L2.upd g2.F p (.dK (ks.zip vs))⟩ M2 (L2.upd H2 p (.dK (ks.zip vs))) := by
            have ne : ∀ a, a ∈ g2.ph → a ≠ p := fun a hm z => o3 (by rw [← z]; exact hm)
            refine ⟨Sub.upd2 R2.sub, R2.len, fun n u e l => ?_, R2.inj, fun a hm => ?_, (R2.tab.upd fun ps z => by rw [o1] at z; cases z).go hs (fun _ _ e _ => e) (fun _ z => .inl z) fun P ps e _ n => (upd_ne (fun z => by rw [z, upd_same] at e; cases e)).trans n⟩
            · obtain ⟨a, e1, e2, e3⟩ := R2.at_ n u e l
              have na := ne a (List.mem_of_getElem? e1)
              refine ⟨a, e1, by show L2.upd g2.F p _ a = none; rw [upd_ne na]; exact e2, MOk.gr (g := g2) (g' := ⟨g2.ph, L2.upd g2.F p (.dK (ks.zip vs))⟩) ⟨fun _ _ z => z, hs⟩ (fun o' q => ?_) e3⟩
              rw [upd_ne na]
              exact q
            · obtain ⟨u, q⟩ := R2.tr a hm
              exact ⟨u, by rw [upd_ne (ne a hm)]; exact q⟩
          have E3 : Ext g H ⟨g2.ph, L2.upd g2.F p (.dK (ks.zip vs))⟩ (L2.upd H2 p (.dK (ks.zip vs))) := by
            have E := E1.trans E2
            refine ⟨E.gr.trans ⟨fun _ _ z => z, hs⟩, fun a o q hm => ?_, fun a h1 h2 => ?_, E.newph⟩
            · exact ((E.keep a o q hm).upd (ne_of_none q hp)).sub2 hs
            · by_cases ha : a = p
              · exact .inl (by rw [ha]; exact hp)
              · have h2' : g2.F a ≠ none := by
                  have : L2.upd g2.F p (.dK (ks.zip vs)) a ≠ none := h2
                  rwa [upd_ne ha] at this
                exact E.new a h1 h2'
          refine b6 (.ref p) _ _ R3 E3 (.kd (vs := ks.zip vs) upd_same ?_ ?_)
          · rw [zip_fst lv, zip_fst c1]
          · rw [zip_snd lv, zip_snd c1]
            exact DqAll.sub hs d
      · exact b6.elim
/-! reading such a dict -/
def kdGet {α : Type} [DecidableEq α] (kvs : List (α × PyData)) (k : α) : Option PyData := (kvs.find? fun kv => decide (kv.1 = k)).map (·.2)
theorem kd_val {α : Type} [DecidableEq α] {K : PySem.W.Frag} {F : Hp} (k : α) : ∀ {vs : List (α × V)} {kvs : List (α × PyData)}, vs.map (·.1) = kvs.map (·.1) → DqAll K F (vs.map (·.2)) (kvs.map (·.2)) →
    match kdGet kvs k with
    | some d => ∃ v, valV vs k = some v ∧ Dq K F v d
    | none => valV vs k = none
  | [], [], _, _ => rfl
  | [], _ :: _, h, _ => by cases h
  | _ :: _, [], h, _ => by cases h
  | p :: vs, q :: kvs, h, d => by
    rw [List.map_cons, List.map_cons] at h d
    have h1 : p.1 = q.1 := (List.cons.inj h).1
    have h2 := (List.cons.inj h).2
    cases d with
    | cons d1 d2 =>
      by_cases hk : q.1 = k
      · have e : kdGet (q :: kvs) k = some q.2 := by unfold kdGet; rw [List.find?_cons, decide_eq_true hk]; rfl
        rw [e]
        exact ⟨p.2, valV_pos (h1.trans hk), d1⟩
      · have e : kdGet (q :: kvs) k = kdGet kvs k := by unfold kdGet; rw [List.find?_cons, decide_eq_false hk]
        rw [e, valV_neg (by rw [h1]; exact hk)]
        exact kd_val k h2 d2
def keyD : PyData → Option L2.Key
  | .str z => some (.inr z)
  | .int i => some (.inl i)
  | _ => none
theorem keyD_v {K : PySem.W.Frag} {F : Hp} {v : V} {x : PyData} {k : L2.Key} (d : Dq K F v x) (e : keyD x = some k) : v = kV k := by
  cases x with
  | str z => cases e; cases d; rfl
  | int i => cases e; cases d; rfl
  | _ => cases e
def asKd1 : W → W → List MO → Res W
  | .kd kvs, .d x, M => match keyD x with
    | some k => match kdGet kvs k with
      | some d => .ok (.d d) M
      | none => .stuck
    | none => .stuck
  | _, _, _ => .stuck
/-- {..}[k], it is there -/
def sKd (f h : EF) : EF := fun ρ M => (f ρ M).bind fun w M1 => (h ρ M1).bind fun u M2 => asKd1 w u M2
def asKd2 : W → W → W → List MO → Res W
  | .kd kvs, .d x, .d y, M => match keyD x with
    | some k => .ok (.d ((kdGet kvs k).getD y)) M
    | none => .stuck
  | _, _, _, _ => .stuck
/-- {..}.get(k, x) -/
def sKd2 (f h j : EF) : EF := fun ρ M => (f ρ M).bind fun w M1 => match w with
  | .kd _ => (h ρ M1).bind fun u M2 => (j ρ M2).bind fun z M3 => asKd2 w u z M3
  | _ => .stuck
variable {a b c : Expr} {fa fb fc : EF} {k : Nat} {apos cpos : Pos}
theorem me_kd (C : Ctx X k xw) (ha : ME X xw a fa) (hb : ME X xw b fb) (hs : NoSl b := by exact fun _ _ => rfl) : ME X xw (.Subscript a b pos) (sKd fa fb) :=
  PE.imp (pe_dget (by have := ctx_u C; omega) ha hb hs) fun σ H Q h => by
    refine tG_mono (tG_bind (R2 := RW X.K) h) fun v H1 ⟨g, ρ, M, w, R, S, q, b⟩ => ?_
    refine ⟨g, ρ, M, R, S, ?_⟩
    cases e : fb ρ M with
    | stuck => rw [e] at b; exact b
    | err x M2 => rw [e] at b; exact b
    | ok u M2 =>
      rw [e] at b
      intro y g' H' R' E' r'
      replace b : Bhd (tx X) (fun c d H => xw c d σ H) (RW X.K) Q (asKd1 w u M2) g H1 := b
      unfold asKd1 at b
      split at b
      · rename_i kvs x
        split at b
        · rename_i kk ek
          split at b
          · rename_i d ed
            cases q with
            | kd h1 h2 h3 =>
              cases r' with
              | d dx =>
                have hv := kd_val kk h2 h3
                rw [ed] at hv
                obtain ⟨v, e1, e2⟩ := hv
                refine ⟨_, v, rfl, ?_, b v g' H' R' E' (.d (Dq.sub E'.gr.F e2))⟩
                rw [keyD_v dx ek, ← e1]
                exact DGet.k (R'.sub _ _ (E'.gr.F _ _ h1))
          · exact b.elim
        · exact b.elim
      · exact b.elim
theorem me_kd2 (C : Ctx X k xw) (ha : ME X xw a fa) (hb : ME X xw b fb) (hc : ME X xw c fc) (m1 : attributeBase a "get" X.env (eval a X.env) = eval a X.env := by rfl)
    (m2 : ((backTo cpos (starEach [b, c] X.env)).all (fun x => !x.1) && (backToKw cpos (keywordEach [] X.env)).all (fun x => x.1.isSome) && decide (([b, c] : List Expr).length + ([] : List Keyword).length + (if ([] : List Keyword).isEmpty then 0 else 1) < 30)) = true := by rfl)
    (m3 : (apos.endLine == cpos.line) = true := by rfl) (m4 : backTo cpos (starEach [b, c] X.env) = [(false, eval b X.env), (false, eval c X.env)] := by rfl) : ME X xw (.Call (.Attribute a "get" apos) [b, c] [] cpos) (sKd2 fa fb fc) :=
  PE.imp (pe_dget2 (by have := ctx_u C; omega) ha hb hc ⟨m1, m2, m3, m4⟩) fun σ H Q h => by
    refine tG_mono (tG_bind (R2 := RW X.K) h) fun v H1 ⟨g, ρ, M, w, R, S, q, b⟩ => ?_
    cases w with
    | kd kvs =>
      cases q with
      | kd h1 h2 h3 =>
        refine ⟨_, rfl, .inl ⟨_, .inl (R.sub _ _ h1)⟩, g, ρ, M, R, S, ?_⟩
        replace b : Bhd (tx X) (fun c d H => xw c d σ H) (RW X.K) Q ((fb ρ M).bind fun u M2 => (fc ρ M2).bind fun z M3 => asKd2 (.kd kvs) u z M3) g H1 := b
        cases e : fb ρ M with
        | stuck => rw [e] at b; exact b
        | err x M2 => rw [e] at b; exact b
        | ok u M2 =>
          rw [e] at b
          intro y g' H' R' E' r'
          refine ⟨g', ρ, M2, R', S.gr E'.gr, ?_⟩
          replace b : Bhd (tx X) (fun c d H => xw c d σ H) (RW X.K) Q ((fc ρ M2).bind fun z M3 => asKd2 (.kd kvs) u z M3) g H1 := b
          cases e2 : fc ρ M2 with
          | stuck => rw [e2] at b; exact b
          | err x M3 => rw [e2] at b; exact fun c d g2 H2 r2 e2 q2 => b c d g2 H2 r2 (E'.trans e2) q2
          | ok z M3 =>
            rw [e2] at b
            intro y2 g2 H2 R2 E2 r2
            cases u with
            | d x =>
              cases z with
              | d y3 =>
                replace b : Bhd (tx X) (fun c d H => xw c d σ H) (RW X.K) Q (match keyD x with | some k => Res.ok (.d ((kdGet kvs k).getD y3)) M3 | none => .stuck) g H1 := b
                cases ek : keyD x with
                | none => rw [ek] at b; exact b.elim
                | some kk =>
                  rw [ek] at b
                  cases r' with
                  | d dx =>
                    cases r2 with
                    | d dy =>
                      have hv := kd_val kk h2 h3
                      have E3 := E'.trans E2
                      have hD : ∀ o, valV _ kk = o → DGet H2 _ y o := fun o ho => by
                        rw [keyD_v dx ek, ← ho]
                        exact DGet.k (R2.sub _ _ (E3.gr.F _ _ h1))
                      cases ed : kdGet kvs kk with
                      | none =>
                        rw [ed] at hv
                        simp only [ed] at b
                        exact ⟨none, hD _ hv, b y2 g2 H2 R2 E3 (.d dy)⟩
                      | some d =>
                        rw [ed] at hv
                        simp only [ed] at b
                        obtain ⟨v, e1, e3⟩ := hv
                        exact ⟨some v, hD _ e1, b v g2 H2 R2 E3 (.d (Dq.sub E3.gr.F e3))⟩
              | _ => exact b.elim
            | _ => exact b.elim
    | _ => exact b.elim
/-! list(range(..)), tuple(range(..)) -/
def lt (l : Bool) (ds : List PyData) : PyData := if l = true then .list ds else .tuple ds
def asRg1 (l : Bool) : W → List MO → Res W
  | .d (.int j), M => if 0 ≤ j ∧ j ≤ 16777216 then .ok (.d (lt l (rng 0 j.toNat))) M else .stuck
  | _, _ => .stuck
def sRg1 (l : Bool) (f : EF) : EF := fun ρ M => (f ρ M).bind (asRg1 l)
def asRg2 (l : Bool) : W → W → List MO → Res W
  | .d (.int i), .d (.int j), M => if 0 ≤ i ∧ i ≤ 16777216 ∧ 0 ≤ j ∧ j ≤ 16777216 then .ok (.d (lt l (rng i (j - i).toNat))) M else .stuck
  | _, _, _ => .stuck
def sRg2 (l : Bool) (f h : EF) : EF := fun ρ M => (f ρ M).bind fun w M1 => (h ρ M1).bind fun u M2 => asRg2 l w u M2
theorem dq_rg {K : PySem.W.Frag} {F : Hp} {a b : Int} : DqAll K F (rgV a b) (rng a (b - a).toNat) := by
  unfold rgV rng
  generalize (b - a).toNat = n
  generalize List.range n = l
  induction l with
  | nil => exact .nil
  | cons x l ih => exact .cons (.int _) ih
theorem me_rgL1 {p p2 pos2 : Pos} (C : Ctx X k xw) (ha : ME X xw a fa) (hm : X.mg "list" = none) (hr : X.mg "range" = none) (hg : Gl X "list" := by rfl) (hg2 : Gl X "range" := by rfl) (n1 : starEach [a] X.env = (false, eval a X.env) :: starEach [] X.env := by rfl)
    (n2 : starEach [.Call (.Name "range" p2) [a] [] pos2] X.env = (false, eval (.Call (.Name "range" p2) [a] [] pos2) X.env) :: starEach [] X.env := by rfl) : ME X xw (.Call (.Name "list" p) [.Call (.Name "range" p2) [a] [] pos2] [] pos) (sRg1 true fa) :=
  PE.imp (pe_listRg C.calm hg hm (prg_1 hg2 hr ha n1) n2) fun σ H Q h => tG_mono (tG_bind (R2 := RW X.K) h) fun v H1 ⟨g, ρ, M, w, R, S, q, b⟩ => by
    unfold asRg1 at b
    split at b
    · rename_i j
      split at b
      · rename_i hc
        cases q with
        | d q =>
          cases q
          have d := dq_rg (K := X.K) (F := g.F) (a := 0) (b := j)
          rw [Int.sub_zero] at d
          exact ⟨j, rfl, RgOk.of_le (by decide) hc.2 (by decide) hc.1, fun p hp => b _ ⟨g.ph, L2.upd g.F p (.lst (rgV 0 j))⟩ _ (R.lay hp) (Ext.lay R.sub hp) (.d (.lst upd_same (DqAll.sub (Sub.upd (R.sub.none hp)) d)))⟩
      · exact b.elim
    · exact b.elim
theorem me_rgT1 {p p2 pos2 : Pos} (C : Ctx X k xw) (ha : ME X xw a fa) (hm : X.mg "tuple" = none) (hr : X.mg "range" = none) (hg : Gl X "tuple" := by rfl) (hg2 : Gl X "range" := by rfl) (n1 : starEach [a] X.env = (false, eval a X.env) :: starEach [] X.env := by rfl)
    (n2 : starEach [.Call (.Name "range" p2) [a] [] pos2] X.env = (false, eval (.Call (.Name "range" p2) [a] [] pos2) X.env) :: starEach [] X.env := by rfl) : ME X xw (.Call (.Name "tuple" p) [.Call (.Name "range" p2) [a] [] pos2] [] pos) (sRg1 false fa) :=
  PE.imp (pe_tupRg C.calm hg hm (prg_1 hg2 hr ha n1) n2) fun σ H Q h => tG_mono (tG_bind (R2 := RW X.K) h) fun v H1 ⟨g, ρ, M, w, R, S, q, b⟩ => by
    unfold asRg1 at b
    split at b
    · rename_i j
      split at b
      · rename_i hc
        cases q with
        | d q =>
          cases q
          have d := dq_rg (K := X.K) (F := g.F) (a := 0) (b := j)
          rw [Int.sub_zero] at d
          exact ⟨j, rfl, RgOk.of_le (by decide) hc.2 (by decide) hc.1, fun p hp => b _ ⟨g.ph, L2.upd g.F p (.tup (rgV 0 j))⟩ _ (R.lay hp) (Ext.lay R.sub hp) (.d (.tup (.of upd_same) (DqAll.sub (Sub.upd (R.sub.none hp)) d)))⟩
      · exact b.elim
    · exact b.elim
theorem me_rgT2 {p p2 pos2 : Pos} (C : Ctx X k xw) (ha : ME X xw a fa) (hb : ME X xw b fb) (hm : X.mg "tuple" = none) (hr : X.mg "range" = none) (hg : Gl X "tuple" := by rfl) (hg2 : Gl X "range" := by rfl) (n1 : starEach [a, b] X.env = (false, eval a X.env) :: starEach [b] X.env := by rfl) (n3 : starEach [b] X.env = (false, eval b X.env) :: starEach [] X.env := by rfl) (hpl : (backTo pos2 (starEach [b] X.env)).any (·.1) = false := by rfl)
    (n2 : starEach [.Call (.Name "range" p2) [a, b] [] pos2] X.env = (false, eval (.Call (.Name "range" p2) [a, b] [] pos2) X.env) :: starEach [] X.env := by rfl) : ME X xw (.Call (.Name "tuple" p) [.Call (.Name "range" p2) [a, b] [] pos2] [] pos) (sRg2 false fa fb) :=
  PE.imp (pe_tupRg C.calm hg hm (prg_2 hg2 hr ha hb n1 n3 hpl) n2) fun σ H Q h => by
    refine tG_mono (tG_bind (R2 := RW X.K) h) fun v H1 ⟨g, ρ, M, w, R, S, q, b⟩ => ?_
    refine ⟨g, ρ, M, R, S, ?_⟩
    replace b : Bhd (tx X) (fun c d H => xw c d σ H) (RW X.K) Q ((fb ρ M).bind fun u M2 => asRg2 false w u M2) g H1 := b
    cases e : fb ρ M with
    | stuck => rw [e] at b; exact b
    | err x M2 => rw [e] at b; exact b
    | ok u M2 =>
      rw [e] at b
      intro y g' H' R' E' r'
      replace b : Bhd (tx X) (fun c d H => xw c d σ H) (RW X.K) Q (asRg2 false w u M2) g H1 := b
      unfold asRg2 at b
      split at b
      · rename_i i j
        split at b
        · rename_i hc
          cases q with
          | d q =>
            cases q
            cases r' with
            | d r' =>
              cases r'
              have d := dq_rg (K := X.K) (F := g'.F) (a := i) (b := j)
              exact ⟨i, j, rfl, rfl, RgOk.of_le hc.1 hc.2.2.2 hc.2.1 hc.2.2.1, fun p hp => b _ ⟨g'.ph, L2.upd g'.F p (.tup (rgV i j))⟩ _ (R'.lay hp) (E'.trans (Ext.lay R'.sub hp)) (.d (.tup (.of upd_same) (DqAll.sub (Sub.upd (R'.sub.none hp)) d)))⟩
        · exact b.elim
      · exact b.elim
end
end Y
namespace Y
open PySem PySem.Spec PyProof.Rows L2

/-! ### texts taken apart -/
section
variable {X : Cx} {xw : WX} {a o : Expr} {fa fb : EF} {apos cpos : Pos} {k : Nat}
def strD (ys : List Str) : List PyData := ys.map PyData.str
theorem dq_strs {K : PySem.W.Frag} {F : Hp} : ∀ (ys : List Str), DqAll K F (ys.map V.str) (strD ys)
  | [] => .nil
  | y :: ys => .cons (.str y) (dq_strs ys)
def pSplit : DPr
  | [.str x, .str y] => if (y.length == 0) = false ∧ x.length + 2 ≤ sizeLine then some (.list (strD (Txt.split x y))) else none
  | _ => none
def tri (p : Str × Str × Str) : List PyData := [.str p.1, .str p.2.1, .str p.2.2]
def pPart : DPr
  | [.str x, .str y] => if (y.length == 0) = false ∧ x.length ≤ sizeLine then some (.tuple (tri (Txt.partition x y))) else none
  | _ => none
def pRPart : DPr
  | [.str x, .str y] => if (y.length == 0) = false ∧ x.length ≤ sizeLine then some (.tuple (tri (Txt.rpartition x y))) else none
  | _ => none
theorem me_split (ho : ME X xw o fa) (ha : MA X xw [a] [fb])
    (hbase : attributeBase o "split" X.env (eval o X.env) = eval o X.env := by rfl)
    (hfew : ((backTo cpos (starEach [a] X.env)).all (fun x => !x.1) && (backToKw cpos (keywordEach [] X.env)).all (fun x => x.1.isSome)
      && decide ([a].length + ([] : List Keyword).length + (if ([] : List Keyword).isEmpty then 0 else 1) < 30)) = true := by rfl)
    (hline : (apos.endLine == cpos.line) = true := by rfl) (hs : starEach [a] X.env = (false, eval a X.env) :: starEach [] X.env := by rfl) : ME X xw (.Call (.Attribute o "split" apos) [a] [] cpos) (sMeth .str (dpr pSplit) fa [fb]) := by
  refine me_meth .str F.plainAttrs_str F.slot_str_split F.type_str_split mt_split (dprM fun F H v vs x xs z Q s d ds e k => ?_) ho ha hbase hfew hline hs
  unfold pSplit at e
  split at e
  · rename_i q
    cases q
    split at e
    · rename_i c
      cases e
      cases d.str
      obtain ⟨v, rfl, d⟩ := ds.one
      cases d.str
      exact ⟨_, _, rfl, rfl, c.1, c.2, fun p hp => kn s k (dq_strs _) hp⟩
    · cases e
  · cases e
theorem me_part (ho : ME X xw o fa) (ha : MA X xw [a] [fb])
    (hbase : attributeBase o "partition" X.env (eval o X.env) = eval o X.env := by rfl)
    (hfew : ((backTo cpos (starEach [a] X.env)).all (fun x => !x.1) && (backToKw cpos (keywordEach [] X.env)).all (fun x => x.1.isSome)
      && decide ([a].length + ([] : List Keyword).length + (if ([] : List Keyword).isEmpty then 0 else 1) < 30)) = true := by rfl)
    (hline : (apos.endLine == cpos.line) = true := by rfl) (hs : starEach [a] X.env = (false, eval a X.env) :: starEach [] X.env := by rfl) : ME X xw (.Call (.Attribute o "partition" apos) [a] [] cpos) (sMeth .str (dpr pPart) fa [fb]) := by
  refine me_meth .str F.plainAttrs_str F.slot_str_partition F.type_str_partition mt_partition (dprM fun F H v vs x xs z Q s d ds e k => ?_) ho ha hbase hfew hline hs
  unfold pPart at e
  split at e
  · rename_i q
    cases q
    split at e
    · rename_i c
      cases e
      cases d.str
      obtain ⟨v, rfl, d⟩ := ds.one
      cases d.str
      exact ⟨_, _, rfl, rfl, c.1, c.2, fun p hp => kt s k (dq_strs [_, _, _]) hp⟩
    · cases e
  · cases e
/-- what the kit tells of rpartition, as a method's rule -/
theorem mt_rpart : MtR X "str.rpartition" (fun x xs H Q => ∃ a b, x = .str a ∧ xs = [.str b] ∧ (b.length == 0) = false ∧ a.length ≤ sizeLine ∧ ∀ p, H p = none → Q (.ref p) (upd H p (.tup [V.str (Txt.rpartition a b).1, .str (Txt.rpartition a b).2.1, .str (Txt.rpartition a b).2.2]))) := by
  intro pins s σ H x xs v us Q I rx rxs ⟨a, b, ex, exs, hb, hz, q⟩
  subst ex exs
  obtain ⟨t, rfl⟩ := rx
  cases rxs with
  | cons ry rt =>
    cases rt
    obtain ⟨u, rfl⟩ := ry
    refine call_meets F.slot_str_rpartition (typeIs_str _ _ _) F.entry_str_rpartition (F.args_str_rpartition_2 _ _) (meets_str_rpartition a b t u hb hz) ?_
    unfold Txt.rpartition at q
    revert q
    cases Builtin.Str.lastOccurrence a b 0 a.length with
    | none => exact fun q => laid_parts I q
    | some i => exact fun q => laid_parts I q
theorem me_rpart (ho : ME X xw o fa) (ha : MA X xw [a] [fb])
    (hbase : attributeBase o "rpartition" X.env (eval o X.env) = eval o X.env := by rfl)
    (hfew : ((backTo cpos (starEach [a] X.env)).all (fun x => !x.1) && (backToKw cpos (keywordEach [] X.env)).all (fun x => x.1.isSome)
      && decide ([a].length + ([] : List Keyword).length + (if ([] : List Keyword).isEmpty then 0 else 1) < 30)) = true := by rfl)
    (hline : (apos.endLine == cpos.line) = true := by rfl) (hs : starEach [a] X.env = (false, eval a X.env) :: starEach [] X.env := by rfl) : ME X xw (.Call (.Attribute o "rpartition" apos) [a] [] cpos) (sMeth .str (dpr pRPart) fa [fb]) := by
  refine me_meth .str F.plainAttrs_str F.slot_str_rpartition F.type_str_rpartition mt_rpart (dprM fun F H v vs x xs z Q s d ds e k => ?_) ho ha hbase hfew hline hs
  unfold pRPart at e
  split at e
  · rename_i q
    cases q
    split at e
    · rename_i c
      cases e
      cases d.str
      obtain ⟨v, rfl, d⟩ := ds.one
      cases d.str
      exact ⟨_, _, rfl, rfl, c.1, c.2, fun p hp => kt s k (dq_strs [_, _, _]) hp⟩
    · cases e
  · cases e
end

/-! ### texts with values in them -/
section
variable {X : Cx} {xw : WX} {σ : L2.St} {H : Hp}
def pFmt : DPr
  | [.str y] => if y.length ≤ sizeLine then some (.str y) else none
  | [.int i] => if i.natAbs.log2 < 1920 then some (.str (toString i)) else none
  | _ => none
def rFmt : List V → Hp → VK → Prop := fun xs H1 Q => ∃ x, xs = [x] ∧ ((∃ y : Str, x = .str y ∧ y.length ≤ sizeLine ∧ Q (.str y) H1) ∨ ∃ i : Int, x = .int i ∧ i.natAbs.log2 < 1920 ∧ Q (.str (toString i)) H1)
theorem fmt_ok (K : PySem.W.Frag) : PrOk K (dpr pFmt) rFmt := dprN fun F H vs xs y Q s dv e k => by
  unfold pFmt at e
  split at e
  · split at e
    · cases e
      obtain ⟨v, rfl, d⟩ := dv.one
      cases d.str
      exact ⟨_, rfl, .inl ⟨_, rfl, by assumption, kq s k (.str _)⟩⟩
    · cases e
  · split at e
    · cases e
      obtain ⟨v, rfl, d⟩ := dv.one
      cases d.int
      exact ⟨_, rfl, .inr ⟨_, rfl, by assumption, kq s k (.str _)⟩⟩
    · cases e
  · cases e
theorem me_fmt {e : Expr} {f : EF} {pos : Pos} (he : ME X xw e f) : ME X xw (.FormattedValue e (-1) none pos) (sPr (dpr pFmt) [f]) :=
  PE.imp (pe_fmt he) fun _ _ _ h => tG_mono (prim1 (T := tx X) (fmt_ok X.K) h) fun v _ ⟨x, e, q⟩ => by
    cases e
    exact q
/-- the parts one behind the other -/
def sJs : List EF → Str → Rho → List MO → Res W
  | [], acc, _, M => .ok (.d (.str acc)) M
  | f :: fs, acc, ρ, M => (f ρ M).bind fun w M1 => match w with
    | .d (.str y) => if (acc ++ y).length ≤ sizeLine then sJs fs (acc ++ y) ρ M1 else .stuck
    | _ => .stuck
def sFs (fs : List EF) : EF := sJs fs Str.empty
theorem js_ok {K : PySem.W.Frag} (T : Tx) : ∀ (fs : List EF) (acc : Str) (H : Hp) (Q : VK), tG T xw (RW T.K) (sJs fs acc) σ H Q → tJs (fs.map fun f => tE T xw f) acc σ H fun out H1 => Q (.str out) H1
  | [], acc, H, Q, h => by
    obtain ⟨g, ρ, M, R, S, b⟩ := h
    exact b (.str acc) g H R (Ext.refl _ _) (.d (.str _))
  | f :: fs, acc, H, Q, h => by
    refine tG_mono (tG_bind (R2 := RW T.K) h) fun v H1 ⟨g, ρ, M, w, R, S, q, b⟩ => ?_
    cases w with
    | d x =>
      cases x with
      | str y =>
        cases q with
        | d q =>
          cases q
          have b' : Bhd T (fun c d H => xw c d σ H) (RW T.K) Q (if (acc ++ y).length ≤ sizeLine then sJs fs (acc ++ y) ρ M else .stuck) g H1 := b
          split at b'
          · rename_i c
            exact ⟨y, rfl, c, js_ok (K := K) T fs (acc ++ y) H1 Q ⟨g, ρ, M, R, S, b'⟩⟩
          · exact b'.elim
      | _ => exact (show False from b).elim
    | _ => exact (show False from b).elim
abbrev MJ (X : Cx) (xw : WX) (es : List Expr) (fs : List EF) : Prop := PJ X es (fs.map fun f => tE (tx X) xw f)
theorem mj_nil : MJ X xw [] [] := .nil
theorem mj_cons {e : Expr} {es : List Expr} {f : EF} {fs : List EF} (h : ME X xw e f) (r : MJ X xw es fs) : MJ X xw (e :: es) (f :: fs) := .cons h r
theorem me_joined {v1 v2 : Expr} {rest : List Expr} {fs : List EF} {pos : Pos} (h : MJ X xw (v1 :: v2 :: rest) fs) : ME X xw (.JoinedStr (v1 :: v2 :: rest) pos) (sFs fs) :=
  PE.imp (pe_joined h) fun σ H Q q => js_ok (K := X.K) (tx X) fs Str.empty H Q q
end
end Y
namespace Y
open PySem PySem.Spec PyProof.Rows L2

/-! ### defs as values -/
/-- the name holds a def -/
def FnV (K : PySem.W.Frag) (mg : Str → Option Value) (x : Str) : Prop := ∃ f, PySem.W.nsIn K mainGlobals x = some (some (.ref f)) ∧ mg x = some (.ref f)
section
variable {X : Cx} {k : Nat} {xw : WX}
def sFn (x : Str) : EF := fun _ M => .ok (.fn x) M
theorem me_fn {x : Str} {pos : Pos} (h : FnV X.K X.mg x) (hg : Gl X x := by rfl) (hd : (x == ("__debug__" : Str)) = false := by decide) : ME X xw (.Name x pos) (sFn x) := by
  obtain ⟨f, h1, h2⟩ := h
  refine PE.imp (pe_glob hg h2 (v := .ref f) rfl hd) fun σ H Q ⟨g, ρ, M, R, S, b⟩ => ?_
  exact b (.ref f) g H R (Ext.refl _ _) (.fn h1)
/-- a module's text -/
theorem me_gStr {x : Str} {z : Str} (hm' : ∃ t, X.mg x = some (.str z t)) {pos : Pos} (hg : Gl X x := by rfl) (hd : (x == ("__debug__" : Str)) = false := by decide) : ME X xw (.Name x pos) (sC (.str z)) :=
  let ⟨_, hm⟩ := hm'
  PE.imp (pe_glob hg hm (v := .str z) ⟨_, rfl⟩ hd) fun _ _ _ q => tE_const (fun _ => .str _) q
variable {i : Nat} {a x : Str} {ps : List Str} {mf : MF} {e : Expr} {es : List Expr} {fs : List EF} {p pos : Pos} {σ : L2.St} {H : Hp} {Q : VK}
/-- the callee's view of a call -/
theorem callM_of {n : Nat} (h : tE (tx X) xw (sCallF mf n fs) σ H Q) : tCallM (tx X) mf n xw (tA (tx X) xw fs) σ H Q :=
  tG_mono (tG_bind (R2 := RWs X.K) h) fun vs H1 ⟨g, ρ, M, ws, R, S, q, b⟩ => by
    unfold callF at b
    split at b
    · rename_i hc
      obtain ⟨hl, hpl, nd⟩ := hc
      cases hs : subM M (locs ws) with
      | none => rw [hs] at b; exact b.elim
      | some Mc =>
        rw [hs] at b
        refine ⟨q.length.trans hl, ghC g (locs ws), relo 0 ws, Mc, rel_ghC R hs nd, relo_ok (g := g) (gc := ghC g (locs ws)) rfl 0 q hpl fun j n e => ?_, ?_⟩
        · obtain ⟨a, e1, _, e3, _⟩ := ph_at R hs e
          rw [Nat.zero_add, e1]; exact e3
        · replace b : Bhd (tx X) (fun c d H => xw c d σ H) (RW X.K) Q (freeze M (locs ws) (mf (relo 0 ws) Mc)) g H1 := b
          cases r : mf (relo 0 ws) Mc with
          | stuck => rw [r] at b; exact b
          | err y M' =>
            rw [r] at b
            unfold freeze at b
            simp only at b
            split at b
            · rename_i hd
              intro cls d g' H' R' E' ix
              obtain ⟨F2, r2, e2, s2, _⟩ := back_ok R hs nd R' E' hd
              exact b cls d _ H' r2 e2 (ix.sub s2)
            · exact b.elim
          | ok w M' =>
            rw [r] at b
            unfold freeze at b
            simp only at b
            split at b
            · rename_i hd
              cases hz : fz 3 (List.replicate (locs ws).length MO.dead ++ M'.drop (locs ws).length) w with
              | none => rw [hz] at b; exact b.elim
              | some y =>
                rw [hz] at b
                intro v g' H' R' E' rw_
                obtain ⟨F2, r2, e2, s2, hM⟩ := back_ok R hs nd R' E' hd
                exact b v _ H' r2 e2 (.d (fz_ok hM s2 3 w v y rw_ hz))
            · exact b.elim
    · exact b.elim
theorem pe_callLM (C : Ctx X k xw) (c : Cal X.prog X.w X.K X.mg X.base k x ps mf) {t : TA} (ha : PA X (e :: es) t) (hN : X.N[i]? = some a) (hv : Vis X.env.scope a) (hdb : (a == ("__debug__" : Str)) = false := by decide) (hcd : (a == ("__classdict__" : Str)) = false := by decide)
    (he : starEach (e :: es) X.env = (false, eval e X.env) :: starEach es X.env := by rfl) (hpl : (backTo pos (starEach es X.env)).any (·.1) = false := by rfl) :
    PE X (.Call (.Name a p) (e :: es) [] pos) (fun σ H Q => (∃ f, X.mg x = some (.ref f) ∧ σ[i]? = some (some (.ref f))) ∧ tCallM (tx X) mf ps.length xw t σ H Q) := by
  obtain ⟨f, fd, F, hm, hk, hb⟩ := c.ex
  refine ⟨fun pins s σ H Q I h => ?_⟩
  obtain ⟨⟨f', hf, hs⟩, h⟩ := h
  rw [hm] at hf
  cases hf
  refine wpAny_Call_Name_kw (thn ((pe_var (pos := p) hN hv hdb hcd).run pins s σ H (fun v H1 => v = .ref f ∧ H1 = H) I ⟨.ref f, hs, rfl, rfl⟩) fun u s1 ⟨v, H1, I1, r1, q1⟩ => ?_)
  obtain ⟨rfl, rfl⟩ := q1
  cases r1
  exact PySem.W.callWith_K (h₀ := X.base) I.ok.mod.kin hk (thn (ha.run pos pins s1 σ _ _ I1 h) fun us s2 ⟨vs, H2, I2, r, q⟩ => ⟨I2.kIn, run_fnM C F hb I2 r q.1 q.2⟩) he hpl
/-- a call of what the slot holds: one of the defs of the table -/
def sCallV (i : Nat) (tab : List (Str × MF × Nat)) (fs : List EF) : EF := fun ρ M => match ρ[i]? with
  | some (some (.fn x)) => match tab.lookup x with
    | some (mf, n) => sCallF mf n fs ρ M
    | none => .stuck
  | _ => .stuck
inductive Tab (X : Cx) (k : Nat) : List (Str × MF × Nat) → Prop
  | nil : Tab X k []
  | cons {x : Str} {ps : List Str} {mf : MF} {r : List (Str × MF × Nat)} : Cal X.prog X.w X.K X.mg X.base k x ps mf → FnV X.K X.mg x → Tab X k r → Tab X k ((x, mf, ps.length) :: r)
theorem Tab.get {tab : List (Str × MF × Nat)} {n : Nat} (t : Tab X k tab) (h : tab.lookup x = some (mf, n)) : ∃ ps, n = ps.length ∧ Cal X.prog X.w X.K X.mg X.base k x ps mf ∧ FnV X.K X.mg x := by
  induction t with
  | nil => cases h
  | @cons y qs mg' r c v t ih =>
    rw [List.lookup_cons] at h
    cases q : x == y with
    | true =>
      rw [q] at h
      cases h
      have e : x = y := eq_of_beq q
      subst e
      exact ⟨qs, rfl, c, v⟩
    | false =>
      rw [q] at h
      exact ih h
theorem me_callV {tab : List (Str × MF × Nat)} (C : Ctx X k xw) (t : Tab X k tab) (ha : MA X xw (e :: es) fs) (i : Nat) (hN : X.N[i]? = some a := by rfl) (hv : Vis X.env.scope a := by first | exact Or.inl rfl | exact Or.inr (Or.inl rfl) | exact Or.inr (Or.inr rfl)) (hdb : (a == ("__debug__" : Str)) = false := by decide) (hcd : (a == ("__classdict__" : Str)) = false := by decide)
    (he : starEach (e :: es) X.env = (false, eval e X.env) :: starEach es X.env := by rfl) (hpl : (backTo pos (starEach es X.env)).any (·.1) = false := by rfl) :
    ME X xw (.Call (.Name a p) (e :: es) [] pos) (sCallV i tab fs) := by
  refine ⟨fun pins s σ H Q I h => ?_⟩
  obtain ⟨g, ρ, M, R, S, b⟩ := h
  unfold sCallV at b
  cases q : ρ[i]? with
  | none => rw [q] at b; exact b.elim
  | some o =>
    cases o with
    | none => rw [q] at b; exact b.elim
    | some w =>
      rw [q] at b
      obtain ⟨v, e1, e2⟩ := S.at_ i w q
      cases w with
      | fn x =>
        cases e2 with
        | fn hf =>
          cases hl : tab.lookup x with
          | none =>
            simp only [hl] at b
            exact b.elim
          | some y =>
            obtain ⟨mf, n⟩ := y
            simp only [hl] at b
            obtain ⟨ps, hn, c, f', v1, v2⟩ := t.get hl
            subst hn
            rw [hf] at v1
            cases v1
            exact (pe_callLM (p := p) C c ha hN hv hdb hcd he hpl).run pins s σ H Q I ⟨⟨_, v2, e1⟩, callM_of ⟨g, ρ, M, R, S, b⟩⟩
      | _ => exact (show False from b).elim
end
end Y
namespace Y
open PySem PySem.Spec PyProof.Rows L2

/-! ### an error class with an __init__ of its own: self.line = line -/
def CXn : CXT := fun _ _ _ _ _ _ => False
/-- what its __init__ does with the exception that is being made -/
def spLine (K : PySem.W.Frag) : Sp := fun vs H Q _ => ∃ (a C : Addr) (i : Int), vs = [.ref a, .int i] ∧ OexC K C ∧ PySem.W.findIn K (.ref C) "line" = some none ∧ H a = some (exo a C none) ∧
  ∀ dx, H dx = none → dx ≠ a → Q .non (L2.upd (L2.upd H dx (exd dx [(("line" : Str), .int i)])) a (exo a C (some dx)))
theorem fnL_of {P : Program} {w : World} {K : PySem.W.Frag} {mg : Str → Option Value} {base : Heap} {x qual : Str} {st : Stmt} {f : Addr} {fd : FuncData} {k : Nat} {p1 p2 p3 p4 : Pos} (F : Fun K x qual st f fd) (S : FnScope ["self", "line"] ["self", "line"] (defScope st))
    (hb : defBody st = [.Assign [.Attribute (.Name "self" p1) "line" p2] (.Name "line" p3) p4]) : FnOk P w K mg base CXn (k + 1) f fd ["self", "line"] (spLine K) := by
  obtain ⟨oc, od, kV, doc, pm, an, cdv, ct, osl, rfl, lk, hcd⟩ := F.ex
  refine ⟨fun vs H Q E ⟨a, C, i, e, _⟩ => by rw [e]; rfl, fun A outer s H args us vs Q E hr e0 bt r hsp => ?_⟩
  obtain ⟨a, C, i, rfl, T, hno, ha, q⟩ := hsp
  have kin : K.In s.heap := e0.mod.kin.keeps fun b o e => (e0.bs b o e).1
  have lim : s.heap.NoLimit := e0.mod.nolimit.keeps fun b o e => (e0.bs b o e).1
  have kinds : ∀ y ∈ (["self", "line"] : List Str).zip us, (defScope st).names.lookup y.1 = some .local ∨ ((defScope st).names.lookup y.1 = some .cell ∧ ((cellsFrom (s.heap.objs.size + 1) (defScope st).names []).lookup y.1).isSome = true) := fun ⟨n, v⟩ hy => by
    rcases S.par n (List.of_mem_zip hy).1 with z | z
    · exact .inl z
    · exact .inr ⟨z, PySem.W.cellsFrom_some _ _ _ (.inl z)⟩
  refine codeAny_call_function hr.depth (kin _ _ lk) rfl S.co S.gen rfl (PySem.W.codeRec_of kin hcd) (bt _ _ _ _ (wpAny_newFunctionEnv_cells S.kind kinds fun env he s1 x => ?_))
  subst he
  refine ⟨lim.keeps x.toInCall.keep, codeAny_func ?_⟩
  have I : Inv (cxOf CXn P w K mg base ["self", "line"] qual (defScope st) f cdv A outer s H E) [] (L2.start ["self", "line"] [.ref a, .int i]) H s1 := inv_start S hr.hd e0 rfl r x
  have vis : ∀ n ∈ (["self", "line"] : List Str), Vis (defScope st) n := fun n hn => (S.par n hn).imp id .inl
  have body : PSs (cxOf CXn P w K mg base ["self", "line"] qual (defScope st) f cdv A outer s H E) (defBody st) (tOst K "line" (tVar 0) (tVar 1)) := by
    rw [hb]
    exact pss_one (ps_ost (pe_var (i := 0) rfl (vis _ (by simp)) (by decide) (by decide)) (pe_var (i := 1) rfl (vis _ (by simp)) (by decide) (by decide)))
  refine wpAny_mono (body.run [] s1 _ H { nx := fun _ H' => Q .non H', rt := Q } I ⟨.int i, rfl, .ref a, rfl, a, C, rfl, T, hno, .inl ⟨ha, fun dx n ne => q dx n ne⟩⟩) (fun fl s' hs => ?_) fun e s' hs => hs
  cases fl with
  | ret u =>
    obtain ⟨v, σ', H', J, rv, q⟩ := hs
    exact ⟨v, H', J.os, J.bare, J.base, J.hok, rv, q⟩
  | next =>
    obtain ⟨σ', H', J, q⟩ := hs
    exact ⟨V.non, H', J.os, J.bare, J.base, J.hok, rfl, q⟩
  | brk =>
    obtain ⟨_, _, _, q⟩ := hs
    exact False.elim q
  | cont =>
    obtain ⟨_, _, _, q⟩ := hs
    exact False.elim q
/-- what the written part says of the class NoText -/
structure NTx (K : PySem.W.Frag) (mg : Str → Option Value) (qual : Str) (st : Stmt) : Prop where
  ex : ∃ (C fI : Addr) (fd : FuncData), PySem.W.nsIn K mainGlobals "NoText" = some (some (.ref C)) ∧ mg "NoText" = some (.ref C) ∧ OexC K C ∧ PySem.W.findIn K (.ref C) "__init__" = some (some (.ref fI)) ∧ PySem.W.typeIn K (.ref fI) = some (.type "function") ∧
    Fun K "__init__" qual st fI fd ∧ Binds K fd ["self", "line"] [] ∧ PySem.W.findIn K (.ref C) "line" = some none
/-- raise NoText(e) -/
def sRaiseL (f : EF) : SF := fun ρ M => match f ρ M with
  | .ok (.d (.int i)) M1 => .er ⟨"NoText", some i⟩ ρ M1
  | .err e M1 => .er e ρ M1
  | _ => .stuck
theorem mx_raiseL {X : Cx} {k : Nat} {xw : WX} {qual : Str} {st : Stmt} {e : Expr} {f : EF} {p pos p3 q1 q2 q3 q4 : Pos} (C : Ctx X (k + 2) xw) (T : NTx X.K X.mg qual st) (S : FnScope ["self", "line"] ["self", "line"] (defScope st))
    (hb : defBody st = [.Assign [.Attribute (.Name "self" q1) "line" q2] (.Name "line" q3) q4]) (ha : MA X xw [e] [f]) (hg : Gl X "NoText" := by rfl)
    (he : starEach [e] X.env = (false, eval e X.env) :: starEach [] X.env := by rfl) (hpl : (backTo pos (starEach [] X.env)).any (·.1) = false := by rfl) : MS X xw (.Raise (some (.Call (.Name "NoText" p) [e] [] pos)) none p3) (sRaiseL f) := by
  obtain ⟨D, fI, fd, hns, hm, oe, iC, tI, F, bd, hno⟩ := T.ex
  refine PS.imp (ps_raise C.calm C.takes (pmk_oex (ds := []) (dvs := []) oe iC tI (fnL_of (k := k) F S hb) C.room bd .nil (fun _ _ _ _ _ _ _ z => z.elim) hg hm ha (by decide) he hpl)) fun W σ H ⟨g, ρ, M, R, Sl, b⟩ => ?_
  unfold sRaiseL at b
  refine ⟨g, ρ, M, R, Sl, ?_⟩
  unfold evs evs
  cases ef : f ρ M with
  | stuck => rw [ef] at b; exact b.elim
  | err x M1 =>
    rw [ef] at b
    exact fun cls d g' H' R' E' ix => b cls d σ g' H' R' E' (Sl.gr E'.gr) ix
  | ok w M1 =>
    rw [ef] at b
    intro vs g1 H1 R1 E1 rs
    cases rs with
    | @cons v _ _ _ rv rt =>
      cases rt
      cases w with
      | d x =>
        cases x with
        | int i =>
          cases rv with
          | d rv =>
            cases rv
            refine ⟨Nat.le_of_ble_eq_true rfl, fun a na => ?_⟩
            refine ⟨a, D, i, rfl, oe, hno, L2.upd_same, fun dx nd ne => ⟨rfl, dx, [(("line" : Str), .int i)], L2.upd_same, ?_, ?_, ?_⟩⟩
            · rw [L2.upd_ne ne, L2.upd_same]
            · rw [← nd, L2.upd_ne ne]
            · have hdx : H1 dx = none := by rw [← nd, L2.upd_ne ne]
              have hf : L2.upd (del (L2.upd (L2.upd (L2.upd H1 a (exo a D none)) dx (exd dx [(("line" : Str), .int i)])) a (exo a D (some dx))) a) dx (.xd [(("line" : Str), .int i)]) = L2.upd H1 dx (.xd [(("line" : Str), .int i)]) := by
                funext z
                by_cases z1 : z = dx
                · rw [z1, L2.upd_same, L2.upd_same]
                · rw [L2.upd_ne z1, L2.upd_ne z1]
                  by_cases z2 : z = a
                  · rw [z2, del_same, na]
                  · rw [del_ne z2, L2.upd_ne z2, L2.upd_ne z1, L2.upd_ne z2]
              rw [hf]
              have R2 := R1.lay (o := .xd [(("line" : Str), .int i)]) hdx
              have E2 : Ext g1 H1 ⟨g1.ph, L2.upd g1.F dx (.xd [(("line" : Str), .int i)])⟩ (L2.upd H1 dx (.xd [(("line" : Str), .int i)])) := Ext.lay R1.sub hdx
              exact b (.ref D) (some dx) σ _ _ R2 (E1.trans E2) (Sl.gr (E1.trans E2).gr) ⟨⟨D, rfl, hns⟩, dx, rfl, L2.upd_same⟩
        | _ => exact b.elim
      | _ => exact (show False from b).elim
end Y
namespace Y
open PySem PySem.Spec PyProof.Rows L2

/-! ### a display with a star; a call without arguments -/
section
variable {X : Cx} {k : Nat} {xw : WX}
theorem rws_map {K : PySem.W.Frag} {g : Gh} : ∀ {xs : List V} {ds : List PyData}, DqAll K g.F xs ds → RWs K g xs (ds.map W.d)
  | _, _, .nil => .nil
  | _, _, .cons h t => .cons (.d h) (rws_map t)
theorem RWs.app {K : PySem.W.Frag} {g : Gh} : ∀ {xs ys : List V} {ws us : List W}, RWs K g xs ws → RWs K g ys us → RWs K g (xs ++ ys) (ws ++ us)
  | _, _, _, _, .nil, h => h
  | _, _, _, _, .cons a t, h => .cons a (RWs.app t h)
theorem ml_star {e : Expr} {es : List Expr} {f : EF} {fs : LF} {p : Pos} (he : ME X xw e f) (ha : ML X xw es fs) (hs : starEach (.Starred e p :: es) X.env = (true, eval e X.env) :: starEach es X.env := by rfl) : ML X xw (.Starred e p :: es) (lStar f fs) := by
  refine PA.imp (StX.pa_star he ha hs) fun σ H Q h => ?_
  refine tG_mono (tG_bind (R2 := RW X.K) h) fun v H1 ⟨g, ρ, M, w, R, S, q, b⟩ => ?_
  have fin : ∀ (ds : List PyData) (a : Addr) (xs : List V), v = .ref a → (SqT X.K H1 a xs ∨ SqL X.K H1 a xs) → DqAll X.K g.F xs ds → Bhd (tx X) (fun c d H => xw c d σ H) (RWs X.K) Q ((fs ρ M).bind fun ws M2 => .ok (ds.map .d ++ ws) M2) g H1 →
      ∃ (a : Addr) (xs : List V), v = .ref a ∧ (SqT X.K H1 a xs ∨ SqL X.K H1 a xs) ∧ tG (tx X) xw (RWs X.K) fs σ H1 fun vs H2 => Q (xs ++ vs) H2 := by
    intro ds a xs hv hs hd b'
    refine ⟨a, xs, hv, hs, g, ρ, M, R, S, ?_⟩
    cases e : fs ρ M with
    | ok ws M2 =>
      rw [e] at b'
      exact fun vs g' H' R' E' q' => b' (xs ++ vs) g' H' R' E' (RWs.app (RWs.gr E'.gr (rws_map hd)) q')
    | err y M2 =>
      rw [e] at b'
      exact b'
    | stuck =>
      rw [e] at b'
      exact b'
  replace b : Bhd (tx X) (fun c d H => xw c d σ H) (RWs X.K) Q (match vw M w with | some (.list ds) => (fs ρ M).bind fun ws M2 => .ok (ds.map .d ++ ws) M2 | some (.tuple ds) => (fs ρ M).bind fun ws M2 => .ok (ds.map .d ++ ws) M2 | _ => .stuck) g H1 := b
  cases ew : vw M w with
  | none => rw [ew] at b; exact b.elim
  | some x =>
    rw [ew] at b
    have dv := vw_ok R q ew
    cases x with
    | list ds =>
      rcases dv with dq | ⟨a, xs, ds', e1, e2, e3, e4⟩
      · cases dq with
        | lst h1 h2 => exact fin ds _ _ rfl (.inr (.inl (.inl (R.sub _ _ h1)))) h2 b
      · cases e2
        exact fin ds a xs e1 (.inr (.inl (.inl e3))) e4 b
    | tuple ds =>
      rcases dv with dq | ⟨a, xs, ds', e1, e2, e3, e4⟩
      · cases dq with
        | tup h1 h2 => exact fin ds _ _ rfl (.inl (TqT.up R.sub h1)) h2 b
      · cases e2
    | _ => exact b.elim
theorem me_callF0 {x : Str} {mf : MF} {p pos : Pos} (C : Ctx X k xw) (c : Cal X.prog X.w X.K X.mg X.base k x [] mf) (hg : Gl X x := by rfl) (hdb : (x == ("__debug__" : Str)) = false := by decide) : ME X xw (.Call (.Name x p) [] [] pos) (sCallF mf 0 []) := by
  obtain ⟨f, fd, F, hm, hk, hb⟩ := c.ex
  refine ⟨fun pins s σ H Q I h => ?_⟩
  obtain ⟨g, ρ, M, R, S, b⟩ := callM_of h
  have b' := b [] g H R (Ext.refl _ _) .nil
  exact wpAny_Call_Name_kw (ld_glob I hg hm (PySem.W.callWith_K0 I.kIn hk (run_fnM C F hb I .nil b'.1 b'.2)) hdb)
end
end Y
namespace Y
open PySem PySem.Spec PyProof.Rows L2

/-! ### the store: something new, something rewritten -/
theorem Rel.push {K : PySem.W.Frag} {g : Gh} {M : List MO} {H : Hp} {p : Addr} {u : HO} {o : MO} (R : Rel K g M H) (hp : H p = none) (ho : MOk K ⟨g.ph ++ [p], g.F⟩ (L2.upd H p u) p o) :
    Rel K ⟨g.ph ++ [p], g.F⟩ (M ++ [o]) (L2.upd H p u) ∧ Ext g H ⟨g.ph ++ [p], g.F⟩ (L2.upd H p u) := by
  have hF : g.F p = none := R.sub.none hp
  have hn : p ∉ g.ph := fun z => by obtain ⟨u, q⟩ := R.tr p z; rw [hp] at q; cases q
  have gr : Gr g ⟨g.ph ++ [p], g.F⟩ := ⟨fun n a e => by
    show (g.ph ++ [p])[n]? = some a
    rw [List.getElem?_append_left (List.getElem?_eq_some_iff.mp e).1]; exact e, Sub.refl _⟩
  have up : ∀ a o, H a = some o → L2.upd H p u a = some o := fun a o e => by rw [upd_ne (ne_of_none e hp)]; exact e
  refine ⟨⟨fun a u e => up _ _ (R.sub _ _ e), by simp [R.len], fun n o e l => ?_, fun n m a e1 e2 => ?_, fun a hm => ?_, R.tab.go (Sub.refl _) (fun P ps e _ => up _ _ e) fun a hm => (List.mem_append.mp hm).imp id fun z => by rw [List.mem_singleton.mp z]; exact hp⟩, ⟨gr, fun a o e _ => .inl (up _ _ e), fun a h h' => absurd h h', fun a hm => ?_⟩⟩
  · by_cases hl : n < M.length
    · rw [List.getElem?_append_left hl] at e
      obtain ⟨a, e1, e2, e3⟩ := R.at_ n o e l
      exact ⟨a, gr.ph _ _ e1, e2, MOk.gr gr (up a) e3⟩
    · have hz : n = M.length := by
        have := (List.getElem?_eq_some_iff.mp e).1
        simp at this
        omega
      subst hz
      rw [List.getElem?_append_right (Nat.le_refl _), Nat.sub_self] at e
      cases e
      refine ⟨p, ?_, hF, ho⟩
      show (g.ph ++ [p])[M.length]? = some p
      rw [List.getElem?_append_right (by rw [R.len]; exact Nat.le_refl _), R.len, Nat.sub_self]
      rfl
  · have h1 : (g.ph ++ [p])[n]? = some a := e1
    have h2 : (g.ph ++ [p])[m]? = some a := e2
    by_cases hn1 : n < g.ph.length
    · rw [List.getElem?_append_left hn1] at h1
      by_cases hm1 : m < g.ph.length
      · rw [List.getElem?_append_left hm1] at h2
        exact R.inj n m a h1 h2
      · rw [List.getElem?_append_right (by omega)] at h2
        have : a = p := by
          have := List.mem_of_getElem? h2
          simpa using this
        exact absurd (this ▸ List.mem_of_getElem? h1) hn
    · rw [List.getElem?_append_right (by omega)] at h1
      have ha : a = p := by
        have := List.mem_of_getElem? h1
        simpa using this
      by_cases hm1 : m < g.ph.length
      · rw [List.getElem?_append_left hm1] at h2
        exact absurd (ha ▸ List.mem_of_getElem? h2) hn
      · have l1 := (List.getElem?_eq_some_iff.mp e1).1
        have l2 := (List.getElem?_eq_some_iff.mp e2).1
        simp at l1 l2
        omega
  · have hm' : a ∈ g.ph ∨ a = p := by simpa using hm
    rcases hm' with z | z
    · obtain ⟨u, q⟩ := R.tr a z
      exact ⟨u, up _ _ q⟩
    · subst z; exact ⟨_, upd_same⟩
  · have hm' : a ∈ g.ph ∨ a = p := by simpa using hm
    rcases hm' with z | z
    · exact .inl z
    · subst z; exact .inr hp
theorem Rel.setO {K : PySem.W.Frag} {g : Gh} {M : List MO} {H : Hp} {n : Nat} {p : Addr} {u : HO} {o : MO} (R : Rel K g M H) (hp : g.ph[n]? = some p) (hF : g.F p = none) (ho : MOk K g (L2.upd H p u) p o) :
    Rel K g (M.set n o) (L2.upd H p u) ∧ Ext g H g (L2.upd H p u) := by
  have hm : p ∈ g.ph := List.mem_of_getElem? hp
  have hl : n < M.length := by rw [← R.len]; exact (List.getElem?_eq_some_iff.mp hp).1
  refine ⟨⟨fun a u e => ?_, by rw [List.length_set]; exact R.len, fun m o e l => ?_, R.inj, fun a hm => ?_, R.tab.updP hm⟩, ⟨Gr.refl g, fun a o e hn => ?_, fun a h h' => absurd h h', fun a h => .inl h⟩⟩
  · rw [upd_ne (ne_of_none e hF)]; exact R.sub _ _ e
  · by_cases h : n = m
    · subst h
      rw [List.getElem?_set_self hl] at e
      cases e
      exact ⟨p, hp, hF, ho⟩
    · rw [List.getElem?_set_ne h] at e
      obtain ⟨a, e1, e2, e3⟩ := R.at_ m o e l
      refine ⟨a, e1, e2, MOk.gr (Gr.refl g) (fun o' q => ?_) e3⟩
      rw [upd_ne]
      · exact q
      · intro z
        subst z
        exact h (R.inj _ _ _ hp e1)
  · by_cases h : a = p
    · subst h; exact ⟨_, upd_same⟩
    · rw [upd_ne h]; exact R.tr a hm
  · exact .inl (by rw [upd_ne (fun z => hn (by rw [z]; exact hm))]; exact e)

/-! ### own classes -/
/-- what the top says of a class: its plain attributes -/
structure ClT (K : PySem.W.Frag) (mg : Str → Option Value) (c : Str) (as : List Str) : Prop where
  ex : ∃ C, PySem.W.nsIn K mainGlobals c = some (some (.ref C)) ∧ mg c = some (.ref C) ∧ Cls K C ∧ ∀ f ∈ as, NoAttr K C f
theorem lookup_rw {K : PySem.W.Frag} {g : Gh} {f : Str} {w : W} : ∀ {vs : List (Str × V)} {fs : List (Str × W)}, vs.map (·.1) = fs.map (·.1) → RWs K g (vs.map (·.2)) (fs.map (·.2)) → fs.lookup f = some w → ∃ v, vs.lookup f = some v ∧ RW K g v w
  | [], [], _, _, e => by cases e
  | [], _ :: _, h, _, _ => by cases h
  | _ :: _, [], h, _, _ => by cases h
  | (a, v) :: vs, (b, u) :: fs, h, r, e => by
    rw [List.map_cons, List.map_cons, List.cons.injEq] at h
    obtain ⟨h1, h2⟩ := h
    have h1' : a = b := h1
    subst h1'
    rw [List.lookup_cons] at e ⊢
    cases r with
    | cons r1 r2 =>
      cases q : (f == a) with
      | true => rw [q] at e; cases e; exact ⟨v, rfl, r1⟩
      | false => rw [q] at e; exact lookup_rw h2 r2 e
theorem lookup_nn {f : Str} {α β : Type} : ∀ {vs : List (Str × α)} {fs : List (Str × β)}, vs.map (·.1) = fs.map (·.1) → fs.lookup f = none → vs.lookup f = none
  | [], [], _, _ => rfl
  | [], _ :: _, h, _ => by cases h
  | _ :: _, [], h, _ => by cases h
  | (a, v) :: vs, (b, u) :: fs, h, e => by
    rw [List.map_cons, List.map_cons, List.cons.injEq] at h
    obtain ⟨h1, h2⟩ := h
    have h1' : a = b := h1
    subst h1'
    rw [List.lookup_cons] at e ⊢
    cases q : (f == a) with
    | true => rw [q] at e; cases e
    | false => rw [q] at e; exact lookup_nn h2 e
def sFld (c f : Str) (fe : EF) : EF := fun ρ M => (fe ρ M).bind fun w M1 => match w with
  | .loc n => match M1[n]? with
    | some (.obj c' fs) => if c' = c then match fs.lookup f with
      | some w => .ok w M1
      | none => .stuck
      else .stuck
    | _ => .stuck
  | _ => .stuck
section
variable {X : Cx} {xw : WX} {e o : Expr} {fe fo fv : EF} {pos p1 : Pos} {k : Nat} {c f : Str} {as : List Str}
theorem me_fld (T : ClT X.K X.mg c as) (he : ME X xw e fe) (hf : f ∈ as := by decide) (hb : attributeBase e f X.env (eval e X.env) = eval e X.env := by rfl) : ME X xw (.Attribute e f pos) (sFld c f fe) := by
  obtain ⟨C, h1, h2, h3, h4⟩ := T.ex
  refine PE.imp (pe_fld he hb) fun σ H Q h => tG_mono (tG_bind (R2 := RW X.K) h) fun v H1 ⟨g, ρ, M, w, R, S, q, b⟩ => ?_
  cases w with
  | loc n =>
    cases q with
    | loc q =>
      rename_i a
      cases em : M[n]? with
      | none => simp only [em] at b; exact b.elim
      | some z =>
        simp only [em] at b
        cases z with
        | obj c' fs =>
          simp only at b
          split at b
          · rename_i hc
            subst hc
            cases el : fs.lookup f with
            | none => rw [el] at b; exact b.elim
            | some w =>
              rw [el] at b
              obtain ⟨a', e1, e2, vs, ⟨C', dx, e3, e4⟩, e5, e6⟩ := R.at_ n _ em rfl
              rw [q] at e1
              cases e1
              rw [h1] at e3
              cases e3
              obtain ⟨u, l1, l2⟩ := lookup_rw e5 e6 el
              exact ⟨_, C, dx, vs, u, rfl, e4, h3, h4 f hf, l1, b u g H1 R (Ext.refl _ _) l2⟩
          · exact b.elim
        | _ => exact b.elim
  | _ => exact b.elim
/-! o.f = e -/
def putW (f : Str) (w : W) : List (Str × W) → List (Str × W)
  | [] => [(f, w)]
  | (k, x) :: r => if k = f then (k, w) :: r else (k, x) :: putW f w r
end
/-! C(..) -/
structure CalC (P : Program) (w : World) (K : PySem.W.Frag) (mg : Str → Option Value) (base : Heap) (k : Nat) (c : Str) (ps : List Str) (mf : MF) : Prop where
  ex : ∃ (C f : Addr) (fd : FuncData), PySem.W.nsIn K mainGlobals c = some (some (.ref C)) ∧ mg c = some (.ref C) ∧ Mk K C f ∧ FnM P w K mg base k f fd ps mf ∧ Binds K fd ps []
theorem CalC.mono {P : Program} {w : World} {K : PySem.W.Frag} {mg : Str → Option Value} {base : Heap} {j k : Nat} {x : Str} {ps : List Str} {mf : MF} (c : CalC P w K mg base j x ps mf) (h : j ≤ k) : CalC P w K mg base k x ps mf :=
  let ⟨C, f, fd, h1, h2, h3, F, r⟩ := c.ex
  ⟨C, f, fd, h1, h2, h3, ⟨fun A outer s H args us vs Q E hr => F.run A outer s H args us vs Q E (hr.mono h)⟩, r⟩
theorem run_makeM {X : Cx} {k : Nat} {xw : WX} {D f : Addr} {fd : FuncData} {ps : List Str} {mf : MF} (C : Ctx X (k + 1) xw) (M : Mk X.K D f) (F : FnM X.prog X.w X.K X.mg X.base k f fd ps mf) (hb : Binds X.K fd ps [])
    {pins : List (Addr × Obj)} {σ : L2.St} {H : Hp} {s : Shared} {Q : VK} {us : List Value} {vs : List V} (I : Inv X pins σ H s) (r : Vals vs us) (hl : vs.length + 1 = ps.length)
    (h : ∀ x dx, H x = none → H dx = none → dx ≠ x → spM (tx X) mf (.ref x :: vs) (L2.upd (L2.upd H dx (.own x)) x (.ins D dx [])) (fun v H2 => v = .non ∧ Q (.ref x) H2) (WE xw σ)) :
    wpAny (model X.prog X.w) X.A (call (.ref D) us) (EP X pins σ Q) X.xe s := by
  have hq := h (s.heap.objs.size + 1) s.heap.objs.size (I.hok.fresh (Nat.le_succ _)) (I.hok.fresh (Nat.le_refl _)) (Nat.ne_of_lt (Nat.lt_succ_self _))
  have I2 := Inv.made (C := D) I
  have r2 : Vals (V.ref (s.heap.objs.size + 1) :: vs) (Value.ref (s.heap.objs.size + 1) :: us) := .cons rfl r
  have l2 : (V.ref (s.heap.objs.size + 1) :: vs).length = ps.length := hl
  have hl' : (Value.ref (s.heap.objs.size + 1) :: us).length = ps.length := by rw [← r2.length]; exact l2
  have b := hb { heap := (s.heap.push PySem.W.emptyDict).push (PySem.W.instObj D s.heap.objs.size), gens := s.gens, drawn := s.drawn, toks := s.toks, os := s.os } (Value.ref (s.heap.objs.size + 1) :: us) I2.kIn (by rw [List.append_nil]; exact hl')
  rw [List.append_nil] at b
  have gd : (X.A.under (.builtin "type.__call__" { pos := Value.ref D :: us })).guards = some [] := by
    simp only [Around.under]
    rw [C.gd]
    rfl
  refine wpAny_call (make_map I.kIn M.makes M.init (beq_iff_eq.mp M.fn) (codeAny_mono (F.run _ X.stack _ _ _ _ _ _ (WE xw σ) (Room.make C.room D us []) gd (Env0.make I2.env0 D us []) b r2 l2 hq) fun r s' hq' => ?_))
  cases r with
  | error e => exact passAt C.takes σ pins _ _ e s' I2 hq'
  | ok fl =>
    cases fl with
    | ret u =>
      obtain ⟨v, H', I3, rv, ev, q3⟩ := I2.after hq'
      subst ev
      exact ⟨rv, .ref _, H', I3, rfl, q3⟩
    | next => exact False.elim hq'
    | brk => exact False.elim hq'
    | cont => exact False.elim hq'
def sMake (c : Str) (mf : MF) (n : Nat) (fs : List EF) : EF := fun ρ M => (evs fs ρ M).bind fun ws M1 => if ws.length + 1 = n then match mf (.loc M1.length :: ws) (M1 ++ [.obj c []]) with
    | .ok (.d .none) M2 => .ok (.loc M1.length) M2
    | .err e M2 => .err e M2
    | _ => .stuck
  else .stuck
section
variable {X : Cx} {xw : WX} {e o : Expr} {es : List Expr} {fs : List EF} {fe fo fv : EF} {pos p p1 apos : Pos} {k : Nat} {c m f : Str} {as ps : List Str} {mf : MF}
/-- the new instance is laid -/
theorem made_ok {K : PySem.W.Frag} {g : Gh} {M : List MO} {H : Hp} {D x dx : Addr} (hD : PySem.W.nsIn K mainGlobals c = some (some (.ref D))) (R : Rel K g M H) (hx : H x = none) (hdx : H dx = none) (ne : dx ≠ x) :
    ∃ g', Rel K g' (M ++ [.obj c []]) (L2.upd (L2.upd H dx (.own x)) x (.ins D dx [])) ∧ Ext g H g' (L2.upd (L2.upd H dx (.own x)) x (.ins D dx [])) ∧ g'.ph[M.length]? = some x := by
  have R1 := R.lay (o := .own x) hdx
  have E1 : Ext g H ⟨g.ph, L2.upd g.F dx (.own x)⟩ (L2.upd H dx (.own x)) := Ext.lay R.sub hdx
  have hx1 : L2.upd H dx (.own x) x = none := by rw [upd_ne (Ne.symm ne)]; exact hx
  obtain ⟨R2, E2⟩ := R1.push (u := .ins D dx []) (o := .obj c []) hx1 ⟨[], ⟨D, dx, hD, upd_same⟩, rfl, .nil⟩
  refine ⟨_, R2, E1.trans E2, ?_⟩
  show (g.ph ++ [x])[M.length]? = some x
  rw [List.getElem?_append_right (by rw [R.len]; exact Nat.le_refl _), R.len, Nat.sub_self]
  rfl
theorem make_back {σ : L2.St} {H1 : Hp} {Q : VK} {g : Gh} {ρ : Rho} {M : List MO} {vs : List V} {ws : List W} {D x dx : Addr} (hD : PySem.W.nsIn X.K mainGlobals c = some (some (.ref D))) (R : Rel X.K g M H1) (q : RWs X.K g vs ws)
    (b : Bhd (tx X) (fun c d H => xw c d σ H) (RW X.K) Q (match mf (.loc M.length :: ws) (M ++ [.obj c []]) with
      | .ok (.d .none) M2 => .ok (.loc M.length) M2
      | .err e M2 => .err e M2
      | _ => .stuck) g H1) (hx : H1 x = none) (hdx : H1 dx = none) (ne : dx ≠ x) :
    spM (tx X) mf (.ref x :: vs) (L2.upd (L2.upd H1 dx (.own x)) x (.ins D dx [])) (fun v H2 => v = .non ∧ Q (.ref x) H2) (WE xw σ) := by
  obtain ⟨g', R', E', hp⟩ := made_ok hD R hx hdx ne
  have q' : RWs X.K g' vs ws := RWs.gr E'.gr q
  refine ⟨g', .loc M.length :: ws, M ++ [.obj c []], R', .cons (.loc hp) q', ?_⟩
  cases r : mf (.loc M.length :: ws) (M ++ [.obj c []]) with
  | stuck => rw [r] at b; exact b.elim
  | err y M2 => rw [r] at b; exact fun cls d g2 H2 R2 E2 ix => b cls d g2 H2 R2 (E'.trans E2) ix
  | ok w M2 =>
    rw [r] at b
    intro v g2 H2 R2 E2 rv
    cases w with
    | d y =>
      cases y with
      | none =>
        cases rv with
        | d rv =>
          cases rv
          exact ⟨rfl, b (.ref x) g2 H2 R2 (E'.trans E2) (.loc (E2.gr.ph _ _ hp))⟩
      | _ => exact b.elim
    | _ => exact b.elim
theorem me_make (C : Ctx X (k + 1) xw) (T : CalC X.prog X.w X.K X.mg X.base k c ps mf) (ha : MA X xw (e :: es) fs) (hg : Gl X c := by rfl) (hdb : (c == ("__debug__" : Str)) = false := by decide)
    (he : starEach (e :: es) X.env = (false, eval e X.env) :: starEach es X.env := by rfl) (hpl : (backTo pos (starEach es X.env)).any (·.1) = false := by rfl) : ME X xw (.Call (.Name c p) (e :: es) [] pos) (sMake c mf ps.length fs) := by
  obtain ⟨D, f, fd, hD, hm, M, F, hb⟩ := T.ex
  refine ⟨fun pins s σ H Q I h => wpAny_Call_Name_kw (ld_glob I hg hm (PySem.W.callWith_K (h₀ := X.base) I.ok.mod.kin M.kp (thn (ha.run pos pins s σ H (fun vs H1 => vs.length + 1 = ps.length ∧ ∀ x dx, H1 x = none → H1 dx = none → dx ≠ x → spM (tx X) mf (.ref x :: vs) (L2.upd (L2.upd H1 dx (.own x)) x (.ins D dx [])) (fun v H2 => v = .non ∧ Q (.ref x) H2) (WE xw σ)) I ?_) fun us s1 ⟨vs, H1, I1, r, q⟩ => ⟨I1.kIn, run_makeM C M F hb I1 r q.1 q.2⟩) he hpl) hdb)⟩
  refine tG_mono (tG_bind (R2 := RWs X.K) h) fun vs H1 ⟨g, ρ, M1, ws, R, S, q, b⟩ => ?_
  by_cases hl : ws.length + 1 = ps.length
  · rw [if_pos hl] at b
    exact ⟨by rw [q.length]; exact hl, fun x dx hx hdx ne => make_back (ρ := ρ) hD R q b hx hdx ne⟩
  · rw [if_neg hl] at b; exact b.elim
theorem me_make0 (C : Ctx X (k + 1) xw) (T : CalC X.prog X.w X.K X.mg X.base k c ps mf) (hg : Gl X c := by rfl) (hdb : (c == ("__debug__" : Str)) = false := by decide) : ME X xw (.Call (.Name c p) [] [] pos) (sMake c mf ps.length []) := by
  obtain ⟨D, f, fd, hD, hm, M, F, hb⟩ := T.ex
  refine ⟨fun pins s σ H Q I h => ?_⟩
  obtain ⟨g, ρ, M1, R, S, b⟩ := h
  by_cases hl : ([] : List W).length + 1 = ps.length
  · have b' : Bhd (tx X) (fun c d H => xw c d σ H) (RW X.K) Q (if ([] : List W).length + 1 = ps.length then match mf (.loc M1.length :: []) (M1 ++ [.obj c []]) with
      | .ok (.d .none) M2 => .ok (.loc M1.length) M2
      | .err e M2 => .err e M2
      | _ => .stuck else .stuck) g H := b
    rw [if_pos hl] at b'
    exact wpAny_Call_Name_kw (ld_glob I hg hm (PySem.W.callWith_K0 I.kIn M.kp (run_makeM C M F hb I .nil hl fun x dx hx hdx ne => make_back (ρ := ρ) hD R .nil b' hx hdx ne)) hdb)
  · have b' : Bhd (tx X) (fun c d H => xw c d σ H) (RW X.K) Q (if ([] : List W).length + 1 = ps.length then match mf (.loc M1.length :: []) (M1 ++ [.obj c []]) with
      | .ok (.d .none) M2 => .ok (.loc M1.length) M2
      | .err e M2 => .err e M2
      | _ => .stuck else .stuck) g H := b
    rw [if_neg hl] at b'
    exact b'.elim
end
/-! o.f = e -/
theorem putF_rw {K : PySem.W.Frag} {g : Gh} {f : Str} {v : V} {w : W} (h : RW K g v w) : ∀ {vs : List (Str × V)} {fs : List (Str × W)}, vs.map (·.1) = fs.map (·.1) → RWs K g (vs.map (·.2)) (fs.map (·.2)) →
    (putF f v vs).map (·.1) = (putW f w fs).map (·.1) ∧ RWs K g ((putF f v vs).map (·.2)) ((putW f w fs).map (·.2))
  | [], [], _, _ => ⟨rfl, .cons h .nil⟩
  | [], _ :: _, h, _ => by cases h
  | _ :: _, [], h, _ => by cases h
  | (a, v') :: vs, (b, u) :: fs, e, r => by
    rw [List.map_cons, List.map_cons, List.cons.injEq] at e
    obtain ⟨h1, h2⟩ := e
    have h1' : a = b := h1
    subst h1'
    cases r with
    | cons r1 r2 =>
      rw [putF.eq_2, putW]
      by_cases q : a = f
      · rw [if_pos q, if_pos q]
        exact ⟨by rw [List.map_cons, List.map_cons, h2], .cons h r2⟩
      · rw [if_neg q, if_neg q]
        obtain ⟨i1, i2⟩ := putF_rw h h2 r2
        exact ⟨by rw [List.map_cons, List.map_cons, i1], .cons r1 i2⟩
def sFldSet (c f : Str) (fo fv : EF) : SF := sThen fv fun ρ w M1 => match fo ρ M1 with
  | .ok (.loc n) M2 => match M2[n]? with
    | some (.obj c' fs) => if c' = c ∧ fs.length < 1000 then .nx ρ (M2.set n (.obj c (putW f w fs))) else .stuck
    | _ => .stuck
  | _ => .stuck
section
variable {X : Cx} {xw : WX} {e o : Expr} {es : List Expr} {fs : List EF} {fe fo fv : EF} {pos p p1 apos : Pos} {k : Nat} {c m f : Str} {as ps : List Str} {mf : MF}
theorem ms_fldSet (T : ClT X.K X.mg c as) (ho : ME X xw o fo) (he : ME X xw e fv) (hf : f ∈ as := by decide) (hs : swapsWith e (some (.Attribute o f p1)) pos.line X.env = pure false := by rfl) : MS X xw (.Assign [.Attribute o f p1] e pos) (sFldSet c f fo fv) := by
  obtain ⟨C, h1, h2, h3, h4⟩ := T.ex
  refine PS.imp (ps_fld ho he hs) fun D σ H q => tG_mono (tS_then q) fun v H1 ⟨g, ρ, M, w, R, S, r, b⟩ => ?_
  refine ⟨g, ρ, M, R, S, ?_⟩
  cases eo : fo ρ M with
  | stuck => rw [eo] at b; exact b.elim
  | err y M2 => rw [eo] at b; exact b.elim
  | ok u M2 =>
    rw [eo] at b
    intro v2 g2 H2 R2 E2 r2
    cases u with
    | loc n =>
      cases r2 with
      | loc r2 =>
        rename_i a
        cases em : M2[n]? with
        | none => simp only [em] at b; exact b.elim
        | some z =>
          simp only [em] at b
          cases z with
          | obj c' fs =>
            simp only at b
            split at b
            · rename_i hc
              obtain ⟨hc, hl⟩ := hc
              subst hc
              obtain ⟨a', e1, e2, vs, ⟨C', dx, e3, e4⟩, e5, e6⟩ := R2.at_ n _ em rfl
              rw [r2] at e1
              cases e1
              rw [h1] at e3
              cases e3
              obtain ⟨i1, i2⟩ := putF_rw (f := f) (RW.gr E2.gr r) e5 e6
              obtain ⟨R3, E3⟩ := R2.setO (u := .ins C dx (putF f v vs)) (o := .obj c' (putW f w fs)) r2 e2 ⟨_, ⟨C, dx, h1, upd_same⟩, i1, i2⟩
              have hl' : vs.length < 1000 := by have := congrArg List.length e5; simp at this; omega
              exact ⟨_, C, dx, vs, rfl, e4, h3, h4 f hf, hl', b σ g2 _ R3 (E2.trans E3) (S.gr (E2.trans E3).gr)⟩
            · exact b.elim
          | _ => exact b.elim
    | _ => exact b.elim
end
/-! o.m(..) -/
structure CalM (P : Program) (w : World) (K : PySem.W.Frag) (mg : Str → Option Value) (base : Heap) (k : Nat) (c m : Str) (ps : List Str) (mf : MF) : Prop where
  ex : ∃ (C f : Addr) (fd : FuncData), PySem.W.nsIn K mainGlobals c = some (some (.ref C)) ∧ Cls K C ∧ Meth K C m f ∧ FnM P w K mg base k f fd ps mf ∧ Binds K fd ps []
theorem CalM.mono {P : Program} {w : World} {K : PySem.W.Frag} {mg : Str → Option Value} {base : Heap} {j k : Nat} {x m : Str} {ps : List Str} {mf : MF} (c : CalM P w K mg base j x m ps mf) (h : j ≤ k) : CalM P w K mg base k x m ps mf :=
  let ⟨C, f, fd, h1, h2, h3, F, r⟩ := c.ex
  ⟨C, f, fd, h1, h2, h3, ⟨fun A outer s H args us vs Q E hr => F.run A outer s H args us vs Q E (hr.mono h)⟩, r⟩
def isObj (c m : Str) (M : List MO) (j : Nat) : Bool := match M[j]? with
  | some (.obj c' fs) => decide (c' = c) && (fs.lookup m).isNone
  | _ => false
def sMethW (c m : Str) (mf : MF) (n : Nat) (fo : EF) (fs : List EF) : EF := fun ρ M => (fo ρ M).bind fun w M1 => match w with
  | .loc j => if isObj c m M1 j = true then (evs fs ρ M1).bind fun ws M2 => if ws.length + 1 = n then mf (.loc j :: ws) M2 else .stuck else .stuck
  | _ => .stuck
section
variable {X : Cx} {xw : WX} {e o : Expr} {es : List Expr} {fs : List EF} {fe fo fv : EF} {pos p p1 apos : Pos} {k : Nat} {c m f : Str} {as ps : List Str} {mf : MF} {pl : Sem Bool}
theorem isObj_ok {K : PySem.W.Frag} {g : Gh} {M : List MO} {H : Hp} {j : Nat} {a D : Addr} (hD : PySem.W.nsIn K mainGlobals c = some (some (.ref D))) (R : Rel K g M H) (hj : g.ph[j]? = some a) (h : isObj c m M j = true) : ∃ dx fs, H a = some (.ins D dx fs) ∧ fs.lookup m = none := by
  unfold isObj at h
  split at h
  · rename_i c' fs q
    rw [Bool.and_eq_true, decide_eq_true_eq, Option.isNone_iff_eq_none] at h
    obtain ⟨rfl, h2⟩ := h
    obtain ⟨a', e1, e2, vs, ⟨C', dx, e3, e4⟩, e5, e6⟩ := R.at_ j _ q rfl
    rw [hj] at e1
    cases e1
    rw [hD] at e3
    cases e3
    exact ⟨dx, vs, e4, lookup_nn e5 h2⟩
  · cases h
theorem meth_of {mf : MF} {n : Nat} {D : Addr} (hD : PySem.W.nsIn X.K mainGlobals c = some (some (.ref D))) {σ : L2.St} {H : Hp} {Q : VK} (h : tE (tx X) xw (sMethW c m mf n fo fs) σ H Q) :
    tE (tx X) xw fo σ H fun x H1 => ∃ a dx us, x = .ref a ∧ H1 a = some (.ins D dx us) ∧ us.lookup m = none ∧ tA (tx X) xw fs σ H1 fun vs H2 => (x :: vs).length = n ∧ spM (tx X) mf (x :: vs) H2 Q (WE xw σ) := by
  refine tG_mono (tG_bind (R2 := RW X.K) h) fun v H1 ⟨g, ρ, M, w, R, S, q, b⟩ => ?_
  cases w with
  | loc j =>
    cases q with
    | loc q =>
      rename_i a
      simp only at b
      split at b
      · rename_i ho
        obtain ⟨dx, us, i1, i2⟩ := isObj_ok hD R q ho
        refine ⟨_, dx, us, rfl, i1, i2, g, ρ, M, R, S, ?_⟩
        cases ea : evs fs ρ M with
        | stuck => rw [ea] at b; exact b
        | err y M2 => rw [ea] at b; exact b
        | ok ws M2 =>
          rw [ea] at b
          intro vs g2 H2 R2 E2 r2
          have b' : Bhd (tx X) (fun c d H => xw c d σ H) (RW X.K) Q (if ws.length + 1 = n then mf (.loc j :: ws) M2 else .stuck) g H1 := b
          split at b'
          · rename_i hl
            refine ⟨by rw [List.length_cons, r2.length]; exact hl, g2, .loc j :: ws, M2, R2, .cons (.loc (E2.gr.ph _ _ q)) r2, Bhd.later b' E2⟩
          · exact b'.elim
      · exact b.elim
  | _ => exact b.elim
theorem me_meth1 (C : Ctx X k xw) (T : CalM X.prog X.w X.K X.mg X.base k c m ps mf) (ho : ME X xw o fo) (ha : MA X xw (e :: es) fs)
    (hst : starEach (e :: es) X.env = (false, eval e X.env) :: starEach es X.env := by rfl) (hpl : (backTo pos (starEach es X.env)).any (·.1) = false := by rfl)
    (ht : eval (.Call (.Attribute o m apos) (e :: es) [] pos) X.env = (do
      let ov ← eval o X.env
      standAt apos.atName
      let (f, first) ← holding [ov] (getMethod ov m pl)
      callWith pos f first (backTo pos (starEach (e :: es) X.env)) (backToKw pos (keywordEach [] X.env))) := by rfl) : ME X xw (.Call (.Attribute o m apos) (e :: es) [] pos) (sMethW c m mf ps.length fo fs) := by
  obtain ⟨D, f, fd, hD, hc, hm, F, hb⟩ := T.ex
  refine ⟨fun pins s σ H Q I h => PySem.W.methodCall_KW (thn (ho.run pins s σ H _ I (meth_of hD h)) fun u s1 ⟨x, H1, I1, rx, a, dx, us, ex, ea, l, q⟩ => ?_) ht⟩
  subst ex
  cases rx
  exact getmeth_ok I1 ea hc hm l (PySem.W.callWith_K (h₀ := X.base) I.ok.mod.kin hm.kp (thn (ha.run pos pins s1 σ H1 _ I1 q) fun us s2 ⟨vs, H2, I2, r, q2⟩ => ⟨I2.kIn, run_fnM C F hb I2 (show Vals (V.ref a :: vs) (Value.ref a :: us) from .cons rfl r) q2.1 q2.2⟩) hst hpl)
theorem me_meth0' (C : Ctx X k xw) (T : CalM X.prog X.w X.K X.mg X.base k c m ps mf) (ho : ME X xw o fo)
    (ht : eval (.Call (.Attribute o m apos) [] [] pos) X.env = (do
      let ov ← eval o X.env
      standAt apos.atName
      let (f, first) ← holding [ov] (getMethod ov m pl)
      callWith pos f first (backTo pos (starEach [] X.env)) (backToKw pos (keywordEach [] X.env))) := by rfl) : ME X xw (.Call (.Attribute o m apos) [] [] pos) (sMethW c m mf ps.length fo []) := by
  obtain ⟨D, f, fd, hD, hc, hm, F, hb⟩ := T.ex
  refine ⟨fun pins s σ H Q I h => PySem.W.methodCall_KW (thn (ho.run pins s σ H _ I (meth_of hD h)) fun u s1 ⟨x, H1, I1, rx, a, dx, us, ex, ea, l, q⟩ => ?_) ht⟩
  subst ex
  cases rx
  obtain ⟨g, ρ, M1, R, S, b⟩ := q
  obtain ⟨l1, l2⟩ := b [] g H1 R (Ext.refl _ _) .nil
  exact getmeth_ok I1 ea hc hm l (PySem.W.callWith_K0 I1.kIn hm.kp (run_fnM C F hb I1 (show Vals [V.ref a] [Value.ref a] from .cons rfl .nil) l1 l2))
end
/-- what the top says of a method, of a class that is made -/
structure Txt1M (K : PySem.W.Frag) (c m qual : Str) (st : Stmt) (ps : List Str) : Prop where
  ex : ∃ (C f : Addr) (fd : FuncData), PySem.W.nsIn K mainGlobals c = some (some (.ref C)) ∧ Cls K C ∧ Meth K C m f ∧ Fun K m qual st f fd ∧ Binds K fd ps []
theorem calM_of {P : Program} {w : World} {K : PySem.W.Frag} {mg : Str → Option Value} {base : Heap} {c m qual : Str} {st : Stmt} {N ps : List Str} {k : Nat} {sf : SF} (t : Txt1M K c m qual st ps) (S : FnScope N ps (defScope st))
    (hbody : ∀ (f : Addr) (cdv : Value) (A : Around) (outer : List Env) (s : Shared) (H : Hp) (E : L2.XK), Ctx (cxOf (L2.CX P w) P w K mg base N qual (defScope st) f cdv A outer s H E) k (fun c d _ H => E c d H) →
      MSs (cxOf (L2.CX P w) P w K mg base N qual (defScope st) f cdv A outer s H E) (fun c d _ H => E c d H) (defBody st) sf) : CalM P w K mg base (k + 1) c m ps (defF N.length sf) :=
  let ⟨C, f, fd, h1, h2, h3, F, b⟩ := t.ex
  ⟨C, f, fd, h1, h2, h3, fnM_of F S (hbody f), b⟩
structure Txt1C (K : PySem.W.Frag) (mg : Str → Option Value) (c qual : Str) (st : Stmt) (ps : List Str) : Prop where
  ex : ∃ (C f : Addr) (fd : FuncData), PySem.W.nsIn K mainGlobals c = some (some (.ref C)) ∧ mg c = some (.ref C) ∧ Mk K C f ∧ Fun K "__init__" qual st f fd ∧ Binds K fd ps []
theorem calC_of {P : Program} {w : World} {K : PySem.W.Frag} {mg : Str → Option Value} {base : Heap} {c qual : Str} {st : Stmt} {N ps : List Str} {k : Nat} {sf : SF} (t : Txt1C K mg c qual st ps) (S : FnScope N ps (defScope st))
    (hbody : ∀ (f : Addr) (cdv : Value) (A : Around) (outer : List Env) (s : Shared) (H : Hp) (E : L2.XK), Ctx (cxOf (L2.CX P w) P w K mg base N qual (defScope st) f cdv A outer s H E) k (fun c d _ H => E c d H) →
      MSs (cxOf (L2.CX P w) P w K mg base N qual (defScope st) f cdv A outer s H E) (fun c d _ H => E c d H) (defBody st) sf) : CalC P w K mg base (k + 1) c ps (defF N.length sf) :=
  let ⟨C, f, fd, h1, h2, h3, F, b⟩ := t.ex
  ⟨C, f, fd, h1, h2, h3, fnM_of F S (hbody f), b⟩
end Y
namespace Y
open PySem PySem.Spec PyProof.Rows L2

/-! ### dicts that grow -/
def keyK : PyData → Option L2.Key
  | .int i => some (.inl i)
  | .str x => some (.inr x)
  | _ => none
def keysK : List PyData → Option (List L2.Key)
  | [] => some []
  | d :: ds => match keyK d with
    | some k => match keysK ds with
      | some ks => some (k :: ks)
      | none => none
    | none => none
def valD {κ : Type} [DecidableEq κ] (kvs : List (κ × PyData)) (k : κ) : Option PyData := (kvs.find? fun kv => decide (kv.1 = k)).map (·.2)
def putD {κ : Type} [DecidableEq κ] (kvs : List (κ × PyData)) (k : κ) (d : PyData) : List (κ × PyData) := if (kvs.any fun kv => decide (kv.1 = k)) = true then kvs.map (fun kv => if kv.1 = k then (kv.1, d) else kv) else kvs ++ [(k, d)]
theorem keyK_ok {K : PySem.W.Frag} {F : Hp} {v : V} {x : PyData} {k : L2.Key} (h : Dq K F v x) (e : keyK x = some k) : v = kV k := by
  cases h with
  | int i => cases e; rfl
  | str i => cases e; rfl
  | _ => cases e
theorem keysK_ok {K : PySem.W.Frag} {F : Hp} : ∀ {vs : List V} {xs : List PyData} {ks : List L2.Key}, DqAll K F vs xs → keysK xs = some ks → vs = ks.map kV
  | _, _, _, .nil, e => by cases e; rfl
  | _, _, _, .cons h t, e => by
    unfold keysK at e
    split at e
    · rename_i q
      split at e
      · rename_i q2
        cases e
        rw [List.map_cons, keyK_ok h q, keysK_ok t q2]
      · cases e
    · cases e
section
variable {κ : Type} [DecidableEq κ] {K : PySem.W.Frag} {F : Hp}
theorem val_some {k : κ} {d : PyData} : ∀ {vs : List (κ × V)} {kvs : List (κ × PyData)}, vs.map (·.1) = kvs.map (·.1) → DqAll K F (vs.map (·.2)) (kvs.map (·.2)) → valD kvs k = some d → ∃ v, valV vs k = some v ∧ Dq K F v d
  | [], [], _, _, e => by cases e
  | [], _ :: _, h, _, _ => by cases h
  | _ :: _, [], h, _, _ => by cases h
  | (a, v) :: vs, (b, u) :: fs, h, r, e => by
    rw [List.map_cons, List.map_cons, List.cons.injEq] at h
    obtain ⟨h1, h2⟩ := h
    have h1' : a = b := h1
    subst h1'
    cases r with
    | cons r1 r2 =>
      unfold valD at e
      unfold valV
      rw [List.find?_cons] at e ⊢
      by_cases q : a = k
      · simp only [q, decide_true, Option.map_some] at e ⊢
        cases e
        exact ⟨v, rfl, r1⟩
      · simp only [q, decide_false] at e ⊢
        exact val_some h2 r2 e
theorem val_none {k : κ} : ∀ {vs : List (κ × V)} {kvs : List (κ × PyData)}, vs.map (·.1) = kvs.map (·.1) → valD kvs k = none → valV vs k = none
  | [], [], _, _ => rfl
  | [], _ :: _, h, _ => by cases h
  | _ :: _, [], h, _ => by cases h
  | (a, v) :: vs, (b, u) :: fs, h, e => by
    rw [List.map_cons, List.map_cons, List.cons.injEq] at h
    obtain ⟨h1, h2⟩ := h
    have h1' : a = b := h1
    subst h1'
    unfold valD at e
    unfold valV
    rw [List.find?_cons] at e ⊢
    by_cases q : a = k
    · simp only [q, decide_true, Option.map_some] at e
      cases e
    · simp only [q, decide_false] at e ⊢
      exact val_none h2 e
theorem val_rel {k : κ} {vs : List (κ × V)} {kvs : List (κ × PyData)} (h : vs.map (·.1) = kvs.map (·.1)) (r : DqAll K F (vs.map (·.2)) (kvs.map (·.2))) : (valV vs k).isSome = (valD kvs k).isSome := by
  cases e : valD kvs k with
  | none => rw [val_none h e]; rfl
  | some d => obtain ⟨v, e2, _⟩ := val_some h r e; rw [e2]; rfl
theorem any_rel {k : κ} : ∀ {vs : List (κ × V)} {kvs : List (κ × PyData)}, vs.map (·.1) = kvs.map (·.1) → (vs.any fun kv => decide (kv.1 = k)) = (kvs.any fun kv => decide (kv.1 = k))
  | [], [], _ => rfl
  | [], _ :: _, h => by cases h
  | _ :: _, [], h => by cases h
  | (a, v) :: vs, (b, u) :: fs, h => by
    rw [List.map_cons, List.map_cons, List.cons.injEq] at h
    obtain ⟨h1, h2⟩ := h
    have h1' : a = b := h1
    subst h1'
    rw [List.any_cons, List.any_cons, any_rel h2]
theorem put_map {k : κ} {v : V} {d : PyData} (q : Dq K F v d) : ∀ {vs : List (κ × V)} {kvs : List (κ × PyData)}, vs.map (·.1) = kvs.map (·.1) → DqAll K F (vs.map (·.2)) (kvs.map (·.2)) →
    (vs.map fun kv => if kv.1 = k then (kv.1, v) else kv).map (·.1) = (kvs.map fun kv => if kv.1 = k then (kv.1, d) else kv).map (·.1) ∧ DqAll K F ((vs.map fun kv => if kv.1 = k then (kv.1, v) else kv).map (·.2)) ((kvs.map fun kv => if kv.1 = k then (kv.1, d) else kv).map (·.2))
  | [], [], _, _ => ⟨rfl, .nil⟩
  | [], _ :: _, h, _ => by cases h
  | _ :: _, [], h, _ => by cases h
  | (a, x) :: vs, (b, u) :: fs, h, r => by
    rw [List.map_cons, List.map_cons, List.cons.injEq] at h
    obtain ⟨h1, h2⟩ := h
    have h1' : a = b := h1
    subst h1'
    cases r with
    | cons r1 r2 =>
      obtain ⟨i1, i2⟩ := put_map (k := k) q h2 r2
      by_cases e : a = k
      · simp only [List.map_cons, e, if_true]
        exact ⟨by rw [i1], .cons q i2⟩
      · simp only [List.map_cons, e, if_false]
        exact ⟨by rw [i1], .cons r1 i2⟩
theorem put_rel {k : κ} {v : V} {d : PyData} (q : Dq K F v d) {vs : List (κ × V)} {kvs : List (κ × PyData)} (h : vs.map (·.1) = kvs.map (·.1)) (r : DqAll K F (vs.map (·.2)) (kvs.map (·.2))) :
    (putK vs k v).map (·.1) = (putD kvs k d).map (·.1) ∧ DqAll K F ((putK vs k v).map (·.2)) ((putD kvs k d).map (·.2)) := by
  unfold putK putD
  rw [any_rel h]
  split
  · exact put_map q h r
  · rw [List.map_append, List.map_append, List.map_append, List.map_append, h]
    exact ⟨rfl, r.append (.cons q .nil)⟩
end
/-! what is read -/
def look2 (M : List MO) (n : Nat) (x : PyData) : Option (Option PyData) := match M[n]? with
  | some (.dct kvs) => match keyK x with
    | some k => some (valD kvs k)
    | none => none
  | some (.dctT kvs) => match x with
    | .tuple xs => match keysK xs with
      | some ks => some (valD kvs ks)
      | none => none
    | _ => none
  | _ => none
def SeeD (K : PySem.W.Frag) (F : Hp) (u : Option V) : Option PyData → Prop
  | none => u = none
  | some d => ∃ v, u = some v ∧ Dq K F v d
theorem look2_ok {K : PySem.W.Frag} {g : Gh} {M : List MO} {H : Hp} (R : Rel K g M H) {n : Nat} {x : PyData} {o : Option PyData} {a y : V} (ha : RW K g a (.loc n)) (hy : RW K g y (.d x)) (e : look2 M n x = some o) :
    ∃ p u, a = .ref p ∧ DGet H p y u ∧ SeeD K g.F u o := by
  cases ha with
  | loc h =>
    rename_i p
    cases hy with
    | d hy =>
      unfold look2 at e
      split at e
      · rename_i kvs q
        split at e
        · rename_i k hk
          cases e
          obtain ⟨p', e1, e2, vs, e3, e4, e5⟩ := R.at_ _ _ q rfl
          rw [h] at e1
          cases e1
          refine ⟨p, valV vs k, rfl, .inl ⟨vs, k, .inl e3, keyK_ok hy hk, rfl⟩, ?_⟩
          cases ev : valD kvs k with
          | none => exact val_none e4 ev
          | some d => exact val_some e4 e5 ev
        · cases e
      · rename_i kvs q
        split at e
        · split at e
          · rename_i ks hk
            cases e
            obtain ⟨p', e1, e2, vs, e3, e4, e5⟩ := R.at_ _ _ q rfl
            rw [h] at e1
            cases e1
            cases hy with
            | tup t1 t2 =>
              rename_i b ys
              have hb := keysK_ok t2 hk
              subst hb
              refine ⟨p, valV vs ks, rfl, .inr ⟨vs, ks, b, .inl e3, rfl, R.sub _ _ t1, rfl⟩, ?_⟩
              cases ev : valD kvs ks with
              | none => exact val_none e4 ev
              | some d => exact val_some e4 e5 ev
          · cases e
        · cases e
      · cases e
def pDGet : Pr
  | [.loc n, .d x], M => match look2 M n x with
    | some (some d) => some (.d d, M)
    | _ => none
  | _, _ => none
def pDIn (neg : Bool) : Pr
  | [.d x, .loc n], M => match look2 M n x with
    | some o => some (.d (.bool (if neg = true then !o.isSome else o.isSome)), M)
    | _ => none
  | _, _ => none
theorem dget_ok (K : PySem.W.Frag) : PrOk K pDGet (r2 fun x y H Q => ∃ a v, x = .ref a ∧ DGet H a y (some v) ∧ Q v H) := by
  intro g M H vs ws w M' Q R rw_ e k
  unfold pDGet at e
  split at e
  · split at e
    · rename_i d q
      cases e
      cases rw_ with
      | cons h t =>
        cases t with
        | cons h2 t =>
          cases t
          obtain ⟨p, u, rfl, e1, v, rfl, e2⟩ := look2_ok R h h2 q
          exact ⟨_, _, rfl, p, v, rfl, e1, k v g H R (Ext.refl _ _) (.d e2)⟩
    · cases e
  · cases e
theorem din_ok (K : PySem.W.Frag) (neg : Bool) : PrOk K (pDIn neg) (r2 fun y x H Q => ∃ a o, x = .ref a ∧ DGet H a y o ∧ Q (.bl (if neg = true then !o.isSome else o.isSome)) H) := by
  intro g M H vs ws w M' Q R rw_ e k
  unfold pDIn at e
  split at e
  · split at e
    · rename_i o q
      cases e
      cases rw_ with
      | cons h t =>
        cases t with
        | cons h2 t =>
          cases t
          obtain ⟨p, u, rfl, e1, e2⟩ := look2_ok R h2 h q
          have eu : u.isSome = o.isSome := by
            cases o with
            | none => rw [show u = none from e2]; rfl
            | some d => obtain ⟨v, rfl, _⟩ := e2; rfl
          refine ⟨_, _, rfl, p, u, rfl, e1, ?_⟩
          rw [eu]
          exact k _ g H R (Ext.refl _ _) (.d (.bl _))
    · cases e
  · cases e
section
variable {X : Cx} {xw : WX} {a b e : Expr} {fa fb fv : EF} {pos p1 : Pos} {k : Nat}
theorem me_dGet (C : Ctx X k xw) (ha : ME X xw a fa) (hb : ME X xw b fb) (hs : NoSl b := by exact fun _ _ => rfl) : ME X xw (.Subscript a b pos) (sPr pDGet [fa, fb]) :=
  PE.imp (pe_dget (by have := ctx_u C; omega) ha hb hs) fun _ _ _ h => tG_mono (prim2 (T := tx X) (dget_ok _) h) fun _ _ h => tG_mono h fun _ _ ⟨_, _, e, q⟩ => by cases e; exact q
theorem me_dIn (C : Ctx X k xw) (ha : ME X xw a fa) (hb : ME X xw b fb) (hm : behindInMarks .In b = false := by rfl) : ME X xw (.Compare a [.In] [b] pos) (sPr (pDIn false) [fa, fb]) :=
  PE.imp (pe_cmp (pc_din (by have := ctx_u C; omega) ha hb) hm) fun _ _ _ h => tG_mono (prim2 (T := tx X) (din_ok _ false) h) fun _ _ h => tG_mono h fun _ _ ⟨_, _, e, q⟩ => by cases e; exact q
theorem me_dNotIn (C : Ctx X k xw) (ha : ME X xw a fa) (hb : ME X xw b fb) (hm : behindInMarks .NotIn b = false := by rfl) : ME X xw (.Compare a [.NotIn] [b] pos) (sPr (pDIn true) [fa, fb]) :=
  PE.imp (pe_cmp (pc_dnotin (by have := ctx_u C; omega) ha hb) hm) fun _ _ _ h => tG_mono (prim2 (T := tx X) (din_ok _ true) h) fun _ _ h => tG_mono h fun _ _ ⟨_, _, e, q⟩ => by cases e; exact q
/-! {} -/
def sNewK : EF := fun _ M => .ok (.loc M.length) (M ++ [.dct []])
def sNewT : EF := fun _ M => .ok (.loc M.length) (M ++ [.dctT []])
theorem push_loc {K : PySem.W.Frag} {g : Gh} {M : List MO} {H : Hp} {p : Addr} (R : Rel K g M H) : RW K ⟨g.ph ++ [p], g.F⟩ (.ref p) (.loc M.length) := .loc (by
  show (g.ph ++ [p])[M.length]? = some p
  rw [List.getElem?_append_right (by rw [R.len]; exact Nat.le_refl _), R.len, Nat.sub_self]
  rfl)
theorem me_newK : ME X xw (.Dict [] [] pos) sNewK := PE.imp pe_dnewK fun σ H Q ⟨g, ρ, M, R, S, b⟩ p hp => by
  obtain ⟨R2, E2⟩ := R.push (u := .dK []) (o := .dct []) hp ⟨[], upd_same, rfl, .nil⟩
  exact b _ _ _ R2 E2 (push_loc R)
theorem me_newT : ME X xw (.Dict [] [] pos) sNewT := PE.imp pe_dnewT fun σ H Q ⟨g, ρ, M, R, S, b⟩ p hp => by
  obtain ⟨R2, E2⟩ := R.push (u := .dT []) (o := .dctT []) hp ⟨[], upd_same, rfl, .nil⟩
  exact b _ _ _ R2 E2 (push_loc R)
/-! d[k] = e -/
def putO (M : List MO) (n : Nat) (d x : PyData) : Option MO := match M[n]? with
  | some (.dct kvs) => match keyK x with
    | some k => if kvs.length < sizeLine then some (.dct (putD kvs k d)) else none
    | none => none
  | some (.dctT kvs) => match x with
    | .tuple xs => match keysK xs with
      | some ks => if kvs.length < sizeLine then some (.dctT (putD kvs ks d)) else none
      | none => none
    | _ => none
  | _ => none
theorem putO_ok {K : PySem.W.Frag} {g : Gh} {M : List MO} {H : Hp} (R : Rel K g M H) {n : Nat} {x d : PyData} {o : MO} {a y v : V} (ha : RW K g a (.loc n)) (hy : RW K g y (.d x)) (hv : Dq K g.F v d) (e : putO M n d x = some o) :
    ∃ p H', a = .ref p ∧ DPut H p y v H' ∧ Rel K g (M.set n o) H' ∧ Ext g H g H' := by
  cases ha with
  | loc h =>
    rename_i p
    cases hy with
    | d hy =>
      unfold putO at e
      split at e
      · rename_i kvs q
        split at e
        · rename_i k hk
          split at e
          · rename_i hl
            cases e
            obtain ⟨p', e1, e2, vs, e3, e4, e5⟩ := R.at_ _ _ q rfl
            rw [h] at e1
            cases e1
            have hl' : vs.length < sizeLine := by have := congrArg List.length e4; simp only [List.length_map] at this; omega
            obtain ⟨i1, i2⟩ := put_rel (k := k) hv e4 e5
            obtain ⟨R2, E2⟩ := R.setO (u := .dK (putK vs k v)) (o := .dct (putD kvs k d)) h e2 ⟨_, upd_same, i1, i2⟩
            exact ⟨p, _, rfl, .inl ⟨vs, k, e3, keyK_ok hy hk, hl', rfl⟩, R2, E2⟩
          · cases e
        · cases e
      · rename_i kvs q
        split at e
        · split at e
          · rename_i ks hk
            split at e
            · rename_i hl
              cases e
              obtain ⟨p', e1, e2, vs, e3, e4, e5⟩ := R.at_ _ _ q rfl
              rw [h] at e1
              cases e1
              cases hy with
              | tup t1 t2 =>
                rename_i b ys
                have hb := keysK_ok t2 hk
                subst hb
                have hl' : vs.length < sizeLine := by have := congrArg List.length e4; simp only [List.length_map] at this; omega
                obtain ⟨i1, i2⟩ := put_rel (k := ks) hv e4 e5
                obtain ⟨R2, E2⟩ := R.setO (u := .dT (putK vs ks v)) (o := .dctT (putD kvs ks d)) h e2 ⟨_, upd_same, i1, i2⟩
                exact ⟨p, _, rfl, .inr ⟨vs, ks, b, e3, rfl, R.sub _ _ t1, hl', rfl⟩, R2, E2⟩
            · cases e
          · cases e
        · cases e
      · cases e
def sDPutS (fd fk fv : EF) : SF := sThen fv fun ρ w M1 => match w, fd ρ M1 with
  | .d d, .ok (.loc n) M2 => match fk ρ M2 with
    | .ok (.d x) M3 => match putO M3 n d x with
      | some o => .nx ρ (M3.set n o)
      | none => .stuck
    | _ => .stuck
  | _, _ => .stuck
theorem ms_dPut (C : Ctx X k xw) (ha : ME X xw a fa) (hb : ME X xw b fb) (he : ME X xw e fv) (hs : swapsWith e (some (.Subscript a b p1)) pos.line X.env = pure false := by rfl) : MS X xw (.Assign [.Subscript a b p1] e pos) (sDPutS fa fb fv) :=
  PS.imp (ps_dput (by have := ctx_u C; omega) ha hb he hs) fun D σ H q => tG_mono (tS_then q) fun v H1 ⟨g, ρ, M, w, R, S, r, b⟩ => by
    refine ⟨g, ρ, M, R, S, ?_⟩
    cases w with
    | d d =>
      cases ea : fa ρ M with
      | stuck => rw [ea] at b; exact b.elim
      | err y M2 => rw [ea] at b; exact b.elim
      | ok u M2 =>
        rw [ea] at b
        intro x2 g2 H2 R2 E2 r2
        cases u with
        | loc n =>
          refine ⟨g2, ρ, M2, R2, S.gr E2.gr, ?_⟩
          simp only at b
          cases eb : fb ρ M2 with
          | stuck => rw [eb] at b; exact b.elim
          | err y M2 => rw [eb] at b; exact b.elim
          | ok u3 M3 =>
            rw [eb] at b
            intro x3 g3 H3 R3 E3 r3
            cases u3 with
            | d x =>
              simp only at b
              cases eo : putO M3 n d x with
              | none => rw [eo] at b; exact b.elim
              | some o =>
                rw [eo] at b
                cases r with
                | d r =>
                  obtain ⟨p, H', hp, hd, R4, E4⟩ := putO_ok R3 (RW.gr E3.gr r2) r3 (Dq.sub (E2.gr.F.trans E3.gr.F) r) eo
                  exact ⟨p, H', hp, hd, b σ g3 H' R4 ((E2.trans E3).trans E4) (S.gr (E2.gr.trans E3.gr))⟩
            | _ => exact b.elim
        | _ => exact b.elim
    | _ => exact b.elim
end
end Y
namespace Y
open PySem PySem.Spec PyProof.Rows L2

/-! ### something made beside the store comes to stand in it -/
theorem Rel.delD {K : PySem.W.Frag} {g : Gh} {M : List MO} {H : Hp} {D : Addr} (R : Rel K g M H) (h1 : g.F D = none) (h2 : D ∉ g.ph) (h3 : ∀ ps, H D ≠ some (.tbl ps)) : Rel K g M (del H D) := by
  have ne : ∀ a, a ∈ g.ph → a ≠ D := fun a hm z => h2 (by rw [← z]; exact hm)
  refine ⟨fun a u e => ?_, R.len, fun n u e l => ?_, R.inj, fun a hm => ?_, R.tab.go (Sub.refl _) (fun P ps e _ => by rw [del_ne (fun z => h3 ps (by rw [← z]; exact e))]; exact e) fun _ z => .inl z⟩
  · rw [del_ne (ne_of_none e h1)]; exact R.sub _ _ e
  · obtain ⟨a, e1, e2, e3⟩ := R.at_ n u e l
    refine ⟨a, e1, e2, MOk.gr (Gr.refl g) (fun o' q => ?_) e3⟩
    rw [del_ne (ne a (List.mem_of_getElem? e1))]
    exact q
  · obtain ⟨u, q⟩ := R.tr a hm
    exact ⟨u, by rw [del_ne (ne a hm)]; exact q⟩
theorem upd_del {H : Hp} {D : Addr} {o : HO} : L2.upd (del H D) D o = L2.upd H D o := by
  funext z
  by_cases h : z = D
  · rw [h, upd_same, upd_same]
  · rw [upd_ne h, upd_ne h, del_ne h]
theorem Rel.pushD {K : PySem.W.Frag} {g g0 : Gh} {M : List MO} {H H0 : Hp} {p : Addr} {u : HO} {o : MO} (R : Rel K g M H) (h1 : g.F p = none) (h2 : p ∉ g.ph) (E : Ext g0 H0 g H) (h0 : H0 p = none) (h3 : ∀ ps, H p ≠ some (.tbl ps)) (ho : MOk K ⟨g.ph ++ [p], g.F⟩ (L2.upd H p u) p o) :
    Rel K ⟨g.ph ++ [p], g.F⟩ (M ++ [o]) (L2.upd H p u) ∧ Ext g0 H0 ⟨g.ph ++ [p], g.F⟩ (L2.upd H p u) := by
  have R1 := R.delD h1 h2 h3
  obtain ⟨R2, E2⟩ := R1.push (u := u) (o := o) del_same (by rw [upd_del]; exact ho)
  rw [upd_del] at R2
  refine ⟨R2, ⟨E.gr.trans E2.gr, fun a x e n => ?_, E.new, fun a hm => ?_⟩⟩
  · exact (E.keep a x e n).upd (ne_of_none e h0)
  · rcases List.mem_append.mp hm with z | z
    · exact E.newph a z
    · rw [List.mem_singleton.mp z]; exact .inr h0
/-! {(): e} -/
theorem dict_pairsS {prog : Program} {w : World} {K : Type} [DecidableEq K] {knd : HeapKind prog w K} {A : Around} {E : Value → Shared → Prop} {s : Shared} {env : Env} {keys : List (Option Expr)} {values : List Expr} {pos : Pos} {pairs : List (Sem Value × Sem Value)} {Q : Value → Shared → Prop}
    (hu : knd.room A) (hshape : (evalEachOpt keys env).zip (List.map (fun v => do
        let x ← v
        standAt pos
        pure x) (evalEach values env)) = List.map (fun p => (some p.1, p.2)) pairs) (h0 : pairs ≠ []) (hlen : pairs.length ≤ 15)
    (h : wpAny (model prog w) A (evalPairs pairs) (fun vs s₁ => ∃ ps, CarriesH knd s₁.heap vs ps ∧ Heap.DictOfH knd s₁.heap s.heap.objs.size [] ∧ ∀ (h' : Heap) (tk : Nat), Heap.DictOfH knd h' s.heap.objs.size (storedAllH [] ps) → Heap.SameBut s.heap.objs.size s₁.heap h' →
        Q (.ref s.heap.objs.size) { heap := h', gens := s₁.gens, drawn := s₁.drawn, toks := tk, os := s₁.os }) E
      { heap := s.heap.push { cls := .type "dict", data := .dict #[] }, gens := s.gens, drawn := s.drawn, toks := s.toks, os := s.os }) : wpAny (model prog w) A (eval (.Dict keys values pos) env) Q E s := by
  rw [arm_eval_Dict keys values pos env, hshape, dictDisplay_pairs pairs h0 (by omega)]
  exact wpAny_bind (wpAny_standAt (wpAny_bind (wpAny_subDictH hu hlen (wpAny_mono h (fun vs s₁ ⟨ps, hc, hm, hq⟩ => ⟨ps, hc, hm, fun h' tk a b => wpAny_pure (hq h' tk a b)⟩) fun _ _ e => e))))
section
variable {X : Cx} {xw : WX} {a b e ke ve : Expr} {fa fb fk fv : EF} {pos p1 : Pos} {k : Nat}
def qT1 (Q : VK) (p : Addr) : List (V × V) → Hp → Prop := fun ps H2 => H2 p = some (.dT []) ∧ ∃ (b : Addr) (ks : List L2.Key) (y : V), ps = [(.ref b, y)] ∧ H2 b = some (.tup (ks.map kV)) ∧ Q (.ref p) (L2.upd H2 p (.dT [(ks, y)]))
def tDispT1 (tk tv : TE) : TE := fun σ H Q => ∀ p, H p = none → tk σ (L2.upd H p (.dT [])) fun x H1 => tv σ H1 fun y H2 => qT1 Q p [(x, y)] H2
theorem pe_dispT1 {tk tv : TE} (hu : X.A.units < cLine) (hk : PE X ke tk) (hv : PE X ve tv) (hs : (evalEachOpt [some ke] X.env).zip (List.map (fun v => do
        let x ← v
        standAt pos
        pure x) (evalEach [ve] X.env)) = List.map (fun p => (some p.1, p.2)) (pairTrees [some ke] [ve] X.env pos) := by rfl) (hn0 : pairTrees [some ke] [ve] X.env pos ≠ [] := by intro z; cases z) (hl : (pairTrees [some ke] [ve] X.env pos).length ≤ 15 := by exact Nat.le_of_ble_eq_true rfl) : PE X (.Dict [some ke] [ve] pos) (tDispT1 tk tv) := by
  refine ⟨fun pins s σ H Q I q => ?_⟩
  have hn := I.hok.fresh (Nat.le_refl s.heap.objs.size)
  have I1 := Inv.laid (t' := s.toks) I (fun x x_1 q => Heap.get?_push_of_some { cls := Value.type "dict", data := Data.dict #[] } q) (Nat.le_refl s.heap.objs.size) (dt_empty s.heap (Inv.big I))
  refine dict_pairsS (knd := tupleKind (mixKind X.prog X.w)) hu hs hn0 hl ?_
  refine thn ((pps_cons hk hv pps_nil).run pins _ σ _ (qT1 Q s.heap.objs.size) I1 (q s.heap.objs.size hn)) fun ws s2 ⟨ps, H2, I2, rel, e, b, ks, y, ep, eb, q2⟩ => ?_
  subst ep
  cases rel with
  | @cons _ w _ _ r1 r2 =>
    cases r2
    obtain ⟨w1, w2⟩ := w
    obtain ⟨ra, rb⟩ := r1
    have ra' : w1 = .ref b := ra
    subst ra'
    obtain ⟨z, hd, xs, kt, dd⟩ := dt_of I2.hok e
    cases kt
    refine ⟨[(ks, b, w2)], ⟨rfl, rfl, key_of I2.hok eb, trivial⟩, dd, fun h' tk dd' hs' => ⟨.ref s.heap.objs.size, L2.upd H2 s.heap.objs.size (.dT [(ks, y)]), ?_, rfl, q2⟩⟩
    have nb : b ≠ s.heap.objs.size := fun h => by rw [h, e] at eb; cases eb
    have kt' : KT (L2.upd H2 s.heap.objs.size (.dT [(ks, y)])) [(ks, y)] (storedAllH [] [(ks, b, w2)]) := .cons ⟨rfl, by rw [upd_ne nb]; exact eb, rb⟩ .nil
    have he : ∃ q, h'.get? s.heap.objs.size = some q := let ⟨q, _, _, hq, _⟩ := dd'; ⟨q, hq⟩
    refine d_write I2 (by rw [e]; trivial) hs' he ?_
    obtain ⟨o, es, ep, h1, h2, h3, h4, _, h6⟩ := dd'
    exact ⟨by rw [sizeLine_eq]; exact Nat.le_of_ble_eq_true rfl, hd, _, kt', o, es, ep, h1, h2, h3, h4, h6⟩
def disp1 : W → W → List MO → Res W
  | .d (.tuple xs), .d y, M2 => match keysK xs with
    | some ks => .ok (.loc M2.length) (M2 ++ [.dctT [(ks, y)]])
    | none => .stuck
  | _, _, _ => .stuck
def sDispT1 (fk fv : EF) : EF := fun ρ M => (fk ρ M).bind fun w M1 => (fv ρ M1).bind fun u M2 => disp1 w u M2
theorem KT.upd {H : Hp} {a : Addr} {o : HO} {us : List (List L2.Key × V)} (e : H a = some (.dT us)) : ∀ {kvs : List (List L2.Key × V)} {xs : List (List L2.Key × Addr × Value)}, KT H kvs xs → KT (L2.upd H a o) kvs xs
  | _, _, .nil => .nil
  | _, _, .cons ⟨h1, h2, h3⟩ t => .cons ⟨h1, by rw [upd_ne (fun z => by rw [z, e] at h2; cases h2)]; exact h2, h3⟩ (KT.upd e t)
theorem me_dispT1 (C : Ctx X k xw) (hk : ME X xw ke fk) (hv : ME X xw ve fv) (hs : (evalEachOpt [some ke] X.env).zip (List.map (fun v => do
        let x ← v
        standAt pos
        pure x) (evalEach [ve] X.env)) = List.map (fun p => (some p.1, p.2)) (pairTrees [some ke] [ve] X.env pos) := by rfl) (hn0 : pairTrees [some ke] [ve] X.env pos ≠ [] := by intro z; cases z) (hl : (pairTrees [some ke] [ve] X.env pos).length ≤ 15 := by exact Nat.le_of_ble_eq_true rfl) :
    ME X xw (.Dict [some ke] [ve] pos) (sDispT1 fk fv) := by
  refine PE.imp (pe_dispT1 (by have := ctx_u C; omega) hk hv hs hn0 hl) fun σ H Q ⟨g, ρ, M, R, S, b⟩ p hp => ?_
  have hF : g.F p = none := R.sub.none hp
  have hph : p ∉ g.ph := fun z => by obtain ⟨u, q⟩ := R.tr p z; rw [hp] at q; cases q
  refine ⟨g, ρ, M, R.updD (o := .dT []) hF hph (fun _ z => by rw [hp] at z; cases z), S, ?_⟩
  replace b : Bhd (tx X) (fun c d H => xw c d σ H) (RW X.K) Q ((fk ρ M).bind fun w M1 => (fv ρ M1).bind fun u M2 => disp1 w u M2) g H := b
  have E0 : Ext g H g (L2.upd H p (.dT [])) := (Ext.refl g H).updD hp
  cases e1 : fk ρ M with
  | stuck => rw [e1] at b; exact b
  | err x M2 => rw [e1] at b; exact fun c d g' H' R' E' ix => b c d g' H' R' (E0.trans E') ix
  | ok w M1 =>
    rw [e1] at b
    intro v1 g1 H1 R1 E1 r1
    refine ⟨g1, ρ, M1, R1, S.gr E1.gr, ?_⟩
    replace b : Bhd (tx X) (fun c d H => xw c d σ H) (RW X.K) Q ((fv ρ M1).bind fun u M2 => disp1 w u M2) g H := b
    cases e2 : fv ρ M1 with
    | stuck => rw [e2] at b; exact b
    | err x M2 => rw [e2] at b; exact fun c d g' H' R' E' ix => b c d g' H' R' ((E0.trans E1).trans E') ix
    | ok u M2 =>
      rw [e2] at b
      intro v2 g2 H2 R2 E2 r2
      obtain ⟨o1, o2, o3⟩ := (E1.trans E2).outD upd_same hF hph
      replace b : Bhd (tx X) (fun c d H => xw c d σ H) (RW X.K) Q (disp1 w u M2) g H := b
      unfold disp1 at b
      split at b
      · rename_i xs y
        split at b
        · rename_i ks hks
          cases r1 with
          | d r1 =>
            cases r2 with
            | d r2 =>
              cases r1 with
              | tup t1 t2 =>
                rename_i bb vs
                have hb := keysK_ok t2 hks
                subst hb
                obtain ⟨R3, E3⟩ := R2.pushD (u := .dT [(ks, v2)]) (o := .dctT [(ks, y)]) o2 o3 ((E0.trans E1).trans E2) hp (fun _ z => by rw [o1] at z; cases z) ⟨_, upd_same, rfl, .cons r2 .nil⟩
                exact ⟨o1, bb, ks, v2, rfl, R2.sub _ _ (E2.gr.F _ _ t1), b _ _ _ R3 E3 (push_loc R2)⟩
        · exact b.elim
      · exact b.elim
/-! d.setdefault(k, e), the keys being tuples -/
def tDSetdT (td ty tx : TE) : TE := fun σ H Q => td σ H fun x H1 => ∃ a, x = .ref a ∧ IsD H1 a ∧ ty σ H1 fun y H2 => tx σ H2 fun z H3 => ∃ (kvs : List (List L2.Key × V)) (k : List L2.Key) (b : Addr),
  H3 a = some (.dT kvs) ∧ y = .ref b ∧ H3 b = some (.tup (k.map kV)) ∧ kvs.length < sizeLine ∧ (∀ v, valV kvs k = some v → Q v H3) ∧ (valV kvs k = none → Q z (L2.upd H3 a (.dT (putK kvs k z))))
theorem pe_dsetdT {o e f : Expr} {td ty tx : TE} {apos cpos : Pos} (hu : X.A.units + 1 < cLine) (ho : PE X o td) (he : PE X e ty) (hf : PE X f tx) (m : M2 X o "setdefault" apos e f cpos) : PE X (.Call (.Attribute o "setdefault" apos) [e, f] [] cpos) (tDSetdT td ty tx) := by
  refine ⟨fun pins s σ H Q I h => wpAny_Call_method m.base m.few m.line F.plainAttrs_dict F.slot_dict_setdefault F.type_dict_setdefault (thn (ho.run pins s σ H _ I h) fun u s1 ⟨x, H1, I1, rx, a, ex, d, q1⟩ => ?_)⟩
  subst ex
  cases rx
  obtain ⟨t1, t2, hsys⟩ := isD_at I1 d
  refine ⟨t1, t2, ?_⟩
  rw [m.trees]
  refine Calls.callWith_builtin rfl (Calls.evalArgs_plain (Calls.spliced_cons (thn (he.run pins s1 σ H1 _ I1 q1) fun iv s2 ⟨y, H2, I2, ry, q2⟩ => Calls.spliced_cons (thn (hf.run pins s2 σ H2 _ I2 q2) fun fv s3 ⟨z, H3, I3, rz, kvs, k, b, ea, ey, eb, hl, q3, q4⟩ => Calls.spliced_nil ?_))))
  subst ey
  cases ry
  obtain ⟨hz, hd, xs, kt, dd⟩ := dt_of I3.hok ea
  have hlx : xs.length = kvs.length := (Paired.length kt).symm
  refine call_setdefault_heap (knd := tupleKind (mixKind X.prog X.w)) (tupleKind_room_in1 hu) (key_of I3.hok eb) hd dd (fun p hp => ?_) (fun hn h' dd' hs' => ?_) (by rw [hlx]; omega)
  · have r := KT.val kt k
    rw [hp] at r
    cases ev : valV kvs k with
    | none => rw [ev] at r; exact r.elim
    | some v =>
      rw [ev] at r
      exact ⟨v, H3, I3.tok _, r, q3 v ev⟩
  · have r := KT.val kt k
    rw [hn] at r
    cases ev : valV kvs k with
    | some v => rw [ev] at r; exact r.elim
    | none =>
      have nb : b ≠ a := fun h => by rw [h, ea] at eb; cases eb
      have kt' := KT.put kt k eb rz
      refine ⟨z, _, ?_, rz, q4 ev⟩
      have he : ∃ q, h'.get? a = some q := let ⟨q, _, _, hq, _⟩ := dd'; ⟨q, hq⟩
      refine d_write I3 (by rw [ea]; trivial) hs' he ?_
      obtain ⟨o, es, ep, h1, h2, h3, h4, _, h6⟩ := dd'
      refine ⟨?_, hd, _, ?_, o, es, ep, h1, h2, h3, h4, h6⟩
      · have := length_putK kvs k z
        omega
      · exact KT.upd ea kt'
def isDT (M : List MO) : W → Bool
  | .loc n => match M[n]? with
    | some (.dctT _) => true
    | _ => false
  | _ => false
def setd : W → W → W → List MO → Res W
  | .loc n, .d (.tuple xs), .d y, M => match M[n]? with
    | some (.dctT kvs) => match keysK xs with
      | some ks => if kvs.length < sizeLine then match valD kvs ks with
          | some d => .ok (.d d) M
          | none => .ok (.d y) (M.set n (.dctT (putD kvs ks y)))
        else .stuck
      | none => .stuck
    | _ => .stuck
  | _, _, _, _ => .stuck
def sSetd (fd fk fv : EF) : EF := fun ρ M => (fd ρ M).bind fun w M1 => if isDT M1 w = true then (fk ρ M1).bind fun u M2 => (fv ρ M2).bind fun z M3 => setd w u z M3 else .stuck
theorem me_setd {fd : EF} {o e f : Expr} {apos cpos : Pos} (C : Ctx X k xw) (ho : ME X xw o fd) (he : ME X xw e fk) (hf : ME X xw f fv) (m : M2 X o "setdefault" apos e f cpos := by exact ⟨rfl, rfl, rfl, rfl⟩) : ME X xw (.Call (.Attribute o "setdefault" apos) [e, f] [] cpos) (sSetd fd fk fv) := by
  refine PE.imp (pe_dsetdT (by have := ctx_u C; omega) ho he hf m) fun σ H Q h => tG_mono (tG_bind (R2 := RW X.K) h) fun v H1 ⟨g, ρ, M, w, R, S, q, b⟩ => ?_
  split at b
  · rename_i hd
    unfold isDT at hd
    split at hd
    · rename_i n
      split at hd
      · rename_i kvs0 em0
        cases q with
        | loc q =>
          rename_i a
          obtain ⟨a', e1, e2, vs, e3, e4, e5⟩ := R.at_ n _ em0 rfl
          rw [q] at e1
          cases e1
          refine ⟨_, rfl, .inr ⟨vs, .inl e3⟩, g, ρ, M, R, S, ?_⟩
          cases h1 : fk ρ M with
          | stuck => rw [h1] at b; exact b
          | err x M2 => rw [h1] at b; exact b
          | ok u M2 =>
            rw [h1] at b
            intro v1 g1 H2 R1 E1 r1
            refine ⟨g1, ρ, M2, R1, S.gr E1.gr, ?_⟩
            replace b : Bhd (tx X) (fun c d H => xw c d σ H) (RW X.K) Q ((fv ρ M2).bind fun z M3 => setd (.loc n) u z M3) g H1 := b
            cases h2 : fv ρ M2 with
            | stuck => rw [h2] at b; exact b
            | err x M3 => rw [h2] at b; exact fun c d g' H' R' E' ix => b c d g' H' R' (E1.trans E') ix
            | ok z M3 =>
              rw [h2] at b
              intro v2 g2 H3 R2 E2 r2
              replace b : Bhd (tx X) (fun c d H => xw c d σ H) (RW X.K) Q (setd (.loc n) u z M3) g H1 := b
              unfold setd at b
              split at b
              · rename_i n' xs y en
                cases en
                split at b
                · rename_i kvs em
                  split at b
                  · rename_i ks hks
                    split at b
                    · rename_i hl
                      have q2 := E2.gr.ph _ _ (E1.gr.ph _ _ q)
                      obtain ⟨a', i1, i2, us, i3, i4, i5⟩ := R2.at_ _ _ em rfl
                      rw [q2] at i1
                      cases i1
                      cases r1 with
                      | d r1 =>
                        cases r1 with
                        | tup t1 t2 =>
                          rename_i bb vs
                          have hb := keysK_ok t2 hks
                          subst hb
                          cases r2 with
                          | d r2 =>
                            have hl' : us.length < sizeLine := by have := congrArg List.length i4; simp only [List.length_map] at this; omega
                            refine ⟨us, ks, bb, i3, rfl, R2.sub _ _ (E2.gr.F _ _ t1), hl', fun v hv => ?_, fun hn => ?_⟩
                            · cases ev : valD kvs ks with
                              | none => rw [val_none i4 ev] at hv; cases hv
                              | some d =>
                                obtain ⟨v', j1, j2⟩ := val_some i4 i5 ev
                                rw [hv] at j1
                                cases j1
                                simp only [ev] at b
                                exact b v g2 H3 R2 (E1.trans E2) (.d j2)
                            · cases ev : valD kvs ks with
                              | some d => obtain ⟨v', j1, j2⟩ := val_some i4 i5 ev; rw [hn] at j1; cases j1
                              | none =>
                                simp only [ev] at b
                                obtain ⟨k1, k2⟩ := put_rel (k := ks) r2 i4 i5
                                obtain ⟨R3, E3⟩ := R2.setO (u := .dT (putK us ks v2)) (o := .dctT (putD kvs ks y)) q2 i2 ⟨_, upd_same, k1, k2⟩
                                exact b v2 g2 _ R3 ((E1.trans E2).trans E3) (.d r2)
                    · exact b.elim
                  · exact b.elim
                · exact b.elim
              · exact b.elim
      · cases hd
    · cases hd
  · exact b.elim
/-! len(d) -/
def pLenD : Pr
  | [.loc n], M => match M[n]? with
    | some (.dct kvs) => some (.d (.int kvs.length), M)
    | some (.dctT kvs) => some (.d (.int kvs.length), M)
    | _ => none
  | _, _ => none
def rLenKT : List V → Hp → VK → Prop := fun xs H Q => (∃ a kvs, xs = [V.ref a] ∧ H a = some (HO.dK kvs) ∧ Q (V.int (kvs.length : Nat)) H) ∨ rLenT xs H Q
theorem lenD_ok (K : PySem.W.Frag) : PrOk K pLenD rLenKT := by
  intro g M H vs ws w M' Q R rw_ e k
  unfold pLenD at e
  split at e
  · split at e
    · rename_i n M kvs q
      cases e
      cases rw_ with
      | cons h t =>
        cases t
        cases h with
        | loc h =>
          obtain ⟨a', i1, i2, us, i3, i4, i5⟩ := R.at_ _ _ q rfl
          rw [h] at i1
          cases i1
          have hl : us.length = kvs.length := by have := congrArg List.length i4; simpa using this
          exact .inl ⟨_, us, rfl, i3, by rw [hl]; exact k _ g H R (Ext.refl _ _) (.d (.int _))⟩
    · rename_i n M kvs q
      cases e
      cases rw_ with
      | cons h t =>
        cases t
        cases h with
        | loc h =>
          obtain ⟨a', i1, i2, us, i3, i4, i5⟩ := R.at_ _ _ q rfl
          rw [h] at i1
          cases i1
          have hl : us.length = kvs.length := by have := congrArg List.length i4; simpa using this
          exact .inr ⟨_, us, rfl, i3, by rw [hl]; exact k _ g H R (Ext.refl _ _) (.d (.int _))⟩
    · cases e
  · cases e
theorem me_lenD (ha : MA X xw [a] [fa]) (hm : X.mg "len" = none) (hg : Gl X "len" := by rfl) (he : starEach [a] X.env = (false, eval a X.env) :: starEach [] X.env := by rfl) (hpl : (backTo pos (starEach [] X.env)).any (·.1) = false := by rfl) : ME X xw (.Call (.Name "len" p1) [a] [] pos) (sPr pLenD [fa]) :=
  me_callB (call_lenD.or call_len_dT) (lenD_ok _) hg hm PySem.boot_len ha (he := he) (hpl := hpl)
end
end Y
namespace Y
open PySem PySem.Spec PyProof.Rows L2

/-! ### the values of a dict whose keys are tuples -/
def ItdT (d : Addr) (o : Obj) (kvs : List (List L2.Key × V)) : It :=
  { go := fun i H => H d = some (.frz o (.dT kvs)) ∧ i < kvs.length,
    yld := fun i H x H' => H' = H ∧ ∃ k, kvs[i]? = some (k, x),
    stop := fun i H => H d = some (.frz o (.dT kvs)) ∧ kvs.length ≤ i }
theorem kt_get {H : Hp} : ∀ {kvs : List (List L2.Key × V)} {xs : List (List L2.Key × Addr × Value)} {i : Nat} {k : List L2.Key} {v : V}, KT H kvs xs → kvs[i]? = some (k, v) → ∃ b u, xs[i]? = some (k, b, u) ∧ RelV v u
  | _, _, _, _, _, .nil, e => by simp at e
  | _, _, 0, _, _, .cons (b := q) ⟨h1, h2, h3⟩ _, e => by
    simp at e
    subst e
    obtain ⟨k', b, u⟩ := q
    have h1' : _ = k' := h1
    subst h1'
    exact ⟨b, u, rfl, h3⟩
  | _, _, i + 1, _, _, .cons _ t, e => by
    obtain ⟨b, u, e1, e2⟩ := kt_get (i := i) t (by simpa using e)
    exact ⟨b, u, by simpa using e1, e2⟩
/-- what is locked, told raw -/
theorem frzT_raw {X : Cx} {pins : List (Addr × Obj)} {σ : L2.St} {H : Hp} {s : Shared} {d : Addr} {o : Obj} {kvs : List (List L2.Key × V)} (I : Inv X pins σ H s) (hd : H d = some (.frz o (.dT kvs))) :
    (d == sysModules) = false ∧ s.heap.get? d = some o ∧ ∃ es ep, o.data = .dict es ep ∧ es.size = kvs.length ∧ s.heap.DictRaw d es ep ∧ ∀ (i : Nat) (k : List L2.Key) (v : V) (hi : i < es.size), kvs[i]? = some (k, v) → RelV v es[i].val := by
  obtain ⟨h1, h2, h3, _⟩ := Inv.frzT I hd
  obtain ⟨z, _, xs, kt, dd⟩ := dt_rd I.hok (.inr ⟨o, hd⟩)
  obtain ⟨es, ep, hr, hsz, hv⟩ := dd.raw
  have hl := Paired.length kt
  obtain ⟨o', q1, q2⟩ : ∃ o', s.heap.get? d = some o' ∧ o'.data = .dict es ep := by
    obtain ⟨o', a1, a2, a3⟩ := hr
    exact ⟨o', a1, a3⟩
  rw [h2] at q1
  cases q1
  refine ⟨h1, h2, es, ep, q2, by rw [hsz, ← hl], hr, fun i k v hi e => ?_⟩
  obtain ⟨y, y1, y2, y3, y4⟩ := hv i hi
  obtain ⟨b, u, e1, e2⟩ := kt_get kt e
  rw [e1] at y1
  cases y1
  rw [y3]
  exact e2
theorem turn_valsT {P : Program} {w : World} {K : PySem.W.Frag} {tg : Expr} {d : Addr} {o : Obj} {es : Array DictEntry} {ep : Nat} {kvs : List (List L2.Key × V)} (it : Addr) (hod : o.data = .dict es ep) : Turn P w K tg (ItdT d o kvs) [it] it fun i h => h.IsValIter it d i kvs.length ep where
  mem := by simp
  obj := fun i h st b hb => by
    have e : b = it := by simpa using hb
    subst e
    obtain ⟨oi, e, c, dd⟩ := st
    exact ⟨oi, e, fun v z => by rw [dd] at z; cases z⟩
  keep := fun i h h' st k => Heap.IsValIter.at st fun oi e => k it (by simp) oi e
  item := fun X hP hw hK hc i pins s σ H E I hf st hg => by
    subst hP hw
    obtain ⟨hd, hi⟩ := hg
    obtain ⟨f0, f1, f2, f3, f4, f5⟩ := hf it (by simp)
    obtain ⟨hs, hgd, es', ep', hdt, hsz, hr, hv⟩ := frzT_raw I hd
    rw [hod] at hdt
    cases hdt
    have hi' : i < es.size := by rw [hsz]; exact hi
    obtain ⟨⟨k, v⟩, hkv⟩ : ∃ w, kvs[i]? = some w := ⟨_, List.getElem?_eq_getElem hi⟩
    rw [← hsz] at st
    refine wpAny_pyNext_values_item_raw st hr hi' fun h' st' sb => ?_
    have I1 := Inv.turned (t' := s.toks) I (fun b ob hb e => (sb.right b hb).trans e) f0 f1 f3 f4 f5
    obtain ⟨oi, e, c, dd⟩ := id st'
    refine ⟨es[i].val, rfl, go_of e c dd (of_decide_eq_true rfl) ⟨v, H, I1, hv i k v hi' hkv, ⟨rfl, k, hkv⟩, ?_, fun b hb => (hf b hb).left⟩⟩
    show h'.IsValIter it d (i + 1) kvs.length ep
    rw [← hsz]
    exact st'
  done := fun X hP hw hK hc i pins s σ H E I hf st hg => by
    subst hP hw
    obtain ⟨hd, hi⟩ := hg
    obtain ⟨f0, f1, f2, f3, f4, f5⟩ := hf it (by simp)
    obtain ⟨hs, hgd, es', ep', hdt, hsz, hr, hv⟩ := frzT_raw I hd
    rw [hod] at hdt
    cases hdt
    rw [← hsz] at st
    exact wpAny_pyNext_values_end_raw (I.ok.hd hc) st hr (by rw [hsz]; exact hi) fun h' eb => ⟨rfl, Inv.turned I (fun b ob hb e => eb b ob hb e) f0 f1 f3 f4 f5⟩
  self := fun A i s Q E st h => wpAny_pyIter_valiter st h
def iValsT (td : TE) : TI := fun σ H R => td σ H fun x H1 => ∃ d o kvs, x = .ref d ∧ H1 d = some (.frz o (.dT kvs)) ∧ R (ItdT d o kvs) H1
theorem pi_valuesT {X : Cx} {tg e : Expr} {td : TE} {apos cpos : Pos} (he : PE X e td) (hbase : attributeBase e "values" X.env (eval e X.env) = eval e X.env := by rfl) (hline : (apos.endLine == cpos.line) = true := by rfl) : PI X tg (.Call (.Attribute e "values" apos) [] [] cpos) (iValsT td) := by
  refine ⟨fun pins s σ H R I h => wpAny_Call_method hbase rfl hline F.plainAttrs_dict F.slot_dict_values F.type_dict_values (thn (he.run pins s σ H _ I h) fun u s1 ⟨x, H1, I1, rx, d, o, kvs, ex, hd, q⟩ => ?_)⟩
  subst ex
  cases rx
  obtain ⟨t1, t2, _⟩ := isD_at I1 (a := d) (.inr ⟨kvs, .inr ⟨o, hd⟩⟩)
  obtain ⟨hs, hgd, es, ep, hdt, hsz, hr, hv⟩ := frzT_raw I1 hd
  have I2 := Inv.kept (t' := s1.toks) I1 fun b ob q => Heap.get?_push_of_some { cls := Value.type "dict_values", data := Data.fields #[Value.ref d] } q
  have hr2 : Heap.DictRaw (s1.heap.push { cls := Value.type "dict_values", data := Data.fields #[Value.ref d] }) d es ep := by
    obtain ⟨o', a1, a2⟩ := hr
    exact ⟨o', Heap.get?_push_of_some _ a1, a2⟩
  refine ⟨t1, t2, ?_⟩
  refine method_meetsIn F.slot_dict_values F.entry_dict_values rfl (PySem.evalArgs_none ⟨rfl, t1, F.args_dict_values_1 (.ref d), _, meets_dict_values_raw d hs, ⟨es, ep, hr⟩, ?_⟩)
  refine wpAny_pyIter_values_raw ⟨_, Heap.get?_push_size s1.heap rfl, rfl, rfl⟩ hr2 ?_
  refine pi_one I2 { cls := Value.type "dict_valueiterator", data := Data.fields #[Value.ref d, Value.int 0 0, Value.int es.size 0, Value.int ep 0] } (turn_valsT _ hdt) ⟨_, Heap.get?_push_size _ rfl, rfl, ?_⟩ q
  rw [← hsz]
  rfl
/-! ghosts without what was locked -/
theorem Ln.cut {F : Hp} {d : Addr} {o : Obj} {u : List (List L2.Key × V)} (h : F d = some (.frz o (.dT u))) {e : Ex} {x : Option Addr} (k : Ln F e x) : Ln (del F d) e x := by
  unfold Ln at *
  split at k
  · exact k
  · obtain ⟨dx, e1, e2⟩ := k
    exact ⟨dx, e1, by rw [del_ne (fun z => by rw [z, h] at e2; cases e2)]; exact e2⟩
mutual
theorem Dq.cut {K : PySem.W.Frag} {F : Hp} {d : Addr} {o : Obj} {u : List (List L2.Key × V)} (h : F d = some (.frz o (.dT u))) : ∀ {v : V} {x : PyData}, Dq K F v x → Dq K (del F d) v x
  | _, _, .non => .non
  | _, _, .bl b => .bl b
  | _, _, .int b => .int b
  | _, _, .str b => .str b
  | _, _, .lst q t => .lst (by rw [del_ne (fun z => by rw [z, h] at q; cases q)]; exact q) (DqAll.cut h t)
  | _, _, .tup q t => .tup (show del F d _ = _ by rw [del_ne (fun z => by rw [z] at q; have q' : F d = _ := q; rw [h] at q'; cases q')]; exact q) (DqAll.cut h t)
theorem DqAll.cut {K : PySem.W.Frag} {F : Hp} {d : Addr} {o : Obj} {u : List (List L2.Key × V)} (h : F d = some (.frz o (.dT u))) : ∀ {v : List V} {x : List PyData}, DqAll K F v x → DqAll K (del F d) v x
  | _, _, .nil => .nil
  | _, _, .cons q t => .cons (Dq.cut h q) (DqAll.cut h t)
end
theorem SqL.cut {K : PySem.W.Frag} {F : Hp} {d a : Addr} {o : Obj} {u : List (List L2.Key × V)} {xs : List V} (h : F d = some (.frz o (.dT u))) (k : SqL K F a xs) : SqL K (del F d) a xs := by
  rcases k with (k | ⟨o', k⟩) | k
  · exact .inl (.inl (by rw [del_ne (fun z => by rw [z, h] at k; cases k)]; exact k))
  · exact .inl (.inr ⟨o', by rw [del_ne (fun z => by rw [z, h] at k; cases k)]; exact k⟩)
  · exact .inr k
mutual
theorem RW.cut {K : PySem.W.Frag} {g : Gh} {d : Addr} {o : Obj} {u : List (List L2.Key × V)} (h : g.F d = some (.frz o (.dT u))) : ∀ {v : V} {x : W}, RW K g v x → RW K ⟨g.ph, del g.F d⟩ v x
  | _, _, .d q => .d (Dq.cut h q)
  | _, _, .scr q => .scr (SqL.cut h q)
  | _, _, .loc e => .loc e
  | _, _, .exc h1 h2 h3 => .exc h1 (by
      show del g.F d _ = _
      rw [del_ne (fun z => by rw [z, h] at h2; cases h2)]; exact h2) (Ln.cut h h3)
  | _, _, .kd h1 h2 h3 => .kd (by
      show del g.F d _ = _
      rw [del_ne (fun z => by rw [z, h] at h1; cases h1)]; exact h1) h2 (DqAll.cut h h3)
  | _, _, .tup q t => .tup (show del g.F d _ = _ by rw [del_ne (fun z => by rw [z] at q; have q' : g.F d = _ := q; rw [h] at q'; cases q')]; exact q) (RWs.cut h t)
  | _, _, .fn q => .fn q
  | _, _, .clo h1 h2 t => .clo (by
      show del g.F d _ = _
      rw [del_ne (fun z => by rw [z, h] at h1; unfold LamO at h1; cases h1)]; exact h1) (by
      show del g.F d _ = _
      rw [del_ne (fun z => by rw [z, h] at h2; unfold LamX.CodeO at h2; cases h2)]; exact h2) (RWs.cut h t)
theorem RWs.cut {K : PySem.W.Frag} {g : Gh} {d : Addr} {o : Obj} {u : List (List L2.Key × V)} (h : g.F d = some (.frz o (.dT u))) : ∀ {v : List V} {x : List W}, RWs K g v x → RWs K ⟨g.ph, del g.F d⟩ v x
  | _, _, .nil => .nil
  | _, _, .cons q t => .cons (RW.cut h q) (RWs.cut h t)
end
theorem MOk.cut {K : PySem.W.Frag} {g : Gh} {d : Addr} {o : Obj} {u : List (List L2.Key × V)} (h : g.F d = some (.frz o (.dT u))) {H : Hp} {a : Addr} : ∀ {m : MO}, MOk K g H a m → MOk K ⟨g.ph, del g.F d⟩ H a m
  | .dead, _ => trivial
  | .lst _, ⟨xs, e, r⟩ => ⟨xs, e, DqAll.cut h r⟩
  | .lsw _, ⟨xs, e, r⟩ => ⟨xs, e, RWs.cut h r⟩
  | .obj _ _, ⟨vs, n, q, r⟩ => ⟨vs, n, q, RWs.cut h r⟩
  | .dct _, ⟨vs, e, q, r⟩ => ⟨vs, e, q, DqAll.cut h r⟩
  | .dctT _, ⟨vs, e, q, r⟩ => ⟨vs, e, q, DqAll.cut h r⟩
theorem Rel.lock {K : PySem.W.Frag} {g : Gh} {M : List MO} {H : Hp} {n : Nat} {d : Addr} {u : HO} (R : Rel K g M H) (hp : g.ph[n]? = some d) (hF : g.F d = none) : Rel K ⟨g.ph, L2.upd g.F d u⟩ (M.set n .dead) (L2.upd H d u) ∧ Ext g H ⟨g.ph, L2.upd g.F d u⟩ (L2.upd H d u) := by
  have hl : n < M.length := by rw [← R.len]; exact (List.getElem?_eq_some_iff.mp hp).1
  have hm := List.mem_of_getElem? hp
  refine ⟨⟨Sub.upd2 R.sub, by rw [List.length_set]; exact R.len, fun m o e l => ?_, R.inj, fun a hm => ?_, (R.tab.updP hm).go (Sub.upd hF) (fun _ _ e _ => e) (fun _ z => .inl z) fun P ps e k n => (upd_ne (fun z => k (by rw [z]; exact hm))).trans n⟩, ⟨⟨fun _ _ z => z, Sub.upd hF⟩, fun a o e hn => ?_, fun a h h' => ?_, fun a h => .inl h⟩⟩
  · by_cases h : n = m
    · subst h
      rw [List.getElem?_set_self hl] at e
      cases e
      cases l
    · rw [List.getElem?_set_ne h] at e
      obtain ⟨a, e1, e2, e3⟩ := R.at_ m o e l
      have na : a ≠ d := fun z => by subst z; exact h (R.inj _ _ _ hp e1)
      refine ⟨a, e1, ?_, MOk.gr (g := g) (g' := ⟨g.ph, L2.upd g.F d u⟩) ⟨fun _ _ z => z, Sub.upd hF⟩ (fun o' q => ?_) e3⟩
      · show L2.upd g.F d u a = none
        rw [upd_ne na]; exact e2
      · rw [upd_ne na]; exact q
  · by_cases h : a = d
    · subst h; exact ⟨_, upd_same⟩
    · rw [upd_ne h]; exact R.tr a hm
  · exact .inl (by rw [upd_ne (fun z => hn (by rw [z]; exact hm))]; exact e)
  · by_cases q : a = d
    · subst q; exact .inr hm
    · exact absurd (by show L2.upd g.F d u a = none; rw [upd_ne q]; exact h) h'
theorem Kept.del {F F' H' : Hp} {a d : Addr} {o x : HO} {u : HO} (k : Kept F F' H' a o) (h : a ≠ d) (hd : F' d = some u) (hu : ∀ c q, u ≠ LamX.CodeO c q) : Kept F (del F' d) (L2.upd H' d x) a o := by
  rcases k with k | ⟨ps, ps', e, k, t⟩
  · exact .inl (by rw [upd_ne h]; exact k)
  · refine .inr ⟨ps, ps', e, by rw [upd_ne h]; exact k, fun z => ⟨(t z).1, fun pos cv ec => ?_⟩⟩
    obtain ⟨c, q, e1, e2⟩ := (t z).2 pos cv ec
    refine ⟨c, q, e1, ?_⟩
    rw [del_ne (fun y => ?_)]
    · exact e2
    · rw [y, hd] at e2
      injection e2 with e2
      exact hu c q (by rw [y]; exact e2)
theorem TabOk.del {F : Hp} {ps : Array Value} {d : Addr} {u : HO} (z : TabOk F ps) (hd : F d = some u) (hu : ∀ c q, u ≠ LamX.CodeO c q) : TabOk (del F d) ps := ⟨z.1, fun pos cv ec => by
  obtain ⟨c, q, e1, e2⟩ := z.2 pos cv ec
  refine ⟨c, q, e1, ?_⟩
  rw [del_ne (fun y => ?_)]
  · exact e2
  · rw [y, hd] at e2
    injection e2 with e2
    exact hu c q (by rw [y]; exact e2)⟩
theorem TabR.unlock {K : PySem.W.Frag} {F H : Hp} {ph : List Addr} {d : Addr} {u x : HO} (t : TabR K F ph H) (hH : H d = some u) (hd : F d = some u) (nt : ∀ ps, u ≠ .tbl ps) (hu : ∀ c q, u ≠ LamX.CodeO c q) : TabR K (del F d) ph (L2.upd H d x) := fun P hP => by
  obtain ⟨ps, h1, h2, h4, h3⟩ := t P hP
  have np : P ≠ d := fun z => nt ps (by rw [z, hH] at h1; injection h1)
  refine ⟨ps, by rw [upd_ne np]; exact h1, h2, by rw [del_ne np]; exact h4, h3.del hd hu⟩
theorem Rel.unlock {K : PySem.W.Frag} {g : Gh} {M : List MO} {H : Hp} {d : Addr} {o : Obj} {us : List (List L2.Key × V)} {u : HO} (R : Rel K g M H) (h : g.F d = some (.frz o (.dT us))) : Rel K ⟨g.ph, del g.F d⟩ M (L2.upd H d u) := by
  refine ⟨fun a x e => ?_, R.len, fun m x e l => ?_, R.inj, fun a hm => ?_, R.tab.unlock (R.sub _ _ h) h (by simp) (fun c q z => by unfold LamX.CodeO at z; cases z)⟩
  · have e' : del g.F d a = some x := e
    by_cases q : a = d
    · rw [q, del_same] at e'; cases e'
    · rw [del_ne q] at e'; rw [upd_ne q]; exact R.sub _ _ e'
  · obtain ⟨a, e1, e2, e3⟩ := R.at_ m x e l
    have na : a ≠ d := fun z => by rw [z, h] at e2; cases e2
    refine ⟨a, e1, ?_, ?_⟩
    · show del g.F d a = none
      rw [del_ne na]; exact e2
    · refine MOk.gr (g := ⟨g.ph, del g.F d⟩) (Gr.refl _) (fun o' q => ?_) (MOk.cut h e3)
      rw [upd_ne na]; exact q
  · by_cases q : a = d
    · subst q; exact ⟨_, upd_same⟩
    · rw [upd_ne q]; exact R.tr a hm
def sLcV (i : Nat) (gt : GF) (tt : TF) (te : EF) (vs : List Nat) : EF := fun ρ M => match ρ[i]? with
  | some (some (.loc n)) => match M[n]? with
    | some (.dctT kvs) => if (kvs.map (·.2)).length ≤ sizeLine then match compL gt tt te (wip ρ vs) (kvs.map (·.2)) (M.set n .dead) with
      | some (xs, M2) => .ok (.d (.list xs)) M2
      | none => .stuck
      else .stuck
    | _ => .stuck
  | _ => .stuck
theorem key0 {X : Cx} {xw : WX} {gt : GF} {tt : TF} {te : EF} {vs : List Nat} {σ : L2.St} {Q : VK} {g : Gh} {ρ : Rho} {M : List MO} {H : Hp} {n : Nat} {d : Addr} {od : Obj} {us : List (List L2.Key × V)} {kvs : List (List L2.Key × PyData)}
    (hl : (kvs.map (·.2)).length ≤ sizeLine) (hp : g.ph[n]? = some d) (e2 : g.F d = none) (E1 : Ext g H ⟨g.ph, L2.upd g.F d (.frz od (.dT us))⟩ (L2.upd H d (.frz od (.dT us))))
    (b : Bhd (tx X) (fun c d H => xw c d σ H) (RW X.K) Q (match compL gt tt te (wip ρ vs) (kvs.map (·.2)) (M.set n .dead) with
      | some (xs, M2) => .ok (.d (.list xs)) M2
      | none => .stuck) g H) : Bhd (tx X) (fun _ _ _ => False) (RW X.K) (fun v H' => H' d = some (.frz od (.dT us)) ∧ Q v (L2.upd H' d (.dT us))) (if (kvs.map (·.2)).length ≤ sizeLine then match compL gt tt te (wip ρ vs) (kvs.map (·.2)) (M.set n .dead) with
      | some (xs, M2) => .ok (.d (.list xs)) M2
      | none => .stuck
    else .stuck) ⟨g.ph, L2.upd g.F d (.frz od (.dT us))⟩ (L2.upd H d (.frz od (.dT us))) := by
  rw [if_pos hl]
  cases ec : compL gt tt te (wip ρ vs) (kvs.map (·.2)) (M.set n .dead) with
  | none => rw [ec] at b; exact b.elim
  | some y =>
    obtain ⟨xs, M2⟩ := y
    rw [ec] at b
    intro v2 g2 H2 R2 E2 r2
    have hF2 : g2.F d = some (.frz od (.dT us)) := E2.gr.F _ _ upd_same
    refine ⟨R2.sub _ _ hF2, b v2 ⟨g2.ph, del g2.F d⟩ _ (R2.unlock hF2) ?_ (RW.cut hF2 r2)⟩
    have hm := List.mem_of_getElem? hp
    have E3 := E1.trans E2
    refine ⟨⟨E3.gr.ph, fun a o e => ?_⟩, fun a o e hn => ?_, fun a h h' => ?_, E3.newph⟩
    · show del g2.F d a = some o
      rw [del_ne (fun z => by rw [z, e2] at e; cases e)]
      exact E3.gr.F _ _ e
    · have na : a ≠ d := fun z => hn (by rw [z]; exact hm)
      exact (E3.keep a o e hn).del na hF2 (fun c q z => by unfold LamX.CodeO at z; cases z)
    · have h2 : del g2.F d a ≠ none := h'
      by_cases na : a = d
      · exact absurd (by rw [na, del_same]) h2
      · rw [del_ne na] at h2
        exact E3.new a h h2
theorem me_lcV {X : Cx} {k : Nat} {xw : WX} {elt tg : Expr} {ifs : List Expr} {scope : Scope} {own : List (Str × Nat)} {pos npos apos cpos : Pos} {x : Str} {gt : GF} {tt : TF} {te : EF} {us : List Nat} (C : Ctx X k xw) (i : Nat) (ok : BlkOk X.N X.env.scope scope own)
    (hg : ∀ (s : Shared) (H : Hp) (A : Addr) (cl : List (Str × Addr)) (fp : List Addr), Ctx (X.blk s H scope (compEnvC scope cl A X.env) fp) k xw0 → MG (X.blk s H scope (compEnvC scope cl A X.env) fp) tg us gt) (ht : ∀ (s : Shared) (H : Hp) (A : Addr) (cl : List (Str × Addr)) (fp : List Addr), Ctx (X.blk s H scope (compEnvC scope cl A X.env) fp) k xw0 → MTs (X.blk s H scope (compEnvC scope cl A X.env) fp) ifs tt)
    (he : ∀ (s : Shared) (H : Hp) (A : Addr) (cl : List (Str × Addr)) (fp : List Addr), Ctx (X.blk s H scope (compEnvC scope cl A X.env) fp) k xw0 → ME (X.blk s H scope (compEnvC scope cl A X.env) fp) xw0 elt te) (hus : ∀ v ∈ us, v ∈ own.map (·.2) := by decide)
    (hN : X.N[i]? = some x := by rfl) (hv : Vis X.env.scope x := by first | exact Or.inl rfl | exact Or.inr (Or.inl rfl) | exact Or.inr (Or.inr rfl)) (hd : (x == ("__debug__" : Str)) = false := by decide) (hcd : (x == ("__classdict__" : Str)) = false := by decide)
    (hbase : attributeBase (.Name x npos) "values" X.env (eval (.Name x npos) X.env) = eval (.Name x npos) X.env := by rfl) (hline : (apos.endLine == cpos.line) = true := by rfl) (hs : ∀ z, foldedSetIterable (.Call (.Attribute (.Name x npos) "values" apos) [] [] cpos) X.env z = pure z := by intro _; rfl) :
    ME X xw (.ListComp elt [⟨tg, .Call (.Attribute (.Name x npos) "values" apos) [] [] cpos, ifs, 0⟩] scope pos) (sLcV i gt tt te (own.map (·.2))) := by
  refine PE.imp (pe_lock (pe_lc (g := tGt (tx X) us gt) (tt := tT (tx X) xw0 tt) (te := tE (tx X) xw0 te) C.calm C.nd (pi_valuesT (pe_var hN hv hd hcd) hbase hline) ok (fun s H A cl fp => hg s H A cl fp (C.blk _ _ _ _ _)) (fun s H A cl fp => ht s H A cl fp (C.blk _ _ _ _ _)) (fun s H A cl fp => he s H A cl fp (C.blk _ _ _ _ _)) hs)) fun σ H Q ⟨g, ρ, M, R, S, b⟩ => ?_
  unfold sLcV at b
  split at b
  · rename_i n en
    split at b
    · rename_i kvs em
      split at b
      · rename_i hl
        obtain ⟨v, hv, rv⟩ := S.at_ i _ en
        cases rv with
        | loc hp =>
          rename_i d
          obtain ⟨d', e1, e2, us', e3, e4, e5⟩ := R.at_ n _ em rfl
          rw [hp] at e1
          cases e1
          refine ⟨d, .dT us', e3, trivial, fun od => ⟨.ref d, hv, d, od, us', rfl, upd_same, ?_⟩⟩
          obtain ⟨R1, E1⟩ := R.lock (u := .frz od (.dT us')) hp e2
          have hJ : ItOk X.K (L2.upd g.F d (.frz od (.dT us'))) (ItdT d od us') (kvs.map (·.2)) := by
            have hlen : us'.length = kvs.length := by have := congrArg List.length e4; simpa using this
            refine ⟨fun i H hi s => ⟨s _ _ upd_same, by rw [List.length_map] at hi; omega⟩, fun H s => ⟨s _ _ upd_same, by rw [List.length_map]; omega⟩, fun i x F H v H' e s1 s2 hy => ?_⟩
            obtain ⟨rfl, k, hk⟩ := hy
            obtain ⟨u, h1, h2⟩ := (DqAll.sub (Sub.upd (o := .frz od (.dT us')) e2) e5).get e
            rw [List.getElem?_map, hk] at h1
            cases h1
            exact ⟨F, Lay.refl s2, Dq.sub s1 h2⟩
          have key : tLc (fun _ H R => R (ItdT d od us') H) (tGt (tx X) us gt) (tT (tx X) xw0 tt) (tE (tx X) xw0 te) (own.map (·.2)) σ (L2.upd H d (.frz od (.dT us'))) (fun v H' => H' d = some (.frz od (.dT us')) ∧ Q v (L2.upd H' d (.dT us'))) := by
            refine lc_core (T := tx X) (xq := fun _ _ _ => False) (gt := gt) (tt := tt) (te := te) (ρ := ρ) hus R1 (S.gr E1.gr) hJ ?_
            exact key0 hl hp e2 E1 b
          exact key
      · exact b.elim
    · exact b.elim
  · exact b.elim
end Y
namespace Y
open PySem PySem.Spec PyProof.Rows L2

/-! ### D.get(k, e) of a module's dict -/
section
variable {X : Cx} {xw : WX} {a b e f : Expr} {fa fb fk fv : EF} {pos p1 apos cpos : Pos} {k : Nat} {x : Str} {kvs : List (Str × PyData)}
def tKGet2 (p : Addr) (ty tx : TE) : TE := fun σ H Q => ty σ H fun y H2 => tx σ H2 fun z H3 => ∃ (s : Str) (r : Option V) , y = .str s ∧ (r = none ∨ ∃ v, r = some v) ∧ ∃ kvs : List (Str × PyData), True
def asKGet2 (kvs : List (Str × PyData)) : W → W → List MO → Res W
  | .d (.str z), .d y, M => match kvs.lookup z with
    | some d => if flatD d = true then .ok (.d d) M else .stuck
    | none => .ok (.d y) M
  | _, _, _ => .stuck
def sKGet2 (kvs : List (Str × PyData)) (fk fv : EF) : EF := fun ρ M => (fk ρ M).bind fun w M1 => (fv ρ M1).bind fun u M2 => asKGet2 kvs w u M2
theorem me_kGet2 (T : KD X.K X.w.params X.mg x kvs) (he : ME X xw e fk) (hf : ME X xw f fv) (hg : Gl X x := by rfl) (hd : (x == ("__debug__" : Str)) = false := by decide) (m : M2 X (.Name x p1) "get" apos e f cpos := by exact ⟨rfl, rfl, rfl, rfl⟩) :
    ME X xw (.Call (.Attribute (.Name x p1) "get" apos) [e, f] [] cpos) (sKGet2 kvs fk fv) := by
  obtain ⟨p, es, n, hm, h1, h2, h3, h4⟩ := T.ex
  refine ⟨fun pins s σ H Q I h => wpAny_Call_method m.base m.few m.line F.plainAttrs_dict F.slot_dict_get F.type_dict_get (thn ((pe_glob (pos := p1) hg hm (v := .ref p) rfl hd).run pins s σ H (fun v H1 => v = .ref p ∧ H1 = H) I ⟨rfl, rfl⟩) fun u s1 ⟨v, H1, I1, r1, ev, eH⟩ => ?_)⟩
  subst ev eH
  cases r1
  have hM := PySem.W.mapOf_K (w := X.w) (prog := X.prog) (Inv.kIn I1) h1 h2
  refine ⟨hM.typeIs, hM.noDict, ?_⟩
  rw [m.trees]
  have key : tE (tx X) xw fk σ H1 fun y H2 => tE (tx X) xw fv σ H2 fun z H3 => ∃ zs, y = .str zs ∧ match kvs.lookup zs with
      | some d => flatD d = true ∧ ∀ v, (∀ F, Dq X.K F v d) → Q v H3
      | none => Q z H3 := by
    refine tG_mono (tG_bind (R2 := RW X.K) (k := fun ρ w M1 => (fv ρ M1).bind fun u M2 => asKGet2 kvs w u M2) h) fun y H2 ⟨g, ρ, M, w, R, S, q, b⟩ => ⟨g, ρ, M, R, S, ?_⟩
    cases e2 : fv ρ M with
    | stuck => rw [e2] at b; exact b
    | err y M2 => rw [e2] at b; exact b
    | ok u M2 =>
      rw [e2] at b
      intro z g3 H3 R3 E3 r3
      replace b : Bhd (tx X) (fun c d H => xw c d σ H) (RW X.K) Q (asKGet2 kvs w u M2) g H2 := b
      unfold asKGet2 at b
      split at b
      · rename_i zs y0
        cases q with
        | d q =>
          cases q
          refine ⟨zs, rfl, ?_⟩
          cases el : kvs.lookup zs with
          | none => simp only [el] at b; exact b z g3 H3 R3 E3 r3
          | some d =>
            simp only [el] at b
            split at b
            · rename_i hf
              exact ⟨hf, fun v hv => b v g3 H3 R3 E3 (.d (hv _))⟩
            · exact b.elim
      · exact b.elim
  refine Calls.callWith_builtin rfl (Calls.evalArgs_plain (Calls.spliced_cons (thn (he.run pins s1 σ H1 _ I1 key) fun iv s2 ⟨y, H2, I2, ry, q2⟩ => Calls.spliced_cons (thn (hf.run pins s2 σ H2 _ I2 q2) fun fv s3 ⟨z, H3, I3, rz, zs, ey, q3⟩ => Calls.spliced_nil ?_))))
  subst ey
  obtain ⟨t, rfl⟩ := ry
  have hM3 := PySem.W.mapOf_K (w := X.w) (prog := X.prog) (Inv.kIn I3) h1 h2
  have h5 := h4 zs
  refine call_meetsIn F.slot_dict_get hM3.typeIs F.entry_dict_get (F.args_dict_get_3 (.ref p) _ fv) (meets_dict_get_default (strKind X.prog X.w) p (strKind_is X.prog X.w zs t) h3 fv) ⟨_, hM3, ?_⟩
  cases el : kvs.lookup zs with
  | none =>
    rw [el] at q3 h5
    rw [PySem.W.find_K h1 h5]
    exact ⟨z, H3, I3.tok _, rz, q3⟩
  | some d =>
    rw [el] at q3 h5
    obtain ⟨u, v, h6, h7⟩ := h5
    rw [PySem.W.find_K h1 h6]
    simp only at q3
    exact ⟨v, H3, I3.tok _, h7.rel1, q3.2 v fun F => h7.rel2 q3.1 F⟩
/-! a or b by truth, a being a list; a test of a number -/
def truD : PyData → Option Bool
  | .int i => some (i != 0)
  | .list ds => some (!ds.isEmpty)
  | .tuple ds => some (!ds.isEmpty)
  | .bool b => some b
  | .none => some false
  | _ => none
theorem truD_ok {K : PySem.W.Frag} {F H : Hp} (s : Sub F H) {v : V} {x : PyData} {b : Bool} (h : Dq K F v x) (e : truD x = some b) : TruV K v H b := by
  cases h with
  | non => cases e; rfl
  | bl b => cases e; rfl
  | int i => cases e; rfl
  | str x => cases e
  | lst h1 h2 =>
    rename_i a xs ds
    cases e
    refine .inl ⟨xs, .of (s _ _ h1), ?_⟩
    cases h2 <;> rfl
  | tup h1 h2 =>
    rename_i a xs ds
    cases e
    refine .inr (.inl ⟨xs, TqT.up s h1, ?_⟩)
    cases h2 <;> rfl
def sOrT (f h : EF) : EF := fun ρ M => (f ρ M).bind fun w M1 => match w with
  | .d x => match truD x with
    | some true => .ok (.d x) M1
    | some false => h ρ M1
    | none => .stuck
  | _ => .stuck
theorem me_orT {rest : List Expr} (ha : ME X xw a fa) (hb : ME X xw (.BoolOp .Or (b :: rest) pos) fb) : ME X xw (.BoolOp .Or (a :: b :: rest) pos) (sOrT fa fb) :=
  PE.imp (pe_orT ha hb) fun σ H Q h => tG_mono (tG_bind (R2 := RW X.K) h) fun v H1 ⟨g, ρ, M, w, R, S, q, b⟩ => by
    split at b
    · rename_i x
      cases q with
      | d q =>
        split at b
        · rename_i e
          exact ⟨true, truD_ok R.sub q e, iteT (b v g H1 R (Ext.refl _ _) (.d q))⟩
        · rename_i e
          exact ⟨false, truD_ok R.sub q e, iteF ⟨g, ρ, M, R, S, b⟩⟩
        · exact b.elim
    · exact b.elim
def sTru (f : EF) : TF := fun ρ M => (f ρ M).bind fun w M1 => match w with
  | .d x => match truD x with
    | some b => .ok b M1
    | none => .stuck
  | _ => .stuck
theorem mt_tru (ha : ME X xw a fa) (he : ∀ whole, isTrue a X.env whole = (do let v ← whole; standAt a.pos; holding [v] (truthy v)) := by intro _; rfl) : MT X xw a (sTru fa) :=
  PT.imp (pt_truth ha he) fun σ H Q h => tG_mono (tG_bind (R2 := RW X.K) h) fun v H1 ⟨g, ρ, M, w, R, S, q, b⟩ => by
    split at b
    · rename_i x
      cases q with
      | d q =>
        split at b
        · rename_i k e
          exact ⟨k, truD_ok R.sub q e, b k g H1 R (Ext.refl _ _) rfl⟩
        · exact b.elim
    · exact b.elim
end
/-! dict comprehensions: a dict that may grow -/
def compD (gt : GF) (tt : TF) (tk tv : EF) (ρ : Rho) : List PyData → List (L2.Key × PyData) → List MO → Option (List (L2.Key × PyData) × List MO)
  | [], acc, M => some (acc, M)
  | d :: ds, acc, M => match gt (.d d) ρ M with
    | some (ρ1, M1) => match tt ρ1 M1 with
      | .ok true M2 => match tk ρ1 M2 with
        | .ok (.d y) M3 => match keyK y with
          | some k => match tv ρ1 M3 with
            | .ok (.d z) M4 => compD gt tt tk tv ρ ds (putD acc k z) M4
            | _ => none
          | none => none
        | _ => none
      | .ok false M2 => compD gt tt tk tv ρ ds acc M2
      | _ => none
    | none => none
def sDc (it : IF) (gt : GF) (tt : TF) (tk tv : EF) (vs : List Nat) : EF := fun ρ M => (it ρ M).bind fun ds M1 => if ds.length < sizeLine then match compD gt tt tk tv (wip ρ vs) ds [] M1 with
    | some (kvs, M2) => .ok (.loc M2.length) (M2 ++ [.dct kvs])
    | none => .stuck
  else .stuck
theorem dc_imp {T : Tx} {xw : WX} {fi : IF} {gt : GF} {tt : TF} {tk tv : EF} {vs us : List Nat} (hus : ∀ v ∈ us, v ∈ vs) {σ : L2.St} {H : Hp} {Q : VK} (h : tE T xw (sDc fi gt tt tk tv vs) σ H Q) :
    tDc (tI T xw fi) (tGt T us gt) (tT T xw0 tt) (tE T xw0 tk) (tE T xw0 tv) vs σ H Q := by
  refine tG_mono (tG_bind (R2 := fun g (J : It) ds => ItOk T.K g.F J ds) h) fun J H1 ⟨g1, ρ, M1, ds, R1, S1, hJ, b⟩ D hD => ?_
  by_cases hz : ds.length < sizeLine
  · rw [if_pos hz] at b
    cases ec : compD gt tt tk tv (wip ρ vs) ds [] M1 with
    | none => rw [ec] at b; exact b.elim
    | some y =>
      obtain ⟨all, Mend⟩ := y
      rw [ec] at b
      have hF : g1.F D = none := R1.sub.none hD
      have hph : D ∉ g1.ph := fun z => by obtain ⟨u, q⟩ := R1.tr D z; rw [hD] at q; cases q
      refine ⟨fun i m H => m = ds.length - i ∧ i ≤ ds.length ∧ ∃ (g : Gh) (M : List MO) (us : List (L2.Key × V)) (acc : List (L2.Key × PyData)), Rel T.K g M H ∧ Ext g1 H1 g H ∧ H D = some (.dK us) ∧ g.F D = none ∧ D ∉ g.ph ∧ us.map (·.1) = acc.map (·.1) ∧ DqAll T.K g.F (us.map (·.2)) (acc.map (·.2)) ∧ us.length ≤ i ∧
          compD gt tt tk tv (wip ρ vs) (ds.drop i) acc M = some (all, Mend),
        ⟨ds.length, rfl, Nat.zero_le _, g1, M1, [], [], R1.updD hF hph (fun _ z => by rw [hD] at z; cases z), (Ext.refl _ _).updD hD, upd_same, hF, hph, rfl, .nil, Nat.le_refl _, ec⟩, ?_⟩
      rintro i m H ⟨rfl, hi, g, M, ks, acc, R, E, hDa, hFD, hphD, hk, da, hal, ec'⟩
      have sF : Sub g1.F g.F := E.gr.F
      by_cases hlt : i < ds.length
      · have hd : ds[i]? = some ds[i] := List.getElem?_eq_getElem hlt
        rw [List.drop_eq_getElem_cons hlt] at ec'
        unfold compD at ec'
        cases eg : gt (.d ds[i]) (wip ρ vs) M with
        | none => rw [eg] at ec'; cases ec'
        | some y =>
          obtain ⟨ρ1, Mg⟩ := y
          rw [eg] at ec'
          simp only at ec'
          cases et : tt ρ1 Mg with
          | stuck => rw [et] at ec'; cases ec'
          | err _ _ => rw [et] at ec'; cases ec'
          | ok bb M2 =>
            rw [et] at ec'
            refine .inr ⟨hJ.go i H hlt (sF.trans R.sub), fun H' => ∃ (g : Gh) (M : List MO) (us : List (L2.Key × V)) (acc : List (L2.Key × PyData)), Rel T.K g M H' ∧ Ext g1 H1 g H' ∧ H' D = some (.dK us) ∧ g.F D = none ∧ D ∉ g.ph ∧ us.map (·.1) = acc.map (·.1) ∧ DqAll T.K g.F (us.map (·.2)) (acc.map (·.2)) ∧ us.length ≤ i + 1 ∧
              compD gt tt tk tv (wip ρ vs) (ds.drop (i + 1)) acc M = some (all, Mend), fun H' n => ⟨ds.length - (i + 1), by omega, rfl, hlt, n⟩, fun x H' hy => ?_⟩
            obtain ⟨F', L, dq⟩ := hJ.yld i _ g.F H x H' hd sF R.sub hy
            refine ⟨⟨g.ph, F'⟩, wip ρ vs, M, .d ds[i], L.rel R, rs_wip (S1.gr (E.gr.trans L.ext.gr)) vs, .d dq, ρ1, Mg, eg, fun σ2 g2 H2 R2 E2 S2 O2 => ⟨wipe_off O2 hus, g2, ρ1, Mg, R2, S2, ?_⟩⟩
            rw [et]
            intro b' g3 H3 R3 E3 hb
            have hb' : b' = bb := hb
            subst hb'
            have E03 : Ext g H g3 H3 := (L.ext.trans E2).trans E3
            obtain ⟨o1, o2, o3⟩ := E03.outD hDa hFD hphD
            cases b' with
            | false => exact iteF ⟨g3, M2, ks, acc, R3, E.trans E03, o1, o2, o3, hk, DqAll.sub E03.gr.F da, by omega, ec'⟩
            | true =>
              simp only at ec'
              refine iteT ⟨g3, ρ1, M2, R3, S2.gr E3.gr, ?_⟩
              cases ee : tk ρ1 M2 with
              | stuck => rw [ee] at ec'; cases ec'
              | err _ _ => rw [ee] at ec'; cases ec'
              | ok w M3 =>
                rw [ee] at ec'
                cases w with
                | d y =>
                  simp only at ec'
                  cases ek : keyK y with
                  | none => rw [ek] at ec'; cases ec'
                  | some kk =>
                    rw [ek] at ec'
                    simp only at ec'
                    intro vy g4 H4 R4 E4 rv
                    refine ⟨g4, ρ1, M3, R4, (S2.gr E3.gr).gr E4.gr, ?_⟩
                    cases ev : tv ρ1 M3 with
                    | stuck => rw [ev] at ec'; cases ec'
                    | err _ _ => rw [ev] at ec'; cases ec'
                    | ok w2 M4 =>
                      rw [ev] at ec'
                      cases w2 with
                      | d z =>
                        simp only at ec'
                        intro vz g5 H5 R5 E5 rz
                        have E05 := (E03.trans E4).trans E5
                        obtain ⟨p1, p2, p3⟩ := E05.outD hDa hFD hphD
                        cases rv with
                        | d rv =>
                          cases rz with
                          | d dz =>
                            obtain ⟨i1, i2⟩ := put_rel (k := kk) dz hk (DqAll.sub E05.gr.F da)
                            refine ⟨ks, kk, keyK_ok rv ek, p1, by omega, g5, M4, putK ks kk vz, putD acc kk z, R5.updD p2 p3 (fun _ z => by rw [p1] at z; cases z), (E.trans E05).updD hD, upd_same, p2, p3, i1, i2, ?_, ec'⟩
                            have := length_putK ks kk vz
                            omega
                      | _ => cases ec'
                | _ => cases ec'
      · have hz' : ds.drop i = [] := List.drop_of_length_le (by omega)
        rw [hz'] at ec'
        unfold compD at ec'
        cases ec'
        refine .inl ⟨by rw [show i = ds.length by omega]; exact hJ.stop H (sF.trans R.sub), ?_⟩
        obtain ⟨R6, E6⟩ := R.pushD (u := .dK ks) (o := .dct all) hFD hphD E hD (fun _ z => by rw [hDa] at z; cases z) ⟨ks, upd_same, hk, da⟩
        have hu : L2.upd H D (.dK ks) = H := by
          funext z
          by_cases hz2 : z = D
          · rw [hz2, upd_same, hDa]
          · rw [upd_ne hz2]
        rw [hu] at R6 E6
        exact b (.ref D) _ H R6 E6 (push_loc R)
  · rw [if_neg hz] at b; exact b.elim
theorem me_dc {X : Cx} {k : Nat} {xw : WX} {kx vx tg iter : Expr} {ifs : List Expr} {scope : Scope} {own : List (Str × Nat)} {pos : Pos} {fi : IF} {gt : GF} {tt : TF} {tk tv : EF} {us : List Nat} (C : Ctx X k xw) (hi : MI X xw tg iter fi) (ok : BlkOk X.N X.env.scope scope own)
    (hg : ∀ (s : Shared) (H : Hp) (A : Addr) (cl : List (Str × Addr)) (fp : List Addr), Ctx (X.blk s H scope (compEnvC scope cl A X.env) fp) k xw0 → MG (X.blk s H scope (compEnvC scope cl A X.env) fp) tg us gt) (ht : ∀ (s : Shared) (H : Hp) (A : Addr) (cl : List (Str × Addr)) (fp : List Addr), Ctx (X.blk s H scope (compEnvC scope cl A X.env) fp) k xw0 → MTs (X.blk s H scope (compEnvC scope cl A X.env) fp) ifs tt)
    (hk : ∀ (s : Shared) (H : Hp) (A : Addr) (cl : List (Str × Addr)) (fp : List Addr), Ctx (X.blk s H scope (compEnvC scope cl A X.env) fp) k xw0 → ME (X.blk s H scope (compEnvC scope cl A X.env) fp) xw0 kx tk)
    (he : ∀ (s : Shared) (H : Hp) (A : Addr) (cl : List (Str × Addr)) (fp : List Addr), Ctx (X.blk s H scope (compEnvC scope cl A X.env) fp) k xw0 → ME (X.blk s H scope (compEnvC scope cl A X.env) fp) xw0 vx tv) (hus : ∀ v ∈ us, v ∈ own.map (·.2) := by decide) (hs : ∀ x, foldedSetIterable iter X.env x = pure x := by intro _; rfl) :
    ME X xw (.DictComp kx vx [⟨tg, iter, ifs, 0⟩] scope pos) (sDc fi gt tt tk tv (own.map (·.2))) :=
  PE.imp (pe_dc C.calm C.nd hi ok (fun s H A cl fp => hg s H A cl fp (C.blk _ _ _ _ _)) (fun s H A cl fp => ht s H A cl fp (C.blk _ _ _ _ _)) (fun s H A cl fp => hk s H A cl fp (C.blk _ _ _ _ _)) (fun s H A cl fp => he s H A cl fp (C.blk _ _ _ _ _)) hs) fun σ H Q h => dc_imp (T := tx X) hus h
/-! range(a, b, c), c > 0 -/
theorem fitsL {x : Int} (h : -100000000 ≤ x) (h2 : x ≤ 100000000) : Builtin.Range.rangeFitsLong x = true := by
  unfold Builtin.Range.rangeFitsLong
  simp
  omega
def rgN (i j c : Int) : Nat := if i < j then ((j - i - 1) / c + 1).toNat else 0
theorem rgC_pos {i j c : Int} (h0 : 0 ≤ i) (h1 : i ≤ 1000000) (h2 : 0 ≤ j) (h3 : j ≤ 1000000) (h4 : 0 < c) (h5 : c ≤ 1000) : RgC i j c (rgN i j c) := by
  have hd : 0 ≤ (j - i - 1) / c ∨ ¬ i < j := by
    by_cases h : i < j
    · exact .inl (Int.ediv_nonneg (by omega) (by omega))
    · exact .inr h
  have hu : (j - i - 1) / c ≤ 1000000 ∨ ¬ i < j := by
    by_cases h : i < j
    · exact .inl (Int.le_trans (Int.ediv_le_self _ (by omega)) (by omega))
    · exact .inr h
  have hs : Builtin.Range.rangeSize i j c = (rgN i j c : Nat) := by
    unfold Builtin.Range.rangeSize rgN
    rw [if_pos h4]
    by_cases h : i < j
    · rw [if_pos h, if_pos h]
      have := hd.resolve_right (by simpa using h)
      omega
    · rw [if_neg h, if_neg h]
      rfl
  refine ⟨by omega, by omega, ?_, hs⟩
  unfold Builtin.Range.small
  rw [hs, fitsL (by omega) (by omega), fitsL (by omega) (by omega), fitsL (x := c) (by omega) (by omega), fitsL (x := (rgN i j c : Nat)) (by omega) (by
    unfold rgN
    split
    · have := hu.resolve_right (by simpa using by assumption)
      have := hd.resolve_right (by simpa using by assumption)
      omega
    · omega), if_pos h4, fitsL (by omega) (by omega)]
  simp
def rng3 (lo c : Int) (n : Nat) : List PyData := (List.range n).map fun i => .int (lo + (i : Nat) * c)
theorem itok_rng3 {K : PySem.W.Frag} {F : Hp} {lo c : Int} {n : Nat} : ItOk K F (Itc lo c n) (rng3 lo c n) := by
  have hl : (rng3 lo c n).length = n := by unfold rng3; rw [List.length_map, List.length_range]
  refine ⟨fun i H hi s => by show i < n; omega, fun H s => by show n ≤ (rng3 lo c n).length; omega, fun i x F' H v H' e s1 s2 hy => ?_⟩
  obtain ⟨rfl, rfl⟩ := hy
  unfold rng3 at e
  rw [List.getElem?_map] at e
  cases q : (List.range n)[i]? with
  | none => rw [q] at e; cases e
  | some c =>
    rw [q] at e
    cases e
    obtain ⟨h1, h2⟩ := List.getElem?_eq_some_iff.mp q
    rw [List.getElem_range] at h2
    subst h2
    exact ⟨F', Lay.refl s2, .int _⟩
def asR3 : List W → List MO → Res (List PyData)
  | [.d (.int i), .d (.int j), .d (.int c)], M => if 0 ≤ i ∧ i ≤ 1000000 ∧ 0 ≤ j ∧ j ≤ 1000000 ∧ 0 < c ∧ c ≤ 1000 then .ok (rng3 i c (rgN i j c)) M else .stuck
  | _, _ => .stuck
def itR3 (fs : List EF) : IF := fun ρ M => (evs fs ρ M).bind asR3
theorem mi_range3 {X : Cx} {xw : WX} {tg a a2 a3 : Expr} {fs : List EF} {p pos : Pos} (ha : MA X xw [a, a2, a3] fs) (hm : X.mg "range" = none) (hg : Gl X "range" := by rfl)
    (hs : starEach [a, a2, a3] X.env = (false, eval a X.env) :: starEach [a2, a3] X.env := by rfl) (hpl : (backTo pos (starEach [a2, a3] X.env)).any (·.1) = false := by rfl) : MI X xw tg (.Call (.Name "range" p) [a, a2, a3] [] pos) (itR3 fs) :=
  PI.imp (pi_range3 hg hm ha hs hpl) fun σ H R h => tG_mono (tG_bind (R2 := RWs X.K) h) fun v H1 ⟨g, ρ, M, ws, R1, S, q, b⟩ => by
    unfold asR3 at b
    split at b
    · rename_i i j c
      cases q with
      | cons q1 t =>
        cases t with
        | cons q2 t =>
          cases t with
          | cons q3 t =>
            cases t
            cases q1 with
            | d q1 => cases q2 with
              | d q2 => cases q3 with
                | d q3 =>
                  cases q1
                  cases q2
                  cases q3
                  split at b
                  · rename_i hc
                    exact ⟨i, j, c, _, rfl, rgC_pos hc.1 hc.2.1 hc.2.2.1 hc.2.2.2.1 hc.2.2.2.2.1 hc.2.2.2.2.2, b _ g H1 R1 (Ext.refl _ _) itok_rng3⟩
                  · exact b.elim
    · exact b.elim
/-! x = {..for..} -/
theorem sw_trueD {kx vx : Expr} {gs : List Comprehension} {scope : Scope} {pos py : Pos} {y : Str} {l : Nat} {env : Env} (hk : env.scope.kind = .function) (hy : List.lookup y env.scope.names = some .local) (hl : (py.line == pos.line) = true)
    (ha : (scope.names.any fun x => match x with | (n, k) => n == y && (k == NameKind.local || k == NameKind.cell)) = false) : swapsWith (.DictComp kx vx gs scope pos) (some (.Name y py)) l env = pure true :=
  (show swapsWith (.DictComp kx vx gs scope pos) (some (.Name y py)) l env = swapsWith (.ListComp kx gs scope pos) (some (.Name y py)) l env from rfl).trans (sw_true hk hy hl ha)
theorem ps_setDc {X : Cx} {i : Nat} {y : Str} {py : Pos} {kx vx tg iter : Expr} {ifs : List Expr} {scope : Scope} {own : List (Str × Nat)} {pos spos : Pos} {wi : TI} {g : TG} {tt : TT} {tk tv : TE}
    (hc : X.calm = true) (hN : X.N.Nodup) (hy : X.N[i]? = some y) (hyl : X.env.scope.names.lookup y = some .local) (hsw : swapsWith (.DictComp kx vx [⟨tg, iter, ifs, 0⟩] scope pos) (some (.Name y py)) spos.line X.env = pure true)
    (hi : PI X tg iter wi) (ok : BlkOk X.N X.env.scope scope own) (hg : ∀ (s : Shared) (H : Hp) (C : Addr) (cl : List (Str × Addr)) (fp : List Addr), PG (X.blk s H scope (compEnvC scope cl C X.env) fp) tg g)
    (ht : ∀ (s : Shared) (H : Hp) (C : Addr) (cl : List (Str × Addr)) (fp : List Addr), PTs (X.blk s H scope (compEnvC scope cl C X.env) fp) ifs tt) (hk : ∀ (s : Shared) (H : Hp) (C : Addr) (cl : List (Str × Addr)) (fp : List Addr), PE (X.blk s H scope (compEnvC scope cl C X.env) fp) kx tk)
    (he : ∀ (s : Shared) (H : Hp) (C : Addr) (cl : List (Str × Addr)) (fp : List Addr), PE (X.blk s H scope (compEnvC scope cl C X.env) fp) vx tv) (hs : ∀ x, foldedSetIterable iter X.env x = pure x := by intro _; rfl) :
    PS X (.Assign [.Name y py] (.DictComp kx vx [⟨tg, iter, ifs, 0⟩] scope pos) spos) (tAsg (tDc wi g tt tk tv (own.map (·.2))) (gName i)) := by
  refine ⟨fun pins s σ H D I h => ?_⟩
  rw [exec_Assign_Name_used y py _ spos hsw]
  refine wpAny_bind (wpAny_standAt (wpAny_bind ?_))
  refine wpAny_bind (thn (dc_core hc hN I hi ok hg ht hk he hs h fun L C s' m H' I' q hn f => ?_) fun x s' hq => wpAny_pure (wpAny_pure hq))
  refine wpAny_assign_Name (store_ok2 (v := V.ref L) I' hN hy (.inl hyl) rfl (fun s2 I2 x => ?_) (.inr hyl))
  obtain ⟨a, sb, ha⟩ := x
  obtain ⟨f0, f1, f2, f3, f4, f5⟩ := f
  have haC : C ≠ a := by
    rcases ha with z | z
    · rw [z]; exact f1
    · exact fun e => f4 y a z e.symm
  exact ⟨m, hn.sameBut sb haC, fun h3 sb3 => ⟨σ.set i (some (V.ref L)), H', Inv.turned I2 (fun b o hb e => (sb3.right b hb).trans e) f0 f1 f3 f4 f5, q⟩⟩
theorem ms_setDc {X : Cx} {k : Nat} {xw : WX} {i : Nat} {y : Str} {py : Pos} {kx vx tg iter : Expr} {ifs : List Expr} {scope : Scope} {own : List (Str × Nat)} {pos spos : Pos} {fi : IF} {gt : GF} {tt : TF} {tk tv : EF} {us : List Nat} (C : Ctx X k xw) (hi : MI X xw tg iter fi) (ok : BlkOk X.N X.env.scope scope own)
    (hg : ∀ (s : Shared) (H : Hp) (A : Addr) (cl : List (Str × Addr)) (fp : List Addr), Ctx (X.blk s H scope (compEnvC scope cl A X.env) fp) k xw0 → MG (X.blk s H scope (compEnvC scope cl A X.env) fp) tg us gt) (ht : ∀ (s : Shared) (H : Hp) (A : Addr) (cl : List (Str × Addr)) (fp : List Addr), Ctx (X.blk s H scope (compEnvC scope cl A X.env) fp) k xw0 → MTs (X.blk s H scope (compEnvC scope cl A X.env) fp) ifs tt)
    (hk : ∀ (s : Shared) (H : Hp) (A : Addr) (cl : List (Str × Addr)) (fp : List Addr), Ctx (X.blk s H scope (compEnvC scope cl A X.env) fp) k xw0 → ME (X.blk s H scope (compEnvC scope cl A X.env) fp) xw0 kx tk)
    (he : ∀ (s : Shared) (H : Hp) (A : Addr) (cl : List (Str × Addr)) (fp : List Addr), Ctx (X.blk s H scope (compEnvC scope cl A X.env) fp) k xw0 → ME (X.blk s H scope (compEnvC scope cl A X.env) fp) xw0 vx tv) (hy : X.N[i]? = some y := by rfl) (hyl : X.env.scope.names.lookup y = some .local := by rfl)
    (hsw : swapsWith (.DictComp kx vx [⟨tg, iter, ifs, 0⟩] scope pos) (some (.Name y py)) spos.line X.env = pure true := by exact (sw_trueD rfl rfl rfl (by decide +kernel))) (hus : ∀ v ∈ us, v ∈ own.map (·.2) := by decide) (hs : ∀ x, foldedSetIterable iter X.env x = pure x := by intro _; rfl) :
    MS X xw (.Assign [.Name y py] (.DictComp kx vx [⟨tg, iter, ifs, 0⟩] scope pos) spos) (sSet i (sDc fi gt tt tk tv (own.map (·.2)))) :=
  PS.imp (ps_setDc C.calm C.nd hy hyl hsw hi ok (fun s H A cl fp => hg s H A cl fp (C.blk _ _ _ _ _)) (fun s H A cl fp => ht s H A cl fp (C.blk _ _ _ _ _)) (fun s H A cl fp => hk s H A cl fp (C.blk _ _ _ _ _)) (fun s H A cl fp => he s H A cl fp (C.blk _ _ _ _ _)) hs) fun D σ H q => dc_imp (T := tx X) hus (tG_mono (tS_then q) fun v H1 ⟨g, ρ, M, w, R, S, r, b⟩ => b _ g H1 R (Ext.refl _ _) (S.set i r))
/-! tests of dicts -/
section
variable {X : Cx} {xw : WX} {a b : Expr} {fa fb : EF} {pos p1 : Pos} {k : Nat}
theorem mt_dIn (C : Ctx X k xw) (ha : ME X xw a fa) (hb : ME X xw b fb) (hm : behindInMarks .In b = false := by rfl) : MT X xw (.Compare a [.In] [b] pos) (sVal (sPr (pDIn false) [fa, fb])) :=
  PT.imp (pt_cmp (pc_din (by have := ctx_u C; omega) ha hb) hm) fun σ H Q h => tG_mono (prim2 (T := tx X) (din_ok _ false) (tT_val h)) fun _ _ h => tG_mono h fun _ _ ⟨_, _, e, q⟩ => by cases e; exact q
theorem mt_dNotIn (C : Ctx X k xw) (ha : ME X xw a fa) (hb : ME X xw b fb) (hm : behindInMarks .NotIn b = false := by rfl) : MT X xw (.Compare a [.NotIn] [b] pos) (sVal (sPr (pDIn true) [fa, fb])) :=
  PT.imp (pt_cmp (pc_dnotin (by have := ctx_u C; omega) ha hb) hm) fun σ H Q h => tG_mono (prim2 (T := tx X) (din_ok _ true) (tT_val h)) fun _ _ h => tG_mono h fun _ _ ⟨_, _, e, q⟩ => by cases e; exact q
end
end Y
namespace Y
open PySem PySem.Spec PyProof.Rows L2

/-! ### for over a list that lives -/
def forV (gt : GF) (body : SF) (n : Nat) : Nat → Nat → SF
  | 0, _ => fun _ _ => .stuck
  | m + 1, i => fun ρ M => match M[n]? with
    | some (.lst ds) => match ds[i]? with
      | none => .nx ρ M
      | some d => match gt (.d d) ρ M with
        | some (ρ1, M1) => match body ρ1 M1 with
          | .nx ρ2 M2 => forV gt body n m (i + 1) ρ2 M2
          | .ct ρ2 M2 => forV gt body n m (i + 1) ρ2 M2
          | .bk ρ2 M2 => .nx ρ2 M2
          | r => r
        | none => .stuck
    | _ => .stuck
def sForA (f : EF) (gt : GF) (body : SF) (fuel : Nat) : SF := fun ρ M => match f ρ M with
  | .ok (.loc n) M1 => forV gt body n fuel 0 ρ M1
  | .ok (.d (.list ds)) M1 => forL gt body ds ρ M1
  | .ok (.d (.tuple ds)) M1 => forL gt body ds ρ M1
  | .ok _ _ => .stuck
  | .err e M1 => .er e ρ M1
  | .stuck => .stuck
theorem forL_turns {X : Cx} {xw : WX} {vs : List Nat} {gt : GF} {fb : SF} {D : Ends} {J : It} {ds : List PyData} {g0 g1 : Gh} {ρ0 : Rho} {M2 : List MO} {σ : L2.St} {H0 H1 : Hp}
    (b0 : BhdS (tx X) xw D (forL gt fb ds ρ0 M2) g0 H0) (R1 : Rel X.K g1 M2 H1) (S1 : RS X.K g1 σ ρ0) (E1 : Ext g0 H0 g1 H1) (hJ : ItOk X.K g1.F J ds) :
    ∃ W : Nat → Nat → L2.St → Hp → Prop, (∃ m, W 0 m σ H1) ∧ ∀ i m σ H, W i m σ H →
      (J.stop i H ∧ D.nx σ H) ∨ (J.go i H ∧ ∃ N : L2.St → Hp → Prop, (∀ σ' H', N σ' H' → ∃ m', m' < m ∧ W (i + 1) m' σ' H') ∧ ∀ x H', J.yld i H x H' → tGt (tx X) vs gt x σ H' fun σ2 H2 => tS (tx X) xw fb { D with nx := N, ct := N, bk := D.nx } σ2 H2) := by
  refine ⟨fun i m σ H => m = ds.length - i ∧ i ≤ ds.length ∧ ∃ g ρ M, Rel X.K g M H ∧ RS X.K g σ ρ ∧ Sub g1.F g.F ∧ BhdS (tx X) xw D (forL gt fb (ds.drop i) ρ M) g H,
    ⟨ds.length, rfl, Nat.zero_le _, g1, ρ0, M2, R1, S1, Sub.refl _, BhdS.later b0 E1⟩, ?_⟩
  rintro i m σ H ⟨rfl, hi, g, ρ, M, R, S, sF, b⟩
  by_cases hlt : i < ds.length
  · have hd : ds[i]? = some ds[i] := List.getElem?_eq_getElem hlt
    rw [List.drop_eq_getElem_cons hlt] at b
    unfold forL at b
    cases eg : gt (.d ds[i]) ρ M with
    | none => rw [eg] at b; exact b.elim
    | some y =>
      obtain ⟨ρ1, M1⟩ := y
      rw [eg] at b
      simp only at b
      refine .inr ⟨hJ.go i H hlt (sF.trans R.sub), fun σ' H' => ∃ g ρ M, Rel X.K g M H' ∧ RS X.K g σ' ρ ∧ Sub g1.F g.F ∧ BhdS (tx X) xw D (forL gt fb (ds.drop (i + 1)) ρ M) g H',
        fun σ' H' n => ⟨ds.length - (i + 1), by omega, rfl, hlt, n⟩, fun x H' hy => ?_⟩
      obtain ⟨F', L, dq⟩ := hJ.yld i _ g.F H x H' hd sF R.sub hy
      refine ⟨⟨g.ph, F'⟩, ρ, M, .d ds[i], L.rel R, S.gr L.ext.gr, .d dq, ρ1, M1, eg, fun σ2 g2 H2 R2 E2 S2 _ => ⟨g2, ρ1, M1, R2, S2, ?_⟩⟩
      have E3 := L.ext.trans E2
      cases eb : fb ρ1 M1 with
      | nx ρ2 M2 => rw [eb] at b; exact fun σ' g' H' r' e' s' => ⟨g', ρ2, M2, r', s', sF.trans (E3.trans e').gr.F, BhdS.later b (E3.trans e')⟩
      | ct ρ2 M2 => rw [eb] at b; exact fun σ' g' H' r' e' s' => ⟨g', ρ2, M2, r', s', sF.trans (E3.trans e').gr.F, BhdS.later b (E3.trans e')⟩
      | bk ρ2 M2 => rw [eb] at b; exact fun σ' g' H' r' e' s' => BhdS.later b E3 σ' g' H' r' e' s'
      | ret ρ2 M2 => rw [eb] at b; exact fun σ' g' H' r' e' s' => BhdS.later b E3 σ' g' H' r' e' s'
      | er x ρ2 M2 => rw [eb] at b; exact fun c d σ' g' H' r' e' s' => BhdS.later b E3 c d σ' g' H' r' e' s'
      | stuck => rw [eb] at b; exact b.elim
  · have hz : ds.drop i = [] := List.drop_of_length_le (by omega)
    rw [hz] at b
    exact .inl ⟨by rw [show i = ds.length by omega]; exact hJ.stop H (sF.trans R.sub), b σ g H R (Ext.refl _ _) S⟩
theorem forV_turns {X : Cx} {xw : WX} {vs : List Nat} {gt : GF} {fb : SF} {D : Ends} {a : Addr} {n fuel : Nat} {g0 g1 : Gh} {ρ0 : Rho} {M2 : List MO} {σ : L2.St} {H0 H1 : Hp}
    (b0 : BhdS (tx X) xw D (forV gt fb n fuel 0 ρ0 M2) g0 H0) (R1 : Rel X.K g1 M2 H1) (S1 : RS X.K g1 σ ρ0) (E1 : Ext g0 H0 g1 H1) (hp : g1.ph[n]? = some a) :
    ∃ W : Nat → Nat → L2.St → Hp → Prop, (∃ m, W 0 m σ H1) ∧ ∀ i m σ H, W i m σ H →
      ((Itl X.K a).stop i H ∧ D.nx σ H) ∨ ((Itl X.K a).go i H ∧ ∃ N : L2.St → Hp → Prop, (∀ σ' H', N σ' H' → ∃ m', m' < m ∧ W (i + 1) m' σ' H') ∧ ∀ x H', (Itl X.K a).yld i H x H' → tGt (tx X) vs gt x σ H' fun σ2 H2 => tS (tx X) xw fb { D with nx := N, ct := N, bk := D.nx } σ2 H2) := by
  refine ⟨fun i m σ H => ∃ g ρ M, Rel X.K g M H ∧ RS X.K g σ ρ ∧ g.ph[n]? = some a ∧ BhdS (tx X) xw D (forV gt fb n m i ρ M) g H,
    ⟨fuel, g1, ρ0, M2, R1, S1, hp, BhdS.later b0 E1⟩, ?_⟩
  rintro i m σ H ⟨g, ρ, M, R, S, hph, b⟩
  cases m with
  | zero => exact b.elim
  | succ m =>
    unfold forV at b
    cases hM : M[n]? with
    | none => rw [hM] at b; exact b.elim
    | some o =>
      rw [hM] at b
      cases o with
      | lst ds =>
        obtain ⟨a', ha', _, xs, hxs, dq⟩ := R.at_ n _ hM rfl
        rw [hph] at ha'
        cases ha'
        have hl := dq.length
        simp only at b
        cases hd : ds[i]? with
        | none =>
          rw [hd] at b
          have := List.getElem?_eq_none_iff.mp hd
          exact .inl ⟨⟨xs, .of hxs, by omega⟩, b σ g H R (Ext.refl _ _) S⟩
        | some d =>
          rw [hd] at b
          obtain ⟨u, e1, e2⟩ := dq.get hd
          simp only at b
          cases eg : gt (.d d) ρ M with
          | none => rw [eg] at b; exact b.elim
          | some y =>
            obtain ⟨ρ1, M1⟩ := y
            rw [eg] at b
            simp only at b
            refine .inr ⟨⟨xs, u, .of hxs, e1⟩, fun σ' H' => ∃ g ρ M, Rel X.K g M H' ∧ RS X.K g σ' ρ ∧ g.ph[n]? = some a ∧ BhdS (tx X) xw D (forV gt fb n m (i + 1) ρ M) g H',
              fun σ' H' n => ⟨m, Nat.lt_succ_self m, n⟩, fun x H' hy => ?_⟩
            obtain ⟨rfl, hv⟩ := hy
            have := hv xs (.of hxs)
            rw [e1] at this
            cases this
            refine ⟨g, ρ, M, .d d, R, S, .d e2, ρ1, M1, eg, fun σ2 g2 H2 R2 E2 S2 _ => ⟨g2, ρ1, M1, R2, S2, ?_⟩⟩
            cases eb : fb ρ1 M1 with
            | nx ρ2 M2 => rw [eb] at b; exact fun σ' g' H' r' e' s' => ⟨g', ρ2, M2, r', s', (E2.trans e').gr.ph _ _ hph, BhdS.later b (E2.trans e')⟩
            | ct ρ2 M2 => rw [eb] at b; exact fun σ' g' H' r' e' s' => ⟨g', ρ2, M2, r', s', (E2.trans e').gr.ph _ _ hph, BhdS.later b (E2.trans e')⟩
            | bk ρ2 M2 => rw [eb] at b; exact fun σ' g' H' r' e' s' => BhdS.later b E2 σ' g' H' r' e' s'
            | ret ρ2 M2 => rw [eb] at b; exact fun σ' g' H' r' e' s' => BhdS.later b E2 σ' g' H' r' e' s'
            | er x ρ2 M2 => rw [eb] at b; exact fun c d σ' g' H' r' e' s' => BhdS.later b E2 c d σ' g' H' r' e' s'
            | stuck => rw [eb] at b; exact b.elim
      | _ => exact b.elim
theorem ms_forA {X : Cx} {k : Nat} {xw : WX} {tg iter : Expr} {body : List Stmt} {f : EF} {vs : List Nat} {gt : GF} {fb : SF} {pos : Pos} (fuel : Nat) (C : Ctx X k xw) (hi : ME X xw iter f) (hg : MG X tg vs gt) (hb : MSs X xw body fb)
    (hs : ∀ x, foldedSetIterable iter X.env x = pure x := by intro _; rfl) : MS X xw (.For tg iter body [] pos) (sForA f gt fb fuel) :=
  PS.imp (ps_for C.own C.calm (pi_seq3 hi) hg hb hs) fun D σ H ⟨g0, ρ0, M0, R0, S0, b0⟩ => by
    refine ⟨g0, ρ0, M0, R0, S0, ?_⟩
    unfold sForA at b0
    cases ei : f ρ0 M0 with
    | stuck => rw [ei] at b0; exact b0
    | err x M2 => rw [ei] at b0; exact fun c d g' H' r' e' q' => b0 c d σ g' H' r' e' (S0.gr e'.gr) q'
    | ok w M2 =>
      rw [ei] at b0
      intro v g1 H1 R1 E1 hv
      cases w with
      | loc n =>
        cases hv with
        | loc hp =>
          refine .inl ⟨_, rfl, ?_, forV_turns b0 R1 (S0.gr E1.gr) E1 hp⟩
          simp only at b0
          cases fuel with
          | zero => exact b0.elim
          | succ m =>
            unfold forV at b0
            cases hM : M2[n]? with
            | none => rw [hM] at b0; exact b0.elim
            | some o =>
              rw [hM] at b0
              cases o with
              | lst ds =>
                obtain ⟨a', ha', _, xs, hxs, dq⟩ := R1.at_ n _ hM rfl
                rw [hp] at ha'
                cases ha'
                exact ⟨xs, .of hxs⟩
              | _ => exact b0.elim
      | d x =>
        cases x with
        | list ds =>
          cases hv with
          | d q => cases q with
            | lst h t => exact .inl ⟨_, rfl, ⟨_, .of (R1.sub _ _ h)⟩, forL_turns b0 R1 (S0.gr E1.gr) E1 (itok_lst h t)⟩
        | tuple ds =>
          cases hv with
          | d q => cases q with
            | tup h t => exact .inr (.inl ⟨_, rfl, ⟨_, TqT.up R1.sub h⟩, forL_turns b0 R1 (S0.gr E1.gr) E1 (itok_tup h t)⟩)
        | _ => exact b0.elim
      | _ => exact b0.elim
end Y
namespace Y
open PySem PySem.Spec PyProof.Rows L2

/-! ### a list that lives, gone through once and for all: it is locked -/
def asItA : W → List MO → Res (List PyData)
  | .d (.list ds), M => .ok ds M
  | .d (.tuple ds), M => .ok ds M
  | .d (.str s), M => .ok (chs s) M
  | .loc n, M => match M[n]? with
    | some (.lst ds) => .ok ds (M.set n .dead)
    | _ => .stuck
  | _, _ => .stuck
def itA (f : EF) : IF := fun ρ M => (f ρ M).bind asItA
theorem upd_selfY {H : Hp} {a : Addr} {o : HO} (h : H a = some o) : L2.upd H a o = H := by
  funext x
  by_cases e : x = a
  · subst e; rw [upd_same, h]
  · rw [upd_ne e]
theorem mi_seqA {X : Cx} {xw : WX} {tg l : Expr} {f : EF} (hl : ME X xw l f) : MI X xw tg l (itA f) :=
  PI.imp (pi_seq3 hl) fun σ H R h => tG_mono (tG_bind (R2 := RW X.K) h) fun v H1 ⟨g, ρ, M, w, R1, S, q, b⟩ => by
    cases w with
    | loc n =>
      cases q with
      | loc hp =>
        simp only [asItA] at b
        cases hM : M[n]? with
        | none => rw [hM] at b; exact b.elim
        | some o =>
          rw [hM] at b
          cases o with
          | lst ds =>
            obtain ⟨a', ha', hF, xs, hxs, dq⟩ := R1.at_ n _ hM rfl
            rw [hp] at ha'
            cases ha'
            obtain ⟨R2, E2⟩ := R1.lock (u := .lst xs) hp hF
            rw [upd_selfY hxs] at R2 E2
            exact .inl ⟨_, rfl, ⟨_, .of hxs⟩, b _ _ H1 R2 E2 (itok_lst upd_same (DqAll.sub (Sub.upd hF) dq))⟩
          | _ => exact b.elim
    | tup n => exact b.elim
    | scr n => exact b.elim
    | exc n => exact b.elim
    | kd n => exact b.elim
    | clo _ n => exact b.elim
    | fn n => exact b.elim
    | d x =>
      cases x with
      | list ds =>
        cases q with
        | d q => cases q with
          | lst h t => exact .inl ⟨_, rfl, ⟨_, .of (R1.sub _ _ h)⟩, b _ g H1 R1 (Ext.refl _ _) (itok_lst h t)⟩
      | tuple ds =>
        cases q with
        | d q => cases q with
          | tup h t => exact .inr (.inl ⟨_, rfl, ⟨_, TqT.up R1.sub h⟩, b _ g H1 R1 (Ext.refl _ _) (itok_tup h t)⟩)
      | str z =>
        cases q with
        | d q => cases q; exact .inr (.inr ⟨_, rfl, b _ g H1 R1 (Ext.refl _ _) itok_str⟩)
      | none => exact b.elim
      | bool _ => exact b.elim
      | int _ => exact b.elim
      | dict _ => exact b.elim
section
variable {X : Cx} {xw : WX} {a b o : Expr} {fa fb fc : EF} {pos p1 apos cpos : Pos} {k : Nat}
/-! ### repr -/
def rRepr (K : PySem.W.Frag) : List V → Hp → VK → Prop := fun vs H Q => ∃ v d, vs = [v] ∧ Dp K H v d ∧ okShow d = true ∧ Q (.str d.shown) H
theorem call_reprD (C : Ctx X k xw) : CallR X (.builtin "repr") (rRepr X.K) := by
  intro pins s σ H xs us Q I r h
  obtain ⟨v, d, rfl, hd, hok, q⟩ := h
  obtain ⟨u, rfl, rx⟩ := vals1 r
  obtain ⟨as, rd⟩ := Dp.reads I d v u hd rx
  have hu := C.room.un
  obtain ⟨h1, h2, h3, h4⟩ := okShow_of hok
  cases hd with
  | non => cases rx; exact PySem.P.repr_of_none ⟨.str _, H, I.tok _, ⟨_, rfl⟩, q⟩
  | bl b => cases rx; exact PySem.P.repr_of_bool ⟨.str _, H, I.tok _, ⟨_, rfl⟩, q⟩
  | int i => obtain ⟨t, rfl⟩ := rx; exact PySem.P.repr_of_int (by simpa [PyData.showable] using h1) ⟨.str _, H, I.tok _, ⟨_, rfl⟩, q⟩
  | str z => obtain ⟨t, rfl⟩ := rx; exact PySem.P.repr_of_str ⟨.str _, H, I.tok _, ⟨_, rfl⟩, q⟩ h4
  | lst hs ha =>
    cases rx
    exact repr_of_reads' rd h1 (PySem.PyData.noDict_hsm h2) C.gd (by omega) (fun _ _ e => e) (fun h' u tk hk => ⟨.str _, H, I.kept (t' := tk) hk, ⟨_, rfl⟩, q⟩) h4
  | tup hs ha =>
    cases rx
    exact repr_of_reads' rd h1 (PySem.PyData.noDict_hsm h2) C.gd (by omega) (fun _ _ e => e) (fun h' u tk hk => ⟨.str _, H, I.kept (t' := tk) hk, ⟨_, rfl⟩, q⟩) h4
theorem repr_ok (K : PySem.W.Frag) : PrOk K (dpr pRepr) (rRepr K) := dprN fun F H vs xs y Q s dv e k => by
  unfold pRepr at e
  split at e
  · split at e
    · cases e
      obtain ⟨v, rfl, d⟩ := dv.one
      exact ⟨v, _, rfl, d.dp s, by assumption, kq s k (.str _)⟩
    · cases e
  · cases e
theorem me_repr1 (C : Ctx X k xw) (ha : MA X xw [a] [fa]) (hm : X.mg "repr" = none) (hg : Gl X "repr" := by rfl) (he : starEach [a] X.env = (false, eval a X.env) :: starEach [] X.env := by rfl) : ME X xw (.Call (.Name "repr" p1) [a] [] pos) (sPr (dpr pRepr) [fa]) := me_callB (call_reprD C) (repr_ok _) hg hm PyProof.Rows.boot_repr ha (he := he)
/-! ### insert -/
def pInsert : Pr
  | [.loc n, .d (.int i), .d x], M => match M[n]? with
    | some (.lst ds) => if ds.length < sizeLine ∧ 0 ≤ i ∧ i < 2 ^ 63 then some (.d .none, M.set n (.lst (ds.take i.toNat ++ [x] ++ ds.drop i.toNat))) else none
    | _ => none
  | _, _ => none
theorem insert_ok (K : PySem.W.Frag) : PrOk K pInsert (rM (fun x vs H Q => ∃ (l : Addr) (xs : List V) (i : Int) (y : V), x = .ref l ∧ vs = [.int i, y] ∧ H l = some (.lst xs) ∧ xs.length < sizeLine ∧ 0 ≤ i ∧ i < 2 ^ 63 ∧
    Q .non (L2.upd H l (.lst (xs.take i.toNat ++ [y] ++ xs.drop i.toNat))))) := by
  intro g M H vs ws w M' Q R rw_ e k
  unfold pInsert at e
  split at e
  · split at e
    · rename_i q
      split at e
      · rename_i hc
        cases e
        cases rw_ with
        | cons h t =>
          cases t with
          | cons h1 t =>
            cases t with
            | cons h2 t =>
              cases t
              cases h with
              | loc h =>
                cases h1 with
                | d h1 =>
                  cases h1
                  cases h2 with
                  | d h2 =>
                    obtain ⟨p, e1, e2, xs, e3, e4⟩ := R.at_ _ _ q rfl
                    rw [h] at e1
                    cases e1
                    obtain ⟨R', E'⟩ := Rel.put R h e2 (((e4.take _).append (.cons h2 .nil)).append (e4.drop _))
                    exact ⟨_, _, rfl, _, xs, _, _, rfl, rfl, e3, by rw [e4.length]; exact hc.1, hc.2.1, hc.2.2, k _ g _ R' E' (.d .non)⟩
      · cases e
    · cases e
  · cases e
theorem me_insert (ho : ME X xw o fa) (ha : MA X xw [a, b] [fb, fc])
    (hbase : attributeBase o "insert" X.env (eval o X.env) = eval o X.env := by rfl)
    (hfew : ((backTo cpos (starEach [a, b] X.env)).all (fun x => !x.1) && (backToKw cpos (keywordEach [] X.env)).all (fun x => x.1.isSome)
      && decide ([a, b].length + ([] : List Keyword).length + (if ([] : List Keyword).isEmpty then 0 else 1) < 30)) = true := by rfl)
    (hline : (apos.endLine == cpos.line) = true := by rfl) (hs : starEach [a, b] X.env = (false, eval a X.env) :: starEach [b] X.env := by rfl) (hplain : (backTo cpos (starEach [b] X.env)).any (·.1) = false := by rfl) : ME X xw (.Call (.Attribute o "insert" apos) [a, b] [] cpos) (sMeth .list pInsert fa [fb, fc]) :=
  me_meth .list F.plainAttrs_list F.slot_list_insert F.type_list_insert mt_insert (insert_ok _) ho ha hbase hfew hline hs hplain
end
end Y
namespace Y
open PySem PySem.Spec PyProof.Rows L2

/-! ### a list that lives is locked from here on: no step of the program -/
def sLk (i : Nat) (f : SF) : SF := fun ρ M => match ρ[i]? with
  | some (some (.loc n)) => match M[n]? with
    | some (.lst ds) => f (ρ.set i (some (.d (.list ds)))) (M.set n .dead)
    | _ => .stuck
  | _ => .stuck
theorem mss_lock {X : Cx} {xw : WX} {ss : List Stmt} {f : SF} (i : Nat) (h : MSs X xw ss f) : MSs X xw ss (sLk i f) :=
  PSs.imp h fun D σ H ⟨g, ρ, M, R, S, b⟩ => by
    unfold sLk at b
    split at b
    · rename_i n hi
      split at b
      · rename_i ds hM
        obtain ⟨v, hv, rw_⟩ := S.at_ i _ hi
        cases rw_ with
        | loc hp =>
          obtain ⟨a', ha', hF, xs, hxs, dq⟩ := R.at_ n _ hM rfl
          rw [hp] at ha'
          cases ha'
          obtain ⟨R2, E2⟩ := R.lock (u := .lst xs) hp hF
          rw [upd_selfY hxs] at R2 E2
          refine ⟨_, _, _, R2, ⟨by rw [List.length_set]; exact S.len, fun j w e => ?_⟩, BhdS.later b E2⟩
          by_cases hj : i = j
          · subst hj
            have hl : i < ρ.length := (List.getElem?_eq_some_iff.mp hi).1
            rw [List.getElem?_set_self hl] at e
            cases e
            exact ⟨_, hv, .d (.lst upd_same (DqAll.sub (Sub.upd hF) dq))⟩
          · rw [List.getElem?_set_ne hj] at e
            exact (S.gr E2.gr).at_ j w e
      · exact b.elim
    · exact b.elim
end Y
namespace Y
open PySem PySem.Spec PyProof.Rows L2
section
variable {X : Cx} {xw : WX} {a b : Expr} {fa fb : EF} {pos : Pos}
/-! ### tuple * int -/
def pMulT : DPr
  | [.tuple a, .int j] => if a.isEmpty = false ∧ 2 ≤ j ∧ j ≤ 1000 ∧ a.length ≤ 1000 then some (.tuple (List.replicate j.toNat a).flatten) else none
  | _ => none
theorem me_mulT (ha : ME X xw a fa) (hb : ME X xw b fb) : ME X xw (.BinOp a .Mult b pos) (sPr (dpr pMulT) [fa, fb]) := by
  refine me_bin op_repT (dpr2 (fun F H v u x y z Q s d1 d2 e k => ?_) fun xs z e => ?_) ha hb
  · unfold pMulT at e
    split at e
    · rename_i a j q
      cases q
      split at e
      · rename_i hc
        cases e
        obtain ⟨p, xs, rfl, h1, h2⟩ := d1.tup
        cases d2.int
        have hne : xs ≠ [] := fun z => by
          have := h2.length
          rw [z] at this
          cases a with
          | nil => exact absurd hc.1 (by decide)
          | cons _ _ => simp at this
        exact ⟨p, j, xs, rfl, rfl, TqT.up s h1, hne, hc.2.1, hc.2.2.1, by rw [h2.length]; exact hc.2.2.2, fun q hq => kt s k (dq_rep h2 _) hq⟩
      · cases e
    · cases e
  · unfold pMulT at e
    split at e <;> first | rfl | cases e
end
end Y
namespace Y
open PySem PySem.Spec PyProof.Rows L2

/-! ### the keys of a dict whose keys are ints and texts -/
def keyX (kv : L2.Key × PyData) : PyData := match kv.1 with
  | .inl i => .int i
  | .inr x => .str x
theorem keyX_ok {K : PySem.W.Frag} {F : Hp} {kv : L2.Key × PyData} : Dq K F (kV kv.1) (keyX kv) := by
  unfold keyX
  cases kv.1 with
  | inl i => exact .int i
  | inr x => exact .str x
/-! ghosts without what was locked -/
theorem Ln.cutK {F : Hp} {d : Addr} {o : Obj} {u : List (L2.Key × V)} (h : F d = some (.frz o (.dK u))) {e : Ex} {x : Option Addr} (k : Ln F e x) : Ln (del F d) e x := by
  unfold Ln at *
  split at k
  · exact k
  · obtain ⟨dx, e1, e2⟩ := k
    exact ⟨dx, e1, by rw [del_ne (fun z => by rw [z, h] at e2; cases e2)]; exact e2⟩
mutual
theorem Dq.cutK {K : PySem.W.Frag} {F : Hp} {d : Addr} {o : Obj} {u : List (L2.Key × V)} (h : F d = some (.frz o (.dK u))) : ∀ {v : V} {x : PyData}, Dq K F v x → Dq K (del F d) v x
  | _, _, .non => .non
  | _, _, .bl b => .bl b
  | _, _, .int b => .int b
  | _, _, .str b => .str b
  | _, _, .lst q t => .lst (by rw [del_ne (fun z => by rw [z, h] at q; cases q)]; exact q) (DqAll.cutK h t)
  | _, _, .tup q t => .tup (show del F d _ = _ by rw [del_ne (fun z => by rw [z] at q; have q' : F d = _ := q; rw [h] at q'; cases q')]; exact q) (DqAll.cutK h t)
theorem DqAll.cutK {K : PySem.W.Frag} {F : Hp} {d : Addr} {o : Obj} {u : List (L2.Key × V)} (h : F d = some (.frz o (.dK u))) : ∀ {v : List V} {x : List PyData}, DqAll K F v x → DqAll K (del F d) v x
  | _, _, .nil => .nil
  | _, _, .cons q t => .cons (Dq.cutK h q) (DqAll.cutK h t)
end
theorem SqL.cutK {K : PySem.W.Frag} {F : Hp} {d a : Addr} {o : Obj} {u : List (L2.Key × V)} {xs : List V} (h : F d = some (.frz o (.dK u))) (k : SqL K F a xs) : SqL K (del F d) a xs := by
  rcases k with (k | ⟨o', k⟩) | k
  · exact .inl (.inl (by rw [del_ne (fun z => by rw [z, h] at k; cases k)]; exact k))
  · exact .inl (.inr ⟨o', by rw [del_ne (fun z => by rw [z, h] at k; cases k)]; exact k⟩)
  · exact .inr k
mutual
theorem RW.cutK {K : PySem.W.Frag} {g : Gh} {d : Addr} {o : Obj} {u : List (L2.Key × V)} (h : g.F d = some (.frz o (.dK u))) : ∀ {v : V} {x : W}, RW K g v x → RW K ⟨g.ph, del g.F d⟩ v x
  | _, _, .d q => .d (Dq.cutK h q)
  | _, _, .scr q => .scr (SqL.cutK h q)
  | _, _, .loc e => .loc e
  | _, _, .exc h1 h2 h3 => .exc h1 (by
      show del g.F d _ = _
      rw [del_ne (fun z => by rw [z, h] at h2; cases h2)]; exact h2) (Ln.cutK h h3)
  | _, _, .kd h1 h2 h3 => .kd (by
      show del g.F d _ = _
      rw [del_ne (fun z => by rw [z, h] at h1; cases h1)]; exact h1) h2 (DqAll.cutK h h3)
  | _, _, .tup q t => .tup (show del g.F d _ = _ by rw [del_ne (fun z => by rw [z] at q; have q' : g.F d = _ := q; rw [h] at q'; cases q')]; exact q) (RWs.cutK h t)
  | _, _, .fn q => .fn q
  | _, _, .clo h1 h2 t => .clo (by
      show del g.F d _ = _
      rw [del_ne (fun z => by rw [z, h] at h1; unfold LamO at h1; cases h1)]; exact h1) (by
      show del g.F d _ = _
      rw [del_ne (fun z => by rw [z, h] at h2; unfold LamX.CodeO at h2; cases h2)]; exact h2) (RWs.cutK h t)
theorem RWs.cutK {K : PySem.W.Frag} {g : Gh} {d : Addr} {o : Obj} {u : List (L2.Key × V)} (h : g.F d = some (.frz o (.dK u))) : ∀ {v : List V} {x : List W}, RWs K g v x → RWs K ⟨g.ph, del g.F d⟩ v x
  | _, _, .nil => .nil
  | _, _, .cons q t => .cons (RW.cutK h q) (RWs.cutK h t)
end
theorem MOk.cutK {K : PySem.W.Frag} {g : Gh} {d : Addr} {o : Obj} {u : List (L2.Key × V)} (h : g.F d = some (.frz o (.dK u))) {H : Hp} {a : Addr} : ∀ {m : MO}, MOk K g H a m → MOk K ⟨g.ph, del g.F d⟩ H a m
  | .dead, _ => trivial
  | .lst _, ⟨xs, e, r⟩ => ⟨xs, e, DqAll.cutK h r⟩
  | .lsw _, ⟨xs, e, r⟩ => ⟨xs, e, RWs.cutK h r⟩
  | .obj _ _, ⟨vs, n, q, r⟩ => ⟨vs, n, q, RWs.cutK h r⟩
  | .dct _, ⟨vs, e, q, r⟩ => ⟨vs, e, q, DqAll.cutK h r⟩
  | .dctT _, ⟨vs, e, q, r⟩ => ⟨vs, e, q, DqAll.cutK h r⟩
theorem Rel.unlockK {K : PySem.W.Frag} {g : Gh} {M : List MO} {H : Hp} {d : Addr} {o : Obj} {us : List (L2.Key × V)} {u : HO} (R : Rel K g M H) (h : g.F d = some (.frz o (.dK us))) : Rel K ⟨g.ph, del g.F d⟩ M (L2.upd H d u) := by
  refine ⟨fun a x e => ?_, R.len, fun m x e l => ?_, R.inj, fun a hm => ?_, R.tab.unlock (R.sub _ _ h) h (by simp) (fun c q z => by unfold LamX.CodeO at z; cases z)⟩
  · have e' : del g.F d a = some x := e
    by_cases q : a = d
    · rw [q, del_same] at e'; cases e'
    · rw [del_ne q] at e'; rw [upd_ne q]; exact R.sub _ _ e'
  · obtain ⟨a, e1, e2, e3⟩ := R.at_ m x e l
    have na : a ≠ d := fun z => by rw [z, h] at e2; cases e2
    refine ⟨a, e1, ?_, ?_⟩
    · show del g.F d a = none
      rw [del_ne na]; exact e2
    · refine MOk.gr (g := ⟨g.ph, del g.F d⟩) (Gr.refl _) (fun o' q => ?_) (MOk.cutK h e3)
      rw [upd_ne na]; exact q
  · by_cases q : a = d
    · subst q; exact ⟨_, upd_same⟩
    · rw [upd_ne q]; exact R.tr a hm
def sLcK (i : Nat) (gt : GF) (tt : TF) (te : EF) (vs : List Nat) : EF := fun ρ M => match ρ[i]? with
  | some (some (.loc n)) => match M[n]? with
    | some (.dct kvs) => if (kvs.map keyX).length ≤ sizeLine then match compL gt tt te (wip ρ vs) (kvs.map keyX) (M.set n .dead) with
      | some (xs, M2) => .ok (.d (.list xs)) M2
      | none => .stuck
      else .stuck
    | _ => .stuck
  | _ => .stuck
theorem key0K {X : Cx} {xw : WX} {gt : GF} {tt : TF} {te : EF} {vs : List Nat} {σ : L2.St} {Q : VK} {g : Gh} {ρ : Rho} {M : List MO} {H : Hp} {n : Nat} {d : Addr} {od : Obj} {us : List (L2.Key × V)} {kvs : List (L2.Key × PyData)}
    (hl : (kvs.map keyX).length ≤ sizeLine) (hp : g.ph[n]? = some d) (e2 : g.F d = none) (E1 : Ext g H ⟨g.ph, L2.upd g.F d (.frz od (.dK us))⟩ (L2.upd H d (.frz od (.dK us))))
    (b : Bhd (tx X) (fun c d H => xw c d σ H) (RW X.K) Q (match compL gt tt te (wip ρ vs) (kvs.map keyX) (M.set n .dead) with
      | some (xs, M2) => .ok (.d (.list xs)) M2
      | none => .stuck) g H) : Bhd (tx X) (fun _ _ _ => False) (RW X.K) (fun v H' => H' d = some (.frz od (.dK us)) ∧ Q v (L2.upd H' d (.dK us))) (if (kvs.map keyX).length ≤ sizeLine then match compL gt tt te (wip ρ vs) (kvs.map keyX) (M.set n .dead) with
      | some (xs, M2) => .ok (.d (.list xs)) M2
      | none => .stuck
    else .stuck) ⟨g.ph, L2.upd g.F d (.frz od (.dK us))⟩ (L2.upd H d (.frz od (.dK us))) := by
  rw [if_pos hl]
  cases ec : compL gt tt te (wip ρ vs) (kvs.map keyX) (M.set n .dead) with
  | none => rw [ec] at b; exact b.elim
  | some y =>
    obtain ⟨xs, M2⟩ := y
    rw [ec] at b
    intro v2 g2 H2 R2 E2 r2
    have hF2 : g2.F d = some (.frz od (.dK us)) := E2.gr.F _ _ upd_same
    refine ⟨R2.sub _ _ hF2, b v2 ⟨g2.ph, del g2.F d⟩ _ (R2.unlockK hF2) ?_ (RW.cutK hF2 r2)⟩
    have hm := List.mem_of_getElem? hp
    have E3 := E1.trans E2
    refine ⟨⟨E3.gr.ph, fun a o e => ?_⟩, fun a o e hn => ?_, fun a h h' => ?_, E3.newph⟩
    · show del g2.F d a = some o
      rw [del_ne (fun z => by rw [z, e2] at e; cases e)]
      exact E3.gr.F _ _ e
    · have na : a ≠ d := fun z => hn (by rw [z]; exact hm)
      exact (E3.keep a o e hn).del na hF2 (fun c q z => by unfold LamX.CodeO at z; cases z)
    · have h2 : del g2.F d a ≠ none := h'
      by_cases na : a = d
      · exact absurd (by rw [na, del_same]) h2
      · rw [del_ne na] at h2
        exact E3.new a h h2
theorem me_lcK {X : Cx} {k : Nat} {xw : WX} {elt tg : Expr} {ifs : List Expr} {scope : Scope} {own : List (Str × Nat)} {pos npos : Pos} {x : Str} {gt : GF} {tt : TF} {te : EF} {us : List Nat} (C : Ctx X k xw) (i : Nat) (ok : BlkOk X.N X.env.scope scope own)
    (hg : ∀ (s : Shared) (H : Hp) (A : Addr) (cl : List (Str × Addr)) (fp : List Addr), Ctx (X.blk s H scope (compEnvC scope cl A X.env) fp) k xw0 → MG (X.blk s H scope (compEnvC scope cl A X.env) fp) tg us gt) (ht : ∀ (s : Shared) (H : Hp) (A : Addr) (cl : List (Str × Addr)) (fp : List Addr), Ctx (X.blk s H scope (compEnvC scope cl A X.env) fp) k xw0 → MTs (X.blk s H scope (compEnvC scope cl A X.env) fp) ifs tt)
    (he : ∀ (s : Shared) (H : Hp) (A : Addr) (cl : List (Str × Addr)) (fp : List Addr), Ctx (X.blk s H scope (compEnvC scope cl A X.env) fp) k xw0 → ME (X.blk s H scope (compEnvC scope cl A X.env) fp) xw0 elt te) (hus : ∀ v ∈ us, v ∈ own.map (·.2) := by decide)
    (hN : X.N[i]? = some x := by rfl) (hv : Vis X.env.scope x := by first | exact Or.inl rfl | exact Or.inr (Or.inl rfl) | exact Or.inr (Or.inr rfl)) (hd : (x == ("__debug__" : Str)) = false := by decide) (hcd : (x == ("__classdict__" : Str)) = false := by decide)
    (hs : ∀ z, foldedSetIterable (.Name x npos) X.env z = pure z := by intro _; rfl) :
    ME X xw (.ListComp elt [⟨tg, (.Name x npos), ifs, 0⟩] scope pos) (sLcK i gt tt te (own.map (·.2))) := by
  refine PE.imp (pe_lock (pe_lc (g := tGt (tx X) us gt) (tt := tT (tx X) xw0 tt) (te := tE (tx X) xw0 te) C.calm C.nd (pi_keys (pe_var hN hv hd hcd)) ok (fun s H A cl fp => hg s H A cl fp (C.blk _ _ _ _ _)) (fun s H A cl fp => ht s H A cl fp (C.blk _ _ _ _ _)) (fun s H A cl fp => he s H A cl fp (C.blk _ _ _ _ _)) hs)) fun σ H Q ⟨g, ρ, M, R, S, b⟩ => ?_
  unfold sLcK at b
  split at b
  · rename_i n en
    split at b
    · rename_i kvs em
      split at b
      · rename_i hl
        obtain ⟨v, hv, rv⟩ := S.at_ i _ en
        cases rv with
        | loc hp =>
          rename_i d
          obtain ⟨d', e1, e2, us', e3, e4, e5⟩ := R.at_ n _ em rfl
          rw [hp] at e1
          cases e1
          refine ⟨d, .dK us', e3, trivial, fun od => ⟨.ref d, hv, d, od, rfl, .inl ⟨us', upd_same, ?_⟩⟩⟩
          obtain ⟨R1, E1⟩ := R.lock (u := .frz od (.dK us')) hp e2
          have hJ : ItOk X.K (L2.upd g.F d (.frz od (.dK us'))) (Itk d od us') (kvs.map keyX) := by
            have hlen : us'.length = kvs.length := by have := congrArg List.length e4; simpa using this
            refine ⟨fun i H hi s => ⟨s _ _ upd_same, by rw [List.length_map] at hi; omega⟩, fun H s => ⟨s _ _ upd_same, by rw [List.length_map]; omega⟩, fun i x F H v H' e s1 s2 hy => ?_⟩
            obtain ⟨rfl, k, u, hk, rfl⟩ := hy
            have h1 := congrArg (fun l => l[i]?) e4
            simp only [List.getElem?_map, hk, Option.map_some] at h1
            rw [List.getElem?_map] at e
            cases q : kvs[i]? with
            | none => rw [q] at e; cases e
            | some kv =>
              rw [q] at e h1
              cases e
              cases h1
              exact ⟨F, Lay.refl s2, keyX_ok⟩
          have key : tLc (fun _ H R => R (Itk d od us') H) (tGt (tx X) us gt) (tT (tx X) xw0 tt) (tE (tx X) xw0 te) (own.map (·.2)) σ (L2.upd H d (.frz od (.dK us'))) (fun v H' => H' d = some (.frz od (.dK us')) ∧ Q v (L2.upd H' d (.dK us'))) := by
            refine lc_core (T := tx X) (xq := fun _ _ _ => False) (gt := gt) (tt := tt) (te := te) (ρ := ρ) hus R1 (S.gr E1.gr) hJ ?_
            exact key0K hl hp e2 E1 b
          exact key
      · exact b.elim
    · exact b.elim
  · exact b.elim
end Y
namespace Y
open PySem PySem.Spec PyProof.Rows L2

/-! ### two fors in a comprehension -/
def compL2 (gt : GF) (tt : TF) (fi1 : IF) (gt1 : GF) (tt1 : TF) (te : EF) (vs1 : List Nat) (ρ : Rho) : List PyData → List MO → Option (List PyData × List MO)
  | [], M => some ([], M)
  | d :: ds, M => match gt (.d d) ρ M with
    | some (ρ1, M1) => match tt ρ1 M1 with
      | .ok true M2 => match fi1 ρ1 M2 with
        | .ok ds1 M3 => match compL gt1 tt1 te (wip ρ1 vs1) ds1 M3 with
          | some (xs, M4) => match compL2 gt tt fi1 gt1 tt1 te vs1 ρ ds M4 with
            | some (ys, M5) => some (xs ++ ys, M5)
            | none => none
          | none => none
        | _ => none
      | .ok false M2 => compL2 gt tt fi1 gt1 tt1 te vs1 ρ ds M2
      | _ => none
    | none => none
/-- a comprehension with two fors -/
def sLc2 (it : IF) (gt : GF) (tt : TF) (it1 : IF) (gt1 : GF) (tt1 : TF) (te : EF) (vs vs1 : List Nat) : EF := fun ρ M => (it ρ M).bind fun ds M1 => match compL2 gt tt it1 gt1 tt1 te vs1 (wip ρ vs) ds M1 with
  | some (xs, M2) => if xs.length ≤ sizeLine then .ok (.d (.list xs)) M2 else .stuck
  | none => .stuck
theorem lc_in {T : Tx} {gt : GF} {tt : TF} {te : EF} {vs us : List Nat} (hus : ∀ v ∈ us, v ∈ vs) {σ : L2.St} {g0 : Gh} {H0 : Hp} {D : Addr} (hD0 : H0 D = none) {J : It} {g1 : Gh} {ρ : Rho} {M1 : List MO} {ds : List PyData} {acc0 : List V} {xs0 ys0 : List PyData} {H1 : Hp} {Mend : List MO} {Nx : Hp → Prop}
    (R1 : Rel T.K g1 M1 H1) (E1 : Ext g0 H0 g1 H1) (S1 : RS T.K g1 σ ρ) (hJ : ItOk T.K g1.F J ds) (hD1 : H1 D = some (.lst acc0)) (hF : g1.F D = none) (hph : D ∉ g1.ph) (da0 : DqAll T.K g1.F acc0 xs0) (ec : compL gt tt te (wip ρ vs) ds M1 = some (ys0, Mend)) (hl : (xs0 ++ ys0).length ≤ sizeLine)
    (kk : ∀ (g : Gh) (H : Hp) (acc : List V), Rel T.K g Mend H → Ext g0 H0 g H → Gr g1 g → H D = some (.lst acc) → g.F D = none → D ∉ g.ph → DqAll T.K g.F acc (xs0 ++ ys0) → Nx H) :
    ∃ W1 : Nat → Nat → Hp → Prop, (∃ m, W1 0 m H1) ∧ ∀ j k H, W1 j k H →
      (J.stop j H ∧ Nx H) ∨ (J.go j H ∧ ∃ Nx1 : Hp → Prop, (∀ H', Nx1 H' → ∃ k', k' < k ∧ W1 (j + 1) k' H') ∧ ∀ x H', J.yld j H x H' → tGt T us gt x (wipe σ vs) H' fun σ3 H5 => wipe σ3 vs = wipe σ vs ∧ tT T xw0 tt σ3 H5 fun b H6 =>
        if b = true then tE T xw0 te σ3 H6 fun y H7 => ∃ acc, H7 D = some (.lst acc) ∧ acc.length < sizeLine ∧ Nx1 (upd H7 D (.lst (acc ++ [y]))) else Nx1 H6) := by
  generalize eall0 : xs0 ++ ys0 = all at *
  refine ⟨fun i m H => m = ds.length - i ∧ i ≤ ds.length ∧ ∃ (g : Gh) (M : List MO) (acc : List V) (xs ys : List PyData), Rel T.K g M H ∧ Ext g0 H0 g H ∧ Gr g1 g ∧ H D = some (.lst acc) ∧ g.F D = none ∧ D ∉ g.ph ∧ DqAll T.K g.F acc xs ∧
          compL gt tt te (wip ρ vs) (ds.drop i) M = some (ys, Mend) ∧ all = xs ++ ys,
        ⟨ds.length, rfl, Nat.zero_le _, g1, M1, acc0, xs0, ys0, R1, E1, Gr.refl _, hD1, hF, hph, da0, ec, eall0.symm⟩, ?_⟩
  rintro i m H ⟨rfl, hi, g, M, acc, xs, ys, R, E, G, hDa, hFD, hphD, da, ec', eall⟩
  have sF : Sub g1.F g.F := G.F
  by_cases hlt : i < ds.length
  · have hd : ds[i]? = some ds[i] := List.getElem?_eq_getElem hlt
    rw [List.drop_eq_getElem_cons hlt] at ec'
    unfold compL at ec'
    cases eg : gt (.d ds[i]) (wip ρ vs) M with
    | none => rw [eg] at ec'; cases ec'
    | some y =>
      obtain ⟨ρ1, Mg⟩ := y
      rw [eg] at ec'
      simp only at ec'
      cases et : tt ρ1 Mg with
      | stuck => rw [et] at ec'; cases ec'
      | err _ _ => rw [et] at ec'; cases ec'
      | ok bb M2 =>
        rw [et] at ec'
        refine .inr ⟨hJ.go i H hlt (sF.trans R.sub), fun H' => ∃ (g : Gh) (M : List MO) (acc : List V) (xs ys : List PyData), Rel T.K g M H' ∧ Ext g0 H0 g H' ∧ Gr g1 g ∧ H' D = some (.lst acc) ∧ g.F D = none ∧ D ∉ g.ph ∧ DqAll T.K g.F acc xs ∧
          compL gt tt te (wip ρ vs) (ds.drop (i + 1)) M = some (ys, Mend) ∧ all = xs ++ ys, fun H' n => ⟨ds.length - (i + 1), by omega, rfl, hlt, n⟩, fun x H' hy => ?_⟩
        obtain ⟨F', L, dq⟩ := hJ.yld i _ g.F H x H' hd sF R.sub hy
        refine ⟨⟨g.ph, F'⟩, wip ρ vs, M, .d ds[i], L.rel R, rs_wip (S1.gr (G.trans L.ext.gr)) vs, .d dq, ρ1, Mg, eg, fun σ2 g2 H2 R2 E2 S2 O2 => ⟨wipe_off O2 hus, g2, ρ1, Mg, R2, S2, ?_⟩⟩
        rw [et]
        intro b' g3 H3 R3 E3 hb
        have hb' : b' = bb := hb
        subst hb'
        have E03 : Ext g H g3 H3 := (L.ext.trans E2).trans E3
        obtain ⟨o1, o2, o3⟩ := E03.outD hDa hFD hphD
        cases b' with
        | false => exact iteF ⟨g3, M2, acc, xs, ys, R3, E.trans E03, G.trans E03.gr, o1, o2, o3, DqAll.sub E03.gr.F da, ec', eall⟩
        | true =>
          simp only at ec'
          refine iteT ⟨g3, ρ1, M2, R3, S2.gr E3.gr, ?_⟩
          cases ee : te ρ1 M2 with
          | stuck => rw [ee] at ec'; cases ec'
          | err _ _ => rw [ee] at ec'; cases ec'
          | ok w M3 =>
            cases w with
            | loc n => rw [ee] at ec'; cases ec'
            | tup n => rw [ee] at ec'; cases ec'
            | scr n => rw [ee] at ec'; cases ec'
            | exc n => rw [ee] at ec'; cases ec'
            | kd n => rw [ee] at ec'; cases ec'
            | clo _ n => rw [ee] at ec'; cases ec'
            | fn n => rw [ee] at ec'; cases ec'
            | d z =>
              rw [ee] at ec'
              simp only at ec'
              cases er : compL gt tt te (wip ρ vs) (ds.drop (i + 1)) M3 with
              | none => rw [er] at ec'; cases ec'
              | some y =>
                obtain ⟨zs, M4⟩ := y
                rw [er] at ec'
                cases ec'
                intro v g4 H4 R4 E4 rv
                have E04 := E03.trans E4
                obtain ⟨p1, p2, p3⟩ := E04.outD hDa hFD hphD
                cases rv with
                | d dz =>
                  refine ⟨acc, p1, ?_, g4, M3, acc ++ [v], xs ++ [z], zs, R4.updD p2 p3 (fun _ z => by rw [p1] at z; cases z), (E.trans E04).updD hD0, G.trans E04.gr, upd_same, p2, p3, DqAll.append (DqAll.sub E04.gr.F da) (.cons dz .nil), er, ?_⟩
                  · have q1 := da.length
                    rw [eall, List.length_append, List.length_cons] at hl
                    omega
                  · rw [eall, List.append_assoc]; rfl
  · have hz' : ds.drop i = [] := List.drop_of_length_le (by omega)
    rw [hz'] at ec'
    unfold compL at ec'
    cases ec'
    rw [List.append_nil] at eall
    exact .inl ⟨by rw [show i = ds.length by omega]; exact hJ.stop H (sF.trans R.sub), kk g H acc R E G hDa hFD hphD (eall ▸ da)⟩
theorem lc2_core' {T : Tx} {xq : Value → Option Addr → Hp → Prop} {gt gt1 : GF} {tt tt1 : TF} {fi1 : IF} {te : EF} {vs us vs1 us1 : List Nat} (hus : ∀ v ∈ us, v ∈ vs) (hus1 : ∀ v ∈ us1, v ∈ vs1) {σ : L2.St} {H1 : Hp} {Q : VK} {J : It} {g1 : Gh} {ρ : Rho} {M1 : List MO} {ds : List PyData} (R1 : Rel T.K g1 M1 H1) (S1 : RS T.K g1 σ ρ) (hJ : ItOk T.K g1.F J ds)
    (b : Bhd T xq (RW T.K) Q (match compL2 gt tt fi1 gt1 tt1 te vs1 (wip ρ vs) ds M1 with
      | some (xs, M2) => if xs.length ≤ sizeLine then .ok (.d (.list xs)) M2 else .stuck
      | none => .stuck) g1 H1) :
    tLc2 (fun _ H R => R J H) (tGt T us gt) (tT T xw0 tt) (tI T xw0 fi1) (tGt T us1 gt1) (tT T xw0 tt1) (tE T xw0 te) vs vs1 σ H1 Q := by
  refine fun D hD => ?_
  cases ec : compL2 gt tt fi1 gt1 tt1 te vs1 (wip ρ vs) ds M1 with
  | none => rw [ec] at b; exact b.elim
  | some y =>
    obtain ⟨all, Mend⟩ := y
    rw [ec] at b
    simp only at b
    by_cases hz : all.length ≤ sizeLine
    case neg => rw [if_neg hz] at b; exact b.elim
    rw [if_pos hz] at b
    have hF : g1.F D = none := R1.sub.none hD
    have hph : D ∉ g1.ph := fun z => by obtain ⟨u, q⟩ := R1.tr D z; rw [hD] at q; cases q
    refine ⟨fun i m H => m = ds.length - i ∧ i ≤ ds.length ∧ ∃ (g : Gh) (M : List MO) (acc : List V) (xs ys : List PyData), Rel T.K g M H ∧ Ext g1 H1 g H ∧ H D = some (.lst acc) ∧ g.F D = none ∧ D ∉ g.ph ∧ DqAll T.K g.F acc xs ∧
        compL2 gt tt fi1 gt1 tt1 te vs1 (wip ρ vs) (ds.drop i) M = some (ys, Mend) ∧ all = xs ++ ys,
      ⟨ds.length, rfl, Nat.zero_le _, g1, M1, [], [], all, R1.updD hF hph (fun _ z => by rw [hD] at z; cases z), (Ext.refl _ _).updD hD, upd_same, hF, hph, .nil, ec, rfl⟩, ?_⟩
    rintro i m H ⟨rfl, hi, g, M, acc, xs, ys, R, E, hDa, hFD, hphD, da, ec', eall⟩
    have sF : Sub g1.F g.F := E.gr.F
    by_cases hlt : i < ds.length
    · have hd : ds[i]? = some ds[i] := List.getElem?_eq_getElem hlt
      rw [List.drop_eq_getElem_cons hlt] at ec'
      unfold compL2 at ec'
      cases eg : gt (.d ds[i]) (wip ρ vs) M with
      | none => rw [eg] at ec'; cases ec'
      | some y =>
        obtain ⟨ρ1, Mg⟩ := y
        rw [eg] at ec'
        simp only at ec'
        cases et : tt ρ1 Mg with
        | stuck => rw [et] at ec'; cases ec'
        | err _ _ => rw [et] at ec'; cases ec'
        | ok bb M2 =>
          rw [et] at ec'
          refine .inr ⟨hJ.go i H hlt (sF.trans R.sub), fun H' => ∃ (g : Gh) (M : List MO) (acc : List V) (xs ys : List PyData), Rel T.K g M H' ∧ Ext g1 H1 g H' ∧ H' D = some (.lst acc) ∧ g.F D = none ∧ D ∉ g.ph ∧ DqAll T.K g.F acc xs ∧
            compL2 gt tt fi1 gt1 tt1 te vs1 (wip ρ vs) (ds.drop (i + 1)) M = some (ys, Mend) ∧ all = xs ++ ys, fun H' n => ⟨ds.length - (i + 1), by omega, rfl, hlt, n⟩, fun x H' hy => ?_⟩
          obtain ⟨F', L, dq⟩ := hJ.yld i _ g.F H x H' hd sF R.sub hy
          refine ⟨⟨g.ph, F'⟩, wip ρ vs, M, .d ds[i], L.rel R, rs_wip (S1.gr (E.gr.trans L.ext.gr)) vs, .d dq, ρ1, Mg, eg, fun σ2 g2 H2 R2 E2 S2 O2 => ⟨wipe_off O2 hus, g2, ρ1, Mg, R2, S2, ?_⟩⟩
          rw [et]
          intro b' g3 H3 R3 E3 hb
          have hb' : b' = bb := hb
          subst hb'
          have E03 : Ext g H g3 H3 := (L.ext.trans E2).trans E3
          obtain ⟨o1, o2, o3⟩ := E03.outD hDa hFD hphD
          cases b' with
          | false => exact iteF ⟨g3, M2, acc, xs, ys, R3, E.trans E03, o1, o2, o3, DqAll.sub E03.gr.F da, ec', eall⟩
          | true =>
            simp only at ec'
            refine iteT ⟨g3, ρ1, M2, R3, S2.gr E3.gr, ?_⟩
            cases ef : fi1 ρ1 M2 with
            | stuck => rw [ef] at ec'; cases ec'
            | err _ _ => rw [ef] at ec'; cases ec'
            | ok ds1 M3 =>
              rw [ef] at ec'
              simp only at ec'
              cases e1 : compL gt1 tt1 te (wip ρ1 vs1) ds1 M3 with
              | none => rw [e1] at ec'; cases ec'
              | some y =>
                obtain ⟨xs1, M4⟩ := y
                rw [e1] at ec'
                simp only at ec'
                cases er : compL2 gt tt fi1 gt1 tt1 te vs1 (wip ρ vs) (ds.drop (i + 1)) M4 with
                | none => rw [er] at ec'; cases ec'
                | some y =>
                  obtain ⟨zs, M5⟩ := y
                  rw [er] at ec'
                  cases ec'
                  intro J1 g4 H4 R4 E4 hJ1
                  have E04 := E03.trans E4
                  obtain ⟨p1, p2, p3⟩ := E04.outD hDa hFD hphD
                  refine lc_in hus1 hD R4 (E.trans E04) (S2.gr (E3.gr.trans E4.gr)) hJ1 p1 p2 p3 (DqAll.sub E04.gr.F da) e1 (by
                    rw [eall, List.length_append, List.length_append] at hz
                    rw [List.length_append]
                    omega) fun g' H' acc' R' E' G' q1 q2 q3 d' => ⟨g', M4, acc', xs ++ xs1, zs, R', E', q1, q2, q3, d', er, by rw [eall, List.append_assoc]⟩
    · have hz' : ds.drop i = [] := List.drop_of_length_le (by omega)
      rw [hz'] at ec'
      unfold compL2 at ec'
      cases ec'
      refine .inl ⟨by rw [show i = ds.length by omega]; exact hJ.stop H (sF.trans R.sub), ?_⟩
      refine b (.ref D) ⟨g.ph, upd g.F D (.lst acc)⟩ H ⟨fun a u q => ?_, R.len, fun n u e l => ?_, R.inj, R.tr, R.tab.go (Sub.upd hFD) (fun _ _ e _ => e) (fun _ z => .inl z) fun P ps e _ n => (upd_ne (fun z => by rw [z, hDa] at e; cases e)).trans n⟩ ⟨⟨E.gr.ph, E.gr.F.trans (Sub.upd hFD)⟩, fun a o q hn => (E.keep a o q hn).sub2 (Sub.upd hFD), fun a h1 h2 => ?_, E.newph⟩ (.d ?_)
      · have q' : upd g.F D (.lst acc) a = some u := q
        by_cases h : a = D
        · subst h
          rw [upd_same] at q'
          rw [hDa]; exact q'
        · rw [upd_ne h] at q'; exact R.sub _ _ q'
      · obtain ⟨a, e1, e2, e3⟩ := R.at_ n u e l
        refine ⟨a, e1, ?_, MOk.gr (g := g) (g' := ⟨g.ph, upd g.F D (.lst acc)⟩) ⟨fun _ _ z => z, Sub.upd hFD⟩ (fun _ q => q) e3⟩
        show upd g.F D (.lst acc) a = none
        rw [upd_ne (fun z => hphD (by rw [← z]; exact List.mem_of_getElem? e1))]
        exact e2
      · by_cases h : a = D
        · subst h; exact .inl hD
        · refine E.new a h1 ?_
          have h2' : upd g.F D (.lst acc) a ≠ none := h2
          rw [upd_ne h] at h2'
          exact h2'
      · rw [eall, List.append_nil]
        exact .lst upd_same (DqAll.sub (Sub.upd hFD) da)
theorem lc2_imp {T : Tx} {xw : WX} {fi fi1 : IF} {gt gt1 : GF} {tt tt1 : TF} {te : EF} {vs us vs1 us1 : List Nat} (hus : ∀ v ∈ us, v ∈ vs) (hus1 : ∀ v ∈ us1, v ∈ vs1) {σ : L2.St} {H : Hp} {Q : VK} (h : tE T xw (sLc2 fi gt tt fi1 gt1 tt1 te vs vs1) σ H Q) :
    tLc2 (tI T xw fi) (tGt T us gt) (tT T xw0 tt) (tI T xw0 fi1) (tGt T us1 gt1) (tT T xw0 tt1) (tE T xw0 te) vs vs1 σ H Q :=
  tG_mono (tG_bind (R2 := fun g (J : It) ds => ItOk T.K g.F J ds) h) fun J H1 ⟨g1, ρ, M1, ds, R1, S1, hJ, b⟩ => lc2_core' (xq := fun c d H => xw c d σ H) hus hus1 R1 S1 hJ b
theorem me_lc2 {X : Cx} {k : Nat} {xw : WX} {elt tg iter tg1 iter1 : Expr} {ifs ifs1 : List Expr} {scope : Scope} {own : List (Str × Nat)} {pos : Pos} {fi fi1 : IF} {gt gt1 : GF} {tt tt1 : TF} {te : EF} {us us1 : List Nat} (vs1 : List Nat) (C : Ctx X k xw) (hi : MI X xw tg iter fi) (ok : BlkOk X.N X.env.scope scope own)
    (hg : ∀ (s : Shared) (H : Hp) (A : Addr) (cl : List (Str × Addr)) (fp : List Addr), Ctx (X.blk s H scope (compEnvC scope cl A X.env) fp) k xw0 → MG (X.blk s H scope (compEnvC scope cl A X.env) fp) tg us gt) (ht : ∀ (s : Shared) (H : Hp) (A : Addr) (cl : List (Str × Addr)) (fp : List Addr), Ctx (X.blk s H scope (compEnvC scope cl A X.env) fp) k xw0 → MTs (X.blk s H scope (compEnvC scope cl A X.env) fp) ifs tt)
    (hi1 : ∀ (s : Shared) (H : Hp) (A : Addr) (cl : List (Str × Addr)) (fp : List Addr), Ctx (X.blk s H scope (compEnvC scope cl A X.env) fp) k xw0 → MI (X.blk s H scope (compEnvC scope cl A X.env) fp) xw0 tg1 iter1 fi1)
    (hg1 : ∀ (s : Shared) (H : Hp) (A : Addr) (cl : List (Str × Addr)) (fp : List Addr), Ctx (X.blk s H scope (compEnvC scope cl A X.env) fp) k xw0 → MG (X.blk s H scope (compEnvC scope cl A X.env) fp) tg1 us1 gt1) (ht1 : ∀ (s : Shared) (H : Hp) (A : Addr) (cl : List (Str × Addr)) (fp : List Addr), Ctx (X.blk s H scope (compEnvC scope cl A X.env) fp) k xw0 → MTs (X.blk s H scope (compEnvC scope cl A X.env) fp) ifs1 tt1)
    (he : ∀ (s : Shared) (H : Hp) (A : Addr) (cl : List (Str × Addr)) (fp : List Addr), Ctx (X.blk s H scope (compEnvC scope cl A X.env) fp) k xw0 → ME (X.blk s H scope (compEnvC scope cl A X.env) fp) xw0 elt te) (hus : ∀ v ∈ us, v ∈ own.map (·.2) := by decide) (hus1 : ∀ v ∈ us1, v ∈ vs1 := by decide) (hv : ∀ i ∈ vs1, i ∈ own.map (·.2) := by decide)
    (hs : ∀ x, foldedSetIterable iter X.env x = pure x := by intro _; rfl) (hs1 : ∀ env x, foldedSetIterable iter1 env x = pure x := by intro _ _; rfl) :
    ME X xw (.ListComp elt [⟨tg, iter, ifs, 0⟩, ⟨tg1, iter1, ifs1, 0⟩] scope pos) (sLc2 fi gt tt fi1 gt1 tt1 te (own.map (·.2)) vs1) :=
  PE.imp (pe_lc2 C.calm C.nd hi ok hv (fun s H A cl fp => hg s H A cl fp (C.blk _ _ _ _ _)) (fun s H A cl fp => ht s H A cl fp (C.blk _ _ _ _ _)) (fun s H A cl fp => hi1 s H A cl fp (C.blk _ _ _ _ _)) (fun s H A cl fp => hg1 s H A cl fp (C.blk _ _ _ _ _)) (fun s H A cl fp => ht1 s H A cl fp (C.blk _ _ _ _ _)) (fun s H A cl fp => he s H A cl fp (C.blk _ _ _ _ _)) hs hs1) fun σ H Q h => lc2_imp (T := tx X) hus hus1 h
theorem ms_setLc2 {X : Cx} {k : Nat} {xw : WX} {i : Nat} {y : Str} {py : Pos} {elt tg iter tg1 iter1 : Expr} {ifs ifs1 : List Expr} {scope : Scope} {own : List (Str × Nat)} {pos spos : Pos} {fi fi1 : IF} {gt gt1 : GF} {tt tt1 : TF} {te : EF} {us us1 : List Nat} (vs1 : List Nat) (C : Ctx X k xw) (hi : MI X xw tg iter fi) (ok : BlkOk X.N X.env.scope scope own)
    (hg : ∀ (s : Shared) (H : Hp) (A : Addr) (cl : List (Str × Addr)) (fp : List Addr), Ctx (X.blk s H scope (compEnvC scope cl A X.env) fp) k xw0 → MG (X.blk s H scope (compEnvC scope cl A X.env) fp) tg us gt) (ht : ∀ (s : Shared) (H : Hp) (A : Addr) (cl : List (Str × Addr)) (fp : List Addr), Ctx (X.blk s H scope (compEnvC scope cl A X.env) fp) k xw0 → MTs (X.blk s H scope (compEnvC scope cl A X.env) fp) ifs tt)
    (hi1 : ∀ (s : Shared) (H : Hp) (A : Addr) (cl : List (Str × Addr)) (fp : List Addr), Ctx (X.blk s H scope (compEnvC scope cl A X.env) fp) k xw0 → MI (X.blk s H scope (compEnvC scope cl A X.env) fp) xw0 tg1 iter1 fi1)
    (hg1 : ∀ (s : Shared) (H : Hp) (A : Addr) (cl : List (Str × Addr)) (fp : List Addr), Ctx (X.blk s H scope (compEnvC scope cl A X.env) fp) k xw0 → MG (X.blk s H scope (compEnvC scope cl A X.env) fp) tg1 us1 gt1) (ht1 : ∀ (s : Shared) (H : Hp) (A : Addr) (cl : List (Str × Addr)) (fp : List Addr), Ctx (X.blk s H scope (compEnvC scope cl A X.env) fp) k xw0 → MTs (X.blk s H scope (compEnvC scope cl A X.env) fp) ifs1 tt1)
    (he : ∀ (s : Shared) (H : Hp) (A : Addr) (cl : List (Str × Addr)) (fp : List Addr), Ctx (X.blk s H scope (compEnvC scope cl A X.env) fp) k xw0 → ME (X.blk s H scope (compEnvC scope cl A X.env) fp) xw0 elt te) (hy : X.N[i]? = some y := by rfl) (hyl : X.env.scope.names.lookup y = some .local := by rfl)
    (hsw : swapsWith (.ListComp elt [⟨tg, iter, ifs, 0⟩, ⟨tg1, iter1, ifs1, 0⟩] scope pos) (some (.Name y py)) spos.line X.env = pure true := by exact (sw_true rfl rfl rfl (by decide +kernel))) (hus : ∀ v ∈ us, v ∈ own.map (·.2) := by decide) (hus1 : ∀ v ∈ us1, v ∈ vs1 := by decide) (hv : ∀ i ∈ vs1, i ∈ own.map (·.2) := by decide)
    (hs : ∀ x, foldedSetIterable iter X.env x = pure x := by intro _; rfl) (hs1 : ∀ env x, foldedSetIterable iter1 env x = pure x := by intro _ _; rfl) :
    MS X xw (.Assign [.Name y py] (.ListComp elt [⟨tg, iter, ifs, 0⟩, ⟨tg1, iter1, ifs1, 0⟩] scope pos) spos) (sSet i (sLc2 fi gt tt fi1 gt1 tt1 te (own.map (·.2)) vs1)) :=
  PS.imp (ps_setLc2 C.calm C.nd hy hyl hsw hi ok hv (fun s H A cl fp => hg s H A cl fp (C.blk _ _ _ _ _)) (fun s H A cl fp => ht s H A cl fp (C.blk _ _ _ _ _)) (fun s H A cl fp => hi1 s H A cl fp (C.blk _ _ _ _ _)) (fun s H A cl fp => hg1 s H A cl fp (C.blk _ _ _ _ _)) (fun s H A cl fp => ht1 s H A cl fp (C.blk _ _ _ _ _)) (fun s H A cl fp => he s H A cl fp (C.blk _ _ _ _ _)) hs hs1) fun D σ H q => lc2_imp (T := tx X) hus hus1 (tG_mono (tS_then q) fun v H1 ⟨g, ρ, M, w, R, S, r, b⟩ => b _ g H1 R (Ext.refl _ _) (S.set i r))
end Y
namespace Y
open PySem PySem.Spec PyProof.Rows L2

/-! ### a text's parts, and what a comprehension made, that may grow -/
def pSplitLive : Pr := fun ws M => match vws M ws with
  | some [.str x, .str y] => if (y.length == 0) = false ∧ x.length + 2 ≤ sizeLine then some (.loc M.length, M ++ [.lst (strD (Txt.split x y))]) else none
  | _ => none
section
variable {X : Cx} {xw : WX} {a o : Expr} {fa fb : EF} {apos cpos : Pos} {k : Nat}
theorem me_splitLive (ho : ME X xw o fa) (ha : MA X xw [a] [fb])
    (hbase : attributeBase o "split" X.env (eval o X.env) = eval o X.env := by rfl)
    (hfew : ((backTo cpos (starEach [a] X.env)).all (fun x => !x.1) && (backToKw cpos (keywordEach [] X.env)).all (fun x => x.1.isSome)
      && decide ([a].length + ([] : List Keyword).length + (if ([] : List Keyword).isEmpty then 0 else 1) < 30)) = true := by rfl)
    (hline : (apos.endLine == cpos.line) = true := by rfl) (hs : starEach [a] X.env = (false, eval a X.env) :: starEach [] X.env := by rfl) : ME X xw (.Call (.Attribute o "split" apos) [a] [] cpos) (sMeth .str pSplitLive fa [fb]) := by
  refine me_meth .str F.plainAttrs_str F.slot_str_split F.type_str_split mt_split (fun g M H vs ws w M' Q R r e q => ?_) ho ha hbase hfew hline hs
  unfold pSplitLive at e
  split at e
  · rename_i x y h
    split at e
    · rename_i c
      cases e
      obtain ⟨u, v, rfl, d1, d2⟩ := (vws_ok R r h).two
      cases d1.str
      cases d2.str
      refine ⟨_, _, rfl, _, _, rfl, rfl, c.1, c.2, fun p hp => ?_⟩
      obtain ⟨R', E'⟩ := Rel.live R hp (dq_strs _)
      exact q _ _ _ R' E' (.loc (by show (g.ph ++ [p])[M.length]? = some p; rw [List.getElem?_append_right (by rw [R.len]; exact Nat.le_refl _), R.len, Nat.sub_self]; rfl))
    · cases e
  · cases e
end
def sLcA (it : IF) (gt : GF) (tt : TF) (te : EF) (vs : List Nat) : EF := fun ρ M => (it ρ M).bind fun ds M1 => match compL gt tt te (wip ρ vs) ds M1 with
  | some (xs, M2) => if xs.length ≤ sizeLine then .ok (.loc M2.length) (M2 ++ [.lst xs]) else .stuck
  | none => .stuck
theorem lcA_core {T : Tx} {xq : Value → Option Addr → Hp → Prop} {gt : GF} {tt : TF} {te : EF} {vs us : List Nat} (hus : ∀ v ∈ us, v ∈ vs) {σ : L2.St} {H1 : Hp} {Q : VK} {J : It} {g1 : Gh} {ρ : Rho} {M1 : List MO} {ds : List PyData} (R1 : Rel T.K g1 M1 H1) (S1 : RS T.K g1 σ ρ) (hJ : ItOk T.K g1.F J ds)
    (b : Bhd T xq (RW T.K) Q (match compL gt tt te (wip ρ vs) ds M1 with
      | some (xs, M2) => if xs.length ≤ sizeLine then .ok (.loc M2.length) (M2 ++ [.lst xs]) else .stuck
      | none => .stuck) g1 H1) :
    tLc (fun _ H R => R J H) (tGt T us gt) (tT T xw0 tt) (tE T xw0 te) vs σ H1 Q := by
  refine fun D hD => ?_
  cases ec : compL gt tt te (wip ρ vs) ds M1 with
  | none => rw [ec] at b; exact b.elim
  | some y =>
    obtain ⟨all, Mend⟩ := y
    rw [ec] at b
    simp only at b
    by_cases hz : all.length ≤ sizeLine
    case neg => rw [if_neg hz] at b; exact b.elim
    rw [if_pos hz] at b
    have hF : g1.F D = none := R1.sub.none hD
    have hph : D ∉ g1.ph := fun z => by obtain ⟨u, q⟩ := R1.tr D z; rw [hD] at q; cases q
    refine lc_in hus hD (R1.updD hF hph (fun _ z => by rw [hD] at z; cases z)) ((Ext.refl _ _).updD hD) S1 hJ upd_same hF hph .nil ec (by simpa using hz) fun g H acc R E G q1 q2 q3 d => ?_
    have eH : L2.upd H D (.lst acc) = H := funext fun a => by
      by_cases h : a = D
      · rw [h, upd_same, q1]
      · rw [upd_ne h]
    obtain ⟨R', E'⟩ := Rel.pushD (u := .lst acc) (o := .lst all) R q2 q3 E hD (fun _ z => by rw [q1] at z; cases z) ⟨acc, upd_same, d⟩
    rw [eH] at R' E'
    exact b (.ref D) ⟨g.ph ++ [D], g.F⟩ H R' E' (push_loc R)
theorem lcA_imp {T : Tx} {xw : WX} {fi : IF} {gt : GF} {tt : TF} {te : EF} {vs us : List Nat} (hus : ∀ v ∈ us, v ∈ vs) {σ : L2.St} {H : Hp} {Q : VK} (h : tE T xw (sLcA fi gt tt te vs) σ H Q) :
    tLc (tI T xw fi) (tGt T us gt) (tT T xw0 tt) (tE T xw0 te) vs σ H Q :=
  tG_mono (tG_bind (R2 := fun g (J : It) ds => ItOk T.K g.F J ds) h) fun J H1 ⟨g1, ρ, M1, ds, R1, S1, hJ, b⟩ => lcA_core (xq := fun c d H => xw c d σ H) hus R1 S1 hJ b
theorem me_lcA {X : Cx} {k : Nat} {xw : WX} {elt tg iter : Expr} {ifs : List Expr} {scope : Scope} {own : List (Str × Nat)} {pos : Pos} {fi : IF} {gt : GF} {tt : TF} {te : EF} {us : List Nat} (C : Ctx X k xw) (hi : MI X xw tg iter fi) (ok : BlkOk X.N X.env.scope scope own)
    (hg : ∀ (s : Shared) (H : Hp) (A : Addr) (cl : List (Str × Addr)) (fp : List Addr), Ctx (X.blk s H scope (compEnvC scope cl A X.env) fp) k xw0 → MG (X.blk s H scope (compEnvC scope cl A X.env) fp) tg us gt) (ht : ∀ (s : Shared) (H : Hp) (A : Addr) (cl : List (Str × Addr)) (fp : List Addr), Ctx (X.blk s H scope (compEnvC scope cl A X.env) fp) k xw0 → MTs (X.blk s H scope (compEnvC scope cl A X.env) fp) ifs tt)
    (he : ∀ (s : Shared) (H : Hp) (A : Addr) (cl : List (Str × Addr)) (fp : List Addr), Ctx (X.blk s H scope (compEnvC scope cl A X.env) fp) k xw0 → ME (X.blk s H scope (compEnvC scope cl A X.env) fp) xw0 elt te) (hus : ∀ v ∈ us, v ∈ own.map (·.2) := by decide) (hs : ∀ x, foldedSetIterable iter X.env x = pure x := by intro _; rfl) :
    ME X xw (.ListComp elt [⟨tg, iter, ifs, 0⟩] scope pos) (sLcA fi gt tt te (own.map (·.2))) :=
  PE.imp (pe_lc C.calm C.nd hi ok (fun s H A cl fp => hg s H A cl fp (C.blk _ _ _ _ _)) (fun s H A cl fp => ht s H A cl fp (C.blk _ _ _ _ _)) (fun s H A cl fp => he s H A cl fp (C.blk _ _ _ _ _)) hs) fun σ H Q h => lcA_imp (T := tx X) hus h
theorem ms_setLcA {X : Cx} {k : Nat} {xw : WX} {i : Nat} {y : Str} {py : Pos} {elt tg iter : Expr} {ifs : List Expr} {scope : Scope} {own : List (Str × Nat)} {pos spos : Pos} {fi : IF} {gt : GF} {tt : TF} {te : EF} {us : List Nat} (C : Ctx X k xw) (hi : MI X xw tg iter fi) (ok : BlkOk X.N X.env.scope scope own)
    (hg : ∀ (s : Shared) (H : Hp) (A : Addr) (cl : List (Str × Addr)) (fp : List Addr), Ctx (X.blk s H scope (compEnvC scope cl A X.env) fp) k xw0 → MG (X.blk s H scope (compEnvC scope cl A X.env) fp) tg us gt) (ht : ∀ (s : Shared) (H : Hp) (A : Addr) (cl : List (Str × Addr)) (fp : List Addr), Ctx (X.blk s H scope (compEnvC scope cl A X.env) fp) k xw0 → MTs (X.blk s H scope (compEnvC scope cl A X.env) fp) ifs tt)
    (he : ∀ (s : Shared) (H : Hp) (A : Addr) (cl : List (Str × Addr)) (fp : List Addr), Ctx (X.blk s H scope (compEnvC scope cl A X.env) fp) k xw0 → ME (X.blk s H scope (compEnvC scope cl A X.env) fp) xw0 elt te) (hy : X.N[i]? = some y := by rfl) (hyl : X.env.scope.names.lookup y = some .local := by rfl)
    (hsw : swapsWith (.ListComp elt [⟨tg, iter, ifs, 0⟩] scope pos) (some (.Name y py)) spos.line X.env = pure true := by exact (sw_true rfl rfl rfl (by decide +kernel))) (hus : ∀ v ∈ us, v ∈ own.map (·.2) := by decide) (hs : ∀ x, foldedSetIterable iter X.env x = pure x := by intro _; rfl) :
    MS X xw (.Assign [.Name y py] (.ListComp elt [⟨tg, iter, ifs, 0⟩] scope pos) spos) (sSet i (sLcA fi gt tt te (own.map (·.2)))) :=
  PS.imp (ps_setLc C.calm C.nd hy hyl hsw hi ok (fun s H A cl fp => hg s H A cl fp (C.blk _ _ _ _ _)) (fun s H A cl fp => ht s H A cl fp (C.blk _ _ _ _ _)) (fun s H A cl fp => he s H A cl fp (C.blk _ _ _ _ _)) hs) fun D σ H q => lcA_imp (T := tx X) hus (tG_mono (tS_then q) fun v H1 ⟨g, ρ, M, w, R, S, r, b⟩ => b _ g H1 R (Ext.refl _ _) (S.set i r))
end Y
namespace Y
open PySem PySem.Spec PyProof.Rows L2

/-! ### the line of an error, read behind the try -/
theorem pe_xfT {X : Cx} {C : Addr} {e : Expr} {te : TE} {pos : Pos} {n : Str} (T : XfC X.K C) (hno : PySem.W.findIn X.K (.ref C) n = some none) (he : PE X e te) (hb : attributeBase e n X.env (eval e X.env) = eval e X.env := by rfl) :
    PE X (.Attribute e n pos) (fun σ H Q => te σ H fun x H1 => ∃ (a dd : Addr) (fs : List (Str × V)) (v : V), x = .ref a ∧ H1 a = some (ExH (.ref C) (some dd) a) ∧ H1 dd = some (.xd fs) ∧ fs.lookup n = some v ∧ Q v H1) := by
  refine ⟨fun pins s σ H Q I h => ?_⟩
  refine attr_of hb (thn (he.run pins s σ H _ I h) fun u s1 hh => ?_)
  obtain ⟨x, H1, I1, rx, a, dd, fs, v, ex, hA, ea, l, q⟩ := hh
  subst ex
  obtain rfl : u = Value.ref a := rx
  obtain ⟨oe, vs, ha, hz, hd⟩ := exh_at I1.hok hA
  have hx : ObjOk X.prog X.w H1 s1.heap dd (.xd fs) := I1.hok dd _ ea
  obtain ⟨mA, hns, hr⟩ := hx
  obtain ⟨od, ho, hl⟩ := lookIn_ns hns
  obtain ⟨u, hu, ru⟩ := RelO.some_of (v := v) (o := mA n) (by rw [← l]; exact hr n)
  have J : PySem.W.InstAt s1.heap a oe C (some od) := ⟨ha, hz.1, by unfold PySem.W.notCls; rw [hd] <;> rfl, by rw [hz.2]; exact ho⟩
  exact HandSPX.exc_get I1.kIn J T.ga T.gg T.exC (PySem.W.findObj_own T.hdC hno rfl (by rw [hl, hu])) (handed_of ru) ⟨v, H1, I1.tok _, ru, q⟩
structure XLn (K : PySem.W.Frag) : Prop where
  ex : ∃ C : Addr, PySem.W.nsIn K mainGlobals "NoText" = some (some (.ref C)) ∧ XfC K C ∧ PySem.W.findIn K (.ref C) "line" = some none
def sXLine (f : EF) : EF := fun ρ M => (f ρ M).bind fun w M1 => match w with
  | .exc x => match x.line with
    | some i => if x.c = "NoText" then .ok (.d (.int i)) M1 else .stuck
    | none => .stuck
  | _ => .stuck
theorem me_xline {X : Cx} {xw : WX} {e : Expr} {f : EF} {pos : Pos} (T : XLn X.K) (he : ME X xw e f) (hb : attributeBase e "line" X.env (eval e X.env) = eval e X.env := by rfl) : ME X xw (.Attribute e "line" pos) (sXLine f) := by
  obtain ⟨C, hns, hT, hno⟩ := T.ex
  refine PE.imp (pe_xfT hT hno he hb) fun σ H Q h => tG_mono (tG_bind (R2 := RW X.K) h) fun v H1 ⟨g, ρ, M, w, R, S, r, b⟩ => ?_
  cases w with
  | exc x =>
    simp only at b
    cases hx : x.line with
    | none => rw [hx] at b; exact b.elim
    | some i =>
      rw [hx] at b
      simp only at b
      split at b
      · rename_i hc
        cases r with
        | exc h1 h2 h3 =>
          rw [hc, hns] at h1
          cases h1
          unfold Ln at h3
          rw [hx] at h3
          obtain ⟨dx, rfl, hdx⟩ := h3
          exact ⟨_, dx, _, .int i, rfl, R.sub _ _ h2, R.sub _ _ hdx, rfl, b _ g H1 R (Ext.refl _ _) (.d (.int i))⟩
      · exact b.elim
  | _ => exact b.elim
end Y
namespace Y
open PySem PySem.Spec PyProof.Rows L2

/-! ### lambdas of one parameter, handed to a def -/
/-- a lambda's call, by its code object -/
theorem call_lam {prog : Program} {w : World} {A : Around} {R : Result → Shared → Prop} {s : Shared} {aF : Addr} {ar : Args} {oF : Obj} {fd : FuncData} {bd : Expr} {qn : Str} (rm : A.depth < recursionLimit) (hF : s.heap.get? aF = some oF) (dF : oF.data = .func fd)
    (co : fd.scope.isCoroutine = false) (ge : fd.scope.isGenerator = false) (eb : fd.body = .expr bd) (cr : s.heap.CodeRec fd.code qn)
    (k : wpAny (model prog w) A.in1 (bindArgs fd ar) (fun bs s1 => wpAny (model prog w) A.in1 (newFunctionEnv fd.scope fd.globals fd.closure bs (qn ++ ".<locals>.") (some aF) fd.code none fd.builtins) (fun env s2 => s2.heap.NoLimit ∧ codeAny (model prog w) A (.expr bd env) R s2) (fun e s2 => R (.error e) s2) s1)
      (fun e s1 => R (.error e) s1) s) : codeAny (model prog w) A (.call (.ref aF) ar) R s := by
  refine codeAny_of_tree ?_
  show wpAny _ A.in1 (callAny (.ref aF) ar) _ _ s
  simp only [callAny]
  refine wpAny_bind (wpAny_load hF ?_)
  obtain ⟨c0, o0, v0, t0, ec, eo, ed, ev⟩ := cr
  simp only [dF, callFunction, co, ge, eb, ec]
  rw [ec] at k
  refine wpAny_bind (m := field (.ref c0) 1) (wpAny_field eo ed ev (wpAny_bind (wpAny_pure ?_)))
  exact wpAny_bind (wpAny_mono k (fun bs s1 k1 => wpAny_bind (wpAny_mono k1 (fun en s2 k2 => wpAny_bind (wpAny_enterFrame k2.1 rm (wpAny_pure ⟨rfl, k2.2⟩))) fun _ _ z => z)) fun _ _ z => z)
section
variable {X : Cx} {pins : List (Addr × Obj)} {σ : L2.St} {H : Hp} {s : Shared}
/-- what captured cells held when the frame began they hold still -/
theorem cells_later {cl : List (Str × Addr)} {fr : List Str} {wv : List (Option V)} (C : NdefX.CellsAt cl fr wv X.s_0.heap X.H_0) (hx : X.ex = []) (I : Inv X pins σ H s) : NdefX.CellsAt cl fr wv s.heap H := by
  have nx : ∀ b : Addr, b ∉ X.ex := fun b z => by rw [hx] at z; cases z
  have kp : ∀ y c, cl.lookup y = some c → ∀ v, X.s_0.heap.IsCell c v → s.heap.IsCell c v := fun y c e v ⟨o, ho, hd⟩ => by
    have n0 := (C.all y c e).1
    by_cases hf : c ∈ X.fs
    · obtain ⟨sl, q⟩ := I.base.slot c o ho n0 hf (nx c)
      exact ⟨_, q, hd⟩
    · exact ⟨o, I.base.keep c o ho n0 hf (nx c), hd⟩
  refine ⟨C.len, fun y c e => ?_, C.inj, fun n y e => ?_⟩
  · obtain ⟨n0, v, q⟩ := C.all y c e
    refine ⟨?_, v, kp y c e v q⟩
    obtain ⟨o, ho, _⟩ := q
    exact I.base.free c o ho n0 (nx c)
  · obtain ⟨c, e1, e2⟩ := C.has n y e
    refine ⟨c, e1, fun v ev => ?_⟩
    obtain ⟨u, r, q⟩ := e2 v ev
    exact ⟨u, r, kp y c e1 _ q⟩
/-- the lambda is made: its object is known from now on; its code object is known or new -/
theorem lam_mk {c P : Addr} {ps : Array Value} {params : Arguments} {body : Expr} {scope : Scope} {pos : Pos} {E : Value → Shared → Prop} {Q : Value → Shared → Prop} (vs : List V) (I : Inv X pins σ H s) (B : LamX.TabB X.base X.mg c P) (hc : X.env.code = .ref c)
    (hP : H P = some (.tbl ps)) (t0 : TriplesOk ps.toList) {Z : Addr → Str → Prop} (ta : ∀ (p : Pos) (cv : Value), codeAmong p ps.toList = some cv → ∃ a q, cv = .ref a ∧ Z a q) (hd : defaultsOf params X.env = ([], [])) (hf : ∀ y ∈ scope.names, y.2 = .free → ∃ a, X.env.cells.lookup y.1 = some a)
    (k : ∀ (f a : Addr) (q : Str) (G : Hp) (s2 : Shared), (G = H ∧ Z a q ∨ H a = none ∧ ∃ p : Pos, G = upd (upd H P (.tbl (ps ++ #[rawInt p.line, rawInt p.col, .ref a]))) a (LamX.CodeO a q)) → G f = none →
      Inv X pins σ (upd G f (LamO ⟨f, ⟨"<lambda>", q, params, [], scope, cloFrom X.env.cells scope.names [], a⟩, body, vs⟩)) s2 → Q (.ref f) s2) :
    wpAny (model X.prog X.w) X.A (eval (.Lambda params body scope pos) X.env) Q E s := by
  refine PySem.W.kla_eval hd ?_
  have bP : s.heap.BuiltinsAt X.mg P := B.bm.keeps I.bk
  have gP : s.heap.get? P = some { cls := .none, data := .fields ps } := I.hok P _ hP
  cases ec : codeAmong pos ps.toList with
  | none =>
    refine PySem.W.kla_makeFunction (mg := X.mg) (c := c) (P := P) (ps := ps) (closure_ok hf) I.ok.glob (I.mod.glob.keeps I.bk) hc (B.code.keeps I.bk) gP t0 ec B.gP bP fun a ct h2 tk kp ge lt cr ht => ?_
    obtain ⟨a2, oc, fs, tq, ea, eo, ed, ev⟩ := cr
    cases ea
    have nA : H a = none := I.hok.fresh ge
    have I1 := LamX.inv_table (q := X.env.qual ++ "<lambda>") (t' := tk) (more := #[rawInt pos.line, rawInt pos.col, .ref a]) (h' := h2) I hP (fun b o hb e => kp b o hb e) ht ge ⟨oc, fs, tq, eo, ed, ev⟩
    have nF : upd (upd H P (.tbl (ps ++ #[rawInt pos.line, rawInt pos.col, .ref a]))) a (LamX.CodeO a (X.env.qual ++ "<lambda>")) h2.objs.size = none := I1.hok.fresh (Nat.le_refl _)
    refine k h2.objs.size a (X.env.qual ++ "<lambda>") _ _ (.inr ⟨nA, pos, rfl⟩) nF ?_
    refine I1.laid (a := h2.objs.size) (t' := tk) (fun b u e => Heap.get?_push_of_some _ e) (Nat.le_refl _) ⟨⟨_, _, _, Heap.get?_push_size _ rfl⟩, ⟨_, Heap.get?_push_size _ rfl⟩, fun h3 h4 ⟨qf, pm, cv, z⟩ st => ⟨qf, pm, cv, st _ z⟩⟩
  | some cv =>
    obtain ⟨a, q, ea, hco⟩ := ta pos cv ec
    subst ea
    refine PySem.W.kla_makeFunctionHit (mg := X.mg) (c := c) (P := P) (ps := ps) (closure_ok hf) I.ok.glob (I.mod.glob.keeps I.bk) hc (B.code.keeps I.bk) gP t0 ec bP fun ct h2 tk kp sz => ?_
    have I1 : Inv X pins σ H { s with heap := h2, toks := tk } := I.kept fun b o e => kp b o e
    refine k h2.objs.size a q H _ (.inl ⟨rfl, hco⟩) (I.hok.fresh sz) ?_
    exact I1.laid (a := h2.objs.size) (t' := tk) (fun b u e => Heap.get?_push_of_some _ e) (Nat.le_refl _) ⟨⟨_, _, _, Heap.get?_push_size _ rfl⟩, ⟨_, Heap.get?_push_size _ rfl⟩, fun h3 h4 ⟨qf, pm, cv, z⟩ st => ⟨qf, pm, cv, st _ z⟩⟩
end
open Classical in
/-- what was handed in as a lambda is called -/
noncomputable def sCallCl (j : Nat) (i : CloI) (ws : List W) (n : Nat) (fb fe : EF) : EF := fun ρ M => if ρ[j]? = some (some (.clo i ws)) then (fe ρ M).bind fun w M1 => match fb (some w :: (ws.map some ++ List.replicate (n - 1 - ws.length) none)) M1 with
    | .ok r M2 => .ok r M2
    | _ => .stuck
  else .stuck
theorem rs_lam {K : PySem.W.Frag} {g : Gh} {N : List Str} {v : V} {w : W} {vs : List V} {ws : List W} (r : RW K g v w) (t : RWs K g vs ws) : RS K g (NdefX.startF N [v] (vs.map some)) (some w :: (ws.map some ++ List.replicate (N.length - 1 - ws.length) none)) := by
  have hl := t.length
  unfold NdefX.startF
  refine ⟨by simp [hl], fun n u e => ?_⟩
  cases n with
  | zero =>
    have e' : some w = some u := by simpa using e
    cases e'
    exact ⟨v, rfl, r⟩
  | succ n =>
    rw [List.getElem?_cons_succ] at e
    by_cases hn : n < ws.length
    · rw [List.getElem?_append_left (by rw [List.length_map]; exact hn), List.getElem?_map, List.getElem?_eq_getElem hn] at e
      cases e
      obtain ⟨x, e1, e2⟩ := t.get (i := n) (List.getElem?_eq_getElem hn)
      refine ⟨x, ?_, e2⟩
      show ([some v] ++ (vs.map some ++ _))[n + 1]? = _
      rw [List.getElem?_append_right (by simp)]
      show (vs.map some ++ _)[n]? = _
      rw [List.getElem?_append_left (by rw [List.length_map]; omega), List.getElem?_map, e1]
      rfl
    · rw [List.getElem?_append_right (by rw [List.length_map]; omega), List.getElem?_replicate] at e
      split at e <;> cases e
theorem act_ok {X : Cx} {k : Nat} {xw : WX} {i : CloI} {ws : List W} {N fr : List Str} {x a : Str} {j : Nat} {fb : EF} (C : Ctx X (k + 1) xw) (hx : X.ex = []) (S : NdefX.NScope N [x] fr i.F.scope) (CA : NdefX.CellsAt i.F.cl fr (i.vs.map some) X.s_0.heap X.H_0)
    (hb : ∀ (qf : Str) (pm ct u : Value), bindArgs (PySem.W.kla_fn "<lambda>" qf i.F.params i.e i.F.scope i.F.cl pm (.ref i.F.c) ct) ⟨[u], []⟩ = pure [(x, u)])
    (body : ∀ (A : Around) (outer : List Env) (s : Shared) (H : Hp) (E : L2.XK), Ctx (NdefX.ncx (L2.CX X.prog X.w) X.prog X.w X.K X.mg X.base N i.F i.f A outer s H E) k (fun c d _ H => E c d H) → ME (NdefX.ncx (L2.CX X.prog X.w) X.prog X.w X.K X.mg X.base N i.F i.f A outer s H E) (fun c d _ H => E c d H) i.e fb)
    (hN : X.N[j]? = some a) (hv : Vis X.env.scope a) {e : Expr} {fe : EF} {p1 p2 : Pos} (he : ME X xw e fe) (hs : starEach [e] X.env = (false, eval e X.env) :: starEach [] X.env := by rfl) (hpl : (backTo p2 (starEach [] X.env)).any (·.1) = false := by rfl)
    (hd : (a == ("__debug__" : Str)) = false := by decide) (hcd : (a == ("__classdict__" : Str)) = false := by decide) : ME X xw (.Call (.Name a p1) [e] [] p2) (sCallCl j i ws N.length fb fe) := by
  refine ⟨fun pins s σ H Q I h => ?_⟩
  obtain ⟨g, ρ, M, R, Sg, b⟩ := h
  unfold sCallCl at b
  split at b
  rotate_left
  · exact b.elim
  rename_i hz
  obtain ⟨v0, e0, r0⟩ := Sg.at_ j _ hz
  cases r0 with
  | clo h1 h2 t =>
    refine wpAny_Call_Name_kw (thn ((pe_var (pos := p1) hN hv hd hcd).run pins s σ H (fun v G => v = .ref i.f ∧ G = H) I ⟨.ref i.f, e0, rfl, rfl⟩) fun u s1 ⟨v, H1, I1, r1, q1⟩ => ?_)
    obtain ⟨ev, eH⟩ := q1
    subst ev
    rw [eH] at I1
    obtain rfl : u = Value.ref i.f := r1
    have fnA : ∀ {s : Shared} {H : Hp} {σ : L2.St}, Inv X pins σ H s → H i.f = some (LamO i) → PySem.W.FnAt i.f s.heap := fun {s H σ} I q => by
      obtain ⟨⟨qf, pm, ct, z⟩, _, _⟩ := I.hok i.f _ q
      exact ⟨_, _, _, _, z⟩
    have harg : tE (tx X) xw fe σ H fun v G => ∃ g' w M1, fe ρ M = .ok w M1 ∧ Rel X.K g' M1 G ∧ Ext g H g' G ∧ RW X.K g' v w := by
      refine ⟨g, ρ, M, R, Sg, ?_⟩
      cases e1 : fe ρ M with
      | stuck => rw [e1] at b; exact b
      | err y M2 => rw [e1] at b; exact b
      | ok w M1 => exact fun v g' H' R' E' r' => ⟨g', w, M1, rfl, R', E', r'⟩
    refine PySem.W.callWith_F (first := []) (fnA I1 (R.sub _ _ h1)) ?_ hs hpl
    rw [hs]
    refine Calls.spliced_cons (thn (he.run pins s1 σ H _ I1 harg) fun u2 s2 ⟨v2, H2, I2, rv2, g', w, M1, ew, R', E', rw'⟩ => Calls.spliced_nil ?_)
    have f1 : H2 i.f = some (LamO i) := R'.sub _ _ (E'.gr.F _ _ h1)
    have f2 : H2 i.F.c = some (LamX.CodeO i.F.c i.F.qual) := R'.sub _ _ (E'.gr.F _ _ h2)
    refine ⟨fnA I2 f1, ?_⟩
    rw [ew] at b
    show wpAny _ _ (call (.ref i.f) [u2]) _ _ _
    have rc : codeAny (model X.prog X.w) X.A (.call (.ref i.f) ⟨[u2], []⟩) (CR (L2.CX X.prog X.w) X.stack X.prog X.w H2 s2 Q (fun _ _ _ => False)) s2 := by
      obtain ⟨⟨qf, pm, ct, z⟩, _, _⟩ := I2.hok i.f _ f1
      refine call_lam (qn := i.F.qual) C.room.depth z rfl S.co S.gen rfl (NdefX.codeO_at I2.hok f2) ?_
      show wpAny _ _ (bindArgs (PySem.W.kla_fn "<lambda>" qf i.F.params i.e i.F.scope i.F.cl pm (.ref i.F.c) ct) ⟨[u2], []⟩) _ _ _
      rw [hb]
      have lim : s2.heap.NoLimit := I2.nolimit
      refine wpAny_pure (wpAny_newFunctionEnv S.nocell (fun y hy => ?_) (fun h3 hns hsb => ⟨lim.fresh _ hsb, ?_⟩) S.kind)
      · rw [List.mem_singleton.mp hy]
        exact S.par x (by simp)
      show codeAny _ _ (.expr i.e (NdefX.envF i.F i.f s2.heap.objs.size)) _ _
      have kp : ∀ b o, s2.heap.get? b = some o → h3.get? b = some o := fun b o e => hsb.extBut b o (Nat.ne_of_lt (Heap.lt_size e)) (Heap.get?_push_of_some _ e)
      have J := NdefX.inv_startN (CX := L2.CX X.prog X.w) (E := fun _ _ _ => False) (tk := s2.toks + [(x, u2)].length) (f := i.f) (us := [u2]) (vs := [v2]) S C.room.hd I2.env0 rfl (.cons rv2 .nil) (cells_later CA hx I2) hns kp
      have Cb : Ctx (NdefX.ncx (L2.CX X.prog X.w) X.prog X.w X.K X.mg X.base N i.F i.f X.A X.stack s2 H2 (fun _ _ _ => False)) k (fun c d _ H => (fun _ _ _ => False : L2.XK) c d H) :=
        ⟨rfl, S.nd, takes_of rfl rfl rfl rfl, passes_of rfl, C.room.deeper _, guards_deeper C.gd⟩
      have ht : tE (tx (NdefX.ncx (L2.CX X.prog X.w) X.prog X.w X.K X.mg X.base N i.F i.f X.A X.stack s2 H2 (fun _ _ _ => False))) (fun c d _ H => (fun _ _ _ => False : L2.XK) c d H) fb (NdefX.startF N [v2] (i.vs.map some)) H2 Q := by
        refine ⟨g', _, M1, R', rs_lam rw' (RWs.gr E'.gr t), ?_⟩
        have b2 : Bhd (tx X) (fun c d H => xw c d σ H) (RW X.K) Q (match fb (some w :: (ws.map some ++ List.replicate (N.length - 1 - ws.length) none)) M1 with
          | .ok r M2 => Res.ok r M2
          | _ => .stuck) g H := b
        cases e3 : fb (some w :: (ws.map some ++ List.replicate (N.length - 1 - ws.length) none)) M1 with
        | stuck => rw [e3] at b2; exact b2.elim
        | err y M2 => rw [e3] at b2; exact b2.elim
        | ok r M2 =>
          rw [e3] at b2
          exact fun v g3 H3 R3 E3 r3 => b2 v g3 H3 R3 (E'.trans E3) r3
      refine PySem.W.kla_codeExpr (wpAny_mono ((body X.A X.stack s2 H2 (fun _ _ _ => False) Cb).run [] _ _ H2 Q J ht) (fun v s' hq => ?_) fun e s' hq => hq)
      obtain ⟨w3, H3, J3, r3, q3⟩ := hq
      exact ⟨w3, H3, J3.os, J3.bare, J3.base, J3.hok, r3, q3⟩
    refine wpAny_call (codeAny_mono rc fun r s' hq => ?_)
    cases r with
    | error e => exact (cxNo hq).elim
    | ok fl =>
      cases fl with
      | ret u => exact I2.after hq
      | next => exact False.elim hq
      | brk => exact False.elim hq
      | cont => exact False.elim hq
end Y
namespace Y
open PySem PySem.Spec PyProof.Rows L2

/-- a def that makes lambdas: its object, its code object, the table -/
structure LamT (K : PySem.W.Frag) (mg : Str → Option Value) (base : Heap) (x : Str) (c P : Addr) : Prop where
  mem : x ∈ lamNames
  code : ∃ f, mg x = some (.ref f) ∧ ∀ oc od fd osl, K.lookup f = some ⟨oc, od, .func fd, osl⟩ → fd.code = .ref c
  tab : tabOfN K x = some P
  tb : LamX.TabB base mg c P
theorem LamT.tk {K : PySem.W.Frag} {mg : Str → Option Value} {base : Heap} {x : Str} {c P : Addr} (L : LamT K mg base x c P) : P ∈ tabsK K := List.mem_filterMap.mpr ⟨x, L.mem, L.tab⟩
/-- a def's run, at one entry -/
theorem run_at {P : Program} {w : World} {K : PySem.W.Frag} {mg : Str → Option Value} {base : Heap} {x qual : Str} {st : Stmt} {f : Addr} {fd : FuncData} {N ps : List Str} {k : Nat} {sf : SF} (F : Fun K x qual st f fd) (S : FnScope N ps (defScope st))
    {A : Around} {outer : List Env} {s : Shared} {H : Hp} {args : Args} {us : List Value} {vs : List V} {Q : VK} {E : L2.XK} (hr : Room (k + 1) A) (hgd : A.guards = some []) (e0 : Env0 P w K mg base A outer s H) (hb : BindsTo s fd args (ps.zip us)) (r : Vals vs us) (hl : vs.length = ps.length)
    (hbody : ∀ (cdv : Value), (∃ oc od fd osl, K.lookup f = some ⟨oc, od, .func fd, osl⟩ ∧ fd.code = cdv) → Ctx (cxOf (L2.CX P w) P w K mg base N qual (defScope st) f cdv A outer s H E) k (fun c d _ H => E c d H) →
      MSs (cxOf (L2.CX P w) P w K mg base N qual (defScope st) f cdv A outer s H E) (fun c d _ H => E c d H) (defBody st) sf) (hsp : spM ⟨K, mg⟩ (defF N.length sf) vs H Q E) :
    codeAny (model P w) A (.call (.ref f) args) (CR (L2.CX P w) outer P w H s Q E) s := by
  obtain ⟨oc, od, kV, doc, pm, an, cdv, ct, osl, rfl, lk, hcd⟩ := F.ex
  have KX : K.In s.heap := e0.mod.kin.keeps fun b o e => (e0.bs b o e).1
  have lim : s.heap.NoLimit := e0.mod.nolimit.keeps fun b o e => (e0.bs b o e).1
  have hkind : ∀ y ∈ ps.zip us, (defScope st).names.lookup y.1 = some .local ∨ ((defScope st).names.lookup y.1 = some .cell ∧ ((cellsFrom (s.heap.objs.size + 1) (defScope st).names []).lookup y.1).isSome = true) := fun ⟨n, v⟩ hy => by
    rcases S.par n (List.of_mem_zip hy).1 with q | q
    · exact .inl q
    · exact .inr ⟨q, PySem.W.cellsFrom_some _ _ _ (.inl q)⟩
  refine codeAny_call_function hr.depth (KX _ _ lk) rfl S.co S.gen rfl (PySem.W.codeRec_of KX hcd) (hb _ _ _ _ ?_)
  refine wpAny_newFunctionEnv_cells S.kind hkind fun env he s1 x => ?_
  subst he
  refine ⟨lim.keeps x.toInCall.keep, codeAny_func ?_⟩
  have C : Ctx (cxOf (L2.CX P w) P w K mg base N qual (defScope st) f cdv A outer s H E) k (fun c d _ H => E c d H) := ctx_def S (hr.deeper _) hgd
  have ht := hbody cdv ⟨_, _, _, _, lk, rfl⟩ C
  have I : Inv (cxOf (L2.CX P w) P w K mg base N qual (defScope st) f cdv A outer s H E) [] (L2.start N vs) H s1 := inv_start S hr.hd e0 hl r x
  have hq : tS ⟨K, mg⟩ (fun c d _ H => E c d H) sf { nx := fun _ H' => Q .non H', rt := Q } (L2.start N vs) H := by
    obtain ⟨g, ws, M, R, rw_, b⟩ := hsp
    refine ⟨g, start0 N.length ws, M, R, rs_start rw_, ?_⟩
    unfold defF at b
    cases e : sf (start0 N.length ws) M with
    | nx ρ M' => rw [e] at b; exact fun σ g' H' r' e' _ => b .non g' H' r' e' (.d .non)
    | ret v M' => rw [e] at b; exact b
    | bk ρ M' => rw [e] at b; exact b.elim
    | ct ρ M' => rw [e] at b; exact b.elim
    | stuck => rw [e] at b; exact b.elim
    | er x ρ M' => rw [e] at b; exact fun c d σ g' H' r' e' _ => b c d g' H' r' e'
  refine wpAny_mono (ht.run [] s1 (L2.start N vs) H _ I hq) (fun fl s' hs => ?_) fun e s' hs => hs
  have fin : ∀ {σ' : L2.St} {H' : Hp} {v : V} {u : Value}, Inv (cxOf (L2.CX P w) P w K mg base N qual (defScope st) f cdv A outer s H E) [] σ' H' s' → RelV v u → Q v H' → CE outer P w H s Q u s' :=
    fun {σ' H' v u} J rv q => ⟨v, H', J.os, J.bare, J.base, J.hok, rv, q⟩
  cases fl with
  | ret u =>
    obtain ⟨v, σ', H', J, rv, q⟩ := hs
    exact fin J rv q
  | next =>
    obtain ⟨σ', H', J, q⟩ := hs
    exact fin (v := V.non) (u := Value.none) J rfl q
  | brk =>
    obtain ⟨_, _, _, q⟩ := hs
    exact False.elim q
  | cont =>
    obtain ⟨_, _, _, q⟩ := hs
    exact False.elim q
/-- a def that makes lambdas by its body -/
theorem cal_ofL {P : Program} {w : World} {K : PySem.W.Frag} {mg : Str → Option Value} {base : Heap} {x : Str} {st : Stmt} {N ps : List Str} {k : Nat} {sf : SF} {c T : Addr} (L : LamT K mg base x c T) (t : Txt1 K mg x st ps) (S : FnScope N ps (defScope st))
    (hbody : ∀ (f : Addr) (A : Around) (outer : List Env) (s : Shared) (H : Hp) (E : L2.XK), Ctx (cxOf (L2.CX P w) P w K mg base N x (defScope st) f (.ref c) A outer s H E) k (fun c d _ H => E c d H) →
      MSs (cxOf (L2.CX P w) P w K mg base N x (defScope st) f (.ref c) A outer s H E) (fun c d _ H => E c d H) (defBody st) sf) : Cal P w K mg base (k + 1) x ps (defF N.length sf) :=
  let ⟨f, fd, F, m, b⟩ := t.ex
  ⟨f, fd, ⟨fun A outer s H args us vs Q E hr hg e0 hb r hl h => run_at F S hr hg e0 hb r hl (fun cdv hc C => by
    obtain ⟨oc, od, fd', osl, lk, e⟩ := hc
    obtain ⟨f', e1, e2⟩ := L.code
    rw [m] at e1
    cases e1
    rw [e2 _ _ _ _ lk] at e
    subst e
    exact hbody f A outer s H E C) h⟩, m, F.kp, b⟩
/-- what a lambda captures -/
def capt (ρ : Rho) : List Nat → Option (List W)
  | [] => some []
  | j :: js => match ρ[j]? with
    | some (some w) => (capt ρ js).map (w :: ·)
    | _ => none
theorem capt_ok {K : PySem.W.Frag} {g : Gh} {σ : L2.St} {ρ : Rho} (S : RS K g σ ρ) : ∀ {js : List Nat} {ws : List W}, capt ρ js = some ws → ∃ vs, js.map (NdefX.slotAt σ) = vs.map some ∧ RWs K g vs ws
  | [], ws, e => by
    have e' : some [] = some ws := e
    cases e'
    exact ⟨[], rfl, .nil⟩
  | j :: js, ws, e => by
    unfold capt at e
    split at e
    · rename_i w hw
      cases ec : capt ρ js with
      | none => rw [ec] at e; cases e
      | some ws' =>
        rw [ec] at e
        cases e
        obtain ⟨vs, e1, e2⟩ := capt_ok S ec
        obtain ⟨v, e3, e4⟩ := S.at_ j w hw
        exact ⟨v :: vs, by rw [List.map_cons, List.map_cons, e1, NdefX.slotAt_of e3], .cons e4 e2⟩
    · cases e
open Classical in
/-- f(e, lambda ..): the callee's mirror by what it was given -/
noncomputable def sCallLam (ng : Nat) (sf : CloI → List W → SF) (js : List Nat) (fe : EF) : EF := fun ρ M => (fe ρ M).bind fun w M1 => match capt ρ js with
  | none => .stuck
  | some ws => if h : ∃ R, ∀ i : CloI, defF ng (sf i ws) [w, .clo i ws] M1 = R then h.choose else .stuck
theorem rel_tbl {K : PySem.W.Frag} {g : Gh} {M : List MO} {H : Hp} {P a : Addr} {ps : Array Value} {q : Str} {p : Pos} (R : Rel K g M H) (hP : H P = some (.tbl ps)) (hg : P ∉ g.ph) (fP : g.F P = none) (to : TabOk g.F ps) (nA : H a = none) :
    Rel K ⟨g.ph, upd g.F a (LamX.CodeO a q)⟩ M (upd (upd H P (.tbl (ps ++ #[rawInt p.line, rawInt p.col, .ref a]))) a (LamX.CodeO a q)) ∧ Ext g H ⟨g.ph, upd g.F a (LamX.CodeO a q)⟩ (upd (upd H P (.tbl (ps ++ #[rawInt p.line, rawInt p.col, .ref a]))) a (LamX.CodeO a q)) := by
  have nPa : P ≠ a := ne_of_none hP nA
  have s1 : Sub g.F (upd g.F a (LamX.CodeO a q)) := Sub.upd (R.sub.none nA)
  have at1 : ∀ b o, b ≠ P → H b = some o → upd (upd H P (.tbl (ps ++ #[rawInt p.line, rawInt p.col, .ref a]))) a (LamX.CodeO a q) b = some o := fun b o h1 e => by rw [upd_ne (ne_of_none e nA), upd_ne h1]; exact e
  have atP : upd (upd H P (.tbl (ps ++ #[rawInt p.line, rawInt p.col, .ref a]))) a (LamX.CodeO a q) P = some (.tbl (ps ++ #[rawInt p.line, rawInt p.col, .ref a])) := by rw [upd_ne nPa, upd_same]
  have eL : (ps ++ #[rawInt p.line, rawInt p.col, .ref a]).toList = ps.toList ++ [rawInt p.line, rawInt p.col, .ref a] := by simp
  have to' : TabOk (upd g.F a (LamX.CodeO a q)) (ps ++ #[rawInt p.line, rawInt p.col, .ref a]) := ⟨by rw [eL]; exact PySem.TriplesOk_snoc _ _ _ _ to.1, fun p' cv hc => by
    rw [eL] at hc
    rcases LamX.among_app _ to.1 hc with z | z
    · obtain ⟨c0, q0, e1, e2⟩ := to.2 p' cv z
      exact ⟨c0, q0, e1, s1 _ _ e2⟩
    · exact ⟨a, q, z, upd_same⟩⟩
  refine ⟨⟨fun b o e => ?_, R.len, fun n o e l => ?_, R.inj, fun b hb => ?_, fun P' hP' => ?_⟩, ⟨⟨fun _ _ z => z, s1⟩, fun b o e n => ?_, fun b e e' => ?_, fun b hb => .inl hb⟩⟩
  · by_cases h : b = a
    · subst h
      have e' : upd g.F b (LamX.CodeO b q) b = some o := e
      rw [upd_same] at e' ⊢
      exact e'
    · have e' : upd g.F a (LamX.CodeO a q) b = some o := e
      rw [upd_ne h] at e'
      exact at1 b o (fun z => by rw [z, fP] at e'; cases e') (R.sub _ _ e')
  · obtain ⟨b, e1, e2, e3⟩ := R.at_ n o e l
    obtain ⟨u, hu⟩ := e3.there l
    have nb : b ≠ P := fun z => hg (by rw [← z]; exact List.mem_of_getElem? e1)
    refine ⟨b, e1, ?_, MOk.gr (g := g) (g' := ⟨g.ph, upd g.F a (LamX.CodeO a q)⟩) ⟨fun _ _ z => z, s1⟩ (fun o' q' => at1 b o' nb q') e3⟩
    show upd g.F a (LamX.CodeO a q) b = none
    rw [upd_ne (ne_of_none hu nA)]
    exact e2
  · obtain ⟨u, hu⟩ := R.tr b hb
    exact ⟨u, at1 b u (fun z => hg (by rw [← z]; exact hb)) hu⟩
  · obtain ⟨ps', h1, h2, h3, h4⟩ := R.tab P' hP'
    have na : P' ≠ a := ne_of_none h1 nA
    by_cases h : P' = P
    · subst h
      exact ⟨_, atP, h2, (upd_ne na).trans h3, to'⟩
    · exact ⟨ps', at1 P' _ h h1, h2, (upd_ne na).trans h3, h4.sub s1⟩
  · by_cases h : b = P
    · subst h
      rw [hP] at e
      cases e
      exact .inr ⟨ps, _, rfl, atP, fun _ => to'⟩
    · exact .inl (at1 b o h e)
  · by_cases h : b = a
    · rw [h]; exact .inl nA
    · exact absurd (show upd g.F a (LamX.CodeO a q) b = none by rw [upd_ne h]; exact e) e'
theorem rel_lam {K : PySem.W.Frag} {g : Gh} {M : List MO} {H G : Hp} {P a f : Addr} {ps : Array Value} {q : Str} {i : CloI} (R : Rel K g M H) (hP : H P = some (.tbl ps)) (hg : P ∉ g.ph) (fP : g.F P = none) (to : TabOk g.F ps)
    (hG : G = H ∧ g.F a = some (LamX.CodeO a q) ∨ H a = none ∧ ∃ p : Pos, G = upd (upd H P (.tbl (ps ++ #[rawInt p.line, rawInt p.col, .ref a]))) a (LamX.CodeO a q)) (nf : G f = none) :
    ∃ g', Rel K g' M (upd G f (LamO i)) ∧ Ext g H g' (upd G f (LamO i)) ∧ g'.F f = some (LamO i) ∧ g'.F a = some (LamX.CodeO a q) := by
  rcases hG with ⟨rfl, hc⟩ | ⟨nA, p, rfl⟩
  · refine ⟨⟨g.ph, upd g.F f (LamO i)⟩, R.lay nf, Ext.lay R.sub nf, upd_same, ?_⟩
    show upd g.F f (LamO i) a = _
    rw [upd_ne (fun z => by rw [z] at hc; have := R.sub _ _ hc; rw [nf] at this; cases this)]
    exact hc
  · obtain ⟨R1, E1⟩ := rel_tbl (q := q) (p := p) R hP hg fP to nA
    refine ⟨⟨g.ph, upd (upd g.F a (LamX.CodeO a q)) f (LamO i)⟩, R1.lay nf, E1.trans (Ext.lay R1.sub nf), upd_same, ?_⟩
    show upd (upd g.F a (LamX.CodeO a q)) f (LamO i) a = _
    rw [upd_ne (fun z => by rw [← z, upd_same] at nf; cases nf), upd_same]
/-- the lambda as an argument -/
def tLamA (T : Tx) (js : List Nat) (params : Arguments) (body : Expr) (scope : Scope) (cl : List (Str × Addr)) : TE := fun σ H Q => ∃ (g : Gh) (ρ : Rho) (M : List MO) (ws : List W), Rel T.K g M H ∧ RS T.K g σ ρ ∧ capt ρ js = some ws ∧
  ∀ (i : CloI) (g' : Gh) (H' : Hp), i.F.scope = scope → i.F.params = params → i.e = body → i.F.cl = cl → js.map (NdefX.slotAt σ) = i.vs.map some → Rel T.K g' M H' → Ext g H g' H' → RW T.K g' (.ref i.f) (.clo i ws) → Q (.ref i.f) H'
theorem pe_lamA {X : Cx} {x0 : Str} {c P : Addr} {js : List Nat} {params : Arguments} {body : Expr} {scope : Scope} {pos : Pos} (L : LamT X.K X.mg X.base x0 c P) (hc : X.env.code = .ref c) (hd : defaultsOf params X.env = ([], []))
    (hf : ∀ y ∈ scope.names, y.2 = .free → X.env.scope.names.lookup y.1 = some .cell ∨ X.env.scope.names.lookup y.1 = some .free) : PE X (.Lambda params body scope pos) (tLamA (tx X) js params body scope (cloFrom X.env.cells scope.names [])) := by
  refine ⟨fun pins s σ H Q I h => ?_⟩
  obtain ⟨g, ρ, M, ws, R, Sg, ec, k⟩ := h
  obtain ⟨ps, h1, h2, h3, h4⟩ := R.tab P L.tk
  obtain ⟨vs, e1, e2⟩ := capt_ok Sg ec
  refine lam_mk (Z := fun a q => g.F a = some (LamX.CodeO a q)) vs I L.tb hc h1 h4.1 h4.2 hd (fun y hy e => (hf y hy e).elim (fun z => I.ok.has _ (.inl z)) fun z => I.ok.has _ (.inr z)) fun f a q G s2 hG nf I2 => ?_
  obtain ⟨g', R', E', f1, f2⟩ := rel_lam (i := ⟨f, ⟨"<lambda>", q, params, [], scope, cloFrom X.env.cells scope.names [], a⟩, body, vs⟩) R h1 h2 h3 h4 hG nf
  exact ⟨.ref f, _, I2, rfl, k ⟨f, ⟨"<lambda>", q, params, [], scope, cloFrom X.env.cells scope.names [], a⟩, body, vs⟩ g' _ rfl rfl rfl rfl e1 R' E' (.clo f1 f2 (RWs.gr E'.gr e2))⟩
open Classical in
theorem me_callLam {X : Cx} {k : Nat} {xw : WX} (C : Ctx X (k + 2) xw) {x0 : Str} {c P : Addr} (L : LamT X.K X.mg X.base x0 c P) (hc : X.env.code = .ref c) {x a b0' lx : Str} {st : Stmt} {Ng N fr : List Str} {js : List Nat} {params : Arguments} {body : Expr} {scope : Scope} {fb fe : EF} {sf : CloI → List W → SF}
    (t : Txt1 X.K X.mg x st [b0', a]) (Sg : FnScope Ng [b0', a] (defScope st)) (S : NdefX.NScope N [lx] fr scope) (hd : defaultsOf params X.env = ([], [])) (hnd : NdefX.ndefB X.env.scope scope fr = true) (hjs : js.map (fun j => X.N[j]?) = fr.map some)
    (hb : ∀ (qf : Str) (cl : List (Str × Addr)) (pm cv ct u : Value), bindArgs (PySem.W.kla_fn "<lambda>" qf params body scope cl pm cv ct) ⟨[u], []⟩ = pure [(lx, u)])
    (hbody : ∀ (F : NdefX.NF) (f : Addr) (A : Around) (outer : List Env) (s : Shared) (H : Hp) (E : L2.XK), F.scope = scope → Ctx (NdefX.ncx (L2.CX X.prog X.w) X.prog X.w X.K X.mg X.base N F f A outer s H E) k (fun c d _ H => E c d H) → ME (NdefX.ncx (L2.CX X.prog X.w) X.prog X.w X.K X.mg X.base N F f A outer s H E) (fun c d _ H => E c d H) body fb)
    (hst : ∀ (i : CloI) (ws : List W) (f : Addr) (cdv : Value) (A : Around) (outer : List Env) (s : Shared) (H : Hp) (E : L2.XK), Ctx (cxOf (L2.CX X.prog X.w) X.prog X.w X.K X.mg X.base Ng x (defScope st) f cdv A outer s H E) (k + 1) (fun c d _ H => E c d H) →
      (∀ {e : Expr} {fe : EF} {p1 p2 : Pos}, ME (cxOf (L2.CX X.prog X.w) X.prog X.w X.K X.mg X.base Ng x (defScope st) f cdv A outer s H E) (fun c d _ H => E c d H) e fe → (starEach [e] (cxOf (L2.CX X.prog X.w) X.prog X.w X.K X.mg X.base Ng x (defScope st) f cdv A outer s H E).env = (false, eval e (cxOf (L2.CX X.prog X.w) X.prog X.w X.K X.mg X.base Ng x (defScope st) f cdv A outer s H E).env) :: starEach [] (cxOf (L2.CX X.prog X.w) X.prog X.w X.K X.mg X.base Ng x (defScope st) f cdv A outer s H E).env) →
        ME (cxOf (L2.CX X.prog X.w) X.prog X.w X.K X.mg X.base Ng x (defScope st) f cdv A outer s H E) (fun c d _ H => E c d H) (.Call (.Name a p1) [e] [] p2) (sCallCl 1 i ws N.length fb fe)) →
      MSs (cxOf (L2.CX X.prog X.w) X.prog X.w X.K X.mg X.base Ng x (defScope st) f cdv A outer s H E) (fun c d _ H => E c d H) (defBody st) (sf i ws))
    (hNg : Ng[1]? = some a) (hva : Vis (defScope st) a) {e : Expr} {p lpos pos : Pos} (he : ME X xw e fe) (hg : Gl X x := by rfl) (hdb : (x == ("__debug__" : Str)) = false := by decide) (hda : (a == ("__debug__" : Str)) = false := by decide) (hca : (a == ("__classdict__" : Str)) = false := by decide)
    (hs : starEach [e, .Lambda params body scope lpos] X.env = (false, eval e X.env) :: starEach [.Lambda params body scope lpos] X.env := by rfl) (hs2 : starEach [.Lambda params body scope lpos] X.env = (false, eval (.Lambda params body scope lpos) X.env) :: starEach [] X.env := by rfl)
    (hpl : (backTo pos (starEach [.Lambda params body scope lpos] X.env)).any (·.1) = false := by rfl) :
    ME X xw (.Call (.Name x p) [e, .Lambda params body scope lpos] [] pos) (sCallLam Ng.length sf js fe) := by
  obtain ⟨f, fd, F, hm, hbn⟩ := t.ex
  have ha := pa_cons he (pa_cons (pe_lamA (pos := lpos) (js := js) L hc hd (NdefX.ndef_free hnd)) pa_nil hs2) hs
  refine ⟨fun pins s σ H Q I h => ?_⟩
  obtain ⟨g, ρ, M, R, Sσ, b⟩ := h
  have b0 : Bhd (tx X) (fun c d H => xw c d σ H) (RW X.K) Q ((fe ρ M).bind fun w M1 => match capt ρ js with
    | none => .stuck
    | some ws => if h : ∃ R, ∀ i : CloI, defF Ng.length (sf i ws) [w, .clo i ws] M1 = R then h.choose else .stuck) g H := b
  have hargs : tCons (tE (tx X) xw fe) (tCons (tLamA (tx X) js params body scope (cloFrom X.env.cells scope.names [])) tNil) σ H fun vs G => ∃ v i g' M1 w ws, vs = [v, .ref i.f] ∧ fe ρ M = .ok w M1 ∧ capt ρ js = some ws ∧ i.F.scope = scope ∧ i.F.params = params ∧ i.e = body ∧ i.F.cl = cloFrom X.env.cells scope.names [] ∧
      js.map (NdefX.slotAt σ) = i.vs.map some ∧ Rel X.K g' M1 G ∧ Ext g H g' G ∧ RW X.K g' v w ∧ RW X.K g' (.ref i.f) (.clo i ws) := by
    refine ⟨g, ρ, M, R, Sσ, ?_⟩
    cases e1 : fe ρ M with
    | stuck => rw [e1] at b0; exact b0
    | err y M2 => rw [e1] at b0; exact b0
    | ok w M1 =>
      rw [e1] at b0
      intro v g1 H1 R1 E1 r1
      have b1 : Bhd (tx X) (fun c d H => xw c d σ H) (RW X.K) Q (match capt ρ js with
        | none => .stuck
        | some ws => if h : ∃ R, ∀ i : CloI, defF Ng.length (sf i ws) [w, .clo i ws] M1 = R then h.choose else .stuck) g H := b0
      cases ec : capt ρ js with
      | none => rw [ec] at b1; exact b1.elim
      | some ws => exact ⟨g1, ρ, M1, ws, R1, Sσ.gr E1.gr, ec, fun i g2 H2 h1 h2 h3 h4 h5 R2 E2 r2 => ⟨v, i, g2, M1, w, ws, rfl, rfl, rfl, h1, h2, h3, h4, h5, R2, E1.trans E2, RW.gr E2.gr r1, r2⟩⟩
  refine wpAny_Call_Name_kw (ld_glob I hg hm ?_ hdb)
  refine PySem.W.callWith_K (h₀ := X.base) I.ok.mod.kin F.kp (thn (ha.run pos pins s σ H _ I hargs) fun us s1 ⟨vs, H1, I1, r, q⟩ => ⟨I1.kIn, ?_⟩) hs hpl
  obtain ⟨v, i, g', M1, w, ws, rfl, ew, ec, c1, c2, c3, c4, c5, R', E', rv, rc⟩ := q
  rw [ew] at b0
  have b1 : Bhd (tx X) (fun c d H => xw c d σ H) (RW X.K) Q (match capt ρ js with
    | none => .stuck
    | some ws => if h : ∃ R, ∀ i : CloI, defF Ng.length (sf i ws) [w, .clo i ws] M1 = R then h.choose else .stuck) g H := b0
  rw [ec] at b1
  have b2 : Bhd (tx X) (fun c d H => xw c d σ H) (RW X.K) Q (defF Ng.length (sf i ws) [w, .clo i ws] M1) g H := by
    simp only at b1
    split at b1
    · rename_i hh
      rw [hh.choose_spec i]
      exact b1
    · exact b1.elim
  have hl' : us.length = ([b0', a] : List Str).length := by rw [← r.length]; rfl
  have bn := hbn s1 us I1.kIn (by rw [List.append_nil]; exact hl')
  rw [List.append_nil] at bn
  have CA0 : NdefX.CellsAt i.F.cl fr (i.vs.map some) s1.heap H1 := by
    rw [c4, ← c5]
    exact NdefX.cells_of I1 (NdefX.Caps.made I1.ok (NdefX.ndef_free hnd) (NdefX.ndef_fr hnd) hjs)
  have run := run_at (k := k + 1) (sf := sf i ws) (Q := Q) (E := WE xw σ) F Sg C.room C.gd I1.env0 bn r rfl (fun cdv _ C2 => hst i ws f cdv X.A X.stack s1 H1 (WE xw σ) C2 fun {e' fe' p1 p2} he' hs' =>
      act_ok C2 rfl (by rw [c1]; exact S) CA0 (fun qf pm ct u => by rw [c1, c2, c3]; exact hb qf _ pm _ ct u) (fun A outer s H E Cb => by rw [c3]; exact hbody i.F i.f A outer s H E c1 Cb) hNg hva he' hs' rfl hda hca)
    ⟨g', [w, .clo i ws], M1, R', .cons rv (.cons rc .nil), b2.later E'⟩
  show wpAny _ _ (call (.ref f) us) _ _ _
  refine wpAny_call (codeAny_mono run fun r' s' hq => ?_)
  cases r' with
  | error e => exact passAt C.takes σ pins H1 s1 e s' I1 hq
  | ok fl =>
    cases fl with
    | ret u => exact I1.after hq
    | next => exact False.elim hq
    | brk => exact False.elim hq
    | cont => exact False.elim hq
end Y
namespace Y
open PySem PySem.Spec PyProof.Rows L2

/-! ### the end of a law whose defs make lambdas -/
/-- the code object of a def -/
def codeOfN (K : PySem.W.Frag) (x : Str) : Addr := match PySem.W.nsIn K mainGlobals x with
  | some (some (.ref f)) => match K.lookup f with
    | some ⟨_, _, .func fd, _⟩ => match fd.code with
      | .ref c => c
      | _ => 0
    | _ => 0
  | _ => 0
/-- the tables are no part of K, they are told, each is some code object's -/
def tabsIn (K : PySem.W.Frag) (ts : List Addr) : Bool := (tabsK K).all fun T => (K.lookup T).isNone && ts.contains T && lamNames.any fun x => PySem.W.codeHdIn K (codeOfN K x) T
theorem tabsIn_no {K : PySem.W.Frag} {ts : List Addr} (h : tabsIn K ts = true) {T : Addr} (hT : T ∈ tabsK K) : K.lookup T = none := by
  have z := List.all_eq_true.mp h T hT
  simp only [Bool.and_eq_true] at z
  exact Option.isNone_iff_eq_none.mp z.1.1
theorem tabsIn_hd {K : PySem.W.Frag} {ts : List Addr} (h : tabsIn K ts = true) {T : Addr} (hT : T ∈ tabsK K) : T ∈ ts ∧ ∃ c, PySem.W.codeHdIn K c T = true := by
  have z := List.all_eq_true.mp h T hT
  simp only [Bool.and_eq_true] at z
  obtain ⟨x, _, e⟩ := List.any_eq_true.mp z.2
  exact ⟨by simpa using z.1.2, _, e⟩
theorem tabOfN_of {K : PySem.W.Frag} {x : Str} {f c T : Addr} {oc oc2 : Value} {od od2 : Option Addr} {sl sl2 : Array (Option Value)} {fd : FuncData} {us : Array Value} (a : PySem.W.nsIn K mainGlobals x = some (some (.ref f))) (l : K.lookup f = some ⟨oc, od, .func fd, sl⟩) (m1 : fd.code = .ref c)
    (m2 : K.lookup c = some ⟨oc2, od2, .fields us, sl2⟩) (m3 : (us[11]? : Option Value) = some (.ref T)) : tabOfN K x = some T := by
  unfold tabOfN
  rw [a]
  simp only [l, m1, m2, m3]
/-- the code object and the table of a def that makes lambdas -/
theorem lamT_of {K : PySem.W.Frag} {mg : Str → Option Value} {base : Heap} {x : Str} {f c T : Addr} {oc oc2 : Value} {od od2 : Option Addr} {sl sl2 : Array (Option Value)} {fd : FuncData} {us : Array Value} (B : ∀ c T : Addr, T ∈ tabsK K → PySem.W.codeHdIn K c T = true → LamX.TabB base mg c T) (hx : x ∈ lamNames) (hm : mg x = some (.ref f))
    (a : PySem.W.nsIn K mainGlobals x = some (some (.ref f))) (l : K.lookup f = some ⟨oc, od, .func fd, sl⟩) (m1 : fd.code = .ref c) (m2 : K.lookup c = some ⟨oc2, od2, .fields us, sl2⟩) (m3 : (us[11]? : Option Value) = some (.ref T)) (m4 : PySem.W.codeHdIn K c T = true) : LamT K mg base x c T :=
  have e := tabOfN_of a l m1 m2 m3
  ⟨hx, ⟨f, hm, fun _ _ _ _ lk => by rw [l] at lk; cases lk; exact m1⟩, e, B _ _ (List.mem_filterMap.mpr ⟨x, hx, e⟩) m4⟩
/-- what a def that makes lambdas asks of the base -/
def TabsAt (K : PySem.W.Frag) (mg : Str → Option Value) (base : Heap) : Prop := ∀ c P : Addr, P ∈ tabsK K → PySem.W.codeHdIn K c P = true → LamX.TabB base mg c P
theorem law_callT {P : Program} {w : World} {K : PySem.W.Frag} {mg mb : Str → Option Value} {k : Nat} {fa a : Addr} {x : Str} {mf : MF} {s1 : Shared} {vz : List Value} {nz : List Int}
    (kx : K.In s1.heap) (nA : s1.heap.Ns mainGlobals mg) (nB : s1.heap.Ns builtinsNs mb) (nC : ∀ x : Str, x ≠ "__name__" → mb x = bootBuiltins x) (lm : s1.heap.NoLimit) (gn : s1.gens = #[])
    (tA : ∀ T ∈ tabsK K, s1.heap.get? T = some { cls := .none, data := .fields #[] }) {ts : List Addr} (tN : tabsIn K ts = true)
    (hM : ∃ (bm : Addr) (ob : Obj), mg "__builtins__" = some (.ref bm) ∧ bm ≠ builtinsNs ∧ s1.heap.get? bm = some ob ∧ ob.cls = .type "module" ∧ ob.dict = some builtinsNs ∧ ob.data = .plain)
    (aH : s1.heap.get? a = some { cls := .type "list", data := .seq vz.toArray }) (iA : IntsAre vz nz) (lN : nz.length ≤ sizeLine) (rm : Room k callerA)
    {nm : Str} (F : ∀ base : Heap, TabsAt K mg base → Cal P w K mg base k nm [x] mf) (fH : mg nm = some (.ref fa))
    (spH : ∀ G : Hp, (∀ b, G b = none ∨ (b ∈ tabsK K ∧ G b = some (.tbl #[])) ∨ ∃ o xs, G b = some (.frz o (.lst xs))) → (∀ T ∈ tabsK K, G T = some (.tbl #[])) → SqL K G a (nz.map V.int) → spM ⟨K, mg⟩ mf [.ref a] G (fun v5 _ => v5 = .bl true) fun _ _ _ => False) :
    codeAny (model P w) callerA (.call (.ref fa) ⟨[.ref a], []⟩) (fun res s2 => res = .ok (.ret (.bool true)) ∧ OldK s1.heap s2.heap ∧ s2.os = s1.os ∧ AllBare s2.gens) s1 := by
  have vr := vals_ints iA
  have vl := iA.length
  have aT : a ∉ tabsK K := fun z => by
    have q := tA a z
    rw [aH] at q
    have z9 : Data.seq vz.toArray _ = Data.fields #[] := congrArg Obj.data (Option.some.inj q)
    cases z9
  have heart : ∀ G : Hp, (∀ b, G b = none ∨ (b ∈ tabsK K ∧ G b = some (.tbl #[])) ∨ ∃ o xs, G b = some (.frz o (.lst xs))) → (∀ T ∈ tabsK K, G T = some (.tbl #[])) → SqL K G a (nz.map V.int) → HOk P w G s1.heap → (∀ bb, G bb ≠ none → bb = a ∨ bb ∈ tabsK K) → (G a ≠ none → K.lookup a = none) →
      codeAny (model P w) callerA (.call (.ref fa) ⟨[.ref a], []⟩) (fun res s2 => res = .ok (.ret (.bool true)) ∧ OldK s1.heap s2.heap ∧ s2.os = s1.os ∧ AllBare s2.gens) s1 := by
    intro G oO oT sS okH aA kA
    have atB : ∀ {bb : Addr} {ob : Obj}, s1.heap.get? bb = some ob → G bb = none → (hidT s1.heap G).get? bb = some ob := fun e5 n => hidT_get e5 n
    have neD : ∀ {bb : Addr} {ob : Obj}, s1.heap.get? bb = some ob → (∀ us n, ob.data ≠ .seq us n) → ob.data ≠ .fields #[] → G bb = none := fun {bb ob} e5 d1 d2 => by
      cases qq : G bb with
      | none => rfl
      | some uu =>
        rcases aA bb (by rw [qq]; simp) with ee | ee
        · subst ee
          rw [aH] at e5; cases e5
          exact (d1 _ _ rfl).elim
        · rw [tA bb ee] at e5; cases e5
          exact (d2 rfl).elim
    have neA : ∀ {bb : Addr} {ob : Obj} {es5 : Array DictEntry} {ep5 : Nat}, s1.heap.get? bb = some ob → ob.data = .dict es5 ep5 → G bb = none := fun {bb ob es5 ep5} e5 d5 =>
      neD e5 (fun us n z => by rw [d5] at z; cases z) fun z => by rw [d5] at z; cases z
    have nmK : ∀ {bb : Addr} {m5 : Str → Option Value}, s1.heap.Ns bb m5 → (hidT s1.heap G).Ns bb m5 := fun {bb m5} ⟨ob, es5, ep5, e5, d5, res⟩ => ⟨ob, es5, ep5, atB e5 (neA e5 d5), d5, res⟩
    have kB : K.In (hidT s1.heap G) := fun bb ob e5 => atB (kx bb ob e5) (by
      cases qq : G bb with
      | none => rfl
      | some uu =>
        rcases aA bb (by rw [qq]; simp) with ee | ee
        · subst ee
          rw [kA (by rw [qq]; simp)] at e5; cases e5
        · rw [tabsIn_no tN ee] at e5; cases e5)
    have md : Mod K mg (hidT s1.heap G) := ⟨kB, nmK nA, ⟨mb, nmK nB, nC⟩, let ⟨mc, h1, h2⟩ := lm; ⟨mc, nmK h1, h2⟩⟩
    have tbB : TabsAt K mg (hidT s1.heap G) := fun c T hT hc => by
      have gT := tA T hT
      refine ⟨?_, ?_, fun z => ?_⟩
      · exact PySem.W.codeHd_of_K kB hc
      · obtain ⟨bm, ob, b1, b2, b3, b4, b5, b6⟩ := hM
        have n1 : bm ≠ mainGlobals := fun qq => by
          obtain ⟨o5, es5, ep5, e5, d5, _⟩ := nA
          rw [qq, e5] at b3; cases b3
          rw [d5] at b6; cases b6
        have n2 : bm ≠ T := fun qq => by
          rw [qq, gT] at b3; cases b3
          cases b6
        exact ⟨bm, ob, b1, b2, n1, n2, atB b3 (neD b3 (fun us n z => by rw [b6] at z; cases z) fun z => by rw [b6] at z; cases z), b4, b5, b6⟩
      · obtain ⟨o5, es5, ep5, e5, d5, _⟩ := nA
        rw [z, gT] at e5
        cases e5
        cases d5
    have env : Env0 P w K mg (hidT s1.heap G) callerA [] s1 G := ⟨rfl, md, fun bb ob e5 => of_hidT e5, Nat.le_of_eq (hidT_size _ _), trivial, fun bb nB => absurd (show bb ∈ ([] : List Addr) from nB) (by simp), okH, .of_eq gn⟩
    obtain ⟨f1, fd, F1, f2, _, bd⟩ := (F (hidT s1.heap G) tbB).ex
    rw [fH] at f2
    cases f2
    refine codeAny_mono (F1.run callerA [] s1 G ⟨[.ref a], []⟩ [.ref a] [.ref a] _ _ rm rfl env (bd s1 [.ref a] kx rfl) (.cons rfl .nil) rfl (spH G oO oT sS)) fun res s2 h5 => ?_
    cases res with
    | error e5 => exact (cxNo h5).elim
    | ok flw =>
      cases flw with
      | next => exact False.elim h5
      | brk => exact False.elim h5
      | cont => exact False.elim h5
      | ret uu =>
        obtain ⟨v5, H', oS, br, unt, okH2, r9, qq⟩ := h5
        have q9 : v5 = .bl true := qq
        subst q9
        obtain rfl : uu = Value.bool true := r9
        have kpt : ∀ bb ob, bb ∉ tabsK K → s1.heap.get? bb = some ob → s2.heap.get? bb = some ob := fun bb ob nT e5 => by
          cases qq : G bb with
          | none => exact unt.keep bb ob e5 qq (by intro zx; exact absurd (show bb ∈ ([] : List Addr) from zx) (by simp)) (by simp)
          | some uu =>
            rcases oO bb with zx | ⟨zx, _⟩ | ⟨ob, xz, zx⟩
            · rw [qq] at zx; cases zx
            · exact absurd zx nT
            · have zz := unt.frzs bb ob _ zx
              obtain ⟨ea, _⟩ := okH bb _ zx
              obtain ⟨eb, _⟩ := okH2 bb _ zz
              rw [e5] at ea; cases ea
              exact eb
        have grw : ∀ T ∈ tabsK K, ∃ mo : Array Value, s2.heap.get? T = some { cls := .none, data := .fields mo } := fun T hT => by
          obtain ⟨mo, zx⟩ := unt.tbls T #[] (oT T hT)
          exact ⟨_, okH2 T _ zx⟩
        refine ⟨rfl, ⟨fun bb ob e5 => ?_, fun bb ob e5 => ?_⟩, oS, br⟩
        · by_cases hb : bb ∈ tabsK K
          · obtain ⟨mo, hm⟩ := grw bb hb
            rw [tA bb hb] at e5
            cases e5
            obtain ⟨c0, hc0⟩ := (tabsIn_hd tN hb).2
            exact .inr (.inl ⟨((PySem.W.codeHd_of_K kx hc0).tab (tA bb hb)).isCodeTable, rfl, #[], mo, rfl, by rw [Array.empty_append]; exact hm⟩)
          · exact .inl (kpt bb ob hb e5)
        · by_cases hb : bb ∈ tabsK K
          · obtain ⟨mo, hm⟩ := grw bb hb
            exact ⟨_, hm⟩
          · exact ⟨ob, kpt bb ob hb e5⟩
  cases kL : K.lookup a with
  | some ob =>
    have e5 := kx a ob kL
    rw [aH] at e5
    cases e5
    refine heart (fun bb => if bb ∈ tabsK K then some (.tbl #[]) else none) (fun bb => ?_) (fun T hT => if_pos hT) (.inr ⟨_, vz.toArray, _, kL, rfl, rfl, rfl, by rw [List.size_toArray, vl]; exact lN, by simpa using vr⟩) (fun bb uu zx => ?_) (fun bb zx => ?_) fun zx => absurd (show (if a ∈ tabsK K then some (HO.tbl #[]) else none) = none from if_neg aT) zx
    · by_cases hb : bb ∈ tabsK K
      · exact .inr (.inl ⟨hb, if_pos hb⟩)
      · exact .inl (if_neg hb)
    · by_cases hb : bb ∈ tabsK K
      · have z9 := (if_pos hb).symm.trans zx
        cases z9
        exact tA bb hb
      · have z9 := (if_neg hb).symm.trans zx
        cases z9
    · by_cases hb : bb ∈ tabsK K
      · exact .inr hb
      · exact absurd (if_neg hb) zx
  | none =>
    refine heart (fun bb => if bb = a then some (.frz { cls := .type "list", data := .seq vz.toArray } (.lst (nz.map V.int))) else if bb ∈ tabsK K then some (.tbl #[]) else none) (fun bb => ?_) (fun T hT => (if_neg (show ¬ T = a from fun z => aT (by rw [← z]; exact hT))).trans (if_pos hT)) (.inl (.inr ⟨{ cls := .type "list", data := .seq vz.toArray }, if_pos rfl⟩)) (fun bb uu zx => ?_) (fun bb zx => ?_) fun _ => kL
    · by_cases nB : bb = a
      · exact .inr (.inr ⟨_, _, if_pos nB⟩)
      · by_cases hb : bb ∈ tabsK K
        · exact .inr (.inl ⟨hb, (if_neg nB).trans (if_pos hb)⟩)
        · exact .inl ((if_neg nB).trans (if_neg hb))
    · by_cases nB : bb = a
      · have z9 := (if_pos nB).symm.trans zx
        cases z9
        subst nB
        exact ⟨aH, by rw [List.length_map]; exact lN, vz, _, vr, aH⟩
      · have z8 := (if_neg nB).symm.trans zx
        by_cases hb : bb ∈ tabsK K
        · have z9 := (if_pos hb).symm.trans z8
          cases z9
          exact tA bb hb
        · have z9 := (if_neg hb).symm.trans z8
          cases z9
    · by_cases nB : bb = a
      · exact .inl nB
      · by_cases hb : bb ∈ tabsK K
        · exact .inr hb
        · exact absurd ((if_neg nB).trans (if_neg hb)) zx
/-- the law's goal by the mirror of its def; some defs make lambdas -/
theorem walk_ofT {l : PySem.W.OpenLaw} {n k : Nat} {q : Program} {loose : List Str} {XP : (Str → Option Value) → Heap → Prop} {YP : World → Heap → Prop} {d : DefRec} {K : Params → PySem.W.Frag} {mf : MF} {x : Str} {ts : List Addr}
    (hn : l.most = some n) (hn2 : n ≤ sizeLine) (hdf : d.params.defaults = []) (rm : Room k callerA) (hY : ∀ (w : World) (h : Heap), YP w h → (K w.params).In h) (hT : ∀ (w : World) (h : Heap), YP w h → ∀ T ∈ ts, h.get? T = some { cls := .none, data := .fields #[] }) (tN : ∀ w : World, tabsIn (K w.params) ts = true)
    (F : ∀ (w : World) (mg : Str → Option Value) (fa : Addr) (h : Heap), (K w.params).In h → h.Ns mainGlobals mg → mg d.name = some (.ref fa) → ∀ base : Heap, TabsAt (K w.params) mg base → Cal l.prog w (K w.params) mg base k d.name [x] mf)
    (hm : ∀ ns : List Int, ns.length ≤ n → ∃ M, mf [.scr ns] [] = .ok (.d (.bool true)) M) : PySem.W.WalkO q loose XP YP l.row.toRowW d [] (fun f vs => PySem.call f vs) := by
  refine Att.attach_call hn hdf fun w s0 s1 mg mb fa o pm cd doc a vs ns G Y ho hd hcd hmg hobj hints hlen hg => ?_
  have kx := hY w _ Y
  refine law_callT (mf := mf) kx G.T.g G.T.b G.T.builtins G.T.nolimit hg (fun T hT' => ?_) (tN w) G.T.bmain hobj hints (Nat.le_trans hlen hn2) rm (F w mg fa _ kx G.T.g hmg) hmg fun H hO hTb hS => ?_
  · exact hT w _ Y T (tabsIn_hd (tN w) hT').1
  obtain ⟨M, e⟩ := hm ns hlen
  have sb : Sub (fun b => if b ∈ tabsK (K w.params) then none else H b) H := fun b u e5 => by
    by_cases hb : b ∈ tabsK (K w.params)
    · have z9 := (if_pos hb).symm.trans e5
      cases z9
    · exact (if_neg hb).symm.trans e5
  have aT : SqL (K w.params) H a (ns.map V.int) → SqL (K w.params) (fun b => if b ∈ tabsK (K w.params) then none else H b) a (ns.map V.int) := fun z => by
    rcases z with (z | ⟨ob, z⟩) | z
    · rcases hO a with y | ⟨_, y⟩ | ⟨_, _, y⟩ <;> (rw [z] at y; cases y)
    · have nT : a ∉ tabsK (K w.params) := fun y => by rw [hTb a y] at z; cases z
      exact .inl (.inr ⟨ob, (if_neg nT).trans z⟩)
    · exact .inr z
  refine ⟨⟨[], fun b => if b ∈ tabsK (K w.params) then none else H b⟩, [.scr ns], [], ⟨sb, rfl, fun n o e => by simp at e, fun n m a e => by simp at e, fun a h => by simp at h, fun P hP => ⟨#[], hTb P hP, by simp, if_pos hP, trivial, fun p cv z => by cases z⟩⟩, .cons (.scr (aT hS)) .nil, ?_⟩
  rw [e]
  intro v g' H' R E r
  cases r with
  | d r => cases r; rfl
end Y
namespace Y
open PySem PySem.Spec PyProof.Rows L2

/-! ### a comprehension over a list that lives: locked while it runs, as it was behind it -/
def MO.cold : MO → Bool
  | .dead => true
  | .lst _ => true
  | .dct _ => true
  | .dctT _ => true
  | _ => false
mutual
theorem Dq.cutG {K : PySem.W.Frag} {F : Hp} {d : Addr} (h1 : ∀ xs, F d ≠ some (.lst xs)) (h2 : ∀ xs, F d ≠ some (.tup xs)) : ∀ {v : V} {x : PyData}, Dq K F v x → Dq K (del F d) v x
  | _, _, .non => .non
  | _, _, .bl b => .bl b
  | _, _, .int b => .int b
  | _, _, .str b => .str b
  | _, _, .lst q t => .lst (by rw [del_ne (fun z => h1 _ (by rw [← z]; exact q))]; exact q) (DqAll.cutG h1 h2 t)
  | _, _, .tup q t => .tup (show del F d _ = _ by rw [del_ne (fun z => h2 _ (by rw [← z]; exact q))]; exact q) (DqAll.cutG h1 h2 t)
theorem DqAll.cutG {K : PySem.W.Frag} {F : Hp} {d : Addr} (h1 : ∀ xs, F d ≠ some (.lst xs)) (h2 : ∀ xs, F d ≠ some (.tup xs)) : ∀ {v : List V} {x : List PyData}, DqAll K F v x → DqAll K (del F d) v x
  | _, _, .nil => .nil
  | _, _, .cons q t => .cons (Dq.cutG h1 h2 q) (DqAll.cutG h1 h2 t)
end
theorem MOk.cutG {K : PySem.W.Frag} {g : Gh} {d : Addr} (h1 : ∀ xs, g.F d ≠ some (.lst xs)) (h2 : ∀ xs, g.F d ≠ some (.tup xs)) {H : Hp} {a : Addr} : ∀ {m : MO}, m.cold = true → MOk K g H a m → MOk K ⟨g.ph, del g.F d⟩ H a m
  | .dead, _, _ => trivial
  | .lst _, _, ⟨xs, e, r⟩ => ⟨xs, e, DqAll.cutG h1 h2 r⟩
  | .lsw _, c, _ => by cases c
  | .obj _ _, c, _ => by cases c
  | .dct _, _, ⟨vs, e, q, r⟩ => ⟨vs, e, q, DqAll.cutG h1 h2 r⟩
  | .dctT _, _, ⟨vs, e, q, r⟩ => ⟨vs, e, q, DqAll.cutG h1 h2 r⟩
theorem Rel.unlockG {K : PySem.W.Frag} {g : Gh} {M : List MO} {H : Hp} {n : Nat} {d : Addr} {o : Obj} {us : List V} {ds : List PyData} (R : Rel K g M H) (h : g.F d = some (.frz o (.lst us))) (hp : g.ph[n]? = some d) (hc : M.all MO.cold = true) (hq : DqAll K (del g.F d) us ds) :
    Rel K ⟨g.ph, del g.F d⟩ (M.set n (.lst ds)) (L2.upd H d (.lst us)) := by
  have hn : n < M.length := by rw [← R.len]; exact (List.getElem?_eq_some_iff.mp hp).1
  refine ⟨fun a x e => ?_, by rw [List.length_set]; exact R.len, fun m x e l => ?_, R.inj, fun a hm => ?_, R.tab.unlock (R.sub _ _ h) h (by simp) (fun c q z => by unfold LamX.CodeO at z; cases z)⟩
  · have e' : del g.F d a = some x := e
    by_cases q : a = d
    · rw [q, del_same] at e'; cases e'
    · rw [del_ne q] at e'; rw [upd_ne q]; exact R.sub _ _ e'
  · by_cases q : n = m
    · subst q
      rw [List.getElem?_set_self hn] at e
      cases e
      exact ⟨d, hp, del_same, us, upd_same, hq⟩
    · rw [List.getElem?_set_ne q] at e
      obtain ⟨a, e1, e2, e3⟩ := R.at_ m x e l
      have na : a ≠ d := fun z => by rw [z, h] at e2; cases e2
      refine ⟨a, e1, ?_, ?_⟩
      · show del g.F d a = none
        rw [del_ne na]; exact e2
      · refine MOk.gr (g := ⟨g.ph, del g.F d⟩) (Gr.refl _) (fun o' q => ?_) (MOk.cutG (fun xs z => by rw [h] at z; cases z) (fun xs z => by rw [h] at z; cases z) (List.all_eq_true.mp hc x (List.mem_of_getElem? e)) e3)
        rw [upd_ne na]; exact q
  · by_cases q : a = d
    · subst q; exact ⟨_, upd_same⟩
    · rw [upd_ne q]; exact R.tr a hm
def sLcT (i : Nat) (gt : GF) (tt : TF) (te : EF) (vs : List Nat) : EF := fun ρ M => match ρ[i]? with
  | some (some (.loc n)) => match M[n]? with
    | some (.lst ds) => if ds.length ≤ sizeLine then match compL gt tt te (wip ρ vs) ds (M.set n .dead) with
      | some (xs, M2) => if M2.all MO.cold = true then .ok (.d (.list xs)) (M2.set n (.lst ds)) else .stuck
      | none => .stuck
      else .stuck
    | _ => .stuck
  | _ => .stuck
theorem sLcT_at {i n : Nat} {gt : GF} {tt : TF} {te : EF} {vs : List Nat} {ρ : Rho} {M M2 : List MO} {ds xs : List PyData} (h1 : ρ[i]? = some (some (.loc n))) (h2 : M[n]? = some (.lst ds)) (h3 : ds.length ≤ sizeLine) (h4 : compL gt tt te (wip ρ vs) ds (M.set n .dead) = some (xs, M2)) (h5 : M2.all MO.cold = true) :
    sLcT i gt tt te vs ρ M = .ok (.d (.list xs)) (M2.set n (.lst ds)) := by
  unfold sLcT
  simp only [h1, h2, h4, if_pos h3, if_pos h5]
theorem key0T {X : Cx} {xw : WX} {gt : GF} {tt : TF} {te : EF} {vs : List Nat} {σ : L2.St} {Q : VK} {g : Gh} {ρ : Rho} {M : List MO} {H : Hp} {n : Nat} {d : Addr} {od : Obj} {us : List V} {ds : List PyData}
    (hl : ds.length ≤ sizeLine) (hp : g.ph[n]? = some d) (e2 : g.F d = none) (hq : DqAll X.K g.F us ds) (E1 : Ext g H ⟨g.ph, L2.upd g.F d (.frz od (.lst us))⟩ (L2.upd H d (.frz od (.lst us))))
    (b : Bhd (tx X) (fun c d H => xw c d σ H) (RW X.K) Q (match compL gt tt te (wip ρ vs) ds (M.set n .dead) with
      | some (xs, M2) => if M2.all MO.cold = true then .ok (.d (.list xs)) (M2.set n (.lst ds)) else .stuck
      | none => .stuck) g H) : Bhd (tx X) (fun _ _ _ => False) (RW X.K) (fun v H' => H' d = some (.frz od (.lst us)) ∧ Q v (L2.upd H' d (.lst us))) (if ds.length ≤ sizeLine then match compL gt tt te (wip ρ vs) ds (M.set n .dead) with
      | some (xs, M2) => .ok (.d (.list xs)) M2
      | none => .stuck
    else .stuck) ⟨g.ph, L2.upd g.F d (.frz od (.lst us))⟩ (L2.upd H d (.frz od (.lst us))) := by
  rw [if_pos hl]
  cases ec : compL gt tt te (wip ρ vs) ds (M.set n .dead) with
  | none => rw [ec] at b; exact b.elim
  | some y =>
    obtain ⟨xs, M2⟩ := y
    rw [ec] at b
    have b0 : Bhd (tx X) (fun c d H => xw c d σ H) (RW X.K) Q (if M2.all MO.cold = true then .ok (.d (.list xs)) (M2.set n (.lst ds)) else .stuck) g H := b
    split at b0
    rotate_left
    · exact b0.elim
    rename_i hc
    intro v2 g2 H2 R2 E2 r2
    have hF2 : g2.F d = some (.frz od (.lst us)) := E2.gr.F _ _ upd_same
    have E3 := E1.trans E2
    have hp2 := E3.gr.ph _ _ hp
    have s3 : Sub g.F (del g2.F d) := fun a o e => by
      rw [del_ne (fun z => by rw [z, e2] at e; cases e)]
      exact E3.gr.F _ _ e
    have c1 : ∀ xs, g2.F d ≠ some (.lst xs) := fun xs z => by rw [hF2] at z; cases z
    have c2 : ∀ xs, g2.F d ≠ some (.tup xs) := fun xs z => by rw [hF2] at z; cases z
    refine ⟨R2.sub _ _ hF2, b0 v2 ⟨g2.ph, del g2.F d⟩ _ (R2.unlockG hF2 hp2 hc (DqAll.sub s3 hq)) ?_ (by
      cases r2 with
      | d r2 => exact .d (Dq.cutG c1 c2 r2))⟩
    have hm := List.mem_of_getElem? hp
    refine ⟨⟨E3.gr.ph, s3⟩, fun a o e hn => ?_, fun a h h' => ?_, E3.newph⟩
    · have na : a ≠ d := fun z => hn (by rw [z]; exact hm)
      exact (E3.keep a o e hn).del na hF2 (fun c q z => by unfold LamX.CodeO at z; cases z)
    · have h2 : del g2.F d a ≠ none := h'
      by_cases na : a = d
      · exact absurd (by rw [na, del_same]) h2
      · rw [del_ne na] at h2
        exact E3.new a h h2
theorem itok_frz {K : PySem.W.Frag} {F : Hp} {a : Addr} {o : Obj} {xs : List V} {ds : List PyData} (h : F a = some (.frz o (.lst xs))) (d : DqAll K F xs ds) : ItOk K F (Itl K a) ds := by
  have hl := d.length
  refine ⟨fun i H hi s => ⟨xs, xs[i]'(by omega), .inl (.inr ⟨o, s _ _ h⟩), List.getElem?_eq_getElem _⟩, fun H s => ⟨xs, .inl (.inr ⟨o, s _ _ h⟩), by omega⟩, fun i x F' H v H' e s1 s2 hy => ?_⟩
  obtain ⟨rfl, hv⟩ := hy
  obtain ⟨u, e1, e2⟩ := d.get e
  have := hv xs (.inl (.inr ⟨o, s2 _ _ (s1 _ _ h)⟩))
  rw [e1] at this
  cases this
  exact ⟨F', Lay.refl s2, Dq.sub s1 e2⟩
theorem lcT_imp {X : Cx} {xw : WX} {gt : GF} {tt : TF} {te : EF} {vs us : List Nat} {i : Nat} (hus : ∀ v ∈ us, v ∈ vs) {σ : L2.St} {H : Hp} {Q : VK} (h : tE (tx X) xw (sLcT i gt tt te vs) σ H Q) :
    ∃ d u, H d = some u ∧ Mut (some u) ∧ ∀ od, tLc (fun σ H R => (fun σ H (Q : VK) => ∃ v, σ[i]? = some (some v) ∧ Q v H) σ H fun x H1 => (∃ a, x = .ref a ∧ (∃ xs, SqL X.K H1 a xs) ∧ R (Itl X.K a) H1) ∨ (∃ a, x = .ref a ∧ (∃ xs, SqT X.K H1 a xs) ∧ R (Itt X.K a) H1) ∨ ∃ z, x = .str z ∧ R (Its z) H1) (tGt (tx X) us gt) (tT (tx X) xw0 tt) (tE (tx X) xw0 te) vs σ (L2.upd H d (.frz od u)) fun v H' => H' d = some (.frz od u) ∧ Q v (L2.upd H' d u) := by
  obtain ⟨g, ρ, M, R, S, b⟩ := h
  unfold sLcT at b
  split at b
  · rename_i n en
    split at b
    · rename_i ds em
      split at b
      · rename_i hl
        obtain ⟨v, hv, rv⟩ := S.at_ i _ en
        cases rv with
        | loc hp =>
          rename_i d
          obtain ⟨d', e1, e2, us', e3, e4⟩ := R.at_ n _ em rfl
          rw [hp] at e1
          cases e1
          refine ⟨d, .lst us', e3, trivial, fun od => ⟨.ref d, hv, .inl ⟨d, rfl, ⟨us', .inl (.inr ⟨od, upd_same⟩)⟩, ?_⟩⟩⟩
          obtain ⟨R1, E1⟩ := R.lock (u := .frz od (.lst us')) hp e2
          have hJ : ItOk X.K (L2.upd g.F d (.frz od (.lst us'))) (Itl X.K d) ds := itok_frz upd_same (DqAll.sub (Sub.upd e2) e4)
          have key : tLc (fun _ H R => R (Itl X.K d) H) (tGt (tx X) us gt) (tT (tx X) xw0 tt) (tE (tx X) xw0 te) vs σ (L2.upd H d (.frz od (.lst us'))) (fun v H' => H' d = some (.frz od (.lst us')) ∧ Q v (L2.upd H' d (.lst us'))) := by
            refine lc_core (T := tx X) (xq := fun _ _ _ => False) (gt := gt) (tt := tt) (te := te) (ρ := ρ) hus R1 (S.gr E1.gr) hJ ?_
            exact key0T hl hp e2 e4 E1 b
          exact key
      · exact b.elim
    · exact b.elim
  · exact b.elim
theorem me_lcT {X : Cx} {k : Nat} {xw : WX} {elt tg : Expr} {ifs : List Expr} {scope : Scope} {own : List (Str × Nat)} {pos npos : Pos} {x : Str} {gt : GF} {tt : TF} {te : EF} {us : List Nat} (C : Ctx X k xw) (i : Nat) (ok : BlkOk X.N X.env.scope scope own)
    (hg : ∀ (s : Shared) (H : Hp) (A : Addr) (cl : List (Str × Addr)) (fp : List Addr), Ctx (X.blk s H scope (compEnvC scope cl A X.env) fp) k xw0 → MG (X.blk s H scope (compEnvC scope cl A X.env) fp) tg us gt) (ht : ∀ (s : Shared) (H : Hp) (A : Addr) (cl : List (Str × Addr)) (fp : List Addr), Ctx (X.blk s H scope (compEnvC scope cl A X.env) fp) k xw0 → MTs (X.blk s H scope (compEnvC scope cl A X.env) fp) ifs tt)
    (he : ∀ (s : Shared) (H : Hp) (A : Addr) (cl : List (Str × Addr)) (fp : List Addr), Ctx (X.blk s H scope (compEnvC scope cl A X.env) fp) k xw0 → ME (X.blk s H scope (compEnvC scope cl A X.env) fp) xw0 elt te) (hus : ∀ v ∈ us, v ∈ own.map (·.2) := by decide)
    (hN : X.N[i]? = some x := by rfl) (hv : Vis X.env.scope x := by first | exact Or.inl rfl | exact Or.inr (Or.inl rfl) | exact Or.inr (Or.inr rfl)) (hd : (x == ("__debug__" : Str)) = false := by decide) (hcd : (x == ("__classdict__" : Str)) = false := by decide)
    (hs : ∀ z, foldedSetIterable (.Name x npos) X.env z = pure z := by intro _; rfl) :
    ME X xw (.ListComp elt [⟨tg, (.Name x npos), ifs, 0⟩] scope pos) (sLcT i gt tt te (own.map (·.2))) := by
  exact PE.imp (pe_lock (pe_lc (g := tGt (tx X) us gt) (tt := tT (tx X) xw0 tt) (te := tE (tx X) xw0 te) C.calm C.nd (pi_seq3 (pe_var hN hv hd hcd)) ok (fun s H A cl fp => hg s H A cl fp (C.blk _ _ _ _ _)) (fun s H A cl fp => ht s H A cl fp (C.blk _ _ _ _ _)) (fun s H A cl fp => he s H A cl fp (C.blk _ _ _ _ _)) hs)) fun σ H Q h => lcT_imp hus h
theorem ms_setLcT {X : Cx} {k : Nat} {xw : WX} {elt tg : Expr} {ifs : List Expr} {scope : Scope} {own : List (Str × Nat)} {pos npos spos py : Pos} {x y : Str} {gt : GF} {tt : TF} {te : EF} {us : List Nat} {j : Nat} (C : Ctx X k xw) (i : Nat) (ok : BlkOk X.N X.env.scope scope own)
    (hg : ∀ (s : Shared) (H : Hp) (A : Addr) (cl : List (Str × Addr)) (fp : List Addr), Ctx (X.blk s H scope (compEnvC scope cl A X.env) fp) k xw0 → MG (X.blk s H scope (compEnvC scope cl A X.env) fp) tg us gt) (ht : ∀ (s : Shared) (H : Hp) (A : Addr) (cl : List (Str × Addr)) (fp : List Addr), Ctx (X.blk s H scope (compEnvC scope cl A X.env) fp) k xw0 → MTs (X.blk s H scope (compEnvC scope cl A X.env) fp) ifs tt)
    (he : ∀ (s : Shared) (H : Hp) (A : Addr) (cl : List (Str × Addr)) (fp : List Addr), Ctx (X.blk s H scope (compEnvC scope cl A X.env) fp) k xw0 → ME (X.blk s H scope (compEnvC scope cl A X.env) fp) xw0 elt te) (hy : X.N[j]? = some y := by rfl) (hyl : X.env.scope.names.lookup y = some .local := by rfl)
    (hsw : swapsWith (.ListComp elt [⟨tg, .Name x npos, ifs, 0⟩] scope pos) (some (.Name y py)) spos.line X.env = pure true := by exact (sw_true rfl rfl rfl (by decide +kernel))) (hus : ∀ v ∈ us, v ∈ own.map (·.2) := by decide)
    (hN : X.N[i]? = some x := by rfl) (hv : Vis X.env.scope x := by first | exact Or.inl rfl | exact Or.inr (Or.inl rfl) | exact Or.inr (Or.inr rfl)) (hd : (x == ("__debug__" : Str)) = false := by decide) (hcd : (x == ("__classdict__" : Str)) = false := by decide)
    (hs : ∀ z, foldedSetIterable (.Name x npos) X.env z = pure z := by intro _; rfl) :
    MS X xw (.Assign [.Name y py] (.ListComp elt [⟨tg, (.Name x npos), ifs, 0⟩] scope pos) spos) (sSet j (sLcT i gt tt te (own.map (·.2)))) :=
  PS.imp (ps_lock (ps_setLc C.calm C.nd hy hyl hsw (pi_seq3 (pe_var hN hv hd hcd)) ok (fun s H A cl fp => hg s H A cl fp (C.blk _ _ _ _ _)) (fun s H A cl fp => ht s H A cl fp (C.blk _ _ _ _ _)) (fun s H A cl fp => he s H A cl fp (C.blk _ _ _ _ _)) hs)) fun D σ H q =>
    lcT_imp (X := X) hus (tG_mono (tS_then q) fun v H1 ⟨g, ρ, M, w, R, S, r, b⟩ => b _ g H1 R (Ext.refl _ _) (S.set j r))
end Y
namespace Y
open PySem PySem.Spec PyProof.Rows L2
/-- a text by its signs -/
def S (l : List Nat) : Str := ⟨l.toArray⟩
section
variable {X : Cx} {xw : WX} {a b : Expr} {fa fb : EF} {pos p1 : Pos} {k : Nat}
def pMulA : DPr := fun xs => match pMul xs with
  | some z => some z
  | none => pMul2 xs
theorem mulA_ok (X : Cx) : ∃ r, OpR X (binaryOp .Mult) r ∧ PrOk X.K (dpr pMulA) (r2 r) := by
  obtain ⟨r, h1, h2⟩ := mul_ok X
  refine ⟨_, h1.or op_repS, fun g M H vs ws w M' Q R rw_ e k => ?_⟩
  unfold dpr at e
  cases q : vws M ws with
  | none => rw [q] at e; cases e
  | some xs =>
    cases q1 : pMul xs with
    | some z =>
      have : pMulA xs = some z := by unfold pMulA; rw [q1]
      rw [q] at e
      simp only [this] at e
      cases e
      obtain ⟨x, y, e1, e2⟩ := h2 g M H vs ws _ M Q R rw_ (by unfold dpr; rw [q]; simp only [q1]) k
      exact ⟨x, y, e1, .inl e2⟩
    | none =>
      have : pMulA xs = pMul2 xs := by unfold pMulA; rw [q1]
      rw [q] at e
      simp only [this] at e
      cases q2 : pMul2 xs with
      | none => rw [q2] at e; cases e
      | some z =>
        rw [q2] at e
        cases e
        unfold pMul2 at q2
        split at q2
        · rename_i z j
          split at q2
          · rename_i hc
            cases q2
            obtain ⟨v, u, rfl, d1, d2⟩ := (vws_ok R rw_ q).two
            cases d1.str
            cases d2.int
            exact ⟨_, _, rfl, .inr ⟨_, _, rfl, rfl, hc.1, hc.2.1, hc.2.2, k _ g H R (Ext.refl _ _) (.d (.str _))⟩⟩
          · cases q2
        · cases q2
theorem me_mulA (ha : ME X xw a fa) (hb : ME X xw b fb) : ME X xw (.BinOp a .Mult b pos) (sPr (dpr pMulA) [fa, fb]) := let ⟨_, h1, h2⟩ := mulA_ok X; me_bin h1 h2 ha hb
def itZ (fs : List EF) : IF := itZS fs
theorem mi_zip {e e2 : Expr} {p tpos : Pos} {elts : List Expr} {kk : Nat} {fs : List EF} (C : Ctx X k xw) (ha : MA X xw [e, e2] fs) (hm : X.mg "zip" = none) (hg : Gl X "zip" := by rfl)
    (hs : starEach [e, e2] X.env = (false, eval e X.env) :: starEach [e2] X.env := by rfl) (hpl : (backTo pos (starEach [e2] X.env)).any (·.1) = false := by rfl) :
    MI X xw (.Tuple elts kk tpos) (.Call (.Name "zip" p) [e, e2] [] pos) (itZ fs) := mi_zipS ha hm hg hs hpl
end
end Y
namespace Y
open PySem PySem.Spec PyProof.Rows L2

/-! ### running a mirror -/
section
variable {α β : Type} {f g : EF} {c d : TF} {a b : SF} {ρ ρ' : Rho} {M M' : List MO} {w : W} {x : PyData} {e : Ex}
@[simp] theorem bind_ok {x : α} {k : α → List MO → Res β} : (Res.ok x M).bind k = k x M := Eq.trans rfl rfl
@[simp] theorem bind_err {k : α → List MO → Res β} : (Res.err e M : Res α).bind k = .err e M := rfl
@[simp] theorem bind_stuck {k : α → List MO → Res β} : (Res.stuck : Res α).bind k = .stuck := rfl
@[simp] theorem evs_nil : evs [] ρ M = .ok [] M := rfl
@[simp] theorem evs_cons {fs : List EF} : evs (f :: fs) ρ M = (f ρ M).bind fun w M1 => (evs fs ρ M1).bind fun ws M2 => .ok (w :: ws) M2 := Eq.trans rfl rfl
@[simp] theorem ans_some {y : W × List MO} : ans (some y) = .ok y.1 y.2 := rfl
@[simp] theorem ans_none : ans none = .stuck := rfl
theorem sPr_e {p : Pr} {fs : List EF} : sPr p fs ρ M = (evs fs ρ M).bind fun ws M1 => ans (p ws M1) := Eq.trans rfl rfl
def MO.asL : MO → Option PyData
  | .lst ds => some (.list ds)
  | _ => none
@[simp] theorem asL_lst {ds : List PyData} : MO.asL (.lst ds) = some (.list ds) := rfl
@[simp] theorem vw_d : vw M (.d x) = some x := by cases x <;> rfl
@[simp] theorem vw_loc {n : Nat} : vw M (.loc n) = (M[n]?).bind MO.asL := by
  show (match M[n]? with | some (.lst ds) => some (PyData.list ds) | _ => none) = _
  cases M[n]? with
  | none => rfl
  | some o => cases o <;> rfl
@[simp] theorem vws_nil : vws M [] = some [] := rfl
@[simp] theorem vws_cons {ws : List W} : vws M (w :: ws) = (vw M w).bind fun x => (vws M ws).map (x :: ·) := by
  show (match vw M w with | some x => (match vws M ws with | some xs => some (x :: xs) | none => none) | none => none) = _
  cases vw M w with
  | none => rfl
  | some x => cases vws M ws <;> rfl
theorem dpr_e {p : DPr} {ws : List W} : dpr p ws M = ((vws M ws).bind p).map fun y => (.d y, M) := by
  unfold dpr
  cases vws M ws with
  | none => rfl
  | some xs =>
    show (match p xs with | some y => some (W.d y, M) | none => none) = _
    cases q : p xs with
    | none => simp [q]
    | some y => simp [q]
def rd (o : Option (List PyData)) (p : DPr) (M : List MO) : Res W := match o with
  | some xs => match p xs with
    | some y => .ok (.d y) M
    | none => .stuck
  | none => .stuck
def asD (o : Option PyData) (M : List MO) : Res W := match o with
  | some y => .ok (.d y) M
  | none => .stuck
@[simp] theorem asD_s : asD (some x) M = .ok (.d x) M := rfl
@[simp] theorem asD_n : asD none M = .stuck := rfl
@[simp] theorem asD_i {c : Prop} [Decidable c] {o : Option PyData} : asD (if c then o else none) M = if c then asD o M else .stuck := by
  by_cases h : c
  · rw [if_pos h, if_pos h]
  · rw [if_neg h, if_neg h]; rfl
@[simp] theorem rd_s {p : DPr} {xs : List PyData} : rd (some xs) p M = asD (p xs) M := by
  cases q : p xs <;> simp [rd, asD, q]
@[simp] theorem ans_dpr {p : DPr} {ws : List W} : ans (dpr p ws M) = rd (vws M ws) p M := by
  unfold dpr rd
  cases vws M ws with
  | none => rfl
  | some xs =>
    show ans (match p xs with | some y => some (W.d y, M) | none => none) = _
    cases q : p xs with
    | none => simp [q]
    | some y => simp [q]
@[simp] theorem sPr_d {p : DPr} {fs : List EF} : sPr (dpr p) fs ρ M = (evs fs ρ M).bind fun ws M1 => rd (vws M1 ws) p M1 := by
  rw [sPr_e]
  congr 1
  funext ws M1
  exact ans_dpr
@[simp] theorem sPr_lenS {fs : List EF} : sPr pLenS fs ρ M = (evs fs ρ M).bind fun ws M1 => ans (pLenS ws M1) := sPr_e
@[simp] theorem sPr_ixS {fs : List EF} : sPr pIxS fs ρ M = (evs fs ρ M).bind fun ws M1 => ans (pIxS ws M1) := sPr_e
@[simp] theorem sC_e : sC x ρ M = .ok (.d x) M := rfl
def optW : Option (Option W) → List MO → Res W
  | some (some w), M => .ok w M
  | _, _ => .stuck
@[simp] theorem optW_s : optW (some (some w)) M = .ok w M := rfl
@[simp] theorem sV_e {i : Nat} : sV i ρ M = optW ρ[i]? M := by
  unfold sV optW
  rcases ρ[i]? with _ | _ | _ <;> rfl
/-! statements -/
def SR.go (r : SR) (h : SF) : SR := match r with
  | .nx ρ M => h ρ M
  | r => r
@[simp] theorem go_nx {h : SF} : (SR.nx ρ M).go h = h ρ M := Eq.trans rfl rfl
@[simp] theorem go_ret {h : SF} : (SR.ret w M).go h = .ret w M := rfl
@[simp] theorem go_bk {h : SF} : (SR.bk ρ M).go h = .bk ρ M := rfl
@[simp] theorem go_ct {h : SF} : (SR.ct ρ M).go h = .ct ρ M := rfl
@[simp] theorem go_er {h : SF} : (SR.er e ρ M).go h = .er e ρ M := rfl
@[simp] theorem go_stuck {h : SF} : SR.stuck.go h = .stuck := rfl
@[simp] theorem sSeq_e : sSeq a b ρ M = (a ρ M).go b := by
  unfold sSeq SR.go
  cases a ρ M <;> rfl
def Res.th (r : Res W) (ρ : Rho) (k : Rho → W → List MO → SR) : SR := match r with
  | .ok w M => k ρ w M
  | .err e M => .er e ρ M
  | .stuck => .stuck
@[simp] theorem th_ok {k : Rho → W → List MO → SR} : (Res.ok w M).th ρ k = k ρ w M := Eq.trans rfl rfl
@[simp] theorem th_err {k : Rho → W → List MO → SR} : (Res.err e M : Res W).th ρ k = .er e ρ M := rfl
@[simp] theorem th_stuck {k : Rho → W → List MO → SR} : (Res.stuck : Res W).th ρ k = .stuck := rfl
@[simp] theorem sThen_e {k : Rho → W → List MO → SR} : sThen f k ρ M = (f ρ M).th ρ k := by
  unfold sThen Res.th
  cases f ρ M <;> rfl
@[simp] theorem sSet_e {i : Nat} : sSet i f ρ M = (f ρ M).th ρ fun ρ w M => .nx (ρ.set i (some w)) M := by unfold sSet; simp
@[simp] theorem sExpr_e : sExpr f ρ M = (f ρ M).th ρ fun ρ _ M => .nx ρ M := by unfold sExpr; simp
@[simp] theorem sRet_e : sRet f ρ M = (f ρ M).th ρ fun _ w M => .ret w M := by unfold sRet; simp
@[simp] theorem sRetN_e : sRetN ρ M = .ret (.d .none) M := rfl
@[simp] theorem sNx_e : sNx ρ M = .nx ρ M := rfl
@[simp] theorem sBk_e : sBk ρ M = .bk ρ M := rfl
@[simp] theorem sCt_e : sCt ρ M = .ct ρ M := rfl
def Res.tb (r : Res Bool) (ρ : Rho) (a b : SF) : SR := match r with
  | .ok true M => a ρ M
  | .ok false M => b ρ M
  | .err e M => .er e ρ M
  | .stuck => .stuck
@[simp] theorem tb_true : (Res.ok true M).tb ρ a b = a ρ M := Eq.trans rfl rfl
@[simp] theorem tb_false : (Res.ok false M).tb ρ a b = b ρ M := Eq.trans rfl rfl
@[simp] theorem tb_err : (Res.err e M : Res Bool).tb ρ a b = .er e ρ M := rfl
theorem tb_if {k : Bool} : (Res.ok k M).tb ρ a b = if k = true then a ρ M else b ρ M := by cases k <;> rfl
@[simp] theorem sIf_e : sIf c a b ρ M = (c ρ M).tb ρ a b := by
  unfold sIf Res.tb
  rcases c ρ M with ⟨_ | _, _⟩ | _ | _ <;> rfl
/-! tests -/
def asB : W → List MO → Res Bool
  | .d (.bool b), M => .ok b M
  | _, _ => .stuck
@[simp] theorem asB_b {k : Bool} : asB (.d (.bool k)) M = .ok k M := rfl
@[simp] theorem sVal_e : sVal f ρ M = (f ρ M).bind asB := by
  unfold sVal
  congr 1
  funext w M
  rcases w with (_ | (_ | _) | _ | _ | _ | _ | _) | _ | _ | _ | _ | _ | _ <;> rfl
@[simp] theorem sNot_e : sNot c ρ M = (c ρ M).bind fun b M => .ok (!b) M := Eq.trans rfl rfl
@[simp] theorem sAnd_e : sAnd c d ρ M = (c ρ M).bind fun b M => if b = true then d ρ M else .ok false M := Eq.trans rfl rfl
@[simp] theorem sOr_e : sOr c d ρ M = (c ρ M).bind fun b M => if b = true then .ok true M else d ρ M := Eq.trans rfl rfl
@[simp] theorem sIte_e : sIte c f g ρ M = (c ρ M).bind fun k M => if k = true then f ρ M else g ρ M := Eq.trans rfl rfl
@[simp] theorem sAndV_e : sAndV f g ρ M = (f ρ M).bind fun w M => (asB w M).bind fun b M => if b = true then g ρ M else .ok (.d (.bool false)) M := by
  unfold sAndV
  congr 1
  funext w M
  rcases w with (_ | (_ | _) | _ | _ | _ | _ | _) | _ | _ | _ | _ | _ | _ <;> rfl
@[simp] theorem sOrV_e : sOrV f g ρ M = (f ρ M).bind fun w M => (asB w M).bind fun b M => if b = true then .ok (.d (.bool true)) M else g ρ M := by
  unfold sOrV
  congr 1
  funext w M
  rcases w with (_ | (_ | _) | _ | _ | _ | _ | _) | _ | _ | _ | _ | _ | _ <;> rfl
@[simp] theorem sNotV_e : sNotV f ρ M = (f ρ M).bind fun w M => (asB w M).bind fun b M => .ok (.d (.bool (!b))) M := by
  unfold sNotV
  congr 1
  funext w M
  rcases w with (_ | (_ | _) | _ | _ | _ | _ | _) | _ | _ | _ | _ | _ | _ <;> rfl
@[simp] theorem sYes_e : sYes ρ M = .ok true M := rfl
end

/-! ### primitives on data -/
section
variable {a b : List Nat} {i j : Int} {x y : Str} {ds es : List PyData}
@[simp] theorem pAdd_i : pAdd [.int i, .int j] = some (.int (i + j)) := rfl
@[simp] theorem pAdd_s : pAdd [.str x, .str y] = if x.length + y.length ≤ sizeLine then some (.str (x ++ y)) else none := rfl
@[simp] theorem pAdd_l : pAdd [.list ds, .list es] = if ds.length + es.length ≤ sizeLine then some (.list (ds ++ es)) else none := rfl
@[simp] theorem pAdd_t : pAdd [.tuple ds, .tuple es] = if ds.length + es.length ≤ sizeLine then some (.tuple (ds ++ es)) else none := rfl
@[simp] theorem pSub_i : pSub [.int i, .int j] = some (.int (i - j)) := rfl
@[simp] theorem pMod_i : pMod [.int i, .int j] = if 0 < j then some (.int (i % j)) else none := by
  show (if decide (0 < j) = true then _ else _) = _
  simp
@[simp] theorem pFdiv_i : pFdiv [.int i, .int j] = if 0 < j ∧ j < 1073741824 then some (.int (i / j)) else none := by
  show (if decide (0 < j ∧ j < 1073741824) = true then _ else _) = _
  simp
@[simp] theorem pPow_i : pPow [.int i, .int j] = if cPow i j = true then some (.int (i ^ j.toNat)) else none := rfl
@[simp] theorem pLt_i : pLt [.int i, .int j] = some (.bool (decide (i < j))) := rfl
@[simp] theorem pLe_i : pLe [.int i, .int j] = some (.bool (decide (i ≤ j))) := rfl
@[simp] theorem pGt_i : pGt [.int i, .int j] = some (.bool (decide (j < i))) := rfl
@[simp] theorem pGe_i : pGe [.int i, .int j] = some (.bool (decide (j ≤ i))) := rfl
@[simp] theorem pMulA_i : pMulA [.int i, .int j] = if cMul i j = true then some (.int (i * j)) else none := by
  show (match (if cMul i j = true then some (PyData.int (i * j)) else none) with | some z => some z | none => pMul2 [.int i, .int j]) = _
  by_cases h : cMul i j = true
  · rw [if_pos h]
  · rw [if_neg h]; rfl
theorem pMulA_s : pMulA [.str x, .int j] = if 0 ≤ j ∧ j < 1048576 ∧ x.length * j.toNat ≤ sizeLine then some (.str (repS x j.toNat)) else none := rfl
@[simp] theorem pMulA_c (h : 0 ≤ j ∧ j ≤ 1000) (h2 : a.length * j.toNat ≤ 16777216) : pMulA [.str (S a), .int j] = some (.str (S (List.replicate j.toNat a).flatten)) := by
  have hl : (S a).length = a.length := by simp [S, Str.length]
  have hr : repS (S a) j.toNat = S (List.replicate j.toNat a).flatten := by
    unfold repS
    have : (S a).cps.toList = a := by simp [S]
    rw [this]
    rfl
  rw [pMulA_s, hl, hr, if_pos ⟨h.1, by omega, by rw [sizeLine_eq]; omega⟩]
@[simp] theorem pMulA_l : pMulA [.list ds, .int j] = if 0 ≤ j ∧ j < 2 ^ 63 ∧ ds.length * j.toNat ≤ sizeLine then some (.list (List.replicate j.toNat ds).flatten) else none := by
  show (match (if 0 ≤ j ∧ j < 2 ^ 63 ∧ ds.length * j.toNat ≤ sizeLine then some (PyData.list (List.replicate j.toNat ds).flatten) else none) with | some z => some z | none => pMul2 [.list ds, .int j]) = _
  by_cases h : 0 ≤ j ∧ j < 2 ^ 63 ∧ ds.length * j.toNat ≤ sizeLine
  · rw [if_pos h]
  · rw [if_neg h]; rfl
@[simp] theorem pEq_i {y : PyData} : pEq [.int i, y] = if SeqAt.shaped (.int i) = true ∧ SeqAt.shaped y = true then some (.bool (PyData.eqv (.int i) y)) else none := rfl
@[simp] theorem pEq_b {p : Bool} {y : PyData} : pEq [.bool p, y] = if SeqAt.shaped (.bool p) = true ∧ SeqAt.shaped y = true then some (.bool (PyData.eqv (.bool p) y)) else none := rfl
@[simp] theorem pEq_l {y : PyData} : pEq [.list ds, y] = if SeqAt.shaped (.list ds) = true ∧ SeqAt.shaped y = true then some (.bool (PyData.eqv (.list ds) y)) else none := rfl
@[simp] theorem pEq_t {y : PyData} : pEq [.tuple ds, y] = if SeqAt.shaped (.tuple ds) = true ∧ SeqAt.shaped y = true then some (.bool (PyData.eqv (.tuple ds) y)) else none := rfl
@[simp] theorem pEq_s : pEq [.str x, .str y] = some (.bool (decide (x = y))) := rfl
@[simp] theorem pNe_i {y : PyData} : pNe [.int i, y] = if SeqAt.shaped (.int i) = true ∧ SeqAt.shaped y = true then some (.bool (!PyData.eqv (.int i) y)) else none := rfl
@[simp] theorem pNe_b {p : Bool} {y : PyData} : pNe [.bool p, y] = if SeqAt.shaped (.bool p) = true ∧ SeqAt.shaped y = true then some (.bool (!PyData.eqv (.bool p) y)) else none := rfl
@[simp] theorem pNe_l {y : PyData} : pNe [.list ds, y] = if SeqAt.shaped (.list ds) = true ∧ SeqAt.shaped y = true then some (.bool (!PyData.eqv (.list ds) y)) else none := rfl
@[simp] theorem pNe_t {y : PyData} : pNe [.tuple ds, y] = if SeqAt.shaped (.tuple ds) = true ∧ SeqAt.shaped y = true then some (.bool (!PyData.eqv (.tuple ds) y)) else none := rfl
@[simp] theorem pNe_s : pNe [.str x, .str y] = some (.bool (!decide (x = y))) := rfl
@[simp] theorem pIx_l : pIx [.list ds, .int i] = atI ds i := rfl
@[simp] theorem pIx_t : pIx [.tuple ds, .int i] = atI ds i := rfl
@[simp] theorem pIx_s : pIx [.str (S a), .int i] = if a.length ≤ sizeLine then (atI a i).map fun c => .str (S [c]) else none := by
  show (if (S a).length ≤ sizeLine then (match atI (S a).cps.toList i with | some c => some (PyData.str ⟨#[c]⟩) | none => none) else none) = _
  have h1 : (S a).length = a.length := by simp [S, Str.length]
  have h2 : (S a).cps.toList = a := by simp [S]
  rw [h1, h2]
  cases atI a i <;> rfl
@[simp] theorem pLen_l : pLen [.list ds] = some (.int ds.length) := rfl
@[simp] theorem pLen_t : pLen [.tuple ds] = some (.int ds.length) := rfl
@[simp] theorem S_len : (S a).length = a.length := by simp [S, Str.length]
@[simp] theorem S_toList : (S a).cps.toList = a := by simp [S]
@[simp] theorem S_size : (S a).cps.size = a.length := by simp [S]
theorem S_inj : S a = S b ↔ a = b := ⟨fun h => by have := congrArg (fun z => z.cps.toList) h; simpa using this, fun h => by rw [h]⟩
@[simp] theorem S_eq : S a = S b ↔ a = b := S_inj
@[simp] theorem S_app : S a ++ S b = S (a ++ b) := by
  show (⟨a.toArray ++ b.toArray⟩ : Str) = ⟨(a ++ b).toArray⟩
  simp
theorem S_of (z : Str) : z = S z.cps.toList := by simp [S]
@[simp] theorem pLen_s : pLen [.str (S a)] = if a.length ≤ sizeLine then some (.int a.length) else none := by
  show (if (S a).length ≤ sizeLine then some (PyData.int (S a).length) else none) = _
  rw [S_len]
@[simp] theorem pInt_i : pInt [.int i] = some (.int i) := rfl
@[simp] theorem pInt_b {b : Bool} : pInt [.bool b] = some (.int (if b then 1 else 0)) := rfl
@[simp] theorem pStr_s : pStr [.str x] = some (.str x) := rfl
@[simp] theorem pMax_i : pMax [.int i, .int j] = some (.int (if j > i then j else i)) := rfl
@[simp] theorem pMin_i : pMin [.int i, .int j] = some (.int (if j < i then j else i)) := rfl
@[simp] theorem pNeg_i : pNeg [.int i] = some (.int (-i)) := rfl
@[simp] theorem pIsB_e {a b : Bool} : pIsB [.bool a, .bool b] = some (.bool (decide (a = b))) := rfl
@[simp] theorem pNotB_e {a b : Bool} : pNotB [.bool a, .bool b] = some (.bool (!decide (a = b))) := rfl
@[simp] theorem pList_l : pList [.list ds] = some (.list ds) := rfl
@[simp] theorem pList_t : pList [.tuple ds] = some (.list ds) := rfl
@[simp] theorem pTuple_l : pTuple [.list ds] = some (.tuple ds) := rfl
@[simp] theorem pTuple_t : pTuple [.tuple ds] = some (.tuple ds) := rfl
/-- the signs as data -/
def sg (a : List Nat) : List PyData := a.map fun c => .str (S [c])
@[simp] theorem chs_S : chs (S a) = sg a := by
  show (S a).cps.toList.map _ = _
  rw [S_toList]
  rfl
@[simp] theorem pList_s : pList [.str (S a)] = if a.length ≤ sizeLine then some (.list (sg a)) else none := by
  show (if (S a).cps.size ≤ sizeLine then some (PyData.list (chs (S a))) else none) = _
  rw [S_size, chs_S]
@[simp] theorem pTuple_s : pTuple [.str (S a)] = if a.length ≤ sizeLine then some (.tuple (sg a)) else none := by
  show (if (S a).cps.size ≤ sizeLine then some (PyData.tuple (chs (S a))) else none) = _
  rw [S_size, chs_S]
@[simp] theorem repS_S {n : Nat} : repS (S a) n = S (List.replicate n a).flatten := by
  unfold repS
  rw [S_toList]
  rfl
@[simp] theorem cutS_S {lo hi : Option Int} : cutS (S a) lo hi = S (cutL a lo hi) := by
  unfold cutS cutL
  rw [S_toList, S_len]
  rfl
@[simp] theorem slD_l {lo hi : Option Int} : slD lo hi (.list ds) = some (.list (cutL ds lo hi)) := rfl
@[simp] theorem slD_t {lo hi : Option Int} : slD lo hi (.tuple ds) = some (.tuple (cutL ds lo hi)) := rfl
@[simp] theorem slD_s {lo hi : Option Int} : slD lo hi (.str (S a)) = if a.length ≤ sizeLine then some (.str (S (cutL a lo hi))) else none := by
  show (if (S a).length ≤ sizeLine then some (PyData.str (cutS (S a) lo hi)) else none) = _
  rw [S_len, cutS_S]
theorem pEq_sh {x y : PyData} (h1 : SeqAt.shaped x = true) (h2 : SeqAt.shaped y = true) : pEq [x, y] = some (.bool (PyData.eqv x y)) := by
  unfold pEq
  split
  · rename_i a b q
    cases q
    show _ = some (PyData.bool (a == b))
    rw [show (a == b) = decide (a = b) from by rw [Bool.eq_iff_iff, beq_iff_eq, decide_eq_true_iff]]
  · rename_i q
    cases q
    rw [if_pos ⟨h1, h2⟩]
  · rename_i h
    exact absurd rfl (h x y)
theorem pNe_sh {x y : PyData} (h1 : SeqAt.shaped x = true) (h2 : SeqAt.shaped y = true) : pNe [x, y] = some (.bool (!PyData.eqv x y)) := by
  unfold pNe
  split
  · rename_i a b q
    cases q
    show _ = some (PyData.bool (!(a == b)))
    rw [show (a == b) = decide (a = b) from by rw [Bool.eq_iff_iff, beq_iff_eq, decide_eq_true_iff]]
  · rename_i q
    cases q
    rw [if_pos ⟨h1, h2⟩]
  · rename_i h
    exact absurd rfl (h x y)
@[simp] theorem eqv_s : PyData.eqv (.str (S a)) (.str (S b)) = decide (a = b) := by
  show (S a == S b) = _
  rw [Bool.eq_iff_iff, beq_iff_eq, decide_eq_true_iff, S_inj]
@[simp] theorem eqv_i : PyData.eqv (.int i) (.int j) = decide (i = j) := by
  show (i == j) = _
  rw [Bool.eq_iff_iff, beq_iff_eq, decide_eq_true_iff]
@[simp] theorem eqv_b {p q : Bool} : PyData.eqv (.bool p) (.bool q) = (p == q) := rfl
/-- is it one of the signs -/
def inS (a : List Nat) (c : Nat) : Bool := decide (c ∈ a)
theorem inS_iff {c : Nat} : inS a c = true ↔ c ∈ a := decide_eq_true_iff
@[simp] theorem inB_s {c : Nat} : inB (.str (S [c])) (.str (S a)) = some (inS a c) := by
  show some (decide (c ∈ (S a).cps.toList)) = _
  rw [S_toList]
  rfl
@[simp] theorem pIn_e {x y : PyData} : pIn [x, y] = (inB x y).map .bool := by
  show (match inB x y with | some b => some (PyData.bool b) | none => none) = _
  cases inB x y <;> rfl
@[simp] theorem pNotIn_e {x y : PyData} : pNotIn [x, y] = (inB x y).map fun b => .bool (!b) := by
  show (match inB x y with | some b => some (PyData.bool (!b)) | none => none) = _
  cases inB x y <;> rfl
/-! truths -/
def bl (bs : List Bool) : List PyData := bs.map .bool
@[simp] theorem bls_bl {bs : List Bool} : bls (bl bs) = some bs := by
  induction bs with
  | nil => rfl
  | cons b r ih =>
    show (match bls (bl r) with | some bs => some (b :: bs) | none => none) = _
    rw [ih]
@[simp] theorem pAll_e {bs : List Bool} : pAll [.list (bl bs)] = some (.bool (bs.all id)) := by
  show (match bls (bl bs) with | some bs => some (PyData.bool (bs.all id)) | none => none) = _
  rw [bls_bl]
@[simp] theorem pAny_e {bs : List Bool} : pAny [.list (bl bs)] = some (.bool (bs.any id)) := by
  show (match bls (bl bs) with | some bs => some (PyData.bool (bs.any id)) | none => none) = _
  rw [bls_bl]
/-! texts -/
def sts (ls : List (List Nat)) : List PyData := ls.map fun l => .str (S l)
@[simp] theorem strsD_sts {ls : List (List Nat)} : strsD (sts ls) = some (ls.map S) := by
  induction ls with
  | nil => rfl
  | cons b r ih =>
    show (match strsD (sts r) with | some bs => some (S b :: bs) | none => none) = _
    rw [ih]
    rfl
theorem sg_sts : sg a = sts (a.map fun c => [c]) := by
  unfold sg sts
  rw [List.map_map]
  rfl
theorem join0 {ls : List (List Nat)} : Txt.join (S []) (ls.map S) = S ls.flatten := by
  have h : ∀ (ls : List (List Nat)) (acc : Array Nat), ((ls.map S).foldl (fun acc p => acc ++ (S []).cps ++ p.cps) acc) = acc ++ ls.flatten.toArray := by
    intro ls
    induction ls with
    | nil => intro acc; simp
    | cons l r ih =>
      intro acc
      rw [List.map_cons, List.foldl_cons, ih]
      simp [S]
  show (⟨(((ls.map S).drop 1).foldl (fun acc p => acc ++ (S []).cps ++ p.cps) ((ls.map S).headD Str.empty).cps)⟩ : Str) = _
  cases ls with
  | nil => rfl
  | cons l r =>
    rw [List.map_cons, List.drop_one, List.tail_cons, h]
    simp [S]
@[simp] theorem pJoin0 {ls : List (List Nat)} : pJoin [.str (S []), .list (sts ls)] = if ls.flatten.length ≤ 16777216 then some (.str (S ls.flatten)) else none := by
  show (match strsD (sts ls) with | some ys => if (ys.map fun z : Str => z.length).sum + ys.length * (S []).length ≤ 16777216 then some (PyData.str (Txt.join (S []) ys)) else none | none => none) = _
  rw [strsD_sts]
  simp only [join0]
  have : ((ls.map S).map fun z : Str => z.length).sum + (ls.map S).length * (S []).length = ls.flatten.length := by
    rw [S_len, List.length_nil, Nat.mul_zero, Nat.add_zero, List.map_map, List.length_flatten]
    congr 1
  rw [this]
theorem flat_sg : (a.map fun c => [c]).flatten = a := by
  induction a with
  | nil => rfl
  | cons c r ih => rw [List.map_cons, List.flatten_cons, ih]; rfl
@[simp] theorem pJoin_sg : pJoin [.str (S []), .list (sg a)] = if a.length ≤ 16777216 then some (.str (S a)) else none := by
  rw [sg_sts, pJoin0, flat_sg]
end
end Y
namespace Y
open PySem PySem.Spec PyProof.Rows L2
/-! ### calls -/
section
variable {mf : MF} {n : Nat} {M M' J : List MO} {w : W} {x : PyData} {ws : List W} {ρ : Rho} {fs : List EF}
@[simp] theorem sCallF_e : sCallF mf n fs ρ M = (evs fs ρ M).bind fun ws M1 => callF mf n ws M1 := Eq.trans rfl rfl
@[simp] theorem sCallW_e : sCallW mf n fs ρ M = (evs fs ρ M).bind fun ws M1 => if ws.length = n then mf ws M1 else .stuck := Eq.trans rfl rfl
def W.dat : W → Bool
  | .d _ => true
  | .scr _ => true
  | .exc _ => true
  | .kd _ => true
  | .fn _ => true
  | _ => false
theorem dat_all : ∀ {ws : List W}, ws.all W.dat = true → ws.all W.plain = true ∧ locs ws = [] ∧ ∀ k, relo k ws = ws
  | [], _ => ⟨rfl, rfl, fun _ => rfl⟩
  | w :: ws, h => by
    simp only [List.all_cons, Bool.and_eq_true] at h
    obtain ⟨h1, h2, h3⟩ := dat_all h.2
    cases w with
    | loc n => exact absurd h.1 (by simp [W.dat])
    | tup n => exact absurd h.1 (by simp [W.dat])
    | d x => exact ⟨by simp [W.plain, h1], h2, fun k => by show W.d x :: relo k ws = _; rw [h3]⟩
    | clo i x => exact absurd h.1 (by simp [W.dat])
    | fn x => exact ⟨by simp [W.plain, h1], h2, fun k => by show W.fn x :: relo k ws = _; rw [h3]⟩
    | kd x => exact ⟨by simp [W.plain, h1], h2, fun k => by show W.kd x :: relo k ws = _; rw [h3]⟩
    | exc x => exact ⟨by simp [W.plain, h1], h2, fun k => by show W.exc x :: relo k ws = _; rw [h3]⟩
    | scr x => exact ⟨by simp [W.plain, h1], h2, fun k => by show W.scr x :: relo k ws = _; rw [h3]⟩
/-- a call with data alone -/
theorem callF_d (h : mf ws [] = .ok w J) (hz : fz 3 J w = some x) (hl : ws.length = n := by rfl) (hd : ws.all W.dat = true := by rfl) : callF mf n ws M = .ok (.d x) M := by
  obtain ⟨h1, h2, h3⟩ := dat_all hd
  unfold callF
  rw [h2, h3, if_pos ⟨hl, h1, List.nodup_nil⟩]
  show freeze M [] (mf ws []) = _
  rw [h]
  unfold freeze
  simp only [List.length_nil, List.take_zero, dataOnly, if_true, List.replicate_zero, List.drop_zero, List.nil_append, hz]
  rfl
theorem callF_dx {y : PyData} (h : mf ws [] = .ok (.d y) J) (hl : ws.length = n := by rfl) (hd : ws.all W.dat = true := by rfl) : callF mf n ws M = .ok (.d y) M := callF_d h rfl hl hd
/-- a call with a pile in front -/
theorem callF_p {i : Nat} {ds ds' : List PyData} (hM : M[i]? = some (.lst ds)) (h : mf (.loc 0 :: ws) [.lst ds] = .ok w (.lst ds' :: J)) (hz : fz 3 (.dead :: J) w = some x) (hl : ws.length + 1 = n := by rfl) (hd : ws.all W.dat = true := by rfl) :
    callF mf n (.loc i :: ws) M = .ok (.d x) (M.set i (.lst ds')) := by
  obtain ⟨h1, h2, h3⟩ := dat_all hd
  unfold callF
  have hp : (W.loc i :: ws).all W.plain = true := by simp [W.plain, h1]
  have hL : locs (W.loc i :: ws) = [i] := by show i :: locs ws = _; rw [h2]
  have hR : relo 0 (W.loc i :: ws) = .loc 0 :: ws := by show W.loc 0 :: relo 1 ws = _; rw [h3]
  rw [hL, hR, if_pos ⟨hl, hp, List.nodup_cons.mpr ⟨List.not_mem_nil, List.nodup_nil⟩⟩]
  have hs : subM M [i] = some [.lst ds] := by
    unfold subM
    rw [hM]
    rfl
  rw [hs]
  show freeze M [i] (mf (.loc 0 :: ws) [.lst ds]) = _
  rw [h]
  unfold freeze
  simp only [List.length_cons, List.length_nil, List.take_succ_cons, List.take_zero, dataOnly, if_true]
  show (match fz 3 (.dead :: J) w with | some x => _ | none => _) = _
  rw [hz]
  rfl
theorem callF_px {i : Nat} {ds ds' : List PyData} (hM : M[i]? = some (.lst ds)) (h : mf (.loc 0 :: ws) [.lst ds] = .ok (.d x) (.lst ds' :: J)) (hl : ws.length + 1 = n := by rfl) (hd : ws.all W.dat = true := by rfl) :
    callF mf n (.loc i :: ws) M = .ok (.d x) (M.set i (.lst ds')) := callF_p hM h rfl hl hd
@[simp] theorem defF_e {k : Nat} {sf : SF} : defF k sf ws M = fin (sf (start0 k ws) M) := Eq.trans rfl rfl
@[simp] theorem fin_ret : fin (.ret w M) = .ok w M := rfl
@[simp] theorem fin_nx : fin (.nx ρ M) = .ok (.d .none) M := rfl
@[simp] theorem fin_er {e : Ex} : fin (.er e ρ M) = .err e M := rfl
@[simp] theorem start0_nil {k : Nat} : start0 k [] = List.replicate k none := by simp [start0]
@[simp] theorem start0_cons {k : Nat} : start0 (k + 1) (w :: ws) = some w :: start0 k ws := by
  unfold start0
  simp
@[simp] theorem sMeth_e {T : MT'} {p : Pr} {f : EF} : sMeth T p f fs ρ M = (f ρ M).bind fun w M1 => if tyW T M1 w = true then (evs fs ρ M1).bind fun ws M2 => ans (p (w :: ws) M2) else .stuck := Eq.trans rfl rfl
@[simp] theorem tyW_s {x : Str} : tyW .str M (.d (.str x)) = true := rfl
theorem tyW_l {i : Nat} {ds : List PyData} (h : M[i]? = some (.lst ds)) : tyW .list M (.loc i) = true := by
  show (match M[i]? with | some (.lst _) => true | some (.lsw _) => true | _ => false) = true
  rw [h]
theorem pAppend_e {i : Nat} {ds : List PyData} (h : M[i]? = some (.lst ds)) (hl : ds.length < sizeLine) : pAppend [.loc i, .d x] M = some (.d .none, M.set i (.lst (ds ++ [x]))) := by
  show (match M[i]? with | some (.lst ds) => if ds.length < sizeLine then some (W.d .none, M.set i (.lst (ds ++ [x]))) else none | _ => none) = _
  rw [h]
  simp only [if_pos hl]
/-! displays -/
@[simp] theorem lNil_e : lNil ρ M = .ok [] M := rfl
@[simp] theorem lCons_e {f : EF} {h : LF} : lCons f h ρ M = (f ρ M).bind fun w M1 => (h ρ M1).bind fun ws M2 => .ok (w :: ws) M2 := Eq.trans rfl rfl
@[simp] theorem allD_nil : allD [] = some [] := rfl
@[simp] theorem allD_d : allD (.d x :: ws) = (allD ws).map (x :: ·) := by
  show (match allD ws with | some xs => some (x :: xs) | none => none) = _
  cases allD ws <;> rfl
def asLst (o : Option (List PyData)) (M : List MO) : Res W := match o with
  | some xs => if xs.length ≤ sizeLine then .ok (.d (.list xs)) M else .stuck
  | none => .stuck
@[simp] theorem asLst_s {xs : List PyData} : asLst (some xs) M = if xs.length ≤ sizeLine then .ok (.d (.list xs)) M else .stuck := rfl
@[simp] theorem sLst_e {h : LF} : sLst h ρ M = (h ρ M).bind fun ws M => asLst (allD ws) M := by
  unfold sLst
  congr 1
def asLive (o : Option (List PyData)) (M : List MO) : Res W := match o with
  | some xs => if xs.length ≤ sizeLine then .ok (.loc M.length) (M ++ [.lst xs]) else .stuck
  | none => .stuck
@[simp] theorem asLive_s {xs : List PyData} : asLive (some xs) M = if xs.length ≤ sizeLine then .ok (.loc M.length) (M ++ [.lst xs]) else .stuck := rfl
@[simp] theorem sLive_e {h : LF} : sLive h ρ M = (h ρ M).bind fun ws M => asLive (allD ws) M := by
  unfold sLive
  congr 1
def asTup (ws : List W) (M : List MO) : Res W := if ws.length ≤ sizeLine then match allD ws with
    | some xs => .ok (.d (.tuple xs)) M
    | none => .ok (.tup ws) M
  else .stuck
@[simp] theorem sTup_e {h : LF} : sTup h ρ M = (h ρ M).bind asTup := Eq.trans rfl rfl
theorem asTup_d {xs : List PyData} (h : allD ws = some xs) (hl : ws.length ≤ sizeLine) : asTup ws M = .ok (.d (.tuple xs)) M := by
  unfold asTup
  rw [if_pos hl, h]
@[simp] theorem asTup_nil : asTup [] M = .ok (.d (.tuple [])) M := asTup_d rfl (Nat.zero_le _)
@[simp] theorem asTup_1 {a : PyData} : asTup [.d a] M = .ok (.d (.tuple [a])) M := asTup_d rfl (by show 1 ≤ sizeLine; decide)
@[simp] theorem asTup_2 {a b : PyData} : asTup [.d a, .d b] M = .ok (.d (.tuple [a, b])) M := asTup_d rfl (by show 2 ≤ sizeLine; decide)
@[simp] theorem asTup_3 {a b c : PyData} : asTup [.d a, .d b, .d c] M = .ok (.d (.tuple [a, b, c])) M := asTup_d rfl (by show 3 ≤ sizeLine; decide)
@[simp] theorem asTup_4 {a b c e : PyData} : asTup [.d a, .d b, .d c, .d e] M = .ok (.d (.tuple [a, b, c, e])) M := asTup_d rfl (by show 4 ≤ sizeLine; decide)
/-! isinstance -/
def asIsi (T : Ty) (o : Option PyData) (M : List MO) : Res W := match o with
  | some d => .ok (.d (.bool (isT T d))) M
  | none => .stuck
@[simp] theorem asIsi_s {T : Ty} : asIsi T (some x) M = .ok (.d (.bool (isT T x))) M := rfl
@[simp] theorem sIsi_e {T : Ty} {f : EF} : sIsi T f ρ M = (f ρ M).bind fun w M => asIsi T (vw M w) M := by
  unfold sIsi
  congr 1
/-! slices -/
@[simp] theorem oN_e : oN ρ M = .ok none M := rfl
def asO : W → List MO → Res (Option Int)
  | .d (.int i), M => .ok (some i) M
  | _, _ => .stuck
@[simp] theorem asO_i {i : Int} : asO (.d (.int i)) M = .ok (some i) M := rfl
@[simp] theorem oS_e {f : EF} : oS f ρ M = (f ρ M).bind asO := by
  unfold oS
  congr 1
  funext w M
  rcases w with (_ | _ | _ | _ | _ | _ | _) | _ | _ | _ | _ | _ | _ <;> rfl
@[simp] theorem sSl_e {f : EF} {lo hi : OF} : sSl f lo hi ρ M = (f ρ M).bind fun w M1 => (lo ρ M1).bind fun l M2 => (hi ρ M2).bind fun h M3 => asD ((vw M3 w).bind (slD l h)) M3 := by
  unfold sSl
  congr 1
  funext w M1
  congr 1
  funext l M2
  congr 1
  funext h M3
  cases vw M3 w with
  | none => rfl
  | some y =>
    show (match slD l h y with | some y => Res.ok (W.d y) M3 | none => .stuck) = asD (slD l h y) M3
    cases slD l h y <;> rfl
/-! stores -/
def Res.ag (r : Res W) (ρ : Rho) (gt : GF) : SR := match r with
  | .ok w M => match gt w ρ M with
    | some (ρ, M) => .nx ρ M
    | none => .stuck
  | .err e M => .er e ρ M
  | .stuck => .stuck
@[simp] theorem ag_ok {gt : GF} : (Res.ok w M).ag ρ gt = match gt w ρ M with | some (ρ, M) => .nx ρ M | none => .stuck := Eq.trans rfl rfl
@[simp] theorem sAsg_e {f : EF} {gt : GF} : sAsg f gt ρ M = (f ρ M).ag ρ gt := by
  unfold sAsg Res.ag
  cases f ρ M <;> rfl
@[simp] theorem gN_e {i : Nat} : gN i w ρ M = some (ρ.set i (some w), M) := rfl
@[simp] theorem gs_nil : gs [] [] ρ M = some (ρ, M) := rfl
@[simp] theorem gs_cons {t : GF} {ts : List GF} {ds : List PyData} : gs (t :: ts) (x :: ds) ρ M = match t (.d x) ρ M with | some (ρ, M) => gs ts ds ρ M | none => none := Eq.trans rfl rfl
@[simp] theorem gT_t {ts : List GF} {ds : List PyData} : gT ts (.d (.tuple ds)) ρ M = gs ts ds ρ M := Eq.trans rfl rfl
theorem gS_e {fo fi : EF} {n j : Nat} {k : Int} {M1 M2 : List MO} {ds : List PyData} (h1 : fo ρ M = .ok (.loc n) M1) (h2 : fi ρ M1 = .ok (.d (.int k)) M2) (h3 : M2[n]? = some (.lst ds)) (h4 : ixN ds.length k = some j) : gS fo fi (.d x) ρ M = some (ρ, M2.set n (.lst (ds.set j x))) := by
  unfold gS
  rw [h1]
  simp only [h2, h3, h4]
@[simp] theorem sPar2_e {i j : Nat} : sPar2 i j fs ρ M = match evs fs ρ M with | .ok [w1, w2] M1 => .nx ((ρ.set i (some w1)).set j (some w2)) M1 | .err e M1 => .er e ρ M1 | _ => .stuck := rfl
@[simp] theorem sPar3_e {i j l : Nat} : sPar3 i j l fs ρ M = match evs fs ρ M with | .ok [w1, w2, w3] M1 => .nx (((ρ.set i (some w1)).set j (some w2)).set l (some w3)) M1 | .err e M1 => .er e ρ M1 | _ => .stuck := rfl
end

/-! ### loops -/
section
variable {gt : GF} {body : SF} {ρ ρ' : Rho} {M M' : List MO} {ds : List PyData} {d : PyData} {f : EF} {fs : List EF} {w : W}
@[simp] theorem forL_nil : forL gt body [] ρ M = .nx ρ M := rfl
def SR.nxt (r : SR) (k : SF) : SR := match r with
  | .nx ρ M => k ρ M
  | .ct ρ M => k ρ M
  | .bk ρ M => .nx ρ M
  | r => r
@[simp] theorem nxt_nx {k : SF} : (SR.nx ρ M).nxt k = k ρ M := Eq.trans rfl rfl
@[simp] theorem nxt_ct {k : SF} : (SR.ct ρ M).nxt k = k ρ M := Eq.trans rfl rfl
@[simp] theorem nxt_bk {k : SF} : (SR.bk ρ M).nxt k = .nx ρ M := rfl
@[simp] theorem nxt_ret {k : SF} : (SR.ret w M).nxt k = .ret w M := rfl
theorem forL_cons : forL gt body (d :: ds) ρ M = match gt (.d d) ρ M with | some (ρ1, M1) => (body ρ1 M1).nxt (forL gt body ds) | none => .stuck := by
  show (match gt (.d d) ρ M with | some (ρ1, M1) => (match body ρ1 M1 with | .nx ρ2 M2 => forL gt body ds ρ2 M2 | .ct ρ2 M2 => forL gt body ds ρ2 M2 | .bk ρ2 M2 => SR.nx ρ2 M2 | r => r) | none => .stuck) = _
  rcases gt (.d d) ρ M with _ | ⟨ρ1, M1⟩
  · rfl
  · show (match body ρ1 M1 with | .nx ρ2 M2 => forL gt body ds ρ2 M2 | .ct ρ2 M2 => forL gt body ds ρ2 M2 | .bk ρ2 M2 => SR.nx ρ2 M2 | r => r) = (body ρ1 M1).nxt _
    cases body ρ1 M1 <;> rfl
/-- a loop's invariant -/
theorem forL_inv (I : Rho → List MO → Prop) (P : PyData → Prop) (hb : ∀ d ρ M, P d → I ρ M → ∃ ρ1 M1, gt (.d d) ρ M = some (ρ1, M1) ∧ ∃ ρ2 M2, body ρ1 M1 = .nx ρ2 M2 ∧ I ρ2 M2) : ∀ {ds : List PyData} {ρ : Rho} {M : List MO}, (∀ d ∈ ds, P d) → I ρ M →
    ∃ ρ' M', forL gt body ds ρ M = .nx ρ' M' ∧ I ρ' M'
  | [], ρ, M, _, h => ⟨ρ, M, rfl, h⟩
  | d :: ds, ρ, M, hP, h => by
    obtain ⟨ρ1, M1, e1, ρ2, M2, e2, h2⟩ := hb d ρ M (hP d List.mem_cons_self) h
    obtain ⟨ρ', M', e3, h3⟩ := forL_inv I P hb (ds := ds) (fun x hx => hP x (List.mem_cons_of_mem _ hx)) h2
    refine ⟨ρ', M', ?_, h3⟩
    rw [forL_cons, e1]
    simp only [e2, nxt_nx, e3]
def Res.fo (r : Res (List PyData)) (ρ : Rho) (k : List PyData → SF) : SR := match r with
  | .ok ds M => k ds ρ M
  | .err e M => .er e ρ M
  | .stuck => .stuck
@[simp] theorem fo_ok {k : List PyData → SF} : (Res.ok ds M).fo ρ k = k ds ρ M := Eq.trans rfl rfl
@[simp] theorem sFor_e {it : IF} : sFor it gt body ρ M = (it ρ M).fo ρ (forL gt body) := by
  unfold sFor Res.fo
  cases it ρ M <;> rfl
def asIt : W → List MO → Res (List PyData)
  | .d (.list ds), M => .ok ds M
  | .d (.tuple ds), M => .ok ds M
  | .d (.str s), M => .ok (chs s) M
  | _, _ => .stuck
@[simp] theorem asIt_l : asIt (.d (.list ds)) M = .ok ds M := rfl
@[simp] theorem asIt_t : asIt (.d (.tuple ds)) M = .ok ds M := rfl
@[simp] theorem asIt_s {a : List Nat} : asIt (.d (.str (S a))) M = .ok (sg a) M := by show Res.ok (chs (S a)) M = _; rw [chs_S]
@[simp] theorem itD_e : itD f ρ M = (f ρ M).bind asIt := by
  unfold itD
  congr 1
  funext w M
  rcases w with (_ | _ | _ | _ | _ | _ | _) | _ | _ | _ | _ | _ | _ <;> rfl
def asR1 : List W → List MO → Res (List PyData)
  | [.d (.int j)], M => if -(2 ^ 62) ≤ j ∧ j < 2 ^ 62 then .ok (rng 0 j.toNat) M else .stuck
  | _, _ => .stuck
theorem asR1_i {j : Int} : asR1 [.d (.int j)] M = if -(2 ^ 62) ≤ j ∧ j < 2 ^ 62 then .ok (rng 0 j.toNat) M else .stuck := rfl
@[simp] theorem asR1_c {j : Int} (h : -1000000 ≤ j ∧ j ≤ 1000000) : asR1 [.d (.int j)] M = .ok (rng 0 j.toNat) M := by
  rw [asR1_i, if_pos (by omega)]
@[simp] theorem itR1_e : itR1 fs ρ M = (evs fs ρ M).bind asR1 := by
  unfold itR1
  congr 1
  funext ws M
  unfold asR1
  split
  · rfl
  · split
    · simp_all
    · rfl
def asR2 : List W → List MO → Res (List PyData)
  | [.d (.int i), .d (.int j)], M => if -(2 ^ 62) ≤ i ∧ i < 2 ^ 62 ∧ -(2 ^ 62) ≤ j ∧ j < 2 ^ 62 then .ok (rng i (j - i).toNat) M else .stuck
  | _, _ => .stuck
theorem asR2_i {i j : Int} : asR2 [.d (.int i), .d (.int j)] M = if -(2 ^ 62) ≤ i ∧ i < 2 ^ 62 ∧ -(2 ^ 62) ≤ j ∧ j < 2 ^ 62 then .ok (rng i (j - i).toNat) M else .stuck := rfl
@[simp] theorem asR2_c {i j : Int} (h : -1000000 ≤ i ∧ i ≤ 1000000) (h2 : -1000000 ≤ j ∧ j ≤ 1000000) : asR2 [.d (.int i), .d (.int j)] M = .ok (rng i (j - i).toNat) M := by
  rw [asR2_i, if_pos (by omega)]
@[simp] theorem itR2_e : itR2 fs ρ M = (evs fs ρ M).bind asR2 := by
  unfold itR2
  congr 1
  funext ws M
  unfold asR2
  split
  · rfl
  · split
    · simp_all
    · rfl
def asZ : List W → List MO → Res (List PyData)
  | [.d (.str x), .d (.str y)], M => .ok (prs (chs x) (chs y)) M
  | _, _ => .stuck
@[simp] theorem asZ_s {a b : List Nat} : asZ [.d (.str (S a)), .d (.str (S b))] M = .ok (prs (sg a) (sg b)) M := by show Res.ok (prs (chs (S a)) (chs (S b))) M = _; rw [chs_S, chs_S]
@[simp] theorem itZ_e : itZ fs ρ M = (evs fs ρ M).bind asZ := by
  unfold itZ itZS
  congr 1
  funext ws M
  unfold asZ
  split
  · rfl
  · split
    · simp_all
    · rfl
theorem mem_rng {lo : Int} {n : Nat} {d : PyData} (h : d ∈ rng lo n) : ∃ i : Int, d = .int i ∧ lo ≤ i ∧ i < lo + n := by
  unfold rng at h
  obtain ⟨i, hi, rfl⟩ := List.mem_map.mp h
  rw [List.mem_range] at hi
  exact ⟨_, rfl, by omega, by omega⟩
theorem rng_0 {lo : Int} : rng lo 0 = [] := rfl
theorem rng_cons {lo : Int} {n : Nat} : rng lo (n + 1) = .int lo :: rng (lo + 1) n := by
  unfold rng
  rw [List.range_succ_eq_map, List.map_cons, List.map_map]
  congr 1
  · simp
  · refine List.map_congr_left fun i _ => ?_
    show PyData.int _ = .int _
    congr 1
    simp
    omega
theorem forL_rng0 {lo : Int} (I : Nat → Rho → List MO → Prop) : ∀ (n j : Nat) {lo' : Int} {ρ : Rho} {M : List MO}, lo' = lo + (j : Int) → (∀ (i : Nat) (ρ : Rho) (M : List MO), j ≤ i → i < j + n → I i ρ M → ∃ ρ1 M1, gt (.d (.int (lo + (i : Int)))) ρ M = some (ρ1, M1) ∧ ∃ ρ2 M2, body ρ1 M1 = .nx ρ2 M2 ∧ I (i + 1) ρ2 M2) → I j ρ M →
    ∃ ρ' M', forL gt body (rng lo' n) ρ M = .nx ρ' M' ∧ I (j + n) ρ' M'
  | 0, j, _, ρ, M, _, _, h => ⟨ρ, M, by rw [rng_0, forL_nil], h⟩
  | n + 1, j, lo', ρ, M, e, hb, h => by
    obtain ⟨ρ1, M1, e1, ρ2, M2, e2, h2⟩ := hb j ρ M (Nat.le_refl _) (by omega) h
    obtain ⟨ρ', M', e3, h3⟩ := forL_rng0 I n (j + 1) (lo' := lo' + 1) (by rw [e]; omega) (fun i ρ M a b => hb i ρ M (by omega) (by omega)) h2
    refine ⟨ρ', M', ?_, by rw [show j + (n + 1) = j + 1 + n by omega]; exact h3⟩
    subst e
    rw [rng_cons, forL_cons, e1]
    simp only [e2, nxt_nx, e3]
/-- a loop over numbers, its invariant by the turn -/
theorem forL_rng {n : Nat} {ρ : Rho} {M : List MO} (I : Nat → Rho → List MO → Prop) (hb : ∀ (i : Nat) (ρ : Rho) (M : List MO), i < n → I i ρ M → ∃ ρ1 M1, gt (.d (.int (i : Int))) ρ M = some (ρ1, M1) ∧ ∃ ρ2 M2, body ρ1 M1 = .nx ρ2 M2 ∧ I (i + 1) ρ2 M2) (h : I 0 ρ M) :
    ∃ ρ' M', forL gt body (rng 0 n) ρ M = .nx ρ' M' ∧ I n ρ' M' := by
  obtain ⟨ρ', M', e, h'⟩ := forL_rng0 (gt := gt) (body := body) (lo := 0) I n 0 (lo' := 0) rfl (fun i ρ M _ b hi => by rw [Int.zero_add]; exact hb i ρ M (by omega) hi) h
  exact ⟨ρ', M', e, by rw [Nat.zero_add] at h'; exact h'⟩
/-! comprehensions -/
variable {tt : TF} {te : EF} {it : IF} {vs : List Nat}
def asLc (o : Option (List PyData × List MO)) : Res W := match o with
  | some (xs, M2) => .ok (.d (.list xs)) M2
  | none => .stuck
@[simp] theorem asLc_s {xs : List PyData} : asLc (some (xs, M)) = .ok (.d (.list xs)) M := Eq.trans rfl rfl
@[simp] theorem sLc_e : sLc it gt tt te vs ρ M = (it ρ M).bind fun ds M1 => if ds.length ≤ sizeLine then asLc (compL gt tt te (wip ρ vs) ds M1) else .stuck := by
  unfold sLc
  congr 1
@[simp] theorem wip_nil : wip ρ [] = ρ := rfl
@[simp] theorem wip_cons {v : Nat} : wip ρ (v :: vs) = (wip ρ vs).set v none := rfl
@[simp] theorem compL_nil : compL gt tt te ρ [] M = some ([], M) := rfl
theorem compL_cons : compL gt tt te ρ (d :: ds) M = match gt (.d d) ρ M with
    | some (ρ1, M1) => match tt ρ1 M1 with
      | .ok true M2 => match te ρ1 M2 with
        | .ok (.d x) M3 => match compL gt tt te ρ ds M3 with
          | some (xs, M4) => some (x :: xs, M4)
          | none => none
        | _ => none
      | .ok false M2 => compL gt tt te ρ ds M2
      | _ => none
    | none => none := rfl
/-- a comprehension that keeps the store: what is kept, what it becomes -/
theorem compL_pure (t : PyData → Bool) (f : PyData → PyData) : ∀ {ds : List PyData}, (∀ d ∈ ds, ∃ ρ1, gt (.d d) ρ M = some (ρ1, M) ∧ tt ρ1 M = .ok (t d) M ∧ (t d = true → te ρ1 M = .ok (.d (f d)) M)) → compL gt tt te ρ ds M = some ((ds.filter t).map f, M)
  | [], _ => rfl
  | d :: ds, h => by
    obtain ⟨ρ1, e1, e2, e3⟩ := h d List.mem_cons_self
    have ih := compL_pure t f (ds := ds) fun x hx => h x (List.mem_cons_of_mem _ hx)
    rw [compL_cons, e1]
    simp only [e2]
    cases q : t d with
    | true => simp [e3 q, ih, q]
    | false => simp [ih, q]
theorem compL_map (f : PyData → PyData) {ds : List PyData} (h : ∀ d ∈ ds, ∃ ρ1, gt (.d d) ρ M = some (ρ1, M) ∧ tt ρ1 M = .ok true M ∧ te ρ1 M = .ok (.d (f d)) M) : compL gt tt te ρ ds M = some (ds.map f, M) := by
  rw [compL_pure (fun _ => true) f fun d hd => let ⟨ρ1, a, b, c⟩ := h d hd; ⟨ρ1, a, b, fun _ => c⟩]
  rw [List.filter_eq_self.mpr fun _ _ => rfl]
/-- over the images of a list -/
theorem compL_on {α : Type} (h : α → PyData) (t : α → Bool) (f : α → PyData) : ∀ {l : List α}, (∀ a ∈ l, ∃ ρ1, gt (.d (h a)) ρ M = some (ρ1, M) ∧ tt ρ1 M = .ok (t a) M ∧ (t a = true → te ρ1 M = .ok (.d (f a)) M)) → compL gt tt te ρ (l.map h) M = some ((l.filter t).map f, M)
  | [], _ => rfl
  | a :: l, k => by
    obtain ⟨ρ1, e1, e2, e3⟩ := k a List.mem_cons_self
    have ih := compL_on h t f (l := l) fun x hx => k x (List.mem_cons_of_mem _ hx)
    rw [List.map_cons, compL_cons, e1]
    simp only [e2]
    cases q : t a with
    | true => simp [e3 q, ih, q]
    | false => simp [ih, q]
theorem compL_all {α : Type} (h : α → PyData) (f : α → PyData) {l : List α} (k : ∀ a ∈ l, ∃ ρ1, gt (.d (h a)) ρ M = some (ρ1, M) ∧ tt ρ1 M = .ok true M ∧ te ρ1 M = .ok (.d (f a)) M) : compL gt tt te ρ (l.map h) M = some (l.map f, M) := by
  rw [compL_on h (fun _ => true) f fun d hd => let ⟨ρ1, a, b, c⟩ := k d hd; ⟨ρ1, a, b, fun _ => c⟩]
  rw [List.filter_eq_self.mpr fun _ _ => rfl]
theorem prs_sg {a b : List Nat} : prs (sg a) (sg b) = (a.zip b).map fun p => .tuple [.str (S [p.1]), .str (S [p.2])] := by
  unfold prs sg
  rw [List.zip_map, List.map_map]
  rfl
inductive All2 {α β : Type} (Q : α → β → Prop) : List α → List β → Prop
  | nil : All2 Q [] []
  | cons {a : α} {b : β} {as : List α} {bs : List β} : Q a b → All2 Q as bs → All2 Q (a :: as) (b :: bs)
theorem All2.len {α β : Type} {Q : α → β → Prop} : ∀ {as : List α} {bs : List β}, All2 Q as bs → bs.length = as.length
  | _, _, .nil => rfl
  | _, _, .cons _ t => by rw [List.length_cons, List.length_cons, t.len]
theorem All2.all {α β : Type} {Q : α → β → Prop} {P : β → Prop} (h : ∀ a b, Q a b → P b) : ∀ {as : List α} {bs : List β}, All2 Q as bs → ∀ b ∈ bs, P b
  | _, _, .nil, _, hb => by simp at hb
  | _, _, .cons q t, b, hb => by
    rcases List.mem_cons.mp hb with rfl | hb
    · exact h _ _ q
    · exact All2.all h t b hb
/-- a comprehension that goes along with the store -/
theorem compL_inv (I : List MO → Prop) (Q : PyData → PyData → Prop) : ∀ {ds : List PyData} {M : List MO}, (∀ d ∈ ds, ∀ M, I M → ∃ ρ1 M1, gt (.d d) ρ M = some (ρ1, M1) ∧ ∃ x M3, tt ρ1 M1 = .ok true M1 ∧ te ρ1 M1 = .ok (.d x) M3 ∧ I M3 ∧ Q d x) → I M →
    ∃ xs M', compL gt tt te ρ ds M = some (xs, M') ∧ I M' ∧ All2 Q ds xs
  | [], M, _, h => ⟨[], M, rfl, h, .nil⟩
  | d :: ds, M, hb, h => by
    obtain ⟨ρ1, M1, e1, x, M3, e2, e3, h3, hx⟩ := hb d List.mem_cons_self M h
    obtain ⟨xs, M', e4, h4, hq⟩ := compL_inv I Q (ds := ds) (fun y hy => hb y (List.mem_cons_of_mem _ hy)) h3
    refine ⟨x :: xs, M', ?_, h4, .cons hx hq⟩
    rw [compL_cons, e1]
    simp only [e2, e3, e4]
end
end Y
namespace Y
open PySem PySem.Spec PyProof.Rows L2
/-! ### data that may be shown and compared -/
mutual
def nice : PyData → Bool
  | .none => true
  | .bool _ => true
  | .int i => decide (i.natAbs < 10 ^ 30)
  | .str s => s.cps.toList.all fun c => decide (c < 1114112)
  | .list ds => niceA ds
  | .tuple ds => niceA ds
  | .dict _ => false
def niceA : List PyData → Bool
  | [] => true
  | d :: ds => nice d && niceA ds
end
mutual
theorem nice_lay : ∀ d : PyData, nice d = true → d.canLay0 = true
  | .none, _ => rfl
  | .bool _, _ => rfl
  | .int _, _ => rfl
  | .str s, h => by
    have h' : s.cps.toList.all (fun c => decide (c < 1114112)) = true := h
    show s.cps.all (· < 0x110000) = true
    rw [← Array.all_toList]
    exact h'
  | .list ds, h => niceA_lay ds h
  | .tuple ds, h => niceA_lay ds h
  | .dict _, h => by cases h
theorem niceA_lay : ∀ ds : List PyData, niceA ds = true → PyData.canLayAll0 ds = true
  | [], _ => rfl
  | d :: ds, h => by
    have h' : nice d = true ∧ niceA ds = true := by simpa only [niceA, Bool.and_eq_true] using h
    simp only [PyData.canLayAll0, Bool.and_eq_true]
    exact ⟨nice_lay d h'.1, niceA_lay ds h'.2⟩
end
theorem natAbs_big {i : Int} (h : i.natAbs < 10 ^ 30) : i.natAbs.log2 < 1920 ∧ (PyData.shown (.int i)).length ≤ 40 := by
  refine ⟨?_, ?_⟩
  · by_cases h0 : i.natAbs = 0
    · rw [h0]; decide
    · have : i.natAbs < 2 ^ 1920 := Nat.lt_trans h (by decide +kernel)
      exact (Nat.log2_lt h0).mpr this
  · have e := int_text_length_le10 (k := 30) (by decide) h
    show (Str.ofString (toString i)).length ≤ 40
    rw [PySem.ofString_length]
    omega
mutual
theorem nice_show : ∀ d : PyData, nice d = true → d.showable = true ∧ d.hasDict = false ∧ d.leavesShort 40 = true
  | .none, _ => ⟨rfl, rfl, rfl⟩
  | .bool _, _ => ⟨rfl, rfl, rfl⟩
  | .int i, h => by
    have h' : i.natAbs < 10 ^ 30 := of_decide_eq_true h
    obtain ⟨a, b⟩ := natAbs_big h'
    exact ⟨decide_eq_true a, rfl, decide_eq_true b⟩
  | .str s, h => by
    have h' : s.cps.toList.all (fun c => decide (c < 1114112)) = true := h
    refine ⟨rfl, rfl, ?_⟩
    show s.cps.toList.all (fun c => decide (c < 16 ^ 8)) = true
    rw [List.all_eq_true] at h' ⊢
    intro c hc
    have := of_decide_eq_true (h' c hc)
    exact decide_eq_true (Nat.lt_trans this (by decide))
  | .list ds, h => by
    obtain ⟨a, b, c⟩ := niceA_show ds h
    exact ⟨by simpa only [PyData.showable] using a, by simpa only [PyData.hasDict] using b, by simpa only [PyData.leavesShort] using c⟩
  | .tuple ds, h => by
    obtain ⟨a, b, c⟩ := niceA_show ds h
    exact ⟨by simpa only [PyData.showable] using a, by simpa only [PyData.hasDict] using b, by simpa only [PyData.leavesShort] using c⟩
  | .dict _, h => by cases h
theorem niceA_show : ∀ ds : List PyData, niceA ds = true → PyData.showableAll ds = true ∧ PyData.hasDictAll ds = false ∧ PyData.leavesShortAll 40 ds = true
  | [], _ => ⟨rfl, rfl, rfl⟩
  | d :: ds, h => by
    have h' : nice d = true ∧ niceA ds = true := by simpa only [niceA, Bool.and_eq_true] using h
    obtain ⟨a, b, c⟩ := nice_show d h'.1
    obtain ⟨a', b', c'⟩ := niceA_show ds h'.2
    refine ⟨?_, ?_, ?_⟩
    · simp only [PyData.showableAll, a, a', Bool.and_self]
    · simp only [PyData.hasDictAll, b, b', Bool.or_self]
    · simp only [PyData.leavesShortAll, c, c', Bool.and_self]
end
/-- nice, shallow, light -/
structure Fine (d : PyData) : Prop where
  nice : nice d = true
  dep : d.depth ≤ 20
  wt : d.weight ≤ 200000
theorem Fine.shaped {d : PyData} (h : Fine d) : SeqAt.shaped d = true := by
  unfold SeqAt.shaped
  rw [nice_lay d h.nice, Bool.true_and]
  exact decide_eq_true (by have := h.dep; omega)
theorem Fine.show {d : PyData} (h : Fine d) : okShow d = true := by
  obtain ⟨a, b, c⟩ := nice_show d h.nice
  have e := PyData.shown_le 40 (by decide) d c
  have hw := h.wt
  unfold okShow
  rw [a, b, decide_eq_true (show d.depth ≤ 60 by have := h.dep; omega)]
  show (true && true && decide (d.shown.length ≤ sizeLine)) = true
  rw [decide_eq_true (by rw [sizeLine_eq]; omega)]
  rfl
theorem Fine.str {d : PyData} (h : Fine d) : ∃ z, pStr [d] = some (.str z) := by
  by_cases hs : ∃ z, d = .str z
  · obtain ⟨z, rfl⟩ := hs
    exact ⟨z, rfl⟩
  · refine ⟨d.shown, ?_⟩
    cases d with
    | str z => exact absurd ⟨z, rfl⟩ hs
    | none => exact if_pos (c := okShow _ = true) h.show (e := none)
    | bool b => exact if_pos (c := okShow _ = true) h.show (e := none)
    | int b => exact if_pos (c := okShow _ = true) h.show (e := none)
    | list b => exact if_pos (c := okShow _ = true) h.show (e := none)
    | tuple b => exact if_pos (c := okShow _ = true) h.show (e := none)
    | dict b => exact if_pos (c := okShow _ = true) h.show (e := none)
theorem weightA_le {B : Nat} : ∀ {ds : List PyData}, (∀ d ∈ ds, d.weight ≤ B) → PyData.weightAll ds ≤ ds.length * (B + 1)
  | [], _ => Nat.zero_le _
  | d :: ds, h => by
    have h1 := h d List.mem_cons_self
    have h2 := weightA_le (B := B) (ds := ds) fun x hx => h x (List.mem_cons_of_mem _ hx)
    simp only [PyData.weightAll, List.length_cons, Nat.add_mul, Nat.one_mul]
    omega
theorem depthA_le {B : Nat} : ∀ {ds : List PyData}, (∀ d ∈ ds, d.depth ≤ B) → PyData.depthAll ds ≤ B
  | [], _ => Nat.zero_le _
  | d :: ds, h => by
    have h1 := h d List.mem_cons_self
    have h2 := depthA_le (B := B) (ds := ds) fun x hx => h x (List.mem_cons_of_mem _ hx)
    simp only [PyData.depthAll]
    omega
theorem niceA_of : ∀ {ds : List PyData}, (∀ d ∈ ds, nice d = true) → niceA ds = true
  | [], _ => rfl
  | d :: ds, h => by
    simp only [niceA, Bool.and_eq_true]
    exact ⟨h d List.mem_cons_self, niceA_of fun x hx => h x (List.mem_cons_of_mem _ hx)⟩
/-- small pieces: B the weight, D the depth -/
structure Sm (D B : Nat) (d : PyData) : Prop where
  nice : nice d = true
  dep : d.depth ≤ D
  wt : d.weight ≤ B
theorem Sm.mono {D B D' B' : Nat} {d : PyData} (h : Sm D B d) (h1 : D ≤ D') (h2 : B ≤ B') : Sm D' B' d := ⟨h.nice, Nat.le_trans h.dep h1, Nat.le_trans h.wt h2⟩
theorem Sm.fine {D B : Nat} {d : PyData} (h : Sm D B d) (h1 : D ≤ 20) (h2 : B ≤ 200000) : Fine d := ⟨h.nice, Nat.le_trans h.dep h1, Nat.le_trans h.wt h2⟩
theorem Sm.list {D B n : Nat} {ds : List PyData} (h : ∀ d ∈ ds, Sm D B d) (hn : ds.length ≤ n) : Sm (D + 1) (n * (B + 1)) (.list ds) :=
  ⟨niceA_of fun d hd => (h d hd).nice, by
    have := depthA_le fun d hd => (h d hd).dep
    simp only [PyData.depth]
    omega, by
    have h1 := weightA_le fun d hd => (h d hd).wt
    have h2 : ds.length * (B + 1) ≤ n * (B + 1) := Nat.mul_le_mul_right _ hn
    simp only [PyData.weight]
    omega⟩
theorem Sm.tuple {D B n : Nat} {ds : List PyData} (h : ∀ d ∈ ds, Sm D B d) (hn : ds.length ≤ n) : Sm (D + 1) (n * (B + 1)) (.tuple ds) :=
  ⟨niceA_of fun d hd => (h d hd).nice, by
    have := depthA_le fun d hd => (h d hd).dep
    simp only [PyData.depth]
    omega, by
    have h1 := weightA_le fun d hd => (h d hd).wt
    have h2 : ds.length * (B + 1) ≤ n * (B + 1) := Nat.mul_le_mul_right _ hn
    simp only [PyData.weight]
    omega⟩
theorem Sm.str {a : List Nat} {n : Nat} (h : ∀ c ∈ a, c < 1114112) (hn : a.length ≤ n) : Sm 0 n (.str (S a)) :=
  ⟨by
    show (S a).cps.toList.all _ = true
    rw [S_toList, List.all_eq_true]
    exact fun c hc => decide_eq_true (h c hc), Nat.le_refl _, by
    show (S a).cps.size ≤ n
    rw [S_size]; exact hn⟩
theorem Sm.none : Sm 0 0 .none := ⟨rfl, Nat.le_refl _, Nat.le_refl _⟩
theorem Sm.bool {b : Bool} : Sm 0 0 (.bool b) := ⟨rfl, Nat.le_refl _, Nat.le_refl _⟩
theorem Sm.int {i : Int} (h : i.natAbs < 10 ^ 30) : Sm 0 100 (.int i) :=
  ⟨decide_eq_true h, Nat.le_refl _, by
    show (if i == 0 then 0 else i.natAbs.log2 + 1) ≤ 100
    split
    · omega
    · rename_i h0
      have h0' : i.natAbs ≠ 0 := by
        intro z
        apply h0
        rw [beq_iff_eq]
        omega
      have : i.natAbs < 2 ^ 100 := Nat.lt_trans h (by decide +kernel)
      have := (Nat.log2_lt h0').mpr this
      omega⟩
theorem sg_sm {a : List Nat} (h : ∀ c ∈ a, c < 1114112) : ∀ d ∈ sg a, Sm 0 1 d := fun d hd => by
  obtain ⟨c, hc, rfl⟩ := List.mem_map.mp hd
  exact Sm.str (fun x hx => by rw [List.mem_singleton.mp hx]; exact h c hc) (Nat.le_refl _)
@[simp] theorem sg_len {a : List Nat} : (sg a).length = a.length := by simp [sg]
@[simp] theorem shaped_sg {a : List Nat} (h : ∀ c ∈ a, c < 1114112) : SeqAt.shaped (.str (S a)) = true := by
  unfold SeqAt.shaped
  rw [nice_lay (.str (S a)) (Sm.str h (Nat.le_refl _)).nice]
  rfl
@[simp] theorem shaped_i {i : Int} : SeqAt.shaped (.int i) = true := by
  unfold SeqAt.shaped
  rfl
@[simp] theorem shaped_b {b : Bool} : SeqAt.shaped (.bool b) = true := by
  unfold SeqAt.shaped
  rfl
@[simp] theorem shaped_n : SeqAt.shaped .none = true := rfl
@[simp] theorem shaped_nil : SeqAt.shaped (.list []) = true := rfl
theorem shaped_of {d : PyData} (h : nice d = true) (h2 : d.depth ≤ 64) : SeqAt.shaped d = true := by
  unfold SeqAt.shaped
  rw [nice_lay d h, Bool.true_and]
  exact decide_eq_true h2
theorem shaped_sgl {a : List Nat} (h : ∀ c ∈ a, c < 1114112) : SeqAt.shaped (.list (sg a)) = true := by
  have q := Sm.list (n := a.length) (sg_sm h) (by rw [sg_len]; exact Nat.le_refl _)
  exact shaped_of q.nice (by have := q.dep; omega)
theorem eqv_nil {ds : List PyData} : PyData.eqv (.list ds) (.list []) = ds.isEmpty := by
  cases ds <;> rfl
@[simp] theorem atI_e {α : Type} {xs : List α} {i : Int} (h0 : 0 ≤ i) : atI xs i = xs[i.toNat]? := by
  unfold atI ixN
  rw [if_pos h0]
  by_cases h : i < xs.length
  · rw [if_pos h]; rfl
  · rw [if_neg h, List.getElem?_eq_none (by omega)]
    rfl
theorem atI_mem {α : Type} {xs : List α} {i : Int} (h0 : 0 ≤ i) (h1 : i < xs.length) : ∃ x, atI xs i = some x ∧ x ∈ xs := by
  rw [atI_e h0]
  have : i.toNat < xs.length := by omega
  exact ⟨xs[i.toNat], List.getElem?_eq_getElem this, List.getElem_mem this⟩
/-- the signs that are not among a -/
theorem bad_signs {a l : List Nat} {gt : GF} {tt : TF} {te : EF} {ρ : Rho} {M : List MO} (hc : ∀ c ∈ l, c < 1114112) (h : ∀ c ∈ l, ∃ ρ1, gt (.d (.str (S [c]))) ρ M = some (ρ1, M) ∧ tt ρ1 M = .ok (!inS a c) M ∧ te ρ1 M = .ok (.d (.str (S [c]))) M) :
    ∃ F, compL gt tt te ρ (sg l) M = some (sg F, M) ∧ SeqAt.shaped (.list (sg F)) = true ∧ (sg F).isEmpty = l.all (inS a) := by
  refine ⟨l.filter fun c => !inS a c, ?_, shaped_sgl fun c hc' => hc c (List.mem_filter.mp hc').1, ?_⟩
  · unfold sg
    exact compL_on _ _ _ fun c hc' => let ⟨ρ1, e1, e2, e3⟩ := h c hc'; ⟨ρ1, e1, e2, fun _ => e3⟩
  · rw [Bool.eq_iff_iff, List.isEmpty_iff, List.all_eq_true]
    unfold sg
    rw [List.map_eq_nil_iff, List.filter_eq_nil_iff]
    simp
theorem Fine.txt {l : List Nat} (h : Fine (.str (S l))) : l.length ≤ 200000 ∧ ∀ c ∈ l, c < 1114112 := by
  refine ⟨?_, ?_⟩
  · have := h.wt
    have e : PyData.weight (.str (S l)) = l.length := by show (S l).cps.size = _; rw [S_size]
    omega
  · have h := h.nice
    replace h : (S l).cps.toList.all (fun c => decide (c < 1114112)) = true := h
    rw [S_toList, List.all_eq_true] at h
    exact fun c hc => of_decide_eq_true (h c hc)
theorem pInt_str {a : List Nat} {i : Int} (h : intText? (S a) = some i) (hl : a.length ≤ 640) : pInt [.str (S a)] = some (.int i) := by
  show (if (S a).length ≤ 640 then (match intText? (S a) with | some n => some (PyData.int n) | none => none) else none) = _
  rw [S_len, if_pos hl, h]
theorem szT {n : Nat} (h : n ≤ 16777216) : (n ≤ sizeLine) = True := eq_true (by rw [sizeLine_eq]; omega)
theorem slT {n : Nat} (h : n < 16777216) : (n < sizeLine) = True := eq_true (by rw [sizeLine_eq]; omega)
/-- signs and length -/
structure OkS (n : Nat) (a : List Nat) : Prop where
  lt : ∀ c ∈ a, c < 1114112
  len : a.length ≤ n
theorem OkS.nil {n : Nat} : OkS n [] := ⟨(fun _ h => nomatch h), Nat.zero_le _⟩
theorem OkS.cons {n c : Nat} {a : List Nat} (h : c < 1114112) (k : OkS n a) : OkS (n + 1) (c :: a) := ⟨fun x hx => by
  rcases List.mem_cons.mp hx with rfl | hx
  · exact h
  · exact k.lt x hx, Nat.succ_le_succ k.len⟩
theorem OkS.app {n m : Nat} {a b : List Nat} (h : OkS n a) (k : OkS m b) : OkS (n + m) (a ++ b) := ⟨fun x hx => by
  rcases List.mem_append.mp hx with hx | hx
  · exact h.lt x hx
  · exact k.lt x hx, by rw [List.length_append]; have := h.len; have := k.len; omega⟩
theorem OkS.cut {n : Nat} {a : List Nat} {lo hi : Option Int} (h : OkS n a) : OkS n (cutL a lo hi) := ⟨fun x hx => h.lt x (List.mem_of_mem_drop (List.mem_of_mem_take hx)), by
  have := h.len
  unfold cutL
  rw [List.length_take, List.length_drop]
  omega⟩
theorem OkS.mono {n m : Nat} {a : List Nat} (h : OkS n a) (k : n ≤ m) : OkS m a := ⟨h.lt, Nat.le_trans h.len k⟩
theorem OkS.rep {n m : Nat} {a : List Nat} (h : OkS n a) : OkS (m * n) (List.replicate m a).flatten := ⟨fun x hx => by
  rw [List.mem_flatten] at hx
  obtain ⟨l, hl, hx⟩ := hx
  rw [(List.mem_replicate.mp hl).2] at hx
  exact h.lt x hx, by
  rw [List.length_flatten, List.map_replicate, List.sum_replicate_nat]
  exact Nat.mul_le_mul_left _ h.len⟩
theorem OkS.sm {n : Nat} {a : List Nat} (h : OkS n a) : Sm 0 n (.str (S a)) := Sm.str h.lt h.len
@[simp] theorem cut_len {α : Type} {xs : List α} {lo hi : Option Int} : (cutL xs lo hi).length ≤ xs.length := by
  unfold cutL
  rw [List.length_take, List.length_drop]
  omega
theorem sz {n : Nat} (h : n ≤ 16777216) : n ≤ sizeLine := by rw [sizeLine_eq]; omega
theorem niceA_mem : ∀ {ds : List PyData}, niceA ds = true → ∀ d ∈ ds, nice d = true
  | [], _, _, h => by cases h
  | x :: ds, h, d, hd => by
    simp only [niceA, Bool.and_eq_true] at h
    rcases List.mem_cons.mp hd with rfl | hd
    · exact h.1
    · exact niceA_mem h.2 d hd
theorem depthA_mem : ∀ {ds : List PyData}, ∀ d ∈ ds, d.depth ≤ PyData.depthAll ds
  | [], _, h => by cases h
  | x :: ds, d, hd => by
    simp only [PyData.depthAll]
    rcases List.mem_cons.mp hd with rfl | hd
    · omega
    · have := depthA_mem d hd; omega
theorem weightA_len : ∀ {ds : List PyData}, ds.length ≤ PyData.weightAll ds
  | [] => Nat.zero_le _
  | x :: ds => by
    have := weightA_len (ds := ds)
    simp only [PyData.weightAll, List.length_cons]
    omega
theorem Fine.tl {ds : List PyData} (h : Fine (.tuple ds)) : ds.length ≤ 200000 := by
  have := h.wt
  have := weightA_len (ds := ds)
  simp only [PyData.weight] at *
  omega
theorem Fine.tf {ds : List PyData} (h : Fine (.tuple ds)) (f : PyData → Bool) : SeqAt.shaped (.list (ds.filter f)) = true := by
  have h1 : niceA ds = true := h.nice
  have h2 := h.dep
  simp only [PyData.depth] at h2
  refine shaped_of (show niceA (ds.filter f) = true from niceA_of fun d hd => niceA_mem h1 d (List.mem_filter.mp hd).1) ?_
  have := depthA_le (B := 20) (ds := ds.filter f) fun d hd => by have := depthA_mem d (List.mem_filter.mp hd).1; omega
  simp only [PyData.depth]
  omega
theorem Fine.mem {ds : List PyData} (h : Fine (.tuple ds)) {d : PyData} (hd : d ∈ ds) : Fine d := by
  have h1 : niceA ds = true := h.nice
  have h2 := h.dep
  have h3 := h.wt
  simp only [PyData.depth, PyData.weight] at h2 h3
  have hw : ∀ {ds : List PyData}, d ∈ ds → d.weight ≤ PyData.weightAll ds := by
    intro ds
    induction ds with
    | nil => intro h; cases h
    | cons x r ih =>
      intro h
      simp only [PyData.weightAll]
      rcases List.mem_cons.mp h with rfl | h
      · omega
      · have := ih h; omega
  exact ⟨niceA_mem h1 d hd, by have := depthA_mem d hd; omega, by have := hw hd; omega⟩
end Y
namespace Y
open PySem PySem.Spec PyProof.Rows L2
section
variable {mf : MF} {n i : Nat} {M M' J : List MO} {w : W} {x : PyData} {ws : List W} {ρ ρ' : Rho} {fs : List EF} {f : EF} {e : Ex} {xs : List Str} {q : XK} {fb fh : SF} {ds es : List PyData} {kvs : List (Str × PyData)}
@[simp] theorem sRaise_e {c : Str} : sRaise c ρ M = .er ⟨c, none⟩ ρ M := rfl
def SR.tr (r : SR) (xs : List Str) (i : Nat) (fh : SF) : SR := match r with
  | .er e ρ1 M1 => if e.c ∈ xs then match fh (ρ1.set i (some (.exc e))) M1 with
      | .nx ρ2 M2 => .nx (ρ2.set i none) M2
      | .bk ρ2 M2 => .bk (ρ2.set i none) M2
      | .ct ρ2 M2 => .ct (ρ2.set i none) M2
      | .ret w M2 => .ret w M2
      | _ => .stuck
    else .stuck
  | r => r
@[simp] theorem sTry_e : sTry xs i fb fh ρ M = (fb ρ M).tr xs i fh := by
  unfold sTry SR.tr
  cases fb ρ M <;> rfl
@[simp] theorem tr_nx : (SR.nx ρ M).tr xs i fh = .nx ρ M := rfl
@[simp] theorem tr_ret : (SR.ret w M).tr xs i fh = .ret w M := rfl
theorem tr_er {j : Nat} (h : e.c ∈ xs) (hi : ρ.length > i) (hij : i ≠ j) : (SR.er e ρ M).tr xs i (sSet j (sV i)) = .nx (((ρ.set i (some (.exc e))).set j (some (.exc e))).set i none) M := by
  unfold SR.tr
  simp only [if_pos h, sSet_e, sV_e, List.getElem?_set_self hi, optW_s, th_ok]
def asX (xs : List Str) (q : XK) : W → List MO → Res W
  | .exc e, M => if e.c ∈ xs then .ok (.d (.bool (q.of e))) M else .stuck
  | .d _, M => .ok (.d (.bool false)) M
  | _, _ => .stuck
@[simp] theorem sIsX_e : sIsX xs q f ρ M = (f ρ M).bind (asX xs q) := by
  unfold sIsX
  congr 1
  funext w M
  cases w <;> rfl
@[simp] theorem asX_d : asX xs q (.d x) M = .ok (.d (.bool false)) M := rfl
theorem asX_x {c : Str} {l : Option Int} (h : c ∈ xs) : asX xs q (.exc ⟨c, l⟩) M = .ok (.d (.bool (q.of ⟨c, l⟩))) M := if_pos h
@[simp] theorem sPr_nx {k : Bool} : sPr (pIsNX k) fs ρ M = (evs fs ρ M).bind fun ws M1 => ans (pIsNX k ws M1) := sPr_e
@[simp] theorem pIsNX_x {k : Bool} : pIsNX k [.exc e] M = some (.d (.bool (!k)), M) := rfl
@[simp] theorem pIsNX_n {k : Bool} : pIsNX k [.d .none] M = some (.d (.bool (true == k)), M) := rfl
@[simp] theorem itZL_e : itZL fs ρ M = (evs fs ρ M).bind asZL := Eq.trans rfl rfl
@[simp] theorem asZL_l : asZL [.d (.list ds), .d (.list es)] M = .ok (prs ds es) M := rfl
@[simp] theorem asZL_t : asZL [.d (.tuple ds), .d (.tuple es)] M = .ok (prs ds es) M := rfl
@[simp] theorem itEL_e : itEL fs ρ M = (evs fs ρ M).bind asEL := Eq.trans rfl rfl
@[simp] theorem asEL_l : asEL [.d (.list ds)] M = .ok (enu ds) M := rfl
@[simp] theorem asEL_t : asEL [.d (.tuple ds)] M = .ok (enu ds) M := rfl
@[simp] theorem itES_e : itES fs ρ M = (evs fs ρ M).bind asES := Eq.trans rfl rfl
@[simp] theorem asES_s {a : List Nat} : asES [.d (.str (S a))] M = .ok (enu (sg a)) M := by show Res.ok (enu (chs (S a))) M = _; rw [chs_S]
@[simp] theorem prs_nil : prs [] es = [] := rfl
@[simp] theorem prs_cons {a b : PyData} : prs (a :: ds) (b :: es) = .tuple [a, b] :: prs ds es := rfl
/-- a call that raises, data alone -/
theorem callF_dr (h : mf ws [] = .err e J) (hl : ws.length = n := by rfl) (hd : ws.all W.dat = true := by rfl) : callF mf n ws M = .err e M := by
  obtain ⟨h1, h2, h3⟩ := dat_all hd
  unfold callF
  rw [h2, h3, if_pos ⟨hl, h1, List.nodup_nil⟩]
  show freeze M [] (mf ws []) = _
  rw [h]
  unfold freeze
  simp only [List.length_nil, List.take_zero, dataOnly, if_true]
  rfl
/-! lists -/
theorem pCountL_e {d : PyData} (h1 : SeqAt.shaped (.list ds) = true) (h2 : SeqAt.shaped d = true) : pCountL [.list ds, d] = some (.int ((ds.countP fun z => PyData.eqv z d : Nat) : Int)) := if_pos ⟨h1, h2⟩
theorem pIndexL_e {d : PyData} (h1 : SeqAt.shaped (.list ds) = true) (h2 : SeqAt.shaped d = true) : pIndexL [.list ds, d] = (findJ ds d).map fun j => .int (j : Nat) := if_pos ⟨h1, h2⟩
@[simp] theorem tyW_dl : tyW .list M (.d (.list ds)) = true := rfl
/-! the module's dicts -/
@[simp] theorem sKIn_e {b : Bool} : sKIn kvs b f ρ M = (f ρ M).bind (asKIn kvs b) := Eq.trans rfl rfl
@[simp] theorem asKIn_e {b : Bool} {z : Str} : asKIn kvs b (.d (.str z)) M = .ok (.d (.bool ((kvs.lookup z).isSome == b))) M := rfl
def flatO : Option PyData → Option PyData
  | some d => if flatD d = true then some d else none
  | none => none
@[simp] theorem flatO_i {i : Int} : flatO (some (.int i)) = some (.int i) := rfl
@[simp] theorem flatO_s {x : Str} : flatO (some (.str x)) = some (.str x) := rfl
@[simp] theorem asKGet_e {z : Str} : asKGet kvs (.d (.str z)) M = asD (flatO (kvs.lookup z)) M := by
  show (match kvs.lookup z with | some d => if flatD d = true then Res.ok (W.d d) M else .stuck | none => .stuck) = _
  cases kvs.lookup z with
  | none => rfl
  | some d =>
    unfold flatO
    by_cases h : flatD d = true
    · simp only [h, if_true, asD_s]
    · simp only [h, if_false, asD_n, Bool.false_eq_true]
@[simp] theorem sKGet_e : sKGet kvs f ρ M = (f ρ M).bind (asKGet kvs) := Eq.trans rfl rfl
end
/-! comprehensions as a whole -/
section
variable {it : IF} {gt : GF} {tt : TF} {te : EF} {vs : List Nat} {ρ : Rho} {M : List MO}
theorem lc_on {α : Type} (h : α → PyData) (t : α → Bool) (f : α → PyData) {l : List α} (hi : it ρ M = .ok (l.map h) M) (hl : l.length ≤ 16777216)
    (k : ∀ a ∈ l, ∃ ρ1, gt (.d (h a)) (wip ρ vs) M = some (ρ1, M) ∧ tt ρ1 M = .ok (t a) M ∧ (t a = true → te ρ1 M = .ok (.d (f a)) M)) : sLc it gt tt te vs ρ M = .ok (.d (.list ((l.filter t).map f))) M := by
  have h1 : (l.map h).length ≤ sizeLine := by rw [List.length_map]; exact sz hl
  rw [sLc_e, hi, bind_ok, if_pos h1, compL_on h t f k]
  rfl
theorem lc_all {α : Type} (h : α → PyData) (f : α → PyData) {l : List α} (hi : it ρ M = .ok (l.map h) M) (hl : l.length ≤ 16777216)
    (k : ∀ a ∈ l, ∃ ρ1, gt (.d (h a)) (wip ρ vs) M = some (ρ1, M) ∧ tt ρ1 M = .ok true M ∧ te ρ1 M = .ok (.d (f a)) M) : sLc it gt tt te vs ρ M = .ok (.d (.list (l.map f))) M := by
  have h1 : (l.map h).length ≤ sizeLine := by rw [List.length_map]; exact sz hl
  rw [sLc_e, hi, bind_ok, if_pos h1, compL_all h f k]
  rfl
end
/-- the loop over the script's cells -/
theorem cells {ns : List Int} {f1 : SF} {lo hi : Int} (h0 : 0 ≤ lo ∧ lo ≤ 1000) (h1 : 0 ≤ hi ∧ hi ≤ 1000) (I : Rho → List MO → Prop) {ρ0 : Rho} (hs : ρ0[0]? = some (some (.scr ns))) (hI : I ρ0 [])
    (step : ∀ (k : Int) (ρ : Rho) (N : List MO), 0 ≤ k → I ρ N → ∃ ρ2 M2, f1 (ρ.set 1 (some (.d (.int k)))) N = .nx ρ2 M2 ∧ I ρ2 M2) :
    ∃ ρ' M', sFor (itR1 [(sPr (dpr pMax) [(sC (.int lo)), (sPr (dpr pMin) [(sPr pLenS [(sV 0)]), (sC (.int hi))])])]) (gN 1) f1 ρ0 [] = .nx ρ' M' ∧ I ρ' M' := by
  obtain ⟨m, hm, m0, m1⟩ : ∃ m : Int, m = (if (if hi < (ns.length : Int) then hi else (ns.length : Int)) > lo then (if hi < (ns.length : Int) then hi else (ns.length : Int)) else lo) ∧ 0 ≤ m ∧ m ≤ 1000 := by
    refine ⟨_, rfl, ?_, ?_⟩ <;> split <;> split <;> omega
  obtain ⟨ρ', M', e, h⟩ := forL_inv (gt := gN 1) (body := f1) I (fun d => ∃ k : Int, d = .int k ∧ 0 ≤ k)
    (fun d ρ N ⟨k, hd, k0⟩ hi => by
      subst hd
      exact ⟨_, _, rfl, step k ρ N k0 hi⟩)
    (ds := rng 0 m.toNat) (ρ := ρ0) (M := []) (fun d hd => by obtain ⟨i, rfl, a, b⟩ := mem_rng hd; exact ⟨i, rfl, a⟩) hI
  have q2 : (itR1 [(sPr (dpr pMax) [(sC (.int lo)), (sPr (dpr pMin) [(sPr pLenS [(sV 0)]), (sC (.int hi))])])]) ρ0 [] = .ok (rng 0 m.toNat) [] := by
    simp only [itR1_e, sPr_d, sPr_lenS, evs_cons, evs_nil, sC_e, sV_e, bind_ok, hs, optW_s, pLenS, ans_some, vws_cons, vws_nil, vw_d, Option.bind_some, Option.map_some, rd_s, pMin_i, asD_s, pMax_i]
    rw [← hm, asR1_c ⟨by omega, by omega⟩]
  refine ⟨ρ', M', ?_, h⟩
  rw [sFor_e, q2, fo_ok, e]
theorem Fine.lmem {ds : List PyData} (h : Fine (.list ds)) {d : PyData} (hd : d ∈ ds) : Fine d := Fine.mem (ds := ds) ⟨h.nice, h.dep, h.wt⟩ hd
theorem Fine.llen {ds : List PyData} (h : Fine (.list ds)) : ds.length ≤ 200000 := Fine.tl (ds := ds) ⟨h.nice, h.dep, h.wt⟩
theorem shaped_sts {ls : List (List Nat)} (h : ∀ l ∈ ls, ∀ c ∈ l, c < 1114112) : SeqAt.shaped (.list (sts ls)) = true := by
  refine shaped_of (show niceA _ = true from niceA_of fun d hd => ?_) ?_
  · obtain ⟨l, hl, rfl⟩ := List.mem_map.mp hd
    exact (Sm.str (h l hl) (Nat.le_refl _)).nice
  · have := depthA_le (B := 0) (ds := sts ls) fun d hd => by
      obtain ⟨l, hl, rfl⟩ := List.mem_map.mp hd
      exact Nat.le_refl _
    simp only [PyData.depth]
    omega
theorem eqvA_sts : ∀ {a b : List (List Nat)}, PyData.eqvAll (sts a) (sts b) = decide (a = b)
  | [], [] => rfl
  | [], y :: b => rfl
  | x :: a, [] => rfl
  | x :: a, y :: b => by
    show (PyData.eqv (.str (S x)) (.str (S y)) && PyData.eqvAll (sts a) (sts b)) = _
    rw [eqv_s, eqvA_sts, ← Bool.decide_and]
    exact decide_eq_decide.mpr (by rw [List.cons.injEq])
theorem eqv_sts {a b : List (List Nat)} : PyData.eqv (.list (sts a)) (.list (sts b)) = decide (a = b) := eqvA_sts
theorem eqv_stsT {a b : List (List Nat)} : PyData.eqv (.tuple (sts a)) (.tuple (sts b)) = decide (a = b) := eqvA_sts
theorem cut_from {α : Type} {xs : List α} {k : Nat} : cutL xs (some (k : Int)) none = xs.drop k := by
  unfold cutL HT.sIx
  have h0 : ¬ ((k : Int) < 0) := by omega
  simp only [h0, if_false, Int.toNat_natCast]
  by_cases h : k ≤ xs.length
  · rw [Nat.min_eq_left h, List.take_of_length_le (by rw [List.length_drop]; omega)]
  · rw [Nat.min_eq_right (by omega), List.drop_of_length_le (Nat.le_refl _), List.drop_of_length_le (by omega), List.take_nil]
theorem cut_to {α : Type} {xs : List α} {k : Nat} : cutL xs none (some (k : Int)) = xs.take k := by
  unfold cutL HT.sIx
  have h0 : ¬ ((k : Int) < 0) := by omega
  simp only [h0, if_false, Int.toNat_natCast, List.drop_zero, Nat.sub_zero]
  by_cases h : k ≤ xs.length
  · rw [Nat.min_eq_left h]
  · rw [Nat.min_eq_right (by omega), List.take_of_length_le (Nat.le_refl _), List.take_of_length_le (by omega)]
theorem drop1 {α : Type} {xs : List α} : cutL xs (some 1) none = xs.drop 1 := cut_from (k := 1)
theorem take1 {α : Type} {xs : List α} : cutL xs none (some 1) = xs.take 1 := cut_to (k := 1)
theorem take2 {α : Type} {xs : List α} : cutL xs none (some 2) = xs.take 2 := cut_to (k := 2)
theorem any_sts {x : List Nat} {ls : List (List Nat)} : (sts ls).any (fun z => PyData.eqv z (.str (S x))) = decide (x ∈ ls) := by
  rw [Bool.eq_iff_iff, List.any_eq_true, decide_eq_true_iff]
  constructor
  · rintro ⟨z, hz, e⟩
    obtain ⟨l, hl, rfl⟩ := List.mem_map.mp hz
    rw [eqv_s, decide_eq_true_iff] at e
    exact e ▸ hl
  · intro h
    exact ⟨.str (S x), List.mem_map.mpr ⟨x, h, rfl⟩, by rw [eqv_s]; exact decide_eq_true rfl⟩
theorem in_sts {x : List Nat} {ls : List (List Nat)} (hx : ∀ c ∈ x, c < 1114112) (h : ∀ l ∈ ls, ∀ c ∈ l, c < 1114112) : inB (.str (S x)) (.list (sts ls)) = some (decide (x ∈ ls)) := by
  show (if SeqAt.shaped (.str (S x)) = true ∧ SeqAt.shaped (.list (sts ls)) = true then some ((sts ls).any fun z => PyData.eqv z (.str (S x))) else none) = _
  rw [if_pos ⟨shaped_sg hx, shaped_sts h⟩, any_sts]
end Y
namespace Y
open PySem PySem.Spec PyProof.Rows L2
section
variable {M M' : List MO} {w : W} {x y : PyData} {ws : List W} {ρ ρ' : Rho} {fs : List EF} {f h j : EF} {ds es : List PyData} {kvs : List (L2.Key × PyData)} {ks : List L2.Key} {c : TF} {body : SF} {n : Nat} {i k : Int}
@[simp] theorem sPr_al : sPr pAddLive fs ρ M = (evs fs ρ M).bind fun ws M1 => ans (pAddLive ws M1) := sPr_e
@[simp] theorem pAddLive_e : pAddLive [.d (.list ds), .d (.list es)] M = if ds.length + es.length ≤ sizeLine then some (.loc M.length, M ++ [.lst (ds ++ es)]) else none := rfl
theorem pAddLive_l {n : Nat} (hn : M[n]? = some (.lst ds)) : pAddLive [.loc n, .d (.list es)] M = if ds.length + es.length ≤ sizeLine then some (.loc M.length, M ++ [.lst (ds ++ es)]) else none := by
  have : vws M [.loc n, .d (.list es)] = some [.list ds, .list es] := by simp [hn]
  unfold pAddLive
  rw [this]
@[simp] theorem pAugAdd_i : pAugAdd [.int i, .int k] = some (.int (i + k)) := rfl
@[simp] theorem sDisp_e : sDisp ks fs ρ M = (evs fs ρ M).bind (asDisp ks) := Eq.trans rfl rfl
@[simp] theorem sKd_e : sKd f h ρ M = (f ρ M).bind fun w M1 => (h ρ M1).bind fun u M2 => asKd1 w u M2 := Eq.trans rfl rfl
theorem sKd2_e {w : W} {M1 : List MO} (e : f ρ M = .ok (.kd kvs) M1) : sKd2 f h j ρ M = (h ρ M1).bind fun u M2 => (j ρ M2).bind fun z M3 => asKd2 (.kd kvs) u z M3 := by
  unfold sKd2
  rw [e]
  exact Eq.trans rfl rfl
theorem asDisp_e {xs : List PyData} (h1 : allD ws = some xs) (h2 : ks.length = xs.length) (h3 : ks.length ≤ 15) (h4 : ks.Nodup) : asDisp ks ws M = .ok (.kd (ks.zip xs)) M := by
  unfold asDisp
  rw [h1]
  simp only [h2, true_and]
  rw [if_pos ⟨by omega, h4⟩]
theorem asKd1_e {k : L2.Key} (h1 : keyD x = some k) (h2 : kdGet kvs k = some y) : asKd1 (.kd kvs) (.d x) M = .ok (.d y) M := by
  show (match keyD x with | some k => (match kdGet kvs k with | some d => Res.ok (W.d d) M | none => .stuck) | none => .stuck) = _
  rw [h1]
  simp only [h2]
theorem asKd2_e {k : L2.Key} (h1 : keyD x = some k) : asKd2 (.kd kvs) (.d x) (.d y) M = .ok (.d ((kdGet kvs k).getD y)) M := by
  show (match keyD x with | some k => Res.ok (W.d ((kdGet kvs k).getD y)) M | none => .stuck) = _
  rw [h1]
@[simp] theorem sRg1_e {l : Bool} : sRg1 l f ρ M = (f ρ M).bind (asRg1 l) := Eq.trans rfl rfl
theorem asRg1_e {l : Bool} {j : Int} (h : 0 ≤ j ∧ j ≤ 16777216) : asRg1 l (.d (.int j)) M = .ok (.d (lt l (rng 0 j.toNat))) M := if_pos h
@[simp] theorem sRg2_e {l : Bool} : sRg2 l f h ρ M = (f ρ M).bind fun w M1 => (h ρ M1).bind fun u M2 => asRg2 l w u M2 := Eq.trans rfl rfl
theorem asRg2_e {l : Bool} {i j : Int} (h : 0 ≤ i ∧ i ≤ 16777216 ∧ 0 ≤ j ∧ j ≤ 16777216) : asRg2 l (.d (.int i)) (.d (.int j)) M = .ok (.d (lt l (rng i (j - i).toNat))) M := if_pos h
@[simp] theorem lt_f : lt false ds = .tuple ds := rfl
@[simp] theorem lt_t : lt true ds = .list ds := rfl
/-! while -/
theorem sWhile_f (e : c ρ M = .ok false M') : sWhile c body (n + 1) ρ M = .nx ρ M' := by
  unfold sWhile
  rw [e]
theorem sWhile_t {M1 M2 : List MO} (e : c ρ M = .ok true M1) (b : body ρ M1 = .nx ρ' M2) : sWhile c body (n + 1) ρ M = sWhile c body n ρ' M2 := by
  conv => lhs; unfold sWhile
  rw [e]
  simp only [b]
theorem sWhile_r {M1 M2 : List MO} (e : c ρ M = .ok true M1) (b : body ρ M1 = .ret w M2) : sWhile c body (n + 1) ρ M = .ret w M2 := by
  conv => lhs; unfold sWhile
  rw [e]
  simp only [b]
/-- by a word and a measure -/
theorem sWhile_inv (I : Rho → List MO → Prop) (μ : Rho → List MO → Nat) (N : Rho → List MO → Prop) (R : W → List MO → Prop)
    (step : ∀ ρ M, I ρ M → (∃ M', c ρ M = .ok false M' ∧ N ρ M') ∨ ∃ M1, c ρ M = .ok true M1 ∧ ((∃ ρ2 M2, body ρ M1 = .nx ρ2 M2 ∧ I ρ2 M2 ∧ μ ρ2 M2 < μ ρ M) ∨ ∃ w M2, body ρ M1 = .ret w M2 ∧ R w M2)) :
    ∀ {n : Nat} {ρ : Rho} {M : List MO}, μ ρ M < n → I ρ M → (∃ ρ' M', sWhile c body n ρ M = .nx ρ' M' ∧ N ρ' M') ∨ ∃ w M', sWhile c body n ρ M = .ret w M' ∧ R w M'
  | 0, _, _, h, _ => absurd h (Nat.not_lt_zero _)
  | n + 1, ρ, M, h, hi => by
    rcases step ρ M hi with ⟨M', e, hn⟩ | ⟨M1, e, ⟨ρ2, M2, b, hi2, hm⟩ | ⟨w, M2, b, hr⟩⟩
    · exact .inl ⟨ρ, M', sWhile_f e, hn⟩
    · rcases sWhile_inv I μ N R step (n := n) (ρ := ρ2) (M := M2) (by omega) hi2 with ⟨ρ', M', e2, h2⟩ | ⟨w, M', e2, h2⟩
      · exact .inl ⟨ρ', M', by rw [sWhile_t e b]; exact e2, h2⟩
      · exact .inr ⟨w, M', by rw [sWhile_t e b]; exact e2, h2⟩
    · exact .inr ⟨w, M2, sWhile_r e b, hr⟩
end
end Y
namespace Y
open PySem PySem.Spec PyProof.Rows L2 TL
section
variable {a b : List Nat} {c k : Nat}
theorem strD_sts (ys : List Str) : strD ys = sts (ys.map TL.tl) := by
  unfold strD sts
  rw [List.map_map]
  exact List.map_congr_left fun y _ => (congrArg PyData.str (S_of y) : PyData.str y = PyData.str (S y.cps.toList))
theorem kind1 (h : ∀ x ∈ b, x < 256) {z : Str} : ¬ Builtin.Str.strKind z < Builtin.Str.strKind (S b) := kind_ok (by
  show b.toArray.all _ = true
  rw [← Array.all_toList]
  simpa using h)
theorem pSplit_S (hb : b ≠ []) (h : ∀ x ∈ b, x < 256) (ha : a.length ≤ 100000) : pSplit [.str (S a), .str (S b)] = some (.list (sts (spl b 0 [] a))) := by
  have c1 : ((S b).length == 0) = false := by
    rw [S_len]
    exact beq_eq_false_iff_ne.mpr fun e => hb (List.length_eq_zero_iff.mp e)
  show (if ((S b).length == 0) = false ∧ (S a).length + 2 ≤ sizeLine then some (PyData.list (strD (Txt.split (S a) (S b)))) else none) = _
  rw [if_pos ⟨c1, by rw [S_len, sizeLine_eq]; omega⟩, strD_sts, split_spl (S a) (S b) (by show (S b).cps.toList ≠ []; rw [S_toList]; exact hb) (kind1 h)]
  show some (PyData.list (sts (spl (S b).cps.toList 0 [] (S a).cps.toList))) = _
  rw [S_toList, S_toList]
theorem pPart_S (hb : b ≠ []) (ha : a.length ≤ 100000) : pPart [.str (S a), .str (S b)] = some (.tuple (match par b [] a with | some (x, y) => [.str (S x), .str (S b), .str (S y)] | none => [.str (S a), .str (S []), .str (S [])])) := by
  have c1 : ((S b).length == 0) = false := by
    rw [S_len]
    exact beq_eq_false_iff_ne.mpr fun e => hb (List.length_eq_zero_iff.mp e)
  show (if ((S b).length == 0) = false ∧ (S a).length ≤ sizeLine then some (PyData.tuple (tri (Txt.partition (S a) (S b)))) else none) = _
  rw [if_pos ⟨c1, by rw [S_len, sizeLine_eq]; omega⟩, partition_par (S a) (S b) (by show (S b).cps.toList ≠ []; rw [S_toList]; exact hb)]
  have e1 : tl (S b) = b := S_toList
  have e2 : tl (S a) = a := S_toList
  rw [e1, e2]
  cases par b [] a with
  | none => rfl
  | some p => rfl
theorem pre1 {l : List Nat} : pre [c] l = true ↔ l[0]? = some c := by
  cases l with
  | nil => simp [pre]
  | cons x r => simp [pre]
theorem at1 (i : Nat) : StrLaws.At (S a) (S [c]) (S a).length i ↔ a[i]? = some c := by
  have e1 : tl (S [c]) = [c] := S_toList
  have e2 : tl (S a) = a := S_toList
  rw [at_iff (by rw [e1]; simp), e1, e2, pre1, List.getElem?_drop, Nat.add_zero]
theorem rpart_c {t : Str × Str × Str} (ha : a.length ≤ 100000) (h : Txt.rpartition (S a) (S [c]) = t) : pRPart [.str (S a), .str (S [c])] = some (.tuple (tri t)) := by
  subst h
  exact if_pos ⟨rfl, by rw [S_len, sizeLine_eq]; omega⟩
theorem pRPart_no (ha : a.length ≤ 100000) (h : c ∉ a) : pRPart [.str (S a), .str (S [c])] = some (.tuple [.str (S []), .str (S []), .str (S a)]) := by
  refine rpart_c (t := (S [], S [], S a)) ha ?_
  unfold Txt.rpartition
  rcases StrLaws.last_spec (S a) (S [c]) with ⟨e, _⟩ | ⟨i, _, hi, _⟩
  · rw [e]; rfl
  · exact absurd (List.mem_of_getElem? ((at1 i).mp hi)) h
theorem pRPart_hit {p q : List Nat} (ha : (p ++ c :: q).length ≤ 100000) (h : c ∉ q) : pRPart [.str (S (p ++ c :: q)), .str (S [c])] = some (.tuple [.str (S p), .str (S [c]), .str (S q)]) := by
  refine rpart_c (t := (S p, S [c], S q)) ha ?_
  have hp : (p ++ c :: q)[p.length]? = some c := by simp
  unfold Txt.rpartition
  rcases StrLaws.last_spec (S (p ++ c :: q)) (S [c]) with ⟨_, hn⟩ | ⟨i, e, hi, hk⟩
  · exact absurd ((at1 p.length).mpr hp) (hn p.length)
  · have e1 : i = p.length := by
      rcases Nat.lt_trichotomy i p.length with z | z | z
      · exact absurd ((at1 p.length).mpr hp) (hk _ z)
      · exact z
      · have := (at1 i).mp hi
        rw [List.getElem?_append_right (by omega)] at this
        obtain ⟨j, hj⟩ : ∃ j, i - p.length = j + 1 := ⟨i - p.length - 1, by omega⟩
        rw [hj, List.getElem?_cons_succ] at this
        exact absurd (List.mem_of_getElem? this) h
    subst e1
    rw [e]
    have e2 : tl (S (p ++ c :: q)) = p ++ c :: q := S_toList
    have s1 : Builtin.Str.strSub (S (p ++ c :: q)) 0 p.length = S p := ext_tl (by rw [tl_strSub, e2, List.drop_zero, Nat.sub_zero, List.take_left]; exact S_toList.symm)
    have s2 : Builtin.Str.strSub (S (p ++ c :: q)) (p.length + (S [c]).length) (S (p ++ c :: q)).length = S q := ext_tl (by
      rw [tl_strSub_end, e2, S_len]
      show (p ++ c :: q).drop (p.length + 1) = (S q).cps.toList
      rw [← List.drop_drop, List.drop_left, S_toList]
      rfl)
    show (Builtin.Str.strSub (S (p ++ c :: q)) 0 p.length, S [c], Builtin.Str.strSub (S (p ++ c :: q)) (p.length + (S [c]).length) (S (p ++ c :: q)).length) = _
    rw [s1, s2]
/-! numbers as texts -/
theorem num_S (k : Nat) : (Str.ofString (toString ((k : Nat) : Int))) = S (numL k) := ext_tl (by rw [tl_num]; exact S_toList.symm)
theorem num_short {k : Nat} (h : k < 1000000) : (numL k).length ≤ 6 := numL_len (by decide) h
theorem pStr_n (h : k < 1000000) : pStr [.int (k : Int)] = some (.str (S (numL k))) := by
  have hf : Fine (.int (k : Int)) := (Sm.int (by omega)).fine (by decide) (by decide)
  show (if okShow (.int (k : Int)) = true then some (PyData.str (PyData.shown (.int (k : Int)))) else none) = _
  rw [if_pos hf.show]
  exact congrArg (fun z => some (PyData.str z)) (num_S k)
theorem pFmt_n (h : k < 1000000) : pFmt [.int (k : Int)] = some (.str (S (numL k))) := by
  show (if (k : Int).natAbs.log2 < 1920 then some (PyData.str (Str.ofString (toString (k : Int)))) else none) = _
  have h1 : (k : Int).natAbs.log2 < 1920 := by
    rw [Int.natAbs_natCast]
    by_cases z : k = 0
    · rw [z]; decide
    · exact (Nat.log2_lt z).mpr (Nat.lt_trans h (by decide +kernel))
  rw [if_pos h1, num_S]
theorem pInt_n (h : k < 1000000) : pInt [.str (S (numL k))] = some (.int (k : Int)) := by
  have l := num_short h
  refine pInt_str ?_ (by omega)
  rw [← num_S]
  exact int_num (by omega)
end
section
variable {fs : List EF} {f g : EF} {ρ : Rho} {M : List MO} {a b : List Nat} {i n : Nat} {x : Str} {mf : MF} {tab : List (Str × MF × Nat)} {ds : List PyData} {h : LF}
theorem sFs_2 (hf : f ρ M = .ok (.d (.str (S a))) M) (hg : g ρ M = .ok (.d (.str (S b))) M) (hl : a.length + b.length ≤ 100000) : sFs [f, g] ρ M = .ok (.d (.str (S (a ++ b)))) M := by
  have e0 : Str.empty ++ S a = S a := PySem.Str.empty_append _
  have l1 : (S a).length ≤ sizeLine := by rw [S_len, sizeLine_eq]; omega
  have l2 : (S a ++ S b).length ≤ sizeLine := by rw [S_app, S_len, List.length_append, sizeLine_eq]; omega
  unfold sFs sJs
  rw [hf]
  show (if (Str.empty ++ S a).length ≤ sizeLine then sJs [g] (Str.empty ++ S a) ρ M else .stuck) = _
  rw [e0, if_pos l1]
  unfold sJs
  rw [hg]
  show (if (S a ++ S b).length ≤ sizeLine then sJs [] (S a ++ S b) ρ M else .stuck) = _
  rw [if_pos l2, S_app]
  rfl
theorem sCallV_e (hi : ρ[i]? = some (some (.fn x))) (ht : tab.lookup x = some (mf, n)) : sCallV i tab fs ρ M = sCallF mf n fs ρ M := by
  unfold sCallV
  rw [hi]
  simp only [ht]
@[simp] theorem sFn_e : sFn x ρ M = .ok (.fn x) M := rfl
theorem sRaiseL_e {j : Int} (hf : f ρ M = .ok (.d (.int j)) M) : sRaiseL f ρ M = .er ⟨"NoText", some j⟩ ρ M := by
  unfold sRaiseL
  rw [hf]
theorem lStar_l (hf : f ρ M = .ok (.d (.list ds)) M) : lStar f h ρ M = (h ρ M).bind fun ws M2 => .ok (ds.map .d ++ ws) M2 := by
  unfold lStar
  rw [hf]
  rfl
end
end Y
namespace Y
open PySem PySem.Spec PyProof.Rows L2

/-! ### running objects and dicts -/
section
variable {f g fo fd fk fv : EF} {ρ : Rho} {M M1 : List MO} {w : W} {x y : PyData} {fs : List EF} {c a : Str} {mf : MF} {n m l s : Nat}
def fldW (c a : Str) : W → List MO → Res W := fun w M1 => match w with
  | .loc n => match M1[n]? with
    | some (.obj c' fs) => if c' = c then match fs.lookup a with
      | some w => .ok w M1
      | none => .stuck
      else .stuck
    | _ => .stuck
  | _ => .stuck
@[simp] theorem sFld_e : sFld c a f ρ M = (f ρ M).bind (fldW c a) := Eq.trans rfl rfl
theorem fldW_at {fs : List (Str × W)} (h : M[n]? = some (.obj c fs)) (e : fs.lookup a = some w) : fldW c a (.loc n) M = .ok w M := by
  unfold fldW
  simp only [h, if_true, e]
def methW (c m : Str) (mf : MF) (n : Nat) (fs : List EF) (ρ : Rho) : W → List MO → Res W := fun w M1 => match w with
  | .loc j => if isObj c m M1 j = true then (evs fs ρ M1).bind fun ws M2 => if ws.length + 1 = n then mf (.loc j :: ws) M2 else .stuck else .stuck
  | _ => .stuck
@[simp] theorem sMethW_e {b : Str} : sMethW c b mf n fo fs ρ M = (fo ρ M).bind (methW c b mf n fs ρ) := Eq.trans rfl rfl
def methR (n : Nat) (mf : MF) (j : Nat) (ws : List W) (M2 : List MO) : Res W := if ws.length + 1 = n then mf (.loc j :: ws) M2 else .stuck
theorem methR_e {j : Nat} {ws : List W} : methR n mf j ws M = if ws.length + 1 = n then mf (.loc j :: ws) M else .stuck := rfl
@[simp] theorem methR_1 {j : Nat} {w1 : W} : methR 2 mf j [w1] M = mf [.loc j, w1] M := rfl
@[simp] theorem methR_2 {j : Nat} {w1 w2 : W} : methR 3 mf j [w1, w2] M = mf [.loc j, w1, w2] M := rfl
@[simp] theorem methR_3 {j : Nat} {w1 w2 w3 : W} : methR 4 mf j [w1, w2, w3] M = mf [.loc j, w1, w2, w3] M := rfl
@[simp] theorem methW_l {b : Str} {j : Nat} : methW c b mf n fs ρ (.loc j) M = if isObj c b M j = true then (evs fs ρ M).bind (methR n mf j) else .stuck := Eq.trans rfl rfl
theorem atI_nat {α : Type} {xs : List α} {k : Nat} {x : α} (h : xs[k]? = some x) : atI xs (k : Int) = some x := by
  rw [atI_e (by omega), Int.toNat_natCast, h]
def makeW (c : Str) (mf : MF) (n : Nat) (ws : List W) (M1 : List MO) : Res W := if ws.length + 1 = n then match mf (.loc M1.length :: ws) (M1 ++ [.obj c []]) with
    | .ok (.d .none) M2 => .ok (.loc M1.length) M2
    | .err e M2 => .err e M2
    | _ => .stuck
  else .stuck
@[simp] theorem sMake_e : sMake c mf n fs ρ M = (evs fs ρ M).bind (makeW c mf n) := Eq.trans rfl rfl
def fldS (c a : Str) (fo : EF) (ρ : Rho) (w : W) (M1 : List MO) : SR := match fo ρ M1 with
  | .ok (.loc n) M2 => match M2[n]? with
    | some (.obj c' fs) => if c' = c ∧ fs.length < 1000 then .nx ρ (M2.set n (.obj c (putW a w fs))) else .stuck
    | _ => .stuck
  | _ => .stuck
@[simp] theorem sFldSet_e : sFldSet c a fo fv ρ M = (fv ρ M).th ρ (fldS c a fo) := by
  unfold sFldSet
  rw [sThen_e]
  rfl
def dputS (fd fk : EF) (ρ : Rho) (w : W) (M1 : List MO) : SR := match w, fd ρ M1 with
  | .d d, .ok (.loc n) M2 => match fk ρ M2 with
    | .ok (.d x) M3 => match putO M3 n d x with
      | some o => .nx ρ (M3.set n o)
      | none => .stuck
    | _ => .stuck
  | _, _ => .stuck
@[simp] theorem sDPutS_e : sDPutS fd fk fv ρ M = (fv ρ M).th ρ (dputS fd fk) := by
  unfold sDPutS
  rw [sThen_e]
  rfl
def _root_.Y.Res.tq (r : Res W) (k : W → List MO → SR) : SR := match r with
  | .ok w M => k w M
  | _ => .stuck
@[simp] theorem tq_ok {k : W → List MO → SR} : (Res.ok w M).tq k = k w M := Eq.trans rfl rfl
def dputF (w u v : W) (ρ : Rho) (M3 : List MO) : SR := match w, u, v with
  | .d d, .loc n, .d x => match putO M3 n d x with
    | some o => .nx ρ (M3.set n o)
    | none => .stuck
  | _, _, _ => .stuck
@[simp] theorem dputS_e : dputS fd fk ρ w M = (fd ρ M).tq fun u M2 => (fk ρ M2).tq fun v M3 => dputF w u v ρ M3 := by
  unfold dputS
  cases w with
  | d d =>
    cases fd ρ M with
    | ok u M2 =>
      cases u with
      | loc n =>
        simp only [tq_ok]
        cases fk ρ M2 with
        | ok v M3 => cases v <;> rfl
        | err e M3 => rfl
        | stuck => rfl
      | _ =>
        simp only [tq_ok]
        cases fk ρ M2 with
        | ok v M3 => cases v <;> rfl
        | err e M3 => rfl
        | stuck => rfl
    | err e M2 => rfl
    | stuck => rfl
  | _ =>
    cases fd ρ M with
    | ok u M2 =>
      simp only [tq_ok]
      cases fk ρ M2 with
      | ok v M3 => cases u <;> cases v <;> rfl
      | err e M3 => rfl
      | stuck => rfl
    | err e M2 => rfl
    | stuck => rfl
theorem dputF_at {o : MO} (h : putO M n x y = some o) : dputF (.d x) (.loc n) (.d y) ρ M = .nx ρ (M.set n o) := by
  unfold dputF
  simp only [h]
def fldF (c a : Str) (w u : W) (ρ : Rho) (M2 : List MO) : SR := match u with
  | .loc n => match M2[n]? with
    | some (.obj c' fs) => if c' = c ∧ fs.length < 1000 then .nx ρ (M2.set n (.obj c (putW a w fs))) else .stuck
    | _ => .stuck
  | _ => .stuck
@[simp] theorem fldS_e : fldS c a fo ρ w M = (fo ρ M).tq fun u M2 => fldF c a w u ρ M2 := by
  unfold fldS
  cases fo ρ M with
  | ok u M2 => cases u <;> rfl
  | err e M2 => rfl
  | stuck => rfl
theorem fldF_at {fs : List (Str × W)} (h2 : M[n]? = some (.obj c fs)) (h3 : fs.length < 1000) : fldF c a w (.loc n) ρ M = .nx ρ (M.set n (.obj c (putW a w fs))) := by
  unfold fldF
  simp only [h2, h3, and_self, if_true]
theorem lStar_v {f : EF} {h : LF} {w : W} {ds : List PyData} (hf : f ρ M = .ok w M) (hv : vw M w = some (.list ds)) : lStar f h ρ M = (h ρ M).bind fun ws M2 => .ok (ds.map .d ++ ws) M2 := by
  unfold lStar
  rw [hf]
  show (match vw M w with | some (.list ds) => _ | some (.tuple ds) => _ | _ => _) = _
  rw [hv]
theorem lStar_t' {f : EF} {h : LF} {ds : List PyData} (hf : f ρ M = .ok (.d (.tuple ds)) M) : lStar f h ρ M = (h ρ M).bind fun ws M2 => .ok (ds.map .d ++ ws) M2 := by
  unfold lStar
  rw [hf]
  rfl
theorem asTup_at {ws : List W} {xs : List PyData} (h : allD ws = some xs) (hl : ws.length ≤ 16777216) : asTup ws M = .ok (.d (.tuple xs)) M := by
  unfold asTup
  rw [if_pos (sz hl), h]
@[simp] theorem sPr_dget {fs : List EF} : sPr pDGet fs ρ M = (evs fs ρ M).bind fun ws M1 => ans (pDGet ws M1) := sPr_e
@[simp] theorem sPr_din {b : Bool} {fs : List EF} : sPr (pDIn b) fs ρ M = (evs fs ρ M).bind fun ws M1 => ans (pDIn b ws M1) := sPr_e
@[simp] theorem sPr_lenD {fs : List EF} : sPr pLenD fs ρ M = (evs fs ρ M).bind fun ws M1 => ans (pLenD ws M1) := sPr_e
theorem dget_at (h : look2 M n x = some (some y)) : pDGet [.loc n, .d x] M = some (.d y, M) := by
  unfold pDGet
  simp only [h]
theorem din_at {b : Bool} {o : Option PyData} (h : look2 M n x = some o) : pDIn b [.d x, .loc n] M = some (.d (.bool (if b = true then !o.isSome else o.isSome)), M) := by
  unfold pDIn
  simp only [h]
theorem look2_k {kvs : List (L2.Key × PyData)} {i : Int} (h : M[n]? = some (.dct kvs)) : look2 M n (.int i) = some (valD kvs (.inl i)) := by
  unfold look2
  simp only [h, keyK]
theorem look2_t {kvs : List (List L2.Key × PyData)} {xs : List PyData} {ks : List L2.Key} (h : M[n]? = some (.dctT kvs)) (hk : keysK xs = some ks) : look2 M n (.tuple xs) = some (valD kvs ks) := by
  unfold look2
  simp only [h, hk]
theorem putO_k {kvs : List (L2.Key × PyData)} {i : Int} (h : M[n]? = some (.dct kvs)) (hl : kvs.length < sizeLine) : putO M n y (.int i) = some (.dct (putD kvs (.inl i) y)) := by
  unfold putO
  simp only [h, keyK, hl, if_true]
theorem putO_t {kvs : List (List L2.Key × PyData)} {xs : List PyData} {ks : List L2.Key} (h : M[n]? = some (.dctT kvs)) (hk : keysK xs = some ks) (hl : kvs.length < sizeLine) : putO M n y (.tuple xs) = some (.dctT (putD kvs ks y)) := by
  unfold putO
  simp only [h, hk, hl, if_true]
@[simp] theorem sNewK_e : sNewK ρ M = .ok (.loc M.length) (M ++ [.dct []]) := rfl
@[simp] theorem sNewT_e : sNewT ρ M = .ok (.loc M.length) (M ++ [.dctT []]) := rfl
@[simp] theorem sDispT1_e : sDispT1 fk fv ρ M = (fk ρ M).bind fun w M1 => (fv ρ M1).bind fun u M2 => disp1 w u M2 := Eq.trans rfl rfl
@[simp] theorem sSetd_e : sSetd fd fk fv ρ M = (fd ρ M).bind fun w M1 => if isDT M1 w = true then (fk ρ M1).bind fun u M2 => (fv ρ M2).bind fun z M3 => setd w u z M3 else .stuck := Eq.trans rfl rfl
@[simp] theorem asKGet2_e {kvs : List (Str × PyData)} {z : Str} : asKGet2 kvs (.d (.str z)) (.d y) M = match kvs.lookup z with
    | some d => if flatD d = true then .ok (.d d) M else .stuck
    | none => .ok (.d y) M := rfl
@[simp] theorem sKGet2_e {kvs : List (Str × PyData)} : sKGet2 kvs fk fv ρ M = (fk ρ M).bind fun w M1 => (fv ρ M1).bind fun u M2 => asKGet2 kvs w u M2 := Eq.trans rfl rfl
def orT (h : EF) (ρ : Rho) : W → List MO → Res W := fun w M1 => match w with
  | .d x => match truD x with
    | some true => .ok (.d x) M1
    | some false => h ρ M1
    | none => .stuck
  | _ => .stuck
@[simp] theorem sOrT_e : sOrT f g ρ M = (f ρ M).bind (orT g ρ) := Eq.trans rfl rfl
theorem orT_t (h : truD x = some true) : orT g ρ (.d x) M = .ok (.d x) M := by unfold orT; simp only [h]
theorem orT_f (h : truD x = some false) : orT g ρ (.d x) M = g ρ M := by unfold orT; simp only [h]
def asT : W → List MO → Res Bool := fun w M1 => match w with
  | .d x => match truD x with
    | some b => .ok b M1
    | none => .stuck
  | _ => .stuck
@[simp] theorem sTru_e : sTru f ρ M = (f ρ M).bind asT := Eq.trans rfl rfl
@[simp] theorem asT_i {i : Int} : asT (.d (.int i)) M = .ok (i != 0) M := rfl
@[simp] theorem itR3_e : itR3 fs ρ M = (evs fs ρ M).bind asR3 := Eq.trans rfl rfl
theorem asR3_c {i j c : Int} (h : 0 ≤ i ∧ i ≤ 1000000 ∧ 0 ≤ j ∧ j ≤ 1000000 ∧ 0 < c ∧ c ≤ 1000) : asR3 [.d (.int i), .d (.int j), .d (.int c)] M = .ok (rng3 i c (rgN i j c)) M := if_pos h
@[simp] theorem sKNotInT_e {kvs : List (Str × PyData)} : sKNotInT kvs f g ρ M = (f ρ M).bind fun w M1 => (g ρ M1).bind fun u M2 => asKNotInT kvs w u M2 := Eq.trans rfl rfl
theorem putD_new {κ : Type} [DecidableEq κ] {kvs : List (κ × PyData)} {k : κ} (h : valD kvs k = none) : putD kvs k y = kvs ++ [(k, y)] := by
  unfold putD
  rw [if_neg]
  intro q
  obtain ⟨kv, h1, h2⟩ := List.any_eq_true.mp q
  unfold valD at h
  rw [Option.map_eq_none_iff, List.find?_eq_none] at h
  exact h kv h1 h2
theorem valD_put {κ : Type} [DecidableEq κ] {k j : κ} : ∀ {kvs : List (κ × PyData)}, valD (putD kvs k y) j = if j = k then some y else valD kvs j
  | [] => by
    by_cases h : j = k
    · subst h; simp [putD, valD]
    · simp [putD, valD, h, Ne.symm h]
  | (a, z) :: r => by
    have ih := valD_put (k := k) (j := j) (kvs := r)
    by_cases hk : a = k
    · subst hk
      have e : putD ((a, z) :: r) a y = (a, y) :: r.map (fun kv => if kv.1 = a then (kv.1, y) else kv) := by simp [putD]
      rw [e]
      by_cases hj : j = a
      · subst hj; simp [valD]
      · simp only [valD, List.find?_cons, hj, if_false, decide_eq_true_eq]
        rw [show decide (a = j) = false from decide_eq_false (Ne.symm hj)]
        simp only
        have : ∀ r : List (κ × PyData), (r.map fun kv => if kv.1 = a then (kv.1, y) else kv).find? (fun kv => decide (kv.1 = j)) = r.find? fun kv => decide (kv.1 = j) := by
          intro r
          induction r with
          | nil => rfl
          | cons p r ih =>
            rw [List.map_cons, List.find?_cons, List.find?_cons, ih]
            by_cases hp : p.1 = a
            · simp only [hp, if_true]
              rw [show decide (a = j) = false from decide_eq_false (Ne.symm hj)]
            · simp only [hp, if_false]
        rw [this r]
    · have e : putD ((a, z) :: r) k y = (a, z) :: putD r k y := by
        unfold putD
        rw [List.any_cons, decide_eq_false hk, Bool.false_or]
        split
        · rw [List.map_cons, if_neg hk]
        · rfl
      rw [e]
      unfold valD at ih ⊢
      rw [List.find?_cons, List.find?_cons]
      by_cases ha : a = j
      · subst ha
        simp [hk]
      · rw [decide_eq_false ha]
        exact ih
theorem putD_len {κ : Type} [DecidableEq κ] {k : κ} {kvs : List (κ × PyData)} : (putD kvs k y).length ≤ kvs.length + 1 := by
  unfold putD
  split
  · rw [List.length_map]; omega
  · rw [List.length_append]; simp
end
section
variable {gt : GF} {body : SF} {ρ : Rho} {M : List MO} {w : W}
@[simp] theorem pShl_one {k : Nat} (h : k ≤ 1000000) : pShl [.int 1, .int (k : Int)] = some (.int ((2 ^ k : Nat) : Int)) := by
  have c : cPow 1 (k : Int) = true := decide_eq_true ⟨by omega, by omega, by decide⟩
  show (if cPow 1 (k : Int) = true then _ else _) = _
  rw [if_pos c]
  show some (PyData.int (1 * 2 ^ ((k : Int)).toNat)) = _
  rw [Int.toNat_natCast, Int.one_mul]
  push_cast
  rfl
theorem pShr_nat {x k : Nat} : pShr [.int (x : Int), .int (k : Int)] = some (.int ((x / 2 ^ k : Nat) : Int)) := by
  show (if decide (0 ≤ (k : Int)) = true then some (PyData.int ((x : Int) / 2 ^ ((k : Int)).toNat)) else none) = _
  rw [if_pos (decide_eq_true (by omega)), Int.toNat_natCast]
  push_cast
  rfl
@[simp] theorem pAnd_i {i j : Int} : pAnd [.int i, .int j] = some (.int (Builtin.bitAnd i j)) := rfl
@[simp] theorem pXor_i {i j : Int} : pXor [.int i, .int j] = some (.int (Builtin.bitXor i j)) := rfl
@[simp] theorem pSum_l {ds : List PyData} : pSum [.list ds] = match intsD ds with
    | some bs => some (.int bs.sum)
    | none => none := rfl
def forW (gt : GF) (body : SF) (fuel : Nat) (ρ : Rho) : W → List MO → SR
  | .loc n, M1 => forV gt body n fuel 0 ρ M1
  | .d (.list ds), M1 => forL gt body ds ρ M1
  | .d (.tuple ds), M1 => forL gt body ds ρ M1
  | _, _ => .stuck
@[simp] theorem sForA_e {f : EF} {fuel : Nat} : sForA f gt body fuel ρ M = (f ρ M).th ρ fun ρ w M => forW gt body fuel ρ w M := by
  unfold sForA Res.th
  cases f ρ M with
  | ok w M1 => rcases w with (_ | _ | _ | _ | _ | _ | _) | _ | _ | _ | _ | _ | _ <;> rfl
  | err e M1 => rfl
  | stuck => rfl
theorem sRev_at {f : EF} {ds : List PyData} (h : f ρ M = .ok w M) (v : vw M w = some (.list ds)) : sRev f ρ M = .ok (.d (.list ds.reverse)) M := by
  unfold sRev
  rw [h]
  show (match (vw M w).bind revD with
    | some y => Res.ok (W.d y) M
    | none => Res.stuck) = _
  rw [v]
  rfl
end
theorem forV_inv {gt : GF} {body : SF} {n : Nat} {α : Type} (h : α → PyData) (I : List α → Rho → List MO → Prop) (all : List α) (hM : ∀ pre ρ M, I pre ρ M → M[n]? = some (.lst (all.map h))) : ∀ {ds pre : List α} {fuel : Nat} {ρ : Rho} {M : List MO}, all = pre ++ ds → ds.length < fuel →
    (∀ (pre post : List α) (d : α) (ρ : Rho) (M : List MO), all = pre ++ d :: post → I pre ρ M → ∃ ρ1 M1, gt (.d (h d)) ρ M = some (ρ1, M1) ∧ ∃ ρ2 M2, body ρ1 M1 = .nx ρ2 M2 ∧ I (pre ++ [d]) ρ2 M2) → I pre ρ M →
    ∃ ρ' M', forV gt body n fuel pre.length ρ M = .nx ρ' M' ∧ I all ρ' M'
  | [], pre, f + 1, ρ, M, ha, _, _, hi => by
    rw [List.append_nil] at ha
    refine ⟨ρ, M, ?_, by rw [ha]; exact hi⟩
    unfold forV
    simp only [hM _ _ _ hi]
    rw [List.getElem?_eq_none (by rw [List.length_map, ha]; exact Nat.le_refl _)]
  | d :: ds, pre, f + 1, ρ, M, ha, hl, step, hi => by
    obtain ⟨ρ1, M1, e1, ρ2, M2, e2, h2⟩ := step pre ds d ρ M ha hi
    have hl' : ds.length < f := by rw [List.length_cons] at hl; omega
    obtain ⟨ρ', M', e3, h3⟩ := forV_inv h I all hM (ds := ds) (pre := pre ++ [d]) (fuel := f) (ρ := ρ2) (M := M2) (by rw [ha, List.append_assoc]; rfl) hl' step h2
    refine ⟨ρ', M', ?_, h3⟩
    have hd : (all.map h)[pre.length]? = some (h d) := by rw [List.getElem?_map, ha, List.getElem?_append_right (Nat.le_refl _), Nat.sub_self]; rfl
    rw [List.length_append] at e3
    unfold forV
    simp only [hM _ _ _ hi, hd, e1, e2]
    exact e3
section
variable {f : EF} {ρ : Rho} {M : List MO} {n : Nat} {ds : List PyData} {x d : PyData} {i : Int}
@[simp] theorem itA_e : itA f ρ M = (f ρ M).bind asItA := Eq.trans rfl rfl
@[simp] theorem asItA_l : asItA (.d (.list ds)) M = .ok ds M := rfl
@[simp] theorem asItA_t : asItA (.d (.tuple ds)) M = .ok ds M := rfl
@[simp] theorem asItA_s {a : List Nat} : asItA (.d (.str (S a))) M = .ok (sg a) M := by show Res.ok (chs (S a)) M = _; rw [chs_S]
theorem asItA_at (h : M[n]? = some (.lst ds)) : asItA (.loc n) M = .ok ds (M.set n .dead) := by
  simp only [asItA, h]
theorem asItA_loc : asItA (.loc n) M = match M[n]? with
    | some (.lst ds) => .ok ds (M.set n .dead)
    | _ => .stuck := rfl
theorem Fine.repr {d : PyData} (h : Fine d) : pRepr [d] = some (.str d.shown) := if_pos h.show
theorem pInsert_e (h : M[n]? = some (.lst ds)) (hl : ds.length ≤ 16000000) (h0 : 0 ≤ i ∧ i ≤ 1000000) : pInsert [.loc n, .d (.int i), .d x] M = some (.d .none, M.set n (.lst (ds.take i.toNat ++ [x] ++ ds.drop i.toNat))) := by
  have hc : ds.length < sizeLine ∧ 0 ≤ i ∧ i < 2 ^ 63 := ⟨by rw [sizeLine_eq]; omega, h0.1, by omega⟩
  simp only [pInsert, h]
  rw [if_pos hc]
end
theorem sLk_e {i n : Nat} {f : SF} {ρ : Rho} {M : List MO} {ds : List PyData} (h1 : ρ[i]? = some (some (.loc n))) (h2 : M[n]? = some (.lst ds)) : sLk i f ρ M = f (ρ.set i (some (.d (.list ds)))) (M.set n .dead) := by
  unfold sLk
  simp only [h1, h2]
theorem pMulT_e {a : List PyData} {j : Int} (h : a.isEmpty = false) (h1 : 2 ≤ j ∧ j ≤ 1000) (h2 : a.length ≤ 1000) : pMulT [.tuple a, .int j] = some (.tuple (List.replicate j.toNat a).flatten) := if_pos ⟨h, h1.1, h1.2, h2⟩
end Y
namespace K31
open PySem PySem.Spec PyProof.Rows L2 Y
noncomputable section
def b_is_whole : SF := (sRet (sAndV (sIsi .int (sV 0)) (sNotV (sIsi .bool (sV 0)))))
def F_is_whole : MF := defF 1 b_is_whole
def b_is_size : SF := (sRet (sAndV (sCallF F_is_whole 1 [(sV 0)]) (sAndV (sPr (dpr pLe) [(sC (.int 1)), (sV 0)]) (sPr (dpr pLe) [(sV 0), (sC (.int 30))]))))
def F_is_size : MF := defF 1 b_is_size
def x1_is_text_of : EF := (sPr (dpr pIn) [(sV 3), (sV 0)])
def b_is_text_of : SF := (sRet (sAndV (sIsi .str (sV 2)) (sAndV (sPr (dpr pEq) [(sPr (dpr pLen) [(sV 2)]), (sV 1)]) (sPr (dpr pAll) [(sLc (itD (sV 2)) (gN 3) sYes x1_is_text_of [3])]))))
def F_is_text_of : MF := defF 4 b_is_text_of
def b_is_right_setting : SF := (sRet (sCallF F_is_text_of 3 [(sC (.str (S [48, 49]))), (sV 0), (sV 1)]))
def F_is_right_setting : MF := defF 2 b_is_right_setting
def x1_are_settings : EF := (sCallF F_is_right_setting 2 [(sV 0), (sV 2)])
def b_are_settings : SF := (sRet (sAndV (sIsi .list (sV 1)) (sPr (dpr pAll) [(sLc (itD (sV 1)) (gN 2) sYes x1_are_settings [2])])))
def F_are_settings : MF := defF 3 b_are_settings
def b_look_at_size : SF := (sIf (sNot (sVal (sCallF F_is_size 1 [(sV 0)]))) sStuck sNx)
def F_look_at_size : MF := defF 1 b_look_at_size
def b_look_at_settings : SF := (sIf (sNot (sVal (sCallF F_are_settings 2 [(sV 0), (sV 1)]))) sStuck sNx)
def F_look_at_settings : MF := defF 2 b_look_at_settings
def x1_setting_of : EF := (sIte (sVal (sPr (dpr pIn) [(sV 2), (sV 1)])) (sC (.str (S [49]))) (sC (.str (S [48]))))
def b_setting_of : SF := (sRet (sMeth .str (dpr pJoin) (sC (.str (S []))) [(sLc (itR1 [(sV 0)]) (gN 2) sYes x1_setting_of [2])]))
def F_setting_of : MF := defF 3 b_setting_of
def x1_are_on : EF := (sPr (dpr pEq) [(sPr (dpr pIx) [(sV 0), (sV 2)]), (sC (.str (S [49])))])
def b_are_on : SF := (sRet (sPr (dpr pAll) [(sLc (itD (sV 1)) (gN 2) sYes x1_are_on [2])]))
def F_are_on : MF := defF 3 b_are_on
def b_keeps_pair : SF := (sSeq (sAsg (sV 0) (gT ((gN 2) :: ((gN 3) :: []))))
    (sRet (sOrV (sNotV (sCallF F_are_on 2 [(sV 1), (sV 2)])) (sAndV (sPr (dpr pNotN) [(sV 3)]) (sCallF F_are_on 2 [(sV 1), (sV 3)])))))
def F_keeps_pair : MF := defF 4 b_keeps_pair
def x1_closed_in : EF := (sV 4)
def y1_closed_in : TF := (sVal (sCallF F_are_on 2 [(sV 4), (sV 2)]))
def x2_closed_in : EF := (sPr (dpr pEq) [(sPr (dpr pIx) [(sV 4), (sV 5)]), (sC (.str (S [49])))])
def x3_closed_in : EF := (sV 5)
def y3_closed_in : TF := (sVal (sPr (dpr pAll) [(sLc (itD (sV 3)) (gN 4) sYes x2_closed_in [4])]))
def b_closed_in : SF := (sSeq (sSet 3 (sLc (itD (sV 1)) (gN 4) y1_closed_in x1_closed_in [4]))
    (sSeq (sIf (sVal (sPr (dpr pEq) [(sV 3), (sLst lNil)])) (sRet (sC .none)) sNx)
    (sRet (sPr (dpr pTuple) [(sLc (itR1 [(sV 0)]) (gN 5) y3_closed_in x3_closed_in [5])]))))
def F_closed_in : MF := defF 6 b_closed_in
def x1_sets_of : EF := (sPr (dpr pAdd) [(sV 4), (sTup (lCons (sV 5) lNil))])
def j1_sets_of : IF := (itR2 [(sIte (sVal (sPr (dpr pNe) [(sV 4), (sTup lNil)])) (sPr (dpr pAdd) [(sPr (dpr pIx) [(sV 4), (sPr (dpr pNeg) [(sC (.int 1))])]), (sC (.int 1))]) (sC (.int 0))), (sV 0)])
def f1_sets_of_1 : SF := (sSet 1 (sPr (dpr pAdd) [(sV 1), (sV 2)]))
def f1_sets_of : SF := sSeq (sSet 2 (sLc2 (itD (sV 2)) (gN 4) sYes j1_sets_of (gN 5) sYes x1_sets_of [4, 5] [5])) f1_sets_of_1
def b_sets_of_3 : SF := (sRet (sV 1))
def b_sets_of_2 : SF := sSeq (sFor (itR1 [(sV 0)]) (gN 3) f1_sets_of) b_sets_of_3
def b_sets_of_1 : SF := sSeq (sSet 2 (sLst (lCons (sTup lNil) lNil))) b_sets_of_2
def b_sets_of : SF := sSeq (sSet 1 (sLst (lCons (sTup lNil) lNil))) b_sets_of_1
def F_sets_of : MF := defF 6 b_sets_of
def x1_stems_of : EF := (sCallF F_keeps_pair 2 [(sV 7), (sV 5)])
def x2_stems_of : EF := (sV 8)
def y2_stems_of : TF := (sVal (sPr (dpr pNotIn) [(sV 8), (sV 3)]))
def f1_stems_of_2 : SF := (sIf (sAnd (sVal (sPr (dpr pNe) [(sV 4), (sV 3)])) (sVal (sPr (dpr pAll) [(sLcT 2 (gN 7) sYes x1_stems_of [7])]))) (sSeq (sSet 6 (sIte (sVal (sPr (dpr pIsN) [(sV 4)])) (sC .none) (sPr (dpr pTuple) [(sLc (itD (sV 4)) (gN 8) y2_stems_of x2_stems_of [8])])))
    (sExpr (sMeth .list pAppend (sV 2) [(sTup (lCons (sV 3) (lCons (sV 6) lNil)))]))) sNx)
def f1_stems_of_1 : SF := sSeq (sSet 5 (sCallF F_setting_of 2 [(sV 0), (sV 3)])) f1_stems_of_2
def f1_stems_of (n : Nat) (fb : EF) (i : CloI) (ws : List W) : SF := sSeq (sSet 4 (sCallCl 1 i ws n fb (sV 3))) f1_stems_of_1
def b_stems_of_2 : SF := (sRet (sV 2))
def b_stems_of_1 (n : Nat) (fb : EF) (i : CloI) (ws : List W) : SF := sSeq (sFor (itD (sCallF F_sets_of 1 [(sV 0)])) (gN 3) (f1_stems_of n fb i ws)) b_stems_of_2
def b_stems_of (n : Nat) (fb : EF) (i : CloI) (ws : List W) : SF := sSeq (sSet 2 (sLive lNil)) (b_stems_of_1 n fb i ws)
def l_stems : EF := (sCallF F_closed_in 3 [(sV 1), (sV 2), (sV 0)])
def b_stems : SF := (sSeq (sExpr (sCallF F_look_at_size 1 [(sV 0)]))
    (sSeq (sExpr (sCallF F_look_at_settings 2 [(sV 0), (sV 1)]))
    (sRet (sCallLam 9 (b_stems_of 3 l_stems) [0, 1] (sV 0)))))
def F_stems : MF := defF 2 b_stems
def b_law_mixed : SF := (sSeq (sSet 2 (sPr (dpr pMod) [(sPr (dpr pInt) [(sPr (dpr pAdd) [(sPr (dpr pAdd) [(sPr (dpr pMulA) [(sPr (dpr pMod) [(sPr (dpr pInt) [(sV 0)]), (sC (.int 2147483647))]), (sC (.int 48271))]), (sPr (dpr pMulA) [(sV 1), (sC (.int 69621))])]), (sC (.int 1048583))])]), (sC (.int 2147483629))]))
    (sSeq (sSet 2 (sPr (dpr pMod) [(sPr (dpr pInt) [(sPr (dpr pMulA) [(sV 2), (sV 2)])]), (sC (.int 2147483587))]))
    (sRet (sPr (dpr pMod) [(sPr (dpr pInt) [(sPr (dpr pMulA) [(sV 2), (sPr (dpr pAdd) [(sV 2), (sC (.int 2))])])]), (sC (.int 2147483579))]))))
def F_law_mixed : MF := defF 3 b_law_mixed
def f1_law_pile : SF := (sSet 3 (sPr (dpr pAdd) [(sPr (dpr pMulA) [(sV 3), (sC (.int 2147483579))]), (sCallF F_law_mixed 2 [(sV 2), (sPr (dpr pAdd) [(sPr (dpr pAdd) [(sPr (dpr pMulA) [(sC (.int 7)), (sV 1)]), (sPr (dpr pMulA) [(sC (.int 100)), (sV 4)])]), (sPr (dpr pMulA) [(sV 4), (sV 4)])])])]))
def b_law_pile_5 : SF := (sRet (sLive (lCons (sV 3) lNil)))
def b_law_pile_4 : SF := sSeq (sFor (itR1 [(sC (.int 24))]) (gN 4) f1_law_pile) b_law_pile_5
def b_law_pile_3 : SF := sSeq (sSet 3 (sC (.int 0))) b_law_pile_4
def b_law_pile_2 : SF := sSeq (sIf (sVal (sPr (dpr pGe) [(sV 2), (sPr (dpr pPow) [(sC (.int 10)), (sC (.int 18))])])) (sRet (sLive (lCons (sPr (dpr pMod) [(sPr (dpr pInt) [(sPr (dpr pSub) [(sV 2), (sPr (dpr pPow) [(sC (.int 10)), (sC (.int 18))])])]), (sPr (dpr pMulA) [(sPr (dpr pMulA) [(sPr (dpr pMulA) [(sPr (dpr pPow) [(sC (.int 10)), (sC (.int 60))]), (sPr (dpr pPow) [(sC (.int 10)), (sC (.int 60))])]), (sPr (dpr pPow) [(sC (.int 10)), (sC (.int 60))])]), (sPr (dpr pPow) [(sC (.int 10)), (sC (.int 60))])])]) lNil))) sNx) b_law_pile_3
def b_law_pile_1 : SF := sSeq (sIf (sVal (sPr (dpr pLt) [(sV 1), (sPr pLenS [(sV 0)])])) (sSet 2 (sPr pIxS [(sV 0), (sV 1)])) sNx) b_law_pile_2
def b_law_pile : SF := sSeq (sSet 2 (sC (.int 0))) b_law_pile_1
def F_law_pile : MF := defF 5 b_law_pile
def b_law_take : SF := (sSeq (sSet 2 (sPr (dpr pMod) [(sPr (dpr pInt) [(sPr (dpr pIx) [(sV 0), (sC (.int 0))])]), (sV 1)]))
    (sSeq (sAsg (sPr (dpr pFdiv) [(sPr (dpr pIx) [(sV 0), (sC (.int 0))]), (sV 1)]) (gS (sV 0) (sC (.int 0))))
    (sRet (sV 2))))
def F_law_take : MF := defF 3 b_law_take
def b_law_size : SF := (sRet (sPr (dpr pIx) [(sLst (lCons (sC (.int 1)) (lCons (sC (.int 2)) (lCons (sC (.int 3)) (lCons (sC (.int 3)) (lCons (sC (.int 4)) (lCons (sC (.int 4)) (lCons (sC (.int 5)) (lCons (sC (.int 6)) (lCons (sC (.int 8)) (lCons (sC (.int 10)) lNil))))))))))), (sCallF F_law_take 2 [(sV 0), (sC (.int 10))])]))
def F_law_size : MF := defF 1 b_law_size
def x1_law_setting : EF := (sPr (dpr pIx) [(sC (.str (S [48, 49]))), (sCallF F_law_take 2 [(sV 0), (sC (.int 2))])])
def b_law_setting : SF := (sRet (sMeth .str (dpr pJoin) (sC (.str (S []))) [(sLc (itR1 [(sV 1)]) (gN 2) sYes x1_law_setting [2])]))
def F_law_setting : MF := defF 3 b_law_setting
def f1_law_near_1 : SF := (sAsg (sPr (dpr pIx) [(sC (.str (S [49, 48]))), (sPr (dpr pInt) [(sPr (dpr pIx) [(sV 2), (sV 4)])])]) (gS (sV 2) (sV 4)))
def f1_law_near : SF := sSeq (sSet 4 (sCallF F_law_take 2 [(sV 0), (sPr (dpr pLen) [(sV 2)])])) f1_law_near_1
def b_law_near_2 : SF := (sRet (sMeth .str (dpr pJoin) (sC (.str (S []))) [(sV 2)]))
def b_law_near_1 : SF := sSeq (sFor (itR1 [(sPr (dpr pAdd) [(sC (.int 1)), (sCallF F_law_take 2 [(sV 0), (sC (.int 2))])])]) (gN 3) f1_law_near) b_law_near_2
def b_law_near : SF := sSeq (sSet 2 (sLiveOf (sV 1))) b_law_near_1
def F_law_near : MF := defF 5 b_law_near
def f1_law_some : SF := (sIf (sAnd (sVal (sPr (dpr pLt) [(sPr (dpr pLen) [(sV 3)]), (sV 2)])) (sVal (sPr (dpr pEq) [(sCallF F_law_take 2 [(sV 0), (sC (.int 3))]), (sC (.int 0))]))) (sExpr (sMeth .list pAppend (sV 3) [(sV 4)])) sNx)
def b_law_some_2 : SF := (sRet (sPr (dpr pTuple) [(sV 3)]))
def b_law_some_1 : SF := sSeq (sFor (itR1 [(sV 1)]) (gN 4) f1_law_some) b_law_some_2
def b_law_some : SF := sSeq (sSet 3 (sLive lNil)) b_law_some_1
def F_law_some : MF := defF 5 b_law_some
def x1_law_rule : EF := (sV 5)
def y1_law_rule : TF := (sVal (sPr (dpr pNotIn) [(sV 5), (sV 3)]))
def b_law_rule_6 : SF := (sRet (sTup (lCons (sC (.str (S [97, 110, 121]))) (lCons (sV 3) (lCons (sV 4) lNil)))))
def b_law_rule_5 : SF := sSeq (sIf (sOr (sVal (sPr (dpr pEq) [(sV 1), (sC (.str (S [111, 114])))])) (sAnd (sVal (sPr (dpr pEq) [(sV 1), (sC (.str (S [109, 111, 115, 116])))])) (sVal (sPr (dpr pEq) [(sCallF F_law_take 2 [(sV 0), (sC (.int 2))]), (sC (.int 0))])))) (sRet (sTup (lCons (sC (.str (S [97, 110, 121]))) (lCons (sV 4) (lCons (sV 3) lNil))))) sNx) b_law_rule_6
def b_law_rule_4 : SF := sSeq (sSet 4 (sPr (dpr pTuple) [(sLc (itD (sV 4)) (gN 5) y1_law_rule x1_law_rule [5])])) b_law_rule_5
def b_law_rule_3 : SF := sSeq (sIf (sAnd (sVal (sPr (dpr pEq) [(sV 1), (sC (.str (S [109, 111, 115, 116])))])) (sVal (sPr (dpr pEq) [(sCallF F_law_take 2 [(sV 0), (sC (.int 2))]), (sC (.int 0))]))) (sSeq (sSet 3 (sCallF F_law_some 3 [(sV 0), (sV 2), (sC (.int 2))]))
    (sSet 4 (sTup lNil))) sNx) b_law_rule_4
def b_law_rule_2 : SF := sSeq (sSet 4 (sCallF F_law_some 3 [(sV 0), (sV 2), (sPr (dpr pIx) [(sLst (lCons (sC (.int 10)) (lCons (sC (.int 1)) lNil))), (sPr (dpr pInt) [(sPr (dpr pIn) [(sV 1), (sLst (lCons (sC (.str (S [98, 111, 116, 104]))) (lCons (sC (.str (S [109, 111, 115, 116]))) lNil)))])])])])) b_law_rule_3
def b_law_rule_1 : SF := sSeq (sSet 3 (sCallF F_law_some 3 [(sV 0), (sV 2), (sC (.int 1))])) b_law_rule_2
def b_law_rule : SF := sSeq (sIf (sVal (sPr (dpr pIn) [(sV 1), (sLst (lCons (sC (.str (S [111, 100, 100]))) (lCons (sC (.str (S [112, 97, 105, 114, 115]))) lNil)))])) (sRet (sTup (lCons (sC (.str (S [115, 117, 109]))) (lCons (sCallF F_law_some 3 [(sV 0), (sV 2), (sPr (dpr pIx) [(sLst (lCons (sC (.int 2)) (lCons (sC (.int 10)) lNil))), (sPr (dpr pInt) [(sPr (dpr pEq) [(sV 1), (sC (.str (S [111, 100, 100])))])])])]) (lCons (sCallF F_law_take 2 [(sV 0), (sC (.int 2))]) lNil))))) sNx) b_law_rule_1
def F_law_rule : MF := defF 6 b_law_rule
def x1_law_keeps : EF := (sV 2)
def y1_law_keeps : TF := (sVal (sPr (dpr pEq) [(sPr (dpr pIx) [(sV 1), (sV 2)]), (sC (.str (S [49])))]))
def x2_law_keeps : EF := (sPr (dpr pIx) [(sV 1), (sV 2)])
def x3_law_keeps : EF := (sPr (dpr pIx) [(sV 1), (sV 2)])
def b_law_keeps : SF := (sSeq (sIf (sVal (sPr (dpr pEq) [(sPr (dpr pIx) [(sV 0), (sC (.int 0))]), (sC (.str (S [115, 117, 109])))])) (sRet (sPr (dpr pEq) [(sPr (dpr pMod) [(sPr (dpr pInt) [(sPr (dpr pLen) [(sLc (itD (sPr (dpr pIx) [(sV 0), (sC (.int 1))])) (gN 2) y1_law_keeps x1_law_keeps [2])])]), (sC (.int 2))]), (sPr (dpr pIx) [(sV 0), (sC (.int 2))])])) sNx)
    (sRet (sOrV (sPr (dpr pIn) [(sC (.str (S [49]))), (sLc (itD (sPr (dpr pIx) [(sV 0), (sC (.int 1))])) (gN 2) sYes x2_law_keeps [2])]) (sPr (dpr pIn) [(sC (.str (S [48]))), (sLc (itD (sPr (dpr pIx) [(sV 0), (sC (.int 2))])) (gN 2) sYes x3_law_keeps [2])]))))
def F_law_keeps : MF := defF 3 b_law_keeps
def x1_law_keeps_all : EF := (sV 2)
def y1_law_keeps_all : TF := (sNot (sVal (sCallF F_law_keeps 2 [(sV 2), (sV 1)])))
def b_law_keeps_all : SF := (sRet (sPr (dpr pEq) [(sLc (itD (sV 0)) (gN 2) y1_law_keeps_all x1_law_keeps_all [2]), (sLst lNil)]))
def F_law_keeps_all : MF := defF 3 b_law_keeps_all
def x1_law_seen : EF := (sCallF F_law_rule 3 [(sV 0), (sV 1), (sV 2)])
def f1_law_seen_2 : SF := (sIf (sOr (sVal (sCallF F_law_keeps_all 2 [(sV 3), (sV 6)])) (sVal (sPr (dpr pEq) [(sCallF F_law_take 2 [(sV 0), (sC (.int 8))]), (sC (.int 0))]))) (sExpr (sMeth .list pAppend (sV 4) [(sV 6)])) sNx)
def f1_law_seen_1 : SF := sSeq (sIf (sAnd (sVal (sPr (dpr pNe) [(sV 4), (sLst lNil)])) (sVal (sPr (dpr pEq) [(sCallF F_law_take 2 [(sV 0), (sC (.int 3))]), (sC (.int 0))]))) (sSet 6 (sCallF F_law_near 2 [(sV 0), (sPr (dpr pIx) [(sV 4), (sCallF F_law_take 2 [(sV 0), (sPr (dpr pLen) [(sV 4)])])])])) sNx) f1_law_seen_2
def f1_law_seen : SF := sSeq (sSet 6 (sCallF F_law_setting 2 [(sV 0), (sV 2)])) f1_law_seen_1
def b_law_seen_3 : SF := (sRet (sV 4))
def b_law_seen_2 : SF := sSeq (sFor (itR1 [(sPr (dpr pIx) [(sLst (lCons (sC (.int 0)) (lCons (sC (.int 1)) (lCons (sC (.int 2)) (lCons (sC (.int 3)) (lCons (sC (.int 4)) (lCons (sC (.int 6)) (lCons (sC (.int 9)) (lCons (sC (.int 12)) lNil))))))))), (sCallF F_law_take 2 [(sV 0), (sC (.int 8))])])]) (gN 5) f1_law_seen) b_law_seen_3
def b_law_seen_1 : SF := sSeq (sSet 4 (sLive lNil)) b_law_seen_2
def b_law_seen : SF := sSeq (sSet 3 (sLc (itR1 [(sCallF F_law_take 2 [(sV 0), (sC (.int 4))])]) (gN 5) sYes x1_law_seen [5])) b_law_seen_1
def F_law_seen : MF := defF 7 b_law_seen
def x1_law_all : EF := (sPr (dpr pAdd) [(sC (.str (S [48]))), (sV 3)])
def x2_law_all : EF := (sPr (dpr pAdd) [(sC (.str (S [49]))), (sV 3)])
def f1_law_all : SF := (sSet 1 (sPr (dpr pAdd) [(sLc (itD (sV 1)) (gN 3) sYes x1_law_all [3]), (sLc (itD (sV 1)) (gN 3) sYes x2_law_all [3])]))
def b_law_all_2 : SF := (sRet (sV 1))
def b_law_all_1 : SF := sSeq (sFor (itR1 [(sV 0)]) (gN 2) f1_law_all) b_law_all_2
def b_law_all : SF := sSeq (sSet 1 (sLst (lCons (sC (.str (S []))) lNil))) b_law_all_1
def F_law_all : MF := defF 4 b_law_all
def x1_law_above : EF := (sPr (dpr pIx) [(sV 2), (sV 3)])
def x2_law_above : EF := (sV 2)
def y2_law_above : TF := (sVal (sPr (dpr pNotIn) [(sC (.str (S [48]))), (sLc (itD (sV 1)) (gN 3) sYes x1_law_above [3])]))
def b_law_above : SF := (sRet (sLc (itD (sV 0)) (gN 2) y2_law_above x2_law_above [2]))
def F_law_above : MF := defF 4 b_law_above
def x1_law_closed : EF := (sPr (dpr pIx) [(sV 5), (sV 4)])
def x2_law_closed : EF := (sV 4)
def y2_law_closed : TF := (sVal (sPr (dpr pNotIn) [(sC (.str (S [48]))), (sLc (itD (sV 3)) (gN 5) sYes x1_law_closed [5])]))
def b_law_closed : SF := (sSeq (sSet 3 (sCallF F_law_above 2 [(sV 1), (sV 2)]))
    (sSeq (sIf (sVal (sPr (dpr pEq) [(sV 3), (sLst lNil)])) (sRet (sC .none)) sNx)
    (sRet (sPr (dpr pTuple) [(sLc (itR1 [(sV 0)]) (gN 4) y2_law_closed x2_law_closed [4])]))))
def F_law_closed : MF := defF 6 b_law_closed
def x1_law_pair_kept : EF := (sPr (dpr pIx) [(sV 1), (sV 2)])
def x2_law_pair_kept : EF := (sPr (dpr pIx) [(sV 1), (sV 2)])
def b_law_pair_kept : SF := (sSeq (sIf (sVal (sPr (dpr pIn) [(sC (.str (S [48]))), (sLc (itD (sPr (dpr pIx) [(sV 0), (sC (.int 0))])) (gN 2) sYes x1_law_pair_kept [2])])) (sRet (sC (.bool true))) sNx)
    (sRet (sAndV (sPr (dpr pNotN) [(sPr (dpr pIx) [(sV 0), (sC (.int 1))])]) (sPr (dpr pNotIn) [(sC (.str (S [48]))), (sLc (itD (sPr (dpr pIx) [(sV 0), (sC (.int 1))])) (gN 2) sYes x2_law_pair_kept [2])]))))
def F_law_pair_kept : MF := defF 3 b_law_pair_kept
def x1_law_pairs_kept : EF := (sV 2)
def y1_law_pairs_kept : TF := (sNot (sVal (sCallF F_law_pair_kept 2 [(sV 2), (sV 1)])))
def b_law_pairs_kept : SF := (sRet (sPr (dpr pEq) [(sLcT 0 (gN 2) y1_law_pairs_kept x1_law_pairs_kept [2]), (sLst lNil)]))
def F_law_pairs_kept : MF := defF 3 b_law_pairs_kept
def x1_law_subsets : EF := (sV 5)
def y1_law_subsets : TF := (sVal (sPr (dpr pEq) [(sPr (dpr pIx) [(sV 4), (sV 5)]), (sC (.str (S [49])))]))
def x2_law_subsets : EF := (sPr (dpr pTuple) [(sLc (itR1 [(sV 0)]) (gN 5) y1_law_subsets x1_law_subsets [5])])
def y2_law_subsets : TF := (sVal (sPr (dpr pEq) [(sMeth .str (dpr pCount) (sV 4) [(sC (.str (S [49])))]), (sV 2)]))
def f1_law_subsets_1 : SF := (sSet 1 (sPr (dpr pAdd) [(sV 1), (sRev (sV 3))]))
def f1_law_subsets : SF := sSeq (sSet 3 (sLc (itD (sCallF F_law_all 1 [(sV 0)])) (gN 4) y2_law_subsets x2_law_subsets [4])) f1_law_subsets_1
def b_law_subsets_2 : SF := (sRet (sV 1))
def b_law_subsets_1 : SF := sSeq (sFor (itR1 [(sPr (dpr pAdd) [(sV 0), (sC (.int 1))])]) (gN 2) f1_law_subsets) b_law_subsets_2
def b_law_subsets : SF := sSeq (sSet 1 (sLst lNil)) b_law_subsets_1
def F_law_subsets : MF := defF 6 b_law_subsets
def x1_law_inside : EF := (sV 2)
def y1_law_inside : TF := (sVal (sPr (dpr pNotIn) [(sV 2), (sV 1)]))
def b_law_inside : SF := (sRet (sPr (dpr pEq) [(sLc (itD (sV 0)) (gN 2) y1_law_inside x1_law_inside [2]), (sLst lNil)]))
def F_law_inside : MF := defF 3 b_law_inside
def x1_law_due : EF := (sV 8)
def y1_law_due : TF := (sVal (sCallF F_law_inside 2 [(sPr (dpr pIx) [(sV 8), (sC (.int 0))]), (sV 3)]))
def x2_law_due : EF := (sV 8)
def y2_law_due : TF := (sOr (sVal (sPr (dpr pIsN) [(sPr (dpr pIx) [(sV 8), (sC (.int 1))])])) (sNot (sVal (sCallF F_law_inside 2 [(sPr (dpr pIx) [(sV 8), (sC (.int 1))]), (sV 3)]))))
def x3_law_due : EF := (sV 9)
def y3_law_due : TF := (sVal (sPr (dpr pNotIn) [(sV 9), (sV 3)]))
def f1_law_due_3 : SF := (sIf (sAnd (sVal (sPr (dpr pNe) [(sV 4), (sV 3)])) (sVal (sPr (dpr pEq) [(sV 6), (sLst lNil)]))) (sSeq (sSet 7 (sC .none))
    (sSeq (sIf (sVal (sPr (dpr pNotN) [(sV 4)])) (sSet 7 (sPr (dpr pTuple) [(sLc (itD (sV 4)) (gN 9) y3_law_due x3_law_due [9])])) sNx)
    (sExpr (sMeth .list pAppend (sV 2) [(sTup (lCons (sV 3) (lCons (sV 7) lNil)))])))) sNx)
def f1_law_due_2 : SF := sSeq (sSet 6 (sLc (itD (sV 5)) (gN 8) y2_law_due x2_law_due [8])) f1_law_due_3
def f1_law_due_1 : SF := sSeq (sSet 5 (sLcT 2 (gN 8) y1_law_due x1_law_due [8])) f1_law_due_2
def f1_law_due : SF := sSeq (sSet 4 (sCallF F_law_closed 3 [(sV 0), (sV 1), (sV 3)])) f1_law_due_1
def b_law_due_2 : SF := (sRet (sV 2))
def b_law_due_1 : SF := sSeq (sFor (itD (sCallF F_law_subsets 1 [(sV 0)])) (gN 3) f1_law_due) b_law_due_2
def b_law_due : SF := sSeq (sSet 2 (sLive lNil)) b_law_due_1
def F_law_due : MF := defF 10 b_law_due
def x1_law_good : EF := (sV 7)
def y1_law_good : TF := (sVal (sPr (dpr pEq) [(sPr (dpr pIx) [(sV 5), (sV 7)]), (sC (.str (S [49])))]))
def f1_law_good_1 : SF := (sIf (sVal (sPr (dpr pNe) [(sCallF F_law_pairs_kept 2 [(sV 4), (sV 5)]), (sPr (dpr pEq) [(sCallF F_law_closed 3 [(sV 0), (sV 1), (sV 6)]), (sV 6)])])) (sRet (sC (.bool false))) sNx)
def f1_law_good : SF := sSeq (sSet 6 (sPr (dpr pTuple) [(sLc (itR1 [(sV 0)]) (gN 7) y1_law_good x1_law_good [7])])) f1_law_good_1
def b_law_good_6 : SF := (sRet (sPr (dpr pEq) [(sCallF F_stems 2 [(sV 0), (sV 1)]), (sV 3)]))
def b_law_good_5 : SF := sSeq (sExpr (sMeth .list pAppend (sV 4) [(sC .none)])) b_law_good_6
def b_law_good_4 : SF := sSeq (sFor (itD (sCallF F_law_all 1 [(sV 0)])) (gN 5) f1_law_good) b_law_good_5
def b_law_good_3 : SF := sSeq (sIf (sOr (sNot (sVal (sIsi .list (sV 4)))) (sOr (sVal (sPr (dpr pNe) [(sV 4), (sV 3)])) (sVal (sPr (dpr pNe) [(sPr (dpr pStr) [(sV 1)]), (sV 2)])))) (sRet (sC (.bool false))) sNx) b_law_good_4
def b_law_good_2 : SF := sSeq (sSet 4 (sCallW F_stems 2 [(sV 0), (sV 1)])) b_law_good_3
def b_law_good_1 : SF := sSeq (sSet 3 (sCallF F_law_due 2 [(sV 0), (sV 1)])) b_law_good_2
def b_law_good : SF := sSeq (sSet 2 (sPr (dpr pStr) [(sV 1)])) b_law_good_1
def F_law_good : MF := defF 8 b_law_good
def f1_law_4 : SF := (sIf (sAnd (sVal (sPr (dpr pEq) [(sV 1), (sC (.int 1))])) (sNot (sVal (sCallF F_law_good 2 [(sC (.int 9)), (sSl (sCallF F_law_seen 3 [(sV 2), (sC (.str (S [97, 110, 100]))), (sC (.int 9))]) oN (oS (sC (.int 4))))])))) (sRet (sC (.bool false))) sNx)
def f1_law_3 : SF := sSeq (sIf (sNot (sVal (sCallF F_law_good 2 [(sV 3), (sCallF F_law_seen 3 [(sV 2), (sPr (dpr pIx) [(sLst (lCons (sC (.str (S [111, 114]))) (lCons (sC (.str (S [109, 111, 115, 116]))) (lCons (sC (.str (S [111, 100, 100]))) lNil)))), (sCallF F_law_take 2 [(sV 2), (sC (.int 3))])]), (sV 3)])]))) (sRet (sC (.bool false))) sNx) f1_law_4
def f1_law_2 : SF := sSeq (sIf (sNot (sVal (sCallF F_law_good 2 [(sV 3), (sCallF F_law_seen 3 [(sV 2), (sC (.str (S [97, 110, 100]))), (sV 3)])]))) (sRet (sC (.bool false))) sNx) f1_law_3
def f1_law_1 : SF := sSeq (sSet 3 (sPr (dpr pMin) [(sCallF F_law_size 1 [(sV 2)]), (sC (.int 8))])) f1_law_2
def f1_law : SF := sSeq (sSet 2 (sCallW F_law_pile 2 [(sV 0), (sV 1)])) f1_law_1
def x1_law : EF := (sPr (dpr pAdd) [(sPr (dpr pAdd) [(sPr (dpr pMulA) [(sC (.str (S [49]))), (sV 1)]), (sC (.str (S [48])))]), (sPr (dpr pMulA) [(sC (.str (S [49]))), (sPr (dpr pSub) [(sC (.int 9)), (sV 1)])])])
def b_law_3 : SF := (sRet (sAndV (sPr (dpr pEq) [(sCallF F_stems 2 [(sC (.int 2)), (sLst lNil)]), (sLst (lCons (sTup (lCons (sTup lNil) (lCons (sC .none) lNil))) lNil))]) (sAndV (sPr (dpr pEq) [(sCallF F_stems 2 [(sC (.int 2)), (sLst (lCons (sC (.str (S [48, 48]))) (lCons (sC (.str (S [49, 49]))) (lCons (sC (.str (S [48, 49]))) (lCons (sC (.str (S [49, 48]))) lNil)))))]), (sLst lNil)]) (sCallF F_law_good 2 [(sC (.int 3)), (sLst (lCons (sC (.str (S [49, 49, 49]))) lNil))]))))
def b_law_2 : SF := sSeq (sIf (sVal (sPr (dpr pNe) [(sCallF F_stems 2 [(sC (.int 10)), (sV 4)]), (sLst (lCons (sTup (lCons (sRg1 false (sC (.int 10))) (lCons (sC .none) lNil))) lNil))])) (sRet (sC (.bool false))) sNx) b_law_3
def b_law_1 : SF := sSeq (sSet 4 (sLc (itR1 [(sC (.int 10))]) (gN 1) sYes x1_law [1])) b_law_2
def b_law : SF := sSeq (sFor (itR1 [(sPr (dpr pMax) [(sC (.int 2)), (sPr (dpr pMin) [(sPr pLenS [(sV 0)]), (sC (.int 6))])])]) (gN 1) f1_law) b_law_1
def F_law : MF := defF 5 b_law
end
end K31
namespace K31
open PySem PySem.Spec PyProof.Rows L2 Y
theorem cMul_s {i j : Int} (h : -(2 ^ 64) < j ∧ j < 2 ^ 64) : cMul i j = true := decide_eq_true (.inr (.inl h))
theorem cMul_s' {i j : Int} (h : -(2 ^ 64) < i ∧ i < 2 ^ 64) : cMul i j = true := decide_eq_true (.inl h)
/-- a pile to take from -/
def Pil (M : List MO) : Prop := ∃ p : Int, M = [.lst [.int p]]
theorem All2.map1 {ds : List PyData} {P : Nat → Prop} : ∀ {xs : List PyData}, All2 (fun _ x => ∃ c, x = .str (S [c]) ∧ P c) ds xs → ∃ l : List Nat, xs = sg l ∧ l.length = ds.length ∧ ∀ c ∈ l, P c
  | _, .nil => ⟨[], rfl, rfl, fun _ h => nomatch h⟩
  | _, .cons ⟨c, hc, pc⟩ t => by
    obtain ⟨l, e, hl, hp⟩ := All2.map1 t
    refine ⟨c :: l, by rw [hc, e]; rfl, by simp [hl], fun x hx => ?_⟩
    rcases List.mem_cons.mp hx with rfl | hx
    · exact pc
    · exact hp x hx
/-- the signs of a setting -/
def Bit (c : Nat) : Prop := c = 48 ∨ c = 49
def Tri (c : Nat) : Prop := c = 48 ∨ c = 49 ∨ c = 63
theorem set_at {M : List MO} {n : Nat} {o o' : MO} (h : M[n]? = some o) : (M.set n o')[n]? = some o' := by
  rw [List.getElem?_set_self (List.getElem?_eq_some_iff.mp h).1]
/-- what is_text_of answers -/
def textOf (a : List Nat) (n : Int) : PyData → Bool
  | .str s => decide ((s.cps.size : Int) = n) && s.cps.toList.all (inS a)
  | _ => false
theorem textOf_S {a l : List Nat} {n : Int} : textOf a n (.str (S l)) = (decide ((l.length : Int) = n) && l.all (inS a)) := by
  show (decide (((S l).cps.size : Int) = n) && (S l).cps.toList.all _) = _
  rw [S_size, S_toList]
/-- short as a text -/
def Short (x : PyData) : Prop := ∀ s, x = .str s → s.cps.size ≤ 200000
theorem text_lt {a l : List Nat} {n : Int} (ha : ∀ c ∈ a, c < 1114112) (h : textOf a n (.str (S l)) = true) : ∀ c ∈ l, c < 1114112 := by
  rw [textOf_S, Bool.and_eq_true, List.all_eq_true] at h
  exact fun c hc => ha c (inS_iff.mp (h.2 c hc))
theorem text_len {a l : List Nat} {n : Int} (h : textOf a n (.str (S l)) = true) : (l.length : Int) = n := by
  rw [textOf_S, Bool.and_eq_true] at h
  exact of_decide_eq_true h.1
theorem text_of {a l : List Nat} {n : Int} (h : ∀ c ∈ l, c ∈ a) (hl : (l.length : Int) = n) : textOf a n (.str (S l)) = true := by
  rw [textOf_S, hl, decide_eq_true rfl, Bool.true_and, List.all_eq_true]
  exact fun c hc => inS_iff.mpr (h c hc)
theorem intBit {c : Nat} (h : Bit c) : ∃ i : Int, pInt [.str (S [c])] = some (.int i) ∧ 0 ≤ i ∧ i < 2 := by
  rcases h with rfl | rfl
  · exact ⟨0, pInt_str (by decide +kernel) (by decide), by decide, by decide⟩
  · exact ⟨1, pInt_str (by decide +kernel) (by decide), by decide, by decide⟩
theorem ints_nice {l : List Nat} (h : ∀ k ∈ l, k < 1000000) : SeqAt.shaped (.list (l.map fun (k : Nat) => PyData.int ((0 : Int) + k))) = true := by
  have q := Sm.list (D := 0) (B := 100) (n := l.length) (ds := l.map fun (k : Nat) => PyData.int ((0 : Int) + k)) (fun d hd => by
    obtain ⟨k, hk, rfl⟩ := List.mem_map.mp hd
    have := h k hk
    exact Sm.int (by omega)) (by rw [List.length_map]; exact Nat.le_refl _)
  exact shaped_of q.nice (by have := q.dep; omega)
def kInts (l : List Nat) : List PyData := l.map fun (k : Nat) => PyData.int ((0 : Int) + k)
theorem cut_le {α : Type} {xs : List α} {lo hi : Option Int} {n : Nat} (h : xs.length ≤ n) : (cutL xs lo hi).length ≤ n := Nat.le_trans cut_len h
/-- how a partial setting is met -/
def meets (a b : List Nat) : Bool := (a.zip b).all fun p => decide (p.2 = 63) || decide (p.2 = p.1)
theorem meets_iff {a b : List Nat} : meets a b = true ↔ ∀ (k x y : Nat), a[k]? = some x → b[k]? = some y → y = 63 ∨ y = x := by
  unfold meets
  rw [List.all_eq_true]
  constructor
  · intro h k x y hx hy
    have := h (x, y) (List.mem_of_getElem? (i := k) (List.getElem?_zip_eq_some.mpr ⟨hx, hy⟩))
    simpa using this
  · rintro h ⟨x, y⟩ hp
    obtain ⟨k, hk⟩ := List.mem_iff_getElem?.mp hp
    obtain ⟨hx, hy⟩ := List.getElem?_zip_eq_some.mp hk
    have := h k x y hx hy
    simpa using this
/-! options -/
def whole : PyData → Bool
  | .int _ => true
  | _ => false
def below (n : Int) : PyData → Bool
  | .int i => decide (0 ≤ i) && decide (i < n)
  | _ => false
/-- numbers as data -/
def oi (l : List Nat) : List PyData := l.map fun (k : Nat) => PyData.int (k : Int)
@[simp] theorem oi_len {l : List Nat} : (oi l).length = l.length := by simp [oi]
@[simp] theorem oi_nil : oi [] = [] := rfl
theorem oi_at {l : List Nat} {p : Nat} (h : p < l.length) : (oi l)[p]? = some (.int ((l.getD p 0 : Nat) : Int)) := by
  unfold oi
  rw [List.getElem?_map, List.getElem?_eq_getElem h]
  simp [List.getD_eq_getElem?_getD, List.getElem?_eq_getElem h]
theorem below_oi {n : Int} : ∀ {ds : List PyData}, ds.all (below n) = true → ∃ l : List Nat, ds = oi l ∧ ∀ k ∈ l, (k : Int) < n
  | [], _ => ⟨[], rfl, fun _ h => by cases h⟩
  | d :: ds, h => by
    simp only [List.all_cons, Bool.and_eq_true] at h
    obtain ⟨l, e, hl⟩ := below_oi h.2
    cases d with
    | int i =>
      have h1 : (decide (0 ≤ i) && decide (i < n)) = true := h.1
      simp only [Bool.and_eq_true, decide_eq_true_eq] at h1
      refine ⟨i.toNat :: l, ?_, fun k hk => ?_⟩
      · show PyData.int i :: ds = PyData.int ((i.toNat : Nat) : Int) :: oi l
        rw [e, Int.toNat_of_nonneg h1.1]
      · rcases List.mem_cons.mp hk with rfl | hk
        · omega
        · exact hl k hk
    | _ => exact absurd h.1 (by simp [below])
theorem all_below {n : Int} {l : List Nat} (h : ∀ k ∈ l, (k : Int) < n) : (oi l).all (below n) = true := by
  rw [List.all_eq_true]
  intro d hd
  obtain ⟨k, hk, rfl⟩ := List.mem_map.mp hd
  have := h k hk
  show (decide (0 ≤ (k : Int)) && decide ((k : Int) < n)) = true
  simp only [Bool.and_eq_true, decide_eq_true_eq]
  omega
def adj (l : List Nat) : Bool := (List.range (l.length - 1)).all fun p => decide (l.getD p 0 < l.getD (p + 1) 0)
def areO (n : Int) : PyData → Bool
  | .tuple ds => ds.all (below n) && adj (ds.map fun d => match d with | .int i => i.toNat | _ => 0)
  | _ => false
theorem areO_oi {n : Int} {l : List Nat} (h : ∀ k ∈ l, (k : Int) < n) : areO n (.tuple (oi l)) = adj l := by
  show ((oi l).all (below n) && adj ((oi l).map _)) = _
  rw [all_below h, Bool.true_and]
  congr 1
  unfold oi
  rw [List.map_map]
  conv => rhs; rw [← List.map_id l]
  exact List.map_congr_left fun k _ => by simp
/-- a list of options in order -/
structure Up (n : Int) (l : List Nat) : Prop where
  lt : ∀ k ∈ l, (k : Int) < n
  up : l.Pairwise (· < ·)
theorem adj_up {l : List Nat} (h : l.Pairwise (· < ·)) : adj l = true := by
  unfold adj
  rw [List.all_eq_true]
  intro p hp
  rw [List.mem_range] at hp
  have h1 : p < l.length := by omega
  have h2 : p + 1 < l.length := by omega
  rw [decide_eq_true_iff, List.getD_eq_getElem?_getD, List.getD_eq_getElem?_getD, List.getElem?_eq_getElem h1, List.getElem?_eq_getElem h2]
  exact List.pairwise_iff_getElem.mp h p (p + 1) h1 h2 (Nat.lt_succ_self p)
theorem Up.are {n : Int} {l : List Nat} (h : Up n l) : areO n (.tuple (oi l)) = true := by rw [areO_oi h.lt, adj_up h.up]
theorem up_len0 : ∀ {l : List Nat} {m n : Nat}, l.Pairwise (· < ·) → (∀ k ∈ l, m ≤ k ∧ k < n) → l.length ≤ n - m
  | [], _, _, _, _ => Nat.zero_le _
  | k :: r, m, n, hp, hl => by
    rw [List.pairwise_cons] at hp
    have h1 := hl k List.mem_cons_self
    have h2 := up_len0 (m := k + 1) (n := n) hp.2 fun x hx => ⟨hp.1 x hx, (hl x (List.mem_cons_of_mem _ hx)).2⟩
    rw [List.length_cons]
    omega
theorem up_len {l : List Nat} {n : Nat} (hp : l.Pairwise (· < ·)) (hl : ∀ k ∈ l, k < n) : l.length ≤ n := up_len0 (m := 0) hp fun k hk => ⟨Nat.zero_le _, hl k hk⟩
theorem Up.len {n : Int} {l : List Nat} (h : Up n l) : (l.length : Int) ≤ n ∨ l = [] := by
  by_cases hl : l = []
  · exact .inr hl
  · left
    have h0 : 0 ≤ n := by
      cases l with
      | nil => exact absurd rfl hl
      | cons k r => have := h.lt k List.mem_cons_self; omega
    have := up_len (n := n.toNat) h.up fun k hk => by have := h.lt k hk; omega
    omega
/-! rules -/
def anyR (on off : List Nat) : PyData := .tuple [.str (S [97, 110, 121]), .tuple (oi on), .tuple (oi off)]
def sumR (on : List Nat) (r : Int) : PyData := .tuple [.str (S [115, 117, 109]), .tuple (oi on), .int r]
/-- a rule of a size -/
inductive Rule (n : Int) : PyData → Prop
  | any {on off : List Nat} : Up n on → Up n off → (∀ k ∈ on, k ∉ off) → Rule n (anyR on off)
  | sum {on : List Nat} {r : Int} : Up n on → r = 0 ∨ r = 1 → Rule n (sumR on r)
theorem oi_nice {l : List Nat} (h : ∀ k ∈ l, k < 1000000) : ∀ d ∈ oi l, Sm 0 100 d := fun d hd => by
  obtain ⟨k, hk, rfl⟩ := List.mem_map.mp hd
  have := h k hk
  exact Sm.int (by omega)
theorem Up.sm {n : Int} {l : List Nat} (h : Up n l) (h1 : n ≤ 30) : Sm 1 3030 (.tuple (oi l)) := by
  refine (Sm.tuple (n := 30) (oi_nice fun k hk => by have := h.lt k hk; omega) ?_).mono (by decide) (by decide)
  rw [oi_len]
  rcases h.len with q | rfl
  · omega
  · simp
theorem Rule.sm {n : Int} {x : PyData} (h : Rule n x) (h1 : n ≤ 30) : Sm 2 10000 x := by
  cases h with
  | any a b c =>
    refine (Sm.tuple (D := 1) (B := 3030) (n := 3) (fun d hd => ?_) (Nat.le_refl _)).mono (by decide) (by decide)
    simp only [List.mem_cons, List.not_mem_nil, or_false] at hd
    rcases hd with rfl | rfl | rfl
    · exact (Sm.str (n := 3) (by decide) (by decide)).mono (by decide) (by decide)
    · exact a.sm h1
    · exact b.sm h1
  | sum a r =>
    refine (Sm.tuple (D := 1) (B := 3030) (n := 3) (fun d hd => ?_) (Nat.le_refl _)).mono (by decide) (by decide)
    simp only [List.mem_cons, List.not_mem_nil, or_false] at hd
    rcases hd with rfl | rfl | rfl
    · exact (Sm.str (n := 3) (by decide) (by decide)).mono (by decide) (by decide)
    · exact a.sm h1
    · exact (Sm.int (by omega)).mono (by decide) (by decide)
/-- is one of the numbers among them -/
theorem in_oi {k : Nat} {l : List Nat} (h : ∀ k ∈ l, k < 1000000) : inB (.int (k : Int)) (.tuple (oi l)) = some (decide (k ∈ l)) := by
  have s1 : SeqAt.shaped (.tuple (oi l)) = true := by
    have q := Sm.tuple (n := l.length) (oi_nice h) (by rw [oi_len]; exact Nat.le_refl _)
    exact shaped_of q.nice (by have := q.dep; omega)
  show (if SeqAt.shaped (.int (k : Int)) = true ∧ SeqAt.shaped (.tuple (oi l)) = true then some ((oi l).any fun z => PyData.eqv z (.int (k : Int))) else none) = _
  rw [if_pos ⟨shaped_i, s1⟩]
  congr 1
  rw [Bool.eq_iff_iff, List.any_eq_true, decide_eq_true_iff]
  constructor
  · rintro ⟨d, hd, e⟩
    obtain ⟨j, hj, rfl⟩ := List.mem_map.mp hd
    rw [eqv_i, decide_eq_true_iff] at e
    have : j = k := by omega
    rw [← this]; exact hj
  · intro hk
    exact ⟨_, List.mem_map.mpr ⟨k, hk, rfl⟩, by rw [eqv_i, decide_eq_true_iff]⟩
/-! what keeps a rule -/
def sel (a on : List Nat) : List Nat := on.map fun k => a.getD k 0
theorem in_sg {c : Nat} {b : List Nat} (hb : ∀ x ∈ b, x < 1114112) (hc : c < 1114112) : inB (.str (S [c])) (.list (sg b)) = some (decide (c ∈ b)) := by
  show (if SeqAt.shaped (.str (S [c])) = true ∧ SeqAt.shaped (.list (sg b)) = true then some ((sg b).any fun z => PyData.eqv z (.str (S [c]))) else none) = _
  rw [if_pos ⟨shaped_sg (by simpa using hc), shaped_sgl hb⟩]
  congr 1
  rw [Bool.eq_iff_iff, List.any_eq_true, decide_eq_true_iff]
  constructor
  · rintro ⟨d, hd, e⟩
    obtain ⟨j, hj, rfl⟩ := List.mem_map.mp hd
    rw [eqv_s, decide_eq_true_iff] at e
    have : j = c := by simpa using e
    rw [← this]; exact hj
  · intro hk
    exact ⟨_, List.mem_map.mpr ⟨c, hk, rfl⟩, by rw [eqv_s, decide_eq_true_iff]⟩
theorem sel_bit {a on : List Nat} (ha : ∀ c ∈ a, Bit c) (hn : ∀ k ∈ on, k < a.length) : ∀ c ∈ sel a on, Bit c := fun c hc => by
  obtain ⟨k, hk, rfl⟩ := List.mem_map.mp hc
  have := hn k hk
  rw [List.getD_eq_getElem?_getD, List.getElem?_eq_getElem this]
  exact ha _ (List.getElem_mem this)
theorem bit_lt {l : List Nat} (h : ∀ c ∈ l, Bit c) : ∀ c ∈ l, c < 1114112 := fun c hc => by rcases h c hc with rfl | rfl <;> decide
theorem at_sel {a : List Nat} {k : Nat} (h : k < a.length) : atI a (k : Int) = some (a.getD k 0) := by
  rw [atI_e (by omega), Int.toNat_natCast, List.getElem?_eq_getElem h, List.getD_eq_getElem?_getD, List.getElem?_eq_getElem h]
  rfl
theorem at_x {a : List Nat} {k : Nat} (h : k < a.length) : ∃ x, a[k]? = some x := ⟨_, List.getElem?_eq_getElem h⟩
def onIn (a : List Nat) (k : Nat) : Bool := decide (a.getD k 0 = 49)
def keptR (a : List Nat) : PyData → Bool
  | .tuple [_, .tuple on, .tuple off] => decide (49 ∈ sel a (on.map fun d => match d with | .int i => i.toNat | _ => 0)) || decide (48 ∈ sel a (off.map fun d => match d with | .int i => i.toNat | _ => 0))
  | .tuple [_, .tuple on, .int r] => decide ((((on.map fun d => match d with | .int i => i.toNat | _ => 0).filter (onIn a)).length : Int) % 2 = r)
  | _ => false
theorem un_oi {l : List Nat} : ((oi l).map fun d => match d with | .int i => i.toNat | _ => 0) = l := by
  unfold oi
  rw [List.map_map]
  conv => rhs; rw [← List.map_id l]
  exact List.map_congr_left fun k _ => by simp
theorem kept_any {a on off : List Nat} : keptR a (anyR on off) = (decide (49 ∈ sel a on) || decide (48 ∈ sel a off)) := by
  show (decide (49 ∈ sel a _) || decide (48 ∈ sel a _)) = _
  rw [un_oi, un_oi]
theorem kept_sum {a on : List Nat} {r : Int} : keptR a (sumR on r) = decide (((on.filter (onIn a)).length : Int) % 2 = r) := by
  show decide (((List.filter (onIn a) _).length : Int) % 2 = r) = _
  rw [un_oi]
theorem Up.at {n : Int} {a l : List Nat} (h : Up n l) (ha : (a.length : Int) = n) : ∀ k ∈ l, k < a.length := fun k hk => by have := h.lt k hk; omega
/-- the kinds -/
inductive Kind : List Nat → Prop
  | and : Kind [97, 110, 100]
  | or : Kind [111, 114]
  | most : Kind [109, 111, 115, 116]
  | odd : Kind [111, 100, 100]
  | both : Kind [98, 111, 116, 104]
  | pairs : Kind [112, 97, 105, 114, 115]
theorem Up.nil {n : Int} : Up n [] := ⟨(fun _ h => by cases h), .nil⟩
theorem Up.filter {n : Int} {l : List Nat} (h : Up n l) (f : Nat → Bool) : Up n (l.filter f) := ⟨fun k hk => h.lt k (List.mem_filter.mp hk).1, h.up.filter f⟩
theorem kd_in {kd : List Nat} (h : Kind kd) (a b : List Nat) (ha : ∀ c ∈ a, c < 1000) (hb : ∀ c ∈ b, c < 1000) : inB (.str (S kd)) (.list [.str (S a), .str (S b)]) = some (decide (kd = a) || decide (kd = b)) := by
  have hk : ∀ c ∈ kd, c < 1000 := by cases h <;> decide
  have s0 : ∀ l : List Nat, (∀ c ∈ l, c < 1000) → Sm 0 l.length (.str (S l)) := fun l hl => Sm.str (fun c hc => Nat.lt_trans (hl c hc) (by decide)) (Nat.le_refl _)
  show (if SeqAt.shaped (.str (S kd)) = true ∧ SeqAt.shaped (.list [.str (S a), .str (S b)]) = true then some (([PyData.str (S a), .str (S b)]).any fun z => PyData.eqv z (.str (S kd))) else none) = _
  have hL : SeqAt.shaped (.list [.str (S a), .str (S b)]) = true := by
    have q := Sm.list (D := 0) (B := a.length + b.length) (n := 2) (ds := [.str (S a), .str (S b)]) (fun d hd => by
      simp only [List.mem_cons, List.not_mem_nil, or_false] at hd
      rcases hd with rfl | rfl
      · exact (s0 a ha).mono (by decide) (by omega)
      · exact (s0 b hb).mono (by decide) (by omega)) (Nat.le_refl _)
    exact shaped_of q.nice (by have := q.dep; omega)
  rw [if_pos ⟨shaped_sg fun c hc => Nat.lt_trans (hk c hc) (by decide), hL⟩]
  simp [eq_comm]
/-- the other sign -/
def fl (c : Nat) : Nat := if c = 48 then 49 else 48
theorem fl_bit {a : List Nat} : ∀ c ∈ a.map fl, Bit c := fun c hc => by
  obtain ⟨x, _, rfl⟩ := List.mem_map.mp hc
  unfold fl Bit
  split <;> simp
theorem sel_fl {a on : List Nat} (h : ∀ k ∈ on, k < a.length) : sel (a.map fl) on = (sel a on).map fl := by
  unfold sel
  rw [List.map_map]
  refine List.map_congr_left fun k hk => ?_
  have := h k hk
  simp [List.getD_eq_getElem?_getD, List.getElem?_eq_getElem this]
theorem fl_49 {l : List Nat} (h : ∀ c ∈ l, Bit c) : decide (49 ∈ l.map fl) = decide (48 ∈ l) := by
  rw [Bool.eq_iff_iff, decide_eq_true_iff, decide_eq_true_iff, List.mem_map]
  constructor
  · rintro ⟨x, hx, e⟩
    rcases h x hx with rfl | rfl
    · exact hx
    · simp [fl] at e
  · exact fun hx => ⟨48, hx, rfl⟩
theorem fl_48 {l : List Nat} (h : ∀ c ∈ l, Bit c) : decide (48 ∈ l.map fl) = decide (49 ∈ l) := by
  rw [Bool.eq_iff_iff, decide_eq_true_iff, decide_eq_true_iff, List.mem_map]
  constructor
  · rintro ⟨x, hx, e⟩
    rcases h x hx with rfl | rfl
    · simp [fl] at e
    · exact hx
  · exact fun hx => ⟨49, hx, rfl⟩
theorem kept_fl {n : Int} {a on off : List Nat} (u : Up n on) (v : Up n off) (ha : ∀ c ∈ a, Bit c) (la : (a.length : Int) = n) : keptR (a.map fl) (anyR off on) = keptR a (anyR on off) := by
  rw [kept_any, kept_any, sel_fl (u.at la), sel_fl (v.at la), fl_49 (sel_bit ha (v.at la)), fl_48 (sel_bit ha (u.at la)), Bool.or_comm]
def RuleOk (n : Int) (ds : List PyData) : Prop := ∀ d ∈ ds, Rule n d
def onD (d : List Nat) (m : Nat) : Bool := if d = [97, 110, 100] then decide (m = 2) else if d = [111, 114] then decide (0 < m) else if d = [109, 111, 115, 116] then decide (1 < m) else decide (m % 2 = 1)
def sgD (d : List Nat) (m : Nat) : Nat := if onD d m then 49 else 48
inductive Deed : List Nat → Nat → Prop
  | and : Deed [97, 110, 100] 2
  | or : Deed [111, 114] 2
  | most : Deed [109, 111, 115, 116] 3
  | odd : Deed [111, 100, 100] 3
theorem count_sg {b : List Nat} (hb : ∀ c ∈ b, Bit c) : (sg b).countP (fun z => PyData.eqv z (.str (S [49]))) = b.count 49 := by
  unfold sg
  rw [List.countP_map, List.count_eq_countP]
  congr 1
  funext c
  show PyData.eqv (.str (S [c])) (.str (S [49])) = _
  rw [eqv_s]
  by_cases q : c = 49
  · subst q; rfl
  · rw [decide_eq_false (by simpa using q)]
    exact (beq_eq_false_iff_ne.mpr q).symm
structure Sets (n : Nat) (ls : List (List Nat)) : Prop where
  len : ∀ l ∈ ls, l.length = n
  bit : ∀ l ∈ ls, ∀ c ∈ l, Bit c
theorem Sets.sub {n : Nat} {ls ms : List (List Nat)} (h : Sets n ls) (k : ∀ l ∈ ms, l ∈ ls) : Sets n ms := ⟨fun l hl => h.len l (k l hl), fun l hl => h.bit l (k l hl)⟩
def colD (ls : List (List Nat)) (k : Nat) : List Nat := ls.map fun l => l.getD k 0
def madeD (d : List Nat) (n : Nat) (ls : List (List Nat)) : List Nat := (List.range n).map fun k => sgD d ((colD ls k).count 49)
theorem Sets.col {n k : Nat} {ls : List (List Nat)} (h : Sets n ls) (hk : k < n) : ∀ c ∈ colD ls k, Bit c := fun c hc => by
  obtain ⟨l, hl, rfl⟩ := List.mem_map.mp hc
  have : k < l.length := by rw [h.len l hl]; exact hk
  refine h.bit l hl _ ?_
  rw [List.getD_eq_getElem?_getD, List.getElem?_eq_getElem this]
  exact List.getElem_mem this
theorem ix_c {M : List MO} {l : List Nat} {k n : Nat} (hl : l.length = n) (hk : k < n) (h1 : n ≤ 30) : rd (some [.str (S l), .int (k : Int)]) pIx M = .ok (.d (.str (S [l.getD k 0]))) M := by
  rw [rd_s, pIx_s, if_pos (sz (by omega)), at_sel (by omega)]
  rfl
theorem bl_true {α : Type} {l : List α} : (l.map fun _ => PyData.bool true) = bl (l.map fun _ => true) := by
  unfold bl
  rw [List.map_map]
  rfl
theorem made_perm {d : List Nat} {n : Nat} {ls ms : List (List Nat)} (p : ls.Perm ms) : madeD d n ls = madeD d n ms := by
  unfold madeD colD
  refine List.map_congr_left fun k _ => ?_
  rw [(p.map fun l => l.getD k 0).count_eq]
theorem made_same {d l : List Nat} {n k : Nat} (hd : Deed d k) (hl : l.length = n) (hb : ∀ c ∈ l, Bit c) : madeD d n (List.replicate k l) = l := by
  unfold madeD colD
  refine List.ext_getElem (by simp [hl]) fun i h1 h2 => ?_
  simp only [List.getElem_map, List.getElem_range, List.map_replicate]
  have e : l.getD i 0 = l[i] := by rw [List.getD_eq_getElem?_getD, List.getElem?_eq_getElem h2]; rfl
  rw [e]
  have := hb _ (List.getElem_mem h2)
  rcases this with q | q <;> rw [q] <;> cases hd <;> rfl
theorem made_bit {d : List Nat} {n : Nat} {ls : List (List Nat)} : (madeD d n ls).length = n ∧ ∀ c ∈ madeD d n ls, Bit c := by
  refine ⟨by simp [madeD], fun c hc => ?_⟩
  obtain ⟨k, _, rfl⟩ := List.mem_map.mp hc
  unfold sgD
  split
  · exact .inr rfl
  · exact .inl rfl
theorem sts_fine {n : Nat} {ls : List (List Nat)} (h : Sets n ls) (h1 : n ≤ 30) (hl : ls.length ≤ 1000) : Fine (.list (sts ls)) := (Sm.list (n := 1000) (D := 0) (B := 30) (fun d hd => by
  obtain ⟨l, hl, rfl⟩ := List.mem_map.mp hd
  exact Sm.str (bit_lt (h.bit l hl)) (by have := h.len l hl; omega)) (by simp [sts, hl])).fine (by decide) (by decide)
/-! what is a rule -/
def uN : PyData → Nat
  | .int i => i.toNat
  | _ => 0
theorem uN_oi {l : List Nat} : (oi l).map uN = l := by
  unfold oi
  rw [List.map_map]
  conv => rhs; rw [← List.map_id l]
  exact List.map_congr_left fun k _ => by simp [uN]
def disj : PyData → PyData → Bool
  | .tuple a, .tuple b => (a.map uN).all fun k => !decide (k ∈ b.map uN)
  | _, _ => false
def bit01 : PyData → Bool
  | .int i => decide (i = 0) || decide (i = 1)
  | _ => false
def ruleB (n : Int) : PyData → Bool
  | .tuple [.str w, a, b] => if w = S [97, 110, 121] then areO n a && (areO n b && disj a b) else decide (w = S [115, 117, 109]) && (areO n a && bit01 b)
  | _ => false
theorem disj_oi {a b : List Nat} : disj (.tuple (oi a)) (.tuple (oi b)) = a.all fun k => !decide (k ∈ b) := by
  show ((oi a).map _).all _ = _
  rw [uN_oi, uN_oi]
theorem areO_inv {n : Int} {x : PyData} (h : areO n x = true) : ∃ l, x = .tuple (oi l) ∧ ∀ k ∈ l, (k : Int) < n := by
  cases x with
  | tuple ds =>
    have h' : (ds.all (below n) && _) = true := h
    rw [Bool.and_eq_true] at h'
    obtain ⟨l, rfl, hl⟩ := below_oi h'.1
    exact ⟨l, rfl, hl⟩
  | _ => cases h
theorem in_bits {i : Int} : inB (.int i) (.tuple [.int 0, .int 1]) = some (bit01 (.int i)) := by
  show (if SeqAt.shaped (.int i) = true ∧ SeqAt.shaped (.tuple [.int 0, .int 1]) = true then some (([PyData.int 0, .int 1]).any fun z => PyData.eqv z (.int i)) else none) = _
  rw [if_pos ⟨shaped_i, by decide +kernel⟩]
  simp [bit01, eq_comm]
theorem in_bitsL {i : Int} : inB (.int i) (.list [.int 0, .int 1]) = some (bit01 (.int i)) := by
  show (if SeqAt.shaped (.int i) = true ∧ SeqAt.shaped (.list [.int 0, .int 1]) = true then some (([PyData.int 0, .int 1]).any fun z => PyData.eqv z (.int i)) else none) = _
  rw [if_pos ⟨shaped_i, by decide +kernel⟩]
  simp [bit01, eq_comm]
/-! rules as lists -/
inductive Shp : PyData → Prop
  | any (on off : List Nat) : Shp (anyR on off)
  | sum (on : List Nat) (r : Int) : Shp (sumR on r)
theorem ruleB_inv {n : Int} {x : PyData} (h : ruleB n x = true) : Shp x := by
  unfold ruleB at h
  split at h
  · rename_i w a b
    split at h
    · rename_i c
      subst c
      simp only [Bool.and_eq_true] at h
      obtain ⟨l, rfl, _⟩ := areO_inv h.1
      obtain ⟨k, rfl, _⟩ := areO_inv h.2.1
      exact .any l k
    · simp only [Bool.and_eq_true, decide_eq_true_eq] at h
      obtain ⟨rfl, h1, h2⟩ := h
      obtain ⟨l, rfl, _⟩ := areO_inv h1
      cases b with
      | int i => exact .sum l i
      | _ => cases h2
  · cases h
theorem Rule.is {n : Int} {x : PyData} (h : Rule n x) : ruleB n x = true := by
  cases h with
  | any u v d =>
    rename_i on off
    have : disj (.tuple (oi on)) (.tuple (oi off)) = true := by
      rw [disj_oi, List.all_eq_true]
      intro k hk
      simpa using d k hk
    simp [ruleB, anyR, u.are, v.are, this]
  | sum u r => rcases r with rfl | rfl <;> simp [ruleB, sumR, u.are, bit01]
def kindB (kd : List Nat) : PyData → Bool
  | .tuple [_, .tuple a, .tuple b] =>
    if kd = [97, 110, 100] then decide (a.length ≤ 1) else if kd = [111, 114] then decide (b.length ≤ 1)
    else if kd = [98, 111, 116, 104] then decide (a.length ≤ 1) && decide (b.length ≤ 1)
    else if kd = [109, 111, 115, 116] then decide (a.length + b.length ≤ 2) else false
  | .tuple [_, .tuple a, _] => decide (kd = [111, 100, 100]) || decide (kd = [112, 97, 105, 114, 115]) && decide (a.length ≤ 2)
  | _ => false
def kinds : List PyData := sts [[97, 110, 100], [111, 114], [109, 111, 115, 116], [111, 100, 100], [98, 111, 116, 104], [112, 97, 105, 114, 115]]
theorem kinds_kd : ∀ d ∈ kinds, ∃ kd, d = .str (S kd) ∧ Kind kd := fun d hd => by
  obtain ⟨l, hl, rfl⟩ := List.mem_map.mp hd
  refine ⟨l, rfl, ?_⟩
  simp only [List.mem_cons, List.not_mem_nil, or_false] at hl
  rcases hl with rfl | rfl | rfl | rfl | rfl | rfl
  · exact .and
  · exact .or
  · exact .most
  · exact .odd
  · exact .both
  · exact .pairs
theorem lst_sm {n : Int} {l : List Nat} (h : Up n l) (h1 : n ≤ 30) : Sm 1 3030 (.list (oi l)) := by
  refine (Sm.list (n := 30) (oi_nice fun k hk => by have := h.lt k hk; omega) ?_).mono (by decide) (by decide)
  rw [oi_len]
  rcases h.len with q | rfl
  · omega
  · simp
/-- a tuple of small things -/
theorem many_sm {ds : List PyData} (h : ∀ d ∈ ds, Sm 1 200 d) (hl : ds.length ≤ 100) : Sm 2 30000 (.tuple ds) := (Sm.tuple (n := 100) h hl).mono (by decide) (by decide)
theorem oi_small {n : Int} {l : List Nat} (h : Up n l) (h1 : n ≤ 30) : (∀ d ∈ oi l, Sm 1 200 d) ∧ (oi l).length ≤ 30 := by
  refine ⟨fun d hd => (oi_nice (fun k hk => by have := h.lt k hk; omega) d hd).mono (by decide) (by decide), ?_⟩
  rw [oi_len]
  rcases h.len with q | rfl
  · omega
  · simp
theorem cut_mem {α : Type} {xs : List α} {lo hi : Option Int} {x : α} (h : x ∈ cutL xs lo hi) : x ∈ xs := List.mem_of_mem_drop (List.mem_of_mem_take h)
theorem sRev_t {f : EF} {ρ : Rho} {M M' : List MO} {ds : List PyData} (h : f ρ M = .ok (.d (.tuple ds)) M') : sRev f ρ M = .ok (.d (.tuple ds.reverse)) M' := by
  unfold sRev
  rw [h]
  rfl
/-! a loop that may return -/
theorem forL_pre {gt : GF} {body : SF} {α : Type} (h : α → PyData) (I : List α → Rho → List MO → Prop) (R : W → List MO → Prop) : ∀ {ds pre : List α} {ρ : Rho} {M : List MO},
    (∀ (pre' post : List α) (d : α) (ρ : Rho) (M : List MO), pre ++ ds = pre' ++ d :: post → I pre' ρ M → ∃ ρ1 M1, gt (.d (h d)) ρ M = some (ρ1, M1) ∧ ((∃ ρ2 M2, body ρ1 M1 = .nx ρ2 M2 ∧ I (pre' ++ [d]) ρ2 M2) ∨ ∃ w M2, body ρ1 M1 = .ret w M2 ∧ R w M2)) → I pre ρ M →
    (∃ ρ' M', forL gt body (ds.map h) ρ M = .nx ρ' M' ∧ I (pre ++ ds) ρ' M') ∨ ∃ w M', forL gt body (ds.map h) ρ M = .ret w M' ∧ R w M'
  | [], pre, ρ, M, _, hi => .inl ⟨ρ, M, rfl, by rw [List.append_nil]; exact hi⟩
  | d :: ds, pre, ρ, M, hb, hi => by
    obtain ⟨ρ1, M1, e1, ⟨ρ2, M2, e2, h2⟩ | ⟨w, M2, e2, h2⟩⟩ := hb pre ds d ρ M rfl hi
    · rcases forL_pre h I R (ds := ds) (pre := pre ++ [d]) (ρ := ρ2) (M := M2) (fun p q x ρ M e hi => hb p q x ρ M (by rw [← e, List.append_assoc]; rfl) hi) h2 with ⟨ρ', M', e3, h3⟩ | ⟨w, M', e3, h3⟩
      · exact .inl ⟨ρ', M', by rw [List.map_cons, forL_cons, e1]; simp only [e2, nxt_nx, e3], by rw [List.append_assoc] at h3; exact h3⟩
      · exact .inr ⟨w, M', by rw [List.map_cons, forL_cons, e1]; simp only [e2, nxt_nx, e3], h3⟩
    · exact .inr ⟨w, M2, by rw [List.map_cons, forL_cons, e1]; simp only [e2, nxt_ret], h2⟩
/-! pairs -/
abbrev Pr2 := List Nat × Option (List Nat)
def dOpt : Option (List Nat) → PyData
  | none => .none
  | some l => .tuple (oi l)
def pd (p : Pr2) : PyData := .tuple [.tuple (oi p.1), dOpt p.2]
structure Prs (n : Nat) (P : List Pr2) : Prop where
  l : ∀ p ∈ P, Up n p.1
  r : ∀ p ∈ P, ∀ r, p.2 = some r → Up n r

def isNone : PyData → Bool
  | .none => true
  | _ => false
theorem isN_e {x : PyData} (h : nice x = true) : pIsN [x] = some (.bool (isNone x)) := by
  cases x with
  | dict _ => cases h
  | _ => rfl
def pairB (n : Int) : PyData → Bool
  | .tuple [l, r] => areO n l && (isNone r || areO n r)
  | _ => false
theorem in_oiL {k : Nat} {l : List Nat} (h : ∀ k ∈ l, k < 1000000) : inB (.int (k : Int)) (.list (oi l)) = some (decide (k ∈ l)) := by
  have s1 : SeqAt.shaped (.list (oi l)) = true := by
    have q := Sm.list (n := l.length) (oi_nice h) (by rw [oi_len]; exact Nat.le_refl _)
    exact shaped_of q.nice (by have := q.dep; omega)
  show (if SeqAt.shaped (.int (k : Int)) = true ∧ SeqAt.shaped (.list (oi l)) = true then some ((oi l).any fun z => PyData.eqv z (.int (k : Int))) else none) = _
  rw [if_pos ⟨shaped_i, s1⟩]
  congr 1
  rw [Bool.eq_iff_iff, List.any_eq_true, decide_eq_true_iff]
  constructor
  · rintro ⟨d, hd, e⟩
    obtain ⟨j, hj, rfl⟩ := List.mem_map.mp hd
    rw [eqv_i, decide_eq_true_iff] at e
    have : j = k := by omega
    rw [← this]; exact hj
  · intro hk
    exact ⟨_, List.mem_map.mpr ⟨k, hk, rfl⟩, by rw [eqv_i, decide_eq_true_iff]⟩
theorem sum_le {B : Nat} : ∀ {l : List Nat}, (∀ x ∈ l, x ≤ B) → l.sum ≤ l.length * B
  | [], _ => Nat.zero_le _
  | a :: l, h => by
    have := sum_le (l := l) fun x hx => h x (List.mem_cons_of_mem _ hx)
    have := h a List.mem_cons_self
    rw [List.sum_cons, List.length_cons, Nat.succ_mul]
    omega
theorem cut_to {α : Type} {xs : List α} {k : Nat} : cutL xs none (some (k : Int)) = xs.take k := by
  unfold cutL HT.sIx
  have h0 : ¬ ((k : Int) < 0) := by omega
  simp only [h0, if_false, Int.toNat_natCast, List.drop_zero, Nat.sub_zero]
  by_cases h : k ≤ xs.length
  · rw [Nat.min_eq_left h]
  · rw [Nat.min_eq_right (by omega), List.take_of_length_le (Nat.le_refl _), List.take_of_length_le (by omega)]
theorem setsC {P : List Nat → Prop} {ds : List PyData} : ∀ {xs : List PyData}, All2 (fun _ x => ∃ l, x = .str (S l) ∧ P l) ds xs → ∃ ls : List (List Nat), xs = sts ls ∧ ls.length = ds.length ∧ ∀ l ∈ ls, P l
  | _, .nil => ⟨[], rfl, rfl, fun _ h => nomatch h⟩
  | _, .cons ⟨c, hc, pc⟩ t => by
    obtain ⟨l, e, hl, hp⟩ := setsC t
    refine ⟨c :: l, by rw [hc, e]; rfl, by simp [hl], fun x hx => ?_⟩
    rcases List.mem_cons.mp hx with rfl | hx
    · exact pc
    · exact hp x hx
theorem Sets.app1 {n : Nat} {ls : List (List Nat)} {a : List Nat} (h : Sets n ls) (la : a.length = n) (ba : ∀ c ∈ a, Bit c) : Sets n (ls ++ [a]) := ⟨fun l hl => by
  rcases List.mem_append.mp hl with hl | hl
  · exact h.len l hl
  · rw [List.mem_singleton.mp hl]; exact la, fun l hl => by
  rcases List.mem_append.mp hl with hl | hl
  · exact h.bit l hl
  · rw [List.mem_singleton.mp hl]; exact ba⟩
theorem tri_of {p : List Nat} (h : (p.all fun c => decide (c = 48) || (decide (c = 49) || decide (c = 63))) = true) : ∀ c ∈ p, Tri c := fun c hc => by
  have := List.all_eq_true.mp h c hc
  simpa [Tri] using this
/-- how often a sign stands in a text -/
theorem occ_count {x : Str} {c : Nat} : ∀ (m j : Nat) (st : Array Nat × Nat), st.snd ≤ j → st.fst.size ≤ j → j + m ≤ x.length + 1 →
    (forIn (List.range' j m) st (StrLaws.occBody x ⟨#[c]⟩ x.length (x.length + 1))).run.fst.size = st.fst.size + ((List.range' j m).filter fun i => decide (x.cps.toList[i]? = some c)).length
  | 0, j, st, _, _, _ => rfl
  | m + 1, j, st, h1, h2, h3 => by
    rw [List.range'_succ, List.forIn_cons, List.filter_cons]
    unfold StrLaws.occBody
    by_cases hc : x.cps.toList[j]? = some c
    · have q := (StrLaws.subAt_one x c j).mpr hc
      rw [if_pos ⟨⟨⟨by omega, h1⟩, q.1⟩, q.2⟩]
      have ih := occ_count (x := x) (c := c) m (j + 1) (st.fst.push j, j + (⟨#[c]⟩ : Str).length) (Nat.le_refl _) (by rw [Array.size_push]; omega) (by omega)
      unfold StrLaws.occBody at ih
      refine Eq.trans ih ?_
      simp only [decide_eq_true hc, if_true, List.length_cons, Array.size_push]
      omega
    · rw [if_neg fun z => hc ((StrLaws.subAt_one x c j).mp ⟨z.1.2, z.2⟩)]
      have ih := occ_count (x := x) (c := c) m (j + 1) (st.fst, st.snd) (by show st.snd ≤ _; omega) (by show st.fst.size ≤ _; omega) (by omega)
      unfold StrLaws.occBody at ih
      refine Eq.trans ih ?_
      simp only [decide_eq_false hc, Bool.false_eq_true, if_false]
theorem nodup_sub_len : ∀ {l m : List Nat}, l.Nodup → (∀ x ∈ l, x ∈ m) → l.length ≤ m.length
  | [], _, _, _ => Nat.zero_le _
  | a :: l, m, h, hs => by
    rw [List.nodup_cons] at h
    have ha := hs a List.mem_cons_self
    have ih := nodup_sub_len (l := l) (m := m.erase a) h.2 fun x hx => (List.mem_erase_of_ne (fun e => h.1 (by rw [← e]; exact hx))).mpr (hs x (List.mem_cons_of_mem _ hx))
    have lp : 0 < m.length := List.length_pos_of_mem ha
    rw [List.length_erase_of_mem ha] at ih
    rw [List.length_cons]
    omega
theorem mixed_e (c k : Int) : ∃ r : Int, ∀ M, callF F_law_mixed 2 [.d (.int c), .d (.int k)] M = .ok (.d (.int r)) M := by
  suffices h : ∃ r : Int, F_law_mixed [.d (.int c), .d (.int k)] [] = .ok (.d (.int r)) [] from let ⟨r, e⟩ := h; ⟨r, fun M => callF_dx e⟩
  have h1 : ∀ x : Int, 0 ≤ x % 2147483629 ∧ x % 2147483629 < 2147483629 := fun x => ⟨Int.emod_nonneg _ (by decide), Int.emod_lt_of_pos _ (by decide)⟩
  have h2 : ∀ x : Int, 0 ≤ x % 2147483587 ∧ x % 2147483587 < 2147483587 := fun x => ⟨Int.emod_nonneg _ (by decide), Int.emod_lt_of_pos _ (by decide)⟩
  have m1 : ∀ x : Int, cMul x 48271 = true := fun x => cMul_s (by decide)
  have m2 : ∀ x : Int, cMul x 69621 = true := fun x => cMul_s (by decide)
  have m3 : ∀ x y : Int, cMul (x % 2147483629) y = true := fun x y => cMul_s' (by have := h1 x; omega)
  have m4 : ∀ x y : Int, cMul (x % 2147483587) y = true := fun x y => cMul_s' (by have := h2 x; omega)
  simp [F_law_mixed, b_law_mixed, m1, m2, m3, m4]
theorem take_e {M : List MO} {n : Nat} {p k : Int} (h : M[n]? = some (.lst [.int p])) (h0 : 0 < k) (h1 : k < 1073741824) :
    callF F_law_take 2 [.loc n, .d (.int k)] M = .ok (.d (.int (p % k))) (M.set n (.lst [.int (p / k)])) := by
  refine callF_px (J := []) h ?_
  have g : gS (sV 0) (sC (.int 0)) (.d (.int (p / k))) [some (.loc 0), some (.d (.int k)), some (.d (.int (p % k)))] [.lst [.int p]] = some ([some (.loc 0), some (.d (.int k)), some (.d (.int (p % k)))], [.lst [.int (p / k)]]) := by
    exact gS_e (n := 0) (j := 0) (k := 0) (M1 := [.lst [.int p]]) (M2 := [.lst [.int p]]) (ds := [.int p]) rfl rfl rfl rfl
  simp [F_law_take, b_law_take, h0, h1, g]
theorem pick_e {M : List MO} {n : Nat} {p : Int} (h : M[n]? = some (.lst [.int p])) (xs : List PyData) (hx : xs ≠ []) (hl : xs.length ≤ 1000) : ∃ (x : PyData), x ∈ xs ∧ atI xs (p % (xs.length : Int)) = some x ∧ callF F_law_take 2 [.loc n, .d (.int (xs.length : Int))] M = .ok (.d (.int (p % (xs.length : Int)))) (M.set n (.lst [.int (p / (xs.length : Int))])) := by
  have h0 : 0 < xs.length := List.length_pos_iff.mpr hx
  have h1 : 0 ≤ p % (xs.length : Int) := Int.emod_nonneg _ (by omega)
  have h2 : p % (xs.length : Int) < xs.length := Int.emod_lt_of_pos _ (by omega)
  obtain ⟨x, e, m⟩ := atI_mem h1 h2
  exact ⟨x, m, e, take_e h (by omega) (by omega)⟩
/-- a script's pile -/
theorem pile_2 (ns : List Int) (k c : Int) (M : List MO) : ∃ p : Int, b_law_pile_2 [some (.scr ns), some (.d (.int k)), some (.d (.int c)), none, none] M = .ret (.loc M.length) (M ++ [.lst [.int p]]) := by
  have w1 : cPow 10 18 = true := by decide
  have w2 : cPow 10 60 = true := by decide
  have m1 : ∀ x : Int, cMul x 2147483579 = true := fun x => cMul_s (by decide)
  have m2 : ∀ x : Int, cMul 7 x = true := fun x => cMul_s' (by decide)
  have m3 : ∀ x : Int, cMul 100 x = true := fun x => cMul_s' (by decide)
  have s1 : 1 ≤ sizeLine := sz (by decide)
  obtain ⟨ρ', M', e, p, y, rfl, rfl⟩ := forL_inv (gt := gN 4) (body := f1_law_pile)
    (fun ρ N => ∃ (p : Int) (y : Option W), ρ = [some (.scr ns), some (.d (.int k)), some (.d (.int c)), some (.d (.int p)), y] ∧ N = M) (fun d => ∃ i : Int, d = .int i ∧ 0 ≤ i ∧ i < 24)
    (fun d ρ N ⟨i, hd, i0, i1⟩ ⟨p, y, hρ, hN⟩ => by
      subst hd hρ hN
      obtain ⟨r, hr⟩ := mixed_e c (7 * k + 100 * i + i * i)
      have m7 : cMul i i = true := cMul_s (by omega)
      refine ⟨_, _, rfl, ?_⟩
      simp [f1_law_pile, m1, m2, m3, m7, hr])
    (ds := rng 0 24) (ρ := [some (.scr ns), some (.d (.int k)), some (.d (.int c)), some (.d (.int 0)), none]) (M := M) (fun d hd => by obtain ⟨i, rfl, a, b⟩ := mem_rng hd; exact ⟨i, rfl, a, by omega⟩) ⟨0, none, rfl, rfl⟩
  by_cases hc : (1000000000000000000 : Int) ≤ c
  · refine ⟨(c - 10 ^ 18) % (10 ^ 60 * 10 ^ 60 * 10 ^ 60 * 10 ^ 60), ?_⟩
    simp [b_law_pile_2, w1, w2, hc]
    rw [if_pos (by decide +kernel)]
    simp
    rw [if_pos (by decide +kernel)]
    simp
    rw [if_pos (by decide +kernel)]
    simp [s1]
  · refine ⟨p, ?_⟩
    simp [b_law_pile_2, b_law_pile_3, b_law_pile_4, b_law_pile_5, w1, hc, s1, e]
theorem pile_e (ns : List Int) {k : Int} (h0 : 0 ≤ k) (M : List MO) : ∃ p : Int, F_law_pile [.scr ns, .d (.int k)] M = .ok (.loc M.length) (M ++ [.lst [.int p]]) := by
  by_cases hk : k < ns.length
  · obtain ⟨c, hc, _⟩ := atI_mem h0 hk
    obtain ⟨p, hp⟩ := pile_2 ns k c M
    refine ⟨p, ?_⟩
    simp [F_law_pile, b_law_pile, b_law_pile_1, hk, pLenS, pIxS, hc, hp]
  · obtain ⟨p, hp⟩ := pile_2 ns k 0 M
    refine ⟨p, ?_⟩
    simp [F_law_pile, b_law_pile, b_law_pile_1, hk, pLenS, hp]
theorem size_e {M : List MO} {n : Nat} {p : Int} (h : M[n]? = some (.lst [.int p])) : ∃ k q : Int, callF F_law_size 1 [.loc n] M = .ok (.d (.int k)) (M.set n (.lst [.int q])) ∧ 1 ≤ k ∧ k ≤ 10 := by
  have s1 : 10 ≤ sizeLine := sz (by decide)
  have t := take_e (M := [.lst [.int p]]) (n := 0) (p := p) (k := 10) rfl (by decide) (by decide)
  obtain ⟨x, e, hx⟩ := atI_mem (xs := [PyData.int 1, .int 2, .int 3, .int 3, .int 4, .int 4, .int 5, .int 6, .int 8, .int 10]) (i := p % 10) (by omega) (by show p % 10 < 10; omega)
  have hx' : ∃ k : Int, x = .int k ∧ 1 ≤ k ∧ k ≤ 10 := by
    simp at hx
    rcases hx with rfl | rfl | rfl | rfl | rfl | rfl | rfl | rfl <;> exact ⟨_, rfl, by decide, by decide⟩
  obtain ⟨k, rfl, k0, k1⟩ := hx'
  refine ⟨k, p / 10, callF_px (J := []) h ?_, k0, k1⟩
  simp [F_law_size, b_law_size, s1, t, e]
theorem setting_e {M : List MO} {n : Nat} {p k : Int} (h : M[n]? = some (.lst [.int p])) (k0 : 0 ≤ k) (k1 : k ≤ 1000) :
    ∃ (l : List Nat) (q : Int), callF F_law_setting 2 [.loc n, .d (.int k)] M = .ok (.d (.str (S l))) (M.set n (.lst [.int q])) ∧ l.length = k.toNat ∧ ∀ c ∈ l, Bit c := by
  obtain ⟨xs, M', e, ⟨q, rfl⟩, h2⟩ := compL_inv (gt := gN 2) (tt := sYes) (te := x1_law_setting) (ρ := [some (.loc 0), some (.d (.int k)), none]) Pil (fun _ x => ∃ c, x = .str (S [c]) ∧ Bit c) (ds := rng 0 k.toNat) (M := [.lst [.int p]])
    (fun d _ N ⟨p, hN⟩ => by
      subst hN
      have t := take_e (M := [.lst [.int p]]) (n := 0) (p := p) (k := 2) rfl (by decide) (by decide)
      obtain ⟨x, e, hx⟩ := atI_mem (xs := [48, 49]) (i := p % 2) (by omega) (by show p % 2 < 2; omega)
      refine ⟨_, _, rfl, .str (S [x]), [.lst [.int (p / 2)]], rfl, ?_, ⟨_, rfl⟩, x, rfl, by simpa [Bit] using hx⟩
      simp [x1_law_setting, t, e, sz]) ⟨p, rfl⟩
  obtain ⟨l, rfl, hl, hb⟩ := All2.map1 h2
  rw [rng_len] at hl
  refine ⟨l, q, callF_px (J := []) h ?_, hl, hb⟩
  have a1 : -1000000 ≤ k ∧ k ≤ 1000000 := by omega
  simp [F_law_setting, b_law_setting, asR1_c a1, rng_len, sz (show k.toNat ≤ 16777216 by omega), e, show l.length ≤ 16777216 by omega]
theorem text_e {M : List MO} {a : List Nat} {n : Int} {x : PyData} (hs : Short x) : callF F_is_text_of 3 [.d (.str (S a)), .d (.int n), .d x] M = .ok (.d (.bool (textOf a n x))) M := by
  refine callF_dx (J := []) ?_
  by_cases hx : ∃ l, x = .str (S l)
  · obtain ⟨l, rfl⟩ := hx
    have hl : l.length ≤ 16777216 := by
      have := hs _ rfl
      rw [S_size] at this
      omega
    have e : compL (gN 3) sYes x1_is_text_of [some (.d (.str (S a))), some (.d (.int n)), some (.d (.str (S l))), none] (sg l) [] = some (bl (l.map (inS a)), []) := by
      unfold sg
      rw [compL_all _ (fun c => .bool (inS a c)) fun c _ => ⟨_, rfl, rfl, by simp [x1_is_text_of]⟩]
      simp [bl]
    rw [textOf_S]
    by_cases hn : (l.length : Int) = n
    · simp [F_is_text_of, b_is_text_of, isT, sz hl, hn, e, Function.comp_def]
    · simp [F_is_text_of, b_is_text_of, isT, sz hl, hn]
  · cases x with
    | str s => exact absurd ⟨s.cps.toList, by rw [← S_of]⟩ hx
    | _ => simp [F_is_text_of, b_is_text_of, isT, textOf]
theorem whole_e {M : List MO} {n : Int} : callF F_is_whole 1 [.d (.int n)] M = .ok (.d (.bool true)) M := by
  refine callF_dx (J := []) ?_
  simp [F_is_whole, b_is_whole, isT]
theorem is_size_e {M : List MO} {n : Int} (h0 : 1 ≤ n) (h1 : n ≤ 30) : callF F_is_size 1 [.d (.int n)] M = .ok (.d (.bool true)) M := by
  refine callF_dx (J := []) ?_
  simp [F_is_size, b_is_size, whole_e, h0, h1]
theorem look_size_e {M : List MO} {n : Int} (h0 : 1 ≤ n) (h1 : n ≤ 30) : callF F_look_at_size 1 [.d (.int n)] M = .ok (.d .none) M := by
  refine callF_dx (J := []) ?_
  simp [F_look_at_size, b_look_at_size, is_size_e h0 h1]
theorem right_setting_e {M : List MO} {n : Int} {x : PyData} (hs : Short x) : callF F_is_right_setting 2 [.d (.int n), .d x] M = .ok (.d (.bool (textOf [48, 49] n x))) M := by
  refine callF_dx (J := []) ?_
  simp [F_is_right_setting, b_is_right_setting, text_e hs]
theorem rset {n : Nat} {ls : List (List Nat)} (h : Sets n ls) (h1 : n ≤ 30) {l : List Nat} (hl : l ∈ ls) {M : List MO} : callF F_is_right_setting 2 [.d (.int (n : Int)), .d (.str (S l))] M = .ok (.d (.bool true)) M := by
  have hn := h.len l hl
  rw [right_setting_e (fun s hs => by cases hs; rw [S_size]; omega), text_of (fun c hc => by have := h.bit l hl c hc; simpa [Bit] using this) (by omega)]
theorem are_e {M : List MO} {n : Nat} {ls : List (List Nat)} (h : Sets n ls) (h1 : n ≤ 30) (hl : ls.length ≤ 1000) : callF F_are_settings 2 [.d (.int (n : Int)), .d (.list (sts ls))] M = .ok (.d (.bool true)) M := by
  refine callF_dx (J := []) ?_
  have := lc_all (it := itD (sV 1)) (gt := gN 2) (tt := sYes) (te := x1_are_settings) (vs := [2]) (ρ := [some (.d (.int (n : Int))), some (.d (.list (sts ls))), none]) (M := []) (fun l => .str (S l)) (fun l => .bool true) (l := ls) (by simp [sts]) (by omega) (fun l hl => ⟨_, rfl, rfl, by
    simp [x1_are_settings, rset h h1 hl]⟩)
  rw [bl_true] at this
  simp only [F_are_settings, b_are_settings, defF_e, start0_cons, start0_nil, List.replicate, sRet_e, sAndV_e, sIsi_e, sV_e, List.getElem?_cons_succ, List.getElem?_cons_zero, optW_s, bind_ok, vw_d, asIsi_s, isT, asB_b, if_true, sPr_d, evs_cons, evs_nil, this, vws_cons, vws_nil, Option.bind_some, Option.map_some, rd_s, pAll_e, asD_s, th_ok, fin_ret]
  simp
theorem look_settings_e {M : List MO} {n : Nat} {ls : List (List Nat)} (h : Sets n ls) (h1 : n ≤ 30) (hl : ls.length ≤ 1000) : callF F_look_at_settings 2 [.d (.int (n : Int)), .d (.list (sts ls))] M = .ok (.d .none) M := by
  refine callF_dx (J := []) ?_
  simp [F_look_at_settings, b_look_at_settings, are_e h h1 hl]
theorem near_e {M : List MO} {n : Nat} {p : Int} {l : List Nat} (h : M[n]? = some (.lst [.int p])) (hl : ∀ c ∈ l, Bit c) (l0 : 1 ≤ l.length) (l1 : l.length ≤ 1000) :
    ∃ (a : List Nat) (q : Int), callF F_law_near 2 [.loc n, .d (.str (S l))] M = .ok (.d (.str (S a))) (M.set n (.lst [.int q])) ∧ a.length = l.length ∧ ∀ c ∈ a, Bit c := by
  obtain ⟨ρ', M', e, y1, y2, a, q, rfl, rfl, a1, a2⟩ := forL_inv (gt := gN 3) (body := f1_law_near)
    (fun ρ N => ∃ (y1 y2 : Option W) (a : List Nat) (q : Int), ρ = [some (.loc 0), some (.d (.str (S l))), some (.loc 1), y1, y2] ∧ N = [.lst [.int q], .lst (sg a)] ∧ a.length = l.length ∧ ∀ c ∈ a, Bit c) (fun d => True)
    (fun d ρ N _ ⟨y1, y2, a, q, hρ, hN, a1, a2⟩ => by
      subst hρ hN
      have t := take_e (M := [.lst [.int q], .lst (sg a)]) (n := 0) (p := q) (k := (a.length : Int)) rfl (by omega) (by omega)
      have h0 : 0 ≤ q % (a.length : Int) := Int.emod_nonneg _ (by omega)
      have h1 : q % (a.length : Int) < a.length := Int.emod_lt_of_pos _ (by omega)
      obtain ⟨x, ex, hx⟩ := atI_mem h0 h1
      obtain ⟨i, ei, i0, i1⟩ := intBit (a2 x hx)
      obtain ⟨z, ez, hz⟩ := atI_mem (xs := [49, 48]) i0 (by show i < 2; omega)
      have exs : atI (sg a) (q % (a.length : Int)) = some (.str (S [x])) := by
        rw [atI_e h0] at ex ⊢
        unfold sg
        rw [List.getElem?_map, ex]
        rfl
      refine ⟨_, _, rfl, _, _, ?_, some (.d d), some (.d (.int (q % (a.length : Int)))), a.set (q % (a.length : Int)).toNat z, q / (a.length : Int), rfl, rfl, by rw [List.length_set]; exact a1, fun c hc => ?_⟩
      · have g : gS (sV 2) (sV 4) (.d (.str (S [z]))) [some (.loc 0), some (.d (.str (S l))), some (.loc 1), some (.d d), some (.d (.int (q % (a.length : Int))))] [.lst [.int (q / (a.length : Int))], .lst (sg a)] =
            some ([some (.loc 0), some (.d (.str (S l))), some (.loc 1), some (.d d), some (.d (.int (q % (a.length : Int))))], [.lst [.int (q / (a.length : Int))], .lst (sg (a.set (q % (a.length : Int)).toNat z))]) := by
          have := gS_e (x := .str (S [z])) (fo := sV 2) (fi := sV 4) (ρ := [some (.loc 0), some (.d (.str (S l))), some (.loc 1), some (.d d), some (.d (.int (q % (a.length : Int))))]) (M := [.lst [.int (q / (a.length : Int))], .lst (sg a)]) (n := 1) (j := (q % (a.length : Int)).toNat) (k := q % (a.length : Int)) rfl rfl rfl
            (by rw [sg_len]; unfold ixN; rw [if_pos h0, if_pos h1])
          rw [this]
          unfold sg
          simp [List.map_set]
        simp [f1_law_near, f1_law_near_1, t, exs, ei, ez, g, szT]
      · rcases List.mem_or_eq_of_mem_set hc with hc | rfl
        · exact a2 c hc
        · simpa [Bit, or_comm] using hz)
    (ds := rng 0 (1 + p % 2).toNat) (ρ := [some (.loc 0), some (.d (.str (S l))), some (.loc 1), none, none]) (M := [.lst [.int (p / 2)], .lst (sg l)]) (fun _ _ => trivial) ⟨none, none, l, p / 2, rfl, rfl, rfl, hl⟩
  refine ⟨a, q, callF_px (J := [.lst (sg a)]) h ?_, a1, a2⟩
  have t := take_e (M := [.lst [.int p], .lst (sg l)]) (n := 0) (p := p) (k := 2) rfl (by decide) (by decide)
  have b1 : -1000000 ≤ 1 + p % 2 ∧ 1 + p % 2 ≤ 1000000 := by omega
  simp at t
  simp [F_law_near, b_law_near, b_law_near_1, b_law_near_2, sLiveOf, asR1_c b1, t, e, szT (show l.length ≤ 16777216 by omega), show a.length ≤ 16777216 by omega]
theorem whole_x {M : List MO} {x : PyData} : callF F_is_whole 1 [.d x] M = .ok (.d (.bool (whole x))) M := by
  refine callF_dx (J := []) ?_
  cases x <;> simp [F_is_whole, b_is_whole, isT, whole]
theorem law_keeps_e {M : List MO} {n : Int} {x : PyData} {a : List Nat} (h : Rule n x) (h1 : n ≤ 30) (ha : ∀ c ∈ a, Bit c) (la : (a.length : Int) = n) : callF F_law_keeps 2 [.d x, .d (.str (S a))] M = .ok (.d (.bool (keptR a x))) M := by
  refine callF_dx (J := []) ?_
  have ca := szT (show a.length ≤ 16777216 by omega)
  cases h with
  | sum u hr =>
    rename_i on r
    have lo : on.length ≤ 16777216 := by rcases u.len with q | rfl; omega; simp
    have hk := u.at la
    have e : compL (gN 2) y1_law_keeps x1_law_keeps [some (.d (sumR on r)), some (.d (.str (S a))), none] (oi on) [] = some (oi (on.filter (onIn a)), []) := by
      unfold oi
      exact compL_on _ _ _ fun k hk' => let ⟨x, hx⟩ := at_x (hk k hk'); ⟨_, rfl, by simp [y1_law_keeps, hx, ca, onIn], fun _ => by simp [x1_law_keeps]⟩
    rw [kept_sum]
    unfold sumR at e ⊢
    simp [F_law_keeps, b_law_keeps, e, szT lo]
  | any u v c =>
    rename_i on off
    have lo : on.length ≤ 16777216 := by rcases u.len with q | rfl; omega; simp
    have lf : off.length ≤ 16777216 := by rcases v.len with q | rfl; omega; simp
    have e1 : compL (gN 2) sYes x2_law_keeps [some (.d (anyR on off)), some (.d (.str (S a))), none] (oi on) [] = some (sg (sel a on), []) := by
      unfold oi sg sel
      rw [List.map_map]
      exact compL_all _ _ fun k hk' => let ⟨x, hx⟩ := at_x (u.at la k hk'); ⟨_, rfl, rfl, by simp [x2_law_keeps, hx, ca]⟩
    have e2 : compL (gN 2) sYes x3_law_keeps [some (.d (anyR on off)), some (.d (.str (S a))), none] (oi off) [] = some (sg (sel a off), []) := by
      unfold oi sg sel
      rw [List.map_map]
      exact compL_all _ _ fun k hk' => let ⟨x, hx⟩ := at_x (v.at la k hk'); ⟨_, rfl, rfl, by simp [x3_law_keeps, hx, ca]⟩
    have i1 := in_sg (c := 49) (bit_lt (sel_bit ha (u.at la))) (by decide)
    have i2 := in_sg (c := 48) (bit_lt (sel_bit ha (v.at la))) (by decide)
    rw [kept_any]
    unfold anyR at e1 e2 ⊢
    by_cases q : 49 ∈ sel a on <;> simp [F_law_keeps, b_law_keeps, e1, e2, szT lo, szT lf, i1, i2, q]
/-! a pile's rules -/
theorem some_f {M : List MO} {n : Nat} {p k m : Int} (h : M[n]? = some (.lst [.int p])) (k0 : 0 ≤ k) (k1 : k ≤ 1000) :
    ∃ (l : List Nat) (q : Int), callF F_law_some 3 [.loc n, .d (.int k), .d (.int m)] M = .ok (.d (.tuple (oi l))) (M.set n (.lst [.int q])) ∧ Up k l ∧ ((l.length : Int) ≤ m ∨ l = []) := by
  obtain ⟨ρ', M', e, y4, l, q, rfl, rfl, hl, hp, hm⟩ := forL_rng (gt := gN 4) (body := f1_law_some) (n := k.toNat) (ρ := [some (.loc 0), some (.d (.int k)), some (.d (.int m)), some (.loc 1), none]) (M := [.lst [.int p], .lst (oi [])])
    (fun i ρ N => ∃ (y4 : Option W) (l : List Nat) (q : Int), ρ = [some (.loc 0), some (.d (.int k)), some (.d (.int m)), some (.loc 1), y4] ∧ N = [.lst [.int q], .lst (oi l)] ∧ (∀ x ∈ l, x < i) ∧ l.Pairwise (· < ·) ∧ ((l.length : Int) ≤ m ∨ l = []))
    (fun i ρ N hi ⟨y4, l, q, hρ, hN, hl, hp, hm⟩ => by
      subst hρ hN
      have ll := up_len hp hl
      refine ⟨_, _, rfl, ?_⟩
      by_cases c1 : (l.length : Int) < m
      · have t := take_e (M := [.lst [.int q], .lst (oi l)]) (n := 0) (p := q) (k := 3) rfl (by decide) (by decide)
        simp at t
        by_cases c2 : q % 3 = 0
        · refine ⟨_, _, ?_, some (.d (.int (i : Int))), l ++ [i], q / 3, rfl, rfl, fun x hx => ?_, ?_, .inl (by rw [List.length_append]; simp; omega)⟩
          · have ap := pAppend_e (M := [.lst [.int (q / 3)], .lst (oi l)]) (i := 1) (ds := oi l) (x := .int (i : Int)) rfl (by rw [sizeLine_eq, oi_len]; omega)
            have oe : oi (l ++ [i]) = oi l ++ [.int (i : Int)] := by simp [oi]
            simp [f1_law_some, c1, t, c2, ap, oe, tyW_l (M := [.lst [.int (q / 3)], .lst (oi l)]) (i := 1) (ds := oi l) rfl]
          · rcases List.mem_append.mp hx with hx | hx
            · have := hl x hx; omega
            · rw [List.mem_singleton.mp hx]; omega
          · rw [List.pairwise_append]
            exact ⟨hp, List.pairwise_singleton _ _, fun x hx y hy => by rw [List.mem_singleton.mp hy]; exact hl x hx⟩
        · refine ⟨_, _, ?_, some (.d (.int (i : Int))), l, q / 3, rfl, rfl, fun x hx => by have := hl x hx; omega, hp, hm⟩
          simp [f1_law_some, c1, t, c2]
      · refine ⟨_, _, ?_, some (.d (.int (i : Int))), l, q, rfl, rfl, fun x hx => by have := hl x hx; omega, hp, hm⟩
        simp [f1_law_some, c1]) ⟨none, [], p, rfl, rfl, (fun _ h => by cases h), .nil, .inr rfl⟩
  refine ⟨l, q, callF_px (J := [.lst (oi l)]) h ?_, ⟨fun x hx => by have := hl x hx; omega, hp⟩, hm⟩
  have r1 := asR1_c (M := [.lst [.int p], .lst []]) (j := k) (by omega)
  rw [oi_nil] at e
  simp [F_law_some, b_law_some, b_law_some_1, b_law_some_2, szT, r1, e]
theorem some_e {M : List MO} {n : Nat} {p k m : Int} (h : M[n]? = some (.lst [.int p])) (k0 : 0 ≤ k) (k1 : k ≤ 1000) :
    ∃ (l : List Nat) (q : Int), callF F_law_some 3 [.loc n, .d (.int k), .d (.int m)] M = .ok (.d (.tuple (oi l))) (M.set n (.lst [.int q])) ∧ Up k l :=
  let ⟨l, q, e, u, _⟩ := some_f (m := m) h k0 k1
  ⟨l, q, e, u⟩
theorem rule_4 {n : Int} {N : List MO} {q : Int} {kd on off : List Nat} (h1 : n ≤ 30) (u : Up n on) (v : Up n off) (hk : Kind kd) (ka : ¬ (kd = [111, 100, 100] ∨ kd = [112, 97, 105, 114, 115])) (kb : kd ≠ [109, 111, 115, 116] → on.length ≤ 1) (kc : kd = [98, 111, 116, 104] → off.length ≤ 1) (km : kd = [109, 111, 115, 116] → on.length + off.length ≤ 2) :
    ∃ (x : PyData) (q' : Int), b_law_rule_4 [some (.loc 0), some (.d (.str (S kd))), some (.d (.int n)), some (.d (.tuple (oi on))), some (.d (.tuple (oi off))), none] [.lst [.int q]] = .ret (.d x) [.lst [.int q']] ∧ Rule n x ∧ kindB kd x = true := by
  have lf : off.length ≤ 16777216 := by rcases v.len with q | rfl; omega; simp
  have e : compL (gN 5) y1_law_rule x1_law_rule [some (.loc 0), some (.d (.str (S kd))), some (.d (.int n)), some (.d (.tuple (oi on))), some (.d (.tuple (oi off))), none] (oi off) [.lst [.int q]] = some (oi (off.filter fun k => !decide (k ∈ on)), [.lst [.int q]]) := by
    unfold oi
    refine compL_on _ _ _ fun k hk => ⟨_, rfl, ?_, fun _ => by simp [x1_law_rule]⟩
    have := in_oi (k := k) (l := on) fun x hx => by have := u.lt x hx; omega
    unfold oi at this
    simp [y1_law_rule, this]
  have hd : ∀ k ∈ on, k ∉ off.filter fun k => !decide (k ∈ on) := fun k hk hk' => by
    have := (List.mem_filter.mp hk').2
    simp at this
    exact this hk
  have hd2 : ∀ k ∈ off.filter (fun k => !decide (k ∈ on)), k ∉ on := fun k hk => by
    have := (List.mem_filter.mp hk).2
    simpa using this
  have v' := v.filter fun k => !decide (k ∈ on)
  have lv : (off.filter fun k => !decide (k ∈ on)).length ≤ off.length := List.length_filter_le _ _
  generalize off.filter (fun k => !decide (k ∈ on)) = F at e hd hd2 v' lv
  have k1 : kd = [111, 114] → kindB kd (anyR F on) = true := fun z => by
    subst z
    have := kb (by decide)
    simp [kindB, anyR, this]
  have k2 : kd = [109, 111, 115, 116] → kindB kd (anyR F on) = true ∧ kindB kd (anyR on F) = true := fun z => by
    subst z
    have := km rfl
    simp [kindB, anyR]
    omega
  have k3 : kd ≠ [111, 114] → kd ≠ [109, 111, 115, 116] → kindB kd (anyR on F) = true := fun z y => by
    have a1 := kb y
    cases hk with
    | and => simp [kindB, anyR, a1]
    | or => exact absurd rfl z
    | most => exact absurd rfl y
    | both =>
      have := kc rfl
      simp [kindB, anyR, a1]
      omega
    | odd => exact absurd (.inl rfl) ka
    | pairs => exact absurd (.inr rfl) ka
  have A : Rule n (anyR on F) := .any u v' hd
  have B : Rule n (anyR F on) := .any v' u hd2
  have t := take_e (M := [.lst [.int q]]) (n := 0) (p := q) (k := 2) rfl (by decide) (by decide)
  simp at t
  unfold anyR at A B k1 k2 k3
  by_cases c1 : kd = [111, 114]
  · subst c1
    exact ⟨_, q, by simp [b_law_rule_4, b_law_rule_5, b_law_rule_6, szT lf, e], B, k1 rfl⟩
  · by_cases c2 : kd = [109, 111, 115, 116]
    · subst c2
      by_cases c3 : q % 2 = 0
      · exact ⟨_, q / 2, by simp [b_law_rule_4, b_law_rule_5, b_law_rule_6, szT lf, e, t, c3], B, (k2 rfl).1⟩
      · exact ⟨_, q / 2, by simp [b_law_rule_4, b_law_rule_5, b_law_rule_6, szT lf, e, t, c3], A, (k2 rfl).2⟩
    · exact ⟨_, q, by simp [b_law_rule_4, b_law_rule_5, b_law_rule_6, szT lf, e, c1, c2], A, k3 c1 c2⟩
theorem rule_3 {n : Int} {q : Int} {kd on off : List Nat} (h1 : n ≤ 30) (h0 : 1 ≤ n) (u : Up n on) (v : Up n off) (hk : Kind kd) (ka : ¬ (kd = [111, 100, 100] ∨ kd = [112, 97, 105, 114, 115])) (kb : on.length ≤ 1) (kc : kd = [98, 111, 116, 104] ∨ kd = [109, 111, 115, 116] → off.length ≤ 1) :
    ∃ (x : PyData) (q' : Int), b_law_rule_3 [some (.loc 0), some (.d (.str (S kd))), some (.d (.int n)), some (.d (.tuple (oi on))), some (.d (.tuple (oi off))), none] [.lst [.int q]] = .ret (.d x) [.lst [.int q']] ∧ Rule n x ∧ kindB kd x = true := by
  have t := take_e (M := [.lst [.int q]]) (n := 0) (p := q) (k := 2) rfl (by decide) (by decide)
  simp at t
  by_cases c2 : kd = [109, 111, 115, 116]
  · subst c2
    by_cases c3 : q % 2 = 0
    · obtain ⟨l, q1, e1, hl, lm⟩ := some_f (M := [.lst [.int (q / 2)]]) (n := 0) (p := q / 2) (k := n) (m := 2) rfl (by omega) (by omega)
      have ll : l.length ≤ 2 := by rcases lm with z | rfl <;> first | omega | simp
      obtain ⟨x, q', e, r⟩ := rule_4 (n := n) (q := q1) (kd := [109, 111, 115, 116]) (N := []) h1 hl Up.nil hk ka (fun z => absurd rfl z) (fun z => by cases z) (fun _ => by simpa using ll)
      rw [oi_nil] at e
      simp at e1
      exact ⟨x, q', by simp [b_law_rule_3, t, c3, e1, e], r⟩
    · obtain ⟨x, q', e, r⟩ := rule_4 (n := n) (q := q / 2) (kd := [109, 111, 115, 116]) (N := []) h1 u v hk ka (fun z => absurd rfl z) (fun z => by cases z) (fun _ => by have := kc (.inr rfl); omega)
      exact ⟨x, q', by simp [b_law_rule_3, t, c3, e], r⟩
  · obtain ⟨x, q', e, r⟩ := rule_4 (n := n) (q := q) (kd := kd) (N := []) h1 u v hk ka (fun _ => kb) (fun z => kc (.inl z)) (fun z => absurd z c2)
    exact ⟨x, q', by simp [b_law_rule_3, c2, e], r⟩
theorem rule_f {M : List MO} {m : Nat} {p n : Int} {kd : List Nat} (h : M[m]? = some (.lst [.int p])) (hk : Kind kd) (h0 : 1 ≤ n) (h1 : n ≤ 30) :
    ∃ (x : PyData) (q : Int), callF F_law_rule 3 [.loc m, .d (.str (S kd)), .d (.int n)] M = .ok (.d x) (M.set m (.lst [.int q])) ∧ Rule n x ∧ kindB kd x = true := by
  have i1 := kd_in hk [111, 100, 100] [112, 97, 105, 114, 115] (by decide) (by decide)
  have i2 := kd_in hk [98, 111, 116, 104] [109, 111, 115, 116] (by decide) (by decide)
  suffices H : ∃ (x : PyData) (q : Int), F_law_rule [.loc 0, .d (.str (S kd)), .d (.int n)] [.lst [.int p]] = .ok (.d x) [.lst [.int q]] ∧ Rule n x ∧ kindB kd x = true from let ⟨x, q, e, r⟩ := H; ⟨x, q, callF_px (J := []) h e, r⟩
  by_cases c : kd = [111, 100, 100] ∨ kd = [112, 97, 105, 114, 115]
  · have c' : (decide (kd = [111, 100, 100]) || decide (kd = [112, 97, 105, 114, 115])) = true := by simpa using c
    rw [c'] at i1
    obtain ⟨m1, hm1⟩ : ∃ m1 : Int, atI [PyData.int 2, .int 10] (if (decide (kd = [111, 100, 100])) = true then 1 else 0) = some (.int m1) ∧ (kd = [111, 100, 100] ∨ kd = [112, 97, 105, 114, 115] ∧ m1 = 2) := by
      by_cases z : kd = [111, 100, 100]
      · exact ⟨10, by simp [z], .inl z⟩
      · exact ⟨2, by simp [z], .inr ⟨c.resolve_left z, rfl⟩⟩
    obtain ⟨hm1, hm2⟩ := hm1
    obtain ⟨l, q1, e1, hl, lm⟩ := some_f (M := [.lst [.int p]]) (n := 0) (p := p) (k := n) (m := m1) rfl (by omega) (by omega)
    have t := take_e (M := [.lst [.int q1]]) (n := 0) (p := q1) (k := 2) rfl (by decide) (by decide)
    simp at t e1
    refine ⟨sumR l (q1 % 2), q1 / 2, ?_, .sum hl (by omega), ?_⟩
    rotate_left
    · rcases hm2 with z | ⟨z, y⟩
      · simp [kindB, sumR, z]
      · have : l.length ≤ 2 := by rcases lm with z | rfl <;> first | omega | simp
        simp [kindB, sumR, z, this]
    unfold sumR
    simp only [decide_eq_true_eq] at hm1
    simp [F_law_rule, b_law_rule, i1, szT, hm1, e1, t]
  · have c' : (decide (kd = [111, 100, 100]) || decide (kd = [112, 97, 105, 114, 115])) = false := by simpa using c
    rw [c'] at i1
    obtain ⟨l, q1, e1, hl, lm⟩ := some_f (M := [.lst [.int p]]) (n := 0) (p := p) (k := n) (m := 1) rfl (by omega) (by omega)
    have ll : l.length ≤ 1 := by rcases lm with z | rfl <;> first | omega | simp
    obtain ⟨b, hb⟩ : ∃ b, b = (decide (kd = [98, 111, 116, 104]) || decide (kd = [109, 111, 115, 116])) := ⟨_, rfl⟩
    rw [← hb] at i2
    obtain ⟨m1, hm1⟩ : ∃ m1 : Int, atI [PyData.int 10, .int 1] (if b = true then 1 else 0) = some (.int m1) ∧ (b = true → m1 = 1) := by
      cases b
      · exact ⟨10, by simp, fun z => by cases z⟩
      · exact ⟨1, by simp, fun _ => rfl⟩
    obtain ⟨hm1, hm2⟩ := hm1
    obtain ⟨l2, q2, e2, hl2, lm2⟩ := some_f (M := [.lst [.int q1]]) (n := 0) (p := q1) (k := n) (m := m1) rfl (by omega) (by omega)
    obtain ⟨x, q', e, r⟩ := rule_3 (n := n) (q := q2) (kd := kd) h1 h0 hl hl2 hk c ll (fun z => by
      have := hm2 (by rw [hb]; simpa using z)
      rcases lm2 with y | rfl <;> first | omega | simp)
    simp at e1 e2
    refine ⟨x, q', ?_, r⟩
    simp [F_law_rule, b_law_rule, b_law_rule_1, b_law_rule_2, i1, i2, szT, hm1, e1, e2, e]
theorem rule_e {M : List MO} {m : Nat} {p n : Int} {kd : List Nat} (h : M[m]? = some (.lst [.int p])) (hk : Kind kd) (h0 : 1 ≤ n) (h1 : n ≤ 30) :
    ∃ (x : PyData) (q : Int), callF F_law_rule 3 [.loc m, .d (.str (S kd)), .d (.int n)] M = .ok (.d x) (M.set m (.lst [.int q])) ∧ Rule n x :=
  let ⟨x, q, e, r, _⟩ := rule_f h hk h0 h1
  ⟨x, q, e, r⟩
theorem fl_shaped {D : Nat} {ds : List PyData} {B : Nat} (h : ∀ d ∈ ds, Sm D B d) (hD : D ≤ 60) : SeqAt.shaped (.list ds) = true := by
  have q := Sm.list (n := ds.length) h (Nat.le_refl _)
  exact shaped_of q.nice (by have := q.dep; omega)
theorem keeps_all_e {M : List MO} {n : Int} {R : List PyData} {a : List Nat} (hR : ∀ x ∈ R, Rule n x) (h1 : n ≤ 30) (lR : R.length ≤ 1000) (hb : ∀ c ∈ a, Bit c) (la : (a.length : Int) = n) : callF F_law_keeps_all 2 [.d (.list R), .d (.str (S a))] M = .ok (.d (.bool (R.all (keptR a)))) M := by
  refine callF_dx (J := []) ?_
  have e : compL (gN 2) y1_law_keeps_all x1_law_keeps_all [some (.d (.list R)), some (.d (.str (S a))), none] R [] = some (R.filter fun x => !keptR a x, []) := by
    have := compL_pure (gt := gN 2) (tt := y1_law_keeps_all) (te := x1_law_keeps_all) (ρ := [some (.d (.list R)), some (.d (.str (S a))), none]) (M := []) (fun x => !keptR a x) id (ds := R) fun x hx => ⟨_, rfl, by simp [y1_law_keeps_all, law_keeps_e (hR x hx) h1 hb la], fun _ => by simp [x1_law_keeps_all]⟩
    rw [List.map_id] at this
    exact this
  have s := fl_shaped (ds := R.filter fun x => !keptR a x) (D := 2) (B := 10000) (fun d hd => (hR d (List.mem_filter.mp hd).1).sm h1) (by decide)
  have v : (R.filter fun x => !keptR a x).isEmpty = R.all (keptR a) := by
    rw [Bool.eq_iff_iff, List.isEmpty_iff, List.filter_eq_nil_iff, List.all_eq_true]
    simp
  generalize (R.filter fun x => !keptR a x) = F at e s v
  simp [F_law_keeps_all, b_law_keeps_all, szT (show R.length ≤ 16777216 by omega), e, s, eqv_nil, v]
theorem seen_1 {n : Nat} {kd : List Nat} {R : List PyData} {ls : List (List Nat)} {q : Int} {y5 y6 : Option W} (hR : ∀ x ∈ R, Rule n x) (lR : R.length ≤ 1000) (h0 : 1 ≤ n) (h1 : n ≤ 30) (h : Sets n ls) (hl : ls.length ≤ 1000) :
    ∃ (z6 : Option W) (q' : Int) (ms : List (List Nat)), f1_law_seen [some (.loc 0), some (.d (.str (S kd))), some (.d (.int (n : Int))), some (.d (.list R)), some (.loc 1), y5, y6] [.lst [.int q], .lst (sts ls)] = .nx [some (.loc 0), some (.d (.str (S kd))), some (.d (.int (n : Int))), some (.d (.list R)), some (.loc 1), y5, z6] [.lst [.int q'], .lst (sts ms)] ∧ Sets n ms ∧ ms.length ≤ ls.length + 1 := by
  obtain ⟨a, q1, e1, la, ba⟩ := setting_e (M := [.lst [.int q], .lst (sts ls)]) (n := 0) (p := q) (k := (n : Int)) rfl (by omega) (by omega)
  simp only [List.set_cons_zero] at e1
  have la' : a.length = n := by omega
  have s0 := shaped_sts (ls := ls) fun l hl => bit_lt (h.bit l hl)
  have i0 : (sts ls).isEmpty = ls.isEmpty := by cases ls <;> rfl
  -- the later part, for any setting
  have tail : ∀ (b : List Nat) (q : Int), b.length = n → (∀ c ∈ b, Bit c) → ∃ (q' : Int) (ms : List (List Nat)), f1_law_seen_2 [some (.loc 0), some (.d (.str (S kd))), some (.d (.int (n : Int))), some (.d (.list R)), some (.loc 1), y5, some (.d (.str (S b)))] [.lst [.int q], .lst (sts ls)] = .nx [some (.loc 0), some (.d (.str (S kd))), some (.d (.int (n : Int))), some (.d (.list R)), some (.loc 1), y5, some (.d (.str (S b)))] [.lst [.int q'], .lst (sts ms)] ∧ Sets n ms ∧ ms.length ≤ ls.length + 1 := by
    intro b q lb bb
    have k := keeps_all_e (M := [.lst [.int q], .lst (sts ls)]) hR (show (n : Int) ≤ 30 by omega) lR bb (by omega)
    have t := take_e (M := [.lst [.int q], .lst (sts ls)]) (n := 0) (p := q) (k := 8) rfl (by decide) (by decide)
    simp only [List.set_cons_zero] at t
    have grow : Sets n (ls ++ [b]) := ⟨fun l hl => by
      rcases List.mem_append.mp hl with hl | hl
      · exact h.len l hl
      · rw [List.mem_singleton.mp hl]; exact lb, fun l hl => by
      rcases List.mem_append.mp hl with hl | hl
      · exact h.bit l hl
      · rw [List.mem_singleton.mp hl]; exact bb⟩
    have ap := fun q : Int => pAppend_e (M := [.lst [.int q], .lst (sts ls)]) (i := 1) (ds := sts ls) (x := .str (S b)) rfl (by rw [sizeLine_eq]; simp [sts]; omega)
    have ty := fun q : Int => tyW_l (M := [.lst [.int q], .lst (sts ls)]) (i := 1) (ds := sts ls) rfl
    have oe : sts (ls ++ [b]) = sts ls ++ [.str (S b)] := by simp [sts]
    cases z : R.all (keptR b) with
    | true =>
      rw [z] at k
      refine ⟨q, ls ++ [b], ?_, grow, by simp⟩
      rw [oe]
      generalize sts ls = L at *
      simp [f1_law_seen_2, k, ty, ap]
    | false =>
      rw [z] at k
      by_cases c : q % 8 = 0
      · refine ⟨q / 8, ls ++ [b], ?_, grow, by simp⟩
        rw [oe]
        generalize sts ls = L at *
        simp [f1_law_seen_2, k, t, c, ty, ap]
      · refine ⟨q / 8, ls, ?_, h, by omega⟩
        generalize sts ls = L at *
        simp [f1_law_seen_2, k, t, c]
  cases z : ls.isEmpty with
  | true =>
    rw [z] at i0
    obtain ⟨q', ms, e2, hm, lm⟩ := tail a q1 la' ba
    refine ⟨some (.d (.str (S a))), q', ms, ?_, hm, lm⟩
    generalize sts ls = L at *
    generalize sts ms = L2 at *
    simp [f1_law_seen, f1_law_seen_1, e1, szT, s0, eqv_nil, i0, e2]
  | false =>
    rw [z] at i0
    have t3 := take_e (M := [.lst [.int q1], .lst (sts ls)]) (n := 0) (p := q1) (k := 3) rfl (by decide) (by decide)
    simp only [List.set_cons_zero] at t3
    by_cases c : q1 % 3 = 0
    · have ne : ls ≠ [] := fun e => by rw [e] at z; cases z
      have lp : 0 < ls.length := List.length_pos_iff.mpr ne
      have lS : (sts ls).length = ls.length := by simp [sts]
      obtain ⟨x, hx, ex, tx⟩ := pick_e (M := [.lst [.int (q1 / 3)], .lst (sts ls)]) (n := 0) (p := q1 / 3) rfl (sts ls) (by intro e; rw [e] at lS; simp at lS; omega) (by omega)
      obtain ⟨b, hb, rfl⟩ := List.mem_map.mp hx
      simp only [List.set_cons_zero] at tx
      generalize q1 / 3 / ((sts ls).length : Int) = q2 at tx
      have lb := h.len b hb
      obtain ⟨a', q3, e3, la3, ba3⟩ := near_e (M := [.lst [.int q2], .lst (sts ls)]) (n := 0) (p := q2) rfl (h.bit b hb) (by omega) (by omega)
      simp only [List.set_cons_zero] at e3
      obtain ⟨q', ms, e2, hm, lm⟩ := tail a' q3 (by omega) ba3
      refine ⟨some (.d (.str (S a'))), q', ms, ?_, hm, lm⟩
      generalize sts ls = L at *
      generalize sts ms = L2 at *
      generalize q1 / 3 % (L.length : Int) = ix at *
      simp [f1_law_seen, f1_law_seen_1, e1, szT, s0, eqv_nil, i0, t3, c, tx, ex, e3, e2]
    · obtain ⟨q', ms, e2, hm, lm⟩ := tail a (q1 / 3) la' ba
      refine ⟨some (.d (.str (S a))), q', ms, ?_, hm, lm⟩
      generalize sts ls = L at *
      generalize sts ms = L2 at *
      simp [f1_law_seen, f1_law_seen_1, e1, szT, s0, eqv_nil, i0, t3, c, e2]
theorem seen_e {M : List MO} {m n : Nat} {p : Int} {kd : List Nat} (hk : Kind kd) (h : M[m]? = some (.lst [.int p])) (h0 : 1 ≤ n) (h1 : n ≤ 30) :
    ∃ (ls : List (List Nat)) (q : Int), callF F_law_seen 3 [.loc m, .d (.str (S kd)), .d (.int (n : Int))] M = .ok (.d (.list (sts ls))) (M.set m (.lst [.int q])) ∧ Sets n ls ∧ ls.length ≤ 12 := by
  have t4 := take_e (M := [.lst [.int p]]) (n := 0) (p := p) (k := 4) rfl (by decide) (by decide)
  simp only [List.set_cons_zero] at t4
  obtain ⟨R, M', e1, ⟨q1, rfl⟩, hR⟩ := compL_inv (gt := gN 5) (tt := sYes) (te := x1_law_seen) (ρ := [some (.loc 0), some (.d (.str (S kd))), some (.d (.int (n : Int))), none, none, none, none]) Pil (fun _ x => Rule n x) (ds := rng 0 (p % 4).toNat) (M := [.lst [.int (p / 4)]])
    (fun d _ N ⟨q, hN⟩ => by
      subst hN
      obtain ⟨x, q', e, hx⟩ := rule_e (M := [.lst [.int q]]) (m := 0) (p := q) (n := (n : Int)) rfl hk (by omega) (by omega)
      simp only [List.set_cons_zero] at e
      exact ⟨_, _, rfl, x, [.lst [.int q']], rfl, by simp [x1_law_seen, e], ⟨_, rfl⟩, hx⟩) ⟨_, rfl⟩
  have hR' : (∀ x ∈ R, Rule n x) ∧ R.length = (p % 4).toNat := by
    have : ∀ {ds xs : List PyData}, All2 (fun _ x => Rule (n : Int) x) ds xs → (∀ x ∈ xs, Rule (n : Int) x) ∧ xs.length = ds.length := fun h => by
      induction h with
      | nil => exact ⟨fun _ h => (nomatch h), rfl⟩
      | cons hx _ ih => exact ⟨fun x h => by
          rcases List.mem_cons.mp h with rfl | h
          · exact hx
          · exact ih.1 x h, by rw [List.length_cons, List.length_cons, ih.2]⟩
    have q := this hR
    rw [rng_len] at q
    exact q
  have t8 := take_e (M := [.lst [.int q1], .lst []]) (n := 0) (p := q1) (k := 8) rfl (by decide) (by decide)
  simp only [List.set_cons_zero] at t8
  obtain ⟨x, ex, hx⟩ := atI_mem (xs := [PyData.int 0, .int 1, .int 2, .int 3, .int 4, .int 6, .int 9, .int 12]) (i := q1 % 8) (by omega) (by show q1 % 8 < 8; omega)
  have hx' : ∃ c : Int, x = .int c ∧ 0 ≤ c ∧ c ≤ 12 := by
    simp only [List.mem_cons, List.not_mem_nil, or_false] at hx
    rcases hx with rfl | rfl | rfl | rfl | rfl | rfl | rfl | rfl <;> exact ⟨_, rfl, by decide, by decide⟩
  obtain ⟨c, rfl, c0, c1⟩ := hx'
  obtain ⟨ρ', M', e, y5, y6, ls, q, rfl, rfl, hS, lS⟩ := forL_rng (gt := gN 5) (body := f1_law_seen) (n := c.toNat) (ρ := [some (.loc 0), some (.d (.str (S kd))), some (.d (.int (n : Int))), some (.d (.list R)), some (.loc 1), none, none]) (M := [.lst [.int (q1 / 8)], .lst (sts [])])
    (fun i ρ N => ∃ (y5 y6 : Option W) (ls : List (List Nat)) (q : Int), ρ = [some (.loc 0), some (.d (.str (S kd))), some (.d (.int (n : Int))), some (.d (.list R)), some (.loc 1), y5, y6] ∧ N = [.lst [.int q], .lst (sts ls)] ∧ Sets n ls ∧ ls.length ≤ i)
    (fun i ρ N hi ⟨y5, y6, ls, q, hρ, hN, hS, lS⟩ => by
      subst hρ hN
      obtain ⟨z6, q', ms, e, hm, lm⟩ := seen_1 (kd := kd) (y5 := some (.d (.int (i : Int)))) (y6 := y6) (q := q) hR'.1 (by omega) h0 h1 hS (by omega)
      exact ⟨_, _, rfl, _, _, e, _, z6, ms, q', rfl, rfl, hm, by omega⟩) ⟨none, none, [], q1 / 8, rfl, rfl, ⟨(fun _ h => nomatch h), (fun _ h => nomatch h)⟩, Nat.le_refl _⟩
  refine ⟨ls, q, callF_p (w := .loc 1) (J := [.lst (sts ls)]) h ?_ rfl, hS, by omega⟩
  have r1 := asR1_c (M := [.lst [.int (p / 4)]]) (j := p % 4) (by omega)
  have r2 := asR1_c (M := [.lst [.int (q1 / 8)], .lst []]) (j := c) (by omega)
  rw [show sts [] = [] from rfl] at e
  have lr := szT (show (rng 0 (p % 4).toNat).length ≤ 16777216 by rw [rng_len]; omega)
  generalize rng 0 (p % 4).toNat = T at *
  generalize sts ls = L at *
  simp [F_law_seen, b_law_seen, b_law_seen_1, b_law_seen_2, b_law_seen_3, szT, t4, r1, lr, e1, t8, ex, r2, e]
/-- a setting in which all of them are on -/
def onB (a l : List Nat) : Bool := l.all fun k => decide (a.getD k 0 = 49)
def onO (a : List Nat) : Option (List Nat) → Bool
  | none => false
  | some r => onB a r
def keepsP (a : List Nat) (p : Pr2) : Bool := !onB a p.1 || onO a p.2
/-- what is on -/
def ons (a : List Nat) : List Nat := (List.range a.length).filter fun k => decide (a.getD k 0 = 49)
def setO (n : Nat) (s : List Nat) : List Nat := (List.range n).map fun k => if k ∈ s then 49 else 48
theorem setO_len {n : Nat} {s : List Nat} : (setO n s).length = n := by simp [setO]
theorem setO_bit {n : Nat} {s : List Nat} : ∀ c ∈ setO n s, Bit c := fun c hc => by
  obtain ⟨k, _, rfl⟩ := List.mem_map.mp hc
  split
  · exact .inr rfl
  · exact .inl rfl
theorem setO_at {n k : Nat} {s : List Nat} (h : k < n) : (setO n s).getD k 0 = if k ∈ s then 49 else 48 := by
  unfold setO
  rw [List.getD_eq_getElem?_getD, List.getElem?_map, List.getElem?_range h]
  rfl
theorem setO_on {n k : Nat} {s : List Nat} (h : k < n) : (setO n s).getD k 0 = 49 ↔ k ∈ s := by
  rw [setO_at h]
  by_cases c : k ∈ s <;> simp [c]
theorem mem_ons {a : List Nat} {k : Nat} : k ∈ ons a ↔ k < a.length ∧ a.getD k 0 = 49 := by
  unfold ons
  rw [List.mem_filter, List.mem_range, decide_eq_true_iff]
theorem ons_up {a : List Nat} {n : Nat} (h : a.length = n) : Up n (ons a) := ⟨fun k hk => by have := (mem_ons.mp hk).1; omega, List.pairwise_lt_range.filter _⟩
theorem ons_setO {n k : Nat} {s : List Nat} : k ∈ ons (setO n s) ↔ k < n ∧ k ∈ s := by
  rw [mem_ons, setO_len]
  exact and_congr_right fun h => setO_on h
theorem onB_iff {a l : List Nat} : onB a l = true ↔ ∀ k ∈ l, a.getD k 0 = 49 := by
  unfold onB
  rw [List.all_eq_true]
  simp
theorem onB_ons {a l : List Nat} (h : ∀ k ∈ l, k < a.length) : onB a l = true ↔ ∀ k ∈ l, k ∈ ons a := by
  rw [onB_iff]
  exact ⟨fun q k hk => mem_ons.mpr ⟨h k hk, q k hk⟩, fun q k hk => (mem_ons.mp (q k hk)).2⟩
/-- closed under the pairs -/
def Cl (P : List Pr2) (s : Nat → Prop) : Prop := ∀ p ∈ P, ∀ r, p.2 = some r → (∀ k ∈ p.1, s k) → ∀ k ∈ r, s k
/-- the least closed set -/
def Lfp (P : List Pr2) (o : List Nat) (k : Nat) : Prop := ∀ s : Nat → Prop, Cl P s → (∀ j ∈ o, s j) → s k
theorem lfp_cl {P : List Pr2} {o : List Nat} : Cl P (Lfp P o) := fun p hp r hr h k hk s hs ho => hs p hp r hr (fun j hj => h j hj s hs ho) k hk
theorem lfp_o {P : List Pr2} {o : List Nat} : ∀ k ∈ o, Lfp P o k := fun k hk _ _ ho => ho k hk
theorem lfp_lt {P : List Pr2} {o : List Nat} {n k : Nat} (hP : Prs n P) (ho : Up n o) (h : Lfp P o k) : k < n := h (· < n) (fun p hp r hr _ k hk => by have := (hP.r p hp r hr).lt k hk; omega) fun k hk => by have := ho.lt k hk; omega
def Bad (P : List Pr2) (o : List Nat) : Prop := ∃ p ∈ P, p.2 = none ∧ ∀ k ∈ p.1, Lfp P o k
/-- what both find -/
def Ans (n : Nat) (P : List Pr2) (o : List Nat) : Option (List Nat) → Prop
  | none => Bad P o
  | some s => ¬ Bad P o ∧ Up n s ∧ ∀ k, k ∈ s ↔ Lfp P o k
theorem up_ext : ∀ {a b : List Nat}, a.Pairwise (· < ·) → b.Pairwise (· < ·) → (∀ k, k ∈ a ↔ k ∈ b) → a = b
  | [], [], _, _, _ => rfl
  | [], y :: b, _, _, h => absurd ((h y).mpr List.mem_cons_self) List.not_mem_nil
  | x :: a, [], _, _, h => absurd ((h x).mp List.mem_cons_self) List.not_mem_nil
  | x :: a, y :: b, ha, hb, h => by
    rw [List.pairwise_cons] at ha hb
    have e : x = y := by
      have h1 := (h x).mp List.mem_cons_self
      have h2 := (h y).mpr List.mem_cons_self
      rcases List.mem_cons.mp h1 with q | q
      · exact q
      · rcases List.mem_cons.mp h2 with z | z
        · exact z.symm
        · have := ha.1 y z
          have := hb.1 x q
          omega
    subst e
    rw [up_ext ha.2 hb.2 fun k => ?_]
    constructor
    · intro hk
      rcases List.mem_cons.mp ((h k).mp (List.mem_cons_of_mem _ hk)) with rfl | z
      · exact absurd (ha.1 k hk) (Nat.lt_irrefl _)
      · exact z
    · intro hk
      rcases List.mem_cons.mp ((h k).mpr (List.mem_cons_of_mem _ hk)) with rfl | z
      · exact absurd (hb.1 k hk) (Nat.lt_irrefl _)
      · exact z
theorem Ans.uniq {n : Nat} {P : List Pr2} {o : List Nat} : ∀ {x y : Option (List Nat)}, Ans n P o x → Ans n P o y → x = y
  | none, none, _, _ => rfl
  | none, some _, h, k => absurd h k.1
  | some _, none, h, k => absurd k h.1
  | some a, some b, h, k => congrArg some (up_ext h.2.1.up k.2.1.up fun j => (h.2.2 j).trans (k.2.2 j).symm)
/-- a closed set that every closed set has -/
theorem ans_of {n : Nat} {P : List Pr2} {o s : List Nat} (hu : Up n s) (h0 : ∀ k ∈ o, k ∈ s) (h1 : ∀ k ∈ s, Lfp P o k) (hc : ∀ p ∈ P, (∀ k ∈ p.1, k ∈ s) → ∃ r, p.2 = some r ∧ ∀ k ∈ r, k ∈ s) : Ans n P o (some s) := by
  have hk : ∀ k, k ∈ s ↔ Lfp P o k := fun k => ⟨h1 k, fun h => h (· ∈ s) (fun p hp r hr hs => by
    obtain ⟨r', e, hr'⟩ := hc p hp hs
    rw [hr] at e
    cases e
    exact hr') h0⟩
  refine ⟨fun ⟨p, hp, hn, hl⟩ => ?_, hu, hk⟩
  obtain ⟨r, e, _⟩ := hc p hp fun k hk' => (hk k).mpr (hl k hk')
  rw [hn] at e
  cases e
/-! pairs in the code -/
theorem onB_sel {a l : List Nat} (ha : ∀ c ∈ a, Bit c) (hn : ∀ k ∈ l, k < a.length) : decide (48 ∈ sel a l) = !onB a l := by
  rw [Bool.eq_iff_iff, decide_eq_true_iff, Bool.not_eq_true', ← Bool.not_eq_true, onB_iff]
  constructor
  · intro h q
    obtain ⟨k, hk, e⟩ := List.mem_map.mp h
    rw [q k hk] at e
    cases e
  · intro h
    refine Classical.byContradiction fun c => h fun k hk => ?_
    have hb : Bit (a.getD k 0) := by
      have := hn k hk
      rw [List.getD_eq_getElem?_getD, List.getElem?_eq_getElem this]
      exact ha _ (List.getElem_mem this)
    rcases hb with q | q
    · exact absurd (List.mem_map.mpr ⟨k, hk, q⟩) c
    · exact q
theorem are_on_e {M : List MO} {a l : List Nat} (ha : a.length ≤ 30) (hl : l.length ≤ 1000) (hn : ∀ k ∈ l, k < a.length) : callF F_are_on 2 [.d (.str (S a)), .d (.tuple (oi l))] M = .ok (.d (.bool (onB a l))) M := by
  refine callF_dx (J := []) ?_
  have ca := szT (show a.length ≤ 16777216 by omega)
  have e : compL (gN 2) sYes x1_are_on [some (.d (.str (S a))), some (.d (.tuple (oi l))), none] (oi l) [] = some (bl (l.map fun k => decide (a.getD k 0 = 49)), []) := by
    unfold oi bl
    rw [List.map_map]
    exact compL_all _ _ fun k hk => let ⟨x, hx⟩ := at_x (hn k hk); ⟨_, rfl, rfl, by simp [x1_are_on, hx, ca]⟩
  simp [F_are_on, b_are_on, szT (show l.length ≤ 16777216 by omega), e, onB, Function.comp_def]
theorem Up.lt' {n : Nat} {a l : List Nat} (h : Up n l) (ha : a.length = n) : ∀ k ∈ l, k < a.length := fun k hk => by have := h.lt k hk; omega
theorem Up.len' {n : Nat} {l : List Nat} (h : Up n l) (h1 : n ≤ 30) : l.length ≤ 30 := by
  rcases h.len with q | rfl
  · omega
  · simp
theorem keeps_pair_e {M : List MO} {n : Nat} {P : List Pr2} {p : Pr2} {a : List Nat} (hP : Prs n P) (hp : p ∈ P) (ha : a.length = n) (h1 : n ≤ 30) : callF F_keeps_pair 2 [.d (pd p), .d (.str (S a))] M = .ok (.d (.bool (keepsP a p))) M := by
  refine callF_dx (J := []) ?_
  obtain ⟨l, r⟩ := p
  have ul : Up n l := hP.l _ hp
  have e1 := are_on_e (M := []) (a := a) (l := l) (by omega) (by have := ul.len' h1; omega) (ul.lt' ha)
  cases r with
  | none => cases q : onB a l <;> simp [F_keeps_pair, b_keeps_pair, pd, dOpt, e1, keepsP, onO, q, pNotN, pIsN]
  | some r =>
    have ur : Up n r := hP.r _ hp r rfl
    have e2 := are_on_e (M := []) (a := a) (l := r) (by omega) (by have := ur.len' h1; omega) (ur.lt' ha)
    cases q : onB a l <;> simp [F_keeps_pair, b_keeps_pair, pd, dOpt, e1, e2, keepsP, onO, q, pNotN, pIsN]
theorem pd_sm {n : Nat} {P : List Pr2} (hP : Prs n P) (h1 : n ≤ 30) : ∀ p ∈ P, Sm 2 7000 (pd p) := fun p hp => by
  obtain ⟨l, r⟩ := p
  refine (Sm.tuple (D := 1) (B := 3030) (n := 2) (fun d hd => ?_) (Nat.le_refl _)).mono (by decide) (by decide)
  simp only [List.mem_cons, List.not_mem_nil, or_false] at hd
  rcases hd with rfl | rfl
  · exact (hP.l _ hp).sm (by omega)
  · cases r with
    | none => exact Sm.none.mono (by decide) (by decide)
    | some r => exact (hP.r _ hp r rfl).sm (by omega)
theorem fl_shaped2 {D : Nat} {ds : List PyData} {B : Nat} (h : ∀ d ∈ ds, Sm D B d) (hD : D ≤ 60) : SeqAt.shaped (.list ds) = true := by
  have q := Sm.list (n := ds.length) h (Nat.le_refl _)
  exact shaped_of q.nice (by have := q.dep; omega)
theorem law_kept_e {M : List MO} {n : Nat} {P : List Pr2} {p : Pr2} {a : List Nat} (hP : Prs n P) (hp : p ∈ P) (ha : a.length = n) (hb : ∀ c ∈ a, Bit c) (h1 : n ≤ 30) : callF F_law_pair_kept 2 [.d (pd p), .d (.str (S a))] M = .ok (.d (.bool (keepsP a p))) M := by
  refine callF_dx (J := []) ?_
  obtain ⟨l, r⟩ := p
  have ca := szT (show a.length ≤ 16777216 by omega)
  have ul : Up n l := hP.l _ hp
  have cl := szT (show l.length ≤ 16777216 by have := ul.len' h1; omega)
  have e1 : ∀ x, compL (gN 2) sYes x1_law_pair_kept [some (.d x), some (.d (.str (S a))), none] (oi l) [] = some (sg (sel a l), []) := fun x => by
    unfold oi sg sel
    rw [List.map_map]
    exact compL_all _ _ fun k hk => let ⟨x, hx⟩ := at_x (ul.lt' ha k hk); ⟨_, rfl, rfl, by simp [x1_law_pair_kept, hx, ca]⟩
  have i1 := in_sg (c := 48) (bit_lt (sel_bit hb (ul.lt' ha))) (by decide)
  rw [onB_sel hb (ul.lt' ha)] at i1
  cases r with
  | none => cases q : onB a l <;> simp [F_law_pair_kept, b_law_pair_kept, pd, dOpt, cl, e1, i1, keepsP, onO, q, pNotN, pIsN]
  | some r =>
    have ur : Up n r := hP.r _ hp r rfl
    have cr := szT (show r.length ≤ 16777216 by have := ur.len' h1; omega)
    have e2 : ∀ x, compL (gN 2) sYes x2_law_pair_kept [some (.d x), some (.d (.str (S a))), none] (oi r) [] = some (sg (sel a r), []) := fun x => by
      unfold oi sg sel
      rw [List.map_map]
      exact compL_all _ _ fun k hk => let ⟨x, hx⟩ := at_x (ur.lt' ha k hk); ⟨_, rfl, rfl, by simp [x2_law_pair_kept, hx, ca]⟩
    have i2 := in_sg (c := 48) (bit_lt (sel_bit hb (ur.lt' ha))) (by decide)
    rw [onB_sel hb (ur.lt' ha)] at i2
    cases q : onB a l <;> cases q2 : onB a r <;> simp [F_law_pair_kept, b_law_pair_kept, pd, dOpt, cl, cr, e1, e2, i1, i2, keepsP, onO, q, q2, pNotN, pIsN]
theorem setting_of_e {M : List MO} {n : Nat} {s : List Nat} (h1 : n ≤ 30) (hs : ∀ k ∈ s, k < 1000000) : callF F_setting_of 2 [.d (.int (n : Int)), .d (.tuple (oi s))] M = .ok (.d (.str (S (setO n s)))) M := by
  refine callF_dx (J := []) ?_
  have e : compL (gN 2) sYes x1_setting_of [some (.d (.int (n : Int))), some (.d (.tuple (oi s))), none] (rng 0 n) [] = some (sg (setO n s), []) := by
    unfold rng sg setO
    rw [List.map_map]
    refine compL_all _ _ fun k hk => ⟨_, rfl, rfl, ?_⟩
    have := in_oi (k := k) hs
    by_cases c : k ∈ s <;> simp [x1_setting_of, this, c]
  have r1 := asR1_c (M := []) (j := (n : Int)) (by omega)
  simp [F_setting_of, b_setting_of, r1, rng_len, szT (show n ≤ 16777216 by omega), e, setO_len, show n ≤ 16777216 by omega]
/-! all settings -/
def allS : Nat → List (List Nat)
  | 0 => [[]]
  | n + 1 => (allS n).map (48 :: ·) ++ (allS n).map (49 :: ·)
theorem mem_allS : ∀ {n : Nat} {a : List Nat}, a ∈ allS n ↔ a.length = n ∧ ∀ c ∈ a, Bit c
  | 0, a => by
    show a ∈ [[]] ↔ _
    rw [List.mem_singleton]
    exact ⟨fun h => by subst h; exact ⟨rfl, fun _ h => nomatch h⟩, fun h => List.length_eq_zero_iff.mp h.1⟩
  | n + 1, a => by
    show a ∈ (allS n).map (48 :: ·) ++ (allS n).map (49 :: ·) ↔ _
    rw [List.mem_append, List.mem_map, List.mem_map]
    constructor
    · rintro (⟨b, hb, rfl⟩ | ⟨b, hb, rfl⟩) <;> obtain ⟨h1, h2⟩ := mem_allS.mp hb <;> refine ⟨by simp [h1], fun c hc => ?_⟩ <;> rcases List.mem_cons.mp hc with rfl | hc
      · exact .inl rfl
      · exact h2 c hc
      · exact .inr rfl
      · exact h2 c hc
    · rintro ⟨h1, h2⟩
      cases a with
      | nil => cases h1
      | cons c b =>
        have hb : b ∈ allS n := mem_allS.mpr ⟨by simpa using h1, fun x hx => h2 x (List.mem_cons_of_mem _ hx)⟩
        rcases h2 c List.mem_cons_self with rfl | rfl
        · exact .inl ⟨b, hb, rfl⟩
        · exact .inr ⟨b, hb, rfl⟩
theorem len_allS : ∀ {n : Nat}, (allS n).length = 2 ^ n
  | 0 => rfl
  | n + 1 => by
    show ((allS n).map (48 :: ·) ++ (allS n).map (49 :: ·)).length = _
    rw [List.length_append, List.length_map, List.length_map, len_allS, Nat.pow_succ]
    omega
theorem allS_sets {n : Nat} : Sets n (allS n) := ⟨fun l hl => (mem_allS.mp hl).1, fun l hl => (mem_allS.mp hl).2⟩
/-! what is closed among settings -/
def aboveS (A : List (List Nat)) (o : List Nat) : List (List Nat) := A.filter fun a => onB a o
def closedB (n : Nat) (A : List (List Nat)) (o : List Nat) : Option (List Nat) :=
  if (aboveS A o).isEmpty then none else some ((List.range n).filter fun k => (aboveS A o).all fun a => decide (a.getD k 0 = 49))
theorem closed_ans {n : Nat} {P : List Pr2} {o : List Nat} (hP : Prs n P) (ho : Up n o) : Ans n P o (closedB n ((allS n).filter fun a => P.all (keepsP a)) o) := by
  -- every one of them holds the least set
  have low : ∀ a ∈ aboveS ((allS n).filter fun a => P.all (keepsP a)) o, a.length = n ∧ (∀ k, Lfp P o k → k ∈ ons a) ∧ ∀ p ∈ P, (∀ k ∈ p.1, Lfp P o k) → p.2 ≠ none := fun a ha => by
    obtain ⟨ha, h1⟩ := List.mem_filter.mp ha
    obtain ⟨ha, h2⟩ := List.mem_filter.mp ha
    obtain ⟨ln, _⟩ := mem_allS.mp ha
    rw [List.all_eq_true] at h2
    have lo := fun {l : List Nat} (u : Up n l) => onB_ons (a := a) (l := l) fun k hk => by have := u.lt k hk; omega
    have keep : ∀ p ∈ P, (∀ k ∈ p.1, k ∈ ons a) → onO a p.2 = true := fun p hp h => by
      have q := h2 p hp
      unfold keepsP at q
      rw [(lo (hP.l p hp)).mpr h] at q
      simpa using q
    have sub : ∀ k, Lfp P o k → k ∈ ons a := fun k hk => hk (· ∈ ons a) (fun p hp r hr h => by
      have q := keep p hp h
      rw [hr] at q
      exact (lo (hP.r p hp r hr)).mp q) ((lo ho).mp h1)
    refine ⟨ln, sub, fun p hp h hn => ?_⟩
    have q := keep p hp fun k hk => sub k (h k hk)
    rw [hn] at q
    cases q
  have full : ¬ Bad P o → ∃ a ∈ aboveS ((allS n).filter fun a => P.all (keepsP a)) o, ∀ k, k < n → a.getD k 0 = 49 → Lfp P o k := fun hb => by
    classical
    let s := (List.range n).filter fun k => decide (Lfp P o k)
    have hs : ∀ k, k ∈ s ↔ Lfp P o k := fun k => by
      rw [List.mem_filter, List.mem_range, decide_eq_true_iff]
      exact ⟨fun h => h.2, fun h => ⟨lfp_lt hP ho h, h⟩⟩
    have at' : ∀ k, k < n → ((setO n s).getD k 0 = 49 ↔ Lfp P o k) := fun k hk => (setO_on hk).trans (hs k)
    refine ⟨setO n s, List.mem_filter.mpr ⟨List.mem_filter.mpr ⟨mem_allS.mpr ⟨setO_len, setO_bit⟩, ?_⟩, ?_⟩, fun k hk h => (at' k hk).mp h⟩
    · rw [List.all_eq_true]
      intro p hp
      unfold keepsP
      cases q : onB (setO n s) p.1 with
      | false => rfl
      | true =>
        have hl : ∀ k ∈ p.1, Lfp P o k := fun k hk => (at' k (by have := (hP.l p hp).lt k hk; omega)).mp (onB_iff.mp q k hk)
        cases e : p.2 with
        | none => exact absurd ⟨p, hp, e, hl⟩ hb
        | some r =>
          show onB (setO n s) r = true
          exact onB_iff.mpr fun k hk => (at' k (by have := (hP.r p hp r e).lt k hk; omega)).mpr (lfp_cl p hp r e hl k hk)
    · exact onB_iff.mpr fun k hk => (at' k (by have := ho.lt k hk; omega)).mpr (lfp_o k hk)
  unfold closedB
  generalize aboveS ((allS n).filter fun a => P.all (keepsP a)) o = B at low full
  by_cases c : B.isEmpty = true
  · rw [if_pos c]
    show Bad P o
    exact Classical.byContradiction fun hb => by
      obtain ⟨a, ha, _⟩ := full hb
      rw [List.isEmpty_iff.mp c] at ha
      cases ha
  · rw [if_neg c]
    obtain ⟨a, ha⟩ : ∃ a, a ∈ B := by
      cases B with
      | nil => exact absurd rfl c
      | cons a r => exact ⟨a, List.mem_cons_self⟩
    obtain ⟨la, sub, nb⟩ := low a ha
    have hb : ¬ Bad P o := fun ⟨p, hp, hn, hl⟩ => nb p hp hl hn
    refine ⟨hb, ⟨fun k hk => ?_, List.pairwise_lt_range.filter _⟩, fun k => ?_⟩
    · have := List.mem_range.mp (List.mem_filter.mp hk).1
      omega
    · rw [List.mem_filter, List.mem_range, List.all_eq_true]
      constructor
      · rintro ⟨hk, h⟩
        obtain ⟨b, hb', hf⟩ := full hb
        exact hf k hk (by simpa using h b hb')
      · intro h
        exact ⟨lfp_lt hP ho h, fun b hb' => by
          obtain ⟨_, sb, _⟩ := low b hb'
          simpa using (mem_ons.mp (sb k h)).2⟩
/-! closed among settings, in the code -/
theorem st_at {n k : Nat} {ls : List (List Nat)} {a : List Nat} (h : Sets n ls) (ha : a ∈ ls) (hk : k < n) : ∃ x, a[k]? = some x ∧ a.getD k 0 = x := by
  have : k < a.length := by rw [h.len a ha]; exact hk
  exact ⟨_, List.getElem?_eq_getElem this, by rw [List.getD_eq_getElem?_getD, List.getElem?_eq_getElem this]; rfl⟩
theorem above_sets {n : Nat} {ls : List (List Nat)} {o : List Nat} (h : Sets n ls) : Sets n (aboveS ls o) := h.sub fun _ hl => (List.mem_filter.mp hl).1
theorem closed_in_e {M : List MO} {n : Nat} {ls : List (List Nat)} {o : List Nat} (h : Sets n ls) (ho : Up n o) (h1 : n ≤ 30) (hl : ls.length ≤ 1000) : callF F_closed_in 3 [.d (.int (n : Int)), .d (.list (sts ls)), .d (.tuple (oi o))] M = .ok (.d (dOpt (closedB n ls o))) M := by
  refine callF_dx (J := []) ?_
  have lo := ho.len' h1
  have e1 : compL (gN 4) y1_closed_in x1_closed_in [some (.d (.int (n : Int))), some (.d (.list (sts ls))), some (.d (.tuple (oi o))), none, none, none] (sts ls) [] = some (sts (aboveS ls o), []) := by
    unfold sts aboveS
    exact compL_on _ _ _ fun a ha => ⟨_, rfl, by simp [y1_closed_in, are_on_e (show a.length ≤ 30 by rw [h.len a ha]; exact h1) (show o.length ≤ 1000 by omega) (ho.lt' (h.len a ha))], fun _ => by simp [x1_closed_in]⟩
  have hA := above_sets (o := o) h
  have lA : (aboveS ls o).length ≤ ls.length := List.length_filter_le _ _
  unfold closedB
  generalize aboveS ls o = A at e1 hA lA
  have sA := shaped_sts (ls := A) fun l hl => bit_lt (hA.bit l hl)
  have iA : (sts A).isEmpty = A.isEmpty := by cases A <;> rfl
  have cA : (sts A).length = A.length := by simp [sts]
  have e2 : compL (gN 5) y3_closed_in x3_closed_in [some (.d (.int (n : Int))), some (.d (.list (sts ls))), some (.d (.tuple (oi o))), some (.d (.list (sts A))), none, none] (rng 0 n) [] = some (oi ((List.range n).filter fun k => A.all fun a => decide (a.getD k 0 = 49)), []) := by
    have := compL_on (gt := gN 5) (tt := y3_closed_in) (te := x3_closed_in) (ρ := [some (.d (.int (n : Int))), some (.d (.list (sts ls))), some (.d (.tuple (oi o))), some (.d (.list (sts A))), none, none]) (M := []) (fun (k : Nat) => .int ((0 : Int) + (k : Int))) (fun k => A.all fun a => decide (a.getD k 0 = 49)) (fun (k : Nat) => .int (k : Int)) (l := List.range n) fun k hk => ⟨_, rfl, by
      have hk' := List.mem_range.mp hk
      have e3 : compL (gN 4) sYes x2_closed_in [some (.d (.int (n : Int))), some (.d (.list (sts ls))), some (.d (.tuple (oi o))), some (.d (.list (sts A))), none, some (.d (.int (k : Int)))] (sts A) [] = some (bl (A.map fun a => decide (a.getD k 0 = 49)), []) := by
        unfold sts bl
        rw [List.map_map]
        exact compL_all _ _ fun a ha => by
          obtain ⟨x, hx, hy⟩ := st_at hA ha hk'
          exact ⟨_, rfl, rfl, by simp [x2_closed_in, hx, szT (show a.length ≤ 16777216 by rw [hA.len a ha]; omega)]⟩
      have lA2 : (sts A).length ≤ sizeLine := by rw [cA]; exact sz (by omega)
      simp [y3_closed_in, lA2, e3, Function.comp_def], fun _ => by simp [x3_closed_in]⟩
    exact this
  have lF : ((List.range n).filter fun k => A.all fun a => decide (a.getD k 0 = 49)).length ≤ n := by
    have := List.length_filter_le (fun k => A.all fun a => decide (a.getD k 0 = 49)) (List.range n)
    rwa [List.length_range] at this
  generalize ((List.range n).filter fun k => A.all fun a => decide (a.getD k 0 = 49)) = F at e2 lF
  have r1 := asR1_c (M := []) (j := (n : Int)) (by omega)
  have lS : (sts ls).length ≤ sizeLine := by show (ls.map _).length ≤ _; rw [List.length_map]; exact sz (by omega)
  generalize sts A = B at *
  generalize sts ls = C at *
  cases q : A.isEmpty with
  | true => simp [F_closed_in, b_closed_in, lS, e1, sA, eqv_nil, iA, q, dOpt]
  | false => simp [F_closed_in, b_closed_in, lS, e1, sA, eqv_nil, iA, q, dOpt, r1, rng_len, szT (show n ≤ 16777216 by omega), e2, szT (show F.length ≤ 16777216 by omega), show F.length ≤ 16777216 by omega]
/-- what both find, compared -/
theorem eqvA_oi : ∀ {a b : List Nat}, PyData.eqvAll (oi a) (oi b) = decide (a = b)
  | [], [] => rfl
  | [], y :: b => rfl
  | x :: a, [] => rfl
  | x :: a, y :: b => by
    show (PyData.eqv (.int (x : Int)) (.int (y : Int)) && PyData.eqvAll (oi a) (oi b)) = _
    rw [eqv_i, eqvA_oi, ← Bool.decide_and]
    exact decide_eq_decide.mpr (by rw [List.cons.injEq]; exact and_congr_left fun _ => Int.ofNat_inj)
theorem eqv_oiT {a b : List Nat} : PyData.eqv (.tuple (oi a)) (.tuple (oi b)) = decide (a = b) := eqvA_oi
theorem dOpt_sh {n : Nat} {x : Option (List Nat)} (h : ∀ l, x = some l → Up n l) (h1 : n ≤ 30) : SeqAt.shaped (dOpt x) = true := by
  cases x with
  | none => rfl
  | some l =>
    have q := (h l rfl).sm (show (n : Int) ≤ 30 by omega)
    exact shaped_of q.nice (by have := q.dep; show (PyData.tuple (oi l)).depth ≤ 64; omega)
theorem dOpt_eq {n : Nat} {x : Option (List Nat)} (h : ∀ l, x = some l → Up n l) (h1 : n ≤ 30) : SeqAt.shaped (dOpt x) = true ∧ PyData.eqv (dOpt x) (dOpt x) = true := by
  refine ⟨dOpt_sh h h1, ?_⟩
  cases x with
  | none => rfl
  | some l =>
    show PyData.eqv (.tuple (oi l)) (.tuple (oi l)) = true
    rw [eqv_oiT]
    exact decide_eq_true rfl
theorem Ans.up {n : Nat} {P : List Pr2} {o : List Nat} {x : Option (List Nat)} (h : Ans n P o x) : ∀ l, x = some l → Up n l := fun l e => by subst e; exact h.2.1
theorem closedB_up {n : Nat} {ls : List (List Nat)} {o : List Nat} : ∀ l, closedB n ls o = some l → Up n l := fun l hl => by
  unfold closedB at hl
  split at hl
  · cases hl
  · cases hl
    exact ⟨fun k hk => by have := List.mem_range.mp (List.mem_filter.mp hk).1; omega, List.pairwise_lt_range.filter _⟩
theorem law_above_e {M : List MO} {n : Nat} {ls : List (List Nat)} {o : List Nat} (h : Sets n ls) (ho : Up n o) (h1 : n ≤ 30) (hl : ls.length ≤ 1000) : callF F_law_above 2 [.d (.list (sts ls)), .d (.tuple (oi o))] M = .ok (.d (.list (sts (aboveS ls o)))) M := by
  refine callF_dx (J := []) ?_
  have lo := ho.len' h1
  have e1 : compL (gN 2) y2_law_above x2_law_above [some (.d (.list (sts ls))), some (.d (.tuple (oi o))), none, none] (sts ls) [] = some (sts (aboveS ls o), []) := by
    unfold sts aboveS
    exact compL_on _ _ _ fun a ha => ⟨_, rfl, by
      have la := h.len a ha
      have e3 : compL (gN 3) sYes x1_law_above [some (.d (.list (ls.map fun l => PyData.str (S l)))), some (.d (.tuple (oi o))), some (.d (.str (S a))), none] (oi o) [] = some (sg (sel a o), []) := by
        unfold oi sg sel
        rw [List.map_map]
        exact compL_all _ _ fun k hk => let ⟨x, hx⟩ := at_x (ho.lt' la k hk); ⟨_, rfl, rfl, by simp [x1_law_above, hx, szT (show a.length ≤ 16777216 by omega)]⟩
      have i1 := in_sg (c := 48) (bit_lt (sel_bit (h.bit a ha) (ho.lt' la))) (by decide)
      rw [onB_sel (h.bit a ha) (ho.lt' la)] at i1
      simp [y2_law_above, szT (show o.length ≤ 16777216 by omega), e3, i1], fun _ => by simp [x2_law_above]⟩
  have lS : (sts ls).length ≤ sizeLine := by show (ls.map _).length ≤ _; rw [List.length_map]; exact sz (by omega)
  generalize sts ls = C at *
  simp [F_law_above, b_law_above, lS, e1]
theorem law_closed_e {M : List MO} {n : Nat} {ls : List (List Nat)} {o : List Nat} (h : Sets n ls) (ho : Up n o) (h1 : n ≤ 30) (hl : ls.length ≤ 1000) : callF F_law_closed 3 [.d (.int (n : Int)), .d (.list (sts ls)), .d (.tuple (oi o))] M = .ok (.d (dOpt (closedB n ls o))) M := by
  refine callF_dx (J := []) ?_
  have e1 := law_above_e (M := []) h ho h1 hl
  have hA := above_sets (o := o) h
  have lA : (aboveS ls o).length ≤ ls.length := List.length_filter_le _ _
  unfold closedB
  generalize aboveS ls o = A at e1 hA lA
  have sA := shaped_sts (ls := A) fun l hl => bit_lt (hA.bit l hl)
  have iA : (sts A).isEmpty = A.isEmpty := by cases A <;> rfl
  have cA : (sts A).length = A.length := by simp [sts]
  have e2 : compL (gN 4) y2_law_closed x2_law_closed [some (.d (.int (n : Int))), some (.d (.list (sts ls))), some (.d (.tuple (oi o))), some (.d (.list (sts A))), none, none] (rng 0 n) [] = some (oi ((List.range n).filter fun k => A.all fun a => decide (a.getD k 0 = 49)), []) := by
    have := compL_on (gt := gN 4) (tt := y2_law_closed) (te := x2_law_closed) (ρ := [some (.d (.int (n : Int))), some (.d (.list (sts ls))), some (.d (.tuple (oi o))), some (.d (.list (sts A))), none, none]) (M := []) (fun (k : Nat) => .int ((0 : Int) + (k : Int))) (fun k => A.all fun a => decide (a.getD k 0 = 49)) (fun (k : Nat) => .int (k : Int)) (l := List.range n) fun k hk => ⟨_, rfl, by
      have hk' := List.mem_range.mp hk
      have e3 : compL (gN 5) sYes x1_law_closed [some (.d (.int (n : Int))), some (.d (.list (sts ls))), some (.d (.tuple (oi o))), some (.d (.list (sts A))), some (.d (.int (k : Int))), none] (sts A) [] = some (sg (colD A k), []) := by
        unfold sts sg colD
        rw [List.map_map]
        exact compL_all _ _ fun a ha => by
          obtain ⟨x, hx, hy⟩ := st_at hA ha hk'
          exact ⟨_, rfl, rfl, by simp [x1_law_closed, hx, szT (show a.length ≤ 16777216 by rw [hA.len a ha]; omega)]⟩
      have lA2 : (sts A).length ≤ sizeLine := by rw [cA]; exact sz (by omega)
      have i1 := in_sg (c := 48) (bit_lt (hA.col hk')) (by decide)
      have i2 : decide (48 ∈ colD A k) = !(A.all fun a => decide (a.getD k 0 = 49)) := by
        rw [Bool.eq_iff_iff, decide_eq_true_iff, Bool.not_eq_true', List.all_eq_false]
        constructor
        · intro hm
          obtain ⟨a, ha, e⟩ := List.mem_map.mp hm
          exact ⟨a, ha, by rw [e]; decide⟩
        · rintro ⟨a, ha, e⟩
          refine List.mem_map.mpr ⟨a, ha, ?_⟩
          have := hA.col hk' _ (List.mem_map.mpr ⟨a, ha, rfl⟩)
          rcases this with q | q
          · exact q
          · exact absurd (by simpa using q) e
      rw [i2] at i1
      generalize (A.all fun a => decide (a.getD k 0 = 49)) = Z at i1
      simp [y2_law_closed, lA2, e3, i1], fun _ => by simp [x2_law_closed]⟩
    exact this
  have lF : ((List.range n).filter fun k => A.all fun a => decide (a.getD k 0 = 49)).length ≤ n := by
    have := List.length_filter_le (fun k => A.all fun a => decide (a.getD k 0 = 49)) (List.range n)
    rwa [List.length_range] at this
  generalize ((List.range n).filter fun k => A.all fun a => decide (a.getD k 0 = 49)) = F at e2 lF
  have r1 := asR1_c (M := []) (j := (n : Int)) (by omega)
  generalize sts A = B at *
  generalize sts ls = C at *
  cases q : A.isEmpty with
  | true => simp [F_law_closed, b_law_closed, e1, sA, eqv_nil, iA, q, dOpt]
  | false => simp [F_law_closed, b_law_closed, e1, sA, eqv_nil, iA, q, dOpt, r1, rng_len, szT (show n ≤ 16777216 by omega), e2, szT (show F.length ≤ 16777216 by omega), show F.length ≤ 16777216 by omega]
/-! all sets of options, the small ones first -/
theorem compL2_all {α β : Type} {gt gt1 : GF} {tt tt1 : TF} {fi : IF} {te : EF} {vs1 : List Nat} {ρ : Rho} {M : List MO} (h : α → PyData) (g : α → List β) (hb : β → PyData) (f : α → β → PyData) : ∀ {l : List α},
    (∀ a ∈ l, ∃ ρ1, gt (.d (h a)) ρ M = some (ρ1, M) ∧ tt ρ1 M = .ok true M ∧ fi ρ1 M = .ok ((g a).map hb) M ∧ compL gt1 tt1 te (wip ρ1 vs1) ((g a).map hb) M = some ((g a).map (f a), M)) →
    compL2 gt tt fi gt1 tt1 te vs1 ρ (l.map h) M = some (l.flatMap fun a => (g a).map (f a), M)
  | [], _ => rfl
  | a :: l, k => by
    obtain ⟨ρ1, e1, e2, e3, e4⟩ := k a List.mem_cons_self
    have ih := compL2_all h g hb f (l := l) fun x hx => k x (List.mem_cons_of_mem _ hx)
    rw [List.map_cons]
    unfold compL2
    rw [e1]
    simp only [e2, e3, e4]
    rw [ih]
    simp only [List.flatMap_cons]
theorem sLc2_at {it it1 : IF} {gt gt1 : GF} {tt tt1 : TF} {te : EF} {vs vs1 : List Nat} {ρ : Rho} {M M1 M2 : List MO} {ds xs : List PyData} (hi : it ρ M = .ok ds M1) (hc : compL2 gt tt it1 gt1 tt1 te vs1 (wip ρ vs) ds M1 = some (xs, M2)) (hl : xs.length ≤ 16777216) :
    sLc2 it gt tt it1 gt1 tt1 te vs vs1 ρ M = .ok (.d (.list xs)) M2 := by
  unfold sLc2
  rw [hi, bind_ok, hc]
  exact if_pos (by unfold sizeLine; exact hl)
def nextS (n : Nat) (one : List Nat) : List Nat := (List.range n).filter fun k => one.all fun j => decide (j < k)
def lastL (n : Nat) : Nat → List (List Nat)
  | 0 => [[]]
  | k + 1 => (lastL n k).flatMap fun one => (nextS n one).map fun k => one ++ [k]
def foundL (n : Nat) : Nat → List (List Nat)
  | 0 => [[]]
  | k + 1 => foundL n k ++ lastL n (k + 1)
def setsL (n : Nat) : List (List Nat) := foundL n n
def tups (X : List (List Nat)) : List PyData := X.map fun l => .tuple (oi l)
theorem tups_len {X : List (List Nat)} : (tups X).length = X.length := List.length_map _
theorem last_up {n : Nat} : ∀ {k : Nat} {l : List Nat}, l ∈ lastL n k → Up n l ∧ l.length = k
  | 0, l, h => by
    rw [List.mem_singleton.mp h]
    exact ⟨⟨(fun k hk => nomatch hk), List.Pairwise.nil⟩, rfl⟩
  | k + 1, l, h => by
    obtain ⟨one, h1, h2⟩ := List.mem_flatMap.mp h
    obtain ⟨j, hj, rfl⟩ := List.mem_map.mp h2
    obtain ⟨u, e⟩ := last_up h1
    obtain ⟨j1, j2⟩ := List.mem_filter.mp hj
    have j3 : ∀ x ∈ one, x < j := by simpa using j2
    have j4 := List.mem_range.mp j1
    refine ⟨⟨fun x hx => ?_, ?_⟩, by simp [e]⟩
    · rcases List.mem_append.mp hx with z | z
      · exact u.lt x z
      · rw [List.mem_singleton.mp z]; omega
    · rw [List.pairwise_append]
      exact ⟨u.up, List.pairwise_singleton _ _, fun x hx y hy => by rw [List.mem_singleton.mp hy]; exact j3 x hx⟩
theorem found_up {n : Nat} : ∀ {k : Nat} {l : List Nat}, l ∈ foundL n k → Up n l
  | 0, l, h => (last_up (k := 0) h).1
  | k + 1, l, h => by
    rcases List.mem_append.mp h with z | z
    · exact found_up z
    · exact (last_up z).1
theorem sets_up {n : Nat} {l : List Nat} (h : l ∈ setsL n) : Up n l := found_up h
theorem last_small : ∀ n, n ≤ 10 → ∀ k, k ≤ n → (lastL n k).length ≤ 1024 := by decide +kernel
theorem found_small : ∀ n, n ≤ 10 → ∀ k, k ≤ n → (foundL n k).length ≤ 1024 := by decide +kernel
def stS (one : List Nat) : Int := match one.getLast? with
  | some k => (k : Int) + 1
  | none => 0
theorem rng_next {n : Nat} {one : List Nat} (h : Up n one) : rng (stS one) ((n : Int) - stS one).toNat = oi (nextS n one) := by
  unfold stS
  have key : ∀ a : Nat, a ≤ n → rng (a : Int) ((n : Int) - (a : Int)).toNat = oi ((List.range n).filter fun k => decide (a ≤ k)) := fun a ha => by
    unfold rng oi
    have e : (List.range n).filter (fun k => decide (a ≤ k)) = (List.range (n - a)).map (a + ·) := by
      obtain ⟨b, rfl⟩ := Nat.exists_eq_add_of_le ha
      rw [List.range_add, List.filter_append, Nat.add_sub_cancel_left]
      rw [List.filter_eq_nil_iff.mpr (fun x hx => by have := List.mem_range.mp hx; simpa using this)]
      rw [List.nil_append]
      exact List.filter_eq_self.mpr fun x hx => by
        obtain ⟨y, _, rfl⟩ := List.mem_map.mp hx
        simp
    rw [e, List.map_map]
    have : ((n : Int) - (a : Int)).toNat = n - a := by omega
    rw [this]
    refine List.map_congr_left fun k _ => ?_
    simp
  cases q : one.getLast? with
  | none =>
    have : one = [] := List.getLast?_eq_none_iff.mp q
    subst this
    have := key 0 (Nat.zero_le _)
    have e : nextS n [] = (List.range n).filter fun k => decide (0 ≤ k) := List.filter_congr fun _ _ => by simp
    rw [e]
    exact this
  | some k =>
    obtain ⟨pre, rfl⟩ := List.getLast?_eq_some_iff.mp q
    have hk := h.lt k (by simp)
    have hp := h.up
    rw [List.pairwise_append] at hp
    have := key (k + 1) (by omega)
    show rng ((k : Int) + 1) ((n : Int) - ((k : Int) + 1)).toNat = _
    rw [show ((k : Int) + 1) = ((k + 1 : Nat) : Int) by omega, this]
    unfold nextS
    refine congrArg oi (List.filter_congr fun j _ => ?_)
    rw [Bool.eq_iff_iff, decide_eq_true_iff, List.all_eq_true]
    constructor
    · intro hj x hx
      rcases List.mem_append.mp hx with z | z
      · have := hp.2.2 x z k (by simp)
        simp only [decide_eq_true_eq]
        omega
      · rw [List.mem_singleton.mp z]
        simp only [decide_eq_true_eq]
        omega
    · intro hj
      have := hj k (by simp)
      simp only [decide_eq_true_eq] at this
      omega
theorem sets_of_e {M : List MO} {n : Nat} (h : n ≤ 10) : callF F_sets_of 1 [.d (.int (n : Int))] M = .ok (.d (.list (tups (setsL n)))) M := by
  refine callF_dx (J := []) ?_
  obtain ⟨ρ', M', e, y3, rfl, rfl⟩ := forL_rng (n := n) (gt := gN 3) (body := f1_sets_of) (ρ := [some (.d (.int (n : Int))), some (.d (.list (tups (foundL n 0)))), some (.d (.list (tups (lastL n 0)))), none, none, none]) (M := [])
    (fun k ρ N => ∃ y3, ρ = [some (.d (.int (n : Int))), some (.d (.list (tups (foundL n k)))), some (.d (.list (tups (lastL n k)))), y3, none, none] ∧ N = [])
    (fun k ρ N hk ⟨y3, hρ, hN⟩ => by
      subst hρ hN
      have lk := last_small n h k (by omega)
      have lk1 := last_small n h (k + 1) (by omega)
      have fk := found_small n h k (by omega)
      have c1 : compL2 (gN 4) sYes j1_sets_of (gN 5) sYes x1_sets_of [5] [some (.d (.int (n : Int))), some (.d (.list (tups (foundL n k)))), some (.d (.list (tups (lastL n k)))), some (.d (.int (k : Int))), none, none] (tups (lastL n k)) [] = some (tups (lastL n (k + 1)), []) := by
        have : tups (lastL n (k + 1)) = (lastL n k).flatMap fun one => (nextS n one).map fun j => PyData.tuple (oi (one ++ [j])) := by
          show List.map _ ((lastL n k).flatMap _) = _
          rw [List.map_flatMap]
          refine congrArg (fun f => (lastL n k).flatMap f) (funext fun one => ?_)
          rw [List.map_map]
          rfl
        rw [this]
        refine compL2_all (fun t => PyData.tuple (oi t)) (nextS n) (fun (j : Nat) => PyData.int (j : Int)) (fun t (j : Nat) => PyData.tuple (oi (t ++ [j]))) fun t ht => ?_
        obtain ⟨ut, lt⟩ := last_up ht
        have lt' : t.length ≤ 10 := by omega
        refine ⟨_, rfl, rfl, ?_, ?_⟩
        · have r := rng_next ut
          have e3 : (List.map (fun (j : Nat) => PyData.int (j : Int)) (nextS n t)) = oi (nextS n t) := rfl
          rw [e3, ← r]
          unfold stS
          cases q : t.getLast? with
          | none =>
            have : t = [] := List.getLast?_eq_none_iff.mp q
            subst this
            have a2 := asR2_c (M := []) (i := 0) (j := (n : Int)) (by decide) (by omega)
            rw [Int.sub_zero, Int.toNat_natCast] at a2
            have s0 : SeqAt.shaped (.tuple []) = true := by decide +kernel
            have q0 : PyData.eqv (.tuple []) (.tuple []) = true := by decide +kernel
            simp [j1_sets_of, oi, a2, szT, s0, q0]
          | some b =>
            obtain ⟨pre, rfl⟩ := List.getLast?_eq_some_iff.mp q
            have hb := ut.lt b (by simp)
            have a2 := asR2_c (M := []) (i := (b : Int) + 1) (j := (n : Int)) (by omega) (by omega)
            have eo : oi (pre ++ [b]) = oi pre ++ [.int (b : Int)] := by unfold oi; rw [List.map_append]; rfl
            have sm := ut.sm (show (n : Int) ≤ 30 by omega)
            rw [eo] at sm
            have ne : pNe [.tuple (oi pre ++ [.int (b : Int)]), .tuple []] = some (.bool true) := by
              rw [pNe_sh (shaped_of sm.nice (by have := sm.dep; omega)) (by decide +kernel)]
              cases oi pre <;> rfl
            have ix : atI (oi pre ++ [PyData.int (b : Int)]) (-1) = some (.int (b : Int)) := atI_last _ _
            have lo : (oi pre).length ≤ 9 := by rw [oi_len]; simp at lt'; omega
            rw [eo]
            generalize oi pre = Y at *
            simp [j1_sets_of, a2, ne, ix, szT (show Y.length + 1 ≤ 16777216 by omega), szT]
        · refine compL_all (fun (j : Nat) => PyData.int (j : Int)) (fun (j : Nat) => PyData.tuple (oi (t ++ [j]))) fun j hj => ⟨_, rfl, rfl, ?_⟩
          have eo : oi (t ++ [j]) = oi t ++ [.int (j : Int)] := by unfold oi; rw [List.map_append]; rfl
          rw [eo]
          have lo : (oi t).length = t.length := oi_len
          generalize oi t = Y at *
          generalize tups (lastL n k) = X at *
          generalize tups (foundL n k) = X2 at *
          simp [x1_sets_of, szT (show Y.length + 1 ≤ 16777216 by omega), szT]
      refine ⟨_, _, rfl, _, [], ?_, some (.d (.int (k : Int))), rfl, rfl⟩
      have ea : tups (foundL n (k + 1)) = tups (foundL n k) ++ tups (lastL n (k + 1)) := List.map_append
      rw [ea]
      have z1 : (tups (lastL n k)).length ≤ 1024 := by rw [tups_len]; exact lk
      have z2 : (tups (lastL n (k + 1))).length ≤ 1024 := by rw [tups_len]; exact lk1
      have z3 : (tups (foundL n k)).length ≤ 1024 := by rw [tups_len]; exact fk
      have c2 := sLc2_at (it := itD (sV 2)) (gt := gN 4) (tt := sYes) (it1 := j1_sets_of) (gt1 := gN 5) (tt1 := sYes) (te := x1_sets_of) (vs := [4, 5]) (vs1 := [5]) (ρ := [some (.d (.int (n : Int))), some (.d (.list (tups (foundL n k)))), some (.d (.list (tups (lastL n k)))), some (.d (.int (k : Int))), none, none]) (M := []) (M1 := []) (ds := tups (lastL n k)) (by simp [szT (show (tups (lastL n k)).length ≤ 16777216 by omega)]) c1 (by omega)
      have y1 := szT (show (tups (lastL n k)).length ≤ 16777216 by omega)
      have y2 := szT (show (tups (lastL n (k + 1))).length ≤ 16777216 by omega)
      have y4 := szT (show (tups (foundL n k)).length + (tups (lastL n (k + 1))).length ≤ 16777216 by omega)
      generalize tups (lastL n (k + 1)) = X1 at *
      generalize tups (lastL n k) = X at *
      generalize tups (foundL n k) = X2 at *
      simp [f1_sets_of, f1_sets_of_1, c2, y1, y2, y4]) ⟨none, rfl, rfl⟩
  have a := asR1_c (M := []) (j := (n : Int)) (by omega)
  rw [Int.toNat_natCast] at a
  have lr := szT (show (rng 0 n).length ≤ 16777216 by rw [rng_len]; omega)
  have e0 : PyData.list (tups (lastL n 0)) = .list [.tuple []] := rfl
  have e1 : PyData.list (tups (foundL n 0)) = .list [.tuple []] := rfl
  rw [e0, e1] at e
  have ls := found_small n h n (Nat.le_refl _)
  show _ = Res.ok (W.d (.list (tups (foundL n n)))) []
  generalize tups (foundL n n) = X at *
  generalize tups (lastL n n) = X2 at *
  simp [F_sets_of, b_sets_of, b_sets_of_1, b_sets_of_2, b_sets_of_3, a, lr, e, szT]
/-! what a lambda closes, gathered -/
theorem cloI_ne : Nonempty CloI := ⟨⟨0, ⟨"", "", ⟨[], [], none, [], [], none, []⟩, [], ⟨.function, [], false, false, default⟩, [], 0⟩, .Name "" ⟨0, 0, 0, 0⟩, []⟩⟩
theorem sCallLam_at {ng : Nat} {sf : CloI → List W → SF} {js : List Nat} {fe : EF} {ρ : Rho} {M M1 : List MO} {w : W} {ws : List W} {R : Res W} (he : fe ρ M = .ok w M1) (hc : capt ρ js = some ws) (h : ∀ i : CloI, defF ng (sf i ws) [w, .clo i ws] M1 = R) : sCallLam ng sf js fe ρ M = R := by
  unfold sCallLam
  rw [he, bind_ok, hc]
  have hx : ∃ R, ∀ i : CloI, defF ng (sf i ws) [w, .clo i ws] M1 = R := ⟨R, h⟩
  simp only
  rw [dif_pos hx]
  obtain ⟨i⟩ := cloI_ne
  rw [← hx.choose_spec i, h i]
theorem sCallCl_at {j n : Nat} {i : CloI} {ws : List W} {fb fe : EF} {ρ : Rho} {M M1 M2 : List MO} {w r : W} (h : ρ[j]? = some (some (.clo i ws))) (he : fe ρ M = .ok w M1) (hb : fb (some w :: (ws.map some ++ List.replicate (n - 1 - ws.length) none)) M1 = .ok r M2) : sCallCl j i ws n fb fe ρ M = .ok r M2 := by
  unfold sCallCl
  rw [if_pos h, he, bind_ok, hb]
theorem forL_foldS {α β : Type} {gt : GF} {body : SF} (h : α → PyData) (f : β → α → β) (J : Nat → β → Rho → List MO → Prop) : ∀ {l : List α} {c : Nat} {b : β} {ρ : Rho} {M : List MO},
    (∀ (c : Nat) (b : β) (x : α) (ρ : Rho) (M : List MO), x ∈ l → J (c + 1) b ρ M → ∃ ρ1 M1, gt (.d (h x)) ρ M = some (ρ1, M1) ∧ ∃ ρ2 M2, body ρ1 M1 = .nx ρ2 M2 ∧ J c (f b x) ρ2 M2) → l.length ≤ c → J c b ρ M →
    ∃ c' ρ' M', forL gt body (l.map h) ρ M = .nx ρ' M' ∧ J c' (l.foldl f b) ρ' M'
  | [], c, b, ρ, M, _, _, hi => ⟨c, ρ, M, rfl, hi⟩
  | x :: l, c, b, ρ, M, hb, hl, hi => by
    obtain ⟨c, rfl⟩ : ∃ c', c = c' + 1 := ⟨c - 1, by rw [List.length_cons] at hl; omega⟩
    obtain ⟨ρ1, M1, e1, ρ2, M2, e2, h2⟩ := hb c b x ρ M (by simp) hi
    obtain ⟨c', ρ', M', e3, h3⟩ := forL_foldS h f J (l := l) (c := c) (b := f b x) (ρ := ρ2) (M := M2) (fun c b y ρ M hy => hb c b y ρ M (List.mem_cons_of_mem _ hy)) (by rw [List.length_cons] at hl; omega) h2
    exact ⟨c', ρ', M', by rw [List.map_cons, forL_cons, e1]; simp only [e2, nxt_nx, e3], h3⟩
/-- what is new on the right -/
def restO (o : List Nat) : Option (List Nat) → Option (List Nat)
  | none => none
  | some w => some (w.filter fun k => decide (k ∉ o))
def goodS (n : Nat) (cl : List Nat → Option (List Nat)) (F : List Pr2) (o : List Nat) : Bool := decide (cl o ≠ some o) && F.all (keepsP (setO n o))
def stepS (n : Nat) (cl : List Nat → Option (List Nat)) (F : List Pr2) (o : List Nat) : List Pr2 := if goodS n cl F o then F ++ [(o, restO o (cl o))] else F
def stemsV (n : Nat) (cl : List Nat → Option (List Nat)) : List Pr2 := (setsL n).foldl (stepS n cl) []
theorem filter_up {n : Int} {l : List Nat} {p : Nat → Bool} (h : Up n l) : Up n (l.filter p) := ⟨fun k hk => h.lt k (List.mem_filter.mp hk).1, h.up.filter _⟩
theorem stepS_prs {n : Nat} {cl : List Nat → Option (List Nat)} {F : List Pr2} {o : List Nat} (hF : Prs n F) (ho : Up n o) (hc : ∀ w, cl o = some w → Up n w) : Prs n (stepS n cl F o) := by
  unfold stepS
  split
  · refine ⟨fun p hp => ?_, fun p hp r hr => ?_⟩
    · rcases List.mem_append.mp hp with z | z
      · exact hF.l p z
      · rw [List.mem_singleton.mp z]; exact ho
    · rcases List.mem_append.mp hp with z | z
      · exact hF.r p z r hr
      · rw [List.mem_singleton.mp z] at hr
        cases q : cl o with
        | none => rw [q] at hr; cases hr
        | some w =>
          rw [q] at hr
          cases hr
          exact filter_up (hc w q)
  · exact hF
theorem oi_filter_nin {o w : List Nat} {ρ0 : Rho} {gt : GF} {tt : TF} {te : EF} {M : List MO} (h : ∀ k ∈ w, ∃ ρ1, gt (.d (.int (k : Int))) ρ0 M = some (ρ1, M) ∧ tt ρ1 M = .ok (decide (k ∉ o)) M ∧ te ρ1 M = .ok (.d (.int (k : Int))) M) :
    compL gt tt te ρ0 (oi w) M = some (oi (w.filter fun k => decide (k ∉ o)), M) := by
  unfold oi
  exact compL_on (fun (k : Nat) => PyData.int (k : Int)) (fun k => decide (k ∉ o)) (fun (k : Nat) => PyData.int (k : Int)) fun k hk => let ⟨ρ1, a, b, c⟩ := h k hk; ⟨ρ1, a, b, fun _ => c⟩
theorem up_lt30 {n : Nat} {l : List Nat} (h : Up n l) (h1 : n ≤ 30) : ∀ k ∈ l, k < 1000000 := fun k hk => by
  have := h.lt k hk
  omega
theorem tyL0 {X : List PyData} : tyW MT'.list [MO.lst X] (W.loc 0) = true := rfl
theorem stem_turn {n : Nat} {i : CloI} {ws : List W} {m : Nat} {fb : EF} {cl : List Nat → Option (List Nat)} {F : List Pr2} {o : List Nat} {y4 y5 y6 : Option W} (h1 : n ≤ 30) (hF : Prs n F) (lF : F.length ≤ 2000) (ho : Up n o) (hc : ∀ w, cl o = some w → Up n w)
    (hb : ∀ M, fb (some (.d (.tuple (oi o))) :: (ws.map some ++ List.replicate (m - 1 - ws.length) none)) M = .ok (.d (dOpt (cl o))) M) :
    ∃ z4 z5 z6, f1_stems_of m fb i ws [some (.d (.int (n : Int))), some (.clo i ws), some (.loc 0), some (.d (.tuple (oi o))), y4, y5, y6, none, none] [.lst (F.map pd)] = .nx [some (.d (.int (n : Int))), some (.clo i ws), some (.loc 0), some (.d (.tuple (oi o))), z4, z5, z6, none, none] [.lst ((stepS n cl F o).map pd)] := by
  have e1 : sCallCl 1 i ws m fb (sV 3) [some (.d (.int (n : Int))), some (.clo i ws), some (.loc 0), some (.d (.tuple (oi o))), y4, y5, y6, none, none] [.lst (F.map pd)] = .ok (.d (dOpt (cl o))) [.lst (F.map pd)] := sCallCl_at rfl rfl (hb _)
  have e2 := setting_of_e (M := [.lst (F.map pd)]) (n := n) (s := o) h1 (up_lt30 ho h1)
  have sm := ho.sm (show (n : Int) ≤ 30 by omega)
  have so : SeqAt.shaped (.tuple (oi o)) = true := shaped_of sm.nice (by have := sm.dep; omega)
  have ne : pNe [dOpt (cl o), .tuple (oi o)] = some (.bool (decide (cl o ≠ some o))) := by
    rw [pNe_sh (dOpt_sh hc h1) so]
    cases q : cl o with
    | none => rfl
    | some w =>
      show some (PyData.bool (!PyData.eqv (.tuple (oi w)) (.tuple (oi o)))) = _
      rw [eqv_oiT]
      by_cases c : w = o <;> simp [c]
  have ec : compL (gN 7) sYes x1_stems_of [some (.d (.int (n : Int))), some (.clo i ws), some (.loc 0), some (.d (.tuple (oi o))), some (.d (dOpt (cl o))), some (.d (.str (S (setO n o)))), y6, none, none] (F.map pd) [.dead] = some (bl (F.map (keepsP (setO n o))), [.dead]) := by
    unfold bl
    rw [List.map_map]
    exact compL_all _ _ fun p hp => ⟨_, rfl, rfl, by simp [x1_stems_of, keeps_pair_e hF hp setO_len h1]⟩
  have e3 := sLcT_at (i := 2) (n := 0) (gt := gN 7) (tt := sYes) (te := x1_stems_of) (vs := [7]) (ρ := [some (.d (.int (n : Int))), some (.clo i ws), some (.loc 0), some (.d (.tuple (oi o))), some (.d (dOpt (cl o))), some (.d (.str (S (setO n o)))), y6, none, none]) (M := [.lst (F.map pd)]) (M2 := [.dead]) (ds := F.map pd) rfl rfl (by rw [List.length_map]; exact sz (by omega)) ec rfl
  have lF2 : (F.map pd).length ≤ 2000 := by rw [List.length_map]; exact lF
  have zF := szT (show (F.map pd).length ≤ 16777216 by omega)
  have ap : pAppend [.loc 0, .d (pd (o, restO o (cl o)))] [.lst (F.map pd)] = some (.d .none, [.lst (F.map pd ++ [pd (o, restO o (cl o))])]) := pAppend_e rfl (by unfold sizeLine; omega)
  have lo := ho.len' h1
  rw [show [MO.dead].set 0 (.lst (F.map pd)) = [.lst (F.map pd)] from rfl] at e3
  unfold stepS goodS
  generalize setO n o = so' at *
  cases c1 : decide (cl o ≠ some o) with
  | false =>
    rw [c1] at ne
    refine ⟨some (.d (dOpt (cl o))), some (.d (.str (S so'))), y6, ?_⟩
    rw [if_neg (by simp)]
    generalize F.map pd = X at *
    generalize dOpt (cl o) = D at *
    simp [f1_stems_of, f1_stems_of_1, f1_stems_of_2, e1, e2, ne]
  | true =>
    rw [c1] at ne
    cases c2 : F.all (keepsP so') with
    | false =>
      refine ⟨some (.d (dOpt (cl o))), some (.d (.str (S so'))), y6, ?_⟩
      rw [if_neg (by simp)]
      generalize F.map pd = X at *
      generalize dOpt (cl o) = D at *
      simp [f1_stems_of, f1_stems_of_1, f1_stems_of_2, e1, e2, ne, e3, c2, Function.comp_def]
    | true =>
      refine ⟨some (.d (dOpt (cl o))), some (.d (.str (S so'))), some (.d (dOpt (restO o (cl o)))), ?_⟩
      cases q : cl o with
      | none =>
        rw [q] at e1 ne e3 ap
        have ap' : pAppend [.loc 0, .d (.tuple [.tuple (oi o), .none])] [.lst (F.map pd)] = some (.d .none, [.lst (F.map pd ++ [pd (o, restO o none)])]) := ap
        rw [if_pos (by rfl), List.map_append, List.map_singleton]
        generalize F.map pd = X at *
        simp only [dOpt, restO] at *
        simp [f1_stems_of, f1_stems_of_1, f1_stems_of_2, e1, e2, ne, e3, c2, Function.comp_def, pIsN, ap', tyL0]
      | some w =>
        rw [q] at e1 ne e3 ap
        have uw := hc w q
        have lw := uw.len' h1
        have ap' : pAppend [.loc 0, .d (.tuple [.tuple (oi o), .tuple (oi (w.filter fun k => decide (k ∉ o)))])] [.lst (F.map pd)] = some (.d .none, [.lst (F.map pd ++ [pd (o, restO o (some w))])]) := ap
        have lf : (w.filter fun k => decide (k ∉ o)).length ≤ w.length := List.length_filter_le _ _
        have ew : compL (gN 8) y2_stems_of x2_stems_of [some (.d (.int (n : Int))), some (.clo i ws), some (.loc 0), some (.d (.tuple (oi o))), some (.d (dOpt (some w))), some (.d (.str (S so'))), y6, none, none] (oi w) [.lst (F.map pd)] = some (oi (w.filter fun k => decide (k ∉ o)), [.lst (F.map pd)]) := by
          refine oi_filter_nin fun k hk => ⟨_, rfl, ?_, by simp [x2_stems_of]⟩
          have := in_oi (k := k) (up_lt30 ho h1)
          generalize F.map pd = X at *
          simp [y2_stems_of, this]
        rw [if_pos (by rfl), List.map_append, List.map_singleton]
        generalize F.map pd = X at *
        simp only [dOpt, restO] at *
        have zV := szT (show (w.filter fun k => decide (k ∉ o)).length ≤ 16777216 by omega)
        generalize (w.filter fun k => decide (k ∉ o)) = V at *
        simp [f1_stems_of, f1_stems_of_1, f1_stems_of_2, e1, e2, ne, e3, c2, Function.comp_def, pIsN, ap', tyL0, ew, szT (show w.length ≤ 16777216 by omega), zV, show V.length ≤ 16777216 by omega]
theorem foldS_prs {n : Nat} {cl : List Nat → Option (List Nat)} (hc : ∀ o w, Up n o → cl o = some w → Up n w) : ∀ {l : List (List Nat)} {F : List Pr2}, (∀ o ∈ l, Up n o) → Prs n F → Prs n (l.foldl (stepS n cl) F)
  | [], _, _, hF => hF
  | o :: l, F, hl, hF => foldS_prs hc (l := l) (fun o ho => hl o (List.mem_cons_of_mem _ ho)) (stepS_prs hF (hl o (by simp)) fun w => hc o w (hl o (by simp)))
theorem stepS_len {n : Nat} {cl : List Nat → Option (List Nat)} {F : List Pr2} {o : List Nat} : (stepS n cl F o).length ≤ F.length + 1 := by
  unfold stepS
  split
  · simp
  · omega
theorem foldS_len {n : Nat} {cl : List Nat → Option (List Nat)} : ∀ {l : List (List Nat)} {F : List Pr2}, (l.foldl (stepS n cl) F).length ≤ F.length + l.length
  | [], F => by simp
  | o :: l, F => by
    have h1 := foldS_len (n := n) (cl := cl) (l := l) (F := stepS n cl F o)
    have h2 := stepS_len (n := n) (cl := cl) (F := F) (o := o)
    rw [List.foldl_cons, List.length_cons]
    omega
theorem stemsV_prs {n : Nat} {cl : List Nat → Option (List Nat)} (hc : ∀ o w, Up n o → cl o = some w → Up n w) : Prs n (stemsV n cl) := foldS_prs hc (fun o ho => sets_up ho) ⟨(fun _ h => nomatch h), (fun _ h => nomatch h)⟩
theorem stemsV_len {n : Nat} {cl : List Nat → Option (List Nat)} (h : n ≤ 10) : (stemsV n cl).length ≤ 1024 := by
  have h1 := foldS_len (n := n) (cl := cl) (l := setsL n) (F := [])
  have h2 := found_small n h n (Nat.le_refl _)
  unfold stemsV
  unfold setsL at h1 ⊢
  simp only [List.length_nil] at h1
  omega
theorem foldS_congr {n : Nat} {c1 c2 : List Nat → Option (List Nat)} : ∀ {l : List (List Nat)} {F : List Pr2}, (∀ o ∈ l, c1 o = c2 o) → l.foldl (stepS n c1) F = l.foldl (stepS n c2) F
  | [], _, _ => rfl
  | o :: l, F, h => by
    have e : stepS n c1 F o = stepS n c2 F o := by
      unfold stepS goodS
      rw [h o (by simp)]
    rw [List.foldl_cons, List.foldl_cons, e]
    exact foldS_congr fun o ho => h o (List.mem_cons_of_mem _ ho)
theorem stemsV_congr {n : Nat} {c1 c2 : List Nat → Option (List Nat)} (h : ∀ o, Up n o → c1 o = c2 o) : stemsV n c1 = stemsV n c2 := foldS_congr fun o ho => h o (sets_up ho)
theorem stems_of_e {n : Nat} {i : CloI} {ws : List W} {m : Nat} {fb : EF} {cl : List Nat → Option (List Nat)} (h : n ≤ 10) (hc : ∀ o w, Up n o → cl o = some w → Up n w)
    (hb : ∀ o M, Up n o → fb (some (.d (.tuple (oi o))) :: (ws.map some ++ List.replicate (m - 1 - ws.length) none)) M = .ok (.d (dOpt (cl o))) M) :
    defF 9 (b_stems_of m fb i ws) [.d (.int (n : Int)), .clo i ws] [] = .ok (.loc 0) [.lst ((stemsV n cl).map pd)] := by
  have ls := found_small n h n (Nat.le_refl _)
  obtain ⟨c', ρ', M', e, z3, z4, z5, z6, rfl, rfl, _, _⟩ := forL_foldS (gt := gN 3) (body := f1_stems_of m fb i ws) (fun l => PyData.tuple (oi l)) (stepS n cl)
    (fun c F ρ N => ∃ z3 z4 z5 z6, ρ = [some (.d (.int (n : Int))), some (.clo i ws), some (.loc 0), z3, z4, z5, z6, none, none] ∧ N = [.lst (F.map pd)] ∧ Prs n F ∧ F.length + c ≤ 1024)
    (l := setsL n) (c := 1024) (b := []) (ρ := [some (.d (.int (n : Int))), some (.clo i ws), some (.loc 0), none, none, none, none, none, none]) (M := [.lst []])
    (fun c F o ρ N ho ⟨z3, z4, z5, z6, hρ, hN, hF, lF⟩ => by
      subst hρ hN
      have uo := sets_up ho
      obtain ⟨x4, x5, x6, e⟩ := stem_turn (i := i) (ws := ws) (m := m) (fb := fb) (y4 := z4) (y5 := z5) (y6 := z6) (show n ≤ 30 by omega) hF (by omega) uo (fun w => hc o w uo) (fun M => hb o M uo)
      have := stepS_len (n := n) (cl := cl) (F := F) (o := o)
      exact ⟨_, _, rfl, _, _, e, some (.d (.tuple (oi o))), x4, x5, x6, rfl, rfl, stepS_prs hF uo fun w => hc o w uo, by omega⟩) ls ⟨none, none, none, none, rfl, rfl, ⟨(fun _ h => nomatch h), (fun _ h => nomatch h)⟩, by simp⟩
  have es := sets_of_e (M := [.lst []]) h
  have lt := szT (show (tups (setsL n)).length ≤ 16777216 by rw [tups_len]; unfold setsL; omega)
  have et : (setsL n).map (fun l => PyData.tuple (oi l)) = tups (setsL n) := rfl
  rw [et] at e
  unfold stemsV
  generalize (List.foldl (stepS n cl) [] (setsL n)).map pd = R at *
  generalize tups (setsL n) = T at *
  simp [b_stems_of, b_stems_of_1, b_stems_of_2, es, lt, e]
theorem eqv_dOpt : ∀ {a b : Option (List Nat)}, PyData.eqv (dOpt a) (dOpt b) = decide (a = b)
  | none, none => rfl
  | none, some _ => rfl
  | some _, none => rfl
  | some a, some b => by
    show PyData.eqv (.tuple (oi a)) (.tuple (oi b)) = _
    rw [eqv_oiT]
    simp
theorem eqv_pd {p q : Pr2} : PyData.eqv (pd p) (pd q) = decide (p = q) := by
  have e : PyData.eqv (pd p) (pd q) = (PyData.eqv (.tuple (oi p.1)) (.tuple (oi q.1)) && (PyData.eqv (dOpt p.2) (dOpt q.2) && true)) := rfl
  rw [e, eqv_oiT, eqv_dOpt, Bool.and_true]
  obtain ⟨a, b⟩ := p
  obtain ⟨c, d⟩ := q
  rw [Bool.eq_iff_iff, Bool.and_eq_true, decide_eq_true_iff, decide_eq_true_iff, decide_eq_true_iff, Prod.mk.injEq]
theorem eqvA_pd : ∀ {A B : List Pr2}, PyData.eqvAll (A.map pd) (B.map pd) = decide (A = B)
  | [], [] => rfl
  | [], _ :: _ => rfl
  | _ :: _, [] => rfl
  | a :: A, b :: B => by
    have e : PyData.eqvAll ((a :: A).map pd) ((b :: B).map pd) = (PyData.eqv (pd a) (pd b) && PyData.eqvAll (A.map pd) (B.map pd)) := rfl
    rw [e, eqv_pd, eqvA_pd, Bool.eq_iff_iff, Bool.and_eq_true, decide_eq_true_iff, decide_eq_true_iff, decide_eq_true_iff, List.cons.injEq]
theorem eqv_pds {A B : List Pr2} : PyData.eqv (.list (A.map pd)) (.list (B.map pd)) = decide (A = B) := eqvA_pd
theorem pds_shaped {n : Nat} {P : List Pr2} (hP : Prs n P) (h1 : n ≤ 30) : SeqAt.shaped (.list (P.map pd)) = true := fl_shaped2 (ds := P.map pd) (D := 2) (B := 7000) (fun d hd => by
  obtain ⟨p, hp, rfl⟩ := List.mem_map.mp hd
  exact pd_sm hP h1 p hp) (by decide)
theorem closedB_up' {n : Nat} {ls : List (List Nat)} : ∀ o w, Up n o → closedB n ls o = some w → Up n w := fun o w _ e => closedB_up (ls := ls) (o := o) w e
theorem stems_l {n : Nat} {ls : List (List Nat)} (h : Sets n ls) (h0 : 1 ≤ n) (h1 : n ≤ 10) (hl : ls.length ≤ 1000) : F_stems [.d (.int (n : Int)), .d (.list (sts ls))] [] = .ok (.loc 0) [.lst ((stemsV n (closedB n ls)).map pd)] := by
  have e : sCallLam 9 (b_stems_of 3 l_stems) [0, 1] (sV 0) [some (.d (.int (n : Int))), some (.d (.list (sts ls)))] [] = .ok (.loc 0) [.lst ((stemsV n (closedB n ls)).map pd)] :=
    sCallLam_at (M1 := []) (w := .d (.int (n : Int))) (ws := [.d (.int (n : Int)), .d (.list (sts ls))]) rfl rfl fun i => stems_of_e h1 closedB_up' fun o M ho => by
      have := closed_in_e (M := M) h ho (show n ≤ 30 by omega) hl
      simp [l_stems, this]
  have s1 := look_size_e (M := []) (show (1 : Int) ≤ (n : Int) by omega) (show (n : Int) ≤ 30 by omega)
  have s2 := look_settings_e (M := []) h (show n ≤ 30 by omega) (by omega)
  generalize (stemsV n (closedB n ls)).map pd = R at *
  simp [F_stems, b_stems, s1, s2, e]
theorem stems_e {M : List MO} {n : Nat} {ls : List (List Nat)} (h : Sets n ls) (h0 : 1 ≤ n) (h1 : n ≤ 10) (hl : ls.length ≤ 1000) : callF F_stems 2 [.d (.int (n : Int)), .d (.list (sts ls))] M = .ok (.d (.list ((stemsV n (closedB n ls)).map pd))) M :=
  callF_d (J := [.lst ((stemsV n (closedB n ls)).map pd)]) (w := .loc 0) (stems_l h h0 h1 hl) rfl
end K31
namespace K31
open PySem PySem.Spec PyProof.Rows L2 Y
theorem law_all_e {M : List MO} {n : Nat} (h1 : n ≤ 9) : callF F_law_all 1 [.d (.int (n : Int))] M = .ok (.d (.list (sts (allS n)))) M := by
  obtain ⟨ρ', M', e, z2, rfl, rfl⟩ := forL_rng (gt := gN 2) (body := f1_law_all) (n := n) (ρ := [some (.d (.int (n : Int))), some (.d (.list (sts (allS 0)))), none, none]) (M := [])
    (fun i ρ M => ∃ z2, ρ = [some (.d (.int (n : Int))), some (.d (.list (sts (allS i)))), z2, none] ∧ M = [])
    (fun i ρ M hi ⟨z2, hρ, hM⟩ => by
      subst hρ hM
      have lA : (allS i).length ≤ 512 := by
        rw [len_allS]
        exact Nat.le_trans (Nat.pow_le_pow_right (by decide) (show i ≤ 9 by omega)) (by decide)
      have e1 : ∀ y, compL (gN 3) sYes x1_law_all [some (.d (.int (n : Int))), some (.d (.list (sts (allS i)))), some y, none] (sts (allS i)) [] = some (sts ((allS i).map (48 :: ·)), []) := fun y => by
        unfold sts
        rw [List.map_map]
        exact compL_all _ _ fun a ha => ⟨_, rfl, rfl, by
          have la := (mem_allS.mp ha).1
          simp [x1_law_all, szT (show 1 + a.length ≤ 16777216 by omega)]⟩
      have e2 : ∀ y, compL (gN 3) sYes x2_law_all [some (.d (.int (n : Int))), some (.d (.list (sts (allS i)))), some y, none] (sts (allS i)) [] = some (sts ((allS i).map (49 :: ·)), []) := fun y => by
        unfold sts
        rw [List.map_map]
        exact compL_all _ _ fun a ha => ⟨_, rfl, rfl, by
          have la := (mem_allS.mp ha).1
          simp [x2_law_all, szT (show 1 + a.length ≤ 16777216 by omega)]⟩
      have l1 : (sts ((allS i).map (48 :: ·))).length ≤ 512 := by simp [sts, lA]
      have l2 : (sts ((allS i).map (49 :: ·))).length ≤ 512 := by simp [sts, lA]
      have e3 : sts (allS (i + 1)) = sts ((allS i).map (48 :: ·)) ++ sts ((allS i).map (49 :: ·)) := by
        show sts ((allS i).map (48 :: ·) ++ (allS i).map (49 :: ·)) = _
        unfold sts
        rw [List.map_append]
      have l3 : (sts (allS i)).length ≤ sizeLine := by simp [sts]; exact sz (by omega)
      rw [e3]
      generalize sts ((allS i).map (48 :: ·)) = A at *
      generalize sts ((allS i).map (49 :: ·)) = B at *
      generalize sts (allS i) = C at *
      exact ⟨_, _, rfl, [some (.d (.int (n : Int))), some (.d (.list (A ++ B))), some (.d (.int (i : Int))), none], [], by simp [f1_law_all, l3, e1, e2, szT (show A.length + B.length ≤ 16777216 by omega)], _, rfl, rfl⟩) ⟨none, rfl, rfl⟩
  refine callF_dx (J := []) ?_
  have r1 := asR1_c (M := []) (j := (n : Int)) (by omega)
  rw [show ((n : Int)).toNat = n by omega] at r1
  rw [show sts (allS 0) = [.str (S [])] from rfl] at e
  generalize rng 0 n = R at *
  simp [F_law_all, b_law_all, b_law_all_1, b_law_all_2, szT, r1, e]
/-! the subsets, as the law has them -/
theorem getD_at {a : List Nat} {k d : Nat} (h : k < a.length) : a[k]? = some (a.getD k d) := by
  rw [List.getD_eq_getElem?_getD, List.getElem?_eq_getElem h]
  rfl
theorem pCount_ons {a : List Nat} : pCount [.str (S a), .str (S [49])] = some (.int ((ons a).length : Int)) := by
  show some (PyData.int (Txt.count (S a) (S [49]))) = _
  unfold Txt.count
  rw [StrLaws.occ_eq]
  have h := occ_count (x := S a) (c := 49) ((S a).length + 1) 0 (#[], 0) (Nat.le_refl _) (Nat.le_refl _) (by omega)
  have e1 : (S [49] : Str) = ⟨#[49]⟩ := rfl
  rw [e1, Array.length_toList, Nat.sub_zero, h]
  congr 3
  have la : (S a).length = a.length := by simp [S, Str.length]
  have e2 : (S a).cps.toList = a := by simp [S]
  rw [la, e2, ← List.range_eq_range', List.range_succ, List.filter_append]
  unfold ons
  have e3 : ([a.length].filter fun i => decide (a[i]? = some 49)) = [] := by
    rw [List.filter_eq_nil_iff]
    intro i hi
    rw [List.mem_singleton.mp hi, List.getElem?_eq_none (Nat.le_refl _)]
    simp
  rw [e3, List.append_nil, Array.size_empty, Nat.zero_add]
  congr 1
  refine List.filter_congr fun k hk => ?_
  rw [decide_eq_decide, getD_at (d := 0) (List.mem_range.mp hk)]
  simp
def subL (n m : Nat) : List (List Nat) := ((allS n).filter fun a => decide ((ons a).length = m)).map ons
def subsF (n : Nat) : Nat → List (List Nat)
  | 0 => []
  | m + 1 => subsF n m ++ (subL n m).reverse
theorem subs_sets : ∀ n, n ≤ 9 → subsF n (n + 1) = setsL n := by decide +kernel
theorem subs_small : ∀ n, n ≤ 9 → ∀ m, m ≤ n + 1 → (subsF n m).length ≤ 1024 ∧ (subL n m).length ≤ 1024 := by decide +kernel
theorem ons_le {a : List Nat} : (ons a).length ≤ a.length := by
  unfold ons
  have := List.length_filter_le (fun k => decide (a.getD k 0 = 49)) (List.range a.length)
  rwa [List.length_range] at this
theorem len_allS9 {n : Nat} (h : n ≤ 9) : (allS n).length ≤ 512 := by
  rw [len_allS]
  exact Nat.le_trans (Nat.pow_le_pow_right (by decide) h) (by decide)
theorem subsets_e {M : List MO} {n : Nat} (h : n ≤ 9) : callF F_law_subsets 1 [.d (.int (n : Int))] M = .ok (.d (.list (tups (setsL n)))) M := by
  refine callF_dx (J := []) ?_
  have la : (sts (allS n)).length ≤ 512 := by show ((allS n).map _).length ≤ 512; rw [List.length_map]; exact len_allS9 h
  have za := szT (show (sts (allS n)).length ≤ 16777216 by omega)
  have ea := law_all_e (M := []) h
  obtain ⟨ρ', M', e, y2, y3, rfl, rfl⟩ := forL_rng (n := n + 1) (gt := gN 2) (body := f1_law_subsets) (ρ := [some (.d (.int (n : Int))), some (.d (.list (tups (subsF n 0)))), none, none, none, none]) (M := [])
    (fun m ρ N => ∃ y2 y3, ρ = [some (.d (.int (n : Int))), some (.d (.list (tups (subsF n m)))), y2, y3, none, none] ∧ N = [])
    (fun m ρ N hm ⟨y2, y3, hρ, hN⟩ => by
      subst hρ hN
      obtain ⟨s1, s2⟩ := subs_small n h m (by omega)
      have ec : compL (gN 4) y2_law_subsets x2_law_subsets [some (.d (.int (n : Int))), some (.d (.list (tups (subsF n m)))), some (.d (.int (m : Int))), y3, none, none] (sts (allS n)) [] = some (tups (subL n m), []) := by
        have : tups (subL n m) = ((allS n).filter fun a => decide ((ons a).length = m)).map fun a => PyData.tuple (oi (ons a)) := by unfold tups subL; rw [List.map_map]; rfl
        rw [this]
        unfold sts
        refine compL_on (fun l => PyData.str (S l)) (fun a => decide ((ons a).length = m)) (fun a => PyData.tuple (oi (ons a))) fun a ha => ⟨_, rfl, ?_, fun _ => ?_⟩
        · have hc := pCount_ons (a := a)
          generalize tups (subsF n m) = SD at *
          simp [y2_law_subsets, hc]
          omega
        · obtain ⟨la, ba⟩ := mem_allS.mp ha
          have e1 : compL (gN 5) y1_law_subsets x1_law_subsets [some (.d (.int (n : Int))), some (.d (.list (tups (subsF n m)))), some (.d (.int (m : Int))), y3, some (.d (.str (S a))), none] (rng 0 n) [] = some (oi (ons a), []) := by
            unfold rng oi ons
            rw [la]
            refine compL_on (fun (k : Nat) => PyData.int ((0 : Int) + (k : Int))) (fun k => decide (a.getD k 0 = 49)) (fun (k : Nat) => PyData.int (k : Int)) fun k hk => ⟨_, rfl, ?_, fun _ => by simp [x1_law_subsets]⟩
            have hk' := List.mem_range.mp hk
            obtain ⟨x, hx⟩ := at_x (a := a) (k := k) (by omega)
            have hy : a.getD k 0 = x := by rw [List.getD_eq_getElem?_getD, hx]; rfl
            show _ = Res.ok (decide (a.getD k 0 = 49)) _
            rw [hy]
            generalize tups (subsF n m) = SD at *
            simp [y1_law_subsets, hx, szT (show a.length ≤ 16777216 by omega)]
          have r1 := asR1_c (M := []) (j := (n : Int)) (by omega)
          rw [Int.toNat_natCast] at r1
          have lo : (ons a).length ≤ 9 := by have := ons_le (a := a); omega
          have zo := szT (show (ons a).length ≤ 16777216 by omega)
          have zr : ((rng 0 n).length ≤ sizeLine) = True := szT (by rw [rng_len]; omega)
          generalize tups (subsF n m) = SD at *
          simp [x2_law_subsets, e1, r1, zo, zr, show (ons a).length ≤ 16777216 by omega]
      have z1 := szT (show (tups (subsF n m)).length + (tups (subL n m)).reverse.length ≤ 16777216 by rw [List.length_reverse, tups_len, tups_len]; omega)
      have z2 := szT (show (tups (subsF n m)).length + (tups (subL n m)).length ≤ 16777216 by rw [tups_len, tups_len]; omega)
      have e2 : tups (subsF n (m + 1)) = tups (subsF n m) ++ (tups (subL n m)).reverse := by
        show List.map _ (subsF n m ++ (subL n m).reverse) = _
        rw [List.map_append, List.map_reverse]
        rfl
      refine ⟨_, _, rfl, _, [], ?_, some (.d (.int (m : Int))), some (.d (.list (tups (subL n m)))), rfl, rfl⟩
      rw [e2]
      generalize tups (subL n m) = A at *
      generalize tups (subsF n m) = B at *
      generalize sts (allS n) = C at *
      simp [f1_law_subsets, f1_law_subsets_1, ea, za, ec, sRev, revD, z1, z2]) ⟨none, none, rfl, rfl⟩
  rw [subs_sets n h] at e
  have r1 := asR1_c (M := []) (j := (n : Int) + 1) (by omega)
  rw [show ((n : Int) + 1).toNat = n + 1 by omega] at r1
  rw [show tups (subsF n 0) = [] from rfl] at e
  generalize rng 0 (n + 1) = R at *
  generalize tups (setsL n) = T at *
  simp [F_law_subsets, b_law_subsets, b_law_subsets_1, b_law_subsets_2, szT, r1, e]
/-! what is due -/
def ins (a b : List Nat) : Bool := a.all fun k => decide (k ∈ b)
theorem inside_e {M : List MO} {a b : List Nat} (ha : a.length ≤ 1000) (hk : ∀ k ∈ a, k < 1000000) (hb : ∀ k ∈ b, k < 1000000) : callF F_law_inside 2 [.d (.tuple (oi a)), .d (.tuple (oi b))] M = .ok (.d (.bool (ins a b))) M := by
  refine callF_dx (J := []) ?_
  have ec : compL (gN 2) y1_law_inside x1_law_inside [some (.d (.tuple (oi a))), some (.d (.tuple (oi b))), none] (oi a) [] = some (oi (a.filter fun k => decide (k ∉ b)), []) :=
    oi_filter_nin fun k hk => ⟨_, rfl, by
      have := in_oi (k := k) hb
      simp [y1_law_inside, this], by simp [x1_law_inside]⟩
  have lf : (a.filter fun k => decide (k ∉ b)).length ≤ a.length := List.length_filter_le _ _
  have v : (oi (a.filter fun k => decide (k ∉ b))).isEmpty = ins a b := by
    rw [Bool.eq_iff_iff, List.isEmpty_iff]
    unfold oi ins
    rw [List.map_eq_nil_iff, List.filter_eq_nil_iff, List.all_eq_true]
    simp
  have sh : SeqAt.shaped (.list (oi (a.filter fun k => decide (k ∉ b)))) = true := by
    have q := Sm.list (n := a.length) (oi_nice (l := a.filter fun k => decide (k ∉ b)) fun k h => hk k (List.mem_filter.mp h).1) (by rw [oi_len]; exact lf)
    exact shaped_of q.nice (by have := q.dep; omega)
  have z := szT (show (oi a).length ≤ 16777216 by rw [oi_len]; omega)
  generalize oi (a.filter fun k => decide (k ∉ b)) = V at *
  generalize oi a = A at *
  simp [F_law_inside, b_law_inside, z, ec, sh, eqv_nil, v]
theorem onB_ins {n : Nat} {l o : List Nat} (h : ∀ k ∈ l, k < n) : onB (setO n o) l = ins l o := by
  rw [Bool.eq_iff_iff, onB_iff]
  unfold ins
  rw [List.all_eq_true]
  exact forall_congr' fun k => ⟨fun z hk => decide_eq_true ((setO_on (h k hk)).mp (z hk)), fun z hk => (setO_on (h k hk)).mpr (of_decide_eq_true (z hk))⟩
def badR (o : List Nat) : Option (List Nat) → Bool
  | none => true
  | some r => !ins r o
theorem keeps_ins {n : Nat} {P : List Pr2} {p : Pr2} {o : List Nat} (hP : Prs n P) (hp : p ∈ P) : keepsP (setO n o) p = (!ins p.1 o || !badR o p.2) := by
  have lt : ∀ {l : List Nat}, Up n l → ∀ k ∈ l, k < n := fun h k hk => by have := h.lt k hk; omega
  obtain ⟨l, r⟩ := p
  unfold keepsP
  rw [onB_ins (lt (hP.l _ hp))]
  cases r with
  | none => rfl
  | some r =>
    show (_ || onB (setO n o) r) = _
    rw [onB_ins (lt (hP.r _ hp r rfl))]
    simp [badR]
theorem wrong_nil {n : Nat} {P : List Pr2} {o : List Nat} (hP : Prs n P) : ((P.filter fun p => ins p.1 o).filter fun p => badR o p.2).isEmpty = P.all (keepsP (setO n o)) := by
  rw [Bool.eq_iff_iff, List.isEmpty_iff, List.filter_eq_nil_iff, List.all_eq_true]
  constructor
  · intro h p hp
    rw [keeps_ins hP hp]
    cases c : ins p.1 o with
    | false => rfl
    | true =>
      have := h p (List.mem_filter.mpr ⟨hp, c⟩)
      simpa using this
  · intro h p hp
    obtain ⟨h1, h2⟩ := List.mem_filter.mp hp
    have := h p h1
    rw [keeps_ins hP h1, h2] at this
    simpa using this
theorem due_turn {n : Nat} {ls : List (List Nat)} {F : List Pr2} {o : List Nat} {y4 y5 y6 y7 : Option W} (h1 : n ≤ 9) (hS : Sets n ls) (lS : ls.length ≤ 1000) (hF : Prs n F) (lF : F.length ≤ 2000) (ho : Up n o) :
    ∃ z4 z5 z6 z7, f1_law_due [some (.d (.int (n : Int))), some (.d (.list (sts ls))), some (.loc 0), some (.d (.tuple (oi o))), y4, y5, y6, y7, none, none] [.lst (F.map pd)] = .nx [some (.d (.int (n : Int))), some (.d (.list (sts ls))), some (.loc 0), some (.d (.tuple (oi o))), z4, z5, z6, z7, none, none] [.lst ((stepS n (closedB n ls) F o).map pd)] := by
  have hc := closedB_up (n := n) (ls := ls) (o := o)
  have e1 := law_closed_e (M := [.lst (F.map pd)]) hS ho (show n ≤ 30 by omega) lS
  have lt := up_lt30 ho (show n ≤ 30 by omega)
  have lo := ho.len' (show n ≤ 30 by omega)
  have sm := ho.sm (show (n : Int) ≤ 30 by omega)
  have so : SeqAt.shaped (.tuple (oi o)) = true := shaped_of sm.nice (by have := sm.dep; omega)
  have ne : pNe [dOpt (closedB n ls o), .tuple (oi o)] = some (.bool (decide (closedB n ls o ≠ some o))) := by
    rw [pNe_sh (dOpt_sh hc (show n ≤ 30 by omega)) so]
    cases q : closedB n ls o with
    | none => rfl
    | some w =>
      show some (PyData.bool (!PyData.eqv (.tuple (oi w)) (.tuple (oi o)))) = _
      rw [eqv_oiT]
      by_cases c : w = o <;> simp [c]
  have elt : ∀ {l : List Nat}, Up n l → (∀ k ∈ l, k < 1000000) ∧ l.length ≤ 30 := fun h => ⟨up_lt30 h (show n ≤ 30 by omega), h.len' (show n ≤ 30 by omega)⟩
  -- the inner ones
  have ec1 : compL (gN 8) y1_law_due x1_law_due [some (.d (.int (n : Int))), some (.d (.list (sts ls))), some (.loc 0), some (.d (.tuple (oi o))), some (.d (dOpt (closedB n ls o))), y5, y6, y7, none, none] (F.map pd) [.dead] = some ((F.filter fun p => ins p.1 o).map pd, [.dead]) :=
    compL_on pd (fun p => ins p.1 o) pd fun p hp => ⟨_, rfl, by
      obtain ⟨a, b⟩ := elt (hF.l p hp)
      have e := inside_e (M := [.dead]) (a := p.1) (b := o) (by omega) a lt
      generalize dOpt (closedB n ls o) = D at *
      generalize sts ls = SD at *
      simp [y1_law_due, pd, e], fun _ => by simp [x1_law_due]⟩
  have e2 := sLcT_at (i := 2) (n := 0) (gt := gN 8) (tt := y1_law_due) (te := x1_law_due) (vs := [8]) (ρ := [some (.d (.int (n : Int))), some (.d (.list (sts ls))), some (.loc 0), some (.d (.tuple (oi o))), some (.d (dOpt (closedB n ls o))), y5, y6, y7, none, none]) (M := [.lst (F.map pd)]) (M2 := [.dead]) rfl rfl (by rw [List.length_map]; exact sz (by omega)) ec1 rfl
  rw [show [MO.dead].set 0 (.lst (F.map pd)) = [.lst (F.map pd)] from rfl] at e2
  -- the wrong ones
  have ec2 : compL (gN 8) y2_law_due x2_law_due [some (.d (.int (n : Int))), some (.d (.list (sts ls))), some (.loc 0), some (.d (.tuple (oi o))), some (.d (dOpt (closedB n ls o))), some (.d (.list ((F.filter fun p => ins p.1 o).map pd))), y6, y7, none, none] ((F.filter fun p => ins p.1 o).map pd) [.lst (F.map pd)] = some (((F.filter fun p => ins p.1 o).filter fun p => badR o p.2).map pd, [.lst (F.map pd)]) :=
    compL_on pd (fun p => badR o p.2) pd fun p hp => ⟨_, rfl, by
      have hp' := (List.mem_filter.mp hp).1
      generalize F.map pd = X at *
      generalize (F.filter fun p => ins p.1 o).map pd = X2 at *
      generalize dOpt (closedB n ls o) = D at *
      generalize sts ls = SD at *
      obtain ⟨l, r⟩ := p
      cases r with
      | none => simp [y2_law_due, pd, dOpt, badR, pIsN]
      | some r =>
        obtain ⟨a, b⟩ := elt (hF.r _ hp' r rfl)
        have e := inside_e (M := [.lst X]) (a := r) (b := o) (by omega) a lt
        cases q : ins r o <;> simp [y2_law_due, pd, dOpt, badR, pIsN, e, q], fun _ => by
      generalize F.map pd = X at *
      generalize (F.filter fun p => ins p.1 o).map pd = X2 at *
      simp [x2_law_due]⟩
  have wn := wrong_nil (o := o) hF
  have wsh : SeqAt.shaped (.list (((F.filter fun p => ins p.1 o).filter fun p => badR o p.2).map pd)) = true := pds_shaped (n := n) ⟨fun p hp => hF.l p (List.mem_filter.mp (List.mem_filter.mp hp).1).1, fun p hp => hF.r p (List.mem_filter.mp (List.mem_filter.mp hp).1).1⟩ (by omega)
  have wv : (((F.filter fun p => ins p.1 o).filter fun p => badR o p.2).map pd).isEmpty = F.all (keepsP (setO n o)) := by rw [← wn]; cases ((F.filter fun p => ins p.1 o).filter fun p => badR o p.2) <;> rfl
  have l1 : ((F.filter fun p => ins p.1 o).map pd).length ≤ 2000 := by rw [List.length_map]; exact Nat.le_trans (List.length_filter_le _ _) lF
  have z1 := szT (show ((F.filter fun p => ins p.1 o).map pd).length ≤ 16777216 by omega)
  have ap : pAppend [.loc 0, .d (pd (o, restO o (closedB n ls o)))] [.lst (F.map pd)] = some (.d .none, [.lst (F.map pd ++ [pd (o, restO o (closedB n ls o))])]) := pAppend_e rfl (by rw [List.length_map]; unfold sizeLine; omega)
  unfold stepS goodS
  generalize F.all (keepsP (setO n o)) = B2 at *
  generalize ((F.filter fun p => ins p.1 o).filter fun p => badR o p.2).map pd = X3 at *
  generalize (F.filter fun p => ins p.1 o).map pd = X2 at *
  have no : decide (closedB n ls o ≠ some o) = false ∨ B2 = false → ∃ z4 z5 z6 z7, f1_law_due [some (.d (.int (n : Int))), some (.d (.list (sts ls))), some (.loc 0), some (.d (.tuple (oi o))), y4, y5, y6, y7, none, none] [.lst (F.map pd)] = .nx [some (.d (.int (n : Int))), some (.d (.list (sts ls))), some (.loc 0), some (.d (.tuple (oi o))), z4, z5, z6, z7, none, none] [.lst (F.map pd)] := fun hno => by
    refine ⟨some (.d (dOpt (closedB n ls o))), some (.d (.list X2)), some (.d (.list X3)), y7, ?_⟩
    generalize F.map pd = X at *
    generalize dOpt (closedB n ls o) = D at *
    generalize sts ls = SD at *
    generalize decide (closedB n ls o ≠ some o) = B1 at *
    rcases hno with rfl | rfl
    · simp [f1_law_due, f1_law_due_1, f1_law_due_2, f1_law_due_3, e1, e2, ec2, z1, ne]
    · cases B1 <;> simp [f1_law_due, f1_law_due_1, f1_law_due_2, f1_law_due_3, e1, e2, ec2, z1, ne, wsh, eqv_nil, wv]
  cases c1 : decide (closedB n ls o ≠ some o) with
  | false => rw [if_neg (by simp)]; exact no (.inl c1)
  | true =>
    cases B2 with
    | false => rw [if_neg (by simp)]; exact no (.inr rfl)
    | true =>
      clear no
      rw [if_pos (by rfl), List.map_append, List.map_singleton]
      rw [c1] at ne
      refine ⟨some (.d (dOpt (closedB n ls o))), some (.d (.list X2)), some (.d (.list X3)), some (.d (dOpt (restO o (closedB n ls o)))), ?_⟩
      cases q : closedB n ls o with
      | none =>
        rw [q] at e1 e2 ec2 ne ap
        have ap' : pAppend [.loc 0, .d (.tuple [.tuple (oi o), .none])] [.lst (F.map pd)] = some (.d .none, [.lst (F.map pd ++ [pd (o, restO o none)])]) := ap
        generalize F.map pd = X at *
        generalize sts ls = SD at *
        simp only [dOpt, restO] at *
        simp [f1_law_due, f1_law_due_1, f1_law_due_2, f1_law_due_3, e1, e2, ec2, z1, ne, wsh, eqv_nil, wv, pNotN, pIsN, ap', tyL0]
      | some w =>
        rw [q] at e1 e2 ec2 ne ap
        have uw := hc w q
        have lw := uw.len' (show n ≤ 30 by omega)
        have ap' : pAppend [.loc 0, .d (.tuple [.tuple (oi o), .tuple (oi (w.filter fun k => decide (k ∉ o)))])] [.lst (F.map pd)] = some (.d .none, [.lst (F.map pd ++ [pd (o, restO o (some w))])]) := ap
        have lf : (w.filter fun k => decide (k ∉ o)).length ≤ w.length := List.length_filter_le _ _
        have ew : compL (gN 9) y3_law_due x3_law_due [some (.d (.int (n : Int))), some (.d (.list (sts ls))), some (.loc 0), some (.d (.tuple (oi o))), some (.d (dOpt (some w))), some (.d (.list X2)), some (.d (.list X3)), some (.d .none), none, none] (oi w) [.lst (F.map pd)] = some (oi (w.filter fun k => decide (k ∉ o)), [.lst (F.map pd)]) := by
          refine oi_filter_nin fun k hk => ⟨_, rfl, ?_, by simp [x3_law_due]⟩
          have := in_oi (k := k) lt
          generalize F.map pd = X at *
          generalize sts ls = SD at *
          simp [y3_law_due, this]
        have zV := szT (show (w.filter fun k => decide (k ∉ o)).length ≤ 16777216 by omega)
        have zW := szT (show w.length ≤ 16777216 by omega)
        generalize F.map pd = X at *
        generalize sts ls = SD at *
        simp only [dOpt, restO] at *
        generalize (w.filter fun k => decide (k ∉ o)) = V at *
        simp [f1_law_due, f1_law_due_1, f1_law_due_2, f1_law_due_3, e1, e2, ec2, z1, ne, wsh, eqv_nil, wv, pNotN, pIsN, ap', tyL0, ew, zV, zW, show V.length ≤ 16777216 by omega]
theorem due_e {M : List MO} {n : Nat} {ls : List (List Nat)} (h1 : n ≤ 9) (hS : Sets n ls) (lS : ls.length ≤ 1000) : callF F_law_due 2 [.d (.int (n : Int)), .d (.list (sts ls))] M = .ok (.d (.list ((stemsV n (closedB n ls)).map pd))) M := by
  have lb := found_small n (by omega) n (Nat.le_refl _)
  obtain ⟨c', ρ', M', e, z3, z4, z5, z6, z7, rfl, rfl, _, _⟩ := forL_foldS (gt := gN 3) (body := f1_law_due) (fun l => PyData.tuple (oi l)) (stepS n (closedB n ls))
    (fun c F ρ N => ∃ z3 z4 z5 z6 z7, ρ = [some (.d (.int (n : Int))), some (.d (.list (sts ls))), some (.loc 0), z3, z4, z5, z6, z7, none, none] ∧ N = [.lst (F.map pd)] ∧ Prs n F ∧ F.length + c ≤ 1024)
    (l := setsL n) (c := 1024) (b := []) (ρ := [some (.d (.int (n : Int))), some (.d (.list (sts ls))), some (.loc 0), none, none, none, none, none, none, none]) (M := [.lst []])
    (fun c F o ρ N ho ⟨z3, z4, z5, z6, z7, hρ, hN, hF, lF⟩ => by
      subst hρ hN
      have uo := sets_up ho
      obtain ⟨x4, x5, x6, x7, e⟩ := due_turn (y4 := z4) (y5 := z5) (y6 := z6) (y7 := z7) h1 hS lS hF (by omega) uo
      have := stepS_len (n := n) (cl := closedB n ls) (F := F) (o := o)
      exact ⟨_, _, rfl, _, _, e, some (.d (.tuple (oi o))), x4, x5, x6, x7, rfl, rfl, stepS_prs hF uo closedB_up, by omega⟩) lb ⟨none, none, none, none, none, rfl, rfl, ⟨(fun _ h => nomatch h), (fun _ h => nomatch h)⟩, by simp⟩
  have es := subsets_e (M := [.lst []]) h1
  have lt := szT (show (tups (setsL n)).length ≤ 16777216 by rw [tups_len]; unfold setsL; omega)
  have et : (setsL n).map (fun l => PyData.tuple (oi l)) = tups (setsL n) := rfl
  rw [et] at e
  refine callF_d (J := [.lst ((stemsV n (closedB n ls)).map pd)]) (w := .loc 0) ?_ rfl
  unfold stemsV
  generalize (List.foldl (stepS n (closedB n ls)) [] (setsL n)).map pd = R at *
  generalize tups (setsL n) = T at *
  generalize sts ls = SD at *
  simp [F_law_due, b_law_due, b_law_due_1, b_law_due_2, es, lt, e]
/-! the stems tell what is closed -/
theorem mem_last {n : Nat} {l : List Nat} (h : Up n l) : l ∈ lastL n l.length := by
  generalize hm : l.length = m
  induction m generalizing l with
  | zero => rw [List.length_eq_zero_iff.mp hm]; exact List.mem_singleton.mpr rfl
  | succ m ih =>
    have hne : l ≠ [] := fun z => by rw [z] at hm; cases hm
    have el := (List.dropLast_concat_getLast hne).symm
    have hu : Up n l.dropLast := ⟨fun k hk => h.lt k (List.dropLast_subset _ hk), h.up.sublist (List.dropLast_sublist _)⟩
    have hi := ih hu (by rw [List.length_dropLast]; omega)
    have hp := h.up
    rw [el, List.pairwise_append] at hp
    rw [el]
    refine List.mem_flatMap.mpr ⟨_, hi, List.mem_map.mpr ⟨l.getLast hne, List.mem_filter.mpr ⟨List.mem_range.mpr (by have := h.lt _ (List.getLast_mem hne); omega), ?_⟩, rfl⟩⟩
    rw [List.all_eq_true]
    exact fun x hx => decide_eq_true (hp.2.2 x hx _ (by simp))
theorem last_found {n : Nat} {l : List Nat} : ∀ {m k : Nat}, k ≤ m → l ∈ lastL n k → l ∈ foundL n m
  | 0, k, h, hl => by
    obtain rfl : k = 0 := by omega
    exact hl
  | m + 1, k, h, hl => by
    by_cases c : k = m + 1
    · subst c; exact List.mem_append_right _ hl
    · exact List.mem_append_left _ (last_found (by omega) hl)
theorem up_le_n {n : Nat} {l : List Nat} (h : Up n l) : l.length ≤ n := by
  have := up_len0 (m := 0) (n := n) h.up fun k hk => by have := h.lt k hk; omega
  omega
theorem mem_sets {n : Nat} {l : List Nat} (h : Up n l) : l ∈ setsL n := last_found (up_le_n h) (mem_last h)
theorem closed_ext {n : Nat} {ls : List (List Nat)} {o w : List Nat} (ho : Up n o) (h : closedB n ls o = some w) : ∀ k ∈ o, k ∈ w := by
  unfold closedB at h
  split at h
  · cases h
  · cases h
    intro k hk
    refine List.mem_filter.mpr ⟨List.mem_range.mpr (by have := ho.lt k hk; omega), ?_⟩
    rw [List.all_eq_true]
    exact fun a ha => decide_eq_true (onB_iff.mp (List.mem_filter.mp ha).2 k hk)
theorem closed_mono {n : Nat} {ls : List (List Nat)} {o s w : List Nat} (h : ∀ k ∈ o, k ∈ s) (hs : closedB n ls s = some w) : ∃ v, closedB n ls o = some v ∧ ∀ k ∈ v, k ∈ w := by
  have sub : ∀ a ∈ aboveS ls s, a ∈ aboveS ls o := fun a ha => by
    obtain ⟨h1, h2⟩ := List.mem_filter.mp ha
    exact List.mem_filter.mpr ⟨h1, onB_iff.mpr fun k hk => onB_iff.mp h2 k (h k hk)⟩
  unfold closedB at hs ⊢
  split at hs
  · cases hs
  · rename_i hne
    cases hs
    have ne2 : ¬ (aboveS ls o).isEmpty = true := fun z => by
      rw [List.isEmpty_iff] at z
      refine hne ?_
      rw [List.isEmpty_iff, List.eq_nil_iff_forall_not_mem]
      intro a ha
      have := sub a ha
      rw [z] at this
      cases this
    refine ⟨_, if_neg ne2, fun k hk => ?_⟩
    obtain ⟨h1, h2⟩ := List.mem_filter.mp hk
    refine List.mem_filter.mpr ⟨h1, ?_⟩
    rw [List.all_eq_true] at h2 ⊢
    exact fun a ha => h2 a (sub a ha)
theorem step_sub {n : Nat} {cl : List Nat → Option (List Nat)} {F : List Pr2} {o : List Nat} : ∀ p ∈ F, p ∈ stepS n cl F o := fun p hp => by
  unfold stepS
  split
  · exact List.mem_append_left _ hp
  · exact hp
theorem fold_sub {n : Nat} {cl : List Nat → Option (List Nat)} : ∀ {l : List (List Nat)} {F : List Pr2}, ∀ p ∈ F, p ∈ l.foldl (stepS n cl) F
  | [], _, p, hp => hp
  | _ :: l, _, p, hp => fold_sub (l := l) p (step_sub p hp)
theorem fold_is {n : Nat} {cl : List Nat → Option (List Nat)} : ∀ {l : List (List Nat)} {F : List Pr2}, (∀ o ∈ l, Up n o) → (∀ p ∈ F, Up n p.1 ∧ p.2 = restO p.1 (cl p.1)) → ∀ p ∈ l.foldl (stepS n cl) F, Up n p.1 ∧ p.2 = restO p.1 (cl p.1)
  | [], _, _, h => h
  | o :: l, F, hl, h => fold_is (l := l) (fun o ho => hl o (List.mem_cons_of_mem _ ho)) fun p hp => by
    unfold stepS at hp
    split at hp
    · rcases List.mem_append.mp hp with z | z
      · exact h p z
      · rw [List.mem_singleton.mp z]; exact ⟨hl o (by simp), rfl⟩
    · exact h p hp
theorem fold_tells {n : Nat} {cl : List Nat → Option (List Nat)} (he : ∀ o w, Up n o → cl o = some w → Up n w ∧ ∀ k ∈ o, k ∈ w) : ∀ {l : List (List Nat)} {F : List Pr2}, (∀ o ∈ l, Up n o) → ∀ o ∈ l, cl o = some o ∨ ∃ p ∈ l.foldl (stepS n cl) F, keepsP (setO n o) p = false
  | x :: l, F, hl, o, ho => by
    rcases List.mem_cons.mp ho with rfl | ho
    · have uo := hl o (by simp)
      by_cases c : cl o = some o
      · exact .inl c
      · right
        cases g : F.all (keepsP (setO n o)) with
        | false =>
          obtain ⟨p, hp, e⟩ : ∃ p ∈ F, keepsP (setO n o) p = false := by
            refine Classical.byContradiction fun z => ?_
            have : F.all (keepsP (setO n o)) = true := List.all_eq_true.mpr fun p hp => by
              cases q : keepsP (setO n o) p with
              | true => rfl
              | false => exact absurd ⟨p, hp, q⟩ z
            rw [g] at this
            cases this
          exact ⟨p, fold_sub (l := o :: l) p hp, e⟩
        | true =>
          have hg : goodS n cl F o = true := by unfold goodS; rw [g, decide_eq_true c]; rfl
          refine ⟨(o, restO o (cl o)), fold_sub (l := l) _ ?_, ?_⟩
          · unfold stepS
            rw [if_pos hg]
            simp
          · have lt : ∀ k ∈ o, k < n := fun k hk => by have := uo.lt k hk; omega
            have h1 : onB (setO n o) o = true := onB_iff.mpr fun k hk => (setO_on (lt k hk)).mpr hk
            unfold keepsP
            simp only [h1]
            cases q : cl o with
            | none => rfl
            | some w =>
              obtain ⟨uw, sw⟩ := he o w uo q
              show (false || onB (setO n o) (w.filter fun k => decide (k ∉ o))) = false
              rw [Bool.false_or]
              refine Bool.eq_false_iff.mpr fun z => c ?_
              have z' := onB_iff.mp z
              rw [q]
              congr 1
              refine up_ext uw.up uo.up fun k => ⟨fun hk => ?_, sw k⟩
              refine Classical.byContradiction fun nk => nk ?_
              have lk : k < n := by have := uw.lt k hk; omega
              exact (setO_on lk).mp (z' k (List.mem_filter.mpr ⟨hk, decide_eq_true nk⟩))
    · exact fold_tells he (l := l) (F := stepS n cl F x) (fun o ho => hl o (List.mem_cons_of_mem _ ho)) o ho
theorem setO_ons {n : Nat} {a : List Nat} (la : a.length = n) (ba : ∀ c ∈ a, Bit c) : setO n (ons a) = a := by
  refine List.ext_getElem (by rw [setO_len, la]) fun k h1 h2 => ?_
  have lk : k < n := by omega
  have e1 : (setO n (ons a))[k] = (setO n (ons a)).getD k 0 := by rw [List.getD_eq_getElem?_getD, List.getElem?_eq_getElem h1]; rfl
  have e2 : a[k] = a.getD k 0 := by rw [List.getD_eq_getElem?_getD, List.getElem?_eq_getElem h2]; rfl
  rw [e1, e2, setO_at lk]
  have hb : Bit (a.getD k 0) := by rw [← e2]; exact ba _ (List.getElem_mem h2)
  split
  · rename_i h; exact (mem_ons.mp h).2.symm
  · rename_i h
    rcases hb with z | z
    · exact z.symm
    · exact absurd (mem_ons.mpr ⟨h2, z⟩) h
theorem stems_tell {n : Nat} {ls : List (List Nat)} {a : List Nat} (la : a.length = n) (ba : ∀ c ∈ a, Bit c) : (stemsV n (closedB n ls)).all (keepsP a) = decide (closedB n ls (ons a) = some (ons a)) := by
  have uo := ons_up la
  rw [Bool.eq_iff_iff, decide_eq_true_iff, List.all_eq_true]
  constructor
  · intro h
    rcases fold_tells (n := n) (cl := closedB n ls) (fun o w ho e => ⟨closedB_up w e, closed_ext ho e⟩) (l := setsL n) (F := []) (fun o ho => sets_up ho) (ons a) (mem_sets uo) with z | ⟨p, hp, e⟩
    · exact z
    · rw [setO_ons la ba] at e
      rw [h p hp] at e
      cases e
  · intro h p hp
    obtain ⟨up, ep⟩ := fold_is (n := n) (cl := closedB n ls) (l := setsL n) (F := []) (fun o ho => sets_up ho) (fun _ h => nomatch h) p hp
    unfold keepsP
    cases q : onB a p.1 with
    | false => rfl
    | true =>
      have lt : ∀ k ∈ p.1, k < a.length := fun k hk => by have := up.lt k hk; omega
      obtain ⟨v, e1, e2⟩ := closed_mono (ls := ls) (n := n) (o := p.1) (s := ons a) ((onB_ons lt).mp q) h
      rw [ep, e1]
      show (false || onB a (v.filter fun k => decide (k ∉ p.1))) = true
      rw [Bool.false_or]
      exact onB_iff.mpr fun k hk => (mem_ons.mp (e2 k (List.mem_filter.mp hk).1)).2
/-! the law's good -/
theorem kept_l {n : Nat} {P : List Pr2} {a : List Nat} (hP : Prs n P) (h1 : n ≤ 30) (lP : P.length ≤ 2000) (ha : a.length = n) (hb : ∀ c ∈ a, Bit c) : callF F_law_pairs_kept 2 [.loc 0, .d (.str (S a))] [.lst (P.map pd)] = .ok (.d (.bool (P.all (keepsP a)))) [.lst (P.map pd)] := by
  have ec : compL (gN 2) y1_law_pairs_kept x1_law_pairs_kept [some (.loc 0), some (.d (.str (S a))), none] (P.map pd) [.dead] = some ((P.filter fun p => !keepsP a p).map pd, [.dead]) :=
    compL_on _ _ _ fun p hp => ⟨_, rfl, by simp [y1_law_pairs_kept, law_kept_e hP hp ha hb h1], fun _ => by simp [x1_law_pairs_kept]⟩
  have e := sLcT_at (i := 0) (n := 0) (gt := gN 2) (tt := y1_law_pairs_kept) (te := x1_law_pairs_kept) (vs := [2]) (ρ := [some (.loc 0), some (.d (.str (S a))), none]) (M := [.lst (P.map pd)]) (M2 := [.dead]) rfl rfl (by rw [List.length_map]; exact sz (by omega)) ec rfl
  rw [show [MO.dead].set 0 (.lst (P.map pd)) = [.lst (P.map pd)] from rfl] at e
  have s : SeqAt.shaped (.list ((P.filter fun p => !keepsP a p).map pd)) = true := pds_shaped (n := n) ⟨fun p hp => hP.l p (List.mem_filter.mp hp).1, fun p hp => hP.r p (List.mem_filter.mp hp).1⟩ h1
  have v : ((P.filter fun p => !keepsP a p).map pd).isEmpty = P.all (keepsP a) := by
    rw [Bool.eq_iff_iff, List.isEmpty_iff, List.map_eq_nil_iff, List.filter_eq_nil_iff, List.all_eq_true]
    simp
  refine callF_px (J := []) (ds := P.map pd) (ds' := P.map pd) rfl ?_
  generalize (P.filter fun p => !keepsP a p).map pd = F at *
  generalize P.map pd = X at *
  simp [F_law_pairs_kept, b_law_pairs_kept, e, s, eqv_nil, v]
theorem good_turn {n : Nat} {ls : List (List Nat)} {a : List Nat} {st D : PyData} {y6 : Option W} (h0 : 1 ≤ n) (h1 : n ≤ 9) (hS : Sets n ls) (lS : ls.length ≤ 1000) (la : a.length = n) (ba : ∀ c ∈ a, Bit c) :
    ∃ z6, f1_law_good [some (.d (.int (n : Int))), some (.d (.list (sts ls))), some (.d st), some (.d D), some (.loc 0), some (.d (.str (S a))), y6, none] [.lst ((stemsV n (closedB n ls)).map pd)] = .nx [some (.d (.int (n : Int))), some (.d (.list (sts ls))), some (.d st), some (.d D), some (.loc 0), some (.d (.str (S a))), z6, none] [.lst ((stemsV n (closedB n ls)).map pd)] := by
  have hP := stemsV_prs (n := n) (closedB_up' (ls := ls))
  have lP := stemsV_len (n := n) (cl := closedB n ls) (by omega)
  have uo := ons_up la
  have ek := kept_l hP (show n ≤ 30 by omega) (by omega) la ba
  rw [stems_tell la ba] at ek
  have e1 := law_closed_e (M := [.lst ((stemsV n (closedB n ls)).map pd)]) hS uo (show n ≤ 30 by omega) lS
  have ec : compL (gN 7) y1_law_good x1_law_good [some (.d (.int (n : Int))), some (.d (.list (sts ls))), some (.d st), some (.d D), some (.loc 0), some (.d (.str (S a))), y6, none] (rng 0 n) [.lst ((stemsV n (closedB n ls)).map pd)] = some (oi (ons a), [.lst ((stemsV n (closedB n ls)).map pd)]) := by
    unfold rng oi ons
    rw [la]
    refine compL_on (fun (k : Nat) => PyData.int ((0 : Int) + (k : Int))) (fun k => decide (a.getD k 0 = 49)) (fun (k : Nat) => PyData.int (k : Int)) fun k hk => ⟨_, rfl, ?_, fun _ => by simp [x1_law_good]⟩
    have hk' := List.mem_range.mp hk
    obtain ⟨x, hx⟩ := at_x (a := a) (k := k) (by omega)
    have hy : a.getD k 0 = x := by rw [List.getD_eq_getElem?_getD, hx]; rfl
    show _ = Res.ok (decide (a.getD k 0 = 49)) _
    rw [hy]
    generalize (stemsV n (closedB n ls)).map pd = X at *
    generalize sts ls = SD at *
    simp [y1_law_good, hx, szT (show a.length ≤ 16777216 by omega)]
  have r1 := asR1_c (M := [.lst ((stemsV n (closedB n ls)).map pd)]) (j := (n : Int)) (by omega)
  rw [Int.toNat_natCast] at r1
  have zr : ((rng 0 n).length ≤ sizeLine) = True := szT (by rw [rng_len]; omega)
  have lo : (ons a).length ≤ 9 := by have := ons_le (a := a); omega
  have zo := szT (show (ons a).length ≤ 16777216 by omega)
  have sm := uo.sm (show (n : Int) ≤ 30 by omega)
  have so : SeqAt.shaped (.tuple (oi (ons a))) = true := shaped_of sm.nice (by have := sm.dep; omega)
  have eq : pEq [dOpt (closedB n ls (ons a)), .tuple (oi (ons a))] = some (.bool (decide (closedB n ls (ons a) = some (ons a)))) := by
    rw [pEq_sh (dOpt_sh closedB_up (show n ≤ 30 by omega)) so]
    cases q : closedB n ls (ons a) with
    | none => rfl
    | some w =>
      show some (PyData.bool (PyData.eqv (.tuple (oi w)) (.tuple (oi (ons a))))) = _
      rw [eqv_oiT]
      simp
  refine ⟨some (.d (.tuple (oi (ons a)))), ?_⟩
  generalize decide (closedB n ls (ons a) = some (ons a)) = B at *
  generalize dOpt (closedB n ls (ons a)) = DO at *
  generalize (stemsV n (closedB n ls)).map pd = X at *
  generalize sts ls = SD at *
  have nb : pNe [.bool B, .bool B] = some (.bool false) := by rw [pNe_sh (by cases B <;> decide +kernel) (by cases B <;> decide +kernel)]; cases B <;> exact congrArg (fun b => some (PyData.bool (!b))) (show PyData.eqv _ _ = true by decide +kernel)
  simp [f1_law_good, f1_law_good_1, r1, zr, ec, zo, show (ons a).length ≤ 16777216 by omega, ek, e1, eq, nb]
theorem good_e {M : List MO} {n : Nat} {ls : List (List Nat)} (h0 : 1 ≤ n) (h1 : n ≤ 9) (hS : Sets n ls) (lS : ls.length ≤ 1000) : callF F_law_good 2 [.d (.int (n : Int)), .d (.list (sts ls))] M = .ok (.d (.bool true)) M := by
  obtain ⟨z, hz⟩ := (sts_fine hS (show n ≤ 30 by omega) lS).str
  have hP := stemsV_prs (n := n) (closedB_up' (ls := ls))
  have lP := stemsV_len (n := n) (cl := closedB n ls) (by omega)
  have ed := due_e (M := []) h1 hS lS
  have es := stems_l hS h0 (show n ≤ 10 by omega) lS
  have sh := pds_shaped hP (show n ≤ 30 by omega)
  have ne : pNe [.list ((stemsV n (closedB n ls)).map pd), .list ((stemsV n (closedB n ls)).map pd)] = some (.bool false) := by rw [pNe_sh sh sh, eqv_pds]; simp
  have eq : pEq [.list ((stemsV n (closedB n ls)).map pd), .list ((stemsV n (closedB n ls)).map pd)] = some (.bool true) := by rw [pEq_sh sh sh, eqv_pds]; simp
  have nz : pNe [.str z, .str z] = some (.bool false) := by simp
  have ea := law_all_e (M := [.lst ((stemsV n (closedB n ls)).map pd)]) h1
  have za := szT (show (sts (allS n)).length ≤ 16777216 by have := len_allS9 h1; show ((allS n).map _).length ≤ _; rw [List.length_map]; omega)
  obtain ⟨ρ', M', e, y5, y6, rfl, rfl⟩ := forL_inv (gt := gN 5) (body := f1_law_good) (fun ρ N => ∃ y5 y6, ρ = [some (.d (.int (n : Int))), some (.d (.list (sts ls))), some (.d (.str z)), some (.d (.list ((stemsV n (closedB n ls)).map pd))), some (.loc 0), y5, y6, none] ∧ N = [.lst ((stemsV n (closedB n ls)).map pd)]) (fun d => ∃ a, d = .str (S a) ∧ a.length = n ∧ ∀ c ∈ a, Bit c)
    (fun d ρ N ⟨a, hd, la, ba⟩ ⟨y5, y6, hρ, hN⟩ => by
      subst hρ hN hd
      obtain ⟨z6, e⟩ := good_turn (st := .str z) (D := .list ((stemsV n (closedB n ls)).map pd)) (y6 := y6) h0 h1 hS lS la ba
      exact ⟨_, _, rfl, _, _, e, some (.d (.str (S a))), z6, rfl, rfl⟩)
    (ds := sts (allS n)) (ρ := [some (.d (.int (n : Int))), some (.d (.list (sts ls))), some (.d (.str z)), some (.d (.list ((stemsV n (closedB n ls)).map pd))), some (.loc 0), none, none, none]) (M := [.lst ((stemsV n (closedB n ls)).map pd)]) (fun d hd => by
      obtain ⟨a, ha, rfl⟩ := List.mem_map.mp hd
      obtain ⟨la, ba⟩ := mem_allS.mp ha
      exact ⟨a, rfl, la, ba⟩) ⟨none, none, rfl, rfl⟩
  have ap : pAppend [.loc 0, .d .none] [.lst ((stemsV n (closedB n ls)).map pd)] = some (.d .none, [.lst ((stemsV n (closedB n ls)).map pd ++ [.none])]) := pAppend_e rfl (by rw [List.length_map]; unfold sizeLine; omega)
  have es2 := stems_e (M := [.lst ((stemsV n (closedB n ls)).map pd ++ [.none])]) hS h0 (show n ≤ 10 by omega) lS
  refine callF_dx (J := [.lst ((stemsV n (closedB n ls)).map pd ++ [.none])]) ?_
  generalize sts (allS n) = AS at *
  generalize (stemsV n (closedB n ls)).map pd = X at *
  generalize sts ls = SD at *
  simp [F_law_good, b_law_good, b_law_good_1, b_law_good_2, b_law_good_3, b_law_good_4, b_law_good_5, b_law_good_6, hz, ed, es, isT, ne, nz, ea, za, e, tyL0, ap, es2, eq]
def tenL : List (List Nat) := (List.range 10).map fun k => List.replicate k 49 ++ [48] ++ List.replicate (9 - k) 49
theorem ten_stems : stemsV 10 (closedB 10 tenL) = [(List.range 10, none)] := by decide +kernel
theorem two_0 : stemsV 2 (closedB 2 []) = [([], none)] := by decide +kernel
theorem two_4 : stemsV 2 (closedB 2 [[48, 48], [49, 49], [48, 49], [49, 48]]) = [] := by decide +kernel
theorem map_cut {α β : Type} {f : α → β} {l : List α} {lo hi : Option Int} : cutL (l.map f) lo hi = (cutL l lo hi).map f := by
  unfold cutL
  rw [List.map_take, List.map_drop, List.length_map]
theorem cut_len {α : Type} {l : List α} {lo hi : Option Int} : (cutL l lo hi).length ≤ l.length := by
  unfold cutL
  rw [List.length_take, List.length_drop]
  omega
theorem sts_len {a : List (List Nat)} : (sts a).length = a.length := List.length_map _
theorem f1_e {ns : List Int} {k : Int} (k0 : 0 ≤ k) {M : List MO} {y2 y3 : Option W} :
    ∃ (z2 z3 : Option W) (M' : List MO), f1_law [some (.scr ns), some (.d (.int k)), y2, y3, none] M = .nx [some (.scr ns), some (.d (.int k)), z2, z3, none] M' := by
  obtain ⟨pp, e0⟩ := pile_e ns k0 M
  have hM : (M ++ [.lst [.int pp]])[M.length]? = some (.lst [.int pp]) := by simp
  generalize M ++ [MO.lst [.int pp]] = N1 at e0 hM
  generalize M.length = m at e0 hM
  obtain ⟨z, q, e1, z0, z1⟩ := size_e hM
  have hN2 := set_at (o' := .lst [.int q]) hM
  generalize N1.set m (.lst [.int q]) = N2 at e1 hN2
  obtain ⟨n, hn, n0, n1⟩ : ∃ n : Nat, (if (8 : Int) < z then (8 : Int) else z) = (n : Int) ∧ 1 ≤ n ∧ n ≤ 8 := ⟨(if (8 : Int) < z then (8 : Int) else z).toNat, by split <;> omega, by split <;> omega, by split <;> omega⟩
  obtain ⟨s1, q1, e2, hS1, l1⟩ := seen_e Kind.and hN2 n0 (show n ≤ 30 by omega)
  have hN3 := set_at (o' := .lst [.int q1]) hN2
  generalize N2.set m (.lst [.int q1]) = N3 at e2 hN3
  have g1 := good_e (M := N3) n0 (show n ≤ 9 by omega) hS1 (by omega)
  have t3 := take_e (k := 3) hN3 (by decide) (by decide)
  have hN4 := set_at (o' := .lst [.int (q1 / 3)]) hN3
  generalize N3.set m (.lst [.int (q1 / 3)]) = N4 at t3 hN4
  obtain ⟨kx, ek, hk⟩ : ∃ kd : List Nat, atI [PyData.str (S [111, 114]), .str (S [109, 111, 115, 116]), .str (S [111, 100, 100])] (q1 % 3) = some (.str (S kd)) ∧ Kind kd := by
    obtain ⟨x, ex, hx⟩ := atI_mem (xs := [PyData.str (S [111, 114]), .str (S [109, 111, 115, 116]), .str (S [111, 100, 100])]) (i := q1 % 3) (by omega) (by show q1 % 3 < 3; omega)
    simp only [List.mem_cons, List.not_mem_nil, or_false] at hx
    rcases hx with rfl | rfl | rfl
    · exact ⟨_, ex, .or⟩
    · exact ⟨_, ex, .most⟩
    · exact ⟨_, ex, .odd⟩
  obtain ⟨s2, q2, e3, hS2, l2⟩ := seen_e hk hN4 n0 (show n ≤ 30 by omega)
  have hN5 := set_at (o' := .lst [.int q2]) hN4
  generalize N4.set m (.lst [.int q2]) = N5 at e3 hN5
  have g2 := good_e (M := N5) n0 (show n ≤ 9 by omega) hS2 (by omega)
  obtain ⟨s3, q3, e4, hS3, l3⟩ := seen_e (n := 9) Kind.and hN5 (by decide) (by decide)
  have hN6 := set_at (o' := .lst [.int q3]) hN5
  generalize N5.set m (.lst [.int q3]) = N6 at e4 hN6
  have g3 := good_e (M := N6) (n := 9) (by decide) (by decide) (hS3.sub (ms := cutL s3 none (some 4)) fun l hl => cut_mem hl) (by have := cut_len (l := s3) (lo := none) (hi := some 4); omega)
  rw [show sts (cutL s3 none (some 4)) = cutL (sts s3) none (some 4) from map_cut.symm] at g3
  have q0 : 0 ≤ q1 % 3 := by omega
  rw [atI_e q0] at ek
  rw [show (((9 : Nat) : Int)) = 9 from rfl] at e4 g3
  have z1' := szT (show (sts s1).length ≤ 16777216 by rw [sts_len]; omega)
  generalize sts s1 = S1 at *
  generalize sts s2 = S2 at *
  generalize sts s3 = S3 at *
  by_cases c : k = 1
  · subst c
    exact ⟨some (.loc m), some (.d (.int (n : Int))), N6, by simp [f1_law, f1_law_1, f1_law_2, f1_law_3, f1_law_4, e0, e1, hn, e2, g1, t3, atI_e q0, ek, e3, g2, e4, g3, szT]⟩
  · exact ⟨some (.loc m), some (.d (.int (n : Int))), N5, by simp [f1_law, f1_law_1, f1_law_2, f1_law_3, f1_law_4, e0, e1, hn, e2, g1, t3, atI_e q0, ek, e3, g2, c, szT]⟩
theorem rep1 {k : Nat} : (List.replicate k [49]).flatten = List.replicate k 49 := by
  induction k with
  | zero => rfl
  | succ k ih => rw [List.replicate_succ, List.flatten_cons, ih]; rfl
theorem ten_e {ρ0 y2 y3 : Option W} {M : List MO} : compL (gN 1) sYes x1_law [ρ0, none, y2, y3, none] (rng 0 10) M = some (sts tenL, M) := by
  unfold rng sts tenL
  rw [List.map_map]
  refine compL_all (fun (k : Nat) => PyData.int ((0 : Int) + (k : Int))) _ fun k hk => ⟨_, rfl, rfl, ?_⟩
  have hk' := List.mem_range.mp hk
  have e1 : pMulA [.str (S [49]), .int (k : Int)] = some (.str (S (List.replicate k 49))) := by
    rw [pMulA_c (by omega) (by simp; omega), Int.toNat_natCast, rep1]
  have e2 : pMulA [.str (S [49]), .int (9 - (k : Int))] = some (.str (S (List.replicate (9 - k) 49))) := by
    rw [pMulA_c (by omega) (by simp; omega), show (9 - (k : Int)).toNat = 9 - k by omega, rep1]
  have z1 := szT (show k + 1 ≤ 16777216 by omega)
  have z2 := szT (show k + (9 - k + 1) ≤ 16777216 by omega)
  have z3 := szT (show k + 1 + (9 - k) ≤ 16777216 by omega)
  simp [x1_law, e1, e2, szT, z1, z2, z3]
theorem law_true : ∀ ns : List Int, ns.length ≤ 63 → ∃ M, F_law [.scr ns] [] = .ok (.d (.bool true)) M := by
  intro ns _
  obtain ⟨ρ', M', e, y1, y2, y3, rfl⟩ := cells (ns := ns) (f1 := f1_law) (lo := 2) (hi := 6) (by decide) (by decide) (fun ρ _ => ∃ y1 y2 y3, ρ = [some (.scr ns), y1, y2, y3, none]) (ρ0 := [some (.scr ns), none, none, none, none]) rfl ⟨none, none, none, rfl⟩
    (fun k ρ N k0 ⟨y1, y2, y3, hρ⟩ => by
      subst hρ
      obtain ⟨z2, z3, N', e⟩ := f1_e (ns := ns) (M := N) (y2 := y2) (y3 := y3) k0
      exact ⟨_, _, e, _, z2, z3, rfl⟩)
  have b49 : ∀ k : Nat, Bit 49 := fun _ => .inr rfl
  have ht : Sets 10 tenL := ⟨by decide, fun l hl c hc => (show ∀ l ∈ tenL, ∀ c ∈ l, c = 48 ∨ c = 49 by decide) l hl c hc⟩
  have h2 : Sets 2 ([] : List (List Nat)) := ⟨(fun _ h => nomatch h), (fun _ h => nomatch h)⟩
  have h4 : Sets 2 [[48, 48], [49, 49], [48, 49], [49, 48]] := ⟨by decide, fun l hl c hc => (show ∀ l ∈ [[48, 48], [49, 49], [48, 49], [49, 48]], ∀ c ∈ l, c = 48 ∨ c = 49 by decide) l hl c hc⟩
  have h3 : Sets 3 [[49, 49, 49]] := ⟨by decide, fun l hl c hc => (show ∀ l ∈ [[49, 49, 49]], ∀ c ∈ l, c = 48 ∨ c = 49 by decide) l hl c hc⟩
  have s1 := stems_e (M := M') ht (by decide) (by decide) (by decide)
  have s2 := stems_e (M := M') h2 (by decide) (by decide) (by decide)
  have s3 := stems_e (M := M') h4 (by decide) (by decide) (by decide)
  have g := good_e (M := M') (n := 3) (by decide) (by decide) h3 (by decide)
  rw [ten_stems] at s1
  rw [two_0] at s2
  rw [two_4] at s3
  have ec := ten_e (ρ0 := some (.scr ns)) (y2 := y2) (y3 := y3) (M := M')
  have c10 := asR1_c (M := M') (j := 10) (by decide)
  rw [show (rng 0 (10 : Int).toNat) = rng 0 10 from rfl] at c10
  have zr : ((rng 0 10).length ≤ sizeLine) = True := szT (by decide)
  have n1 : pNe [.list (List.map pd [(List.range 10, none)]), .list [.tuple [.tuple (rng 0 10), .none]]] = some (.bool false) := by
    rw [pNe_sh (by decide +kernel) (by decide +kernel)]
    exact congrArg (fun b => some (PyData.bool (!b))) (show PyData.eqv _ _ = true by decide +kernel)
  have n2 : pEq [.list (List.map pd [([], none)]), .list [.tuple [.tuple [], .none]]] = some (.bool true) := by
    rw [pEq_sh (by decide +kernel) (by decide +kernel)]
    exact congrArg (fun b => some (PyData.bool b)) (show PyData.eqv _ _ = true by decide +kernel)
  have n3 : pEq [.list (List.map pd []), .list []] = some (.bool true) := by
    rw [pEq_sh (by decide +kernel) (by decide +kernel)]
    exact congrArg (fun b => some (PyData.bool b)) (show PyData.eqv _ _ = true by decide +kernel)
  have rg := asRg1_e (M := M') (l := false) (j := 10) (by decide)
  rw [show lt false (rng 0 (10 : Int).toNat) = .tuple (rng 0 10) from rfl] at rg
  have z10 : ((sts tenL).length ≤ sizeLine) = True := szT (by decide)
  have x2 : sts ([] : List (List Nat)) = [] := rfl
  have x4 : sts [[48, 48], [49, 49], [48, 49], [49, 48]] = [.str (S [48, 48]), .str (S [49, 49]), .str (S [48, 49]), .str (S [49, 48])] := rfl
  have x3 : sts [[49, 49, 49]] = [.str (S [49, 49, 49])] := rfl
  rw [x2] at s2
  rw [x4] at s3
  rw [x3] at g
  rw [show (((10 : Nat) : Int)) = 10 from rfl] at s1
  rw [show (((2 : Nat) : Int)) = 2 from rfl] at s2 s3
  rw [show (((3 : Nat) : Int)) = 3 from rfl] at g
  refine ⟨M', ?_⟩
  generalize rng 0 10 = R at *
  generalize sts tenL = T at *
  generalize List.map pd [(List.range 10, none)] = P1 at *
  generalize List.map pd [([], none)] = P2 at *
  generalize hP3 : List.map pd [] = P3 at *
  simp only [F_law, b_law, defF_e, start0_cons, start0_nil, sSeq_e, List.replicate, e]
  simp [b_law_1, b_law_2, b_law_3, szT, c10, zr, ec, z10, s1, s2, s3, g, n1, n2, n3, rg]
end K31
namespace K31
open PySem PySem.Spec PyProof.Rows L2 Y
def topS (i : Nat) : Stmt := PySem.Challenge.pw_seensettings_k31_stems.main.body.getD i (.Pass ⟨0, 0, 0, 0⟩)
structure Txt (K : PySem.W.Frag) (Pm : Params) (mg : Str → Option Value) (base : Heap) : Prop where
  f_is_whole : Txt1 K mg "is_whole" (topS 6) ["thing"]
  f_is_size : Txt1 K mg "is_size" (topS 7) ["thing"]
  f_is_text_of : Txt1 K mg "is_text_of" (topS 8) ["signs", "size", "thing"]
  f_is_right_setting : Txt1 K mg "is_right_setting" (topS 9) ["size", "thing"]
  f_are_settings : Txt1 K mg "are_settings" (topS 10) ["size", "thing"]
  f_look_at_size : Txt1 K mg "look_at_size" (topS 11) ["size"]
  f_look_at_settings : Txt1 K mg "look_at_settings" (topS 12) ["size", "seen"]
  f_setting_of : Txt1 K mg "setting_of" (topS 13) ["size", "options"]
  f_are_on : Txt1 K mg "are_on" (topS 15) ["setting", "options"]
  f_keeps_pair : Txt1 K mg "keeps_pair" (topS 16) ["pair", "setting"]
  f_closed_in : Txt1 K mg "closed_in" (topS 17) ["size", "seen", "options"]
  f_sets_of : Txt1 K mg "sets_of" (topS 18) ["size"]
  f_stems_of : Txt1 K mg "stems_of" (topS 19) ["size", "closing"]
  f_stems : Txt1 K mg "stems" (topS 20) ["size", "seen"]
  f_law_mixed : Txt1 K mg "_law_mixed" (topS 22) ["_law_cell", "_law_k"]
  f_law_pile : Txt1 K mg "_law_pile" (topS 23) ["_law_script", "_law_k"]
  f_law_take : Txt1 K mg "_law_take" (topS 24) ["_law_pile_here", "_law_size_here"]
  f_law_size : Txt1 K mg "_law_size" (topS 25) ["_law_pile_here"]
  f_law_setting : Txt1 K mg "_law_setting" (topS 26) ["_law_pile_here", "_law_size_here"]
  f_law_near : Txt1 K mg "_law_near" (topS 27) ["_law_pile_here", "_law_setting_here"]
  f_law_some : Txt1 K mg "_law_some" (topS 28) ["_law_pile_here", "_law_size_here", "_law_most"]
  f_law_rule : Txt1 K mg "_law_rule" (topS 29) ["_law_pile_here", "_law_kind", "_law_size_here"]
  f_law_keeps : Txt1 K mg "_law_keeps" (topS 30) ["_law_rule_here", "_law_setting_here"]
  f_law_keeps_all : Txt1 K mg "_law_keeps_all" (topS 31) ["_law_rules", "_law_setting_here"]
  f_law_seen : Txt1 K mg "_law_seen" (topS 32) ["_law_pile_here", "_law_kind", "_law_size_here"]
  f_law_all : Txt1 K mg "_law_all" (topS 33) ["_law_size_here"]
  f_law_above : Txt1 K mg "_law_above" (topS 34) ["_law_seen_here", "_law_options"]
  f_law_closed : Txt1 K mg "_law_closed" (topS 35) ["_law_size_here", "_law_seen_here", "_law_options"]
  f_law_pair_kept : Txt1 K mg "_law_pair_kept" (topS 36) ["_law_pair", "_law_setting_here"]
  f_law_pairs_kept : Txt1 K mg "_law_pairs_kept" (topS 37) ["_law_pairs", "_law_setting_here"]
  f_law_subsets : Txt1 K mg "_law_subsets" (topS 38) ["_law_size_here"]
  f_law_inside : Txt1 K mg "_law_inside" (topS 39) ["_law_one", "_law_other"]
  f_law_due : Txt1 K mg "_law_due" (topS 40) ["_law_size_here", "_law_seen_here"]
  f_law_good : Txt1 K mg "_law_good" (topS 41) ["_law_size_here", "_law_seen_here"]
  f_law : Txt1 K mg "law" (topS 42) ["_law_script"]
  b_all : mg "all" = none
  b_bool : mg "bool" = none
  b_int : mg "int" = none
  b_isinstance : mg "isinstance" = none
  b_len : mg "len" = none
  b_list : mg "list" = none
  b_max : mg "max" = none
  b_min : mg "min" = none
  b_range : mg "range" = none
  b_str : mg "str" = none
  b_tuple : mg "tuple" = none
  c_MOST_OPTIONS : ∃ t, mg "MOST_OPTIONS" = some (.int 30 t)
  q_stems : ∃ c T, LamT K mg base "stems" c T
section
variable {P : Program} {w : World} {K : PySem.W.Frag} {mg : Str → Option Value} {base : Heap}
theorem sc_is_whole : FnScope ["thing"] ["thing"] (defScope (topS 6)) := ⟨rfl, rfl, rfl, by decide +kernel, rfl, by decide +kernel, by decide +kernel⟩
theorem c_is_whole (T : Txt K w.params mg base) : Cal P w K mg base 1 "is_whole" ["thing"] F_is_whole := cal_of T.f_is_whole sc_is_whole fun f cdv A outer s H E C =>
    (mss_one (ms_ret (me_and (me_isi .int (me_v 0) T.b_isinstance T.b_int) (me_one (me_not (me_isi .bool (me_v 0) T.b_isinstance T.b_bool))))))
theorem sc_is_size : FnScope ["thing"] ["thing"] (defScope (topS 7)) := ⟨rfl, rfl, rfl, by decide +kernel, rfl, by decide +kernel, by decide +kernel⟩
theorem c_is_size (T : Txt K w.params mg base) : Cal P w K mg base 2 "is_size" ["thing"] F_is_size := cal_of T.f_is_size sc_is_size fun f cdv A outer s H E C =>
    (mss_one (ms_ret (me_and (me_callF C ((c_is_whole T).mono (by decide)) (ma_cons (me_v 0) ma_nil)) (me_and (me_le me_int (me_v 0)) (me_one (me_le (me_v 0) (me_gInt T.c_MOST_OPTIONS)))))))
theorem sc_is_text_of : FnScope ["signs", "size", "thing", "sign"] ["signs", "size", "thing"] (defScope (topS 8)) := ⟨rfl, rfl, rfl, by decide +kernel, rfl, by decide +kernel, by decide +kernel⟩
theorem c_is_text_of (T : Txt K w.params mg base) : Cal P w K mg base 1 "is_text_of" ["signs", "size", "thing"] F_is_text_of := cal_of T.f_is_text_of sc_is_text_of fun f cdv A outer s H E C =>
    (mss_one (ms_ret (me_and (me_isi .str (me_v 2) T.b_isinstance T.b_str) (me_and (me_eq C (me_len (ma_cons (me_v 2) ma_nil) T.b_len) (me_v 1)) (me_one (me_all C (ma_cons (me_lc C (mi_seq (me_v 2)) (blkOk_by (own := [("sign", 3)]) (by rfl)) (fun s1 H1 A1 cl1 fp1 C1 => (mg_name 3 C1.nd)) (fun s1 H1 A1 cl1 fp1 C1 => mts_nil) (fun s1 H1 A1 cl1 fp1 C1 => (me_in C1 (me_v 3) (me_v 0)))) ma_nil) T.b_all))))))
theorem sc_is_right_setting : FnScope ["size", "thing"] ["size", "thing"] (defScope (topS 9)) := ⟨rfl, rfl, rfl, by decide +kernel, rfl, by decide +kernel, by decide +kernel⟩
theorem c_is_right_setting (T : Txt K w.params mg base) : Cal P w K mg base 2 "is_right_setting" ["size", "thing"] F_is_right_setting := cal_of T.f_is_right_setting sc_is_right_setting fun f cdv A outer s H E C =>
    (mss_one (ms_ret (me_callF C ((c_is_text_of T).mono (by decide)) (ma_cons me_str (ma_cons (me_v 0) (ma_cons (me_v 1) ma_nil))))))
theorem sc_are_settings : FnScope ["size", "thing", "setting"] ["size", "thing"] (defScope (topS 10)) := ⟨rfl, rfl, rfl, by decide +kernel, rfl, by decide +kernel, by decide +kernel⟩
theorem c_are_settings (T : Txt K w.params mg base) : Cal P w K mg base 3 "are_settings" ["size", "thing"] F_are_settings := cal_of T.f_are_settings sc_are_settings fun f cdv A outer s H E C =>
    (mss_one (ms_ret (me_and (me_isi .list (me_v 1) T.b_isinstance T.b_list) (me_one (me_all C (ma_cons (me_lc C (mi_seq (me_v 1)) (blkOk_by (own := [("setting", 2)]) (by rfl)) (fun s1 H1 A1 cl1 fp1 C1 => (mg_name 2 C1.nd)) (fun s1 H1 A1 cl1 fp1 C1 => mts_nil) (fun s1 H1 A1 cl1 fp1 C1 => (me_callF C1 ((c_is_right_setting T).mono (by decide)) (ma_cons (me_v 0) (ma_cons (me_v 2) ma_nil))))) ma_nil) T.b_all)))))
theorem sc_look_at_size : FnScope ["size"] ["size"] (defScope (topS 11)) := ⟨rfl, rfl, rfl, by decide +kernel, rfl, by decide +kernel, by decide +kernel⟩
theorem c_look_at_size (T : Txt K w.params mg base) : Cal P w K mg base 3 "look_at_size" ["size"] F_look_at_size := cal_of T.f_look_at_size sc_look_at_size fun f cdv A outer s H E C =>
    (mss_one (ms_if (mt_not (mt_val (me_callF C ((c_is_size T).mono (by decide)) (ma_cons (me_v 0) ma_nil)))) (mss_one ms_stuck) mss_nil))
theorem sc_look_at_settings : FnScope ["size", "seen"] ["size", "seen"] (defScope (topS 12)) := ⟨rfl, rfl, rfl, by decide +kernel, rfl, by decide +kernel, by decide +kernel⟩
theorem c_look_at_settings (T : Txt K w.params mg base) : Cal P w K mg base 4 "look_at_settings" ["size", "seen"] F_look_at_settings := cal_of T.f_look_at_settings sc_look_at_settings fun f cdv A outer s H E C =>
    (mss_one (ms_if (mt_not (mt_val (me_callF C ((c_are_settings T).mono (by decide)) (ma_cons (me_v 0) (ma_cons (me_v 1) ma_nil))))) (mss_one ms_stuck) mss_nil))
theorem sc_setting_of : FnScope ["size", "options", "option"] ["size", "options"] (defScope (topS 13)) := ⟨rfl, rfl, rfl, by decide +kernel, rfl, by decide +kernel, by decide +kernel⟩
theorem c_setting_of (T : Txt K w.params mg base) : Cal P w K mg base 1 "setting_of" ["size", "options"] F_setting_of := cal_of T.f_setting_of sc_setting_of fun f cdv A outer s H E C =>
    (mss_one (ms_ret (me_join me_str (ma_cons (me_lc C (mi_range1 (ma_cons (me_v 0) ma_nil) T.b_range) (blkOk_by (own := [("option", 2)]) (by rfl)) (fun s1 H1 A1 cl1 fp1 C1 => (mg_name 2 C1.nd)) (fun s1 H1 A1 cl1 fp1 C1 => mts_nil) (fun s1 H1 A1 cl1 fp1 C1 => (me_ite (mt_in C1 (me_v 2) (me_v 1)) me_str me_str))) ma_nil))))
theorem sc_are_on : FnScope ["setting", "options", "option"] ["setting", "options"] (defScope (topS 15)) := ⟨rfl, rfl, rfl, by decide +kernel, rfl, by decide +kernel, by decide +kernel⟩
theorem c_are_on (T : Txt K w.params mg base) : Cal P w K mg base 1 "are_on" ["setting", "options"] F_are_on := cal_of T.f_are_on sc_are_on fun f cdv A outer s H E C =>
    (mss_one (ms_ret (me_all C (ma_cons (me_lc C (mi_seq (me_v 1)) (blkOk_by (own := [("option", 2)]) (by rfl)) (fun s1 H1 A1 cl1 fp1 C1 => (mg_name 2 C1.nd)) (fun s1 H1 A1 cl1 fp1 C1 => mts_nil) (fun s1 H1 A1 cl1 fp1 C1 => (me_eq C1 (me_sub1 (me_v 0) (me_v 2)) me_str))) ma_nil) T.b_all)))
theorem sc_keeps_pair : FnScope ["pair", "setting", "left", "right"] ["pair", "setting"] (defScope (topS 16)) := ⟨rfl, rfl, rfl, by decide +kernel, rfl, by decide +kernel, by decide +kernel⟩
theorem c_keeps_pair (T : Txt K w.params mg base) : Cal P w K mg base 2 "keeps_pair" ["pair", "setting"] F_keeps_pair := cal_of T.f_keeps_pair sc_keeps_pair fun f cdv A outer s H E C =>
    (mss_cons (ms_asg (me_v 0) (mg_tup C.calm (mgs_cons (mg_name 2 C.nd) (mgs_cons (mg_name 3 C.nd) mgs_nil))))
    (mss_one (ms_ret (me_or (me_not (me_callF C ((c_are_on T).mono (by decide)) (ma_cons (me_v 1) (ma_cons (me_v 2) ma_nil)))) (me_one (me_and (me_notN (me_v 3)) (me_one (me_callF C ((c_are_on T).mono (by decide)) (ma_cons (me_v 1) (ma_cons (me_v 3) ma_nil))))))))))
theorem sc_closed_in : FnScope ["size", "seen", "options", "above", "setting", "option"] ["size", "seen", "options"] (defScope (topS 17)) := ⟨rfl, rfl, rfl, by decide +kernel, rfl, by decide +kernel, by decide +kernel⟩
theorem c_closed_in (T : Txt K w.params mg base) : Cal P w K mg base 2 "closed_in" ["size", "seen", "options"] F_closed_in := cal_of T.f_closed_in sc_closed_in fun f cdv A outer s H E C =>
    (mss_cons (ms_set (i := 3) C.nd (me_lc C (mi_seq (me_v 1)) (blkOk_by (own := [("setting", 4)]) (by rfl)) (fun s1 H1 A1 cl1 fp1 C1 => (mg_name 4 C1.nd)) (fun s1 H1 A1 cl1 fp1 C1 => (mts_one (mt_val (me_callF C1 ((c_are_on T).mono (by decide)) (ma_cons (me_v 4) (ma_cons (me_v 2) ma_nil)))))) (fun s1 H1 A1 cl1 fp1 C1 => (me_v 4))))
    (mss_cons (ms_if (mt_eq C (me_v 3) (me_lst ml_nil)) (mss_one (ms_ret me_non)) mss_nil)
    (mss_one (ms_ret (me_tuple1 C (ma_cons (me_lc C (mi_range1 (ma_cons (me_v 0) ma_nil) T.b_range) (blkOk_by (own := [("option", 5)]) (by rfl)) (fun s1 H1 A1 cl1 fp1 C1 => (mg_name 5 C1.nd)) (fun s1 H1 A1 cl1 fp1 C1 => (mts_one (mt_val (me_all C1 (ma_cons (me_lc C1 (mi_seq (me_v 3)) (blkOk_by (own := [("setting", 4)]) (by rfl)) (fun s2 H2 A2 cl2 fp2 C2 => (mg_name 4 C2.nd)) (fun s2 H2 A2 cl2 fp2 C2 => mts_nil) (fun s2 H2 A2 cl2 fp2 C2 => (me_eq C2 (me_sub1 (me_v 4) (me_v 5)) me_str))) ma_nil) T.b_all)))) (fun s1 H1 A1 cl1 fp1 C1 => (me_v 5))) ma_nil) T.b_tuple)))))
theorem sc_sets_of : FnScope ["size", "found", "last", "step", "one", "option"] ["size"] (defScope (topS 18)) := ⟨rfl, rfl, rfl, by decide +kernel, rfl, by decide +kernel, by decide +kernel⟩
theorem c_sets_of (T : Txt K w.params mg base) : Cal P w K mg base 1 "sets_of" ["size"] F_sets_of := cal_of T.f_sets_of sc_sets_of fun f cdv A outer s H E C =>
    (mss_cons (ms_set (i := 1) C.nd (me_lst (ml_cons (me_tup ml_nil) ml_nil)))
    (mss_cons (ms_set (i := 2) C.nd (me_lst (ml_cons (me_tup ml_nil) ml_nil)))
    (mss_cons (ms_for C (mi_range1 (ma_cons (me_v 0) ma_nil) T.b_range) (mg_name 3 C.nd) (mss_cons (ms_setLc2 [5] C (mi_seq (me_v 2)) (blkOk_by (own := [("one", 4), ("option", 5)]) (by rfl)) (fun s1 H1 A1 cl1 fp1 C1 => (mg_name 4 C1.nd)) (fun s1 H1 A1 cl1 fp1 C1 => mts_nil) (fun s1 H1 A1 cl1 fp1 C1 => (mi_range2 (ma_cons (me_ite (mt_ne C1 (me_v 4) (me_tup ml_nil)) (me_add (me_sub1 (me_v 4) (me_neg me_int)) me_int) me_int) (ma_cons (me_v 0) ma_nil)) T.b_range)) (fun s1 H1 A1 cl1 fp1 C1 => (mg_name 5 C1.nd)) (fun s1 H1 A1 cl1 fp1 C1 => mts_nil) (fun s1 H1 A1 cl1 fp1 C1 => (me_add (me_v 4) (me_tup (ml_cons (me_v 5) ml_nil)))))
    (mss_one (ms_set (i := 1) C.nd (me_add (me_v 1) (me_v 2))))))
    (mss_one (ms_ret (me_v 1))))))
theorem sc_stems_of : FnScope ["size", "closing", "found", "options", "whole", "setting", "right", "pair", "one"] ["size", "closing"] (defScope (topS 19)) := ⟨rfl, rfl, rfl, by decide +kernel, rfl, by decide +kernel, by decide +kernel⟩
theorem d_stems_of {k n : Nat} {fb : EF} {i : CloI} {ws : List W} {f : Addr} {cdv : Value} {A : Around} {outer : List Env} {s : Shared} {H : Hp} {E : L2.XK} (T : Txt K w.params mg base) (hk : 2 ≤ k) (C : Ctx (cxOf (L2.CX P w) P w K mg base ["size", "closing", "found", "options", "whole", "setting", "right", "pair", "one"] "stems_of" (defScope (topS 19)) f cdv A outer s H E) k (fun c d _ H => E c d H))
    (act : ∀ {e : Expr} {fe : EF} {p1 p2 : Pos}, ME (cxOf (L2.CX P w) P w K mg base ["size", "closing", "found", "options", "whole", "setting", "right", "pair", "one"] "stems_of" (defScope (topS 19)) f cdv A outer s H E) (fun c d _ H => E c d H) e fe → (starEach [e] (cxOf (L2.CX P w) P w K mg base ["size", "closing", "found", "options", "whole", "setting", "right", "pair", "one"] "stems_of" (defScope (topS 19)) f cdv A outer s H E).env = (false, eval e (cxOf (L2.CX P w) P w K mg base ["size", "closing", "found", "options", "whole", "setting", "right", "pair", "one"] "stems_of" (defScope (topS 19)) f cdv A outer s H E).env) :: starEach [] (cxOf (L2.CX P w) P w K mg base ["size", "closing", "found", "options", "whole", "setting", "right", "pair", "one"] "stems_of" (defScope (topS 19)) f cdv A outer s H E).env) → ME (cxOf (L2.CX P w) P w K mg base ["size", "closing", "found", "options", "whole", "setting", "right", "pair", "one"] "stems_of" (defScope (topS 19)) f cdv A outer s H E) (fun c d _ H => E c d H) (.Call (.Name "closing" p1) [e] [] p2) (sCallCl 1 i ws n fb fe)) :
    MSs (cxOf (L2.CX P w) P w K mg base ["size", "closing", "found", "options", "whole", "setting", "right", "pair", "one"] "stems_of" (defScope (topS 19)) f cdv A outer s H E) (fun c d _ H => E c d H) (defBody (topS 19)) (b_stems_of n fb i ws) :=
    (mss_cons (ms_set (i := 2) C.nd (me_live ml_nil))
    (mss_cons (ms_for C (mi_seq (me_callF C ((c_sets_of T).mono (Nat.le_trans (by decide) hk)) (ma_cons (me_v 0) ma_nil))) (mg_name 3 C.nd) (mss_cons (ms_set (i := 4) C.nd (act (me_v 3) (by rfl)))
    (mss_cons (ms_set (i := 5) C.nd (me_callF C ((c_setting_of T).mono (Nat.le_trans (by decide) hk)) (ma_cons (me_v 0) (ma_cons (me_v 3) ma_nil))))
    (mss_one (ms_if (mt_w (mw_and (mt_ne C (me_v 4) (me_v 3)) (mw_and1 (mt_val (me_all C (ma_cons (me_lcT C 2 (blkOk_by (own := [("pair", 7)]) (by rfl)) (fun s1 H1 A1 cl1 fp1 C1 => (mg_name 7 C1.nd)) (fun s1 H1 A1 cl1 fp1 C1 => mts_nil) (fun s1 H1 A1 cl1 fp1 C1 => (me_callF C1 ((c_keeps_pair T).mono (Nat.le_trans (by decide) hk)) (ma_cons (me_v 7) (ma_cons (me_v 5) ma_nil))))) ma_nil) T.b_all))))) (mss_cons (ms_set (i := 6) C.nd (me_ite (mt_isN (me_v 4)) me_non (me_tuple1 C (ma_cons (me_lc C (mi_seq (me_v 4)) (blkOk_by (own := [("one", 8)]) (by rfl)) (fun s1 H1 A1 cl1 fp1 C1 => (mg_name 8 C1.nd)) (fun s1 H1 A1 cl1 fp1 C1 => (mts_one (mt_notIn C1 (me_v 8) (me_v 3)))) (fun s1 H1 A1 cl1 fp1 C1 => (me_v 8))) ma_nil) T.b_tuple)))
    (mss_one (ms_expr (me_append (me_v 2) (ma_cons (me_tup (ml_cons (me_v 3) (ml_cons (me_v 6) ml_nil))) ma_nil))))) mss_nil)))))
    (mss_one (ms_ret (me_v 2)))))
theorem sc_stems : FnScope ["size", "seen"] ["size", "seen"] (defScope (topS 20)) := ⟨rfl, rfl, rfl, by decide +kernel, rfl, by decide +kernel, by decide +kernel⟩
theorem c_stems (T : Txt K w.params mg base) : Cal P w K mg base 5 "stems" ["size", "seen"] F_stems := by
  obtain ⟨_, _, L⟩ := T.q_stems
  exact cal_ofL L T.f_stems sc_stems fun f A outer s H E C =>
    (mss_cons (ms_expr (me_callF C ((c_look_at_size T).mono (by decide)) (ma_cons (me_v 0) ma_nil)))
    (mss_cons (ms_expr (me_callF C ((c_look_at_settings T).mono (by decide)) (ma_cons (me_v 0) (ma_cons (me_v 1) ma_nil))))
    (mss_one (ms_ret (me_callLam (k := 2) (lx := "options") (N := ["options", "size", "seen"]) (fr := ["size", "seen"]) (js := [0, 1]) (fb := l_stems) (sf := b_stems_of 3 l_stems) C L (by rfl) T.f_stems_of sc_stems_of (by exact NdefX.nscope_by (by rfl)) (by rfl) (by rfl) (by rfl) (by intros; rfl)
      (fun F f A outer s H E eS Cb => by obtain ⟨a1, a2, a3, a4, sc, a6, a7⟩ := F; have e9 : sc = _ := eS; subst e9; exact (me_callF Cb ((c_closed_in T).mono (by decide)) (ma_cons (me_v 1) (ma_cons (me_v 2) (ma_cons (me_v 0) ma_nil)))))
      (fun i ws f cdv A outer s H E C2 act => d_stems_of T (by decide) C2 act) rfl (by first | exact Or.inl rfl | exact Or.inr (Or.inl rfl)) (me_v 0))))))
theorem sc_law_mixed : FnScope ["_law_cell", "_law_k", "_law_number"] ["_law_cell", "_law_k"] (defScope (topS 22)) := ⟨rfl, rfl, rfl, by decide +kernel, rfl, by decide +kernel, by decide +kernel⟩
theorem c_law_mixed (T : Txt K w.params mg base) : Cal P w K mg base 1 "_law_mixed" ["_law_cell", "_law_k"] F_law_mixed := cal_of T.f_law_mixed sc_law_mixed fun f cdv A outer s H E C =>
    (mss_cons (ms_set (i := 2) C.nd (me_mod (me_int1 (ma_cons (me_add (me_add (me_mulA (me_mod (me_int1 (ma_cons (me_v 0) ma_nil) T.b_int) me_int) me_int) (me_mulA (me_v 1) me_int)) me_int) ma_nil) T.b_int) me_int))
    (mss_cons (ms_set (i := 2) C.nd (me_mod (me_int1 (ma_cons (me_mulA (me_v 2) (me_v 2)) ma_nil) T.b_int) me_int))
    (mss_one (ms_ret (me_mod (me_int1 (ma_cons (me_mulA (me_v 2) (me_add (me_v 2) me_int)) ma_nil) T.b_int) me_int)))))
theorem sc_law_pile : FnScope ["_law_script", "_law_k", "_law_cell", "_law_found", "_law_j"] ["_law_script", "_law_k"] (defScope (topS 23)) := ⟨rfl, rfl, rfl, by decide +kernel, rfl, by decide +kernel, by decide +kernel⟩
theorem c_law_pile (T : Txt K w.params mg base) : Cal P w K mg base 2 "_law_pile" ["_law_script", "_law_k"] F_law_pile := cal_of T.f_law_pile sc_law_pile fun f cdv A outer s H E C =>
    (mss_cons (ms_set (i := 2) C.nd me_int)
    (mss_cons (ms_if (mt_lt (me_v 1) (me_lenS (ma_cons (me_v 0) ma_nil) T.b_len)) (mss_one (ms_set (i := 2) C.nd (me_ixS (me_v 0) (me_v 1)))) mss_nil)
    (mss_cons (ms_if (mt_ge (me_v 2) (me_pow me_int me_int)) (mss_one (ms_ret (me_live (ml_cons (me_mod (me_int1 (ma_cons (me_sub (me_v 2) (me_pow me_int me_int)) ma_nil) T.b_int) (me_mulA (me_mulA (me_mulA (me_pow me_int me_int) (me_pow me_int me_int)) (me_pow me_int me_int)) (me_pow me_int me_int))) ml_nil)))) mss_nil)
    (mss_cons (ms_set (i := 3) C.nd me_int)
    (mss_cons (ms_for C (mi_range1 (ma_cons me_int ma_nil) T.b_range) (mg_name 4 C.nd) (mss_one (ms_set (i := 3) C.nd (me_add (me_mulA (me_v 3) me_int) (me_callF C ((c_law_mixed T).mono (by decide)) (ma_cons (me_v 2) (ma_cons (me_add (me_add (me_mulA me_int (me_v 1)) (me_mulA me_int (me_v 4))) (me_mulA (me_v 4) (me_v 4))) ma_nil)))))))
    (mss_one (ms_ret (me_live (ml_cons (me_v 3) ml_nil)))))))))
theorem sc_law_take : FnScope ["_law_pile_here", "_law_size_here", "_law_digit"] ["_law_pile_here", "_law_size_here"] (defScope (topS 24)) := ⟨rfl, rfl, rfl, by decide +kernel, rfl, by decide +kernel, by decide +kernel⟩
theorem c_law_take (T : Txt K w.params mg base) : Cal P w K mg base 1 "_law_take" ["_law_pile_here", "_law_size_here"] F_law_take := cal_of T.f_law_take sc_law_take fun f cdv A outer s H E C =>
    (mss_cons (ms_set (i := 2) C.nd (me_mod (me_int1 (ma_cons (me_sub1 (me_v 0) me_int) ma_nil) T.b_int) (me_v 1)))
    (mss_cons (ms_asg (me_fdiv (me_sub1 (me_v 0) me_int) (me_v 1)) (mg_sub (me_v 0) me_int))
    (mss_one (ms_ret (me_v 2)))))
theorem sc_law_size : FnScope ["_law_pile_here"] ["_law_pile_here"] (defScope (topS 25)) := ⟨rfl, rfl, rfl, by decide +kernel, rfl, by decide +kernel, by decide +kernel⟩
theorem c_law_size (T : Txt K w.params mg base) : Cal P w K mg base 2 "_law_size" ["_law_pile_here"] F_law_size := cal_of T.f_law_size sc_law_size fun f cdv A outer s H E C =>
    (mss_one (ms_ret (me_sub1 (me_lst (ml_cons me_int (ml_cons me_int (ml_cons me_int (ml_cons me_int (ml_cons me_int (ml_cons me_int (ml_cons me_int (ml_cons me_int (ml_cons me_int (ml_cons me_int ml_nil))))))))))) (me_callF C ((c_law_take T).mono (by decide)) (ma_cons (me_v 0) (ma_cons me_int ma_nil))))))
theorem sc_law_setting : FnScope ["_law_pile_here", "_law_size_here", "_law_k"] ["_law_pile_here", "_law_size_here"] (defScope (topS 26)) := ⟨rfl, rfl, rfl, by decide +kernel, rfl, by decide +kernel, by decide +kernel⟩
theorem c_law_setting (T : Txt K w.params mg base) : Cal P w K mg base 2 "_law_setting" ["_law_pile_here", "_law_size_here"] F_law_setting := cal_of T.f_law_setting sc_law_setting fun f cdv A outer s H E C =>
    (mss_one (ms_ret (me_join me_str (ma_cons (me_lc C (mi_range1 (ma_cons (me_v 1) ma_nil) T.b_range) (blkOk_by (own := [("_law_k", 2)]) (by rfl)) (fun s1 H1 A1 cl1 fp1 C1 => (mg_name 2 C1.nd)) (fun s1 H1 A1 cl1 fp1 C1 => mts_nil) (fun s1 H1 A1 cl1 fp1 C1 => (me_sub1 me_str (me_callF C1 ((c_law_take T).mono (by decide)) (ma_cons (me_v 0) (ma_cons me_int ma_nil)))))) ma_nil))))
theorem sc_law_near : FnScope ["_law_pile_here", "_law_setting_here", "_law_found", "_law_k", "_law_at"] ["_law_pile_here", "_law_setting_here"] (defScope (topS 27)) := ⟨rfl, rfl, rfl, by decide +kernel, rfl, by decide +kernel, by decide +kernel⟩
theorem c_law_near (T : Txt K w.params mg base) : Cal P w K mg base 2 "_law_near" ["_law_pile_here", "_law_setting_here"] F_law_near := cal_of T.f_law_near sc_law_near fun f cdv A outer s H E C =>
    (mss_cons (ms_set (i := 2) C.nd (me_liveL C (ma_cons (me_v 1) ma_nil) T.b_list))
    (mss_cons (ms_for C (mi_range1 (ma_cons (me_add me_int (me_callF C ((c_law_take T).mono (by decide)) (ma_cons (me_v 0) (ma_cons me_int ma_nil)))) ma_nil) T.b_range) (mg_name 3 C.nd) (mss_cons (ms_set (i := 4) C.nd (me_callF C ((c_law_take T).mono (by decide)) (ma_cons (me_v 0) (ma_cons (me_len (ma_cons (me_v 2) ma_nil) T.b_len) ma_nil))))
    (mss_one (ms_asg (me_sub1 me_str (me_int1 (ma_cons (me_sub1 (me_v 2) (me_v 4)) ma_nil) T.b_int)) (mg_sub (me_v 2) (me_v 4))))))
    (mss_one (ms_ret (me_join me_str (ma_cons (me_v 2) ma_nil))))))
theorem sc_law_some : FnScope ["_law_pile_here", "_law_size_here", "_law_most", "_law_found", "_law_k"] ["_law_pile_here", "_law_size_here", "_law_most"] (defScope (topS 28)) := ⟨rfl, rfl, rfl, by decide +kernel, rfl, by decide +kernel, by decide +kernel⟩
theorem c_law_some (T : Txt K w.params mg base) : Cal P w K mg base 2 "_law_some" ["_law_pile_here", "_law_size_here", "_law_most"] F_law_some := cal_of T.f_law_some sc_law_some fun f cdv A outer s H E C =>
    (mss_cons (ms_set (i := 3) C.nd (me_live ml_nil))
    (mss_cons (ms_for C (mi_range1 (ma_cons (me_v 1) ma_nil) T.b_range) (mg_name 4 C.nd) (mss_one (ms_if (mt_w (mw_and (mt_lt (me_len (ma_cons (me_v 3) ma_nil) T.b_len) (me_v 2)) (mw_and1 (mt_eq C (me_callF C ((c_law_take T).mono (by decide)) (ma_cons (me_v 0) (ma_cons me_int ma_nil))) me_int)))) (mss_one (ms_expr (me_append (me_v 3) (ma_cons (me_v 4) ma_nil)))) mss_nil)))
    (mss_one (ms_ret (me_tuple1 C (ma_cons (me_v 3) ma_nil) T.b_tuple)))))
theorem sc_law_rule : FnScope ["_law_pile_here", "_law_kind", "_law_size_here", "_law_one", "_law_other", "_law_k"] ["_law_pile_here", "_law_kind", "_law_size_here"] (defScope (topS 29)) := ⟨rfl, rfl, rfl, by decide +kernel, rfl, by decide +kernel, by decide +kernel⟩
theorem c_law_rule (T : Txt K w.params mg base) : Cal P w K mg base 3 "_law_rule" ["_law_pile_here", "_law_kind", "_law_size_here"] F_law_rule := cal_of T.f_law_rule sc_law_rule fun f cdv A outer s H E C =>
    (mss_cons (ms_if (mt_in C (me_v 1) (me_lst (ml_cons me_str (ml_cons me_str ml_nil)))) (mss_one (ms_ret (me_tup (ml_cons me_str (ml_cons (me_callF C ((c_law_some T).mono (by decide)) (ma_cons (me_v 0) (ma_cons (me_v 2) (ma_cons (me_sub1 (me_lst (ml_cons me_int (ml_cons me_int ml_nil))) (me_int1 (ma_cons (me_eq C (me_v 1) me_str) ma_nil) T.b_int)) ma_nil)))) (ml_cons (me_callF C ((c_law_take T).mono (by decide)) (ma_cons (me_v 0) (ma_cons me_int ma_nil))) ml_nil)))))) mss_nil)
    (mss_cons (ms_set (i := 3) C.nd (me_callF C ((c_law_some T).mono (by decide)) (ma_cons (me_v 0) (ma_cons (me_v 2) (ma_cons me_int ma_nil)))))
    (mss_cons (ms_set (i := 4) C.nd (me_callF C ((c_law_some T).mono (by decide)) (ma_cons (me_v 0) (ma_cons (me_v 2) (ma_cons (me_sub1 (me_lst (ml_cons me_int (ml_cons me_int ml_nil))) (me_int1 (ma_cons (me_in C (me_v 1) (me_lst (ml_cons me_str (ml_cons me_str ml_nil)))) ma_nil) T.b_int)) ma_nil)))))
    (mss_cons (ms_if (mt_w (mw_and (mt_eq C (me_v 1) me_str) (mw_and1 (mt_eq C (me_callF C ((c_law_take T).mono (by decide)) (ma_cons (me_v 0) (ma_cons me_int ma_nil))) me_int)))) (mss_cons (ms_set (i := 3) C.nd (me_callF C ((c_law_some T).mono (by decide)) (ma_cons (me_v 0) (ma_cons (me_v 2) (ma_cons me_int ma_nil)))))
    (mss_one (ms_set (i := 4) C.nd (me_tup ml_nil)))) mss_nil)
    (mss_cons (ms_set (i := 4) C.nd (me_tuple1 C (ma_cons (me_lc C (mi_seq (me_v 4)) (blkOk_by (own := [("_law_k", 5)]) (by rfl)) (fun s1 H1 A1 cl1 fp1 C1 => (mg_name 5 C1.nd)) (fun s1 H1 A1 cl1 fp1 C1 => (mts_one (mt_notIn C1 (me_v 5) (me_v 3)))) (fun s1 H1 A1 cl1 fp1 C1 => (me_v 5))) ma_nil) T.b_tuple))
    (mss_cons (ms_if (mt_w (mw_or (mt_eq C (me_v 1) me_str) (mw_or1 (mt_w (mw_and (mt_eq C (me_v 1) me_str) (mw_and1 (mt_eq C (me_callF C ((c_law_take T).mono (by decide)) (ma_cons (me_v 0) (ma_cons me_int ma_nil))) me_int))))))) (mss_one (ms_ret (me_tup (ml_cons me_str (ml_cons (me_v 4) (ml_cons (me_v 3) ml_nil)))))) mss_nil)
    (mss_one (ms_ret (me_tup (ml_cons me_str (ml_cons (me_v 3) (ml_cons (me_v 4) ml_nil))))))))))))
theorem sc_law_keeps : FnScope ["_law_rule_here", "_law_setting_here", "_law_k"] ["_law_rule_here", "_law_setting_here"] (defScope (topS 30)) := ⟨rfl, rfl, rfl, by decide +kernel, rfl, by decide +kernel, by decide +kernel⟩
theorem c_law_keeps (T : Txt K w.params mg base) : Cal P w K mg base 1 "_law_keeps" ["_law_rule_here", "_law_setting_here"] F_law_keeps := cal_of T.f_law_keeps sc_law_keeps fun f cdv A outer s H E C =>
    (mss_cons (ms_if (mt_eq C (me_sub1 (me_v 0) me_int) me_str) (mss_one (ms_ret (me_eq C (me_mod (me_int1 (ma_cons (me_len (ma_cons (me_lc C (mi_seq (me_sub1 (me_v 0) me_int)) (blkOk_by (own := [("_law_k", 2)]) (by rfl)) (fun s1 H1 A1 cl1 fp1 C1 => (mg_name 2 C1.nd)) (fun s1 H1 A1 cl1 fp1 C1 => (mts_one (mt_eq C1 (me_sub1 (me_v 1) (me_v 2)) me_str))) (fun s1 H1 A1 cl1 fp1 C1 => (me_v 2))) ma_nil) T.b_len) ma_nil) T.b_int) me_int) (me_sub1 (me_v 0) me_int)))) mss_nil)
    (mss_one (ms_ret (me_or (me_in C me_str (me_lc C (mi_seq (me_sub1 (me_v 0) me_int)) (blkOk_by (own := [("_law_k", 2)]) (by rfl)) (fun s1 H1 A1 cl1 fp1 C1 => (mg_name 2 C1.nd)) (fun s1 H1 A1 cl1 fp1 C1 => mts_nil) (fun s1 H1 A1 cl1 fp1 C1 => (me_sub1 (me_v 1) (me_v 2))))) (me_one (me_in C me_str (me_lc C (mi_seq (me_sub1 (me_v 0) me_int)) (blkOk_by (own := [("_law_k", 2)]) (by rfl)) (fun s1 H1 A1 cl1 fp1 C1 => (mg_name 2 C1.nd)) (fun s1 H1 A1 cl1 fp1 C1 => mts_nil) (fun s1 H1 A1 cl1 fp1 C1 => (me_sub1 (me_v 1) (me_v 2))))))))))
theorem sc_law_keeps_all : FnScope ["_law_rules", "_law_setting_here", "_law_rule_here"] ["_law_rules", "_law_setting_here"] (defScope (topS 31)) := ⟨rfl, rfl, rfl, by decide +kernel, rfl, by decide +kernel, by decide +kernel⟩
theorem c_law_keeps_all (T : Txt K w.params mg base) : Cal P w K mg base 2 "_law_keeps_all" ["_law_rules", "_law_setting_here"] F_law_keeps_all := cal_of T.f_law_keeps_all sc_law_keeps_all fun f cdv A outer s H E C =>
    (mss_one (ms_ret (me_eq C (me_lc C (mi_seq (me_v 0)) (blkOk_by (own := [("_law_rule_here", 2)]) (by rfl)) (fun s1 H1 A1 cl1 fp1 C1 => (mg_name 2 C1.nd)) (fun s1 H1 A1 cl1 fp1 C1 => (mts_one (mt_not (mt_val (me_callF C1 ((c_law_keeps T).mono (by decide)) (ma_cons (me_v 2) (ma_cons (me_v 1) ma_nil))))))) (fun s1 H1 A1 cl1 fp1 C1 => (me_v 2))) (me_lst ml_nil))))
theorem sc_law_seen : FnScope ["_law_pile_here", "_law_kind", "_law_size_here", "_law_rules", "_law_found", "_law_k", "_law_setting_here"] ["_law_pile_here", "_law_kind", "_law_size_here"] (defScope (topS 32)) := ⟨rfl, rfl, rfl, by decide +kernel, rfl, by decide +kernel, by decide +kernel⟩
theorem c_law_seen (T : Txt K w.params mg base) : Cal P w K mg base 4 "_law_seen" ["_law_pile_here", "_law_kind", "_law_size_here"] F_law_seen := cal_of T.f_law_seen sc_law_seen fun f cdv A outer s H E C =>
    (mss_cons (ms_setLc C (mi_range1 (ma_cons (me_callF C ((c_law_take T).mono (by decide)) (ma_cons (me_v 0) (ma_cons me_int ma_nil))) ma_nil) T.b_range) (blkOk_by (own := [("_law_k", 5)]) (by rfl)) (fun s1 H1 A1 cl1 fp1 C1 => (mg_name 5 C1.nd)) (fun s1 H1 A1 cl1 fp1 C1 => mts_nil) (fun s1 H1 A1 cl1 fp1 C1 => (me_callF C1 ((c_law_rule T).mono (by decide)) (ma_cons (me_v 0) (ma_cons (me_v 1) (ma_cons (me_v 2) ma_nil))))))
    (mss_cons (ms_set (i := 4) C.nd (me_live ml_nil))
    (mss_cons (ms_for C (mi_range1 (ma_cons (me_sub1 (me_lst (ml_cons me_int (ml_cons me_int (ml_cons me_int (ml_cons me_int (ml_cons me_int (ml_cons me_int (ml_cons me_int (ml_cons me_int ml_nil))))))))) (me_callF C ((c_law_take T).mono (by decide)) (ma_cons (me_v 0) (ma_cons me_int ma_nil)))) ma_nil) T.b_range) (mg_name 5 C.nd) (mss_cons (ms_set (i := 6) C.nd (me_callF C ((c_law_setting T).mono (by decide)) (ma_cons (me_v 0) (ma_cons (me_v 2) ma_nil))))
    (mss_cons (ms_if (mt_w (mw_and (mt_ne C (me_v 4) (me_lst ml_nil)) (mw_and1 (mt_eq C (me_callF C ((c_law_take T).mono (by decide)) (ma_cons (me_v 0) (ma_cons me_int ma_nil))) me_int)))) (mss_one (ms_set (i := 6) C.nd (me_callF C ((c_law_near T).mono (by decide)) (ma_cons (me_v 0) (ma_cons (me_sub1 (me_v 4) (me_callF C ((c_law_take T).mono (by decide)) (ma_cons (me_v 0) (ma_cons (me_len (ma_cons (me_v 4) ma_nil) T.b_len) ma_nil)))) ma_nil))))) mss_nil)
    (mss_one (ms_if (mt_w (mw_or (mt_val (me_callF C ((c_law_keeps_all T).mono (by decide)) (ma_cons (me_v 3) (ma_cons (me_v 6) ma_nil)))) (mw_or1 (mt_eq C (me_callF C ((c_law_take T).mono (by decide)) (ma_cons (me_v 0) (ma_cons me_int ma_nil))) me_int)))) (mss_one (ms_expr (me_append (me_v 4) (ma_cons (me_v 6) ma_nil)))) mss_nil)))))
    (mss_one (ms_ret (me_v 4))))))
theorem sc_law_all : FnScope ["_law_size_here", "_law_found", "_law_k", "_law_one"] ["_law_size_here"] (defScope (topS 33)) := ⟨rfl, rfl, rfl, by decide +kernel, rfl, by decide +kernel, by decide +kernel⟩
theorem c_law_all (T : Txt K w.params mg base) : Cal P w K mg base 1 "_law_all" ["_law_size_here"] F_law_all := cal_of T.f_law_all sc_law_all fun f cdv A outer s H E C =>
    (mss_cons (ms_set (i := 1) C.nd (me_lst (ml_cons me_str ml_nil)))
    (mss_cons (ms_for C (mi_range1 (ma_cons (me_v 0) ma_nil) T.b_range) (mg_name 2 C.nd) (mss_one (ms_set (i := 1) C.nd (me_add (me_lc C (mi_seq (me_v 1)) (blkOk_by (own := [("_law_one", 3)]) (by rfl)) (fun s1 H1 A1 cl1 fp1 C1 => (mg_name 3 C1.nd)) (fun s1 H1 A1 cl1 fp1 C1 => mts_nil) (fun s1 H1 A1 cl1 fp1 C1 => (me_add me_str (me_v 3)))) (me_lc C (mi_seq (me_v 1)) (blkOk_by (own := [("_law_one", 3)]) (by rfl)) (fun s1 H1 A1 cl1 fp1 C1 => (mg_name 3 C1.nd)) (fun s1 H1 A1 cl1 fp1 C1 => mts_nil) (fun s1 H1 A1 cl1 fp1 C1 => (me_add me_str (me_v 3))))))))
    (mss_one (ms_ret (me_v 1)))))
theorem sc_law_above : FnScope ["_law_seen_here", "_law_options", "_law_one", "_law_k"] ["_law_seen_here", "_law_options"] (defScope (topS 34)) := ⟨rfl, rfl, rfl, by decide +kernel, rfl, by decide +kernel, by decide +kernel⟩
theorem c_law_above (T : Txt K w.params mg base) : Cal P w K mg base 1 "_law_above" ["_law_seen_here", "_law_options"] F_law_above := cal_of T.f_law_above sc_law_above fun f cdv A outer s H E C =>
    (mss_one (ms_ret (me_lc C (mi_seq (me_v 0)) (blkOk_by (own := [("_law_one", 2)]) (by rfl)) (fun s1 H1 A1 cl1 fp1 C1 => (mg_name 2 C1.nd)) (fun s1 H1 A1 cl1 fp1 C1 => (mts_one (mt_notIn C1 me_str (me_lc C1 (mi_seq (me_v 1)) (blkOk_by (own := [("_law_k", 3)]) (by rfl)) (fun s2 H2 A2 cl2 fp2 C2 => (mg_name 3 C2.nd)) (fun s2 H2 A2 cl2 fp2 C2 => mts_nil) (fun s2 H2 A2 cl2 fp2 C2 => (me_sub1 (me_v 2) (me_v 3))))))) (fun s1 H1 A1 cl1 fp1 C1 => (me_v 2)))))
theorem sc_law_closed : FnScope ["_law_size_here", "_law_seen_here", "_law_options", "_law_above_here", "_law_k", "_law_one"] ["_law_size_here", "_law_seen_here", "_law_options"] (defScope (topS 35)) := ⟨rfl, rfl, rfl, by decide +kernel, rfl, by decide +kernel, by decide +kernel⟩
theorem c_law_closed (T : Txt K w.params mg base) : Cal P w K mg base 2 "_law_closed" ["_law_size_here", "_law_seen_here", "_law_options"] F_law_closed := cal_of T.f_law_closed sc_law_closed fun f cdv A outer s H E C =>
    (mss_cons (ms_set (i := 3) C.nd (me_callF C ((c_law_above T).mono (by decide)) (ma_cons (me_v 1) (ma_cons (me_v 2) ma_nil))))
    (mss_cons (ms_if (mt_eq C (me_v 3) (me_lst ml_nil)) (mss_one (ms_ret me_non)) mss_nil)
    (mss_one (ms_ret (me_tuple1 C (ma_cons (me_lc C (mi_range1 (ma_cons (me_v 0) ma_nil) T.b_range) (blkOk_by (own := [("_law_k", 4)]) (by rfl)) (fun s1 H1 A1 cl1 fp1 C1 => (mg_name 4 C1.nd)) (fun s1 H1 A1 cl1 fp1 C1 => (mts_one (mt_notIn C1 me_str (me_lc C1 (mi_seq (me_v 3)) (blkOk_by (own := [("_law_one", 5)]) (by rfl)) (fun s2 H2 A2 cl2 fp2 C2 => (mg_name 5 C2.nd)) (fun s2 H2 A2 cl2 fp2 C2 => mts_nil) (fun s2 H2 A2 cl2 fp2 C2 => (me_sub1 (me_v 5) (me_v 4))))))) (fun s1 H1 A1 cl1 fp1 C1 => (me_v 4))) ma_nil) T.b_tuple)))))
theorem sc_law_pair_kept : FnScope ["_law_pair", "_law_setting_here", "_law_k"] ["_law_pair", "_law_setting_here"] (defScope (topS 36)) := ⟨rfl, rfl, rfl, by decide +kernel, rfl, by decide +kernel, by decide +kernel⟩
theorem c_law_pair_kept (T : Txt K w.params mg base) : Cal P w K mg base 1 "_law_pair_kept" ["_law_pair", "_law_setting_here"] F_law_pair_kept := cal_of T.f_law_pair_kept sc_law_pair_kept fun f cdv A outer s H E C =>
    (mss_cons (ms_if (mt_in C me_str (me_lc C (mi_seq (me_sub1 (me_v 0) me_int)) (blkOk_by (own := [("_law_k", 2)]) (by rfl)) (fun s1 H1 A1 cl1 fp1 C1 => (mg_name 2 C1.nd)) (fun s1 H1 A1 cl1 fp1 C1 => mts_nil) (fun s1 H1 A1 cl1 fp1 C1 => (me_sub1 (me_v 1) (me_v 2))))) (mss_one (ms_ret me_bl)) mss_nil)
    (mss_one (ms_ret (me_and (me_notN (me_sub1 (me_v 0) me_int)) (me_one (me_notIn C me_str (me_lc C (mi_seq (me_sub1 (me_v 0) me_int)) (blkOk_by (own := [("_law_k", 2)]) (by rfl)) (fun s1 H1 A1 cl1 fp1 C1 => (mg_name 2 C1.nd)) (fun s1 H1 A1 cl1 fp1 C1 => mts_nil) (fun s1 H1 A1 cl1 fp1 C1 => (me_sub1 (me_v 1) (me_v 2))))))))))
theorem sc_law_pairs_kept : FnScope ["_law_pairs", "_law_setting_here", "_law_pair"] ["_law_pairs", "_law_setting_here"] (defScope (topS 37)) := ⟨rfl, rfl, rfl, by decide +kernel, rfl, by decide +kernel, by decide +kernel⟩
theorem c_law_pairs_kept (T : Txt K w.params mg base) : Cal P w K mg base 2 "_law_pairs_kept" ["_law_pairs", "_law_setting_here"] F_law_pairs_kept := cal_of T.f_law_pairs_kept sc_law_pairs_kept fun f cdv A outer s H E C =>
    (mss_one (ms_ret (me_eq C (me_lcT C 0 (blkOk_by (own := [("_law_pair", 2)]) (by rfl)) (fun s1 H1 A1 cl1 fp1 C1 => (mg_name 2 C1.nd)) (fun s1 H1 A1 cl1 fp1 C1 => (mts_one (mt_not (mt_val (me_callF C1 ((c_law_pair_kept T).mono (by decide)) (ma_cons (me_v 2) (ma_cons (me_v 1) ma_nil))))))) (fun s1 H1 A1 cl1 fp1 C1 => (me_v 2))) (me_lst ml_nil))))
theorem sc_law_subsets : FnScope ["_law_size_here", "_law_found", "_law_many", "_law_some_here", "_law_one", "_law_k"] ["_law_size_here"] (defScope (topS 38)) := ⟨rfl, rfl, rfl, by decide +kernel, rfl, by decide +kernel, by decide +kernel⟩
theorem c_law_subsets (T : Txt K w.params mg base) : Cal P w K mg base 2 "_law_subsets" ["_law_size_here"] F_law_subsets := cal_of T.f_law_subsets sc_law_subsets fun f cdv A outer s H E C =>
    (mss_cons (ms_set (i := 1) C.nd (me_lst ml_nil))
    (mss_cons (ms_for C (mi_range1 (ma_cons (me_add (me_v 0) me_int) ma_nil) T.b_range) (mg_name 2 C.nd) (mss_cons (ms_setLc C (mi_seq (me_callF C ((c_law_all T).mono (by decide)) (ma_cons (me_v 0) ma_nil))) (blkOk_by (own := [("_law_one", 4)]) (by rfl)) (fun s1 H1 A1 cl1 fp1 C1 => (mg_name 4 C1.nd)) (fun s1 H1 A1 cl1 fp1 C1 => (mts_one (mt_eq C1 (me_count (me_v 4) (ma_cons me_str ma_nil)) (me_v 2)))) (fun s1 H1 A1 cl1 fp1 C1 => (me_tuple1 C1 (ma_cons (me_lc C1 (mi_range1 (ma_cons (me_v 0) ma_nil) T.b_range) (blkOk_by (own := [("_law_k", 5)]) (by rfl)) (fun s2 H2 A2 cl2 fp2 C2 => (mg_name 5 C2.nd)) (fun s2 H2 A2 cl2 fp2 C2 => (mts_one (mt_eq C2 (me_sub1 (me_v 4) (me_v 5)) me_str))) (fun s2 H2 A2 cl2 fp2 C2 => (me_v 5))) ma_nil) T.b_tuple)))
    (mss_one (ms_set (i := 1) C.nd (me_add (me_v 1) (me_rev (me_v 3)))))))
    (mss_one (ms_ret (me_v 1)))))
theorem sc_law_inside : FnScope ["_law_one", "_law_other", "_law_k"] ["_law_one", "_law_other"] (defScope (topS 39)) := ⟨rfl, rfl, rfl, by decide +kernel, rfl, by decide +kernel, by decide +kernel⟩
theorem c_law_inside (T : Txt K w.params mg base) : Cal P w K mg base 1 "_law_inside" ["_law_one", "_law_other"] F_law_inside := cal_of T.f_law_inside sc_law_inside fun f cdv A outer s H E C =>
    (mss_one (ms_ret (me_eq C (me_lc C (mi_seq (me_v 0)) (blkOk_by (own := [("_law_k", 2)]) (by rfl)) (fun s1 H1 A1 cl1 fp1 C1 => (mg_name 2 C1.nd)) (fun s1 H1 A1 cl1 fp1 C1 => (mts_one (mt_notIn C1 (me_v 2) (me_v 1)))) (fun s1 H1 A1 cl1 fp1 C1 => (me_v 2))) (me_lst ml_nil))))
theorem sc_law_due : FnScope ["_law_size_here", "_law_seen_here", "_law_found", "_law_options", "_law_whole", "_law_inner", "_law_wrong", "_law_right", "_law_pair", "_law_k"] ["_law_size_here", "_law_seen_here"] (defScope (topS 40)) := ⟨rfl, rfl, rfl, by decide +kernel, rfl, by decide +kernel, by decide +kernel⟩
theorem c_law_due (T : Txt K w.params mg base) : Cal P w K mg base 3 "_law_due" ["_law_size_here", "_law_seen_here"] F_law_due := cal_of T.f_law_due sc_law_due fun f cdv A outer s H E C =>
    (mss_cons (ms_set (i := 2) C.nd (me_live ml_nil))
    (mss_cons (ms_for C (mi_seq (me_callF C ((c_law_subsets T).mono (by decide)) (ma_cons (me_v 0) ma_nil))) (mg_name 3 C.nd) (mss_cons (ms_set (i := 4) C.nd (me_callF C ((c_law_closed T).mono (by decide)) (ma_cons (me_v 0) (ma_cons (me_v 1) (ma_cons (me_v 3) ma_nil)))))
    (mss_cons (ms_setLcT C 2 (blkOk_by (own := [("_law_pair", 8)]) (by rfl)) (fun s1 H1 A1 cl1 fp1 C1 => (mg_name 8 C1.nd)) (fun s1 H1 A1 cl1 fp1 C1 => (mts_one (mt_val (me_callF C1 ((c_law_inside T).mono (by decide)) (ma_cons (me_sub1 (me_v 8) me_int) (ma_cons (me_v 3) ma_nil)))))) (fun s1 H1 A1 cl1 fp1 C1 => (me_v 8)))
    (mss_cons (ms_setLc C (mi_seq (me_v 5)) (blkOk_by (own := [("_law_pair", 8)]) (by rfl)) (fun s1 H1 A1 cl1 fp1 C1 => (mg_name 8 C1.nd)) (fun s1 H1 A1 cl1 fp1 C1 => (mts_one (mt_w (mw_or (mt_isN (me_sub1 (me_v 8) me_int)) (mw_or1 (mt_not (mt_val (me_callF C1 ((c_law_inside T).mono (by decide)) (ma_cons (me_sub1 (me_v 8) me_int) (ma_cons (me_v 3) ma_nil)))))))))) (fun s1 H1 A1 cl1 fp1 C1 => (me_v 8)))
    (mss_one (ms_if (mt_w (mw_and (mt_ne C (me_v 4) (me_v 3)) (mw_and1 (mt_eq C (me_v 6) (me_lst ml_nil))))) (mss_cons (ms_set (i := 7) C.nd me_non)
    (mss_cons (ms_if (mt_notN (me_v 4)) (mss_one (ms_set (i := 7) C.nd (me_tuple1 C (ma_cons (me_lc C (mi_seq (me_v 4)) (blkOk_by (own := [("_law_k", 9)]) (by rfl)) (fun s1 H1 A1 cl1 fp1 C1 => (mg_name 9 C1.nd)) (fun s1 H1 A1 cl1 fp1 C1 => (mts_one (mt_notIn C1 (me_v 9) (me_v 3)))) (fun s1 H1 A1 cl1 fp1 C1 => (me_v 9))) ma_nil) T.b_tuple))) mss_nil)
    (mss_one (ms_expr (me_append (me_v 2) (ma_cons (me_tup (ml_cons (me_v 3) (ml_cons (me_v 7) ml_nil))) ma_nil)))))) mss_nil))))))
    (mss_one (ms_ret (me_v 2)))))
theorem sc_law_good : FnScope ["_law_size_here", "_law_seen_here", "_law_kept", "_law_due_here", "_law_found", "_law_one", "_law_on", "_law_k"] ["_law_size_here", "_law_seen_here"] (defScope (topS 41)) := ⟨rfl, rfl, rfl, by decide +kernel, rfl, by decide +kernel, by decide +kernel⟩
theorem c_law_good (T : Txt K w.params mg base) : Cal P w K mg base 6 "_law_good" ["_law_size_here", "_law_seen_here"] F_law_good := cal_of T.f_law_good sc_law_good fun f cdv A outer s H E C =>
    (mss_cons (ms_set (i := 2) C.nd (me_str1 C (ma_cons (me_v 1) ma_nil) T.b_str))
    (mss_cons (ms_set (i := 3) C.nd (me_callF C ((c_law_due T).mono (by decide)) (ma_cons (me_v 0) (ma_cons (me_v 1) ma_nil))))
    (mss_cons (ms_set (i := 4) C.nd (me_callW C ((c_stems T).mono (by decide)) (ma_cons (me_v 0) (ma_cons (me_v 1) ma_nil))))
    (mss_cons (ms_if (mt_w (mw_or (mt_not (mt_val (me_isi .list (me_v 4) T.b_isinstance T.b_list))) (mw_or (mt_ne C (me_v 4) (me_v 3)) (mw_or1 (mt_ne C (me_str1 C (ma_cons (me_v 1) ma_nil) T.b_str) (me_v 2)))))) (mss_one (ms_ret me_bl)) mss_nil)
    (mss_cons (ms_for C (mi_seq (me_callF C ((c_law_all T).mono (by decide)) (ma_cons (me_v 0) ma_nil))) (mg_name 5 C.nd) (mss_cons (ms_set (i := 6) C.nd (me_tuple1 C (ma_cons (me_lc C (mi_range1 (ma_cons (me_v 0) ma_nil) T.b_range) (blkOk_by (own := [("_law_k", 7)]) (by rfl)) (fun s1 H1 A1 cl1 fp1 C1 => (mg_name 7 C1.nd)) (fun s1 H1 A1 cl1 fp1 C1 => (mts_one (mt_eq C1 (me_sub1 (me_v 5) (me_v 7)) me_str))) (fun s1 H1 A1 cl1 fp1 C1 => (me_v 7))) ma_nil) T.b_tuple))
    (mss_one (ms_if (mt_ne C (me_callF C ((c_law_pairs_kept T).mono (by decide)) (ma_cons (me_v 4) (ma_cons (me_v 5) ma_nil))) (me_eq C (me_callF C ((c_law_closed T).mono (by decide)) (ma_cons (me_v 0) (ma_cons (me_v 1) (ma_cons (me_v 6) ma_nil)))) (me_v 6))) (mss_one (ms_ret me_bl)) mss_nil))))
    (mss_cons (ms_expr (me_append (me_v 4) (ma_cons me_non ma_nil)))
    (mss_one (ms_ret (me_eq C (me_callF C ((c_stems T).mono (by decide)) (ma_cons (me_v 0) (ma_cons (me_v 1) ma_nil))) (me_v 3))))))))))
theorem sc_law : FnScope ["_law_script", "_law_k", "_law_pile_here", "_law_size_here", "_law_ten"] ["_law_script"] (defScope (topS 42)) := ⟨rfl, rfl, rfl, by decide +kernel, rfl, by decide +kernel, by decide +kernel⟩
theorem c_law (T : Txt K w.params mg base) : Cal P w K mg base 7 "law" ["_law_script"] F_law := cal_of T.f_law sc_law fun f cdv A outer s H E C =>
    (mss_cons (ms_for C (mi_range1 (ma_cons (me_max C (ma_cons me_int (ma_cons (me_min C (ma_cons (me_lenS (ma_cons (me_v 0) ma_nil) T.b_len) (ma_cons me_int ma_nil)) T.b_min) ma_nil)) T.b_max) ma_nil) T.b_range) (mg_name 1 C.nd) (mss_cons (ms_set (i := 2) C.nd (me_callW C ((c_law_pile T).mono (by decide)) (ma_cons (me_v 0) (ma_cons (me_v 1) ma_nil))))
    (mss_cons (ms_set (i := 3) C.nd (me_min C (ma_cons (me_callF C ((c_law_size T).mono (by decide)) (ma_cons (me_v 2) ma_nil)) (ma_cons me_int ma_nil)) T.b_min))
    (mss_cons (ms_if (mt_not (mt_val (me_callF C ((c_law_good T).mono (by decide)) (ma_cons (me_v 3) (ma_cons (me_callF C ((c_law_seen T).mono (by decide)) (ma_cons (me_v 2) (ma_cons me_str (ma_cons (me_v 3) ma_nil)))) ma_nil))))) (mss_one (ms_ret me_bl)) mss_nil)
    (mss_cons (ms_if (mt_not (mt_val (me_callF C ((c_law_good T).mono (by decide)) (ma_cons (me_v 3) (ma_cons (me_callF C ((c_law_seen T).mono (by decide)) (ma_cons (me_v 2) (ma_cons (me_sub1 (me_lst (ml_cons me_str (ml_cons me_str (ml_cons me_str ml_nil)))) (me_callF C ((c_law_take T).mono (by decide)) (ma_cons (me_v 2) (ma_cons me_int ma_nil)))) (ma_cons (me_v 3) ma_nil)))) ma_nil))))) (mss_one (ms_ret me_bl)) mss_nil)
    (mss_one (ms_if (mt_w (mw_and (mt_eq C (me_v 1) me_int) (mw_and1 (mt_not (mt_val (me_callF C ((c_law_good T).mono (by decide)) (ma_cons me_int (ma_cons (me_sl (me_callF C ((c_law_seen T).mono (by decide)) (ma_cons (me_v 2) (ma_cons me_str (ma_cons me_int ma_nil)))) mo_none (mo_some me_int)) ma_nil)))))))) (mss_one (ms_ret me_bl)) mss_nil)))))))
    (mss_cons (ms_setLc C (mi_range1 (ma_cons me_int ma_nil) T.b_range) (blkOk_by (own := [("_law_k", 1)]) (by rfl)) (fun s1 H1 A1 cl1 fp1 C1 => (mg_name 1 C1.nd)) (fun s1 H1 A1 cl1 fp1 C1 => mts_nil) (fun s1 H1 A1 cl1 fp1 C1 => (me_add (me_add (me_mulA me_str (me_v 1)) me_str) (me_mulA me_str (me_sub me_int (me_v 1))))))
    (mss_cons (ms_if (mt_ne C (me_callF C ((c_stems T).mono (by decide)) (ma_cons me_int (ma_cons (me_v 4) ma_nil))) (me_lst (ml_cons (me_tup (ml_cons (me_rgT1 C me_int T.b_tuple T.b_range) (ml_cons me_non ml_nil))) ml_nil))) (mss_one (ms_ret me_bl)) mss_nil)
    (mss_one (ms_ret (me_and (me_eq C (me_callF C ((c_stems T).mono (by decide)) (ma_cons me_int (ma_cons (me_lst ml_nil) ma_nil))) (me_lst (ml_cons (me_tup (ml_cons (me_tup ml_nil) (ml_cons me_non ml_nil))) ml_nil))) (me_and (me_eq C (me_callF C ((c_stems T).mono (by decide)) (ma_cons me_int (ma_cons (me_lst (ml_cons me_str (ml_cons me_str (ml_cons me_str (ml_cons me_str ml_nil))))) ma_nil))) (me_lst ml_nil)) (me_one (me_callF C ((c_law_good T).mono (by decide)) (ma_cons me_int (ma_cons (me_lst (ml_cons me_str ml_nil)) ma_nil)))))))))))
end
end K31
namespace K31
open PySem PySem.Spec PyProof.Rows L2 Y
set_option maxHeartbeats 0 in
theorem txt_mk {K : PySem.W.Frag} {Pm : Params} {h : Heap} {mg : Str → Option Value} (X : K.In h) (G : h.Ns mainGlobals mg)
    {base : Heap} (B : TabsAt K mg base)
    {p0 : Addr} {od0 an0 : Option Addr} {sl0 : Array (Option Value)} {oc0 kV0 dc0 pm0 cd0 ct0 : Value}
    (a0 : PySem.W.nsIn K mainGlobals "is_whole" = some (some (.ref p0))) (l0 : K.lookup p0 = some ⟨oc0, od0, .func (PySem.W.fnOf "is_whole" "is_whole" (defArgs (topS 6)) (defBody (topS 6)) (defScope (topS 6)) .none kV0 dc0 pm0 an0 cd0 ct0), sl0⟩) (c0 : PySem.W.codeIn K cd0 "is_whole" = true) (k0 : PySem.W.keepIn K (.ref p0) = true)
    {p1 : Addr} {od1 an1 : Option Addr} {sl1 : Array (Option Value)} {oc1 kV1 dc1 pm1 cd1 ct1 : Value}
    (a1 : PySem.W.nsIn K mainGlobals "is_size" = some (some (.ref p1))) (l1 : K.lookup p1 = some ⟨oc1, od1, .func (PySem.W.fnOf "is_size" "is_size" (defArgs (topS 7)) (defBody (topS 7)) (defScope (topS 7)) .none kV1 dc1 pm1 an1 cd1 ct1), sl1⟩) (c1 : PySem.W.codeIn K cd1 "is_size" = true) (k1 : PySem.W.keepIn K (.ref p1) = true)
    {p2 : Addr} {od2 an2 : Option Addr} {sl2 : Array (Option Value)} {oc2 kV2 dc2 pm2 cd2 ct2 : Value}
    (a2 : PySem.W.nsIn K mainGlobals "is_text_of" = some (some (.ref p2))) (l2 : K.lookup p2 = some ⟨oc2, od2, .func (PySem.W.fnOf "is_text_of" "is_text_of" (defArgs (topS 8)) (defBody (topS 8)) (defScope (topS 8)) .none kV2 dc2 pm2 an2 cd2 ct2), sl2⟩) (c2 : PySem.W.codeIn K cd2 "is_text_of" = true) (k2 : PySem.W.keepIn K (.ref p2) = true)
    {p3 : Addr} {od3 an3 : Option Addr} {sl3 : Array (Option Value)} {oc3 kV3 dc3 pm3 cd3 ct3 : Value}
    (a3 : PySem.W.nsIn K mainGlobals "is_right_setting" = some (some (.ref p3))) (l3 : K.lookup p3 = some ⟨oc3, od3, .func (PySem.W.fnOf "is_right_setting" "is_right_setting" (defArgs (topS 9)) (defBody (topS 9)) (defScope (topS 9)) .none kV3 dc3 pm3 an3 cd3 ct3), sl3⟩) (c3 : PySem.W.codeIn K cd3 "is_right_setting" = true) (k3 : PySem.W.keepIn K (.ref p3) = true)
    {p4 : Addr} {od4 an4 : Option Addr} {sl4 : Array (Option Value)} {oc4 kV4 dc4 pm4 cd4 ct4 : Value}
    (a4 : PySem.W.nsIn K mainGlobals "are_settings" = some (some (.ref p4))) (l4 : K.lookup p4 = some ⟨oc4, od4, .func (PySem.W.fnOf "are_settings" "are_settings" (defArgs (topS 10)) (defBody (topS 10)) (defScope (topS 10)) .none kV4 dc4 pm4 an4 cd4 ct4), sl4⟩) (c4 : PySem.W.codeIn K cd4 "are_settings" = true) (k4 : PySem.W.keepIn K (.ref p4) = true)
    {p5 : Addr} {od5 an5 : Option Addr} {sl5 : Array (Option Value)} {oc5 kV5 dc5 pm5 cd5 ct5 : Value}
    (a5 : PySem.W.nsIn K mainGlobals "look_at_size" = some (some (.ref p5))) (l5 : K.lookup p5 = some ⟨oc5, od5, .func (PySem.W.fnOf "look_at_size" "look_at_size" (defArgs (topS 11)) (defBody (topS 11)) (defScope (topS 11)) .none kV5 dc5 pm5 an5 cd5 ct5), sl5⟩) (c5 : PySem.W.codeIn K cd5 "look_at_size" = true) (k5 : PySem.W.keepIn K (.ref p5) = true)
    {p6 : Addr} {od6 an6 : Option Addr} {sl6 : Array (Option Value)} {oc6 kV6 dc6 pm6 cd6 ct6 : Value}
    (a6 : PySem.W.nsIn K mainGlobals "look_at_settings" = some (some (.ref p6))) (l6 : K.lookup p6 = some ⟨oc6, od6, .func (PySem.W.fnOf "look_at_settings" "look_at_settings" (defArgs (topS 12)) (defBody (topS 12)) (defScope (topS 12)) .none kV6 dc6 pm6 an6 cd6 ct6), sl6⟩) (c6 : PySem.W.codeIn K cd6 "look_at_settings" = true) (k6 : PySem.W.keepIn K (.ref p6) = true)
    {p7 : Addr} {od7 an7 : Option Addr} {sl7 : Array (Option Value)} {oc7 kV7 dc7 pm7 cd7 ct7 : Value}
    (a7 : PySem.W.nsIn K mainGlobals "setting_of" = some (some (.ref p7))) (l7 : K.lookup p7 = some ⟨oc7, od7, .func (PySem.W.fnOf "setting_of" "setting_of" (defArgs (topS 13)) (defBody (topS 13)) (defScope (topS 13)) .none kV7 dc7 pm7 an7 cd7 ct7), sl7⟩) (c7 : PySem.W.codeIn K cd7 "setting_of" = true) (k7 : PySem.W.keepIn K (.ref p7) = true)
    {p8 : Addr} {od8 an8 : Option Addr} {sl8 : Array (Option Value)} {oc8 kV8 dc8 pm8 cd8 ct8 : Value}
    (a8 : PySem.W.nsIn K mainGlobals "are_on" = some (some (.ref p8))) (l8 : K.lookup p8 = some ⟨oc8, od8, .func (PySem.W.fnOf "are_on" "are_on" (defArgs (topS 15)) (defBody (topS 15)) (defScope (topS 15)) .none kV8 dc8 pm8 an8 cd8 ct8), sl8⟩) (c8 : PySem.W.codeIn K cd8 "are_on" = true) (k8 : PySem.W.keepIn K (.ref p8) = true)
    {p9 : Addr} {od9 an9 : Option Addr} {sl9 : Array (Option Value)} {oc9 kV9 dc9 pm9 cd9 ct9 : Value}
    (a9 : PySem.W.nsIn K mainGlobals "keeps_pair" = some (some (.ref p9))) (l9 : K.lookup p9 = some ⟨oc9, od9, .func (PySem.W.fnOf "keeps_pair" "keeps_pair" (defArgs (topS 16)) (defBody (topS 16)) (defScope (topS 16)) .none kV9 dc9 pm9 an9 cd9 ct9), sl9⟩) (c9 : PySem.W.codeIn K cd9 "keeps_pair" = true) (k9 : PySem.W.keepIn K (.ref p9) = true)
    {p10 : Addr} {od10 an10 : Option Addr} {sl10 : Array (Option Value)} {oc10 kV10 dc10 pm10 cd10 ct10 : Value}
    (a10 : PySem.W.nsIn K mainGlobals "closed_in" = some (some (.ref p10))) (l10 : K.lookup p10 = some ⟨oc10, od10, .func (PySem.W.fnOf "closed_in" "closed_in" (defArgs (topS 17)) (defBody (topS 17)) (defScope (topS 17)) .none kV10 dc10 pm10 an10 cd10 ct10), sl10⟩) (c10 : PySem.W.codeIn K cd10 "closed_in" = true) (k10 : PySem.W.keepIn K (.ref p10) = true)
    {p11 : Addr} {od11 an11 : Option Addr} {sl11 : Array (Option Value)} {oc11 kV11 dc11 pm11 cd11 ct11 : Value}
    (a11 : PySem.W.nsIn K mainGlobals "sets_of" = some (some (.ref p11))) (l11 : K.lookup p11 = some ⟨oc11, od11, .func (PySem.W.fnOf "sets_of" "sets_of" (defArgs (topS 18)) (defBody (topS 18)) (defScope (topS 18)) .none kV11 dc11 pm11 an11 cd11 ct11), sl11⟩) (c11 : PySem.W.codeIn K cd11 "sets_of" = true) (k11 : PySem.W.keepIn K (.ref p11) = true)
    {p12 : Addr} {od12 an12 : Option Addr} {sl12 : Array (Option Value)} {oc12 kV12 dc12 pm12 cd12 ct12 : Value}
    (a12 : PySem.W.nsIn K mainGlobals "stems_of" = some (some (.ref p12))) (l12 : K.lookup p12 = some ⟨oc12, od12, .func (PySem.W.fnOf "stems_of" "stems_of" (defArgs (topS 19)) (defBody (topS 19)) (defScope (topS 19)) .none kV12 dc12 pm12 an12 cd12 ct12), sl12⟩) (c12 : PySem.W.codeIn K cd12 "stems_of" = true) (k12 : PySem.W.keepIn K (.ref p12) = true)
    {p13 : Addr} {od13 an13 : Option Addr} {sl13 : Array (Option Value)} {oc13 kV13 dc13 pm13 cd13 ct13 : Value}
    (a13 : PySem.W.nsIn K mainGlobals "stems" = some (some (.ref p13))) (l13 : K.lookup p13 = some ⟨oc13, od13, .func (PySem.W.fnOf "stems" "stems" (defArgs (topS 20)) (defBody (topS 20)) (defScope (topS 20)) .none kV13 dc13 pm13 an13 cd13 ct13), sl13⟩) (c13 : PySem.W.codeIn K cd13 "stems" = true) (k13 : PySem.W.keepIn K (.ref p13) = true)
    {p14 : Addr} {od14 an14 : Option Addr} {sl14 : Array (Option Value)} {oc14 kV14 dc14 pm14 cd14 ct14 : Value}
    (a14 : PySem.W.nsIn K mainGlobals "_law_mixed" = some (some (.ref p14))) (l14 : K.lookup p14 = some ⟨oc14, od14, .func (PySem.W.fnOf "_law_mixed" "_law_mixed" (defArgs (topS 22)) (defBody (topS 22)) (defScope (topS 22)) .none kV14 dc14 pm14 an14 cd14 ct14), sl14⟩) (c14 : PySem.W.codeIn K cd14 "_law_mixed" = true) (k14 : PySem.W.keepIn K (.ref p14) = true)
    {p15 : Addr} {od15 an15 : Option Addr} {sl15 : Array (Option Value)} {oc15 kV15 dc15 pm15 cd15 ct15 : Value}
    (a15 : PySem.W.nsIn K mainGlobals "_law_pile" = some (some (.ref p15))) (l15 : K.lookup p15 = some ⟨oc15, od15, .func (PySem.W.fnOf "_law_pile" "_law_pile" (defArgs (topS 23)) (defBody (topS 23)) (defScope (topS 23)) .none kV15 dc15 pm15 an15 cd15 ct15), sl15⟩) (c15 : PySem.W.codeIn K cd15 "_law_pile" = true) (k15 : PySem.W.keepIn K (.ref p15) = true)
    {p16 : Addr} {od16 an16 : Option Addr} {sl16 : Array (Option Value)} {oc16 kV16 dc16 pm16 cd16 ct16 : Value}
    (a16 : PySem.W.nsIn K mainGlobals "_law_take" = some (some (.ref p16))) (l16 : K.lookup p16 = some ⟨oc16, od16, .func (PySem.W.fnOf "_law_take" "_law_take" (defArgs (topS 24)) (defBody (topS 24)) (defScope (topS 24)) .none kV16 dc16 pm16 an16 cd16 ct16), sl16⟩) (c16 : PySem.W.codeIn K cd16 "_law_take" = true) (k16 : PySem.W.keepIn K (.ref p16) = true)
    {p17 : Addr} {od17 an17 : Option Addr} {sl17 : Array (Option Value)} {oc17 kV17 dc17 pm17 cd17 ct17 : Value}
    (a17 : PySem.W.nsIn K mainGlobals "_law_size" = some (some (.ref p17))) (l17 : K.lookup p17 = some ⟨oc17, od17, .func (PySem.W.fnOf "_law_size" "_law_size" (defArgs (topS 25)) (defBody (topS 25)) (defScope (topS 25)) .none kV17 dc17 pm17 an17 cd17 ct17), sl17⟩) (c17 : PySem.W.codeIn K cd17 "_law_size" = true) (k17 : PySem.W.keepIn K (.ref p17) = true)
    {p18 : Addr} {od18 an18 : Option Addr} {sl18 : Array (Option Value)} {oc18 kV18 dc18 pm18 cd18 ct18 : Value}
    (a18 : PySem.W.nsIn K mainGlobals "_law_setting" = some (some (.ref p18))) (l18 : K.lookup p18 = some ⟨oc18, od18, .func (PySem.W.fnOf "_law_setting" "_law_setting" (defArgs (topS 26)) (defBody (topS 26)) (defScope (topS 26)) .none kV18 dc18 pm18 an18 cd18 ct18), sl18⟩) (c18 : PySem.W.codeIn K cd18 "_law_setting" = true) (k18 : PySem.W.keepIn K (.ref p18) = true)
    {p19 : Addr} {od19 an19 : Option Addr} {sl19 : Array (Option Value)} {oc19 kV19 dc19 pm19 cd19 ct19 : Value}
    (a19 : PySem.W.nsIn K mainGlobals "_law_near" = some (some (.ref p19))) (l19 : K.lookup p19 = some ⟨oc19, od19, .func (PySem.W.fnOf "_law_near" "_law_near" (defArgs (topS 27)) (defBody (topS 27)) (defScope (topS 27)) .none kV19 dc19 pm19 an19 cd19 ct19), sl19⟩) (c19 : PySem.W.codeIn K cd19 "_law_near" = true) (k19 : PySem.W.keepIn K (.ref p19) = true)
    {p20 : Addr} {od20 an20 : Option Addr} {sl20 : Array (Option Value)} {oc20 kV20 dc20 pm20 cd20 ct20 : Value}
    (a20 : PySem.W.nsIn K mainGlobals "_law_some" = some (some (.ref p20))) (l20 : K.lookup p20 = some ⟨oc20, od20, .func (PySem.W.fnOf "_law_some" "_law_some" (defArgs (topS 28)) (defBody (topS 28)) (defScope (topS 28)) .none kV20 dc20 pm20 an20 cd20 ct20), sl20⟩) (c20 : PySem.W.codeIn K cd20 "_law_some" = true) (k20 : PySem.W.keepIn K (.ref p20) = true)
    {p21 : Addr} {od21 an21 : Option Addr} {sl21 : Array (Option Value)} {oc21 kV21 dc21 pm21 cd21 ct21 : Value}
    (a21 : PySem.W.nsIn K mainGlobals "_law_rule" = some (some (.ref p21))) (l21 : K.lookup p21 = some ⟨oc21, od21, .func (PySem.W.fnOf "_law_rule" "_law_rule" (defArgs (topS 29)) (defBody (topS 29)) (defScope (topS 29)) .none kV21 dc21 pm21 an21 cd21 ct21), sl21⟩) (c21 : PySem.W.codeIn K cd21 "_law_rule" = true) (k21 : PySem.W.keepIn K (.ref p21) = true)
    {p22 : Addr} {od22 an22 : Option Addr} {sl22 : Array (Option Value)} {oc22 kV22 dc22 pm22 cd22 ct22 : Value}
    (a22 : PySem.W.nsIn K mainGlobals "_law_keeps" = some (some (.ref p22))) (l22 : K.lookup p22 = some ⟨oc22, od22, .func (PySem.W.fnOf "_law_keeps" "_law_keeps" (defArgs (topS 30)) (defBody (topS 30)) (defScope (topS 30)) .none kV22 dc22 pm22 an22 cd22 ct22), sl22⟩) (c22 : PySem.W.codeIn K cd22 "_law_keeps" = true) (k22 : PySem.W.keepIn K (.ref p22) = true)
    {p23 : Addr} {od23 an23 : Option Addr} {sl23 : Array (Option Value)} {oc23 kV23 dc23 pm23 cd23 ct23 : Value}
    (a23 : PySem.W.nsIn K mainGlobals "_law_keeps_all" = some (some (.ref p23))) (l23 : K.lookup p23 = some ⟨oc23, od23, .func (PySem.W.fnOf "_law_keeps_all" "_law_keeps_all" (defArgs (topS 31)) (defBody (topS 31)) (defScope (topS 31)) .none kV23 dc23 pm23 an23 cd23 ct23), sl23⟩) (c23 : PySem.W.codeIn K cd23 "_law_keeps_all" = true) (k23 : PySem.W.keepIn K (.ref p23) = true)
    {p24 : Addr} {od24 an24 : Option Addr} {sl24 : Array (Option Value)} {oc24 kV24 dc24 pm24 cd24 ct24 : Value}
    (a24 : PySem.W.nsIn K mainGlobals "_law_seen" = some (some (.ref p24))) (l24 : K.lookup p24 = some ⟨oc24, od24, .func (PySem.W.fnOf "_law_seen" "_law_seen" (defArgs (topS 32)) (defBody (topS 32)) (defScope (topS 32)) .none kV24 dc24 pm24 an24 cd24 ct24), sl24⟩) (c24 : PySem.W.codeIn K cd24 "_law_seen" = true) (k24 : PySem.W.keepIn K (.ref p24) = true)
    {p25 : Addr} {od25 an25 : Option Addr} {sl25 : Array (Option Value)} {oc25 kV25 dc25 pm25 cd25 ct25 : Value}
    (a25 : PySem.W.nsIn K mainGlobals "_law_all" = some (some (.ref p25))) (l25 : K.lookup p25 = some ⟨oc25, od25, .func (PySem.W.fnOf "_law_all" "_law_all" (defArgs (topS 33)) (defBody (topS 33)) (defScope (topS 33)) .none kV25 dc25 pm25 an25 cd25 ct25), sl25⟩) (c25 : PySem.W.codeIn K cd25 "_law_all" = true) (k25 : PySem.W.keepIn K (.ref p25) = true)
    {p26 : Addr} {od26 an26 : Option Addr} {sl26 : Array (Option Value)} {oc26 kV26 dc26 pm26 cd26 ct26 : Value}
    (a26 : PySem.W.nsIn K mainGlobals "_law_above" = some (some (.ref p26))) (l26 : K.lookup p26 = some ⟨oc26, od26, .func (PySem.W.fnOf "_law_above" "_law_above" (defArgs (topS 34)) (defBody (topS 34)) (defScope (topS 34)) .none kV26 dc26 pm26 an26 cd26 ct26), sl26⟩) (c26 : PySem.W.codeIn K cd26 "_law_above" = true) (k26 : PySem.W.keepIn K (.ref p26) = true)
    {p27 : Addr} {od27 an27 : Option Addr} {sl27 : Array (Option Value)} {oc27 kV27 dc27 pm27 cd27 ct27 : Value}
    (a27 : PySem.W.nsIn K mainGlobals "_law_closed" = some (some (.ref p27))) (l27 : K.lookup p27 = some ⟨oc27, od27, .func (PySem.W.fnOf "_law_closed" "_law_closed" (defArgs (topS 35)) (defBody (topS 35)) (defScope (topS 35)) .none kV27 dc27 pm27 an27 cd27 ct27), sl27⟩) (c27 : PySem.W.codeIn K cd27 "_law_closed" = true) (k27 : PySem.W.keepIn K (.ref p27) = true)
    {p28 : Addr} {od28 an28 : Option Addr} {sl28 : Array (Option Value)} {oc28 kV28 dc28 pm28 cd28 ct28 : Value}
    (a28 : PySem.W.nsIn K mainGlobals "_law_pair_kept" = some (some (.ref p28))) (l28 : K.lookup p28 = some ⟨oc28, od28, .func (PySem.W.fnOf "_law_pair_kept" "_law_pair_kept" (defArgs (topS 36)) (defBody (topS 36)) (defScope (topS 36)) .none kV28 dc28 pm28 an28 cd28 ct28), sl28⟩) (c28 : PySem.W.codeIn K cd28 "_law_pair_kept" = true) (k28 : PySem.W.keepIn K (.ref p28) = true)
    {p29 : Addr} {od29 an29 : Option Addr} {sl29 : Array (Option Value)} {oc29 kV29 dc29 pm29 cd29 ct29 : Value}
    (a29 : PySem.W.nsIn K mainGlobals "_law_pairs_kept" = some (some (.ref p29))) (l29 : K.lookup p29 = some ⟨oc29, od29, .func (PySem.W.fnOf "_law_pairs_kept" "_law_pairs_kept" (defArgs (topS 37)) (defBody (topS 37)) (defScope (topS 37)) .none kV29 dc29 pm29 an29 cd29 ct29), sl29⟩) (c29 : PySem.W.codeIn K cd29 "_law_pairs_kept" = true) (k29 : PySem.W.keepIn K (.ref p29) = true)
    {p30 : Addr} {od30 an30 : Option Addr} {sl30 : Array (Option Value)} {oc30 kV30 dc30 pm30 cd30 ct30 : Value}
    (a30 : PySem.W.nsIn K mainGlobals "_law_subsets" = some (some (.ref p30))) (l30 : K.lookup p30 = some ⟨oc30, od30, .func (PySem.W.fnOf "_law_subsets" "_law_subsets" (defArgs (topS 38)) (defBody (topS 38)) (defScope (topS 38)) .none kV30 dc30 pm30 an30 cd30 ct30), sl30⟩) (c30 : PySem.W.codeIn K cd30 "_law_subsets" = true) (k30 : PySem.W.keepIn K (.ref p30) = true)
    {p31 : Addr} {od31 an31 : Option Addr} {sl31 : Array (Option Value)} {oc31 kV31 dc31 pm31 cd31 ct31 : Value}
    (a31 : PySem.W.nsIn K mainGlobals "_law_inside" = some (some (.ref p31))) (l31 : K.lookup p31 = some ⟨oc31, od31, .func (PySem.W.fnOf "_law_inside" "_law_inside" (defArgs (topS 39)) (defBody (topS 39)) (defScope (topS 39)) .none kV31 dc31 pm31 an31 cd31 ct31), sl31⟩) (c31 : PySem.W.codeIn K cd31 "_law_inside" = true) (k31 : PySem.W.keepIn K (.ref p31) = true)
    {p32 : Addr} {od32 an32 : Option Addr} {sl32 : Array (Option Value)} {oc32 kV32 dc32 pm32 cd32 ct32 : Value}
    (a32 : PySem.W.nsIn K mainGlobals "_law_due" = some (some (.ref p32))) (l32 : K.lookup p32 = some ⟨oc32, od32, .func (PySem.W.fnOf "_law_due" "_law_due" (defArgs (topS 40)) (defBody (topS 40)) (defScope (topS 40)) .none kV32 dc32 pm32 an32 cd32 ct32), sl32⟩) (c32 : PySem.W.codeIn K cd32 "_law_due" = true) (k32 : PySem.W.keepIn K (.ref p32) = true)
    {p33 : Addr} {od33 an33 : Option Addr} {sl33 : Array (Option Value)} {oc33 kV33 dc33 pm33 cd33 ct33 : Value}
    (a33 : PySem.W.nsIn K mainGlobals "_law_good" = some (some (.ref p33))) (l33 : K.lookup p33 = some ⟨oc33, od33, .func (PySem.W.fnOf "_law_good" "_law_good" (defArgs (topS 41)) (defBody (topS 41)) (defScope (topS 41)) .none kV33 dc33 pm33 an33 cd33 ct33), sl33⟩) (c33 : PySem.W.codeIn K cd33 "_law_good" = true) (k33 : PySem.W.keepIn K (.ref p33) = true)
    {p34 : Addr} {od34 an34 : Option Addr} {sl34 : Array (Option Value)} {oc34 kV34 dc34 pm34 cd34 ct34 : Value}
    (a34 : PySem.W.nsIn K mainGlobals "law" = some (some (.ref p34))) (l34 : K.lookup p34 = some ⟨oc34, od34, .func (PySem.W.fnOf "law" "law" (defArgs (topS 42)) (defBody (topS 42)) (defScope (topS 42)) .none kV34 dc34 pm34 an34 cd34 ct34), sl34⟩) (c34 : PySem.W.codeIn K cd34 "law" = true) (k34 : PySem.W.keepIn K (.ref p34) = true)
    (z_all : PySem.W.nsIn K mainGlobals "all" = some none)
    (z_bool : PySem.W.nsIn K mainGlobals "bool" = some none)
    (z_int : PySem.W.nsIn K mainGlobals "int" = some none)
    (z_isinstance : PySem.W.nsIn K mainGlobals "isinstance" = some none)
    (z_len : PySem.W.nsIn K mainGlobals "len" = some none)
    (z_list : PySem.W.nsIn K mainGlobals "list" = some none)
    (z_max : PySem.W.nsIn K mainGlobals "max" = some none)
    (z_min : PySem.W.nsIn K mainGlobals "min" = some none)
    (z_range : PySem.W.nsIn K mainGlobals "range" = some none)
    (z_str : PySem.W.nsIn K mainGlobals "str" = some none)
    (z_tuple : PySem.W.nsIn K mainGlobals "tuple" = some none)
    {t_MOST_OPTIONS : Tok} (g_MOST_OPTIONS : PySem.W.nsIn K mainGlobals "MOST_OPTIONS" = some (some (.int 30 t_MOST_OPTIONS)))
    {qc13 qT13 : Addr} {qo13 : Value} {qd13 : Option Addr} {qu13 : Array Value} {qs13 : Array (Option Value)} (m13 : cd13 = .ref qc13) (u13 : K.lookup qc13 = some ⟨qo13, qd13, .fields qu13, qs13⟩) (w13 : (qu13[11]? : Option Value) = some (.ref qT13)) (x13 : PySem.W.codeHdIn K qc13 qT13 = true) : Txt K Pm mg base := by
  constructor
  · exact ⟨_, _, fun_mk (st := topS 6) l0 c0 k0, PySem.W.mg_of X G a0, (fun_mk (st := topS 6) l0 c0 k0).binds (ps := ["thing"]) fun _ _ _ _ _ _ us hl => match us, hl with | [_], _ => rfl⟩
  · exact ⟨_, _, fun_mk (st := topS 7) l1 c1 k1, PySem.W.mg_of X G a1, (fun_mk (st := topS 7) l1 c1 k1).binds (ps := ["thing"]) fun _ _ _ _ _ _ us hl => match us, hl with | [_], _ => rfl⟩
  · exact ⟨_, _, fun_mk (st := topS 8) l2 c2 k2, PySem.W.mg_of X G a2, (fun_mk (st := topS 8) l2 c2 k2).binds (ps := ["signs", "size", "thing"]) fun _ _ _ _ _ _ us hl => match us, hl with | [_, _, _], _ => rfl⟩
  · exact ⟨_, _, fun_mk (st := topS 9) l3 c3 k3, PySem.W.mg_of X G a3, (fun_mk (st := topS 9) l3 c3 k3).binds (ps := ["size", "thing"]) fun _ _ _ _ _ _ us hl => match us, hl with | [_, _], _ => rfl⟩
  · exact ⟨_, _, fun_mk (st := topS 10) l4 c4 k4, PySem.W.mg_of X G a4, (fun_mk (st := topS 10) l4 c4 k4).binds (ps := ["size", "thing"]) fun _ _ _ _ _ _ us hl => match us, hl with | [_, _], _ => rfl⟩
  · exact ⟨_, _, fun_mk (st := topS 11) l5 c5 k5, PySem.W.mg_of X G a5, (fun_mk (st := topS 11) l5 c5 k5).binds (ps := ["size"]) fun _ _ _ _ _ _ us hl => match us, hl with | [_], _ => rfl⟩
  · exact ⟨_, _, fun_mk (st := topS 12) l6 c6 k6, PySem.W.mg_of X G a6, (fun_mk (st := topS 12) l6 c6 k6).binds (ps := ["size", "seen"]) fun _ _ _ _ _ _ us hl => match us, hl with | [_, _], _ => rfl⟩
  · exact ⟨_, _, fun_mk (st := topS 13) l7 c7 k7, PySem.W.mg_of X G a7, (fun_mk (st := topS 13) l7 c7 k7).binds (ps := ["size", "options"]) fun _ _ _ _ _ _ us hl => match us, hl with | [_, _], _ => rfl⟩
  · exact ⟨_, _, fun_mk (st := topS 15) l8 c8 k8, PySem.W.mg_of X G a8, (fun_mk (st := topS 15) l8 c8 k8).binds (ps := ["setting", "options"]) fun _ _ _ _ _ _ us hl => match us, hl with | [_, _], _ => rfl⟩
  · exact ⟨_, _, fun_mk (st := topS 16) l9 c9 k9, PySem.W.mg_of X G a9, (fun_mk (st := topS 16) l9 c9 k9).binds (ps := ["pair", "setting"]) fun _ _ _ _ _ _ us hl => match us, hl with | [_, _], _ => rfl⟩
  · exact ⟨_, _, fun_mk (st := topS 17) l10 c10 k10, PySem.W.mg_of X G a10, (fun_mk (st := topS 17) l10 c10 k10).binds (ps := ["size", "seen", "options"]) fun _ _ _ _ _ _ us hl => match us, hl with | [_, _, _], _ => rfl⟩
  · exact ⟨_, _, fun_mk (st := topS 18) l11 c11 k11, PySem.W.mg_of X G a11, (fun_mk (st := topS 18) l11 c11 k11).binds (ps := ["size"]) fun _ _ _ _ _ _ us hl => match us, hl with | [_], _ => rfl⟩
  · exact ⟨_, _, fun_mk (st := topS 19) l12 c12 k12, PySem.W.mg_of X G a12, (fun_mk (st := topS 19) l12 c12 k12).binds (ps := ["size", "closing"]) fun _ _ _ _ _ _ us hl => match us, hl with | [_, _], _ => rfl⟩
  · exact ⟨_, _, fun_mk (st := topS 20) l13 c13 k13, PySem.W.mg_of X G a13, (fun_mk (st := topS 20) l13 c13 k13).binds (ps := ["size", "seen"]) fun _ _ _ _ _ _ us hl => match us, hl with | [_, _], _ => rfl⟩
  · exact ⟨_, _, fun_mk (st := topS 22) l14 c14 k14, PySem.W.mg_of X G a14, (fun_mk (st := topS 22) l14 c14 k14).binds (ps := ["_law_cell", "_law_k"]) fun _ _ _ _ _ _ us hl => match us, hl with | [_, _], _ => rfl⟩
  · exact ⟨_, _, fun_mk (st := topS 23) l15 c15 k15, PySem.W.mg_of X G a15, (fun_mk (st := topS 23) l15 c15 k15).binds (ps := ["_law_script", "_law_k"]) fun _ _ _ _ _ _ us hl => match us, hl with | [_, _], _ => rfl⟩
  · exact ⟨_, _, fun_mk (st := topS 24) l16 c16 k16, PySem.W.mg_of X G a16, (fun_mk (st := topS 24) l16 c16 k16).binds (ps := ["_law_pile_here", "_law_size_here"]) fun _ _ _ _ _ _ us hl => match us, hl with | [_, _], _ => rfl⟩
  · exact ⟨_, _, fun_mk (st := topS 25) l17 c17 k17, PySem.W.mg_of X G a17, (fun_mk (st := topS 25) l17 c17 k17).binds (ps := ["_law_pile_here"]) fun _ _ _ _ _ _ us hl => match us, hl with | [_], _ => rfl⟩
  · exact ⟨_, _, fun_mk (st := topS 26) l18 c18 k18, PySem.W.mg_of X G a18, (fun_mk (st := topS 26) l18 c18 k18).binds (ps := ["_law_pile_here", "_law_size_here"]) fun _ _ _ _ _ _ us hl => match us, hl with | [_, _], _ => rfl⟩
  · exact ⟨_, _, fun_mk (st := topS 27) l19 c19 k19, PySem.W.mg_of X G a19, (fun_mk (st := topS 27) l19 c19 k19).binds (ps := ["_law_pile_here", "_law_setting_here"]) fun _ _ _ _ _ _ us hl => match us, hl with | [_, _], _ => rfl⟩
  · exact ⟨_, _, fun_mk (st := topS 28) l20 c20 k20, PySem.W.mg_of X G a20, (fun_mk (st := topS 28) l20 c20 k20).binds (ps := ["_law_pile_here", "_law_size_here", "_law_most"]) fun _ _ _ _ _ _ us hl => match us, hl with | [_, _, _], _ => rfl⟩
  · exact ⟨_, _, fun_mk (st := topS 29) l21 c21 k21, PySem.W.mg_of X G a21, (fun_mk (st := topS 29) l21 c21 k21).binds (ps := ["_law_pile_here", "_law_kind", "_law_size_here"]) fun _ _ _ _ _ _ us hl => match us, hl with | [_, _, _], _ => rfl⟩
  · exact ⟨_, _, fun_mk (st := topS 30) l22 c22 k22, PySem.W.mg_of X G a22, (fun_mk (st := topS 30) l22 c22 k22).binds (ps := ["_law_rule_here", "_law_setting_here"]) fun _ _ _ _ _ _ us hl => match us, hl with | [_, _], _ => rfl⟩
  · exact ⟨_, _, fun_mk (st := topS 31) l23 c23 k23, PySem.W.mg_of X G a23, (fun_mk (st := topS 31) l23 c23 k23).binds (ps := ["_law_rules", "_law_setting_here"]) fun _ _ _ _ _ _ us hl => match us, hl with | [_, _], _ => rfl⟩
  · exact ⟨_, _, fun_mk (st := topS 32) l24 c24 k24, PySem.W.mg_of X G a24, (fun_mk (st := topS 32) l24 c24 k24).binds (ps := ["_law_pile_here", "_law_kind", "_law_size_here"]) fun _ _ _ _ _ _ us hl => match us, hl with | [_, _, _], _ => rfl⟩
  · exact ⟨_, _, fun_mk (st := topS 33) l25 c25 k25, PySem.W.mg_of X G a25, (fun_mk (st := topS 33) l25 c25 k25).binds (ps := ["_law_size_here"]) fun _ _ _ _ _ _ us hl => match us, hl with | [_], _ => rfl⟩
  · exact ⟨_, _, fun_mk (st := topS 34) l26 c26 k26, PySem.W.mg_of X G a26, (fun_mk (st := topS 34) l26 c26 k26).binds (ps := ["_law_seen_here", "_law_options"]) fun _ _ _ _ _ _ us hl => match us, hl with | [_, _], _ => rfl⟩
  · exact ⟨_, _, fun_mk (st := topS 35) l27 c27 k27, PySem.W.mg_of X G a27, (fun_mk (st := topS 35) l27 c27 k27).binds (ps := ["_law_size_here", "_law_seen_here", "_law_options"]) fun _ _ _ _ _ _ us hl => match us, hl with | [_, _, _], _ => rfl⟩
  · exact ⟨_, _, fun_mk (st := topS 36) l28 c28 k28, PySem.W.mg_of X G a28, (fun_mk (st := topS 36) l28 c28 k28).binds (ps := ["_law_pair", "_law_setting_here"]) fun _ _ _ _ _ _ us hl => match us, hl with | [_, _], _ => rfl⟩
  · exact ⟨_, _, fun_mk (st := topS 37) l29 c29 k29, PySem.W.mg_of X G a29, (fun_mk (st := topS 37) l29 c29 k29).binds (ps := ["_law_pairs", "_law_setting_here"]) fun _ _ _ _ _ _ us hl => match us, hl with | [_, _], _ => rfl⟩
  · exact ⟨_, _, fun_mk (st := topS 38) l30 c30 k30, PySem.W.mg_of X G a30, (fun_mk (st := topS 38) l30 c30 k30).binds (ps := ["_law_size_here"]) fun _ _ _ _ _ _ us hl => match us, hl with | [_], _ => rfl⟩
  · exact ⟨_, _, fun_mk (st := topS 39) l31 c31 k31, PySem.W.mg_of X G a31, (fun_mk (st := topS 39) l31 c31 k31).binds (ps := ["_law_one", "_law_other"]) fun _ _ _ _ _ _ us hl => match us, hl with | [_, _], _ => rfl⟩
  · exact ⟨_, _, fun_mk (st := topS 40) l32 c32 k32, PySem.W.mg_of X G a32, (fun_mk (st := topS 40) l32 c32 k32).binds (ps := ["_law_size_here", "_law_seen_here"]) fun _ _ _ _ _ _ us hl => match us, hl with | [_, _], _ => rfl⟩
  · exact ⟨_, _, fun_mk (st := topS 41) l33 c33 k33, PySem.W.mg_of X G a33, (fun_mk (st := topS 41) l33 c33 k33).binds (ps := ["_law_size_here", "_law_seen_here"]) fun _ _ _ _ _ _ us hl => match us, hl with | [_, _], _ => rfl⟩
  · exact ⟨_, _, fun_mk (st := topS 42) l34 c34 k34, PySem.W.mg_of X G a34, (fun_mk (st := topS 42) l34 c34 k34).binds (ps := ["_law_script"]) fun _ _ _ _ _ _ us hl => match us, hl with | [_], _ => rfl⟩
  · exact PySem.W.mg_none_of X G z_all
  · exact PySem.W.mg_none_of X G z_bool
  · exact PySem.W.mg_none_of X G z_int
  · exact PySem.W.mg_none_of X G z_isinstance
  · exact PySem.W.mg_none_of X G z_len
  · exact PySem.W.mg_none_of X G z_list
  · exact PySem.W.mg_none_of X G z_max
  · exact PySem.W.mg_none_of X G z_min
  · exact PySem.W.mg_none_of X G z_range
  · exact PySem.W.mg_none_of X G z_str
  · exact PySem.W.mg_none_of X G z_tuple
  · exact ⟨_, PySem.W.mg_of X G g_MOST_OPTIONS⟩
  · exact ⟨_, _, lamT_of B (by decide) (PySem.W.mg_of X G a13) a13 l13 m13 u13 w13 x13⟩
end K31
open PySem PySem.W PyProof.Rows
set_option maxHeartbeats 0 in
theorem PySem.Challenge.cw_seensettings_k31_stems_holds : PySem.Challenge.rw_seensettings_k31_stems.Holds := by
  w_on; o_law; k_head; (case hw => w_witness2)
  k_fill
  refine Y.walk_ofT (l := PySem.Challenge.rw_seensettings_k31_stems) (n := 63) (k := 7) (x := "_law_script") (mf := K31.F_law) rfl (by decide) rfl ⟨rfl, by decide, by decide⟩ (fun w h Y => PySem.W.km_in_of Y) (fun w h Y => PySem.W.km_tabs_of Y) (fun w => by kernel_rfl) ?F K31.law_true
  case F =>
    intro w mg fa h KX G hmg base B
    refine K31.c_law ?T
    refine' K31.txt_mk KX G B ?a0 ?l0 ?c0 ?k0 ?a1 ?l1 ?c1 ?k1 ?a2 ?l2 ?c2 ?k2 ?a3 ?l3 ?c3 ?k3 ?a4 ?l4 ?c4 ?k4 ?a5 ?l5 ?c5 ?k5 ?a6 ?l6 ?c6 ?k6 ?a7 ?l7 ?c7 ?k7 ?a8 ?l8 ?c8 ?k8 ?a9 ?l9 ?c9 ?k9 ?a10 ?l10 ?c10 ?k10 ?a11 ?l11 ?c11 ?k11 ?a12 ?l12 ?c12 ?k12 ?a13 ?l13 ?c13 ?k13 ?a14 ?l14 ?c14 ?k14 ?a15 ?l15 ?c15 ?k15 ?a16 ?l16 ?c16 ?k16 ?a17 ?l17 ?c17 ?k17 ?a18 ?l18 ?c18 ?k18 ?a19 ?l19 ?c19 ?k19 ?a20 ?l20 ?c20 ?k20 ?a21 ?l21 ?c21 ?k21 ?a22 ?l22 ?c22 ?k22 ?a23 ?l23 ?c23 ?k23 ?a24 ?l24 ?c24 ?k24 ?a25 ?l25 ?c25 ?k25 ?a26 ?l26 ?c26 ?k26 ?a27 ?l27 ?c27 ?k27 ?a28 ?l28 ?c28 ?k28 ?a29 ?l29 ?c29 ?k29 ?a30 ?l30 ?c30 ?k30 ?a31 ?l31 ?c31 ?k31 ?a32 ?l32 ?c32 ?k32 ?a33 ?l33 ?c33 ?k33 ?a34 ?l34 ?c34 ?k34 ?z_all ?z_bool ?z_int ?z_isinstance ?z_len ?z_list ?z_max ?z_min ?z_range ?z_str ?z_tuple ?g_MOST_OPTIONS ?m13 ?u13 ?w13 ?x13
    (case a0 => k_is)
    (case l0 => k_is)
    (case c0 => k_is)
    (case k0 => k_is)
    (case a1 => k_is)
    (case l1 => k_is)
    (case c1 => k_is)
    (case k1 => k_is)
    (case a2 => k_is)
    (case l2 => k_is)
    (case c2 => k_is)
    (case k2 => k_is)
    (case a3 => k_is)
    (case l3 => k_is)
    (case c3 => k_is)
    (case k3 => k_is)
    (case a4 => k_is)
    (case l4 => k_is)
    (case c4 => k_is)
    (case k4 => k_is)
    (case a5 => k_is)
    (case l5 => k_is)
    (case c5 => k_is)
    (case k5 => k_is)
    (case a6 => k_is)
    (case l6 => k_is)
    (case c6 => k_is)
    (case k6 => k_is)
    (case a7 => k_is)
    (case l7 => k_is)
    (case c7 => k_is)
    (case k7 => k_is)
    (case a8 => k_is)
    (case l8 => k_is)
    (case c8 => k_is)
    (case k8 => k_is)
    (case a9 => k_is)
    (case l9 => k_is)
    (case c9 => k_is)
    (case k9 => k_is)
    (case a10 => k_is)
    (case l10 => k_is)
    (case c10 => k_is)
    (case k10 => k_is)
    (case a11 => k_is)
    (case l11 => k_is)
    (case c11 => k_is)
    (case k11 => k_is)
    (case a12 => k_is)
    (case l12 => k_is)
    (case c12 => k_is)
    (case k12 => k_is)
    (case a13 => k_is)
    (case l13 => k_is)
    (case c13 => k_is)
    (case k13 => k_is)
    (case a14 => k_is)
    (case l14 => k_is)
    (case c14 => k_is)
    (case k14 => k_is)
    (case a15 => k_is)
    (case l15 => k_is)
    (case c15 => k_is)
    (case k15 => k_is)
    (case a16 => k_is)
    (case l16 => k_is)
    (case c16 => k_is)
    (case k16 => k_is)
    (case a17 => k_is)
    (case l17 => k_is)
    (case c17 => k_is)
    (case k17 => k_is)
    (case a18 => k_is)
    (case l18 => k_is)
    (case c18 => k_is)
    (case k18 => k_is)
    (case a19 => k_is)
    (case l19 => k_is)
    (case c19 => k_is)
    (case k19 => k_is)
    (case a20 => k_is)
    (case l20 => k_is)
    (case c20 => k_is)
    (case k20 => k_is)
    (case a21 => k_is)
    (case l21 => k_is)
    (case c21 => k_is)
    (case k21 => k_is)
    (case a22 => k_is)
    (case l22 => k_is)
    (case c22 => k_is)
    (case k22 => k_is)
    (case a23 => k_is)
    (case l23 => k_is)
    (case c23 => k_is)
    (case k23 => k_is)
    (case a24 => k_is)
    (case l24 => k_is)
    (case c24 => k_is)
    (case k24 => k_is)
    (case a25 => k_is)
    (case l25 => k_is)
    (case c25 => k_is)
    (case k25 => k_is)
    (case a26 => k_is)
    (case l26 => k_is)
    (case c26 => k_is)
    (case k26 => k_is)
    (case a27 => k_is)
    (case l27 => k_is)
    (case c27 => k_is)
    (case k27 => k_is)
    (case a28 => k_is)
    (case l28 => k_is)
    (case c28 => k_is)
    (case k28 => k_is)
    (case a29 => k_is)
    (case l29 => k_is)
    (case c29 => k_is)
    (case k29 => k_is)
    (case a30 => k_is)
    (case l30 => k_is)
    (case c30 => k_is)
    (case k30 => k_is)
    (case a31 => k_is)
    (case l31 => k_is)
    (case c31 => k_is)
    (case k31 => k_is)
    (case a32 => k_is)
    (case l32 => k_is)
    (case c32 => k_is)
    (case k32 => k_is)
    (case a33 => k_is)
    (case l33 => k_is)
    (case c33 => k_is)
    (case k33 => k_is)
    (case a34 => k_is)
    (case l34 => k_is)
    (case c34 => k_is)
    (case k34 => k_is)
    (case z_all => k_is)
    (case z_bool => k_is)
    (case z_int => k_is)
    (case z_isinstance => k_is)
    (case z_len => k_is)
    (case z_list => k_is)
    (case z_max => k_is)
    (case z_min => k_is)
    (case z_range => k_is)
    (case z_str => k_is)
    (case z_tuple => k_is)
    (case g_MOST_OPTIONS => k_is)
    (case m13 => rfl)
    (case u13 => k_is)
    (case w13 => rfl)
    (case x13 => kernel_rfl)
