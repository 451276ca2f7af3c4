import PyProof.Rows.All
import PySem.Challenge.RW_seensettings_k61_pairs_written
import HandS.ForMost
import HandS.ForExc
import HandS.Zip
import KE.GoesEnum
import KE.GoesNew
import HandS.TupAny
import HandS.IsInst
import HandS.Wide
import HandS.Deep
import HandS.RaiseMore
import HandS.Style
import PyProof.ListStr
import PyProof.TupleOfStr
import HandS.Star
import HandS.Conv
import PyProof.StrOps2
import HandS.StrMore
import HandS.SetFor
import HandS.Ends
import HandS.More
import HandS.ExcIs
import HandS.ExcField
import HandS.ExcValue
import HandS.Iter
import KE.DataFind
import HandS.FStr
import HandS.CallLocal
import HandS.ExcInit
import HandS.DictComp
import HandS.TupLen
import KE.KDictDisplayH
import HandS.SetKeys
import HandS.Flow
import HandS.TupMul
import PyProof.ReprLen
import HandS.Text
set_option Elab.async false
set_option linter.all false
set_option maxRecDepth 100000
namespace Y
open PySem PySem.Spec L2

/-! ### values of the mirror -/
structure Ex where
  c : Str
  line : Option Int
inductive W where
  | d (x : PyData) | loc (n : Nat) | tup (ws : List W) | scr (ns : List Int) | exc (e : Ex) | kd (kvs : List (L2.Key × PyData)) | clo (id : Nat) (ws : List W) | fn (x : Str)
inductive MO where
  | dead | lst (ds : List PyData) | lsw (ws : List W) | obj (c : Str) (fs : List (Str × W)) | dct (kvs : List (L2.Key × PyData)) | dctT (kvs : List (List L2.Key × PyData))
inductive Res (α : Type) where
  | ok (a : α) (M : List MO) | err (e : Ex) (M : List MO) | stuck
abbrev Rho := List (Option W)
abbrev EF := Rho → List MO → Res W
def Res.bind {α β : Type} : Res α → (α → List MO → Res β) → Res β
  | .ok a M, k => k a M
  | .err e M, _ => .err e M
  | .stuck, _ => .stuck

/-! ### ghosts -/
structure Gh where
  ph : List Addr
  F : Hp
structure Tx where
  K : PySem.W.Frag
  mg : Str → Option Value
abbrev tx (X : Cx) : Tx := ⟨X.K, X.mg⟩

/-- a tuple that is tracked -/
def TqT (_ : PySem.W.Frag) (F : Hp) (a : Addr) (xs : List V) : Prop := F a = some (.tup xs)
mutual
/-- v stands for the datum: lists are tracked -/
inductive Dq (K : PySem.W.Frag) (F : Hp) : V → PyData → Prop
  | non : Dq K F .non .none
  | bl (b : Bool) : Dq K F (.bl b) (.bool b)
  | int (i : Int) : Dq K F (.int i) (.int i)
  | str (x : Str) : Dq K F (.str x) (.str x)
  | lst {a : Addr} {xs : List V} {ds : List PyData} : F a = some (.lst xs) → DqAll K F xs ds → Dq K F (.ref a) (.list ds)
  | tup {a : Addr} {xs : List V} {ds : List PyData} : TqT K F a xs → DqAll K F xs ds → Dq K F (.ref a) (.tuple ds)
inductive DqAll (K : PySem.W.Frag) (F : Hp) : List V → List PyData → Prop
  | nil : DqAll K F [] []
  | cons {v : V} {vs : List V} {d : PyData} {ds : List PyData} : Dq K F v d → DqAll K F vs ds → DqAll K F (v :: vs) (d :: ds)
end
/-- an exception that was caught, at a -/
def ExH (cls : Value) (d : Option Addr) (a : Addr) : HO := .ext fun h => ∃ (oe : Obj) (vs : Array Value), h.get? a = some oe ∧ Zc cls d oe ∧ oe.data = .fields vs
/-- its line stands in its own dict -/
def Ln (F : Hp) (e : Ex) (d : Option Addr) : Prop := match e.line with
  | none => d = none
  | some i => ∃ dx, d = some dx ∧ F dx = some (.xd [(("line" : Str), .int i)])
mutual
inductive RW (K : PySem.W.Frag) (g : Gh) : V → W → Prop
  | d {v : V} {x : PyData} : Dq K g.F v x → RW K g v (.d x)
  | scr {a : Addr} {ns : List Int} : SqL K g.F a (ns.map V.int) → RW K g (.ref a) (.scr ns)
  | loc {a : Addr} {n : Nat} : g.ph[n]? = some a → RW K g (.ref a) (.loc n)
  | exc {a C : Addr} {d : Option Addr} {e : Ex} : PySem.W.nsIn K mainGlobals e.c = some (some (.ref C)) → g.F a = some (ExH (.ref C) d a) → Ln g.F e d → RW K g (.ref a) (.exc e)
  | kd {a : Addr} {vs : List (L2.Key × V)} {kvs : List (L2.Key × PyData)} : g.F a = some (.dK vs) → vs.map (·.1) = kvs.map (·.1) → DqAll K g.F (vs.map (·.2)) (kvs.map (·.2)) → RW K g (.ref a) (.kd kvs)
  | tup {a : Addr} {xs : List V} {ws : List W} : TqT K g.F a xs → RWs K g xs ws → RW K g (.ref a) (.tup ws)
  | fn {f : Addr} {x : Str} : PySem.W.nsIn K mainGlobals x = some (some (.ref f)) → RW K g (.ref f) (.fn x)
inductive RWs (K : PySem.W.Frag) (g : Gh) : List V → List W → Prop
  | nil : RWs K g [] []
  | cons {v : V} {vs : List V} {w : W} {ws : List W} : RW K g v w → RWs K g vs ws → RWs K g (v :: vs) (w :: ws)
end

def Sub (F H : Hp) : Prop := ∀ a o, F a = some o → H a = some o
theorem Ln.sub {F H : Hp} (s : Sub F H) {e : Ex} {d : Option Addr} (h : Ln F e d) : Ln H e d := by
  unfold Ln at *
  split at h
  · exact h
  · obtain ⟨dx, e1, e2⟩ := h
    exact ⟨dx, e1, s _ _ e2⟩
theorem Sub.refl (F : Hp) : Sub F F := fun _ _ h => h
theorem Sub.trans {F G H : Hp} (a : Sub F G) (b : Sub G H) : Sub F H := fun x o h => b x o (a x o h)
theorem Sub.upd {F : Hp} {p : Addr} {o : HO} (h : F p = none) : Sub F (upd F p o) := fun a u e => by
  rw [upd_ne (ne_of_none e h)]; exact e
theorem Sub.upd2 {F H : Hp} {p : Addr} {o : HO} (s : Sub F H) : Sub (L2.upd F p o) (L2.upd H p o) := fun a u e => by
  by_cases h : a = p
  · subst h; rw [upd_same] at e ⊢; exact e
  · rw [upd_ne h] at e ⊢; exact s _ _ e
theorem Sub.none {F H : Hp} (s : Sub F H) {p : Addr} (h : H p = none) : F p = none := by
  cases e : F p with
  | none => rfl
  | some o => rw [s p o e] at h; cases h
theorem SqL.sub {K : PySem.W.Frag} {F H : Hp} {a : Addr} {xs : List V} (s : Sub F H) (h : SqL K F a xs) : SqL K H a xs := by
  rcases h with (h | ⟨o, h⟩) | h
  · exact .inl (.inl (s _ _ h))
  · exact .inl (.inr ⟨o, s _ _ h⟩)
  · exact .inr h
theorem SqT.sub {K : PySem.W.Frag} {F H : Hp} {a : Addr} {xs : List V} (s : Sub F H) (h : SqT K F a xs) : SqT K H a xs := by
  rcases h with (h | ⟨o, h⟩) | h
  · exact .inl (.inl (s _ _ h))
  · exact .inl (.inr ⟨o, s _ _ h⟩)
  · exact .inr h
theorem TqT.sub {K : PySem.W.Frag} {F H : Hp} {a : Addr} {xs : List V} (s : Sub F H) (h : TqT K F a xs) : TqT K H a xs := s _ _ h
theorem TqT.t {K : PySem.W.Frag} {H : Hp} {a : Addr} {xs : List V} (h : TqT K H a xs) : SqT K H a xs := .inl (.inl h)
theorem TqT.up {K : PySem.W.Frag} {F H : Hp} {a : Addr} {xs : List V} (s : Sub F H) (h : TqT K F a xs) : SqT K H a xs := (h.sub s).t
theorem TqT.of {K : PySem.W.Frag} {H : Hp} {a : Addr} {xs : List V} (h : H a = some (.tup xs)) : TqT K H a xs := h
mutual
theorem Dq.sub {K : PySem.W.Frag} {F H : Hp} (s : Sub F H) : ∀ {v : V} {x : PyData}, Dq K F v x → Dq K H v x
  | _, _, .non => .non
  | _, _, .bl b => .bl b
  | _, _, .int b => .int b
  | _, _, .str b => .str b
  | _, _, .lst h t => .lst (s _ _ h) (DqAll.sub s t)
  | _, _, .tup h t => .tup (TqT.sub s h) (DqAll.sub s t)
theorem DqAll.sub {K : PySem.W.Frag} {F H : Hp} (s : Sub F H) : ∀ {v : List V} {x : List PyData}, DqAll K F v x → DqAll K H v x
  | _, _, .nil => .nil
  | _, _, .cons h t => .cons (Dq.sub s h) (DqAll.sub s t)
end
mutual
theorem Dq.dp {K : PySem.W.Frag} {F : Hp} : ∀ {v : V} {x : PyData}, Dq K F v x → Dp K F v x
  | _, _, .non => .non
  | _, _, .bl b => .bl b
  | _, _, .int b => .int b
  | _, _, .str b => .str b
  | _, _, .lst h t => .lst (.of h) (DqAll.dp t)
  | _, _, .tup h t => .tup h.t (DqAll.dp t)
theorem DqAll.dp {K : PySem.W.Frag} {F : Hp} : ∀ {v : List V} {x : List PyData}, DqAll K F v x → DpAll K F v x
  | _, _, .nil => .nil
  | _, _, .cons h t => .cons (Dq.dp h) (DqAll.dp t)
end
theorem DqAll.length {K : PySem.W.Frag} {F : Hp} : ∀ {v : List V} {x : List PyData}, DqAll K F v x → v.length = x.length
  | _, _, .nil => rfl
  | _, _, .cons _ t => by rw [List.length_cons, List.length_cons, DqAll.length t]
theorem DqAll.get {K : PySem.W.Frag} {F : Hp} : ∀ {v : List V} {x : List PyData} {i : Nat} {d : PyData}, DqAll K F v x → x[i]? = some d → ∃ u, v[i]? = some u ∧ Dq K F u d
  | _, _, _, _, .nil, e => by simp at e
  | _, _, 0, _, .cons h _, e => by simp at e; subst e; exact ⟨_, rfl, h⟩
  | _, _, i + 1, _, .cons _ t, e => by
    obtain ⟨u, e1, e2⟩ := DqAll.get (i := i) t (by simpa using e)
    exact ⟨u, by simpa using e1, e2⟩
theorem DqAll.append {K : PySem.W.Frag} {F : Hp} : ∀ {v v' : List V} {x x' : List PyData}, DqAll K F v x → DqAll K F v' x' → DqAll K F (v ++ v') (x ++ x')
  | _, _, _, _, .nil, h => h
  | _, _, _, _, .cons h t, h' => .cons h (DqAll.append t h')
theorem DqAll.take {K : PySem.W.Frag} {F : Hp} : ∀ {v : List V} {x : List PyData} (n : Nat), DqAll K F v x → DqAll K F (v.take n) (x.take n)
  | _, _, 0, _ => .nil
  | _, _, _ + 1, .nil => .nil
  | _, _, n + 1, .cons h t => .cons h (DqAll.take n t)
theorem DqAll.drop {K : PySem.W.Frag} {F : Hp} : ∀ {v : List V} {x : List PyData} (n : Nat), DqAll K F v x → DqAll K F (v.drop n) (x.drop n)
  | _, _, 0, h => h
  | _, _, _ + 1, .nil => .nil
  | _, _, n + 1, .cons _ t => DqAll.drop n t
theorem DqAll.set {K : PySem.W.Frag} {F : Hp} {u : V} {d : PyData} (h : Dq K F u d) : ∀ {v : List V} {x : List PyData} (n : Nat), DqAll K F v x → DqAll K F (v.set n u) (x.set n d)
  | _, _, _, .nil => .nil
  | _, _, 0, .cons _ t => .cons h t
  | _, _, n + 1, .cons q t => .cons q (DqAll.set h n t)
theorem RWs.length {K : PySem.W.Frag} {g : Gh} : ∀ {v : List V} {x : List W}, RWs K g v x → v.length = x.length
  | _, _, .nil => rfl
  | _, _, .cons _ t => by rw [List.length_cons, List.length_cons, RWs.length t]
theorem RWs.get {K : PySem.W.Frag} {g : Gh} : ∀ {v : List V} {x : List W} {i : Nat} {d : W}, RWs K g v x → x[i]? = some d → ∃ u, v[i]? = some u ∧ RW K g u d
  | _, _, _, _, .nil, e => by simp at e
  | _, _, 0, _, .cons h _, e => by simp at e; subst e; exact ⟨_, rfl, h⟩
  | _, _, i + 1, _, .cons _ t, e => by
    obtain ⟨u, e1, e2⟩ := RWs.get (i := i) t (by simpa using e)
    exact ⟨u, by simpa using e1, e2⟩

/-- ghosts grow -/
structure Gr (g g' : Gh) : Prop where
  ph : ∀ (n : Nat) (a : Addr), g.ph[n]? = some a → g'.ph[n]? = some a
  F : Sub g.F g'.F
theorem Gr.refl (g : Gh) : Gr g g := ⟨fun _ _ h => h, Sub.refl _⟩
theorem Gr.trans {a b c : Gh} (h : Gr a b) (k : Gr b c) : Gr a c := ⟨fun n x e => k.ph n x (h.ph n x e), h.F.trans k.F⟩
mutual
theorem RW.gr {K : PySem.W.Frag} {g g' : Gh} (s : Gr g g') : ∀ {v : V} {x : W}, RW K g v x → RW K g' v x
  | _, _, .d h => .d (Dq.sub s.F h)
  | _, _, .scr h => .scr (SqL.sub s.F h)
  | _, _, .loc e => .loc (s.ph _ _ e)
  | _, _, .exc h1 h2 h3 => .exc h1 (s.F _ _ h2) (Ln.sub s.F h3)
  | _, _, .kd h1 h2 h3 => .kd (s.F _ _ h1) h2 (DqAll.sub s.F h3)
  | _, _, .tup h t => .tup (TqT.sub s.F h) (RWs.gr s t)
  | _, _, .fn h => .fn h
theorem RWs.gr {K : PySem.W.Frag} {g g' : Gh} (s : Gr g g') : ∀ {v : List V} {x : List W}, RWs K g v x → RWs K g' v x
  | _, _, .nil => .nil
  | _, _, .cons h t => .cons (RW.gr s h) (RWs.gr s t)
end

def MOk (K : PySem.W.Frag) (g : Gh) (H : Hp) (a : Addr) : MO → Prop
  | .dead => True
  | .lst ds => ∃ xs, H a = some (.lst xs) ∧ DqAll K g.F xs ds
  | .lsw ws => ∃ xs, H a = some (.lst xs) ∧ RWs K g xs ws
  | .obj c fs => ∃ (vs : List (Str × V)), (∃ (C dx : Addr), PySem.W.nsIn K mainGlobals c = some (some (.ref C)) ∧ H a = some (.ins C dx vs)) ∧ vs.map (·.1) = fs.map (·.1) ∧ RWs K g (vs.map (·.2)) (fs.map (·.2))
  | .dct kvs => ∃ vs, H a = some (.dK vs) ∧ vs.map (·.1) = kvs.map (·.1) ∧ DqAll K g.F (vs.map (·.2)) (kvs.map (·.2))
  | .dctT kvs => ∃ vs, H a = some (.dT vs) ∧ vs.map (·.1) = kvs.map (·.1) ∧ DqAll K g.F (vs.map (·.2)) (kvs.map (·.2))
def MO.live : MO → Bool
  | .dead => false
  | _ => true
theorem MOk.gr {K : PySem.W.Frag} {g g' : Gh} (s : Gr g g') {H H' : Hp} {a : Addr} (h : ∀ o, H a = some o → H' a = some o) : ∀ {o : MO}, MOk K g H a o → MOk K g' H' a o
  | .dead, _ => trivial
  | .lst _, ⟨xs, e, r⟩ => ⟨xs, h _ e, DqAll.sub s.F r⟩
  | .lsw _, ⟨xs, e, r⟩ => ⟨xs, h _ e, RWs.gr s r⟩
  | .obj _ _, ⟨vs, ⟨C, dx, n, e⟩, q, r⟩ => ⟨vs, ⟨C, dx, n, h _ e⟩, q, RWs.gr s r⟩
  | .dct _, ⟨vs, e, q, r⟩ => ⟨vs, h _ e, q, DqAll.sub s.F r⟩
  | .dctT _, ⟨vs, e, q, r⟩ => ⟨vs, h _ e, q, DqAll.sub s.F r⟩
theorem MOk.there {K : PySem.W.Frag} {g : Gh} {H : Hp} {a : Addr} : ∀ {o : MO}, MOk K g H a o → o.live = true → ∃ u, H a = some u
  | .dead, _, l => by cases l
  | .lst _, ⟨_, q, _⟩, _ => ⟨_, q⟩
  | .lsw _, ⟨_, q, _⟩, _ => ⟨_, q⟩
  | .obj _ _, ⟨_, ⟨_, _, _, q⟩, _⟩, _ => ⟨_, q⟩
  | .dct _, ⟨_, q, _⟩, _ => ⟨_, q⟩
  | .dctT _, ⟨_, q, _⟩, _ => ⟨_, q⟩

/-- the mirror's store stands in the heap -/
structure Rel (K : PySem.W.Frag) (g : Gh) (M : List MO) (H : Hp) : Prop where
  sub : Sub g.F H
  len : g.ph.length = M.length
  at_ : ∀ (n : Nat) (o : MO), M[n]? = some o → o.live = true → ∃ a, g.ph[n]? = some a ∧ g.F a = none ∧ MOk K g H a o
  inj : ∀ (n m : Nat) (a : Addr), g.ph[n]? = some a → g.ph[m]? = some a → n = m
  tr : ∀ a ∈ g.ph, ∃ o, H a = some o
/-- one step of the world -/
structure Ext (g : Gh) (H : Hp) (g' : Gh) (H' : Hp) : Prop where
  gr : Gr g g'
  keep : ∀ a o, H a = some o → a ∉ g.ph → H' a = some o
  new : ∀ a, g.F a = none → g'.F a ≠ none → H a = none ∨ a ∈ g.ph
  newph : ∀ a ∈ g'.ph, a ∈ g.ph ∨ H a = none
theorem Ext.refl (g : Gh) (H : Hp) : Ext g H g H := ⟨Gr.refl g, fun _ _ h _ => h, fun a h h' => absurd h h', fun a h => .inl h⟩
theorem Ext.trans {g g' g'' : Gh} {H H' H'' : Hp} (a : Ext g H g' H') (b : Ext g' H' g'' H'') : Ext g H g'' H'' := by
  refine ⟨a.gr.trans b.gr, fun x o e n => b.keep x o (a.keep x o e n) fun hm => ?_, fun x e e' => ?_, fun x hm => ?_⟩
  · rcases a.newph x hm with z | z
    · exact n z
    · rw [z] at e; cases e
  · by_cases h : g'.F x = none
    · rcases b.new x h e' with z | z
      · cases q : H x with
        | none => exact .inl rfl
        | some o =>
          by_cases hm : x ∈ g.ph
          · exact .inr hm
          · rw [a.keep x o q hm] at z; cases z
      · rcases a.newph x z with y | y
        · exact .inr y
        · exact .inl y
    · exact a.new x e h
  · rcases b.newph x hm with z | z
    · exact a.newph x z
    · cases q : H x with
      | none => exact .inr rfl
      | some o =>
        by_cases hm' : x ∈ g.ph
        · exact .inl hm'
        · rw [a.keep x o q hm'] at z; cases z
/-- something new is laid and frozen -/
theorem Rel.lay {K : PySem.W.Frag} {g : Gh} {M : List MO} {H : Hp} {p : Addr} {o : HO} (r : Rel K g M H) (h : H p = none) : Rel K ⟨g.ph, upd g.F p o⟩ M (upd H p o) := by
  have hF : g.F p = none := r.sub.none h
  refine ⟨Sub.upd2 r.sub, r.len, fun n u e l => ?_, r.inj, fun a hm => let ⟨u, q⟩ := r.tr a hm; ⟨u, by rw [upd_ne (ne_of_none q h)]; exact q⟩⟩
  obtain ⟨a, e1, e2, e3⟩ := r.at_ n u e l
  have ne : a ≠ p := by
    rintro rfl
    obtain ⟨z, q⟩ := e3.there l
    rw [h] at q
    cases q
  refine ⟨a, e1, ?_, MOk.gr (g := g) (g' := ⟨g.ph, upd g.F p o⟩) ⟨fun _ _ z => z, Sub.upd hF⟩ (fun o' q => ?_) e3⟩
  · show upd g.F p o a = none
    rw [upd_ne ne]; exact e2
  · rw [upd_ne ne]; exact q
theorem Ext.lay {g : Gh} {H : Hp} {p : Addr} {o : HO} (s : Sub g.F H) (h : H p = none) : Ext g H ⟨g.ph, upd g.F p o⟩ (upd H p o) :=
  ⟨⟨fun _ _ z => z, Sub.upd (s.none h)⟩, fun a u e _ => by rw [upd_ne (ne_of_none e h)]; exact e, fun a e e' => by
    by_cases q : a = p
    · subst q; exact .inl h
    · exact absurd (by show upd g.F p o a = none; rw [upd_ne q]; exact e) e', fun a hm => .inl hm⟩

/-- the slots -/
structure RS (K : PySem.W.Frag) (g : Gh) (σ : St) (ρ : Rho) : Prop where
  len : σ.length = ρ.length
  at_ : ∀ (i : Nat) (w : W), ρ[i]? = some (some w) → ∃ v, σ[i]? = some (some v) ∧ RW K g v w
theorem RS.gr {K : PySem.W.Frag} {g g' : Gh} {σ : St} {ρ : Rho} (s : Gr g g') (r : RS K g σ ρ) : RS K g' σ ρ :=
  ⟨r.len, fun i w e => let ⟨v, a, b⟩ := r.at_ i w e; ⟨v, a, RW.gr s b⟩⟩
theorem RS.set {K : PySem.W.Frag} {g : Gh} {σ : St} {ρ : Rho} {v : V} {w : W} (r : RS K g σ ρ) (i : Nat) (h : RW K g v w) : RS K g (σ.set i (some v)) (ρ.set i (some w)) := by
  refine ⟨by simpa using r.len, fun j u e => ?_⟩
  by_cases hj : i = j
  · subst hj
    by_cases hl : i < ρ.length
    · rw [List.getElem?_set_self hl] at e
      cases e
      exact ⟨v, by rw [List.getElem?_set_self (by rw [r.len]; exact hl)], h⟩
    · rw [List.getElem?_eq_none (by simpa using hl)] at e; cases e
  · rw [List.getElem?_set_ne hj] at e ⊢
    exact r.at_ j u e
theorem RS.unset {K : PySem.W.Frag} {g : Gh} {σ : St} {ρ : Rho} (r : RS K g σ ρ) (i : Nat) : RS K g (σ.set i none) (ρ.set i none) := by
  refine ⟨by simpa using r.len, fun j u e => ?_⟩
  by_cases hj : i = j
  · subst hj
    by_cases hl : i < ρ.length
    · rw [List.getElem?_set_self hl] at e; cases e
    · rw [List.getElem?_eq_none (by simpa using hl)] at e; cases e
  · rw [List.getElem?_set_ne hj] at e ⊢
    exact r.at_ j u e

/-- an exception: its class by name, its line -/
structure IsEx (T : Tx) (e : Ex) (cls : Value) (d : Option Addr) (F : Hp) : Prop where
  cl : ∃ C, cls = .ref C ∧ PySem.W.nsIn T.K mainGlobals e.c = some (some (.ref C))
  ln : Ln F e d
theorem IsEx.sub {T : Tx} {F H : Hp} (s : Sub F H) {e : Ex} {cls : Value} {d : Option Addr} (h : IsEx T e cls d F) : IsEx T e cls d H := ⟨h.cl, h.ln.sub s⟩

/-! ### what is wanted behind an evaluation -/
def Bhd {α β : Type} (T : Tx) (xw : Value → Option Addr → Hp → Prop) (Rl : Gh → β → α → Prop) (Q : β → Hp → Prop) (r : Res α) (g : Gh) (H : Hp) : Prop :=
  match r with
  | .ok w M' => ∀ v g' H', Rel T.K g' M' H' → Ext g H g' H' → Rl g' v w → Q v H'
  | .err e M' => ∀ cls d g' H', Rel T.K g' M' H' → Ext g H g' H' → IsEx T e cls d g'.F → xw cls d H'
  | .stuck => False
section
variable {α β γ δ : Type} {T : Tx} {Rl : Gh → β → α → Prop} {R2 : Gh → δ → γ → Prop} {Q Q' : β → Hp → Prop} {r : Res α} {g g1 : Gh} {H H1 : Hp}
theorem Bhd.later {xw : Value → Option Addr → Hp → Prop} (f : Bhd T xw Rl Q r g H) (e : Ext g H g1 H1) : Bhd T xw Rl Q r g1 H1 := by
  cases r with
  | ok w M' => exact fun v g' H' r' e' => f v g' H' r' (e.trans e')
  | err x M' => exact fun c d g' H' r' e' => f c d g' H' r' (e.trans e')
  | stuck => exact f
theorem Bhd.mono {xw xw' : Value → Option Addr → Hp → Prop} (f : Bhd T xw Rl Q r g H) (h : ∀ v H', Q v H' → Q' v H') (hx : ∀ c d H', xw c d H' → xw' c d H') : Bhd T xw' Rl Q' r g H := by
  cases r with
  | ok w M' => exact fun v g' H' r' e' q => h _ _ (f v g' H' r' e' q)
  | err x M' => exact fun c d g' H' r' e' q => hx _ _ _ (f c d g' H' r' e' q)
  | stuck => exact f
/-- the reading of a mirrored evaluation -/
def tG (T : Tx) (xw : WX) (Rl : Gh → β → α → Prop) (f : Rho → List MO → Res α) (σ : L2.St) (H : Hp) (Q : β → Hp → Prop) : Prop :=
  ∃ (g : Gh) (ρ : Rho) (M : List MO), Rel T.K g M H ∧ RS T.K g σ ρ ∧ Bhd T (fun c d H => xw c d σ H) Rl Q (f ρ M) g H
theorem tG_mono {xw : WX} {f : Rho → List MO → Res α} {σ : L2.St} (h : tG T xw Rl f σ H Q) (k : ∀ v H', Q v H' → Q' v H') : tG T xw Rl f σ H Q' :=
  let ⟨g, ρ, M, r, s, f'⟩ := h
  ⟨g, ρ, M, r, s, Bhd.mono f' k fun _ _ _ z => z⟩
theorem tG_bind {xw : WX} {f : Rho → List MO → Res γ} {k : Rho → γ → List MO → Res α} {σ : L2.St} (h : tG T xw Rl (fun ρ M => (f ρ M).bind (k ρ)) σ H Q) :
    tG T xw R2 f σ H fun v H1 => ∃ g ρ M w, Rel T.K g M H1 ∧ RS T.K g σ ρ ∧ R2 g v w ∧ Bhd T (fun c d H => xw c d σ H) Rl Q (k ρ w M) g H1 := by
  obtain ⟨g, ρ, M, r, s, f'⟩ := h
  refine ⟨g, ρ, M, r, s, ?_⟩
  have f'' : Bhd T (fun c d H => xw c d σ H) Rl Q ((f ρ M).bind (k ρ)) g H := f'
  cases e : f ρ M with
  | ok w M' =>
    rw [e] at f''
    exact fun v g' H' r' e' q => ⟨g', ρ, M', w, r', s.gr e'.gr, q, Bhd.later f'' e'⟩
  | err x M' =>
    rw [e] at f''
    exact f''
  | stuck =>
    rw [e] at f''
    exact f''
end
abbrev tE (T : Tx) (xw : WX) (f : EF) : TE := tG T xw (RW T.K) f
def evs : List EF → Rho → List MO → Res (List W)
  | [], _, M => .ok [] M
  | f :: fs, ρ, M => (f ρ M).bind fun w M1 => (evs fs ρ M1).bind fun ws M2 => .ok (w :: ws) M2
abbrev tA (T : Tx) (xw : WX) (fs : List EF) : TA := tG T xw (RWs T.K) (evs fs)
abbrev TF := Rho → List MO → Res Bool
abbrev tT (T : Tx) (xw : WX) (f : TF) : TT := tG T xw (fun _ (b c : Bool) => b = c) f

/-! ### the judgements -/
abbrev ME (X : Cx) (xw : WX) (e : Expr) (f : EF) : Prop := PE X e (tE (tx X) xw f)
abbrev MA (X : Cx) (xw : WX) (es : List Expr) (fs : List EF) : Prop := PA X es (tA (tx X) xw fs)
abbrev MT (X : Cx) (xw : WX) (e : Expr) (f : TF) : Prop := PT X e (tT (tx X) xw f)
theorem PE.imp {X : Cx} {e : Expr} {t t' : TE} (h : PE X e t) (k : ∀ σ H Q, t' σ H Q → t σ H Q) : PE X e t' := ⟨fun pins s σ H Q I q => h.run pins s σ H Q I (k σ H Q q)⟩
theorem PT.imp {X : Cx} {e : Expr} {t t' : TT} (h : PT X e t) (k : ∀ σ H Q, t' σ H Q → t σ H Q) : PT X e t' := ⟨fun pins s σ H Q I q => h.run pins s σ H Q I (k σ H Q q)⟩
theorem PA.imp {X : Cx} {e : List Expr} {t t' : TA} (h : PA X e t) (k : ∀ σ H Q, t' σ H Q → t σ H Q) : PA X e t' := ⟨fun pos pins s σ H Q I q => h.run pos pins s σ H Q I (k σ H Q q)⟩
theorem PS.imp {X : Cx} {e : Stmt} {t t' : TS} (h : PS X e t) (k : ∀ D σ H, t' D σ H → t D σ H) : PS X e t' := ⟨fun pins s σ H D I q => h.run pins s σ H D I (k D σ H q)⟩
theorem PSs.imp {X : Cx} {e : List Stmt} {t t' : TS} (h : PSs X e t) (k : ∀ D σ H, t' D σ H → t D σ H) : PSs X e t' := ⟨fun pins s σ H D I q => h.run pins s σ H D I (k D σ H q)⟩

section
variable {X : Cx} {xw : WX}
theorem ma_nil : MA X xw [] [] := PA.imp pa_nil fun σ H Q ⟨g, ρ, M, r, s, f⟩ => f [] g H r (Ext.refl _ _) .nil
theorem ma_cons {e : Expr} {es : List Expr} {f : EF} {fs : List EF} (he : ME X xw e f) (ha : MA X xw es fs) (hs : starEach (e :: es) X.env = (false, eval e X.env) :: starEach es X.env := by rfl) : MA X xw (e :: es) (f :: fs) := by
  refine PA.imp (pa_cons he ha hs) fun σ H Q h => ?_
  refine tG_mono (tG_bind (R2 := RW X.K) h) fun v H1 ⟨g, ρ, M, w, r, s, q, b⟩ => ?_
  refine ⟨g, ρ, M, r, s, ?_⟩
  have b' : Bhd (tx X) (fun c d H => xw c d σ H) (RWs X.K) Q ((evs fs ρ M).bind fun ws M2 => .ok (w :: ws) M2) g H1 := b
  cases e : evs fs ρ M with
  | ok ws M2 =>
    rw [e] at b'
    exact fun vs g' H' r' e' q' => b' (v :: vs) g' H' r' e' (.cons (RW.gr e'.gr q) q')
  | err x M2 =>
    rw [e] at b'
    exact b'
  | stuck =>
    rw [e] at b'
    exact b'
end
end Y
namespace Y
open PySem PySem.Spec L2

/-! ### primitives -/
abbrev Pr := List W → List MO → Option (W × List MO)
def PrOk (K : PySem.W.Frag) (p : Pr) (r : List V → Hp → VK → Prop) : Prop :=
  ∀ (g : Gh) (M : List MO) (H : Hp) (vs : List V) (ws : List W) (w : W) (M' : List MO) (Q : VK), Rel K g M H → RWs K g vs ws → p ws M = some (w, M') →
    (∀ v g' H', Rel K g' M' H' → Ext g H g' H' → RW K g' v w → Q v H') → r vs H Q
def ans (o : Option (W × List MO)) : Res W := match o with
  | some (w, M') => .ok w M'
  | none => .stuck
def sPr (p : Pr) (fs : List EF) : EF := fun ρ M => (evs fs ρ M).bind fun ws M1 => ans (p ws M1)

theorem bhd_ans {T : Tx} {xw : Value → Option Addr → Hp → Prop} {p : Pr} {r : List V → Hp → VK → Prop} (hp : PrOk T.K p r) {g : Gh} {M : List MO} {H : Hp} {vs : List V} {ws : List W} {Q : VK}
    (R : Rel T.K g M H) (rw_ : RWs T.K g vs ws) (b : Bhd T xw (RW T.K) Q (ans (p ws M)) g H) : r vs H Q := by
  cases e : p ws M with
  | none => rw [e] at b; exact b.elim
  | some y =>
    obtain ⟨w, M'⟩ := y
    rw [e] at b
    exact hp g M H vs ws w M' Q R rw_ e b

/-- arguments, then a primitive -/
theorem prim_args {T : Tx} {xw : WX} {p : Pr} {r : List V → Hp → VK → Prop} (hp : PrOk T.K p r) {fs : List EF} {σ : L2.St} {H : Hp} {Q : VK} (h : tE T xw (sPr p fs) σ H Q) : tA T xw fs σ H fun vs H1 => r vs H1 Q :=
  tG_mono (tG_bind (R2 := RWs T.K) h) fun _ _ ⟨_, _, _, _, R, _, q, b⟩ => bhd_ans hp R q b
theorem prim2 {T : Tx} {xw : WX} {p : Pr} {r : List V → Hp → VK → Prop} (hp : PrOk T.K p r) {fa fb : EF} {σ : L2.St} {H : Hp} {Q : VK} (h : tE T xw (sPr p [fa, fb]) σ H Q) :
    tE T xw fa σ H fun x H1 => tE T xw fb σ H1 fun y H2 => r [x, y] H2 Q := by
  have h' : tE T xw (fun ρ M => (fa ρ M).bind fun w1 M1 => (fb ρ M1).bind fun w2 M2 => ans (p [w1, w2] M2)) σ H Q := by
    obtain ⟨g, ρ, M, R, S, b⟩ := h
    refine ⟨g, ρ, M, R, S, ?_⟩
    have b' : Bhd T (fun c d H => xw c d σ H) (RW T.K) Q ((evs [fa, fb] ρ M).bind fun ws M1 => ans (p ws M1)) g H := b
    show Bhd T (fun c d H => xw c d σ H) (RW T.K) Q ((fa ρ M).bind fun w1 M1 => (fb ρ M1).bind fun w2 M2 => ans (p [w1, w2] M2)) g H
    unfold evs evs evs at b'
    cases e1 : fa ρ M with
    | stuck => rw [e1] at b'; exact b'
    | err x M2 => rw [e1] at b'; exact b'
    | ok w1 M1 =>
      rw [e1] at b'
      show Bhd T (fun c d H => xw c d σ H) (RW T.K) Q ((fb ρ M1).bind fun w2 M2 => ans (p [w1, w2] M2)) g H
      cases e2 : fb ρ M1 with
      | stuck => simp only [Res.bind, e2] at b'; exact b'
      | err x M2 => simp only [Res.bind, e2] at b'; exact b'
      | ok w2 M2 => simp only [Res.bind, e2] at b'; exact b'
  refine tG_mono (tG_bind (R2 := RW T.K) h') fun v H1 ⟨g, ρ, M, w, R, S, q, b⟩ => ⟨g, ρ, M, R, S, ?_⟩
  cases e2 : fb ρ M with
  | stuck => rw [e2] at b; exact b
  | err x M2 => rw [e2] at b; exact b
  | ok w2 M2 =>
    rw [e2] at b
    exact fun y g' H' r' e' q' => bhd_ans hp r' (.cons (RW.gr e'.gr q) (.cons q' .nil)) (Bhd.later b e')
theorem prim1 {T : Tx} {xw : WX} {p : Pr} {r : List V → Hp → VK → Prop} (hp : PrOk T.K p r) {fa : EF} {σ : L2.St} {H : Hp} {Q : VK} (h : tE T xw (sPr p [fa]) σ H Q) :
    tE T xw fa σ H fun x H1 => r [x] H1 Q := by
  have h' : tE T xw (fun ρ M => (fa ρ M).bind fun w1 M1 => ans (p [w1] M1)) σ H Q := by
    obtain ⟨g, ρ, M, R, S, b⟩ := h
    refine ⟨g, ρ, M, R, S, ?_⟩
    have b' : Bhd T (fun c d H => xw c d σ H) (RW T.K) Q ((evs [fa] ρ M).bind fun ws M1 => ans (p ws M1)) g H := b
    show Bhd T (fun c d H => xw c d σ H) (RW T.K) Q ((fa ρ M).bind fun w1 M1 => ans (p [w1] M1)) g H
    unfold evs evs at b'
    cases e1 : fa ρ M with
    | stuck => rw [e1] at b'; exact b'
    | err x M2 => rw [e1] at b'; exact b'
    | ok w1 M1 => rw [e1] at b'; exact b'
  exact tG_mono (tG_bind (R2 := RW T.K) h') fun v H1 ⟨g, ρ, M, w, R, S, q, b⟩ => bhd_ans hp R (.cons q .nil) b

/-! ### primitives over data -/
def Dv (K : PySem.W.Frag) (F H : Hp) (v : V) (x : PyData) : Prop := Dq K F v x ∨ ∃ a xs ds, v = .ref a ∧ x = .list ds ∧ H a = some (.lst xs) ∧ DqAll K F xs ds
def vw (M : List MO) : W → Option PyData
  | .d x => some x
  | .loc n => match M[n]? with
    | some (.lst ds) => some (.list ds)
    | _ => none
  | _ => none
def vws (M : List MO) : List W → Option (List PyData)
  | [] => some []
  | w :: ws => match vw M w with
    | some x => match vws M ws with
      | some xs => some (x :: xs)
      | none => none
    | none => none
inductive DvAll (K : PySem.W.Frag) (F H : Hp) : List V → List PyData → Prop
  | nil : DvAll K F H [] []
  | cons {v : V} {vs : List V} {d : PyData} {ds : List PyData} : Dv K F H v d → DvAll K F H vs ds → DvAll K F H (v :: vs) (d :: ds)
theorem vw_ok {K : PySem.W.Frag} {g : Gh} {M : List MO} {H : Hp} (R : Rel K g M H) : ∀ {w : W} {v : V} {x : PyData}, RW K g v w → vw M w = some x → Dv K g.F H v x
  | .d y, v, x, r, e => by
    cases r with
    | d h => cases e; exact .inl h
  | .loc n, v, x, r, e => by
    cases r with
    | loc h =>
      rename_i a
      replace e : (match M[n]? with | some (.lst ds) => some (.list ds) | _ => Option.none) = some x := e
      cases q : M[n]? with
      | none => rw [q] at e; cases e
      | some o =>
        cases o with
        | dead => rw [q] at e; cases e
        | lsw ws => rw [q] at e; cases e
        | obj _ _ => rw [q] at e; cases e
        | dct _ => rw [q] at e; cases e
        | dctT _ => rw [q] at e; cases e
        | lst ds =>
          rw [q] at e
          cases e
          obtain ⟨b, e1, e2, xs, e3, e4⟩ := R.at_ n _ q rfl
          rw [h] at e1
          cases e1
          exact .inr ⟨a, xs, ds, rfl, rfl, e3, e4⟩
  | .tup ws, _, _, _, e => by cases e
  | .scr ws, _, _, _, e => by cases e
  | .exc ws, _, _, _, e => by cases e
  | .kd ws, _, _, _, e => by cases e
  | .clo _ ws, _, _, _, e => by cases e
  | .fn _, _, _, _, e => by cases e
theorem vws_ok {K : PySem.W.Frag} {g : Gh} {M : List MO} {H : Hp} (R : Rel K g M H) : ∀ {ws : List W} {vs : List V} {xs : List PyData}, RWs K g vs ws → vws M ws = some xs → DvAll K g.F H vs xs
  | [], _, _, .nil, e => by cases e; exact .nil
  | w :: ws, _, _, .cons h t, e => by
    unfold vws at e
    cases q : vw M w with
    | none => rw [q] at e; cases e
    | some x =>
      cases q2 : vws M ws with
      | none => rw [q, q2] at e; cases e
      | some xs =>
        rw [q, q2] at e
        cases e
        exact .cons (vw_ok R h q) (vws_ok R t q2)
structure Lay (F H F' H' : Hp) : Prop where
  f : Sub F F'
  h : Sub H H'
  s : Sub F' H'
  new : ∀ a, F a = none → F' a ≠ none → H a = none
theorem Lay.refl {F H : Hp} (s : Sub F H) : Lay F H F H := ⟨Sub.refl _, Sub.refl _, s, fun _ h h' => absurd h h'⟩
theorem Lay.new1 {F H : Hp} (s : Sub F H) {p : Addr} {o : HO} (h : H p = none) : Lay F H (upd F p o) (upd H p o) :=
  ⟨Sub.upd (s.none h), Sub.upd h, Sub.upd2 s, fun a e e' => by
    by_cases q : a = p
    · subst q; exact h
    · rw [upd_ne q] at e'; exact absurd e e'⟩
theorem Lay.rel {K : PySem.W.Frag} {g : Gh} {M : List MO} {H F' H' : Hp} (R : Rel K g M H) (l : Lay g.F H F' H') : Rel K ⟨g.ph, F'⟩ M H' := by
  refine ⟨l.s, R.len, fun n o e lv => ?_, R.inj, fun a hm => let ⟨u, q⟩ := R.tr a hm; ⟨u, l.h _ _ q⟩⟩
  obtain ⟨a, e1, e2, e3⟩ := R.at_ n o e lv
  refine ⟨a, e1, ?_, MOk.gr (g := g) (g' := ⟨g.ph, F'⟩) ⟨fun _ _ z => z, l.f⟩ (fun o' q => l.h _ _ q) e3⟩
  show F' a = none
  cases q : F' a with
  | none => rfl
  | some u =>
    have z := l.new a e2 (by rw [q]; simp)
    obtain ⟨z', q'⟩ := e3.there lv
    rw [z] at q'
    cases q'
theorem Lay.ext {g : Gh} {H F' H' : Hp} (l : Lay g.F H F' H') : Ext g H ⟨g.ph, F'⟩ H' :=
  ⟨⟨fun _ _ z => z, l.f⟩, fun a o e _ => l.h a o e, fun a e e' => .inl (l.new a e e'), fun a h => .inl h⟩
abbrev DPr := List PyData → Option PyData
def dpr (p : DPr) : Pr := fun ws M => match vws M ws with
  | some xs => match p xs with
    | some y => some (.d y, M)
    | none => none
  | none => none
def DPrOk (K : PySem.W.Frag) (p : DPr) (r : List V → Hp → VK → Prop) : Prop :=
  ∀ (F H : Hp) (vs : List V) (xs : List PyData) (y : PyData) (Q : VK), Sub F H → DvAll K F H vs xs → p xs = some y → (∀ v F' H', Lay F H F' H' → Dq K F' v y → Q v H') → r vs H Q
theorem dpr_ok {K : PySem.W.Frag} {p : DPr} {r : List V → Hp → VK → Prop} (h : DPrOk K p r) : PrOk K (dpr p) r := by
  intro g M H vs ws w M' Q R rw_ e k
  unfold dpr at e
  cases q : vws M ws with
  | none => rw [q] at e; cases e
  | some xs =>
    cases q2 : p xs with
    | none => rw [q] at e; simp only [q2] at e; cases e
    | some y =>
      rw [q] at e
      simp only [q2] at e
      cases e
      exact h g.F H vs xs y Q R.sub (vws_ok R rw_ q) q2 fun v F' H' l dq => k v ⟨g.ph, F'⟩ H' (l.rel R) l.ext (.d dq)
theorem Dv.dp {K : PySem.W.Frag} {F H : Hp} (s : Sub F H) {v : V} {x : PyData} : Dv K F H v x → Dp K H v x
  | .inl h => Dq.dp (Dq.sub s h)
  | .inr ⟨a, xs, ds, e1, e2, e3, e4⟩ => by subst e1 e2; exact .lst (.of e3) (DqAll.dp (DqAll.sub s e4))
theorem Dv.int {K : PySem.W.Frag} {F H : Hp} {v : V} {i : Int} : Dv K F H v (.int i) → v = .int i
  | .inl h => by cases h; rfl
  | .inr ⟨a, xs, ds, e1, e2, e3, e4⟩ => by cases e2
theorem Dv.bl {K : PySem.W.Frag} {F H : Hp} {v : V} {i : Bool} : Dv K F H v (.bool i) → v = .bl i
  | .inl h => by cases h; rfl
  | .inr ⟨a, xs, ds, e1, e2, e3, e4⟩ => by cases e2
theorem Dv.str {K : PySem.W.Frag} {F H : Hp} {v : V} {i : Str} : Dv K F H v (.str i) → v = .str i
  | .inl h => by cases h; rfl
  | .inr ⟨a, xs, ds, e1, e2, e3, e4⟩ => by cases e2
theorem Dv.non {K : PySem.W.Frag} {F H : Hp} {v : V} : Dv K F H v .none → v = .non
  | .inl h => by cases h; rfl
  | .inr ⟨a, xs, ds, e1, e2, e3, e4⟩ => by cases e2
theorem Dv.lst {K : PySem.W.Frag} {F H : Hp} (s : Sub F H) {v : V} {ds : List PyData} : Dv K F H v (.list ds) → ∃ a xs, v = .ref a ∧ H a = some (.lst xs) ∧ DqAll K F xs ds
  | .inl h => by cases h with | lst h t => exact ⟨_, _, rfl, s _ _ h, t⟩
  | .inr ⟨a, xs, ds, e1, e2, e3, e4⟩ => by cases e2; exact ⟨a, xs, e1, e3, e4⟩
theorem Dv.tup {K : PySem.W.Frag} {F H : Hp} {v : V} {ds : List PyData} : Dv K F H v (.tuple ds) → ∃ a xs, v = .ref a ∧ TqT K F a xs ∧ DqAll K F xs ds
  | .inl h => by cases h with | tup h t => exact ⟨_, _, rfl, h, t⟩
  | .inr ⟨a, xs, ds, e1, e2, e3, e4⟩ => by cases e2
theorem DvAll.one {K : PySem.W.Frag} {F H : Hp} {vs : List V} {x : PyData} (h : DvAll K F H vs [x]) : ∃ v, vs = [v] ∧ Dv K F H v x := by
  cases h with
  | cons a t => cases t; exact ⟨_, rfl, a⟩
theorem DvAll.two {K : PySem.W.Frag} {F H : Hp} {vs : List V} {x y : PyData} (h : DvAll K F H vs [x, y]) : ∃ v u, vs = [v, u] ∧ Dv K F H v x ∧ Dv K F H u y := by
  cases h with
  | cons a t => cases t with
    | cons b t => cases t; exact ⟨_, _, rfl, a, b⟩
theorem DvAll.three {K : PySem.W.Frag} {F H : Hp} {vs : List V} {x y z : PyData} (h : DvAll K F H vs [x, y, z]) : ∃ v u w, vs = [v, u, w] ∧ Dv K F H v x ∧ Dv K F H u y ∧ Dv K F H w z := by
  cases h with
  | cons a t => cases t with
    | cons b t => cases t with
      | cons c t => cases t; exact ⟨_, _, _, rfl, a, b, c⟩

/-! ### rules for expressions -/
section
variable {X : Cx} {xw : WX} {a b : Expr} {fa fb : EF} {pos : Pos} {p : Pr}
def r2 (r : R2) : List V → Hp → VK → Prop := fun vs H Q => ∃ x y, vs = [x, y] ∧ r x y H Q
def r1 (r : V → Hp → VK → Prop) : List V → Hp → VK → Prop := fun vs H Q => ∃ x, vs = [x] ∧ r x H Q
theorem me_bin {op : Operator} {r : R2} (ho : OpR X (binaryOp op) r) (hp : PrOk X.K p (r2 r)) (ha : ME X xw a fa) (hb : ME X xw b fb) : ME X xw (.BinOp a op b pos) (sPr p [fa, fb]) :=
  PE.imp (pe_op ho ha hb) fun _ _ _ h => tG_mono (prim2 (T := tx X) hp h) fun _ _ h => tG_mono h fun _ _ ⟨_, _, e, q⟩ => by cases e; exact q
theorem me_un {op : UnaryOp} {r : V → Hp → VK → Prop} (ho : UnR X (unaryOp op) r) (hp : PrOk X.K p (r1 r)) (ha : ME X xw a fa) : ME X xw (.UnaryOp op a pos) (sPr p [fa]) :=
  PE.imp (pe_un ho ha) fun _ _ _ h => tG_mono (prim1 (T := tx X) hp h) fun _ _ ⟨_, e, q⟩ => by cases e; exact q
theorem me_cmp {op : CmpOp} {r : R2} (ho : OpR X (compareOp op) r) (hp : PrOk X.K p (r2 r)) (ha : ME X xw a fa) (hb : ME X xw b fb) (hm : behindInMarks op b = false) : ME X xw (.Compare a [op] [b] pos) (sPr p [fa, fb]) :=
  PE.imp (pe_cmpR ho ha hb hm) fun _ _ _ h => tG_mono (prim2 (T := tx X) hp h) fun _ _ h => tG_mono h fun _ _ ⟨_, _, e, q⟩ => by cases e; exact q
theorem me_ix {r : R2} (hr : IxR X r) (hp : PrOk X.K p (r2 r)) (ha : ME X xw a fa) (hb : ME X xw b fb) (hs : PlainIx b := by exact fun _ _ => rfl) : ME X xw (.Subscript a b pos) (sPr p [fa, fb]) :=
  PE.imp (pe_ix hr ha hb hs) fun _ _ _ h => tG_mono (prim2 (T := tx X) hp h) fun _ _ h => tG_mono h fun _ _ ⟨_, _, e, q⟩ => by cases e; exact q
variable {x : Str} {p1 : Pos} {e : Expr} {es : List Expr} {fs : List EF} {id T : String} {r : List V → Hp → VK → Prop}
theorem me_callB (hc : CallR X (.builtin id) r) (hp : PrOk X.K p r) (hg : Gl X x) (hm : X.mg x = none) (hv : bootBuiltins x = some (.builtin id)) (ha : MA X xw (e :: es) fs) (hn : x ≠ "__name__" := by decide) (hdb : (x == ("__debug__" : Str)) = false := by decide)
    (he : starEach (e :: es) X.env = (false, eval e X.env) :: starEach es X.env := by rfl) (hpl : (backTo pos (starEach es X.env)).any (·.1) = false := by rfl) : ME X xw (.Call (.Name x p1) (e :: es) [] pos) (sPr p fs) :=
  PE.imp (pe_callB hc hg hm hv ha hn hdb he hpl) fun _ _ _ h => prim_args (T := tx X) hp h
theorem me_callTy (hc : CallR X (.type T) r) (hp : PrOk X.K p r) (hg : Gl X x) (hm : X.mg x = none) (hv : bootBuiltins x = some (.type T)) (ha : MA X xw (e :: es) fs) (hn : x ≠ "__name__" := by decide) (hdb : (x == ("__debug__" : Str)) = false := by decide)
    (he : starEach (e :: es) X.env = (false, eval e X.env) :: starEach es X.env := by rfl) (hpl : (backTo pos (starEach es X.env)).any (·.1) = false := by rfl) : ME X xw (.Call (.Name x p1) (e :: es) [] pos) (sPr p fs) :=
  PE.imp (pe_callTy hc hg hm hv ha hn hdb he hpl) fun _ _ _ h => prim_args (T := tx X) hp h
/-! names and constants -/
def sV (i : Nat) : EF := fun ρ M => match ρ[i]? with
  | some (some w) => .ok w M
  | _ => .stuck
theorem me_v (i : Nat) {x : Str} {pos : Pos} (hN : X.N[i]? = some x := by rfl) (hv : Vis X.env.scope x := by first | exact Or.inl rfl | exact Or.inr (Or.inl rfl) | exact Or.inr (Or.inr rfl)) (hd : (x == ("__debug__" : Str)) = false := by decide)
    (hcd : (x == ("__classdict__" : Str)) = false := by decide) : ME X xw (.Name x pos) (sV i) :=
  PE.imp (pv i hN hv hd hcd) fun σ H Q ⟨g, ρ, M, R, S, b⟩ => by
    unfold sV at b
    cases q : ρ[i]? with
    | none => rw [q] at b; exact b.elim
    | some o =>
      cases o with
      | none => rw [q] at b; exact b.elim
      | some w =>
        rw [q] at b
        obtain ⟨v, e, r⟩ := S.at_ i w q
        exact ⟨v, e, b v g H R (Ext.refl _ _) r⟩
def sC (d : PyData) : EF := fun _ M => .ok (.d d) M
theorem tE_const {T : Tx} {d : PyData} {v : V} (h : ∀ F, Dq T.K F v d) {σ : L2.St} {H : Hp} {Q : VK} (q : tE T xw (sC d) σ H Q) : tC v σ H Q :=
  let ⟨g, _, _, R, _, b⟩ := q
  b v g H R (Ext.refl _ _) (.d (h _))
theorem me_int {i : Int} {j pos} : ME X xw (.Constant (.int i) j pos) (sC (.int i)) := PE.imp pe_int fun _ _ _ q => tE_const (fun _ => .int _) q
theorem me_bl {i : Bool} {j pos} : ME X xw (.Constant (.bool i) j pos) (sC (.bool i)) := PE.imp pe_bl fun _ _ _ q => tE_const (fun _ => .bl _) q
theorem me_str {i : Str} {j pos} : ME X xw (.Constant (.str i) j pos) (sC (.str i)) := PE.imp pe_str fun _ _ _ q => tE_const (fun _ => .str _) q
theorem me_non {j pos} : ME X xw (.Constant .none j pos) (sC .none) := PE.imp pe_non fun _ _ _ q => tE_const (fun _ => .non) q
end
end Y
namespace Y
open PySem PySem.Spec L2

/-! ### statements -/
inductive SR where
  | nx (ρ : Rho) (M : List MO) | ret (w : W) (M : List MO) | bk (ρ : Rho) (M : List MO) | ct (ρ : Rho) (M : List MO) | er (e : Ex) (ρ : Rho) (M : List MO) | stuck
abbrev SF := Rho → List MO → SR
def BhdS (T : Tx) (xw : WX) (D : Ends) (r : SR) (g : Gh) (H : Hp) : Prop :=
  match r with
  | .nx ρ M => ∀ σ g' H', Rel T.K g' M H' → Ext g H g' H' → RS T.K g' σ ρ → D.nx σ H'
  | .bk ρ M => ∀ σ g' H', Rel T.K g' M H' → Ext g H g' H' → RS T.K g' σ ρ → D.bk σ H'
  | .ct ρ M => ∀ σ g' H', Rel T.K g' M H' → Ext g H g' H' → RS T.K g' σ ρ → D.ct σ H'
  | .ret w M => ∀ v g' H', Rel T.K g' M H' → Ext g H g' H' → RW T.K g' v w → D.rt v H'
  | .er e ρ M => ∀ cls d σ g' H', Rel T.K g' M H' → Ext g H g' H' → RS T.K g' σ ρ → IsEx T e cls d g'.F → xw cls d σ H'
  | .stuck => False
theorem BhdS.later {T : Tx} {xw : WX} {D : Ends} {r : SR} {g g1 : Gh} {H H1 : Hp} (f : BhdS T xw D r g H) (e : Ext g H g1 H1) : BhdS T xw D r g1 H1 := by
  cases r with
  | nx ρ M => exact fun σ g' H' r' e' => f σ g' H' r' (e.trans e')
  | bk ρ M => exact fun σ g' H' r' e' => f σ g' H' r' (e.trans e')
  | ct ρ M => exact fun σ g' H' r' e' => f σ g' H' r' (e.trans e')
  | ret ρ M => exact fun σ g' H' r' e' => f σ g' H' r' (e.trans e')
  | er x ρ M => exact fun c d σ g' H' r' e' => f c d σ g' H' r' (e.trans e')
  | stuck => exact f
theorem BhdS.imp {T : Tx} {xw xw' : WX} {D D' : Ends} {r : SR} {g : Gh} {H : Hp} (f : BhdS T xw D r g H) (h1 : ∀ σ H', D.nx σ H' → D'.nx σ H') (h2 : ∀ v H', D.rt v H' → D'.rt v H') (h3 : ∀ σ H', D.bk σ H' → D'.bk σ H') (h4 : ∀ σ H', D.ct σ H' → D'.ct σ H')
    (h5 : ∀ c d σ H', xw c d σ H' → xw' c d σ H') : BhdS T xw' D' r g H := by
  cases r with
  | nx ρ M => exact fun σ g' H' r' e' q => h1 _ _ (f σ g' H' r' e' q)
  | bk ρ M => exact fun σ g' H' r' e' q => h3 _ _ (f σ g' H' r' e' q)
  | ct ρ M => exact fun σ g' H' r' e' q => h4 _ _ (f σ g' H' r' e' q)
  | ret ρ M => exact fun σ g' H' r' e' q => h2 _ _ (f σ g' H' r' e' q)
  | er x ρ M => exact fun c d σ g' H' r' e' q q' => h5 _ _ _ _ (f c d σ g' H' r' e' q q')
  | stuck => exact f
def tS (T : Tx) (xw : WX) (f : SF) : TS := fun D σ H => ∃ (g : Gh) (ρ : Rho) (M : List MO), Rel T.K g M H ∧ RS T.K g σ ρ ∧ BhdS T xw D (f ρ M) g H
abbrev MS (X : Cx) (xw : WX) (st : Stmt) (f : SF) : Prop := PS X st (tS (tx X) xw f)
abbrev MSs (X : Cx) (xw : WX) (st : List Stmt) (f : SF) : Prop := PSs X st (tS (tx X) xw f)

def sNx : SF := fun ρ M => .nx ρ M
def sSeq (f h : SF) : SF := fun ρ M => match f ρ M with
  | .nx ρ' M' => h ρ' M'
  | r => r
/-- an expression's value, then a statement's end -/
def sThen (f : EF) (k : Rho → W → List MO → SR) : SF := fun ρ M => match f ρ M with
  | .ok w M' => k ρ w M'
  | .err e M' => .er e ρ M'
  | .stuck => .stuck
def sSet (i : Nat) (f : EF) : SF := sThen f fun ρ w M => .nx (ρ.set i (some w)) M
def sExpr (f : EF) : SF := sThen f fun ρ _ M => .nx ρ M
def sRet (f : EF) : SF := sThen f fun _ w M => .ret w M
def sRetN : SF := fun _ M => .ret (.d .none) M
def sIf (c : TF) (a b : SF) : SF := fun ρ M => match c ρ M with
  | .ok true M' => a ρ M'
  | .ok false M' => b ρ M'
  | .err e M' => .er e ρ M'
  | .stuck => .stuck
def sBk : SF := fun ρ M => .bk ρ M
def sCt : SF := fun ρ M => .ct ρ M

section
variable {X : Cx} {xw : WX} {st : Stmt} {sts : List Stmt} {f h : SF} {e : Expr} {fe : EF} {pos : Pos}
theorem tS_then {T : Tx} {k : Rho → W → List MO → SR} {D : Ends} {σ : L2.St} {H : Hp} (q : tS T xw (sThen fe k) D σ H) :
    tE T xw fe σ H fun v H1 => ∃ g ρ M w, Rel T.K g M H1 ∧ RS T.K g σ ρ ∧ RW T.K g v w ∧ BhdS T xw D (k ρ w M) g H1 := by
  obtain ⟨g, ρ, M, R, S, b⟩ := q
  refine ⟨g, ρ, M, R, S, ?_⟩
  unfold sThen at b
  cases e1 : fe ρ M with
  | stuck => rw [e1] at b; exact b
  | err x M2 => rw [e1] at b; exact fun c d g' H' r' e' q' => b c d σ g' H' r' e' (S.gr e'.gr) q'
  | ok w M2 => rw [e1] at b; exact fun v g' H' r' e' q' => ⟨g', ρ, M2, w, r', S.gr e'.gr, q', b.later e'⟩
theorem mss_nil : MSs X xw [] sNx := PSs.imp pss_nil fun D σ H ⟨g, ρ, M, R, S, b⟩ => b σ g H R (Ext.refl _ _) S
theorem tS_seq {T : Tx} {D : Ends} {σ : L2.St} {H : Hp} (q : tS T xw (sSeq f h) D σ H) : tS T xw f { D with nx := tS T xw h D } σ H := by
  obtain ⟨g, ρ, M, R, S, b⟩ := q
  refine ⟨g, ρ, M, R, S, ?_⟩
  unfold sSeq at b
  cases e1 : f ρ M with
  | nx ρ' M' => rw [e1] at b; exact fun σ' g' H' r' e' s' => ⟨g', ρ', M', r', s', BhdS.later b e'⟩
  | bk ρ' M' => rw [e1] at b; exact b
  | ct ρ' M' => rw [e1] at b; exact b
  | ret ρ' M' => rw [e1] at b; exact b
  | er e ρ' M' => rw [e1] at b; exact b
  | stuck => rw [e1] at b; exact b
theorem mss_cons (h1 : MS X xw st f) (h2 : MSs X xw sts h) : MSs X xw (st :: sts) (sSeq f h) := PSs.imp (pss_cons h1 h2) fun _ _ _ q => tS_seq q
theorem mss_one (h1 : MS X xw st f) : MSs X xw [st] f := pss_one h1
theorem ms_set {i : Nat} {x : Str} {pos' : Pos} (hN : X.N.Nodup) (he : ME X xw e fe) (hi : X.N[i]? = some x := by rfl) (hx : Loc X.env.scope x := by first | exact Or.inl rfl | exact Or.inr rfl) (hs : swapsWith e (some (.Name x pos')) pos.line X.env = pure false := by rfl)
    (hf : X.fn x = true ∨ X.env.scope.names.lookup x = some .local := by first | exact .inl rfl | exact .inr rfl) : MS X xw (.Assign [.Name x pos'] e pos) (sSet i fe) :=
  PS.imp (ps_set hN hi hx he hs hf) fun D σ H q => tG_mono (tS_then q) fun v H1 ⟨g, ρ, M, w, R, S, r, b⟩ => b _ g H1 R (Ext.refl _ _) (S.set i r)
theorem ms_expr (he : ME X xw e fe) (hs : swapsWith e none pos.line X.env = pure false := by rfl) : MS X xw (.Expr e pos) (sExpr fe) :=
  PS.imp (ps_expr he hs) fun D σ H q => tG_mono (tS_then q) fun v H1 ⟨g, ρ, M, w, R, S, r, b⟩ => b _ g H1 R (Ext.refl _ _) S
theorem ms_ret (he : ME X xw e fe) : MS X xw (.Return (some e) pos) (sRet fe) :=
  PS.imp (ps_ret he) fun D σ H q => tG_mono (tS_then q) fun v H1 ⟨g, ρ, M, w, R, S, r, b⟩ => b _ g H1 R (Ext.refl _ _) r
theorem ms_retN : MS X xw (.Return none pos) sRetN := PS.imp ps_retN fun D σ H ⟨g, ρ, M, R, S, b⟩ => b .non g H R (Ext.refl _ _) (.d .non)
theorem ms_pass : MS X xw (.Pass pos) sNx := PS.imp ps_pass fun D σ H ⟨g, ρ, M, R, S, b⟩ => b σ g H R (Ext.refl _ _) S
theorem ms_break : MS X xw (.Break pos) sBk := PS.imp ps_break fun D σ H ⟨g, ρ, M, R, S, b⟩ => b σ g H R (Ext.refl _ _) S
theorem ms_continue : MS X xw (.Continue pos) sCt := PS.imp ps_continue fun D σ H ⟨g, ρ, M, R, S, b⟩ => b σ g H R (Ext.refl _ _) S
theorem ms_if {c : Expr} {a b : List Stmt} {fc : TF} {fa fb : SF} (hc : MT X xw c fc) (ha : MSs X xw a fa) (hb : MSs X xw b fb) : MS X xw (.If c a b pos) (sIf fc fa fb) :=
  PS.imp (ps_if hc ha hb) fun D σ H ⟨g, ρ, M, R, S, b⟩ => by
    refine ⟨g, ρ, M, R, S, ?_⟩
    unfold sIf at b
    cases e1 : fc ρ M with
    | stuck => rw [e1] at b; exact b
    | err x M2 => rw [e1] at b; exact fun c d g' H' r' e' q' => b c d σ g' H' r' e' (S.gr e'.gr) q'
    | ok w M2 =>
      rw [e1] at b
      intro v g' H' r' e' q'
      have q'' : v = w := q'
      subst q''
      cases v with
      | true => exact iteT ⟨g', ρ, M2, r', S.gr e'.gr, BhdS.later b e'⟩
      | false => exact iteF ⟨g', ρ, M2, r', S.gr e'.gr, BhdS.later b e'⟩
end

/-! ### tests, and, or, not, if-else -/
def sVal (f : EF) : TF := fun ρ M => (f ρ M).bind fun w M => match w with
  | .d (.bool b) => .ok b M
  | _ => .stuck
def sNot (f : TF) : TF := fun ρ M => (f ρ M).bind fun b M => .ok (!b) M
def sAnd (f h : TF) : TF := fun ρ M => (f ρ M).bind fun b M => if b = true then h ρ M else .ok false M
def sOr (f h : TF) : TF := fun ρ M => (f ρ M).bind fun b M => if b = true then .ok true M else h ρ M
def sBl (f : TF) : EF := fun ρ M => (f ρ M).bind fun b M => .ok (.d (.bool b)) M
def sIte (c : TF) (a b : EF) : EF := fun ρ M => (c ρ M).bind fun k M => if k = true then a ρ M else b ρ M
section
variable {X : Cx} {xw : WX} {a b c : Expr} {fa fb : EF} {fc fd : TF} {pos : Pos} {rest : List Expr}
theorem tT_val {T : Tx} {σ : L2.St} {H : Hp} {Q : Bool → Hp → Prop} (h : tT T xw (sVal fa) σ H Q) : tB (tE T xw fa) σ H Q := by
  refine tG_mono (tG_bind (R2 := RW T.K) h) fun v H1 ⟨g, ρ, M, w, R, S, q, b⟩ => ?_
  cases w with
  | loc n => exact b.elim
  | tup n => exact b.elim
  | scr n => exact b.elim
  | exc n => exact b.elim
  | kd n => exact b.elim
  | clo _ n => exact b.elim
  | fn n => exact b.elim
  | d x =>
    cases x with
    | bool k => cases q with | d q => cases q; exact ⟨k, rfl, b k g H1 R (Ext.refl _ _) rfl⟩
    | none => exact b.elim
    | int _ => exact b.elim
    | str _ => exact b.elim
    | list _ => exact b.elim
    | tuple _ => exact b.elim
    | dict _ => exact b.elim
theorem mt_val (ha : ME X xw a fa) (he : ∀ whole, isTrue a X.env whole = (do let v ← whole; standAt a.pos; holding [v] (truthy v)) := by intro _; rfl) : MT X xw a (sVal fa) :=
  PT.imp (pt_val ha he) fun _ _ _ h => tT_val h
theorem mt_cmp {op : CmpOp} {r : R2} {p : Pr} (ho : OpR X (compareOp op) r) (hp : PrOk X.K p (r2 r)) (ha : ME X xw a fa) (hb : ME X xw b fb) (hm : behindInMarks op b = false) : MT X xw (.Compare a [op] [b] pos) (sVal (sPr p [fa, fb])) :=
  PT.imp (pt_cmpR ho ha hb hm) fun σ H Q h => by
    have h1 := tT_val h
    have h2 : tOp r (tE (tx X) xw fa) (tE (tx X) xw fb) σ H fun x H1 => ∃ c, x = .bl c ∧ Q c H1 := tG_mono (prim2 (T := tx X) hp h1) fun _ _ h => tG_mono h fun _ _ ⟨_, _, e, q⟩ => by cases e; exact q
    exact h2
theorem mt_not (ha : MT X xw a fc) : MT X xw (.UnaryOp .Not a pos) (sNot fc) :=
  PT.imp (pt_not ha) fun σ H Q h => tG_mono (tG_bind (R2 := fun _ (b c : Bool) => b = c) h) fun v H1 ⟨g, ρ, M, w, R, S, q, b⟩ => by
    have q' : v = w := q
    subst q'
    exact b _ g H1 R (Ext.refl _ _) rfl
abbrev MW (X : Cx) (xw : WX) (e : Expr) (f : TF) : Prop := PW X e (tT (tx X) xw f)
theorem PW.imp {X : Cx} {e : Expr} {t t' : TT} (h : PW X e t) (k : ∀ σ H Q, t' σ H Q → t σ H Q) : PW X e t' := ⟨fun w pins s σ H Q I q => h.run w pins s σ H Q I (k σ H Q q)⟩
theorem mw_and1 (ha : MT X xw a fc) : MW X xw (.BoolOp .And [a] pos) fc := pw_and1 ha
theorem mw_or1 (ha : MT X xw a fc) : MW X xw (.BoolOp .Or [a] pos) fc := pw_or1 ha
theorem mw_and (ha : MT X xw a fc) (hb : MW X xw (.BoolOp .And (b :: rest) pos) fd) : MW X xw (.BoolOp .And (a :: b :: rest) pos) (sAnd fc fd) :=
  PW.imp (pw_and ha hb) fun σ H Q h => tG_mono (tG_bind (R2 := fun _ (b c : Bool) => b = c) h) fun v H1 ⟨g, ρ, M, w, R, S, q, b⟩ => by
    have q' : v = w := q
    subst q'
    cases v with
    | true => exact iteT ⟨g, ρ, M, R, S, b⟩
    | false => exact iteF (b false g H1 R (Ext.refl _ _) rfl)
theorem mw_or (ha : MT X xw a fc) (hb : MW X xw (.BoolOp .Or (b :: rest) pos) fd) : MW X xw (.BoolOp .Or (a :: b :: rest) pos) (sOr fc fd) :=
  PW.imp (pw_or ha hb) fun σ H Q h => tG_mono (tG_bind (R2 := fun _ (b c : Bool) => b = c) h) fun v H1 ⟨g, ρ, M, w, R, S, q, b⟩ => by
    have q' : v = w := q
    subst q'
    cases v with
    | true => exact iteT (b true g H1 R (Ext.refl _ _) rfl)
    | false => exact iteF ⟨g, ρ, M, R, S, b⟩
theorem mt_w (h : MW X xw a fc) : MT X xw a fc := h.pt
/-! as values: all parts truths -/
def sAndV (f h : EF) : EF := fun ρ M => (f ρ M).bind fun w M => match w with
  | .d (.bool true) => h ρ M
  | .d (.bool false) => .ok (.d (.bool false)) M
  | _ => .stuck
def sOrV (f h : EF) : EF := fun ρ M => (f ρ M).bind fun w M => match w with
  | .d (.bool false) => h ρ M
  | .d (.bool true) => .ok (.d (.bool true)) M
  | _ => .stuck
def sNotV (f : EF) : EF := fun ρ M => (f ρ M).bind fun w M => match w with
  | .d (.bool b) => .ok (.d (.bool (!b))) M
  | _ => .stuck
theorem me_one {op} (h : ME X xw a fa) : ME X xw (.BoolOp op [a] pos) fa := pe_one h
theorem me_and (ha : ME X xw a fa) (hb : ME X xw (.BoolOp .And (b :: rest) pos) fb) : ME X xw (.BoolOp .And (a :: b :: rest) pos) (sAndV fa fb) :=
  PE.imp (pe_and ha hb) fun σ H Q h => tG_mono (tG_bind (R2 := RW X.K) h) fun v H1 ⟨g, ρ, M, w, R, S, q, b⟩ => by
    cases w with
    | loc n => exact b.elim
    | tup n => exact b.elim
    | scr n => exact b.elim
    | exc n => exact b.elim
    | kd n => exact b.elim
    | clo _ n => exact b.elim
    | fn n => exact b.elim
    | d x =>
      cases x with
      | bool k =>
        cases q with
        | d q =>
          cases q
          cases k with
          | true => exact ⟨true, rfl, iteT ⟨g, ρ, M, R, S, b⟩⟩
          | false => exact ⟨false, rfl, iteF (b _ g H1 R (Ext.refl _ _) (.d (.bl _)))⟩
      | none => exact b.elim
      | int _ => exact b.elim
      | str _ => exact b.elim
      | list _ => exact b.elim
      | tuple _ => exact b.elim
      | dict _ => exact b.elim
theorem me_or (ha : ME X xw a fa) (hb : ME X xw (.BoolOp .Or (b :: rest) pos) fb) : ME X xw (.BoolOp .Or (a :: b :: rest) pos) (sOrV fa fb) :=
  PE.imp (pe_or ha hb) fun σ H Q h => tG_mono (tG_bind (R2 := RW X.K) h) fun v H1 ⟨g, ρ, M, w, R, S, q, b⟩ => by
    cases w with
    | loc n => exact b.elim
    | tup n => exact b.elim
    | scr n => exact b.elim
    | exc n => exact b.elim
    | kd n => exact b.elim
    | clo _ n => exact b.elim
    | fn n => exact b.elim
    | d x =>
      cases x with
      | bool k =>
        cases q with
        | d q =>
          cases q
          cases k with
          | true => exact ⟨true, rfl, iteT (b _ g H1 R (Ext.refl _ _) (.d (.bl _)))⟩
          | false => exact ⟨false, rfl, iteF ⟨g, ρ, M, R, S, b⟩⟩
      | none => exact b.elim
      | int _ => exact b.elim
      | str _ => exact b.elim
      | list _ => exact b.elim
      | tuple _ => exact b.elim
      | dict _ => exact b.elim
theorem me_not (ha : ME X xw a fa) : ME X xw (.UnaryOp .Not a pos) (sNotV fa) :=
  PE.imp (pe_not ha) fun σ H Q h => tG_mono (tG_bind (R2 := RW X.K) h) fun v H1 ⟨g, ρ, M, w, R, S, q, b⟩ => by
    cases w with
    | loc n => exact b.elim
    | tup n => exact b.elim
    | scr n => exact b.elim
    | exc n => exact b.elim
    | kd n => exact b.elim
    | clo _ n => exact b.elim
    | fn n => exact b.elim
    | d x =>
      cases x with
      | bool k => cases q with | d q => cases q; exact ⟨k, rfl, b _ g H1 R (Ext.refl _ _) (.d (.bl _))⟩
      | none => exact b.elim
      | int _ => exact b.elim
      | str _ => exact b.elim
      | list _ => exact b.elim
      | tuple _ => exact b.elim
      | dict _ => exact b.elim
theorem me_ite (hc : MT X xw c fc) (ha : ME X xw a fa) (hb : ME X xw b fb) : ME X xw (.IfExp c a b pos) (sIte fc fa fb) :=
  PE.imp (pe_ifExp hc ha hb) fun σ H Q h => tG_mono (tG_bind (R2 := fun _ (b c : Bool) => b = c) h) fun v H1 ⟨g, ρ, M, w, R, S, q, b⟩ => by
    have q' : v = w := q
    subst q'
    cases v with
    | true => exact iteT ⟨g, ρ, M, R, S, b⟩
    | false => exact iteF ⟨g, ρ, M, R, S, b⟩
end
end Y
namespace Y
open PySem PySem.Spec L2

/-! ### what a context must have -/
structure Ctx (X : Cx) (k : Nat) (xw : WX) : Prop where
  calm : X.calm = true
  nd : X.N.Nodup
  takes : Takes X xw
  own : PassesOwn (model X.prog X.w) X.A X.env X.xe
  room : Room k X.A
  gd : X.A.guards = some []
theorem Ctx.mono {X : Cx} {j k : Nat} {xw : WX} (C : Ctx X k xw) (h : j ≤ k) : Ctx X j xw := ⟨C.calm, C.nd, C.takes, C.own, C.room.mono h, C.gd⟩
abbrev xw0 : WX := fun _ _ _ _ => False
theorem Ctx.blk {X : Cx} {k : Nat} {xw : WX} (C : Ctx X k xw) (s : Shared) (H : Hp) (scope : Scope) (cenv : Env) (fp : List Addr) : Ctx (X.blk s H scope cenv fp) k xw0 :=
  ⟨C.calm, C.nd, takes0, PassesOwn.never, C.room, C.gd⟩

/-! ### what a def is worth -/
abbrev MF := List W → List MO → Res W
def spM (T : Tx) (mf : MF) : Sp := fun vs H Q E => ∃ (g : Gh) (ws : List W) (M : List MO), Rel T.K g M H ∧ RWs T.K g vs ws ∧ Bhd T E (RW T.K) Q (mf ws M) g H
structure FnM (P : Program) (w : World) (K : PySem.W.Frag) (mg : Str → Option Value) (base : Heap) (k : Nat) (f : Addr) (fd : FuncData) (ps : List Str) (mf : MF) : Prop where
  run : ∀ (A : Around) (outer : List Env) (s : Shared) (H : Hp) (args : Args) (us : List Value) (vs : List V) (Q : VK) (E : XK), Room k A → A.guards = some [] → Env0 P w K mg base A outer s H → BindsTo s fd args (ps.zip us) → Vals vs us →
    vs.length = ps.length → spM ⟨K, mg⟩ mf vs H Q E → codeAny (model P w) A (.call (.ref f) args) (CR (L2.CX P w) outer P w H s Q E) s
structure Cal (P : Program) (w : World) (K : PySem.W.Frag) (mg : Str → Option Value) (base : Heap) (k : Nat) (x : Str) (ps : List Str) (mf : MF) : Prop where
  ex : ∃ (f : Addr) (fd : FuncData), FnM P w K mg base k f fd ps mf ∧ mg x = some (.ref f) ∧ PySem.W.keepIn K (.ref f) = true ∧ Binds K fd ps []
theorem Cal.mono {P : Program} {w : World} {K : PySem.W.Frag} {mg : Str → Option Value} {base : Heap} {j k : Nat} {x : Str} {ps : List Str} {mf : MF} (c : Cal P w K mg base j x ps mf) (h : j ≤ k) : Cal P w K mg base k x ps mf :=
  let ⟨f, fd, F, r⟩ := c.ex
  ⟨f, fd, ⟨fun A outer s H args us vs Q E hr => F.run A outer s H args us vs Q E (hr.mono h)⟩, r⟩
/-- a def's mirror is as good as another that says more -/
theorem Cal.of {P : Program} {w : World} {K : PySem.W.Frag} {mg : Str → Option Value} {base : Heap} {k : Nat} {x : Str} {ps : List Str} {mf mf' : MF} (c : Cal P w K mg base k x ps mf) (h : ∀ ws M, mf' ws M = .stuck ∨ mf ws M = mf' ws M) : Cal P w K mg base k x ps mf' :=
  let ⟨f, fd, F, r⟩ := c.ex
  ⟨f, fd, ⟨fun A outer s H args us vs Q E hr hg e0 hb hv hl ⟨g, ws, M, R, S, b⟩ => F.run A outer s H args us vs Q E hr hg e0 hb hv hl (by
    refine ⟨g, ws, M, R, S, ?_⟩
    rcases h ws M with e | e
    · rw [e] at b; exact b.elim
    · rw [e]; exact b)⟩, r⟩

/-- the callee runs -/
theorem run_fnM {X : Cx} {k : Nat} {xw : WX} {f : Addr} {fd : FuncData} {ps : List Str} {mf : MF} (C : Ctx X k xw) (F : FnM X.prog X.w X.K X.mg X.base k f fd ps mf) (hb : Binds X.K fd ps [])
    {pins : List (Addr × Obj)} {σ : L2.St} {H : Hp} {s : Shared} {Q : VK} {us : List Value} {vs : List V} (I : Inv X pins σ H s) (r : Vals vs us) (hl : vs.length = ps.length) (h : spM (tx X) mf vs H Q (WE xw σ)) :
    wpAny (model X.prog X.w) X.A (call (.ref f) us) (EP X pins σ Q) X.xe s := by
  have hl' : us.length = ps.length := by rw [← r.length]; exact hl
  have b := hb s us I.kIn (by rw [List.append_nil]; exact hl')
  rw [List.append_nil] at b
  refine wpAny_call (codeAny_mono (F.run X.A X.stack s H ⟨us, []⟩ us vs Q (WE xw σ) C.room C.gd I.env0 b r hl h) fun r s' hq => ?_)
  cases r with
  | error e => exact passAt C.takes σ pins H s e s' I hq
  | ok fl =>
    cases fl with
    | ret u => exact I.after hq
    | next => exact False.elim hq
    | brk => exact False.elim hq
    | cont => exact False.elim hq
/-- f(e, ..): how the callee sees the arguments: cv gives its own arguments and store, and what its answer is worth here -/
def tCallM (T : Tx) (mf : MF) (n : Nat) (xw : WX) (t : TA) : TE := fun σ H Q => t σ H fun vs H1 => vs.length = n ∧ spM T mf vs H1 Q (WE xw σ)
theorem pe_callM {X : Cx} {k : Nat} {xw : WX} {x : Str} {ps : List Str} {mf : MF} (C : Ctx X k xw) (c : Cal X.prog X.w X.K X.mg X.base k x ps mf) {e : Expr} {es : List Expr} {t : TA} {p pos : Pos} (ha : PA X (e :: es) t) (hg : Gl X x) (hdb : (x == ("__debug__" : Str)) = false := by decide)
    (he : starEach (e :: es) X.env = (false, eval e X.env) :: starEach es X.env := by rfl) (hpl : (backTo pos (starEach es X.env)).any (·.1) = false := by rfl) :
    PE X (.Call (.Name x p) (e :: es) [] pos) (tCallM (tx X) mf ps.length xw t) := by
  obtain ⟨f, fd, F, hm, hk, hb⟩ := c.ex
  refine ⟨fun pins s σ H Q I h => ?_⟩
  refine wpAny_Call_Name_kw (ld_glob I hg hm ?_ hdb)
  refine PySem.W.callWith_K (h₀ := X.base) I.ok.mod.kin hk (thn (ha.run pos pins s σ H _ I h) fun us s1 ⟨vs, H1, I1, r, q⟩ => ⟨I1.kIn, ?_⟩) he hpl
  exact run_fnM C F hb I1 r q.1 q.2

/-! ### a call by arguments -/
/-- the callee gets the whole store -/
def sCallW (mf : MF) (n : Nat) (fs : List EF) : EF := fun ρ M => (evs fs ρ M).bind fun ws M1 => if ws.length = n then mf ws M1 else .stuck
theorem me_callW {X : Cx} {k : Nat} {xw : WX} {x : Str} {ps : List Str} {mf : MF} (C : Ctx X k xw) (c : Cal X.prog X.w X.K X.mg X.base k x ps mf) {e : Expr} {es : List Expr} {fs : List EF} {p pos : Pos} (ha : MA X xw (e :: es) fs) (hg : Gl X x := by rfl) (hdb : (x == ("__debug__" : Str)) = false := by decide)
    (he : starEach (e :: es) X.env = (false, eval e X.env) :: starEach es X.env := by rfl) (hpl : (backTo pos (starEach es X.env)).any (·.1) = false := by rfl) :
    ME X xw (.Call (.Name x p) (e :: es) [] pos) (sCallW mf ps.length fs) :=
  PE.imp (pe_callM C c ha hg hdb he hpl) fun σ H Q h => tG_mono (tG_bind (R2 := RWs X.K) h) fun vs H1 ⟨g, ρ, M, ws, R, S, q, b⟩ => by
    by_cases hl : ws.length = ps.length
    · rw [if_pos hl] at b
      exact ⟨q.length.trans hl, g, ws, M, R, q, b⟩
    · rw [if_neg hl] at b; exact b.elim

/-! ### a call with a store of its own -/
/-- the places of the arguments that are loc -/
def locs : List W → List Nat
  | [] => []
  | .loc n :: ws => n :: locs ws
  | _ :: ws => locs ws
/-- the arguments with their locs numbered from k -/
def relo : Nat → List W → List W
  | _, [] => []
  | k, .loc _ :: ws => .loc k :: relo (k + 1) ws
  | k, w :: ws => w :: relo k ws
def W.plain : W → Bool
  | .tup _ => false
  | _ => true
def subM (M : List MO) : List Nat → Option (List MO)
  | [] => some []
  | n :: ns => match M[n]? with
    | some (.lst ds) => match subM M ns with
      | some r => some (.lst ds :: r)
      | none => none
    | _ => none
/-- back into the store -/
def putM : List MO → List Nat → List MO → List MO
  | M, [], _ => M
  | M, _, [] => M
  | M, n :: ns, o :: os => putM (M.set n o) ns os
/-- frozen -/
def fz : Nat → List MO → W → Option PyData
  | _, _, .d x => some x
  | 0, _, _ => none
  | j + 1, M, .loc n => match M[n]? with
    | some (.lst ds) => some (.list ds)
    | some (.lsw ws) => (ws.mapM (fz j M)).map .list
    | _ => none
  | j + 1, M, .tup ws => (ws.mapM (fz j M)).map .tuple
  | _, _, .scr _ => none
  | _, _, .exc _ => none
  | _, _, .kd _ => none
  | _, _, .clo _ _ => none
  | _, _, .fn _ => none
def dataOnly : List MO → Bool
  | [] => true
  | .lst _ :: r => dataOnly r
  | _ :: _ => false
/-- the answer frozen, the callee's own store dropped -/
def freeze (M : List MO) (ix : List Nat) : Res W → Res W
  | .ok w M' => if dataOnly (M'.take ix.length) = true then match fz 3 (List.replicate ix.length .dead ++ M'.drop ix.length) w with
      | some x => .ok (.d x) (putM M ix (M'.take ix.length))
      | none => .stuck
    else .stuck
  | .err e M' => if dataOnly (M'.take ix.length) = true then .err e (putM M ix (M'.take ix.length)) else .stuck
  | .stuck => .stuck
def callF (mf : MF) (n : Nat) (ws : List W) (M : List MO) : Res W :=
  if ws.length = n ∧ ws.all W.plain = true ∧ (locs ws).Nodup then match subM M (locs ws) with
    | some Mc => freeze M (locs ws) (mf (relo 0 ws) Mc)
    | none => .stuck
  else .stuck
def sCallF (mf : MF) (n : Nat) (fs : List EF) : EF := fun ρ M => (evs fs ρ M).bind fun ws M1 => callF mf n ws M1
end Y
namespace Y
open PySem PySem.Spec L2

theorem mapM_all {K : PySem.W.Frag} {g : Gh} {F : Hp} {f : W → Option PyData} (ih : ∀ w v x, RW K g v w → f w = some x → Dq K F v x) : ∀ {ws : List W} {vs : List V} {xs : List PyData}, RWs K g vs ws → ws.mapM f = some xs → DqAll K F vs xs
  | [], _, _, .nil, e => by
    rw [List.mapM_nil] at e
    cases e
    exact .nil
  | w :: ws, _, _, .cons h t, e => by
    rw [List.mapM_cons] at e
    cases q : f w with
    | none => rw [q] at e; cases e
    | some x =>
      cases q2 : ws.mapM f with
      | none => rw [q, q2] at e; cases e
      | some xs =>
        rw [q, q2] at e
        cases e
        exact .cons (ih _ _ _ h q) (mapM_all ih t q2)
theorem fz_ok {K : PySem.W.Frag} {g : Gh} {F2 H : Hp} {M : List MO} (hM : ∀ (n : Nat) (o : MO), M[n]? = some o → o.live = true → ∃ a, g.ph[n]? = some a ∧ F2 a = H a ∧ MOk K g H a o) (hs : Sub g.F F2) :
    ∀ (j : Nat) (w : W) (v : V) (x : PyData), RW K g v w → fz j M w = some x → Dq K F2 v x
  | j, .d y, v, x, r, e => by
    have e' : y = x := by cases j <;> exact Option.some.inj e
    subst e'
    cases r with
    | d h => exact Dq.sub hs h
  | 0, .loc n, v, x, r, e => by cases e
  | 0, .tup n, v, x, r, e => by cases e
  | j, .scr n, v, x, r, e => by cases j <;> cases e
  | j, .exc n, v, x, r, e => by cases j <;> cases e
  | j, .kd n, v, x, r, e => by cases j <;> cases e
  | j, .clo _ n, v, x, r, e => by cases j <;> cases e
  | j, .fn n, v, x, r, e => by cases j <;> cases e
  | j + 1, .loc n, v, x, r, e => by
    cases r with
    | loc h =>
      rename_i a
      replace e : (match M[n]? with | some (.lst ds) => some (.list ds) | some (.lsw ws) => (ws.mapM (fz j M)).map .list | _ => Option.none) = some x := e
      cases q : M[n]? with
      | none => rw [q] at e; cases e
      | some o =>
        cases o with
        | dead => rw [q] at e; cases e
        | obj _ _ => rw [q] at e; cases e
        | dct _ => rw [q] at e; cases e
        | dctT _ => rw [q] at e; cases e
        | lst ds =>
          rw [q] at e
          cases e
          obtain ⟨b, e1, e2, xs, e3, e4⟩ := hM n _ q rfl
          rw [h] at e1
          cases e1
          exact .lst (e2.trans e3) (DqAll.sub hs e4)
        | lsw ws =>
          rw [q] at e
          obtain ⟨b, e1, e2, xs, e3, e4⟩ := hM n _ q rfl
          rw [h] at e1
          cases e1
          cases q2 : ws.mapM (fz j M) with
          | none => simp only [q2] at e; cases e
          | some ys =>
            simp only [q2] at e
            cases e
            exact .lst (e2.trans e3) (mapM_all (fun w v x => fz_ok hM hs j w v x) e4 q2)
  | j + 1, .tup ws, v, x, r, e => by
    cases r with
    | tup h t =>
      replace e : (ws.mapM (fz j M)).map .tuple = some x := e
      cases q2 : ws.mapM (fz j M) with
      | none => rw [q2] at e; cases e
      | some ys =>
        rw [q2] at e
        cases e
        exact .tup (TqT.sub hs h) (mapM_all (fun w v x => fz_ok hM hs j w v x) t q2)

theorem subM_len {M : List MO} : ∀ {ix : List Nat} {Mc : List MO}, subM M ix = some Mc → Mc.length = ix.length
  | [], _, e => by cases e; rfl
  | n :: ns, _, e => by
    unfold subM at e
    split at e
    · split at e
      · rename_i r q
        cases e
        simp only [List.length_cons, subM_len q]
      · cases e
    · cases e
theorem subM_at {M : List MO} : ∀ {ix : List Nat} {Mc : List MO} {i n : Nat}, subM M ix = some Mc → ix[i]? = some n → ∃ ds, M[n]? = some (.lst ds) ∧ Mc[i]? = some (.lst ds)
  | [], _, _, _, _, h => by simp at h
  | m :: ns, _, i, n, e, h => by
    unfold subM at e
    split at e
    · rename_i ds q1
      split at e
      · rename_i r q
        cases e
        cases i with
        | zero => simp at h; subst h; exact ⟨ds, q1, rfl⟩
        | succ i =>
          obtain ⟨d2, h1, h2⟩ := subM_at (i := i) q (by simpa using h)
          exact ⟨d2, h1, by simpa using h2⟩
      · cases e
    · cases e
theorem putM_len : ∀ (M : List MO) (ix : List Nat) (os : List MO), (putM M ix os).length = M.length
  | M, [], _ => by unfold putM; rfl
  | M, _ :: _, [] => by unfold putM; rfl
  | M, n :: ns, o :: os => by unfold putM; rw [putM_len, List.length_set]
theorem putM_out : ∀ {M : List MO} {ix : List Nat} {os : List MO} {n : Nat}, n ∉ ix → (putM M ix os)[n]? = M[n]?
  | M, [], _, _, _ => by unfold putM; rfl
  | M, _ :: _, [], _, _ => by unfold putM; rfl
  | M, m :: ns, o :: os, n, h => by
    unfold putM
    rw [putM_out (fun z => h (List.mem_cons_of_mem _ z)), List.getElem?_set_ne (fun z => h (by rw [z]; exact List.mem_cons_self))]
theorem putM_in : ∀ {M : List MO} {ix : List Nat} {os : List MO} {i n : Nat}, ix.Nodup → ix[i]? = some n → n < M.length → os.length = ix.length → (putM M ix os)[n]? = os[i]?
  | M, [], _, _, _, _, h, _, _ => by simp at h
  | M, _ :: _, [], _, _, _, _, _, h => by simp at h
  | M, m :: ns, o :: os, i, n, nd, h, hl, hz => by
    unfold putM
    rw [List.nodup_cons] at nd
    cases i with
    | zero =>
      simp at h
      subst h
      rw [putM_out nd.1, List.getElem?_set_self hl]
      rfl
    | succ i =>
      rw [putM_in (i := i) nd.2 (by simpa using h) (by rw [List.length_set]; exact hl) (by simpa using hz)]
      rfl
theorem relo_ok {K : PySem.W.Frag} {g gc : Gh} (hF : gc.F = g.F) : ∀ {ws : List W} {vs : List V} (k : Nat), RWs K g vs ws → ws.all W.plain = true → (∀ j n, (locs ws)[j]? = some n → gc.ph[k + j]? = g.ph[n]?) → RWs K gc vs (relo k ws)
  | [], _, _, .nil, _, _ => .nil
  | w :: ws, _, k, .cons h t, pl, hj => by
    simp only [List.all_cons, Bool.and_eq_true] at pl
    cases w with
    | d x =>
      refine .cons ?_ (relo_ok hF k t pl.2 hj)
      cases h with
      | d q => exact .d (by rw [hF]; exact q)
    | clo i x =>
      cases h
    | fn x =>
      refine .cons ?_ (relo_ok hF k t pl.2 hj)
      cases h with
      | fn q => exact .fn q
    | kd x =>
      refine .cons ?_ (relo_ok hF k t pl.2 hj)
      cases h with
      | kd h1 h2 h3 => exact .kd (by rw [hF]; exact h1) h2 (by rw [hF]; exact h3)
    | exc x =>
      refine .cons ?_ (relo_ok hF k t pl.2 hj)
      cases h with
      | exc h1 h2 h3 => exact .exc h1 (by rw [hF]; exact h2) (by rw [hF]; exact h3)
    | scr x =>
      refine .cons ?_ (relo_ok hF k t pl.2 hj)
      cases h with
      | scr q => exact .scr (by rw [hF]; exact q)
    | tup x => exact absurd pl.1 (by unfold W.plain; exact Bool.false_ne_true)
    | loc n =>
      refine .cons ?_ (relo_ok hF (k + 1) t pl.2 fun j m e => ?_)
      · cases h with
        | loc q =>
          have z := hj 0 n rfl
          rw [Nat.add_zero] at z
          exact .loc (z.trans q)
      · have z := hj (j + 1) m (by simpa [locs] using e)
        rw [← z, Nat.add_assoc, Nat.add_comm 1 j]
theorem dataOnly_at : ∀ {M : List MO} {i : Nat} {o : MO}, dataOnly M = true → M[i]? = some o → ∃ ds, o = .lst ds
  | [], _, _, _, h => by simp at h
  | .lst ds :: r, 0, _, _, h => by simp at h; exact ⟨ds, h.symm⟩
  | .lst ds :: r, i + 1, _, d, h => dataOnly_at (M := r) (i := i) (by simpa [dataOnly] using d) (by simpa using h)
  | .dead :: _, _, _, d, _ => by simp [dataOnly] at d
  | .lsw _ :: _, _, _, d, _ => by simp [dataOnly] at d
  | .obj _ _ :: _, _, _, d, _ => by simp [dataOnly] at d
  | .dct _ :: _, _, _, d, _ => by simp [dataOnly] at d
  | .dctT _ :: _, _, _, d, _ => by simp [dataOnly] at d

/-- the callee's ghost -/
def ghC (g : Gh) (ix : List Nat) : Gh := ⟨ix.map fun n => g.ph.getD n 0, g.F⟩
section
variable {K : PySem.W.Frag} {g : Gh} {M Mc : List MO} {H : Hp} {ix : List Nat}
theorem ghC_at (g : Gh) {ix : List Nat} {i n : Nat} (h : ix[i]? = some n) : (ghC g ix).ph[i]? = some (g.ph.getD n 0) := by
  show (ix.map fun n => g.ph.getD n 0)[i]? = _
  rw [List.getElem?_map, h]
  rfl
theorem ph_at (R : Rel K g M H) (e : subM M ix = some Mc) {i n : Nat} (h : ix[i]? = some n) : ∃ a, g.ph[n]? = some a ∧ g.ph.getD n 0 = a ∧ (ghC g ix).ph[i]? = some a ∧ g.F a = none := by
  obtain ⟨ds, h1, _⟩ := subM_at e h
  obtain ⟨a, e1, e2, _⟩ := R.at_ n _ h1 rfl
  have z : g.ph.getD n 0 = a := by rw [List.getD_eq_getElem?_getD, e1]; rfl
  exact ⟨a, e1, z, by rw [ghC_at g h, z], e2⟩
theorem mem_ghC (R : Rel K g M H) (e : subM M ix = some Mc) {a : Addr} (h : a ∈ (ghC g ix).ph) : ∃ (i n : Nat), ix[i]? = some n ∧ g.ph[n]? = some a := by
  obtain ⟨i, hi⟩ := List.mem_iff_getElem?.mp h
  have hl : i < ix.length := by
    have := (List.getElem?_eq_some_iff.mp hi).1
    show i < ix.length
    simpa [ghC] using this
  have hn : ix[i]? = some ix[i] := List.getElem?_eq_getElem hl
  obtain ⟨b, e1, _, e3, _⟩ := ph_at R e hn
  rw [hi] at e3
  cases e3
  exact ⟨i, _, hn, e1⟩
theorem rel_ghC (R : Rel K g M H) (e : subM M ix = some Mc) (nd : ix.Nodup) : Rel K (ghC g ix) Mc H := by
  refine ⟨R.sub, ?_, fun i o ho lv => ?_, fun i j a h1 h2 => ?_, fun a hm => let ⟨i, n, _, q⟩ := mem_ghC R e hm; R.tr a (List.mem_of_getElem? q)⟩
  · show (ix.map _).length = _
    rw [List.length_map, subM_len e]
  · have hl : i < ix.length := by rw [← subM_len e]; exact (List.getElem?_eq_some_iff.mp ho).1
    have hn : ix[i]? = some ix[i] := List.getElem?_eq_getElem hl
    obtain ⟨ds, q1, q2⟩ := subM_at e hn
    rw [q2] at ho
    cases ho
    obtain ⟨a, e1, e2, e3, e4⟩ := ph_at R e hn
    obtain ⟨b, f1, f2, xs, f3, f4⟩ := R.at_ _ _ q1 rfl
    rw [e1] at f1
    cases f1
    exact ⟨a, e3, e4, xs, f3, f4⟩
  · have hi : i < ix.length := by
      have := (List.getElem?_eq_some_iff.mp h1).1
      simpa [ghC] using this
    have hj : j < ix.length := by
      have := (List.getElem?_eq_some_iff.mp h2).1
      simpa [ghC] using this
    obtain ⟨b, e1, _, e3, _⟩ := ph_at R e (List.getElem?_eq_getElem hi)
    obtain ⟨c, f1, _, f3, _⟩ := ph_at R e (List.getElem?_eq_getElem hj)
    rw [h1] at e3
    cases e3
    rw [h2] at f3
    cases f3
    exact (List.getElem_inj nd).mp (R.inj _ _ _ e1 f1)
/-- what comes back: the caller's store, the callee's new things frozen -/
theorem back_ok (R : Rel K g M H) (e : subM M ix = some Mc) (nd : ix.Nodup) {g' : Gh} {M' : List MO} {H' : Hp} (R' : Rel K g' M' H') (E' : Ext (ghC g ix) H g' H') (hd : dataOnly (M'.take ix.length) = true) :
    ∃ F2 : Hp, Rel K ⟨g.ph, F2⟩ (putM M ix (M'.take ix.length)) H' ∧ Ext g H ⟨g.ph, F2⟩ H' ∧ Sub g'.F F2 ∧
      ∀ (n : Nat) (o : MO), (List.replicate ix.length MO.dead ++ M'.drop ix.length)[n]? = some o → o.live = true → ∃ a, g'.ph[n]? = some a ∧ F2 a = H' a ∧ MOk K g' H' a o := by
  classical
  have hk : ∀ i n, ix[i]? = some n → ∃ a, g.ph[n]? = some a ∧ g'.ph[i]? = some a ∧ g.F a = none := fun i n h => by
    obtain ⟨a, e1, _, e3, e4⟩ := ph_at R e h
    exact ⟨a, e1, E'.gr.ph _ _ e3, e4⟩
  have hlen : ix.length ≤ M'.length := by
    rcases Nat.lt_or_ge M'.length ix.length with h | h
    · have hn : ix[M'.length]? = some ix[M'.length] := List.getElem?_eq_getElem h
      obtain ⟨a, _, e2, _⟩ := hk _ _ hn
      have := (List.getElem?_eq_some_iff.mp e2).1
      rw [R'.len] at this
      exact absurd this (Nat.lt_irrefl _)
    · exact h
  have notNew : ∀ a i n, ix[i]? = some n → g.ph[n]? = some a → a ∉ g'.ph.drop ix.length := fun a i n h1 h2 hm => by
    obtain ⟨b, f1, f2, _⟩ := hk i n h1
    rw [h2] at f1
    cases f1
    obtain ⟨j, hj⟩ := List.mem_iff_getElem?.mp hm
    rw [List.getElem?_drop] at hj
    have := R'.inj _ _ _ f2 hj
    have hi := (List.getElem?_eq_some_iff.mp h1).1
    omega
  have old : ∀ a, a ∈ g'.ph → a ∈ (ghC g ix).ph ∨ H a = none := E'.newph
  let F2 : Hp := fun b => if b ∈ g'.ph.drop ix.length then H' b else g'.F b
  have s2 : Sub g'.F F2 := fun b o q => by
    show (if b ∈ g'.ph.drop ix.length then H' b else g'.F b) = some o
    by_cases h : b ∈ g'.ph.drop ix.length
    · rw [if_pos h]; exact R'.sub _ _ q
    · rw [if_neg h]; exact q
  have hF2 : ∀ b, b ∉ g'.ph.drop ix.length → F2 b = g'.F b := fun b h => if_neg h
  have liveOut : ∀ n a, n ∉ ix → g.ph[n]? = some a → a ∉ (ghC g ix).ph := fun n a hn h1 hm => by
    obtain ⟨i, m, h2, h3⟩ := mem_ghC R e hm
    have := R.inj _ _ _ h1 h3
    subst this
    exact hn (List.mem_of_getElem? h2)
  refine ⟨F2, ⟨fun b o q => ?_, ?_, fun n o ho lv => ?_, R.inj, fun a hm => ?_⟩, ⟨⟨fun _ _ z => z, E'.gr.F.trans s2⟩, fun a o q hm => E'.keep a o q fun z => ?_, fun a h1 h2 => ?_, fun a h => .inl h⟩, s2, fun n o ho lv => ?_⟩
  · have q' : (if b ∈ g'.ph.drop ix.length then H' b else g'.F b) = some o := q
    by_cases h : b ∈ g'.ph.drop ix.length
    · rw [if_pos h] at q'; exact q'
    · rw [if_neg h] at q'; exact R'.sub _ _ q'
  · show g.ph.length = _
    rw [putM_len]; exact R.len
  · by_cases hn : n ∈ ix
    · obtain ⟨i, hi⟩ := List.mem_iff_getElem?.mp hn
      obtain ⟨a, e1, e2, e3⟩ := hk i n hi
      have hnl : n < M.length := by rw [← R.len]; exact (List.getElem?_eq_some_iff.mp e1).1
      rw [putM_in nd hi hnl (by rw [List.length_take]; omega)] at ho
      obtain ⟨ds, rfl⟩ := dataOnly_at hd ho
      rw [List.getElem?_take] at ho
      split at ho
      · obtain ⟨b, f1, f2, xs, f3, f4⟩ := R'.at_ i _ ho rfl
        rw [e2] at f1
        cases f1
        exact ⟨a, e1, by show F2 a = none; rw [hF2 a (notNew a i n hi e1)]; exact f2, xs, f3, DqAll.sub s2 f4⟩
      · cases ho
    · rw [putM_out hn] at ho
      obtain ⟨a, e1, e2, e3⟩ := R.at_ n o ho lv
      have hna := liveOut n a hn e1
      obtain ⟨u, hu⟩ := e3.there lv
      have n1 : a ∉ g'.ph.drop ix.length := fun hm => by
        rcases old a (List.mem_of_mem_drop hm) with z | z
        · exact hna z
        · rw [hu] at z; cases z
      refine ⟨a, e1, ?_, MOk.gr (g := g) (g' := ⟨g.ph, F2⟩) ⟨fun _ _ z => z, E'.gr.F.trans s2⟩ (fun o' q => E'.keep _ _ q hna) e3⟩
      show F2 a = none
      rw [hF2 a n1]
      cases q : g'.F a with
      | none => rfl
      | some y =>
        rcases E'.new a e2 (by rw [q]; simp) with z | z
        · rw [hu] at z; cases z
        · exact absurd z hna
  · obtain ⟨u, hu⟩ := R.tr a hm
    by_cases hc : a ∈ (ghC g ix).ph
    · obtain ⟨i, n, h1, h2⟩ := mem_ghC R e hc
      obtain ⟨b, f1, f2, _⟩ := hk i n h1
      rw [h2] at f1
      cases f1
      exact R'.tr a (List.mem_of_getElem? f2)
    · exact ⟨u, E'.keep a u hu hc⟩
  · obtain ⟨i, n, _, h2⟩ := mem_ghC R e z
    exact hm (List.mem_of_getElem? h2)
  · have h2' : (if a ∈ g'.ph.drop ix.length then H' a else g'.F a) ≠ none := h2
    have fin : a ∈ (ghC g ix).ph ∨ H a = none → H a = none ∨ a ∈ g.ph := fun z => by
      rcases z with z | z
      · obtain ⟨i, n, _, q⟩ := mem_ghC R e z
        exact .inr (List.mem_of_getElem? q)
      · exact .inl z
    by_cases h : a ∈ g'.ph.drop ix.length
    · exact fin (old a (List.mem_of_mem_drop h))
    · rw [if_neg h] at h2'
      exact fin ((E'.new a h1 h2').symm)
  · by_cases hn : n < ix.length
    · rw [List.getElem?_append_left (by rw [List.length_replicate]; exact hn), List.getElem?_replicate] at ho
      rw [if_pos hn] at ho
      cases ho
      cases lv
    · rw [List.getElem?_append_right (by rw [List.length_replicate]; omega), List.length_replicate, List.getElem?_drop] at ho
      have hz : ix.length + (n - ix.length) = n := by omega
      rw [hz] at ho
      obtain ⟨a, e1, e2, e3⟩ := R'.at_ n o ho lv
      refine ⟨a, e1, ?_, e3⟩
      show (if a ∈ g'.ph.drop ix.length then H' a else g'.F a) = H' a
      rw [if_pos]
      refine List.mem_iff_getElem?.mpr ⟨n - ix.length, ?_⟩
      rw [List.getElem?_drop, hz]
      exact e1
end
theorem me_callF {X : Cx} {k : Nat} {xw : WX} {x : Str} {ps : List Str} {mf : MF} (C : Ctx X k xw) (c : Cal X.prog X.w X.K X.mg X.base k x ps mf) {e : Expr} {es : List Expr} {fs : List EF} {p pos : Pos} (ha : MA X xw (e :: es) fs) (hg : Gl X x := by rfl) (hdb : (x == ("__debug__" : Str)) = false := by decide)
    (he : starEach (e :: es) X.env = (false, eval e X.env) :: starEach es X.env := by rfl) (hpl : (backTo pos (starEach es X.env)).any (·.1) = false := by rfl) :
    ME X xw (.Call (.Name x p) (e :: es) [] pos) (sCallF mf ps.length fs) :=
  PE.imp (pe_callM C c ha hg hdb he hpl) fun σ H Q h => tG_mono (tG_bind (R2 := RWs X.K) h) fun vs H1 ⟨g, ρ, M, ws, R, S, q, b⟩ => by
    unfold callF at b
    split at b
    · rename_i hc
      obtain ⟨hl, hpl, nd⟩ := hc
      cases hs : subM M (locs ws) with
      | none => rw [hs] at b; exact b.elim
      | some Mc =>
        rw [hs] at b
        refine ⟨q.length.trans hl, ghC g (locs ws), relo 0 ws, Mc, rel_ghC R hs nd, relo_ok (g := g) (gc := ghC g (locs ws)) rfl 0 q hpl fun j n e => ?_, ?_⟩
        · obtain ⟨a, e1, _, e3, _⟩ := ph_at R hs e
          rw [Nat.zero_add, e1]; exact e3
        · replace b : Bhd (tx X) (fun c d H => xw c d σ H) (RW X.K) Q (freeze M (locs ws) (mf (relo 0 ws) Mc)) g H1 := b
          cases r : mf (relo 0 ws) Mc with
          | stuck => rw [r] at b; exact b
          | err x M' =>
            rw [r] at b
            unfold freeze at b
            simp only at b
            split at b
            · rename_i hd
              intro cls d g' H' R' E' ix
              obtain ⟨F2, r2, e2, s2, _⟩ := back_ok R hs nd R' E' hd
              exact b cls d _ H' r2 e2 (ix.sub s2)
            · exact b.elim
          | ok w M' =>
            rw [r] at b
            unfold freeze at b
            simp only at b
            split at b
            · rename_i hd
              cases hz : fz 3 (List.replicate (locs ws).length MO.dead ++ M'.drop (locs ws).length) w with
              | none => rw [hz] at b; exact b.elim
              | some x =>
                rw [hz] at b
                intro v g' H' R' E' rw_
                obtain ⟨F2, r2, e2, s2, hM⟩ := back_ok R hs nd R' E' hd
                exact b v _ H' r2 e2 (.d (fz_ok hM s2 3 w v x rw_ hz))
            · exact b.elim
    · exact b.elim
end Y
namespace Y
open PySem PySem.Spec PyProof.Rows L2

/-! ### a def by its body -/
def start0 (n : Nat) (ws : List W) : Rho := ws.map some ++ List.replicate (n - ws.length) none
def fin : SR → Res W
  | .ret w M => .ok w M
  | .nx _ M => .ok (.d .none) M
  | .er e _ M => .err e M
  | _ => .stuck
def defF (n : Nat) (sf : SF) : MF := fun ws M => fin (sf (start0 n ws) M)
theorem rs_start {K : PySem.W.Frag} {g : Gh} {N : List Str} {vs : List V} {ws : List W} (r : RWs K g vs ws) : RS K g (L2.start N vs) (start0 N.length ws) := by
  have hl := r.length
  refine ⟨?_, fun i w e => ?_⟩
  · unfold L2.start start0
    rw [List.length_append, List.length_append, List.length_map, List.length_map, List.length_replicate, List.length_replicate, hl]
  · unfold start0 at e
    by_cases hi : i < ws.length
    · rw [List.getElem?_append_left (by rw [List.length_map]; exact hi), List.getElem?_map, List.getElem?_eq_getElem hi] at e
      cases e
      obtain ⟨v, e1, e2⟩ := r.get (i := i) (List.getElem?_eq_getElem hi)
      refine ⟨v, ?_, e2⟩
      unfold L2.start
      rw [List.getElem?_append_left (by rw [List.length_map]; omega), List.getElem?_map, e1]
      rfl
    · rw [List.getElem?_append_right (by rw [List.length_map]; omega), List.getElem?_replicate] at e
      split at e <;> cases e
theorem guards_deeper {A : Around} {env : Env} (h : A.guards = some []) : (A.deeper env).guards = some [] := by
  first
    | exact h
    | simpa [Around.deeper] using h
theorem ctx_def {P : Program} {w : World} {K : PySem.W.Frag} {mg : Str → Option Value} {base : Heap} {N ps : List Str} {qual : Str} {scope : Scope} {f : Addr} {cd : Value} {A : Around} {outer : List Env} {s : Shared} {H : Hp} {E : XK} {k : Nat}
    (S : FnScope N ps scope) (hr : Room k (A.deeper (envOfC qual scope s.heap.objs.size f cd))) (hg : A.guards = some []) : Ctx (cxOf (L2.CX P w) P w K mg base N qual scope f cd A outer s H E) k (fun c d _ H => E c d H) :=
  ⟨rfl, S.nd, takes_of rfl rfl rfl rfl, passes_of rfl, hr, guards_deeper hg⟩
/-- the rule: the body's mirror for every context -/
theorem fnM_of {P : Program} {w : World} {K : PySem.W.Frag} {mg : Str → Option Value} {base : Heap} {x qual : Str} {st : Stmt} {f : Addr} {fd : FuncData} {N ps : List Str} {k : Nat} {sf : SF} (F : Fun K x qual st f fd) (S : FnScope N ps (defScope st))
    (hbody : ∀ (cdv : Value) (A : Around) (outer : List Env) (s : Shared) (H : Hp) (E : XK), Ctx (cxOf (L2.CX P w) P w K mg base N qual (defScope st) f cdv A outer s H E) k (fun c d _ H => E c d H) →
      MSs (cxOf (L2.CX P w) P w K mg base N qual (defScope st) f cdv A outer s H E) (fun c d _ H => E c d H) (defBody st) sf) : FnM P w K mg base (k + 1) f fd ps (defF N.length sf) := by
  obtain ⟨oc, od, kV, doc, pm, an, cdv, ct, osl, rfl, lk, hcd⟩ := F.ex
  refine ⟨fun A outer s H args us vs Q E hr hgd e0 hb r hl hsp => ?_⟩
  have KX : K.In s.heap := e0.mod.kin.keeps fun b o e => (e0.bs b o e).1
  have lim : s.heap.NoLimit := e0.mod.nolimit.keeps fun b o e => (e0.bs b o e).1
  have hkind : ∀ y ∈ ps.zip us, (defScope st).names.lookup y.1 = some .local ∨ ((defScope st).names.lookup y.1 = some .cell ∧ ((cellsFrom (s.heap.objs.size + 1) (defScope st).names []).lookup y.1).isSome = true) := fun ⟨n, v⟩ hy => by
    rcases S.par n (List.of_mem_zip hy).1 with q | q
    · exact .inl q
    · exact .inr ⟨q, PySem.W.cellsFrom_some _ _ _ (.inl q)⟩
  refine codeAny_call_function hr.depth (KX _ _ lk) rfl S.co S.gen rfl (PySem.W.codeRec_of KX hcd) (hb _ _ _ _ ?_)
  refine wpAny_newFunctionEnv_cells S.kind hkind fun env he s1 x => ?_
  subst he
  refine ⟨lim.keeps x.toInCall.keep, codeAny_func ?_⟩
  have C : Ctx (cxOf (L2.CX P w) P w K mg base N qual (defScope st) f cdv A outer s H E) k (fun c d _ H => E c d H) := ctx_def S (hr.deeper _) hgd
  have ht := hbody cdv A outer s H E C
  have I : Inv (cxOf (L2.CX P w) P w K mg base N qual (defScope st) f cdv A outer s H E) [] (L2.start N vs) H s1 := inv_start S hr.hd e0 hl r x
  have hq : tS ⟨K, mg⟩ (fun c d _ H => E c d H) sf { nx := fun _ H' => Q .non H', rt := Q } (L2.start N vs) H := by
    obtain ⟨g, ws, M, R, rw_, b⟩ := hsp
    refine ⟨g, start0 N.length ws, M, R, rs_start rw_, ?_⟩
    unfold defF at b
    cases e : sf (start0 N.length ws) M with
    | nx ρ M' => rw [e] at b; exact fun σ g' H' r' e' _ => b .non g' H' r' e' (.d .non)
    | ret v M' => rw [e] at b; exact b
    | bk ρ M' => rw [e] at b; exact b.elim
    | ct ρ M' => rw [e] at b; exact b.elim
    | stuck => rw [e] at b; exact b.elim
    | er x ρ M' => rw [e] at b; exact fun c d σ g' H' r' e' _ => b c d g' H' r' e'
  refine wpAny_mono (ht.run [] s1 (L2.start N vs) H _ I hq) (fun fl s' hs => ?_) fun e s' hs => hs
  have fin : ∀ {σ' : L2.St} {H' : Hp} {v : V} {u : Value}, Inv (cxOf (L2.CX P w) P w K mg base N qual (defScope st) f cdv A outer s H E) [] σ' H' s' → RelV v u → Q v H' → CE outer P w H s Q u s' :=
    fun {σ' H' v u} J rv q => ⟨v, H', J.os, J.bare, J.base, J.hok, rv, q⟩
  cases fl with
  | ret u =>
    obtain ⟨v, σ', H', J, rv, q⟩ := hs
    exact fin J rv q
  | next =>
    obtain ⟨σ', H', J, q⟩ := hs
    exact fin (v := V.non) (u := Value.none) J rfl q
  | brk =>
    obtain ⟨_, _, _, q⟩ := hs
    exact False.elim q
  | cont =>
    obtain ⟨_, _, _, q⟩ := hs
    exact False.elim q
/-- what the top says of a def -/
structure Txt1 (K : PySem.W.Frag) (mg : Str → Option Value) (x : Str) (st : Stmt) (ps : List Str) : Prop where
  ex : ∃ (f : Addr) (fd : FuncData), Fun K x x st f fd ∧ mg x = some (.ref f) ∧ Binds K fd ps []
theorem cal_of {P : Program} {w : World} {K : PySem.W.Frag} {mg : Str → Option Value} {base : Heap} {x : Str} {st : Stmt} {N ps : List Str} {k : Nat} {sf : SF} (t : Txt1 K mg x st ps) (S : FnScope N ps (defScope st))
    (hbody : ∀ (f : Addr) (cdv : Value) (A : Around) (outer : List Env) (s : Shared) (H : Hp) (E : XK), Ctx (cxOf (L2.CX P w) P w K mg base N x (defScope st) f cdv A outer s H E) k (fun c d _ H => E c d H) →
      MSs (cxOf (L2.CX P w) P w K mg base N x (defScope st) f cdv A outer s H E) (fun c d _ H => E c d H) (defBody st) sf) : Cal P w K mg base (k + 1) x ps (defF N.length sf) :=
  let ⟨f, fd, F, m, b⟩ := t.ex
  ⟨f, fd, fnM_of F S (hbody f), m, F.kp, b⟩
end Y
namespace Y
open PySem PySem.Spec L2

/-! ### what is walked -/
structure ItOk (K : PySem.W.Frag) (F0 : Hp) (J : It) (ds : List PyData) : Prop where
  go : ∀ (i : Nat) (H : Hp), i < ds.length → Sub F0 H → J.go i H
  stop : ∀ (H : Hp), Sub F0 H → J.stop ds.length H
  yld : ∀ (i : Nat) (d : PyData) (F H : Hp) (x : V) (H' : Hp), ds[i]? = some d → Sub F0 F → Sub F H → J.yld i H x H' → ∃ F', Lay F H F' H' ∧ Dq K F' x d
theorem ItOk.sub {K : PySem.W.Frag} {F0 F1 : Hp} {J : It} {ds : List PyData} (h : ItOk K F0 J ds) (s : Sub F0 F1) : ItOk K F1 J ds :=
  ⟨fun i H l q => h.go i H l (s.trans q), fun H q => h.stop H (s.trans q), fun i d F H x H' e q => h.yld i d F H x H' e (s.trans q)⟩
abbrev IF := Rho → List MO → Res (List PyData)
abbrev tI (T : Tx) (xw : WX) (f : IF) : TI := tG T xw (fun g (J : It) ds => ItOk T.K g.F J ds) f
abbrev MI (X : Cx) (xw : WX) (tg iter : Expr) (f : IF) : Prop := PI X tg iter (tI (tx X) xw f)
theorem PI.imp {X : Cx} {tg iter : Expr} {t t' : TI} (h : PI X tg iter t) (k : ∀ σ H Q, t' σ H Q → t σ H Q) : PI X tg iter t' := ⟨fun pins s σ H R I q => h.run pins s σ H R I (k σ H R q)⟩

/-! ### targets -/
def Off (vs : List Nat) (σ σ' : L2.St) : Prop := σ'.length = σ.length ∧ ∀ j : Nat, j ∉ vs → σ'[j]? = σ[j]?
theorem Off.trans {a b : List Nat} {σ σ' σ'' : L2.St} (h : Off a σ σ') (k : Off b σ' σ'') : Off (a ++ b) σ σ'' :=
  ⟨k.1.trans h.1, fun j hj => (k.2 j fun z => hj (List.mem_append_right _ z)).trans (h.2 j fun z => hj (List.mem_append_left _ z))⟩
theorem wipe_at (σ : L2.St) (j : Nat) : ∀ vs : List Nat, (wipe σ vs)[j]? = if j ∈ vs then (if j < σ.length then some none else none) else σ[j]?
  | [] => by simp [wipe]
  | v :: vs => by
    unfold wipe
    by_cases hj : v = j
    · subst hj
      by_cases hl : v < σ.length
      · rw [List.getElem?_set_self (by rw [wipe_length]; exact hl)]
        simp [hl]
      · rw [List.getElem?_eq_none (by rw [List.length_set, wipe_length]; omega)]
        simp [hl]
    · rw [List.getElem?_set_ne hj, wipe_at σ j vs]
      have : j ≠ v := fun e => hj e.symm
      simp [this]
theorem wipe_off {vs ws : List Nat} {σ σ' : L2.St} (h : Off vs (wipe σ ws) σ') (s : ∀ v ∈ vs, v ∈ ws) : wipe σ' ws = wipe σ ws := by
  apply List.ext_getElem?
  intro j
  have hl : σ'.length = σ.length := by rw [h.1, wipe_length]
  rw [wipe_at, wipe_at, hl]
  by_cases hj : j ∈ ws
  · rw [if_pos hj, if_pos hj]
  · rw [if_neg hj, if_neg hj, h.2 j fun z => hj (s j z), wipe_at, if_neg hj]
abbrev GF := W → Rho → List MO → Option (Rho × List MO)
def tGt (T : Tx) (vs : List Nat) (gt : GF) : TG := fun v σ H Q => ∃ (g : Gh) (ρ : Rho) (M : List MO) (w : W), Rel T.K g M H ∧ RS T.K g σ ρ ∧ RW T.K g v w ∧
  ∃ ρ' M', gt w ρ M = some (ρ', M') ∧ ∀ σ' g' H', Rel T.K g' M' H' → Ext g H g' H' → RS T.K g' σ' ρ' → Off vs σ σ' → Q σ' H'
abbrev MG (X : Cx) (tg : Expr) (vs : List Nat) (gt : GF) : Prop := PG X tg (tGt (tx X) vs gt)
theorem PG.imp {X : Cx} {tg : Expr} {t t' : TG} (h : PG X tg t) (k : ∀ v σ H Q, t' v σ H Q → t v σ H Q) : PG X tg t' := ⟨fun pins s σ H v u Q I r q => h.run pins s σ H v u Q I r (k v σ H Q q)⟩
theorem PGs.imp {X : Cx} {tg : List Expr} {t t' : TGs} (h : PGs X tg t) (k : ∀ v σ H Q, t' v σ H Q → t v σ H Q) : PGs X tg t' := ⟨fun pins s σ H v u Q I r q => h.run pins s σ H v u Q I r (k v σ H Q q)⟩
def gN (i : Nat) : GF := fun w ρ M => some (ρ.set i (some w), M)
theorem mg_name {X : Cx} {x : Str} {pos : Pos} (i : Nat) (hN : X.N.Nodup) (hi : X.N[i]? = some x := by rfl) (hx : Loc X.env.scope x := by first | exact Or.inl rfl | exact Or.inr rfl) (hf : X.fn x = true ∨ X.env.scope.names.lookup x = some .local := by first | exact .inl rfl | exact .inr rfl) :
    MG X (.Name x pos) [i] (gN i) :=
  PG.imp (pg_name hN hi hx hf) fun v σ H Q ⟨g, ρ, M, w, R, S, r, ρ', M', e, k⟩ => by
    cases e
    exact k _ g H R (Ext.refl _ _) (S.set i r) ⟨by rw [List.length_set], fun j hj => by rw [List.getElem?_set_ne (fun z => hj (by simp [z]))]⟩
/-- several targets over data -/
def gs : List GF → List PyData → Rho → List MO → Option (Rho × List MO)
  | [], [], ρ, M => some (ρ, M)
  | t :: ts, d :: ds, ρ, M => match t (.d d) ρ M with
    | some (ρ', M') => gs ts ds ρ' M'
    | none => none
  | _, _, _, _ => none
def tGts (T : Tx) (us : List Nat) (ts : List GF) : TGs := fun v σ H Q => ∃ (g : Gh) (ρ : Rho) (M : List MO) (ds : List PyData), Rel T.K g M H ∧ RS T.K g σ ρ ∧ DqAll T.K g.F v ds ∧
  ∃ ρ' M', gs ts ds ρ M = some (ρ', M') ∧ ∀ σ' g' H', Rel T.K g' M' H' → Ext g H g' H' → RS T.K g' σ' ρ' → Off us σ σ' → Q σ' H'
abbrev MGs (X : Cx) (tg : List Expr) (vs : List Nat) (ts : List GF) : Prop := PGs X tg (tGts (tx X) vs ts)
theorem mgs_nil {X : Cx} : MGs X [] [] [] := PGs.imp pgs_nil fun v σ H Q ⟨g, ρ, M, ds, R, S, r, ρ', M', e, k⟩ => by
  cases ds with
  | nil =>
    cases r
    cases e
    exact ⟨rfl, k σ g H R (Ext.refl _ _) S ⟨rfl, fun _ _ => rfl⟩⟩
  | cons d ds => cases e
theorem mgs_cons {X : Cx} {e : Expr} {es : List Expr} {vs us : List Nat} {t : GF} {ts : List GF} (h1 : MG X e vs t) (h2 : MGs X es us ts) (hs : (assignEach (e :: es) X.env).map (·.2) = assign e X.env :: (assignEach es X.env).map (·.2) := by rfl) : MGs X (e :: es) (vs ++ us) (t :: ts) :=
  PGs.imp (pgs_cons h1 h2 hs) fun v σ H Q ⟨g, ρ, M, ds, R, S, r, ρ', M', e, k⟩ => by
    cases ds with
    | nil => cases e
    | cons d ds =>
      cases r with
      | cons rd rr =>
        rename_i u us'
        unfold gs at e
        cases q : t (.d d) ρ M with
        | none => rw [q] at e; cases e
        | some y =>
          obtain ⟨ρ1, M1⟩ := y
          rw [q] at e
          refine ⟨_, _, rfl, g, ρ, M, .d d, R, S, .d rd, ρ1, M1, q, fun σ1 g1 H1 R1 E1 S1 O1 => ?_⟩
          exact ⟨g1, ρ1, M1, ds, R1, S1, DqAll.sub E1.gr.F rr, ρ', M', e, fun σ2 g2 H2 R2 E2 S2 O2 => k σ2 g2 H2 R2 (E1.trans E2) S2 (O1.trans O2)⟩
def gT (ts : List GF) : GF := fun w ρ M => match w with
  | .d (.tuple ds) => gs ts ds ρ M
  | _ => none
theorem gs_len : ∀ {ts : List GF} {ds : List PyData} {ρ : Rho} {M : List MO} {y : Rho × List MO}, gs ts ds ρ M = some y → ds.length = ts.length
  | [], [], _, _, _, _ => rfl
  | [], _ :: _, _, _, _, e => by cases e
  | _ :: _, [], _, _, _, e => by cases e
  | t :: ts, d :: ds, ρ, M, y, e => by
    unfold gs at e
    split at e
    · rw [List.length_cons, List.length_cons, gs_len e]
    · cases e
theorem mg_tup {X : Cx} {es : List Expr} {k : Nat} {pos : Pos} {vs : List Nat} {ts : List GF} (hc : X.calm = true) (h : MGs X es vs ts) (hl : ts.length = es.length := by rfl) (hn : (assignEach es X.env).length = es.length := by rfl) (hst : (assignEach es X.env).findIdx? (·.1) = none := by rfl) :
    MG X (.Tuple es k pos) vs (gT ts) :=
  PG.imp (pg_tup (n := es.length) hc h hn hst) fun v σ H Q ⟨g, ρ, M, w, R, S, r, ρ', M', e, kk⟩ => by
    cases w with
    | loc n => cases e
    | tup n => cases e
    | scr n => cases e
    | exc n => cases e
    | kd n => cases e
    | clo _ n => cases e
    | fn n => cases e
    | d x =>
      cases x with
      | tuple ds =>
        cases r with
        | d r =>
          cases r with
          | tup hs ha =>
            refine ⟨_, _, rfl, TqT.up R.sub hs, ?_, g, ρ, M, ds, R, S, ha, ρ', M', e, kk⟩
            rw [ha.length, gs_len e, hl]
      | none => cases e
      | bool _ => cases e
      | int _ => cases e
      | str _ => cases e
      | list _ => cases e
      | dict _ => cases e

/-! ### for -/
def forL (gt : GF) (body : SF) : List PyData → SF
  | [], ρ, M => .nx ρ M
  | d :: ds, ρ, M => match gt (.d d) ρ M with
    | some (ρ1, M1) => match body ρ1 M1 with
      | .nx ρ2 M2 => forL gt body ds ρ2 M2
      | .ct ρ2 M2 => forL gt body ds ρ2 M2
      | .bk ρ2 M2 => .nx ρ2 M2
      | r => r
    | none => .stuck
def sFor (it : IF) (gt : GF) (body : SF) : SF := fun ρ M => match it ρ M with
  | .ok ds M1 => forL gt body ds ρ M1
  | .err e M1 => .er e ρ M1
  | .stuck => .stuck
theorem ms_for {X : Cx} {k : Nat} {xw : WX} {tg iter : Expr} {body : List Stmt} {fi : IF} {vs : List Nat} {gt : GF} {fb : SF} {pos : Pos} (C : Ctx X k xw) (hi : MI X xw tg iter fi) (hg : MG X tg vs gt) (hb : MSs X xw body fb)
    (hs : ∀ x, foldedSetIterable iter X.env x = pure x := by intro _; rfl) : MS X xw (.For tg iter body [] pos) (sFor fi gt fb) :=
  PS.imp (ps_for C.own C.calm hi hg hb hs) fun D σ H ⟨g0, ρ0, M0, R0, S0, b0⟩ => by
    refine ⟨g0, ρ0, M0, R0, S0, ?_⟩
    unfold sFor at b0
    cases ei : fi ρ0 M0 with
    | stuck => rw [ei] at b0; exact b0
    | err x M2 => rw [ei] at b0; exact fun c d g' H' r' e' q' => b0 c d σ g' H' r' e' (S0.gr e'.gr) q'
    | ok ds M2 =>
      rw [ei] at b0
      intro J g1 H1 R1 E1 hJ
      refine ⟨fun i m σ H => m = ds.length - i ∧ i ≤ ds.length ∧ ∃ g ρ M, Rel X.K g M H ∧ RS X.K g σ ρ ∧ Sub g1.F g.F ∧ BhdS (tx X) xw D (forL gt fb (ds.drop i) ρ M) g H,
        ⟨ds.length, rfl, Nat.zero_le _, g1, ρ0, M2, R1, S0.gr E1.gr, Sub.refl _, BhdS.later b0 E1⟩, ?_⟩
      rintro i m σ H ⟨rfl, hi, g, ρ, M, R, S, sF, b⟩
      by_cases hlt : i < ds.length
      · have hd : ds[i]? = some ds[i] := List.getElem?_eq_getElem hlt
        rw [List.drop_eq_getElem_cons hlt] at b
        unfold forL at b
        cases eg : gt (.d ds[i]) ρ M with
        | none => rw [eg] at b; exact b.elim
        | some y =>
          obtain ⟨ρ1, M1⟩ := y
          rw [eg] at b
          simp only at b
          refine .inr ⟨hJ.go i H hlt (sF.trans R.sub), fun σ' H' => ∃ g ρ M, Rel X.K g M H' ∧ RS X.K g σ' ρ ∧ Sub g1.F g.F ∧ BhdS (tx X) xw D (forL gt fb (ds.drop (i + 1)) ρ M) g H',
            fun σ' H' n => ⟨ds.length - (i + 1), by omega, rfl, hlt, n⟩, fun x H' hy => ?_⟩
          obtain ⟨F', L, dq⟩ := hJ.yld i _ g.F H x H' hd sF R.sub hy
          refine ⟨⟨g.ph, F'⟩, ρ, M, .d ds[i], L.rel R, S.gr L.ext.gr, .d dq, ρ1, M1, eg, fun σ2 g2 H2 R2 E2 S2 _ => ⟨g2, ρ1, M1, R2, S2, ?_⟩⟩
          have E3 := L.ext.trans E2
          cases eb : fb ρ1 M1 with
          | nx ρ2 M2 => rw [eb] at b; exact fun σ' g' H' r' e' s' => ⟨g', ρ2, M2, r', s', sF.trans (E3.trans e').gr.F, BhdS.later b (E3.trans e')⟩
          | ct ρ2 M2 => rw [eb] at b; exact fun σ' g' H' r' e' s' => ⟨g', ρ2, M2, r', s', sF.trans (E3.trans e').gr.F, BhdS.later b (E3.trans e')⟩
          | bk ρ2 M2 => rw [eb] at b; exact fun σ' g' H' r' e' s' => BhdS.later b E3 σ' g' H' r' e' s'
          | ret ρ2 M2 => rw [eb] at b; exact fun σ' g' H' r' e' s' => BhdS.later b E3 σ' g' H' r' e' s'
          | er x ρ2 M2 => rw [eb] at b; exact fun c d σ' g' H' r' e' s' => BhdS.later b E3 c d σ' g' H' r' e' s'
          | stuck => rw [eb] at b; exact b.elim
      · have hz : ds.drop i = [] := List.drop_of_length_le (by omega)
        rw [hz] at b
        exact .inl ⟨by rw [show i = ds.length by omega]; exact hJ.stop H (sF.trans R.sub), b σ g H R (Ext.refl _ _) S⟩

/-! ### comprehensions -/
def wip (ρ : Rho) : List Nat → Rho
  | [] => ρ
  | v :: vs => (wip ρ vs).set v none
theorem rs_wip {K : PySem.W.Frag} {g : Gh} {σ : L2.St} {ρ : Rho} (S : RS K g σ ρ) : ∀ vs : List Nat, RS K g (wipe σ vs) (wip ρ vs)
  | [] => S
  | v :: vs => (rs_wip S vs).unset v
def compL (gt : GF) (tt : TF) (te : EF) (ρ : Rho) : List PyData → List MO → Option (List PyData × List MO)
  | [], M => some ([], M)
  | d :: ds, M => match gt (.d d) ρ M with
    | some (ρ1, M1) => match tt ρ1 M1 with
      | .ok true M2 => match te ρ1 M2 with
        | .ok (.d x) M3 => match compL gt tt te ρ ds M3 with
          | some (xs, M4) => some (x :: xs, M4)
          | none => none
        | _ => none
      | .ok false M2 => compL gt tt te ρ ds M2
      | _ => none
    | none => none
def sLc (it : IF) (gt : GF) (tt : TF) (te : EF) (vs : List Nat) : EF := fun ρ M => (it ρ M).bind fun ds M1 => if ds.length ≤ sizeLine then match compL gt tt te (wip ρ vs) ds M1 with
    | some (xs, M2) => .ok (.d (.list xs)) M2
    | none => .stuck
  else .stuck
def sYes : TF := fun _ M => .ok true M
abbrev MTs (X : Cx) (ifs : List Expr) (f : TF) : Prop := PTs X ifs (tT (tx X) xw0 f)
theorem PTs.imp {X : Cx} {e : List Expr} {t t' : TT} (h : PTs X e t) (k : ∀ σ H Q, t' σ H Q → t σ H Q) : PTs X e t' := ⟨fun pins s σ H Q I q => h.run pins s σ H Q I (k σ H Q q)⟩
theorem mts_nil {X : Cx} : MTs X [] sYes := PTs.imp pts_nil fun σ H Q ⟨g, ρ, M, R, S, b⟩ => b true g H R (Ext.refl _ _) rfl
theorem mts_one {X : Cx} {c : Expr} {f : TF} (h : MT X xw0 c f) : MTs X [c] f := pts_one h
theorem Rel.updD {K : PySem.W.Frag} {g : Gh} {M : List MO} {H : Hp} {D : Addr} {o : HO} (R : Rel K g M H) (h1 : g.F D = none) (h2 : D ∉ g.ph) : Rel K g M (upd H D o) := by
  have ne : ∀ a, a ∈ g.ph → a ≠ D := fun a hm z => h2 (by rw [← z]; exact hm)
  refine ⟨fun a u e => ?_, R.len, fun n u e l => ?_, R.inj, fun a hm => ?_⟩
  · rw [upd_ne (ne_of_none e h1)]; exact R.sub _ _ e
  · obtain ⟨a, e1, e2, e3⟩ := R.at_ n u e l
    refine ⟨a, e1, e2, MOk.gr (Gr.refl g) (fun o' q => ?_) e3⟩
    rw [upd_ne (ne a (List.mem_of_getElem? e1))]
    exact q
  · obtain ⟨u, q⟩ := R.tr a hm
    exact ⟨u, by rw [upd_ne (ne a hm)]; exact q⟩
theorem Ext.updD {g g1 : Gh} {H H1 : Hp} {D : Addr} {o : HO} (E : Ext g1 H1 g H) (h : H1 D = none) : Ext g1 H1 g (upd H D o) :=
  ⟨E.gr, fun a u e n => by rw [upd_ne (ne_of_none e h)]; exact E.keep a u e n, E.new, E.newph⟩
theorem Ext.outD {g g' : Gh} {H H' : Hp} {D : Addr} {o : HO} (E : Ext g H g' H') (hD : H D = some o) (h1 : g.F D = none) (h2 : D ∉ g.ph) : H' D = some o ∧ g'.F D = none ∧ D ∉ g'.ph := by
  refine ⟨E.keep D o hD h2, ?_, fun z => ?_⟩
  · cases q : g'.F D with
    | none => rfl
    | some u =>
      rcases E.new D h1 (by rw [q]; simp) with z | z
      · rw [hD] at z; cases z
      · exact absurd z h2
  · rcases E.newph D z with y | y
    · exact h2 y
    · rw [hD] at y; cases y
theorem lc_core {T : Tx} {xq : Value → Option Addr → Hp → Prop} {gt : GF} {tt : TF} {te : EF} {vs us : List Nat} (hus : ∀ v ∈ us, v ∈ vs) {σ : L2.St} {H1 : Hp} {Q : VK} {J : It} {g1 : Gh} {ρ : Rho} {M1 : List MO} {ds : List PyData} (R1 : Rel T.K g1 M1 H1) (S1 : RS T.K g1 σ ρ) (hJ : ItOk T.K g1.F J ds)
    (b : Bhd T xq (RW T.K) Q (if ds.length ≤ sizeLine then match compL gt tt te (wip ρ vs) ds M1 with
      | some (xs, M2) => .ok (.d (.list xs)) M2
      | none => .stuck
    else .stuck) g1 H1) :
    tLc (fun _ H R => R J H) (tGt T us gt) (tT T xw0 tt) (tE T xw0 te) vs σ H1 Q := by
  refine fun D hD => ?_
  by_cases hz : ds.length ≤ sizeLine
  · rw [if_pos hz] at b
    cases ec : compL gt tt te (wip ρ vs) ds M1 with
    | none => rw [ec] at b; exact b.elim
    | some y =>
      obtain ⟨all, Mend⟩ := y
      rw [ec] at b
      have hF : g1.F D = none := R1.sub.none hD
      have hph : D ∉ g1.ph := fun z => by obtain ⟨u, q⟩ := R1.tr D z; rw [hD] at q; cases q
      refine ⟨fun i m H => m = ds.length - i ∧ i ≤ ds.length ∧ ∃ (g : Gh) (M : List MO) (acc : List V) (xs ys : List PyData), Rel T.K g M H ∧ Ext g1 H1 g H ∧ H D = some (.lst acc) ∧ g.F D = none ∧ D ∉ g.ph ∧ DqAll T.K g.F acc xs ∧ acc.length ≤ i ∧
          compL gt tt te (wip ρ vs) (ds.drop i) M = some (ys, Mend) ∧ all = xs ++ ys,
        ⟨ds.length, rfl, Nat.zero_le _, g1, M1, [], [], all, R1.updD hF hph, (Ext.refl _ _).updD hD, upd_same, hF, hph, .nil, Nat.le_refl _, ec, rfl⟩, ?_⟩
      rintro i m H ⟨rfl, hi, g, M, acc, xs, ys, R, E, hDa, hFD, hphD, da, hal, ec', eall⟩
      have sF : Sub g1.F g.F := E.gr.F
      by_cases hlt : i < ds.length
      · have hd : ds[i]? = some ds[i] := List.getElem?_eq_getElem hlt
        rw [List.drop_eq_getElem_cons hlt] at ec'
        unfold compL at ec'
        cases eg : gt (.d ds[i]) (wip ρ vs) M with
        | none => rw [eg] at ec'; cases ec'
        | some y =>
          obtain ⟨ρ1, Mg⟩ := y
          rw [eg] at ec'
          simp only at ec'
          cases et : tt ρ1 Mg with
          | stuck => rw [et] at ec'; cases ec'
          | err _ _ => rw [et] at ec'; cases ec'
          | ok bb M2 =>
            rw [et] at ec'
            refine .inr ⟨hJ.go i H hlt (sF.trans R.sub), fun H' => ∃ (g : Gh) (M : List MO) (acc : List V) (xs ys : List PyData), Rel T.K g M H' ∧ Ext g1 H1 g H' ∧ H' D = some (.lst acc) ∧ g.F D = none ∧ D ∉ g.ph ∧ DqAll T.K g.F acc xs ∧ acc.length ≤ i + 1 ∧
              compL gt tt te (wip ρ vs) (ds.drop (i + 1)) M = some (ys, Mend) ∧ all = xs ++ ys, fun H' n => ⟨ds.length - (i + 1), by omega, rfl, hlt, n⟩, fun x H' hy => ?_⟩
            obtain ⟨F', L, dq⟩ := hJ.yld i _ g.F H x H' hd sF R.sub hy
            refine ⟨⟨g.ph, F'⟩, wip ρ vs, M, .d ds[i], L.rel R, rs_wip (S1.gr (E.gr.trans L.ext.gr)) vs, .d dq, ρ1, Mg, eg, fun σ2 g2 H2 R2 E2 S2 O2 => ⟨wipe_off O2 hus, g2, ρ1, Mg, R2, S2, ?_⟩⟩
            rw [et]
            intro b' g3 H3 R3 E3 hb
            have hb' : b' = bb := hb
            subst hb'
            have E03 : Ext g H g3 H3 := (L.ext.trans E2).trans E3
            obtain ⟨o1, o2, o3⟩ := E03.outD hDa hFD hphD
            cases b' with
            | false => exact iteF ⟨g3, M2, acc, xs, ys, R3, E.trans E03, o1, o2, o3, DqAll.sub E03.gr.F da, by omega, ec', eall⟩
            | true =>
              simp only at ec'
              refine iteT ⟨g3, ρ1, M2, R3, S2.gr E3.gr, ?_⟩
              cases ee : te ρ1 M2 with
              | stuck => rw [ee] at ec'; cases ec'
              | err _ _ => rw [ee] at ec'; cases ec'
              | ok w M3 =>
                cases w with
                | loc n => rw [ee] at ec'; cases ec'
                | tup n => rw [ee] at ec'; cases ec'
                | scr n => rw [ee] at ec'; cases ec'
                | exc n => rw [ee] at ec'; cases ec'
                | kd n => rw [ee] at ec'; cases ec'
                | clo _ n => rw [ee] at ec'; cases ec'
                | fn n => rw [ee] at ec'; cases ec'
                | d z =>
                  rw [ee] at ec'
                  simp only at ec'
                  cases er : compL gt tt te (wip ρ vs) (ds.drop (i + 1)) M3 with
                  | none => rw [er] at ec'; cases ec'
                  | some y =>
                    obtain ⟨zs, M4⟩ := y
                    rw [er] at ec'
                    cases ec'
                    intro v g4 H4 R4 E4 rv
                    have E04 := E03.trans E4
                    obtain ⟨p1, p2, p3⟩ := E04.outD hDa hFD hphD
                    cases rv with
                    | d dz =>
                      refine ⟨acc, p1, by omega, g4, M3, acc ++ [v], xs ++ [z], zs, R4.updD p2 p3, (E.trans E04).updD hD, upd_same, p2, p3, DqAll.append (DqAll.sub E04.gr.F da) (.cons dz .nil), ?_, er, ?_⟩
                      · rw [List.length_append]; show acc.length + 1 ≤ _; omega
                      · rw [eall, List.append_assoc]; rfl
      · have hz' : ds.drop i = [] := List.drop_of_length_le (by omega)
        rw [hz'] at ec'
        unfold compL at ec'
        cases ec'
        refine .inl ⟨by rw [show i = ds.length by omega]; exact hJ.stop H (sF.trans R.sub), ?_⟩
        refine b (.ref D) ⟨g.ph, upd g.F D (.lst acc)⟩ H ⟨fun a u q => ?_, R.len, fun n u e l => ?_, R.inj, R.tr⟩ ⟨⟨E.gr.ph, E.gr.F.trans (Sub.upd hFD)⟩, E.keep, fun a h1 h2 => ?_, E.newph⟩ (.d ?_)
        · have q' : upd g.F D (.lst acc) a = some u := q
          by_cases h : a = D
          · subst h
            rw [upd_same] at q'
            rw [hDa]; exact q'
          · rw [upd_ne h] at q'; exact R.sub _ _ q'
        · obtain ⟨a, e1, e2, e3⟩ := R.at_ n u e l
          refine ⟨a, e1, ?_, MOk.gr (g := g) (g' := ⟨g.ph, upd g.F D (.lst acc)⟩) ⟨fun _ _ z => z, Sub.upd hFD⟩ (fun _ q => q) e3⟩
          show upd g.F D (.lst acc) a = none
          rw [upd_ne (fun z => hphD (by rw [← z]; exact List.mem_of_getElem? e1))]
          exact e2
        · by_cases h : a = D
          · subst h; exact .inl hD
          · refine E.new a h1 ?_
            have h2' : upd g.F D (.lst acc) a ≠ none := h2
            rw [upd_ne h] at h2'
            exact h2'
        · rw [eall, List.append_nil]
          exact .lst upd_same (DqAll.sub (Sub.upd hFD) da)
  · rw [if_neg hz] at b; exact b.elim
theorem lc_imp {T : Tx} {xw : WX} {fi : IF} {gt : GF} {tt : TF} {te : EF} {vs us : List Nat} (hus : ∀ v ∈ us, v ∈ vs) {σ : L2.St} {H : Hp} {Q : VK} (h : tE T xw (sLc fi gt tt te vs) σ H Q) :
    tLc (tI T xw fi) (tGt T us gt) (tT T xw0 tt) (tE T xw0 te) vs σ H Q :=
  tG_mono (tG_bind (R2 := fun g (J : It) ds => ItOk T.K g.F J ds) h) fun J H1 ⟨g1, ρ, M1, ds, R1, S1, hJ, b⟩ => lc_core (xq := fun c d H => xw c d σ H) hus R1 S1 hJ b
theorem me_lc {X : Cx} {k : Nat} {xw : WX} {elt tg iter : Expr} {ifs : List Expr} {scope : Scope} {own : List (Str × Nat)} {pos : Pos} {fi : IF} {gt : GF} {tt : TF} {te : EF} {us : List Nat} (C : Ctx X k xw) (hi : MI X xw tg iter fi) (ok : BlkOk X.N X.env.scope scope own)
    (hg : ∀ (s : Shared) (H : Hp) (A : Addr) (cl : List (Str × Addr)) (fp : List Addr), Ctx (X.blk s H scope (compEnvC scope cl A X.env) fp) k xw0 → MG (X.blk s H scope (compEnvC scope cl A X.env) fp) tg us gt) (ht : ∀ (s : Shared) (H : Hp) (A : Addr) (cl : List (Str × Addr)) (fp : List Addr), Ctx (X.blk s H scope (compEnvC scope cl A X.env) fp) k xw0 → MTs (X.blk s H scope (compEnvC scope cl A X.env) fp) ifs tt)
    (he : ∀ (s : Shared) (H : Hp) (A : Addr) (cl : List (Str × Addr)) (fp : List Addr), Ctx (X.blk s H scope (compEnvC scope cl A X.env) fp) k xw0 → ME (X.blk s H scope (compEnvC scope cl A X.env) fp) xw0 elt te) (hus : ∀ v ∈ us, v ∈ own.map (·.2) := by decide) (hs : ∀ x, foldedSetIterable iter X.env x = pure x := by intro _; rfl) :
    ME X xw (.ListComp elt [⟨tg, iter, ifs, 0⟩] scope pos) (sLc fi gt tt te (own.map (·.2))) :=
  PE.imp (pe_lc C.calm C.nd hi ok (fun s H A cl fp => hg s H A cl fp (C.blk _ _ _ _ _)) (fun s H A cl fp => ht s H A cl fp (C.blk _ _ _ _ _)) (fun s H A cl fp => he s H A cl fp (C.blk _ _ _ _ _)) hs) fun σ H Q h => lc_imp (T := tx X) hus h
theorem ms_setLc {X : Cx} {k : Nat} {xw : WX} {i : Nat} {y : Str} {py : Pos} {elt tg iter : Expr} {ifs : List Expr} {scope : Scope} {own : List (Str × Nat)} {pos spos : Pos} {fi : IF} {gt : GF} {tt : TF} {te : EF} {us : List Nat} (C : Ctx X k xw) (hi : MI X xw tg iter fi) (ok : BlkOk X.N X.env.scope scope own)
    (hg : ∀ (s : Shared) (H : Hp) (A : Addr) (cl : List (Str × Addr)) (fp : List Addr), Ctx (X.blk s H scope (compEnvC scope cl A X.env) fp) k xw0 → MG (X.blk s H scope (compEnvC scope cl A X.env) fp) tg us gt) (ht : ∀ (s : Shared) (H : Hp) (A : Addr) (cl : List (Str × Addr)) (fp : List Addr), Ctx (X.blk s H scope (compEnvC scope cl A X.env) fp) k xw0 → MTs (X.blk s H scope (compEnvC scope cl A X.env) fp) ifs tt)
    (he : ∀ (s : Shared) (H : Hp) (A : Addr) (cl : List (Str × Addr)) (fp : List Addr), Ctx (X.blk s H scope (compEnvC scope cl A X.env) fp) k xw0 → ME (X.blk s H scope (compEnvC scope cl A X.env) fp) xw0 elt te) (hy : X.N[i]? = some y := by rfl) (hyl : X.env.scope.names.lookup y = some .local := by rfl)
    (hsw : swapsWith (.ListComp elt [⟨tg, iter, ifs, 0⟩] scope pos) (some (.Name y py)) spos.line X.env = pure true := by exact (sw_true rfl rfl rfl (by decide +kernel))) (hus : ∀ v ∈ us, v ∈ own.map (·.2) := by decide) (hs : ∀ x, foldedSetIterable iter X.env x = pure x := by intro _; rfl) :
    MS X xw (.Assign [.Name y py] (.ListComp elt [⟨tg, iter, ifs, 0⟩] scope pos) spos) (sSet i (sLc fi gt tt te (own.map (·.2)))) :=
  PS.imp (ps_setLc C.calm C.nd hy hyl hsw hi ok (fun s H A cl fp => hg s H A cl fp (C.blk _ _ _ _ _)) (fun s H A cl fp => ht s H A cl fp (C.blk _ _ _ _ _)) (fun s H A cl fp => he s H A cl fp (C.blk _ _ _ _ _)) hs) fun D σ H q => lc_imp (T := tx X) hus (tG_mono (tS_then q) fun v H1 ⟨g, ρ, M, w, R, S, r, b⟩ => b _ g H1 R (Ext.refl _ _) (S.set i r))
end Y
namespace Y
open PySem PySem.Spec PyProof.Rows L2

/-! ### walking a list, a tuple, a text -/
def chs (s : Str) : List PyData := s.cps.toList.map fun c => .str ⟨#[c]⟩
def itD (f : EF) : IF := fun ρ M => (f ρ M).bind fun w M => match w with
  | .d (.list ds) => .ok ds M
  | .d (.tuple ds) => .ok ds M
  | .d (.str s) => .ok (chs s) M
  | _ => .stuck
theorem pi_seq3 {X : Cx} {tg l : Expr} {tl : TE} (hl : PE X l tl) : PI X tg l fun σ H R => tl σ H fun x H1 => (∃ a, x = .ref a ∧ (∃ xs, SqL X.K H1 a xs) ∧ R (Itl X.K a) H1) ∨ (∃ a, x = .ref a ∧ (∃ xs, SqT X.K H1 a xs) ∧ R (Itt X.K a) H1) ∨ ∃ z, x = .str z ∧ R (Its z) H1 := by
  refine ⟨fun pins s σ H R I h => ?_⟩
  refine thn (hl.run pins s σ H _ I h) fun v s1 ⟨x, H1, I1, r1, q1⟩ => ?_
  rcases q1 with ⟨a, e, ⟨xs, hq⟩, q⟩ | ⟨a, e, ⟨xs, hq⟩, q⟩ | ⟨z, e, q⟩
  · subst e
    cases r1
    obtain ⟨its, rv, p, hz⟩ := I1.list hq
    refine wpAny_pyIter_list p.isList ?_
    refine ⟨s1.heap.objs.size, [s1.heap.objs.size], _, _, H1, rfl, I1.kept (t' := s1.toks) fun b o e => Heap.get?_push_of_some _ e, turn_list a _, ⟨_, Heap.get?_push_size _ rfl, rfl, rfl⟩, fun b hb => ?_, q⟩
    have e : b = s1.heap.objs.size := by simpa using hb
    subst e
    exact I1.fpOk (Nat.le_refl _) (I1.hok.fresh (Nat.le_refl _))
  · subst e
    cases r1
    obtain ⟨its, rv, p, hz⟩ := I1.tuple hq
    refine wpAny_pyIter_tuple (show s1.heap.IsTuple a its.toArray from p) ?_
    refine ⟨s1.heap.objs.size, [s1.heap.objs.size], _, _, H1, rfl, I1.kept (t' := s1.toks) fun b o e => Heap.get?_push_of_some _ e, turn_tuple a _, ⟨_, Heap.get?_push_size _ rfl, rfl, rfl⟩, fun b hb => ?_, q⟩
    have e : b = s1.heap.objs.size := by simpa using hb
    subst e
    exact I1.fpOk (Nat.le_refl _) (I1.hok.fresh (Nat.le_refl _))
  · subst e
    obtain ⟨t, rfl⟩ := r1
    cases ha : z.cps.all (· < 128)
    · exact wpAny_pyIter_wide ha (pi_one (tk := s1.toks) I1 _ (turn_str _ z t "str_iterator" (.inr rfl)) ⟨_, Heap.get?_push_size _ rfl, rfl, rfl⟩ q)
    · exact wpAny_pyIter_ascii ha (pi_one (tk := s1.toks) I1 _ (turn_str _ z t "str_ascii_iterator" (.inl rfl)) ⟨_, Heap.get?_push_size _ rfl, rfl, rfl⟩ q)
theorem itok_lst {K : PySem.W.Frag} {F : Hp} {a : Addr} {xs : List V} {ds : List PyData} (h : F a = some (.lst xs)) (d : DqAll K F xs ds) : ItOk K F (Itl K a) ds := by
  have hl := d.length
  refine ⟨fun i H hi s => ⟨xs, xs[i]'(by omega), .of (s _ _ h), List.getElem?_eq_getElem _⟩, fun H s => ⟨xs, .of (s _ _ h), by omega⟩, fun i x F' H v H' e s1 s2 hy => ?_⟩
  obtain ⟨rfl, hv⟩ := hy
  obtain ⟨u, e1, e2⟩ := d.get e
  have := hv xs (.of (s2 _ _ (s1 _ _ h)))
  rw [e1] at this
  cases this
  exact ⟨F', Lay.refl s2, Dq.sub s1 e2⟩
theorem itok_tup {K : PySem.W.Frag} {F : Hp} {a : Addr} {xs : List V} {ds : List PyData} (h : TqT K F a xs) (d : DqAll K F xs ds) : ItOk K F (Itt K a) ds := by
  have hl := d.length
  refine ⟨fun i H hi s => ⟨xs, xs[i]'(by omega), TqT.up s h, List.getElem?_eq_getElem _⟩, fun H s => ⟨xs, TqT.up s h, by omega⟩, fun i x F' H v H' e s1 s2 hy => ?_⟩
  obtain ⟨rfl, hv⟩ := hy
  obtain ⟨u, e1, e2⟩ := d.get e
  have := hv xs (TqT.up (s1.trans s2) h)
  rw [e1] at this
  cases this
  exact ⟨F', Lay.refl s2, Dq.sub s1 e2⟩
theorem chs_len (s : Str) : (chs s).length = s.cps.size := by unfold chs; rw [List.length_map, Array.length_toList]
theorem chs_get {s : Str} {i : Nat} {d : PyData} (e : (chs s)[i]? = some d) : ∃ c, s.cps[i]? = some c ∧ d = .str ⟨#[c]⟩ := by
  unfold chs at e
  rw [List.getElem?_map, Array.getElem?_toList] at e
  cases q : s.cps[i]? with
  | none => rw [q] at e; cases e
  | some c => rw [q] at e; cases e; exact ⟨c, rfl, rfl⟩
theorem itok_str {K : PySem.W.Frag} {F : Hp} {z : Str} : ItOk K F (Its z) (chs z) := by
  have hl := chs_len z
  refine ⟨fun i H hi s => by show i < z.cps.size; omega, fun H s => by show z.cps.size ≤ (chs z).length; omega, fun i x F' H v H' e s1 s2 hy => ?_⟩
  obtain ⟨rfl, c, e1, rfl⟩ := hy
  obtain ⟨c', e2, rfl⟩ := chs_get e
  rw [e1] at e2
  cases e2
  exact ⟨F', Lay.refl s2, .str _⟩
theorem mi_seq {X : Cx} {xw : WX} {tg l : Expr} {f : EF} (hl : ME X xw l f) : MI X xw tg l (itD f) :=
  PI.imp (pi_seq3 hl) fun σ H R h => tG_mono (tG_bind (R2 := RW X.K) h) fun v H1 ⟨g, ρ, M, w, R1, S, q, b⟩ => by
    cases w with
    | loc n => exact b.elim
    | tup n => exact b.elim
    | scr n => exact b.elim
    | exc n => exact b.elim
    | kd n => exact b.elim
    | clo _ n => exact b.elim
    | fn n => exact b.elim
    | d x =>
      cases x with
      | list ds =>
        cases q with
        | d q => cases q with
          | lst h t => exact .inl ⟨_, rfl, ⟨_, .of (R1.sub _ _ h)⟩, b _ g H1 R1 (Ext.refl _ _) (itok_lst h t)⟩
      | tuple ds =>
        cases q with
        | d q => cases q with
          | tup h t => exact .inr (.inl ⟨_, rfl, ⟨_, TqT.up R1.sub h⟩, b _ g H1 R1 (Ext.refl _ _) (itok_tup h t)⟩)
      | str z =>
        cases q with
        | d q => cases q; exact .inr (.inr ⟨_, rfl, b _ g H1 R1 (Ext.refl _ _) itok_str⟩)
      | none => exact b.elim
      | bool _ => exact b.elim
      | int _ => exact b.elim
      | dict _ => exact b.elim
/-! ### range -/
def rng (lo : Int) (n : Nat) : List PyData := (List.range n).map fun i => .int (lo + (i : Nat))
theorem rng_len (lo : Int) (n : Nat) : (rng lo n).length = n := by unfold rng; rw [List.length_map, List.length_range]
theorem itok_rng {K : PySem.W.Frag} {F : Hp} {lo : Int} {n : Nat} : ItOk K F (Itr lo n) (rng lo n) := by
  have hl := rng_len lo n
  refine ⟨fun i H hi s => by show i < n; omega, fun H s => by show n ≤ (rng lo n).length; omega, fun i x F' H v H' e s1 s2 hy => ?_⟩
  obtain ⟨rfl, rfl⟩ := hy
  unfold rng at e
  rw [List.getElem?_map] at e
  cases q : (List.range n)[i]? with
  | none => rw [q] at e; cases e
  | some c =>
    rw [q] at e
    cases e
    obtain ⟨h1, h2⟩ := List.getElem?_eq_some_iff.mp q
    rw [List.getElem_range] at h2
    subst h2
    exact ⟨F', Lay.refl s2, .int _⟩
def itR1 (fs : List EF) : IF := fun ρ M => (evs fs ρ M).bind fun ws M => match ws with
  | [.d (.int j)] => if -(2 ^ 62) ≤ j ∧ j < 2 ^ 62 then .ok (rng 0 j.toNat) M else .stuck
  | _ => .stuck
def itR2 (fs : List EF) : IF := fun ρ M => (evs fs ρ M).bind fun ws M => match ws with
  | [.d (.int i), .d (.int j)] => if -(2 ^ 62) ≤ i ∧ i < 2 ^ 62 ∧ -(2 ^ 62) ≤ j ∧ j < 2 ^ 62 then .ok (rng i (j - i).toNat) M else .stuck
  | _ => .stuck
theorem mi_range1 {X : Cx} {xw : WX} {tg a : Expr} {fs : List EF} {p pos : Pos} (ha : MA X xw [a] fs) (hm : X.mg "range" = none) (hg : Gl X "range" := by rfl) (hs : starEach [a] X.env = [(false, eval a X.env)] := by rfl) : MI X xw tg (.Call (.Name "range" p) [a] [] pos) (itR1 fs) :=
  PI.imp (pi_range1 hg hm ha hs) fun σ H R h => tG_mono (tG_bind (R2 := RWs X.K) h) fun v H1 ⟨g, ρ, M, ws, R1, S, q, b⟩ => by
    simp only at b
    split at b
    · rename_i j
      cases q with
      | cons q t =>
        cases t
        cases q with
        | d q =>
          cases q
          split at b
          · rename_i hc
            exact ⟨j, rfl, hc.1, hc.2, b _ g H1 R1 (Ext.refl _ _) itok_rng⟩
          · exact b.elim
    · exact b.elim
theorem mi_range2 {X : Cx} {xw : WX} {tg a a2 : Expr} {fs : List EF} {p pos : Pos} (ha : MA X xw [a, a2] fs) (hm : X.mg "range" = none) (hg : Gl X "range" := by rfl) (hs : starEach [a, a2] X.env = [(false, eval a X.env), (false, eval a2 X.env)] := by rfl) (hs2 : starEach [a2] X.env = [(false, eval a2 X.env)] := by rfl) :
    MI X xw tg (.Call (.Name "range" p) [a, a2] [] pos) (itR2 fs) :=
  PI.imp (pi_range2 hg hm ha hs hs2) fun σ H R h => tG_mono (tG_bind (R2 := RWs X.K) h) fun v H1 ⟨g, ρ, M, ws, R1, S, q, b⟩ => by
    simp only at b
    split at b
    · rename_i i j
      cases q with
      | cons q t =>
        cases t with
        | cons q' t =>
          cases t
          cases q with
          | d q =>
            cases q
            cases q' with
            | d q' =>
              cases q'
              split at b
              · rename_i hc
                exact ⟨i, j, rfl, hc, b _ g H1 R1 (Ext.refl _ _) itok_rng⟩
              · exact b.elim
    · exact b.elim
/-! ### pairs: zip, enumerate -/
/-- at turn i a new pair -/
def Itp (n : Nat) (ps : Nat → Option (V × V)) : It :=
  ⟨fun i _ => i < n, fun i H v H' => ∃ T x y, v = .ref T ∧ H T = none ∧ H' = upd H T (.tup [x, y]) ∧ ps i = some (x, y), fun i _ => i = n⟩
theorem itok_pairs {K : PySem.W.Frag} {F : Hp} {n : Nat} {ps : Nat → Option (V × V)} {ds : List PyData} (hn : ds.length = n) (h : ∀ i d, ds[i]? = some d → ∃ x y a b, ps i = some (x, y) ∧ d = .tuple [a, b] ∧ (∀ G, Sub F G → Dq K G x a ∧ Dq K G y b)) : ItOk K F (Itp n ps) ds := by
  refine ⟨fun i H hi s => by show i < n; omega, fun H s => by show ds.length = n; omega, fun i d F' H v H' e s1 s2 hy => ?_⟩
  obtain ⟨T, x, y, rfl, hT, rfl, hp⟩ := hy
  obtain ⟨x', y', a, b, hp', rfl, hd⟩ := h i d e
  rw [hp] at hp'
  cases hp'
  have hs : Sub F' (upd F' T (.tup [x, y])) := Sub.upd (s2.none hT)
  exact ⟨_, Lay.new1 s2 hT, .tup (.of upd_same) (.cons (hd _ (s1.trans hs)).1 (.cons (hd _ (s1.trans hs)).2 .nil))⟩
section
variable {P : Program} {w : World} {K : PySem.W.Frag} {elts : List Expr} {kk : Nat} {tpos : Pos}
def zps (x y : Str) : Nat → Option (V × V) := fun i => match x.cps[i]?, y.cps[i]? with
  | some c, some d => some (.str ⟨#[c]⟩, .str ⟨#[d]⟩)
  | _, _ => none
theorem isTup2 {h : Heap} {T : Addr} {a b : Value} (e : h.IsTuple T #[a, b]) : IsTup h T [a, b].toArray := e
theorem turn_zipS {x y : Str} {t u : Tok} {N : Addr} : Turn P w K (.Tuple elts kk tpos) (Itp (min x.cps.size y.cps.size) (zps x y)) [N + 4, N + 2, N + 3, N, N + 1] (N + 4)
    (fun i h => IsZip h (N + 4) (N + 2) (N + 3) .none ∧ IsTupOf2 h (N + 2) (.ref N) (.ref (N + 1)) ∧ (∃ a1 a2, IsTupOf2 h (N + 3) a1 a2) ∧ h.IsStrIter N (strIterType x) x t i ∧ h.IsStrIter (N + 1) (strIterType y) y u i) where
  mem := by simp
  obj := fun i h st b hb => by
    obtain ⟨h1, h2, ⟨a1, a2, h3⟩, h4, h5⟩ := st
    have e' : b = N + 4 ∨ b = N + 2 ∨ b = N + 3 ∨ b = N ∨ b = N + 1 := by simpa using hb
    rcases e' with z | z | z | z | z
    · rw [z]; obtain ⟨o, e⟩ : ∃ o, h.get? (N + 4) = some o ∧ ∀ v, o.data ≠ .cell v := by first | exact ⟨_, h1, fun v q => nomatch q⟩ | (obtain ⟨o, e, c, d⟩ := h1; exact ⟨o, e, fun v q => by rw [d] at q; cases q⟩)
      exact ⟨o, e⟩
    · rw [z]; first | exact ⟨_, h2, fun v q => nomatch q⟩ | (obtain ⟨o, e, c, d⟩ := h2; exact ⟨o, e, fun v q => by rw [d] at q; cases q⟩)
    · rw [z]; first | exact ⟨_, h3, fun v q => nomatch q⟩ | (obtain ⟨o, e, c, d⟩ := h3; exact ⟨o, e, fun v q => by rw [d] at q; cases q⟩)
    · rw [z]; obtain ⟨o, e, c, d⟩ := h4; exact ⟨o, e, fun v q => by rw [d] at q; cases q⟩
    · rw [z]; obtain ⟨o, e, c, d⟩ := h5; exact ⟨o, e, fun v q => by rw [d] at q; cases q⟩
  keep := fun i h h' st k => by
    obtain ⟨h1, h2, ⟨a1, a2, h3⟩, ⟨o4, e4, c4, d4⟩, ⟨o5, e5, c5, d5⟩⟩ := st
    refine ⟨?_, ?_, ⟨a1, a2, ?_⟩, ⟨o4, k N (by simp) o4 e4, c4, d4⟩, ⟨o5, k (N + 1) (by simp) o5 e5, c5, d5⟩⟩
    · first | exact k _ (by simp) _ h1 | exact h1.at fun o e => k _ (by simp) o e
    · first | exact k _ (by simp) _ h2 | exact h2.at fun o e => k _ (by simp) o e
    · first | exact k _ (by simp) _ h3 | exact h3.at fun o e => k _ (by simp) o e
  item := by
    intro X hP hw hK hc i pins s σ H E I hf st hg
    subst hP hw hK
    have hh := I.ok.hd hc
    have D1 := Draws.text (prog := X.prog) (w := X.w) (A := X.A.in1) hh N x t
    have D2 := Draws.text (prog := X.prog) (w := X.w) (A := X.A.in1) hh (N + 1) y u
    have G := GoesN.zip2 (elts := elts) (x1 := kk) (pos := tpos) (zip_sep2 (N := N) (fp1 := []) (fp2 := []) (by simp) (by simp)) D1 D2
    refine G.goes i s (fun u' s2 => ∃ x' H', Inv X pins σ H' s2 ∧ RelV x' u' ∧ (Itp (min x.cps.size y.cps.size) (zps x y)).yld i H x' H' ∧ _ ∧ ∀ b ∈ [N + 4, N + 2, N + 3, N, N + 1], H' b = none) E hg st fun v h' tk hY st' hk htk => ?_
    obtain ⟨T, a, b, rfl, hT, ⟨c, u1, hc1, rfl⟩, ⟨d, u2, hd1, rfl⟩, hTup⟩ := hY
    have hk' : ∀ b o, b ∉ [N + 4, N + 2, N + 3, N, N + 1] → s.heap.get? b = some o → h'.get? b = some o := fun b o hb e => hk b o (fun z => hb (by
      have : b = N + 4 ∨ b = N + 3 ∨ b = N ∨ b = N + 1 := by simpa using z
      rcases this with z | z | z | z <;> simp [z])) e
    have new : ObjOk X.prog X.w (upd H T (.tup [.str ⟨#[c]⟩, .str ⟨#[d]⟩])) h' T (.tup [.str ⟨#[c]⟩, .str ⟨#[d]⟩]) :=
      ⟨by show 2 ≤ sizeLine; decide, [.str ⟨#[c]⟩ u1, .str ⟨#[d]⟩ u2], .cons ⟨_, rfl⟩ (.cons ⟨_, rfl⟩ .nil), isTup2 hTup⟩
    have I1 := I.turnedNew (t' := tk) (ch := [N + 4, N + 2, N + 3, N, N + 1]) hk' hf hT new
    refine ⟨.ref T, _, I1, rfl, ⟨T, _, _, rfl, I.hok.fresh hT, rfl, ?_⟩, st', fun b hb => ?_⟩
    · unfold zps
      rw [hc1, hd1]
    · rw [upd_ne]
      · exact (hf b hb).1
      · intro z
        subst z
        obtain ⟨h1, h2, ⟨a1, a2, h3⟩, ⟨o4, e4, c4, d4⟩, ⟨o5, e5, c5, d5⟩⟩ := st
        have e' : b = N + 4 ∨ b = N + 2 ∨ b = N + 3 ∨ b = N ∨ b = N + 1 := by simpa using hb
        have hlt : b < s.heap.objs.size := by
          rcases e' with z | z | z | z | z
          · rw [z]; first | exact Heap.lt_size h1 | (obtain ⟨o, e, _⟩ := h1; exact Heap.lt_size e)
          · rw [z]; first | exact Heap.lt_size h2 | (obtain ⟨o, e, _⟩ := h2; exact Heap.lt_size e)
          · rw [z]; first | exact Heap.lt_size h3 | (obtain ⟨o, e, _⟩ := h3; exact Heap.lt_size e)
          · rw [z]; exact Heap.lt_size e4
          · rw [z]; exact Heap.lt_size e5
        exact absurd (Nat.lt_of_lt_of_le hlt hT) (Nat.lt_irrefl _)
  done := by
    intro X hP hw hK hc i pins s σ H E I hf st hg
    subst hP hw hK
    have hh := I.ok.hd hc
    have D1 := Draws.text (prog := X.prog) (w := X.w) (A := X.A.in1) hh N x t
    have D2 := Draws.text (prog := X.prog) (w := X.w) (A := X.A.in1) hh (N + 1) y u
    have G := GoesN.zip2 (elts := elts) (x1 := kk) (pos := tpos) (zip_sep2 (N := N) (fp1 := []) (fp2 := []) (by simp) (by simp)) D1 D2
    have hi : i = min x.cps.size y.cps.size := hg
    subst hi
    refine G.stops s (fun s1 => Inv X pins σ H s1) E st fun h' tk hk htk => I.turnedL (t' := tk) (ch := [N + 4, N + 2, N + 3, N, N + 1]) (fun b o hb e => hk b o (fun z => hb (by
      have : b = N + 4 ∨ b = N + 3 ∨ b = N ∨ b = N + 1 := by simpa using z
      rcases this with z | z | z | z <;> simp [z])) e) hf
  self := fun A i s Q E st h => by
    obtain ⟨h1, _⟩ := st
    exact wpAny_pyIter_zip h1 h
def eps (x : Str) : Nat → Option (V × V) := fun i => match x.cps[i]? with
  | some c => some (.int (i : Nat), .str ⟨#[c]⟩)
  | _ => none
theorem turn_enumS {x : Str} {t : Tok} {N : Addr} : Turn P w K (.Tuple elts kk tpos) (Itp x.cps.size (eps x)) [N + 1, N] (N + 1)
    (fun i h => (∃ old, IsEnum h (N + 1) N (0 + (i : Int)) old) ∧ h.IsStrIter N (strIterType x) x t i) where
  mem := by simp
  obj := fun i h st b hb => by
    obtain ⟨⟨old, he⟩, h4⟩ := st
    have e' : b = N + 1 ∨ b = N := by simpa using hb
    rcases e' with z | z
    · rw [z]; exact ⟨_, he, fun v q => nomatch q⟩
    · rw [z]; obtain ⟨o, e, c, d⟩ := h4; exact ⟨o, e, fun v q => by rw [d] at q; cases q⟩
  keep := fun i h h' st k => by
    obtain ⟨⟨old, he⟩, ⟨o4, e4, c4, d4⟩⟩ := st
    exact ⟨⟨old, k _ (by simp) _ he⟩, ⟨o4, k N (by simp) o4 e4, c4, d4⟩⟩
  item := by
    intro X hP hw hK hc i pins s σ H E I hf st hg
    subst hP hw hK
    have hh := I.ok.hd hc
    have D1 := Draws.text (prog := X.prog) (w := X.w) (A := X.A.in1) hh N x t
    have G := GoesN.enumFrom (elts := elts) (x1 := kk) (pos := tpos) 0 D1 (N + 1) (Nat.succ_ne_self _) (by simp) (by simp)
    refine G.goes i s (fun u' s2 => ∃ x' H', Inv X pins σ H' s2 ∧ RelV x' u' ∧ (Itp x.cps.size (eps x)).yld i H x' H' ∧ _ ∧ ∀ b ∈ [N + 1, N], H' b = none) E hg st fun v h' tk hY st' hk htk => ?_
    obtain ⟨T, u1, a, rfl, hT, ⟨c, u2, hc1, rfl⟩, hTup⟩ := hY
    have new : ObjOk X.prog X.w (upd H T (.tup [.int (i : Nat), .str ⟨#[c]⟩])) h' T (.tup [.int (i : Nat), .str ⟨#[c]⟩]) :=
      ⟨by show 2 ≤ sizeLine; decide, [.int (0 + (i : Int)) u1, .str ⟨#[c]⟩ u2], .cons ⟨u1, by rw [Int.zero_add]⟩ (.cons ⟨_, rfl⟩ .nil), isTup2 hTup⟩
    have I1 := I.turnedNew (t' := tk) (ch := [N + 1, N]) hk hf hT new
    refine ⟨.ref T, _, I1, rfl, ⟨T, _, _, rfl, I.hok.fresh hT, rfl, ?_⟩, st', fun b hb => ?_⟩
    · unfold eps
      rw [hc1]
    · rw [upd_ne]
      · exact (hf b hb).1
      · intro z
        subst z
        obtain ⟨⟨old, he⟩, ⟨o4, e4, c4, d4⟩⟩ := st
        have e' : b = N + 1 ∨ b = N := by simpa using hb
        have hlt : b < s.heap.objs.size := by
          rcases e' with z | z
          · rw [z]; exact Heap.lt_size he
          · rw [z]; exact Heap.lt_size e4
        exact absurd (Nat.lt_of_lt_of_le hlt hT) (Nat.lt_irrefl _)
  done := by
    intro X hP hw hK hc i pins s σ H E I hf st hg
    subst hP hw hK
    have hh := I.ok.hd hc
    have D1 := Draws.text (prog := X.prog) (w := X.w) (A := X.A.in1) hh N x t
    have G := GoesN.enumFrom (elts := elts) (x1 := kk) (pos := tpos) 0 D1 (N + 1) (Nat.succ_ne_self _) (by simp) (by simp)
    have hi : i = x.cps.size := hg
    subst hi
    exact G.stops s (fun s1 => Inv X pins σ H s1) E st fun h' tk hk htk => I.turnedL (t' := tk) (ch := [N + 1, N]) hk hf
  self := fun A i s Q E st h => by
    obtain ⟨⟨old, he⟩, _⟩ := st
    exact wpAny_pyIter_enum he h
end
section
variable {X : Cx} {e e2 : Expr} {ta : TA} {p pos tpos : Pos} {elts : List Expr} {kk : Nat}
theorem pi_zipS (hg : Gl X "zip") (hm : X.mg "zip" = none) (ha : PA X [e, e2] ta)
    (hs : starEach [e, e2] X.env = (false, eval e X.env) :: starEach [e2] X.env := by rfl) (hpl : (backTo pos (starEach [e2] X.env)).any (·.1) = false := by rfl) :
    PI X (.Tuple elts kk tpos) (.Call (.Name "zip" p) [e, e2] [] pos) fun σ H R => ta σ H fun vs H1 => ∃ x y, vs = [.str x, .str y] ∧ R (Itp (min x.cps.size y.cps.size) (zps x y)) H1 := by
  refine ⟨fun pins s σ H R I h => ?_⟩
  refine Call_ (ld_blt I hg hm PyProof.Rows.boot_zip (PyProof.Rows.callWith_type1 (thn (ha.run pos pins s σ H _ I h) fun us s1 ⟨vs, H1, I1, r1, q1⟩ => ?_) hs hpl))
  obtain ⟨x, y, ex, q⟩ := q1
  subst ex
  cases r1 with
  | cons r rr =>
    cases rr with
    | cons r' rr =>
      cases rr
      obtain ⟨t, rfl⟩ := r
      obtain ⟨u, rfl⟩ := r'
      refine zip_begins2 (begins_text x t) (begins_text y u) trivial trivial fun h' hz hTI hTO h1 h2 hsz hk => wpAny_pyIter_zip hz ?_
      have I2 : Inv X pins σ H1 { s1 with heap := h' } := I1.kept (t' := s1.toks) hk
      refine ⟨s1.heap.objs.size + 4, [s1.heap.objs.size + 4, s1.heap.objs.size + 2, s1.heap.objs.size + 3, s1.heap.objs.size, s1.heap.objs.size + 1], _, _, H1, rfl, I2, turn_zipS (x := x) (y := y) (t := t) (u := u), ⟨hz, hTI, ⟨_, _, hTO⟩, ⟨_, h1, rfl, rfl⟩, ⟨_, h2, rfl, rfl⟩⟩, fun c hcm => ?_, q⟩
      have e' : c = s1.heap.objs.size + 4 ∨ c = s1.heap.objs.size + 2 ∨ c = s1.heap.objs.size + 3 ∨ c = s1.heap.objs.size ∨ c = s1.heap.objs.size + 1 := by simpa using hcm
      have hle : s1.heap.objs.size ≤ c := by
        rcases e' with z | z | z | z | z
        · rw [z]; exact Nat.le_add_right _ _
        · rw [z]; exact Nat.le_add_right _ _
        · rw [z]; exact Nat.le_add_right _ _
        · rw [z]; exact Nat.le_refl _
        · rw [z]; exact Nat.le_add_right _ _
      exact I1.fpOk hle (I1.hok.fresh hle)
theorem pi_enumS (hg : Gl X "enumerate") (hm : X.mg "enumerate" = none) (ha : PA X [e] ta) (hs : starEach [e] X.env = [(false, eval e X.env)] := by rfl) :
    PI X (.Tuple elts kk tpos) (.Call (.Name "enumerate" p) [e] [] pos) fun σ H R => ta σ H fun vs H1 => ∃ x, vs = [.str x] ∧ R (Itp x.cps.size (eps x)) H1 := by
  refine ⟨fun pins s σ H R I h => ?_⟩
  refine Call_ (ld_blt I hg hm boot_enumerate (PyProof.Rows.callWith_type1 (thn (ha.run pos pins s σ H _ I h) fun us s1 ⟨vs, H1, I1, r1, q1⟩ => ?_) hs rfl))
  obtain ⟨x, ex, q⟩ := q1
  subst ex
  cases r1 with
  | cons r rr =>
    cases rr
    obtain ⟨t, rfl⟩ := r
    refine call_enumerate_str fun h' he hit hsz hk => wpAny_pyIter_enum he ?_
    have I2 : Inv X pins σ H1 { s1 with heap := h' } := I1.kept (t' := s1.toks) hk
    refine ⟨s1.heap.objs.size + 1, [s1.heap.objs.size + 1, s1.heap.objs.size], _, _, H1, rfl, I2, turn_enumS (x := x) (t := t), ⟨⟨.none, he⟩, hit⟩, fun b hb => ?_, q⟩
    have e' : b = s1.heap.objs.size + 1 ∨ b = s1.heap.objs.size := by simpa using hb
    have hle : s1.heap.objs.size ≤ b := by
      rcases e' with z | z
      · rw [z]; exact Nat.le_add_right _ _
      · rw [z]; exact Nat.le_refl _
    exact I1.fpOk hle (I1.hok.fresh hle)
end
def prs (xs ys : List PyData) : List PyData := (xs.zip ys).map fun p => .tuple [p.1, p.2]
def enu (xs : List PyData) : List PyData := prs (rng 0 xs.length) xs
end Y
namespace Y
open PySem PySem.Spec L2

theorem dpr2 {K : PySem.W.Frag} {p : DPr} {r : R2} (h : ∀ (F H : Hp) (v u : V) (x y z : PyData) (Q : VK), Sub F H → Dv K F H v x → Dv K F H u y → p [x, y] = some z → (∀ v F' H', Lay F H F' H' → Dq K F' v z → Q v H') → r v u H Q)
    (hl : ∀ xs z, p xs = some z → xs.length = 2) : PrOk K (dpr p) (r2 r) := dpr_ok fun F H vs xs y Q s dv e k => by
  have hl' := hl xs y e
  match xs, hl' with
  | [a, b], _ =>
    obtain ⟨v, u, rfl, d1, d2⟩ := dv.two
    exact ⟨v, u, rfl, h F H v u a b y Q s d1 d2 e k⟩
theorem dpr1 {K : PySem.W.Frag} {p : DPr} {r : V → Hp → VK → Prop} (h : ∀ (F H : Hp) (v : V) (x z : PyData) (Q : VK), Sub F H → Dv K F H v x → p [x] = some z → (∀ v F' H', Lay F H F' H' → Dq K F' v z → Q v H') → r v H Q)
    (hl : ∀ xs z, p xs = some z → xs.length = 1) : PrOk K (dpr p) (r1 r) := dpr_ok fun F H vs xs y Q s dv e k => by
  have hl' := hl xs y e
  match xs, hl' with
  | [a], _ =>
    obtain ⟨v, rfl, d1⟩ := dv.one
    exact ⟨v, rfl, h F H v a y Q s d1 e k⟩
/-- a result that is plain -/
theorem kq {K : PySem.W.Frag} {F H : Hp} {Q : VK} {v : V} {z : PyData} (s : Sub F H) (k : ∀ v F' H', Lay F H F' H' → Dq K F' v z → Q v H') (d : Dq K F v z) : Q v H := k v F H (Lay.refl s) d
theorem kn {K : PySem.W.Frag} {F H : Hp} {Q : VK} {p : Addr} {xs : List V} {ds : List PyData} (s : Sub F H) (k : ∀ v F' H', Lay F H F' H' → Dq K F' v (.list ds) → Q v H') (d : DqAll K F xs ds) (hp : H p = none) : Q (.ref p) (upd H p (.lst xs)) :=
  k _ _ _ (Lay.new1 s hp) (.lst upd_same (DqAll.sub (Sub.upd (s.none hp)) d))
theorem kt {K : PySem.W.Frag} {F H : Hp} {Q : VK} {p : Addr} {xs : List V} {ds : List PyData} (s : Sub F H) (k : ∀ v F' H', Lay F H F' H' → Dq K F' v (.tuple ds) → Q v H') (d : DqAll K F xs ds) (hp : H p = none) : Q (.ref p) (upd H p (.tup xs)) :=
  k _ _ _ (Lay.new1 s hp) (.tup (.of upd_same) (DqAll.sub (Sub.upd (s.none hp)) d))

/-! ### + -/
def pAdd : DPr
  | [.int i, .int j] => some (.int (i + j))
  | [.str a, .str b] => if a.length + b.length ≤ sizeLine then some (.str (a ++ b)) else none
  | [.list a, .list b] => if a.length + b.length ≤ sizeLine then some (.list (a ++ b)) else none
  | [.tuple a, .tuple b] => if a.length + b.length ≤ sizeLine then some (.tuple (a ++ b)) else none
  | _ => none
section
variable {X : Cx} {xw : WX} {a b : Expr} {fa fb : EF} {pos : Pos}
theorem add_ok (X : Cx) : ∃ r, OpR X (binaryOp .Add) r ∧ PrOk X.K (dpr pAdd) (r2 r) := by
  refine ⟨_, ((op_add.or op_add_str).or op_cat).or op_catA, dpr2 (fun F H v u x y z Q s d1 d2 e k => ?_) fun xs z e => ?_⟩
  · unfold pAdd at e
    split at e
    · rename_i i j q
      cases q
      cases e
      cases d1.int
      cases d2.int
      exact .inl (.inl (.inl ⟨i, j, rfl, rfl, kq s k (.int _)⟩))
    · rename_i i j q
      cases q
      split at e
      · cases e
        cases d1.str
        cases d2.str
        exact .inl (.inl (.inr ⟨i, j, rfl, rfl, by assumption, kq s k (.str _)⟩))
      · cases e
    · rename_i i j q
      cases q
      split at e
      · cases e
        obtain ⟨p, xs, rfl, h1, h2⟩ := d1.lst s
        obtain ⟨p', xs', rfl, h1', h2'⟩ := d2.lst s
        exact .inl (.inr ⟨p, p', xs, xs', rfl, rfl, h1, h1', by rw [h2.length, h2'.length]; assumption, fun q hq => kn s k (h2.append h2') hq⟩)
      · cases e
    · rename_i i j q
      cases q
      split at e
      · cases e
        obtain ⟨p, xs, rfl, h1, h2⟩ := d1.tup
        obtain ⟨p', xs', rfl, h1', h2'⟩ := d2.tup
        refine .inr ⟨p, p', xs, xs', rfl, rfl, TqT.up s h1, TqT.up s h1', by rw [h2.length, h2'.length]; assumption, fun e => ?_, fun e e' => ?_, fun _ _ q hq => kt s k (h2.append h2') hq⟩
        · subst e
          cases h2
          exact kq s k (.tup h1' h2')
        · subst e'
          cases h2'
          exact kq s k (.tup h1 (by rw [List.append_nil]; exact h2))
      · cases e
    · cases e
  · unfold pAdd at e
    split at e <;> first | rfl | cases e
theorem me_add (ha : ME X xw a fa) (hb : ME X xw b fb) : ME X xw (.BinOp a .Add b pos) (sPr (dpr pAdd) [fa, fb]) := let ⟨_, h1, h2⟩ := add_ok X; me_bin h1 h2 ha hb

/-! ### ints -/
def pI2 (C : Int → Int → Bool) (f : Int → Int → Int) : DPr
  | [.int i, .int j] => if C i j = true then some (.int (f i j)) else none
  | _ => none
theorem i2_ok {C : Int → Int → Bool} {C' : Int → Int → Prop} {f : Int → Int → Int} (h : ∀ i j, C i j = true → C' i j) (K : PySem.W.Frag) : PrOk K (dpr (pI2 C f)) (r2 (rI C' fun i j => .int (f i j))) := by
  refine dpr2 (fun F H v u x y z Q s d1 d2 e k => ?_) fun xs z e => ?_
  · unfold pI2 at e
    split at e
    · rename_i i j q
      cases q
      split at e
      · cases e
        cases d1.int
        cases d2.int
        exact ⟨i, j, rfl, rfl, h _ _ (by assumption), kq s k (.int _)⟩
      · cases e
    · cases e
  · unfold pI2 at e
    split at e <;> first | rfl | cases e
def pSub : DPr := pI2 (fun _ _ => true) fun i j => i - j
def cMul (i j : Int) : Bool := decide ((-(2 ^ 64) < i ∧ i < 2 ^ 64) ∨ (-(2 ^ 64) < j ∧ j < 2 ^ 64) ∨ i.natAbs.log2 + j.natAbs.log2 < 1000000)
theorem cMul_ok {i j : Int} (h : cMul i j = true) : IntMulOk i j := by
  rcases of_decide_eq_true h with h | h | h
  · exact CMul.ok (.inl h)
  · exact CMul.ok (.inr h)
  · exact CMulW.ok h
theorem op_mulA : OpR X (binaryOp .Mult) (rI (fun i j => cMul i j = true) fun i j => .int (i * j)) := opI fun _ _ _ _ _ _ _ hc q => PyProof.Rows.mul_int q (cMul_ok hc)
def pMod : DPr := pI2 (fun _ j => decide (0 < j)) fun i j => i % j
def pFdiv : DPr := pI2 (fun _ j => decide (0 < j ∧ j < 1073741824)) fun i j => i / j
def cPow (i j : Int) : Bool := decide (0 ≤ j ∧ j ≤ 1000000 ∧ i.natAbs < 2 ^ 64)
def pPow : DPr := pI2 cPow fun i j => i ^ j.toNat
def pShl : DPr := pI2 cPow fun i j => i * 2 ^ j.toNat
def pShr : DPr := pI2 (fun _ j => decide (0 ≤ j)) fun i j => i / 2 ^ j.toNat
def pAnd : DPr := pI2 (fun _ _ => true) Builtin.bitAnd
def pOr : DPr := pI2 (fun _ _ => true) Builtin.bitOr
def pXor : DPr := pI2 (fun _ _ => true) Builtin.bitXor
theorem rI_of {g : Int → Int → V} {f : Value → Value → Sem Value} (h : OpR X f (rI0 g)) : OpR X f (rI (fun _ _ => True) g) := fun pins s σ H x y v u Q I rx ry ⟨i, j, e1, e2, _, q⟩ => h pins s σ H x y v u Q I rx ry ⟨i, j, e1, e2, q⟩
theorem me_sub (ha : ME X xw a fa) (hb : ME X xw b fb) : ME X xw (.BinOp a .Sub b pos) (sPr (dpr pSub) [fa, fb]) := me_bin (rI_of op_sub) (i2_ok (fun _ _ _ => trivial) _) ha hb
theorem me_mod (ha : ME X xw a fa) (hb : ME X xw b fb) : ME X xw (.BinOp a .Mod b pos) (sPr (dpr pMod) [fa, fb]) := me_bin op_mod (i2_ok (fun _ _ h => of_decide_eq_true h) _) ha hb
theorem me_fdiv (ha : ME X xw a fa) (hb : ME X xw b fb) : ME X xw (.BinOp a .FloorDiv b pos) (sPr (dpr pFdiv) [fa, fb]) := me_bin op_fdiv (i2_ok (fun _ _ h => of_decide_eq_true h) _) ha hb
theorem me_pow (ha : ME X xw a fa) (hb : ME X xw b fb) : ME X xw (.BinOp a .Pow b pos) (sPr (dpr pPow) [fa, fb]) := me_bin op_pow (i2_ok (fun _ _ h => of_decide_eq_true h) _) ha hb
theorem me_shl (ha : ME X xw a fa) (hb : ME X xw b fb) : ME X xw (.BinOp a .LShift b pos) (sPr (dpr pShl) [fa, fb]) := me_bin op_shl (i2_ok (fun _ _ h => of_decide_eq_true h) _) ha hb
theorem me_shr (ha : ME X xw a fa) (hb : ME X xw b fb) : ME X xw (.BinOp a .RShift b pos) (sPr (dpr pShr) [fa, fb]) := me_bin op_shr (i2_ok (fun _ _ h => of_decide_eq_true h) _) ha hb
theorem me_bitand (ha : ME X xw a fa) (hb : ME X xw b fb) : ME X xw (.BinOp a .BitAnd b pos) (sPr (dpr pAnd) [fa, fb]) := me_bin (rI_of op_and) (i2_ok (fun _ _ _ => trivial) _) ha hb
theorem me_bitor (ha : ME X xw a fa) (hb : ME X xw b fb) : ME X xw (.BinOp a .BitOr b pos) (sPr (dpr pOr) [fa, fb]) := me_bin (rI_of op_or) (i2_ok (fun _ _ _ => trivial) _) ha hb
theorem me_bitxor (ha : ME X xw a fa) (hb : ME X xw b fb) : ME X xw (.BinOp a .BitXor b pos) (sPr (dpr pXor) [fa, fb]) := me_bin (rI_of op_xor) (i2_ok (fun _ _ _ => trivial) _) ha hb
/-! ### * -/
def repS (s : Str) (n : Nat) : Str := ⟨((List.replicate n s.cps.toList).flatten).toArray⟩
theorem dq_rep {K : PySem.W.Frag} {F : Hp} {xs : List V} {ds : List PyData} (d : DqAll K F xs ds) : ∀ n : Nat, DqAll K F (List.replicate n xs).flatten (List.replicate n ds).flatten
  | 0 => .nil
  | n + 1 => by
    rw [List.replicate_succ, List.replicate_succ, List.flatten_cons, List.flatten_cons]
    exact d.append (dq_rep d n)
def pMul : DPr
  | [.int i, .int j] => if cMul i j = true then some (.int (i * j)) else none
  | [.list a, .int j] => if 0 ≤ j ∧ j < 2 ^ 63 ∧ a.length * j.toNat ≤ sizeLine then some (.list (List.replicate j.toNat a).flatten) else none
  | _ => none
theorem mul_ok (X : Cx) : ∃ r, OpR X (binaryOp .Mult) r ∧ PrOk X.K (dpr pMul) (r2 r) := by
  refine ⟨_, op_mulA.or op_rep, dpr2 (fun F H v u x y z Q s d1 d2 e k => ?_) fun xs z e => ?_⟩
  · unfold pMul at e
    split at e
    · rename_i i j q
      cases q
      split at e
      · cases e
        cases d1.int
        cases d2.int
        exact .inl ⟨i, j, rfl, rfl, by assumption, kq s k (.int _)⟩
      · cases e
    · rename_i i j q
      cases q
      split at e
      · rename_i hc
        cases e
        obtain ⟨p, xs, rfl, h1, h2⟩ := d1.lst s
        cases d2.int
        exact .inr ⟨p, j, xs, rfl, rfl, h1, by omega, hc.2.1, by rw [h2.length]; exact hc.2.2, fun q hq => kn s k (dq_rep h2 _) hq⟩
      · cases e
    · cases e
  · unfold pMul at e
    split at e <;> first | rfl | cases e
theorem me_mul (ha : ME X xw a fa) (hb : ME X xw b fb) : ME X xw (.BinOp a .Mult b pos) (sPr (dpr pMul) [fa, fb]) := let ⟨_, h1, h2⟩ := mul_ok X; me_bin h1 h2 ha hb

/-! ### comparisons -/
def pC2 (f : Int → Int → Bool) : DPr
  | [.int i, .int j] => some (.bool (f i j))
  | _ => none
theorem c2_ok {f : Int → Int → Bool} (K : PySem.W.Frag) : PrOk K (dpr (pC2 f)) (r2 (rI0 fun i j => .bl (f i j))) := by
  refine dpr2 (fun F H v u x y z Q s d1 d2 e k => ?_) fun xs z e => ?_
  · unfold pC2 at e
    split at e
    · rename_i i j q
      cases q
      cases e
      cases d1.int
      cases d2.int
      exact ⟨i, j, rfl, rfl, kq s k (.bl _)⟩
    · cases e
  · unfold pC2 at e
    split at e <;> first | rfl | cases e
def pLt : DPr := pC2 fun i j => decide (i < j)
def pLe : DPr := pC2 fun i j => decide (i ≤ j)
def pGt : DPr := pC2 fun i j => decide (j < i)
def pGe : DPr := pC2 fun i j => decide (j ≤ i)
theorem me_lt (ha : ME X xw a fa) (hb : ME X xw b fb) : ME X xw (.Compare a [.Lt] [b] pos) (sPr (dpr pLt) [fa, fb]) := me_cmp op_lt (c2_ok _) ha hb (nobehind _ (by decide) (by decide))
theorem me_le (ha : ME X xw a fa) (hb : ME X xw b fb) : ME X xw (.Compare a [.LtE] [b] pos) (sPr (dpr pLe) [fa, fb]) := me_cmp op_le (c2_ok _) ha hb (nobehind _ (by decide) (by decide))
theorem me_gt (ha : ME X xw a fa) (hb : ME X xw b fb) : ME X xw (.Compare a [.Gt] [b] pos) (sPr (dpr pGt) [fa, fb]) := me_cmp op_gt (c2_ok _) ha hb (nobehind _ (by decide) (by decide))
theorem me_ge (ha : ME X xw a fa) (hb : ME X xw b fb) : ME X xw (.Compare a [.GtE] [b] pos) (sPr (dpr pGe) [fa, fb]) := me_cmp op_ge (c2_ok _) ha hb (nobehind _ (by decide) (by decide))
theorem mt_lt (ha : ME X xw a fa) (hb : ME X xw b fb) : MT X xw (.Compare a [.Lt] [b] pos) (sVal (sPr (dpr pLt) [fa, fb])) := mt_cmp op_lt (c2_ok _) ha hb (nobehind _ (by decide) (by decide))
theorem mt_le (ha : ME X xw a fa) (hb : ME X xw b fb) : MT X xw (.Compare a [.LtE] [b] pos) (sVal (sPr (dpr pLe) [fa, fb])) := mt_cmp op_le (c2_ok _) ha hb (nobehind _ (by decide) (by decide))
theorem mt_gt (ha : ME X xw a fa) (hb : ME X xw b fb) : MT X xw (.Compare a [.Gt] [b] pos) (sVal (sPr (dpr pGt) [fa, fb])) := mt_cmp op_gt (c2_ok _) ha hb (nobehind _ (by decide) (by decide))
theorem mt_ge (ha : ME X xw a fa) (hb : ME X xw b fb) : MT X xw (.Compare a [.GtE] [b] pos) (sVal (sPr (dpr pGe) [fa, fb])) := mt_cmp op_ge (c2_ok _) ha hb (nobehind _ (by decide) (by decide))
def pEq : DPr
  | [.str a, .str b] => some (.bool (decide (a = b)))
  | [x, y] => if SeqAt.shaped x = true ∧ SeqAt.shaped y = true then some (.bool (PyData.eqv x y)) else none
  | _ => none
def pNe : DPr
  | [.str a, .str b] => some (.bool (!decide (a = b)))
  | [x, y] => if SeqAt.shaped x = true ∧ SeqAt.shaped y = true then some (.bool (!PyData.eqv x y)) else none
  | _ => none
theorem dec_strV {a b : Str} : decide (V.str a = V.str b) = decide (a = b) := by
  by_cases h : a = b
  · rw [decide_eq_true h, decide_eq_true (by rw [h])]
  · rw [decide_eq_false h, decide_eq_false fun z => h (V.str.inj z)]
theorem eq_ok {k : Nat} (hu : X.A.units + 64 < cLine) : ∃ r, OpR X (compareOp .Eq) r ∧ PrOk X.K (dpr pEq) (r2 r) := by
  refine ⟨_, (op_eqD hu).or op_eq, dpr2 (fun F H v u x y z Q s d1 d2 e k => ?_) fun xs z e => ?_⟩
  · unfold pEq at e
    split at e
    · rename_i a b q
      cases q
      cases e
      cases d1.str
      cases d2.str
      exact .inr ⟨rfl, by rw [dec_strV]; exact kq s k (.bl _)⟩
    · rename_i q
      cases q
      split at e
      · rename_i hc
        cases e
        exact .inl ⟨_, _, d1.dp s, d2.dp s, hc.1, hc.2, kq s k (.bl _)⟩
      · cases e
    · cases e
  · unfold pEq at e
    split at e <;> first | rfl | cases e
theorem ne_ok {k : Nat} (hu : X.A.units + 64 < cLine) : ∃ r, OpR X (compareOp .NotEq) r ∧ PrOk X.K (dpr pNe) (r2 r) := by
  refine ⟨_, (op_neD hu).or op_ne, dpr2 (fun F H v u x y z Q s d1 d2 e k => ?_) fun xs z e => ?_⟩
  · unfold pNe at e
    split at e
    · rename_i a b q
      cases q
      cases e
      cases d1.str
      cases d2.str
      exact .inr ⟨rfl, by rw [dec_strV]; exact kq s k (.bl _)⟩
    · rename_i q
      cases q
      split at e
      · rename_i hc
        cases e
        exact .inl ⟨_, _, d1.dp s, d2.dp s, hc.1, hc.2, kq s k (.bl _)⟩
      · cases e
    · cases e
  · unfold pNe at e
    split at e <;> first | rfl | cases e
theorem ctx_u {k : Nat} (C : Ctx X k xw) : X.A.units + 65 < cLine := by have := C.room.un; omega
theorem me_eq {k : Nat} (C : Ctx X k xw) (ha : ME X xw a fa) (hb : ME X xw b fb) : ME X xw (.Compare a [.Eq] [b] pos) (sPr (dpr pEq) [fa, fb]) := let ⟨_, h1, h2⟩ := eq_ok (k := k) (X := X) C.room.units; me_cmp h1 h2 ha hb (nobehind _ (by decide) (by decide))
theorem me_ne {k : Nat} (C : Ctx X k xw) (ha : ME X xw a fa) (hb : ME X xw b fb) : ME X xw (.Compare a [.NotEq] [b] pos) (sPr (dpr pNe) [fa, fb]) := let ⟨_, h1, h2⟩ := ne_ok (k := k) (X := X) C.room.units; me_cmp h1 h2 ha hb (nobehind _ (by decide) (by decide))
theorem mt_eq {k : Nat} (C : Ctx X k xw) (ha : ME X xw a fa) (hb : ME X xw b fb) : MT X xw (.Compare a [.Eq] [b] pos) (sVal (sPr (dpr pEq) [fa, fb])) := let ⟨_, h1, h2⟩ := eq_ok (k := k) (X := X) C.room.units; mt_cmp h1 h2 ha hb (nobehind _ (by decide) (by decide))
theorem mt_ne {k : Nat} (C : Ctx X k xw) (ha : ME X xw a fa) (hb : ME X xw b fb) : MT X xw (.Compare a [.NotEq] [b] pos) (sVal (sPr (dpr pNe) [fa, fb])) := let ⟨_, h1, h2⟩ := ne_ok (k := k) (X := X) C.room.units; mt_cmp h1 h2 ha hb (nobehind _ (by decide) (by decide))
/-! x is None -/
def pIsN : DPr
  | [.none] => some (.bool true)
  | [.bool _] => some (.bool false)
  | [.int _] => some (.bool false)
  | [.str _] => some (.bool false)
  | [.list _] => some (.bool false)
  | [.tuple _] => some (.bool false)
  | _ => none
def pNotN : DPr := fun xs => match pIsN xs with
  | some (.bool b) => some (.bool (!b))
  | _ => none
theorem isN_bool {x z : PyData} (e : pIsN [x] = some z) : ∃ b, z = .bool b := by
  unfold pIsN at e
  split at e <;> first | (cases e; exact ⟨_, rfl⟩) | cases e
theorem isN_dec {K : PySem.W.Frag} {F H : Hp} {v : V} {x : PyData} {b : Bool} (s : Sub F H) (d : Dv K F H v x) (e : pIsN [x] = some (.bool b)) : decide (v = .non) = b := by
  unfold pIsN at e
  split at e
  · rename_i q; cases q; cases e; cases d.non; rfl
  · rename_i q; cases q; cases e; cases d.bl; rfl
  · rename_i q; cases q; cases e; cases d.int; rfl
  · rename_i q; cases q; cases e; cases d.str; rfl
  · rename_i q; cases q; cases e; obtain ⟨p, xs, rfl, _⟩ := d.lst s; rfl
  · rename_i q; cases q; cases e; obtain ⟨p, xs, rfl, _⟩ := d.tup; rfl
  · cases e
theorem me_isN {j pos'} (ha : ME X xw a fa) : ME X xw (.Compare a [.Is] [.Constant .none j pos'] pos) (sPr (dpr pIsN) [fa]) :=
  PE.imp (pe_cmp (pc_isN ha) (nobehind _ (by decide) (by decide))) fun σ H Q h => tG_mono (prim1 (T := tx X) (r := r1 fun x H Q => Q (.bl (decide (x = .non))) H) (dpr1 (fun F H v x z Q s d e k => by
    obtain ⟨b, rfl⟩ := isN_bool e
    rw [isN_dec s d e]
    exact kq s k (.bl _)) fun xs z e => by
    unfold pIsN at e
    split at e <;> first | rfl | cases e) h) fun v H1 ⟨x, e, q⟩ => by cases e; exact q
theorem me_notN {j pos'} (ha : ME X xw a fa) : ME X xw (.Compare a [.IsNot] [.Constant .none j pos'] pos) (sPr (dpr pNotN) [fa]) :=
  PE.imp (pe_cmp (pc_notN ha) (nobehind _ (by decide) (by decide))) fun σ H Q h => tG_mono (prim1 (T := tx X) (r := r1 fun x H Q => Q (.bl (!decide (x = .non))) H) (dpr1 (fun F H v x z Q s d e k => by
    unfold pNotN at e
    split at e
    · rename_i b q
      cases e
      rw [isN_dec s d q]
      exact kq s k (.bl _)
    · cases e) fun xs z e => by
    unfold pNotN at e
    split at e
    · rename_i b q
      unfold pIsN at q
      split at q <;> first | rfl | cases q
    · cases e) h) fun v H1 ⟨x, e, q⟩ => by cases e; exact q
end
end Y
namespace Y
open PySem PySem.Spec PyProof.Rows L2

section
variable {X : Cx} {xw : WX} {a b : Expr} {fa fb : EF} {pos : Pos}
/-! ### in -/
def rInT (K : PySem.W.Frag) : R2 := fun x y H Q => ∃ d ds, Dp K H x d ∧ Dp K H y (.tuple ds) ∧ SeqAt.shaped d = true ∧ SeqAt.shaped (.tuple ds) = true ∧ Q (.bl (ds.any fun z => PyData.eqv z d)) H
def rNotInT (K : PySem.W.Frag) : R2 := fun x y H Q => ∃ d ds, Dp K H x d ∧ Dp K H y (.tuple ds) ∧ SeqAt.shaped d = true ∧ SeqAt.shaped (.tuple ds) = true ∧ Q (.bl (!ds.any fun z => PyData.eqv z d)) H
theorem op_inT (hu : X.A.units + 65 < cLine) : OpR X (compareOp .In) (rInT X.K) := by
  intro pins s σ H x y v u Q I rx ry h
  obtain ⟨d, ds, hd, he, sd, se, q⟩ := h
  obtain ⟨as, r1⟩ := Dp.reads I d x v hd rx
  obtain ⟨bs, r2⟩ := Dp.reads I (.tuple ds) y u he ry
  exact SeqAt.in_tuple_reads r2 r1 (SeqAt.canLay_of_shaped se) (SeqAt.canLay_of_shaped sd) (room_in_shaped sd hu) ⟨.bl _, H, I, rfl, q⟩
theorem op_notInT (hu : X.A.units + 65 < cLine) : OpR X (compareOp .NotIn) (rNotInT X.K) := by
  intro pins s σ H x y v u Q I rx ry h
  obtain ⟨d, ds, hd, he, sd, se, q⟩ := h
  obtain ⟨as, r1⟩ := Dp.reads I d x v hd rx
  obtain ⟨bs, r2⟩ := Dp.reads I (.tuple ds) y u he ry
  exact SeqAt.notIn_tuple_reads r2 r1 (SeqAt.canLay_of_shaped se) (SeqAt.canLay_of_shaped sd) (room_in_shaped sd hu) ⟨.bl _, H, I, rfl, q⟩
/-- is x in y -/
def inB : PyData → PyData → Option Bool
  | x, .list ds => if SeqAt.shaped x = true ∧ SeqAt.shaped (.list ds) = true then some (ds.any fun z => PyData.eqv z x) else none
  | x, .tuple ds => if SeqAt.shaped x = true ∧ SeqAt.shaped (.tuple ds) = true then some (ds.any fun z => PyData.eqv z x) else none
  | .str ⟨⟨[c]⟩⟩, .str z => some (decide (c ∈ z.cps.toList))
  | _, _ => none
def pIn : DPr
  | [x, y] => match inB x y with
    | some b => some (.bool b)
    | none => none
  | _ => none
def pNotIn : DPr
  | [x, y] => match inB x y with
    | some b => some (.bool (!b))
    | none => none
  | _ => none
theorem in_ok {k : Nat} (C : Ctx X k xw) : ∃ r, OpR X (compareOp .In) r ∧ PrOk X.K (dpr pIn) (r2 r) := by
  refine ⟨_, (op_in_sign.or (op_inD (ctx_u C))).or (op_inT (ctx_u C)), dpr2 (fun F H v u x y z Q s d1 d2 e k => ?_) fun xs z e => ?_⟩
  · replace e : (match inB x y with | some b => some (PyData.bool b) | none => none) = some z := e
    cases q : inB x y with
    | none => rw [q] at e; cases e
    | some b =>
      rw [q] at e
      cases e
      unfold inB at q
      split at q
      · split at q
        · rename_i hc
          cases q
          exact .inl (.inr ⟨_, _, d1.dp s, d2.dp s, hc.1, hc.2, kq s k (.bl _)⟩)
        · cases q
      · split at q
        · rename_i hc
          cases q
          exact .inr ⟨_, _, d1.dp s, d2.dp s, hc.1, hc.2, kq s k (.bl _)⟩
        · cases q
      · cases q
        cases d1.str
        cases d2.str
        exact .inl (.inl ⟨_, _, rfl, rfl, kq s k (.bl _)⟩)
      · cases q
  · unfold pIn at e
    split at e
    · rfl
    · cases e
theorem notIn_ok {k : Nat} (C : Ctx X k xw) : ∃ r, OpR X (compareOp .NotIn) r ∧ PrOk X.K (dpr pNotIn) (r2 r) := by
  refine ⟨_, (op_notIn_sign.or (op_notInD (ctx_u C))).or (op_notInT (ctx_u C)), dpr2 (fun F H v u x y z Q s d1 d2 e k => ?_) fun xs z e => ?_⟩
  · replace e : (match inB x y with | some b => some (PyData.bool (!b)) | none => none) = some z := e
    cases q : inB x y with
    | none => rw [q] at e; cases e
    | some b =>
      rw [q] at e
      cases e
      unfold inB at q
      split at q
      · split at q
        · rename_i hc
          cases q
          exact .inl (.inr ⟨_, _, d1.dp s, d2.dp s, hc.1, hc.2, kq s k (.bl _)⟩)
        · cases q
      · split at q
        · rename_i hc
          cases q
          exact .inr ⟨_, _, d1.dp s, d2.dp s, hc.1, hc.2, kq s k (.bl _)⟩
        · cases q
      · cases q
        cases d1.str
        cases d2.str
        exact .inl (.inl ⟨_, _, rfl, rfl, kq s k (.bl _)⟩)
      · cases q
  · unfold pNotIn at e
    split at e
    · rfl
    · cases e
theorem me_in {k : Nat} (C : Ctx X k xw) (ha : ME X xw a fa) (hb : ME X xw b fb) (hm : behindInMarks .In b = false := by rfl) : ME X xw (.Compare a [.In] [b] pos) (sPr (dpr pIn) [fa, fb]) := let ⟨_, h1, h2⟩ := in_ok C; me_cmp h1 h2 ha hb hm
theorem me_notIn {k : Nat} (C : Ctx X k xw) (ha : ME X xw a fa) (hb : ME X xw b fb) (hm : behindInMarks .NotIn b = false := by rfl) : ME X xw (.Compare a [.NotIn] [b] pos) (sPr (dpr pNotIn) [fa, fb]) := let ⟨_, h1, h2⟩ := notIn_ok C; me_cmp h1 h2 ha hb hm
theorem mt_in {k : Nat} (C : Ctx X k xw) (ha : ME X xw a fa) (hb : ME X xw b fb) (hm : behindInMarks .In b = false := by rfl) : MT X xw (.Compare a [.In] [b] pos) (sVal (sPr (dpr pIn) [fa, fb])) := let ⟨_, h1, h2⟩ := in_ok C; mt_cmp h1 h2 ha hb hm
theorem mt_notIn {k : Nat} (C : Ctx X k xw) (ha : ME X xw a fa) (hb : ME X xw b fb) (hm : behindInMarks .NotIn b = false := by rfl) : MT X xw (.Compare a [.NotIn] [b] pos) (sVal (sPr (dpr pNotIn) [fa, fb])) := let ⟨_, h1, h2⟩ := notIn_ok C; mt_cmp h1 h2 ha hb hm
theorem mt_isN {j pos'} (ha : ME X xw a fa) : MT X xw (.Compare a [.Is] [.Constant .none j pos'] pos) (sVal (sPr (dpr pIsN) [fa])) :=
  PT.imp (pt_cmp (pc_isN ha) (nobehind _ (by decide) (by decide))) fun σ H Q h => by
    have h1 := tT_val h
    exact tG_mono (prim1 (T := tx X) (r := r1 fun x H Q => Q (.bl (decide (x = .non))) H) (dpr1 (fun F H v x z Q s d e k => by
      obtain ⟨b, rfl⟩ := isN_bool e
      rw [isN_dec s d e]
      exact kq s k (.bl _)) fun xs z e => by
      unfold pIsN at e
      split at e <;> first | rfl | cases e) h1) fun v H1 ⟨x, e, q⟩ => by cases e; exact q
theorem mt_notN {j pos'} (ha : ME X xw a fa) : MT X xw (.Compare a [.IsNot] [.Constant .none j pos'] pos) (sVal (sPr (dpr pNotN) [fa])) :=
  PT.imp (pt_cmp (pc_notN ha) (nobehind _ (by decide) (by decide))) fun σ H Q h => by
    have h1 := tT_val h
    exact tG_mono (prim1 (T := tx X) (r := r1 fun x H Q => Q (.bl (!decide (x = .non))) H) (dpr1 (fun F H v x z Q s d e k => by
      unfold pNotN at e
      split at e
      · rename_i b q
        cases e
        rw [isN_dec s d q]
        exact kq s k (.bl _)
      · cases e) fun xs z e => by
      unfold pNotN at e
      split at e
      · rename_i b q
        unfold pIsN at q
        split at q <;> first | rfl | cases q
      · cases e) h1) fun v H1 ⟨x, e, q⟩ => by cases e; exact q

/-! ### subscripts -/
theorem atI_dq {K : PySem.W.Frag} {F : Hp} {xs : List V} {ds : List PyData} {i : Int} {d : PyData} (h : DqAll K F xs ds) (e : atI ds i = some d) : ∃ v, atI xs i = some v ∧ Dq K F v d := by
  unfold atI at e ⊢
  rw [h.length]
  cases q : ixN ds.length i with
  | none => rw [q] at e; cases e
  | some j =>
    rw [q] at e
    exact h.get e
def pIx : DPr
  | [.list ds, .int i] => atI ds i
  | [.tuple ds, .int i] => atI ds i
  | [.str z, .int i] => if z.length ≤ sizeLine then (match atI z.cps.toList i with
    | some c => some (.str ⟨#[c]⟩)
    | none => none) else none
  | _ => none
theorem ix_ok (K : PySem.W.Frag) : PrOk K (dpr pIx) (r2 (rIx K)) := by
  refine dpr2 (fun F H v u x y z Q s d1 d2 e k => ?_) fun xs z e => ?_
  · unfold pIx at e
    split at e
    · rename_i q
      cases q
      obtain ⟨p, xs, rfl, h1, h2⟩ := d1.lst s
      cases d2.int
      obtain ⟨w, e1, e2⟩ := atI_dq h2 e
      exact .inl ⟨p, xs, _, w, rfl, rfl, .of h1, e1, kq s k e2⟩
    · rename_i q
      cases q
      obtain ⟨p, xs, rfl, h1, h2⟩ := d1.tup
      cases d2.int
      obtain ⟨w, e1, e2⟩ := atI_dq h2 e
      exact .inr (.inl ⟨p, xs, _, w, rfl, rfl, TqT.up s h1, e1, kq s k e2⟩)
    · rename_i q
      cases q
      split at e
      · split at e
        · cases e
          cases d1.str
          cases d2.int
          exact .inr (.inr ⟨_, _, _, rfl, rfl, by assumption, by assumption, kq s k (.str _)⟩)
        · cases e
      · cases e
    · cases e
  · unfold pIx at e
    split at e <;> first | rfl | cases e
theorem me_sub1 (ha : ME X xw a fa) (hb : ME X xw b fb) (hs : PlainIx b := by exact fun _ _ => rfl) : ME X xw (.Subscript a b pos) (sPr (dpr pIx) [fa, fb]) := me_ix ix_seq (ix_ok _) ha hb hs
/-! slices -/
def cutL {α : Type} (xs : List α) (lo hi : Option Int) : List α := (xs.drop (HT.sIx xs.length 0 lo)).take (HT.sIx xs.length xs.length hi - HT.sIx xs.length 0 lo)
theorem cut_dq {K : PySem.W.Frag} {F : Hp} {xs : List V} {ds : List PyData} (h : DqAll K F xs ds) (lo hi : Option Int) : DqAll K F (cutV xs lo hi) (cutL ds lo hi) := by
  unfold cutV cutL
  rw [h.length]
  exact (h.drop _).take _
abbrev OF := Rho → List MO → Res (Option Int)
abbrev MO' (X : Cx) (xw : WX) (e : Option Expr) (f : OF) : Prop := PO X e (tG (tx X) xw (fun _ (a b : Option Int) => a = b) f)
theorem PO.imp {X : Cx} {e : Option Expr} {t t' : TO} (h : PO X e t) (k : ∀ σ H Q, t' σ H Q → t σ H Q) : PO X e t' := ⟨fun pins s σ H Q I q => h.run pins s σ H Q I (k σ H Q q)⟩
def oN : OF := fun _ M => .ok none M
def oS (f : EF) : OF := fun ρ M => (f ρ M).bind fun w M => match w with
  | .d (.int i) => .ok (some i) M
  | _ => .stuck
theorem mo_none : MO' X xw none oN := PO.imp po_none fun σ H Q ⟨g, ρ, M, R, S, b⟩ => b none g H R (Ext.refl _ _) rfl
theorem mo_some (ha : ME X xw a fa) : MO' X xw (some a) (oS fa) := PO.imp (po_some ha) fun σ H Q h => tG_mono (tG_bind (R2 := RW X.K) h) fun v H1 ⟨g, ρ, M, w, R, S, q, b⟩ => by
  split at b
  · cases q with
    | d q => cases q; exact ⟨_, rfl, b _ g H1 R (Ext.refl _ _) rfl⟩
  · exact b.elim
def slD (lo hi : Option Int) : PyData → Option PyData
  | .list ds => some (.list (cutL ds lo hi))
  | .tuple ds => some (.tuple (cutL ds lo hi))
  | .str z => if z.length ≤ sizeLine then some (.str (cutS z lo hi)) else none
  | _ => none
def sSl (f : EF) (lo hi : OF) : EF := fun ρ M => (f ρ M).bind fun w M1 => (lo ρ M1).bind fun l M2 => (hi ρ M2).bind fun h M3 => match vw M3 w with
  | some x => match slD l h x with
    | some y => .ok (.d y) M3
    | none => .stuck
  | none => .stuck
theorem me_sl {lo hi : Option Expr} {fl fh : OF} {p2 : Pos} (ha : ME X xw a fa) (hl : MO' X xw lo fl) (hh : MO' X xw hi fh) : ME X xw (.Subscript a (.Slice lo hi none p2) pos) (sSl fa fl fh) :=
  PE.imp (pe_slice ((sl_list.or sl_tupA).or sl_str) ha hl hh) fun σ H Q h => by
    refine tG_mono (tG_bind (R2 := RW X.K) h) fun v H1 ⟨g, ρ, M, w, R, S, q, b⟩ => ?_
    have b2 : tG (tx X) xw (RW X.K) (fun ρ M => (fl ρ M).bind fun l M2 => (fh ρ M2).bind fun h M3 => match vw M3 w with
      | some x => match slD l h x with
        | some y => .ok (.d y) M3
        | none => .stuck
      | none => .stuck) σ H1 Q := ⟨g, ρ, M, R, S, b⟩
    refine ⟨g, ρ, M, R, S, ?_⟩
    cases el : fl ρ M with
    | stuck => simp only [Res.bind, el] at b; exact b
    | err x M2 => simp only [Res.bind, el] at b; exact b
    | ok l M2 =>
      simp only [Res.bind, el] at b
      intro l' g2 H2 R2 E2 hl'
      have hl'' : l' = l := hl'
      subst hl''
      refine ⟨g2, ρ, M2, R2, S.gr E2.gr, ?_⟩
      cases eh : fh ρ M2 with
      | stuck => rw [eh] at b; exact b
      | err x M3 => rw [eh] at b; exact fun c d g' H' r' e' => b c d g' H' r' (E2.trans e')
      | ok h M3 =>
        rw [eh] at b
        simp only at b
        intro h' g3 H3 R3 E3 hh'
        have hh'' : h' = h := hh'
        subst hh''
        have q3 := RW.gr (E2.trans E3).gr q
        cases ev : vw M3 w with
        | none => rw [ev] at b; exact b.elim
        | some x =>
          rw [ev] at b
          simp only at b
          have dv := vw_ok R3 q3 ev
          have s3 := R3.sub
          have kk : ∀ y, slD l' h' x = some y → ∀ v F' H', Lay g3.F H3 F' H' → Dq X.K F' v y → Q v H' := fun y ey v F' H' L dq => by
            rw [ey] at b
            exact Bhd.later b (E2.trans E3) v ⟨g3.ph, F'⟩ H' (L.rel R3) L.ext (.d dq)
          cases x with
          | list ds =>
            obtain ⟨p, xs, rfl, h1, h2⟩ := dv.lst s3
            exact .inl (.inl ⟨p, xs, rfl, .of h1, fun q hq => kn s3 (kk _ rfl) (cut_dq h2 l' h') hq⟩)
          | tuple ds =>
            obtain ⟨p, xs, rfl, h1, h2⟩ := dv.tup
            refine .inl (.inr ⟨p, xs, rfl, TqT.up s3 h1, fun hw => kq s3 (kk _ rfl) (.tup h1 ?_), fun _ q hq => kt s3 (kk _ rfl) (cut_dq h2 l' h') hq⟩)
            have := cut_dq h2 l' h'
            unfold cutV at this
            rw [hw.1, hw.2, List.drop_zero, Nat.sub_zero, List.take_length] at this
            exact this
          | str z =>
            cases dv.str
            by_cases hz : z.length ≤ sizeLine
            · exact .inr ⟨z, rfl, hz, kq s3 (kk (.str (cutS z l' h')) (show (if z.length ≤ sizeLine then some (PyData.str (cutS z l' h')) else none) = _ from if_pos hz)) (.str _)⟩
            · have : slD l' h' (.str z) = none := (show (if z.length ≤ sizeLine then some (PyData.str (cutS z l' h')) else none) = _ from if_neg hz)
              rw [this] at b
              exact b.elim
          | none => exact b.elim
          | bool _ => exact b.elim
          | int _ => exact b.elim
          | dict _ => exact b.elim
end
end Y
namespace Y
open PySem PySem.Spec PyProof.Rows L2

/-- a call's primitive over data -/
theorem dprN {K : PySem.W.Frag} {p : DPr} {r : List V → Hp → VK → Prop} (h : DPrOk K p r) : PrOk K (dpr p) r := dpr_ok h
section
variable {X : Cx} {xw : WX} {a b : Expr} {fa fb : EF} {pos p1 : Pos} {k : Nat}
/-! ### len -/
def pLen : DPr
  | [.list ds] => some (.int ds.length)
  | [.tuple ds] => some (.int ds.length)
  | [.str z] => if z.length ≤ sizeLine then some (.int z.length) else none
  | _ => none
theorem len_ok (K : PySem.W.Frag) : PrOk K (dpr pLen) (fun xs H Q => ∃ x n, xs = [x] ∧ LenV K x H n ∧ Q (.int n) H) := dprN fun F H vs xs y Q s dv e k => by
  unfold pLen at e
  split at e
  · cases e
    obtain ⟨v, rfl, d⟩ := dv.one
    obtain ⟨p, xs, rfl, h1, h2⟩ := d.lst s
    exact ⟨_, _, rfl, .inl ⟨xs, .of h1, rfl⟩, by rw [h2.length]; exact kq s k (.int _)⟩
  · cases e
    obtain ⟨v, rfl, d⟩ := dv.one
    obtain ⟨p, xs, rfl, h1, h2⟩ := d.tup
    exact ⟨_, _, rfl, .inr ⟨xs, TqT.up s h1, rfl⟩, by rw [h2.length]; exact kq s k (.int _)⟩
  · split at e
    · cases e
      obtain ⟨v, rfl, d⟩ := dv.one
      cases d.str
      exact ⟨_, _, rfl, ⟨by assumption, rfl⟩, kq s k (.int _)⟩
    · cases e
  · cases e
theorem me_len (ha : MA X xw [a] [fa]) (hm : X.mg "len" = none) (hg : Gl X "len" := by rfl) (he : starEach [a] X.env = (false, eval a X.env) :: starEach [] X.env := by rfl) : ME X xw (.Call (.Name "len" p1) [a] [] pos) (sPr (dpr pLen) [fa]) := me_callB call_len (len_ok _) hg hm PySem.boot_len ha (he := he)
/-! ### int -/
def pInt : DPr
  | [.int i] => some (.int i)
  | [.bool b] => some (.int (if b then 1 else 0))
  | [.str z] => if z.length ≤ 640 then (match intText? z with
    | some n => some (.int n)
    | none => none) else none
  | _ => none
theorem int_ok : ∃ r, CallR X (.type "int") r ∧ PrOk X.K (dpr pInt) r := by
  refine ⟨_, call_int1.or call_int_str, dprN fun F H vs xs y Q s dv e k => ?_⟩
  unfold pInt at e
  split at e
  · cases e
    obtain ⟨v, rfl, d⟩ := dv.one
    cases d.int
    exact .inl (.inl ⟨_, rfl, kq s k (.int _)⟩)
  · cases e
    obtain ⟨v, rfl, d⟩ := dv.one
    cases d.bl
    exact .inl (.inr ⟨_, rfl, kq s k (.int _)⟩)
  · split at e
    · split at e
      · cases e
        obtain ⟨v, rfl, d⟩ := dv.one
        cases d.str
        exact .inr ⟨_, _, rfl, by assumption, by assumption, kq s k (.int _)⟩
      · cases e
    · cases e
  · cases e
theorem me_int1 (ha : MA X xw [a] [fa]) (hm : X.mg "int" = none) (hg : Gl X "int" := by rfl) (he : starEach [a] X.env = (false, eval a X.env) :: starEach [] X.env := by rfl) : ME X xw (.Call (.Name "int" p1) [a] [] pos) (sPr (dpr pInt) [fa]) := let ⟨_, h1, h2⟩ := int_ok (X := X); me_callTy h1 h2 hg hm PyProof.Rows.boot_int ha (he := he)
/-! ### str, repr -/
def okShow (d : PyData) : Bool := d.showable && !d.hasDict && decide (d.depth ≤ 60) && decide (d.shown.length ≤ sizeLine)
def pStr : DPr
  | [.str z] => some (.str z)
  | [d] => if okShow d = true then some (.str d.shown) else none
  | _ => none
def pRepr : DPr
  | [d] => if okShow d = true then some (.str d.shown) else none
  | _ => none
theorem okShow_of {d : PyData} (h : okShow d = true) : d.showable = true ∧ d.hasDict = false ∧ d.depth ≤ 60 ∧ d.shown.length ≤ sizeLine := by
  unfold okShow at h
  simp only [Bool.and_eq_true, decide_eq_true_eq, Bool.not_eq_true'] at h
  exact ⟨h.1.1.1, h.1.1.2, h.1.2, h.2⟩
def rStr (K : PySem.W.Frag) : List V → Hp → VK → Prop := fun vs H Q => ∃ v d, vs = [v] ∧ Dp K H v d ∧ ((∃ z, d = .str z ∧ Q (.str z) H) ∨ ((∀ z, d ≠ .str z) ∧ okShow d = true ∧ Q (.str d.shown) H))
theorem call_strD (C : Ctx X k xw) : CallR X (.type "str") (rStr X.K) := by
  intro pins s σ H xs us Q I r h
  obtain ⟨v, d, rfl, hd, h⟩ := h
  obtain ⟨u, rfl, rx⟩ := vals1 r
  obtain ⟨as, rd⟩ := Dp.reads I d v u hd rx
  have hu := C.room.un
  rcases h with ⟨z, rfl, q⟩ | ⟨hn, hok, q⟩
  · cases hd
    obtain ⟨t, rfl⟩ := rx
    exact PySem.P.str_of_str ⟨.str z, H, I, ⟨_, rfl⟩, q⟩
  · obtain ⟨h1, h2, h3, h4⟩ := okShow_of hok
    cases hd with
    | non => cases rx; exact PySem.P.str_of_none ⟨.str _, H, I.tok _, ⟨_, rfl⟩, q⟩
    | bl b => cases rx; exact PySem.P.str_of_bool ⟨.str _, H, I.tok _, ⟨_, rfl⟩, q⟩
    | int i => obtain ⟨t, rfl⟩ := rx; exact PySem.P.str_of_int (by simpa [PyData.showable] using h1) ⟨.str _, H, I.tok _, ⟨_, rfl⟩, q⟩
    | str z => exact absurd rfl (hn z)
    | lst hs ha =>
      cases rx
      exact str_of_reads rd h1 (PySem.PyData.noDict_hsm h2) C.gd (by omega) (fun _ _ e => e) (fun h' u tk hk => ⟨.str _, H, I.kept (t' := tk) hk, ⟨_, rfl⟩, q⟩) h4
    | tup hs ha =>
      cases rx
      exact str_of_reads rd h1 (PySem.PyData.noDict_hsm h2) C.gd (by omega) (fun _ _ e => e) (fun h' u tk hk => ⟨.str _, H, I.kept (t' := tk) hk, ⟨_, rfl⟩, q⟩) h4
theorem str_ok (K : PySem.W.Frag) : PrOk K (dpr pStr) (rStr K) := dprN fun F H vs xs y Q s dv e k => by
  unfold pStr at e
  split at e
  · cases e
    obtain ⟨v, rfl, d⟩ := dv.one
    exact ⟨v, _, rfl, d.dp s, .inl ⟨_, rfl, kq s k (.str _)⟩⟩
  · rename_i d hn
    split at e
    · cases e
      obtain ⟨v, rfl, d⟩ := dv.one
      exact ⟨v, _, rfl, d.dp s, .inr ⟨hn, by assumption, kq s k (.str _)⟩⟩
    · cases e
  · cases e
theorem me_str1 (C : Ctx X k xw) (ha : MA X xw [a] [fa]) (hm : X.mg "str" = none) (hg : Gl X "str" := by rfl) (he : starEach [a] X.env = (false, eval a X.env) :: starEach [] X.env := by rfl) : ME X xw (.Call (.Name "str" p1) [a] [] pos) (sPr (dpr pStr) [fa]) := me_callTy (call_strD C) (str_ok _) hg hm PyProof.Rows.boot_str ha (he := he)
/-! ### list, tuple -/
def rListS : List V → Hp → VK → Prop := fun xs H Q => ∃ z, xs = [.str z] ∧ z.cps.size ≤ sizeLine ∧ ∀ l, H l = none → Q (.ref l) (upd H l (.lst (z.cps.toList.map fun c => .str ⟨#[c]⟩)))
def rTupS : List V → Hp → VK → Prop := fun xs H Q => ∃ z, xs = [.str z] ∧ z.cps.size ≤ sizeLine ∧ ∀ l, H l = none → Q (.ref l) (upd H l (.tup (z.cps.toList.map fun c => .str ⟨#[c]⟩)))
theorem vals_signs {z : Str} {acc : Array Value} (h : ItemsOf (SignAt z) acc z.cps.size) : Vals (z.cps.toList.map fun c => V.str ⟨#[c]⟩) acc.toList := by
  refine vals_of_at (by rw [List.length_map, Array.length_toList, Array.length_toList]; exact h.1.symm) fun j x u e1 e2 => ?_
  rw [List.getElem?_map, Array.getElem?_toList] at e1
  rw [Array.getElem?_toList] at e2
  obtain ⟨c, t, e3, rfl⟩ := h.2 j u e2
  rw [e3] at e1
  cases e1
  exact ⟨t, rfl⟩
theorem call_list_S (hc : X.calm = true) : CallR X (.type "list") rListS := by
  intro pins s σ H xs us Q I r h
  obtain ⟨z, rfl, hz, q⟩ := h
  obtain ⟨u, rfl, rx⟩ := vals1 r
  obtain ⟨t, rfl⟩ := rx
  refine call_list_str (I.ok.hd hc) z t (fun h' tk acc' c' hk hS hacc => ?_) hz
  exact ⟨.ref s.heap.objs.size, _, I.laid (t' := tk) hk (Nat.le_refl _) (show ObjOk X.prog X.w _ h' _ (.lst _) from ⟨by rw [List.length_map, Array.length_toList]; exact hz, acc'.toList, c', vals_signs hacc, by simpa using hS⟩), rfl, q _ (I.hok.fresh (Nat.le_refl _))⟩
theorem call_tup_S (hc : X.calm = true) : CallR X (.type "tuple") rTupS := by
  intro pins s σ H xs us Q I r h
  obtain ⟨z, rfl, hz, q⟩ := h
  obtain ⟨u, rfl, rx⟩ := vals1 r
  obtain ⟨t, rfl⟩ := rx
  refine call_tuple_str (I.ok.hd hc) z t (fun h' tk acc hk hacc => ?_) hz
  have I1 : Inv X pins σ H { s with heap := h', toks := tk } := I.kept (t' := tk) hk
  have I2 : Inv X pins σ (upd H h'.objs.size (.tup (z.cps.toList.map fun c => V.str ⟨#[c]⟩))) { s with heap := h'.push { cls := .type "tuple", data := .seq acc }, toks := tk } :=
    I1.laid (t' := tk) (fun b o e => Heap.get?_push_of_some _ e) (Nat.le_refl _) (show ObjOk X.prog X.w _ _ _ (.tup _) from ⟨by rw [List.length_map, Array.length_toList]; exact hz, acc.toList, vals_signs hacc, by simpa using IsTup.new _ _⟩)
  exact ⟨.ref h'.objs.size, _, I2, rfl, q _ (I1.hok.fresh (Nat.le_refl _))⟩
theorem dq_chs {K : PySem.W.Frag} {F : Hp} (z : Str) : DqAll K F (z.cps.toList.map fun c => V.str ⟨#[c]⟩) (chs z) := by
  unfold chs
  induction z.cps.toList with
  | nil => exact .nil
  | cons c r ih => exact .cons (.str _) ih
def pList : DPr
  | [.list ds] => some (.list ds)
  | [.tuple ds] => some (.list ds)
  | [.str z] => if z.cps.size ≤ sizeLine then some (.list (chs z)) else none
  | _ => none
def pTuple : DPr
  | [.list ds] => some (.tuple ds)
  | [.tuple ds] => some (.tuple ds)
  | [.str z] => if z.cps.size ≤ sizeLine then some (.tuple (chs z)) else none
  | _ => none
theorem list_ok (hc : X.calm = true) : ∃ r, CallR X (.type "list") r ∧ PrOk X.K (dpr pList) r := by
  refine ⟨_, call_list_of.or (call_list_S hc), dprN fun F H vs xs y Q s dv e k => ?_⟩
  unfold pList at e
  split at e
  · cases e
    obtain ⟨v, rfl, d⟩ := dv.one
    obtain ⟨p, xs, rfl, h1, h2⟩ := d.lst s
    exact .inl ⟨p, xs, rfl, .inl (.of h1), fun l hl => kn s k h2 hl⟩
  · cases e
    obtain ⟨v, rfl, d⟩ := dv.one
    obtain ⟨p, xs, rfl, h1, h2⟩ := d.tup
    exact .inl ⟨p, xs, rfl, .inr (TqT.up s h1), fun l hl => kn s k h2 hl⟩
  · split at e
    · cases e
      obtain ⟨v, rfl, d⟩ := dv.one
      cases d.str
      exact .inr ⟨_, rfl, by assumption, fun l hl => kn s k (dq_chs _) hl⟩
    · cases e
  · cases e
theorem tuple_ok (hc : X.calm = true) : ∃ r, CallR X (.type "tuple") r ∧ PrOk X.K (dpr pTuple) r := by
  refine ⟨_, call_tuple_of.or (call_tup_S hc), dprN fun F H vs xs y Q s dv e k => ?_⟩
  unfold pTuple at e
  split at e
  · cases e
    obtain ⟨v, rfl, d⟩ := dv.one
    obtain ⟨p, xs, rfl, h1, h2⟩ := d.lst s
    exact .inl ⟨p, xs, rfl, .inl ⟨.of h1, fun l hl => kt s k h2 hl⟩⟩
  · cases e
    obtain ⟨v, rfl, d⟩ := dv.one
    obtain ⟨p, xs, rfl, h1, h2⟩ := d.tup
    exact .inl ⟨p, xs, rfl, .inr ⟨TqT.up s h1, kq s k (.tup h1 h2)⟩⟩
  · split at e
    · cases e
      obtain ⟨v, rfl, d⟩ := dv.one
      cases d.str
      exact .inr ⟨_, rfl, by assumption, fun l hl => kt s k (dq_chs _) hl⟩
    · cases e
  · cases e
theorem me_list1 (C : Ctx X k xw) (ha : MA X xw [a] [fa]) (hm : X.mg "list" = none) (hg : Gl X "list" := by rfl) (he : starEach [a] X.env = (false, eval a X.env) :: starEach [] X.env := by rfl) : ME X xw (.Call (.Name "list" p1) [a] [] pos) (sPr (dpr pList) [fa]) := let ⟨_, h1, h2⟩ := list_ok C.calm; me_callTy h1 h2 hg hm PyProof.Rows.boot_list ha (he := he)
theorem me_tuple1 (C : Ctx X k xw) (ha : MA X xw [a] [fa]) (hm : X.mg "tuple" = none) (hg : Gl X "tuple" := by rfl) (he : starEach [a] X.env = (false, eval a X.env) :: starEach [] X.env := by rfl) : ME X xw (.Call (.Name "tuple" p1) [a] [] pos) (sPr (dpr pTuple) [fa]) := let ⟨_, h1, h2⟩ := tuple_ok C.calm; me_callTy h1 h2 hg hm PyProof.Rows.boot_tuple ha (he := he)
/-! ### all, any, sum, max, min -/
def bls : List PyData → Option (List Bool)
  | [] => some []
  | .bool b :: r => match bls r with
    | some bs => some (b :: bs)
    | none => none
  | _ => none
def intsD : List PyData → Option (List Int)
  | [] => some []
  | .int b :: r => match intsD r with
    | some bs => some (b :: bs)
    | none => none
  | _ => none
def strsD : List PyData → Option (List Str)
  | [] => some []
  | .str b :: r => match strsD r with
    | some bs => some (b :: bs)
    | none => none
  | _ => none
theorem bls_dq {K : PySem.W.Frag} {F : Hp} : ∀ {ds : List PyData} {xs : List V} {bs : List Bool}, DqAll K F xs ds → bls ds = some bs → xs = bs.map V.bl
  | [], _, _, .nil, e => by cases e; rfl
  | d :: ds, _, _, .cons h t, e => by
    unfold bls at e
    split at e
    · rename_i q; cases q
    · rename_i b r q
      cases q
      split at e
      · cases e
        cases h
        rw [bls_dq t (by assumption)]
        rfl
      · cases e
    · cases e
theorem intsD_dq {K : PySem.W.Frag} {F : Hp} : ∀ {ds : List PyData} {xs : List V} {bs : List Int}, DqAll K F xs ds → intsD ds = some bs → xs = bs.map V.int
  | [], _, _, .nil, e => by cases e; rfl
  | d :: ds, _, _, .cons h t, e => by
    unfold intsD at e
    split at e
    · rename_i q; cases q
    · rename_i b r q
      cases q
      split at e
      · cases e
        cases h
        rw [intsD_dq t (by assumption)]
        rfl
      · cases e
    · cases e
theorem strsD_dq {K : PySem.W.Frag} {F : Hp} : ∀ {ds : List PyData} {xs : List V} {bs : List Str}, DqAll K F xs ds → strsD ds = some bs → xs = bs.map V.str
  | [], _, _, .nil, e => by cases e; rfl
  | d :: ds, _, _, .cons h t, e => by
    unfold strsD at e
    split at e
    · rename_i q; cases q
    · rename_i b r q
      cases q
      split at e
      · cases e
        cases h
        rw [strsD_dq t (by assumption)]
        rfl
      · cases e
    · cases e
def pAll : DPr
  | [.list ds] => match bls ds with
    | some bs => some (.bool (bs.all id))
    | none => none
  | _ => none
def pAny : DPr
  | [.list ds] => match bls ds with
    | some bs => some (.bool (bs.any id))
    | none => none
  | _ => none
def pSum : DPr
  | [.list ds] => match intsD ds with
    | some bs => some (.int bs.sum)
    | none => none
  | _ => none
theorem all_ok (K : PySem.W.Frag) : PrOk K (dpr pAll) (rAll K) := dprN fun F H vs xs y Q s dv e k => by
  unfold pAll at e
  split at e
  · split at e
    · rename_i bs q
      cases e
      obtain ⟨v, rfl, d⟩ := dv.one
      obtain ⟨p, xs, rfl, h1, h2⟩ := d.lst s
      exact ⟨p, bs, rfl, by rw [← bls_dq h2 q]; exact .of h1, kq s k (.bl _)⟩
    · cases e
  · cases e
theorem any_ok (K : PySem.W.Frag) : PrOk K (dpr pAny) (rAny K) := dprN fun F H vs xs y Q s dv e k => by
  unfold pAny at e
  split at e
  · split at e
    · rename_i bs q
      cases e
      obtain ⟨v, rfl, d⟩ := dv.one
      obtain ⟨p, xs, rfl, h1, h2⟩ := d.lst s
      exact ⟨p, bs, rfl, by rw [← bls_dq h2 q]; exact .of h1, kq s k (.bl _)⟩
    · cases e
  · cases e
theorem sum_ok (K : PySem.W.Frag) : PrOk K (dpr pSum) (rSum K) := dprN fun F H vs xs y Q s dv e k => by
  unfold pSum at e
  split at e
  · split at e
    · rename_i bs q
      cases e
      obtain ⟨v, rfl, d⟩ := dv.one
      obtain ⟨p, xs, rfl, h1, h2⟩ := d.lst s
      exact ⟨p, bs, rfl, by rw [← intsD_dq h2 q]; exact .of h1, kq s k (.int _)⟩
    · cases e
  · cases e
theorem me_all (C : Ctx X k xw) (ha : MA X xw [a] [fa]) (hm : X.mg "all" = none) (hg : Gl X "all" := by rfl) (he : starEach [a] X.env = (false, eval a X.env) :: starEach [] X.env := by rfl) : ME X xw (.Call (.Name "all" p1) [a] [] pos) (sPr (dpr pAll) [fa]) := me_callB (cr_all C.calm) (all_ok _) hg hm PyProof.Rows.boot_all ha (he := he)
theorem me_any (C : Ctx X k xw) (ha : MA X xw [a] [fa]) (hm : X.mg "any" = none) (hg : Gl X "any" := by rfl) (he : starEach [a] X.env = (false, eval a X.env) :: starEach [] X.env := by rfl) : ME X xw (.Call (.Name "any" p1) [a] [] pos) (sPr (dpr pAny) [fa]) := me_callB (cr_any C.calm) (any_ok _) hg hm PyProof.Rows.boot_any ha (he := he)
theorem me_sum (C : Ctx X k xw) (ha : MA X xw [a] [fa]) (hm : X.mg "sum" = none) (hg : Gl X "sum" := by rfl) (he : starEach [a] X.env = (false, eval a X.env) :: starEach [] X.env := by rfl) : ME X xw (.Call (.Name "sum" p1) [a] [] pos) (sPr (dpr pSum) [fa]) := me_callB (cr_sum C.calm) (sum_ok _) hg hm PyProof.Rows.boot_sum ha (he := he)
def pMax : DPr
  | [.int i, .int j] => some (.int (if j > i then j else i))
  | _ => none
def pMin : DPr
  | [.int i, .int j] => some (.int (if j < i then j else i))
  | _ => none
theorem max_ok (K : PySem.W.Frag) : PrOk K (dpr pMax) (fun xs H Q => ∃ i j, xs = [.int i, .int j] ∧ Q (.int (if j > i then j else i)) H) := dprN fun F H vs xs y Q s dv e k => by
  unfold pMax at e
  split at e
  · cases e
    obtain ⟨v, u, rfl, d1, d2⟩ := dv.two
    cases d1.int
    cases d2.int
    exact ⟨_, _, rfl, kq s k (.int _)⟩
  · cases e
theorem min_ok (K : PySem.W.Frag) : PrOk K (dpr pMin) (fun xs H Q => ∃ i j, xs = [.int i, .int j] ∧ Q (.int (if j < i then j else i)) H) := dprN fun F H vs xs y Q s dv e k => by
  unfold pMin at e
  split at e
  · cases e
    obtain ⟨v, u, rfl, d1, d2⟩ := dv.two
    cases d1.int
    cases d2.int
    exact ⟨_, _, rfl, kq s k (.int _)⟩
  · cases e
theorem me_max (C : Ctx X k xw) (ha : MA X xw [a, b] [fa, fb]) (hm : X.mg "max" = none) (hg : Gl X "max" := by rfl) (he : starEach [a, b] X.env = (false, eval a X.env) :: starEach [b] X.env := by rfl) (hpl : (backTo pos (starEach [b] X.env)).any (·.1) = false := by rfl) : ME X xw (.Call (.Name "max" p1) [a, b] [] pos) (sPr (dpr pMax) [fa, fb]) := me_callB (call_max2 C.calm) (max_ok _) hg hm PyProof.Rows.boot_max ha (he := he) (hpl := hpl)
theorem me_min (C : Ctx X k xw) (ha : MA X xw [a, b] [fa, fb]) (hm : X.mg "min" = none) (hg : Gl X "min" := by rfl) (he : starEach [a, b] X.env = (false, eval a X.env) :: starEach [b] X.env := by rfl) (hpl : (backTo pos (starEach [b] X.env)).any (·.1) = false := by rfl) : ME X xw (.Call (.Name "min" p1) [a, b] [] pos) (sPr (dpr pMin) [fa, fb]) := me_callB (call_min2 C.calm) (min_ok _) hg hm PyProof.Rows.boot_min ha (he := he) (hpl := hpl)
/-! ### isinstance -/
def tyN : PyData → String
  | .none => "NoneType"
  | .bool _ => "bool"
  | .int _ => "int"
  | .str _ => "str"
  | .list _ => "list"
  | .tuple _ => "tuple"
  | .dict _ => "dict"
inductive Ty where
  | int | bool | str | list | tuple
def Ty.nm : Ty → String
  | .int => "int"
  | .bool => "bool"
  | .str => "str"
  | .list => "list"
  | .tuple => "tuple"
def isT : Ty → PyData → Bool
  | .int, .int _ => true
  | .int, .bool _ => true
  | .bool, .bool _ => true
  | .str, .str _ => true
  | .list, .list _ => true
  | .tuple, .tuple _ => true
  | _, _ => false
theorem isT_kit (T : Ty) (d : PyData) : kitB (tyN d) T.nm = some (isT T d) := by
  cases T <;> cases d <;> first | rfl | decide +kernel | (unfold tyN Ty.nm isT; decide +kernel)
theorem dv_ty {K : PySem.W.Frag} {F H : Hp} {v : V} {x : PyData} (s : Sub F H) (d : Dv K F H v x) : TyX K H v (.type (tyN x)) := by
  cases x with
  | none => cases d.non; exact .base .non
  | bool b => cases d.bl; exact .base (.bl _)
  | int b => cases d.int; exact .base (.int _)
  | str b => cases d.str; exact .base (.str _)
  | list ds => obtain ⟨p, xs, rfl, h1, _⟩ := d.lst s; exact .base (.lst h1)
  | tuple ds =>
    obtain ⟨p, xs, rfl, h1, _⟩ := d.tup
    rcases TqT.up s h1 with (h | ⟨o, h⟩) | ⟨o, its, n, h, c, _⟩
    · exact .base (.tup h)
    · exact .fTuple h
    · exact .kTuple h c
  | dict ds =>
    rcases d with d | ⟨_, _, _, _, e, _⟩
    · cases d
    · cases e
def sIsi (T : Ty) (f : EF) : EF := fun ρ M => (f ρ M).bind fun w M => match vw M w with
  | some d => .ok (.d (.bool (isT T d))) M
  | none => .stuck
theorem boot_ty : ∀ T : Ty, bootBuiltins (Str.ofString T.nm) = some (.type T.nm) := by
  intro T
  cases T <;> decide +kernel
theorem me_isi (T : Ty) {x : Str} {p2 : Pos} (ha : ME X xw a fa) (hm : X.mg "isinstance" = none) (hmT : X.mg x = none) (hx : x = Str.ofString T.nm := by rfl) (hg : Gl X "isinstance" := by rfl) (hgT : Gl X x := by rfl)
    (he : starEach [a, .Name x p2] X.env = (false, eval a X.env) :: starEach [.Name x p2] X.env := by rfl) (hpl : (backTo pos (starEach [.Name x p2] X.env)).any (·.1) = false := by rfl) (he2 : starEach [.Name x p2] X.env = (false, eval (.Name x p2) X.env) :: starEach [] X.env := by rfl) :
    ME X xw (.Call (.Name "isinstance" p1) [a, .Name x p2] [] pos) (sIsi T fa) := by
  subst hx
  have n1 : Str.ofString T.nm ≠ "__name__" := by cases T <;> decide
  have n2 : (Str.ofString T.nm == ("__debug__" : Str)) = false := by cases T <;> decide
  refine PE.imp (pe_callB call_isi hg hm PyProof.Rows.boot_isinstance (pa_cons ha (pa_cons (pe_bltn (v := .ty T.nm) hgT hmT (boot_ty T) rfl n1 n2) pa_nil he2) he) (he := he) (hpl := hpl)) fun σ H Q h => ?_
  refine tG_mono (tG_bind (R2 := RW X.K) h) fun v H1 ⟨g, ρ, M, w, R, S, q, b⟩ => ?_
  cases ev : vw M w with
  | none => simp only [ev] at b; exact b.elim
  | some d =>
    simp only [ev] at b
    exact ⟨v, .ty T.nm, _, _, _, rfl, .ty _, dv_ty R.sub (vw_ok R q ev), kit_ty (isT_kit T d), b _ g H1 R (Ext.refl _ _) (.d (.bl _))⟩
/-! ### displays -/
/-- the items, as data -/
def allD : List W → Option (List PyData)
  | [] => some []
  | .d x :: ws => match allD ws with
    | some xs => some (x :: xs)
    | none => none
  | _ => none
theorem allD_ok {K : PySem.W.Frag} {g : Gh} : ∀ {ws : List W} {vs : List V} {xs : List PyData}, RWs K g vs ws → allD ws = some xs → DqAll K g.F vs xs
  | [], _, _, .nil, e => by cases e; exact .nil
  | w :: ws, _, _, .cons h t, e => by
    unfold allD at e
    split at e
    · rename_i q; cases q
    · rename_i x r q
      cases q
      split at e
      · cases e
        cases h with
        | d h => exact .cons h (allD_ok t (by assumption))
      · cases e
    · cases e
abbrev LF := Rho → List MO → Res (List W)
abbrev ML (X : Cx) (xw : WX) (es : List Expr) (f : LF) : Prop := PA X es (tG (tx X) xw (RWs X.K) f)
def sLst (f : LF) : EF := fun ρ M => (f ρ M).bind fun ws M => match allD ws with
  | some xs => if xs.length ≤ sizeLine then .ok (.d (.list xs)) M else .stuck
  | none => .stuck
/-- a tuple: of data, or with things that may grow -/
def sTup (f : LF) : EF := fun ρ M => (f ρ M).bind fun ws M => if ws.length ≤ sizeLine then match allD ws with
  | some xs => .ok (.d (.tuple xs)) M
  | none => .ok (.tup ws) M
  else .stuck
/-- a list that may grow -/
def sLive (f : LF) : EF := fun ρ M => (f ρ M).bind fun ws M => match allD ws with
  | some xs => if xs.length ≤ sizeLine then .ok (.loc M.length) (M ++ [.lst xs]) else .stuck
  | none => .stuck
theorem Rel.live {K : PySem.W.Frag} {g : Gh} {M : List MO} {H : Hp} {p : Addr} {vs : List V} {xs : List PyData} (R : Rel K g M H) (hp : H p = none) (d : DqAll K g.F vs xs) : Rel K ⟨g.ph ++ [p], g.F⟩ (M ++ [.lst xs]) (upd H p (.lst vs)) ∧ Ext g H ⟨g.ph ++ [p], g.F⟩ (upd H p (.lst vs)) := by
  have hF : g.F p = none := R.sub.none hp
  have hn : p ∉ g.ph := fun z => by obtain ⟨u, q⟩ := R.tr p z; rw [hp] at q; cases q
  have gr : Gr g ⟨g.ph ++ [p], g.F⟩ := ⟨fun n a e => by
    show (g.ph ++ [p])[n]? = some a
    rw [List.getElem?_append_left (List.getElem?_eq_some_iff.mp e).1]; exact e, Sub.refl _⟩
  have up : ∀ a o, H a = some o → upd H p (.lst vs) a = some o := fun a o e => by rw [upd_ne (ne_of_none e hp)]; exact e
  refine ⟨⟨fun a u e => up _ _ (R.sub _ _ e), by simp [R.len], fun n o e l => ?_, fun n m a e1 e2 => ?_, fun a hm => ?_⟩, ⟨gr, fun a o e _ => up _ _ e, fun a h h' => absurd h h', fun a hm => ?_⟩⟩
  · by_cases hl : n < M.length
    · rw [List.getElem?_append_left hl] at e
      obtain ⟨a, e1, e2, e3⟩ := R.at_ n o e l
      exact ⟨a, gr.ph _ _ e1, e2, MOk.gr gr (up a) e3⟩
    · have hz : n = M.length := by
        have := (List.getElem?_eq_some_iff.mp e).1
        simp at this
        omega
      subst hz
      rw [List.getElem?_append_right (Nat.le_refl _), Nat.sub_self] at e
      cases e
      refine ⟨p, ?_, hF, vs, upd_same, d⟩
      show (g.ph ++ [p])[M.length]? = some p
      rw [List.getElem?_append_right (by rw [R.len]; exact Nat.le_refl _), R.len, Nat.sub_self]
      rfl
  · have h1 : (g.ph ++ [p])[n]? = some a := e1
    have h2 : (g.ph ++ [p])[m]? = some a := e2
    by_cases hn1 : n < g.ph.length
    · rw [List.getElem?_append_left hn1] at h1
      by_cases hm1 : m < g.ph.length
      · rw [List.getElem?_append_left hm1] at h2
        exact R.inj n m a h1 h2
      · rw [List.getElem?_append_right (by omega)] at h2
        have : a = p := by
          have := List.mem_of_getElem? h2
          simpa using this
        exact absurd (this ▸ List.mem_of_getElem? h1) hn
    · rw [List.getElem?_append_right (by omega)] at h1
      have ha : a = p := by
        have := List.mem_of_getElem? h1
        simpa using this
      by_cases hm1 : m < g.ph.length
      · rw [List.getElem?_append_left hm1] at h2
        exact absurd (ha ▸ List.mem_of_getElem? h2) hn
      · have l1 := (List.getElem?_eq_some_iff.mp e1).1
        have l2 := (List.getElem?_eq_some_iff.mp e2).1
        simp at l1 l2
        omega
  · have hm' : a ∈ g.ph ∨ a = p := by simpa using hm
    rcases hm' with z | z
    · obtain ⟨u, q⟩ := R.tr a z
      exact ⟨u, up _ _ q⟩
    · subst z; exact ⟨_, upd_same⟩
  · have hm' : a ∈ g.ph ∨ a = p := by simpa using hm
    rcases hm' with z | z
    · exact .inl z
    · subst z; exact .inr hp
theorem RWs.sub {K : PySem.W.Frag} {g : Gh} {p : Addr} {o : HO} {vs : List V} {ws : List W} (h : RWs K g vs ws) (hp : g.F p = none) : RWs K ⟨g.ph, L2.upd g.F p o⟩ vs ws := RWs.gr (g := g) (g' := ⟨g.ph, L2.upd g.F p o⟩) ⟨fun _ _ z => z, Sub.upd hp⟩ h
theorem me_lst {es : List Expr} {f : LF} (h : ML X xw es f) : ME X xw (.List es pos) (sLst f) :=
  PE.imp (pe_lst h) fun σ H Q q => tG_mono (tG_bind (R2 := RWs X.K) q) fun vs H1 ⟨g, ρ, M, ws, R, S, r, b⟩ => by
    simp only at b
    split at b
    · rename_i xs e
      split at b
      · have d := allD_ok r e
        refine ⟨by rw [d.length]; assumption, fun p hp => ?_⟩
        exact b _ ⟨g.ph, upd g.F p (.lst vs)⟩ _ (R.lay hp) (Ext.lay R.sub hp) (.d (.lst upd_same (DqAll.sub (Sub.upd (R.sub.none hp)) d)))
      · exact b.elim
    · exact b.elim
theorem me_live {es : List Expr} {f : LF} (h : ML X xw es f) : ME X xw (.List es pos) (sLive f) :=
  PE.imp (pe_lst h) fun σ H Q q => tG_mono (tG_bind (R2 := RWs X.K) q) fun vs H1 ⟨g, ρ, M, ws, R, S, r, b⟩ => by
    simp only at b
    split at b
    · rename_i xs e
      split at b
      · have d := allD_ok r e
        refine ⟨by rw [d.length]; assumption, fun p hp => ?_⟩
        obtain ⟨R', E'⟩ := Rel.live R hp d
        exact b _ _ _ R' E' (.loc (by show (g.ph ++ [p])[M.length]? = some p; rw [List.getElem?_append_right (by rw [R.len]; exact Nat.le_refl _), R.len, Nat.sub_self]; rfl))
      · exact b.elim
    · exact b.elim
theorem me_tup {x1 : Nat} {es : List Expr} {f : LF} (h : ML X xw es f) : ME X xw (.Tuple es x1 pos) (sTup f) :=
  PE.imp (pe_tup h) fun σ H Q q => tG_mono (tG_bind (R2 := RWs X.K) q) fun vs H1 ⟨g, ρ, M, ws, R, S, r, b⟩ => by
    simp only at b
    split at b
    · rename_i hz
      refine ⟨by rw [r.length]; exact hz, fun p hp => ?_⟩
      split at b
      · rename_i xs e
        exact b _ ⟨g.ph, upd g.F p (.tup vs)⟩ _ (R.lay hp) (Ext.lay R.sub hp) (.d (.tup (.of upd_same) (DqAll.sub (Sub.upd (R.sub.none hp)) (allD_ok r e))))
      · exact b _ ⟨g.ph, upd g.F p (.tup vs)⟩ _ (R.lay hp) (Ext.lay R.sub hp) (.tup (.of upd_same) (RWs.sub r (R.sub.none hp)))
    · exact b.elim
/-- *e among the items -/
def lCons (f : EF) (h : LF) : LF := fun ρ M => (f ρ M).bind fun w M1 => (h ρ M1).bind fun ws M2 => .ok (w :: ws) M2
def lNil : LF := fun _ M => .ok [] M
def lStar (f : EF) (h : LF) : LF := fun ρ M => (f ρ M).bind fun w M1 => match vw M1 w with
  | some (.list ds) => (h ρ M1).bind fun ws M2 => .ok (ds.map .d ++ ws) M2
  | some (.tuple ds) => (h ρ M1).bind fun ws M2 => .ok (ds.map .d ++ ws) M2
  | _ => .stuck
theorem ml_nil : ML X xw [] lNil := PA.imp pa_nil fun σ H Q ⟨g, ρ, M, r, s, f⟩ => f [] g H r (Ext.refl _ _) .nil
theorem ml_cons {e : Expr} {es : List Expr} {f : EF} {fs : LF} (he : ME X xw e f) (ha : ML X xw es fs) (hs : starEach (e :: es) X.env = (false, eval e X.env) :: starEach es X.env := by rfl) : ML X xw (e :: es) (lCons f fs) := by
  refine PA.imp (pa_cons he ha hs) fun σ H Q h => ?_
  refine tG_mono (tG_bind (R2 := RW X.K) h) fun v H1 ⟨g, ρ, M, w, r, s, q, b⟩ => ?_
  refine ⟨g, ρ, M, r, s, ?_⟩
  have b' : Bhd (tx X) (fun c d H => xw c d σ H) (RWs X.K) Q ((fs ρ M).bind fun ws M2 => .ok (w :: ws) M2) g H1 := b
  cases e : fs ρ M with
  | ok ws M2 =>
    rw [e] at b'
    exact fun vs g' H' r' e' q' => b' (v :: vs) g' H' r' e' (.cons (RW.gr e'.gr q) q')
  | err x M2 =>
    rw [e] at b'
    exact b'
  | stuck =>
    rw [e] at b'
    exact b'
end
end Y
namespace Y
open PySem PySem.Spec PyProof.Rows L2

section
variable {X : Cx} {xw : WX} {a b : Expr} {fa fb : EF} {pos p1 : Pos} {k : Nat}
/-! ### the script -/
def pLenS : Pr
  | [.scr ns], M => some (.d (.int ns.length), M)
  | _, _ => none
def pIxS : Pr
  | [.scr ns, .d (.int i)], M => match atI ns i with
    | some n => some (.d (.int n), M)
    | none => none
  | _, _ => none
theorem lenS_ok (K : PySem.W.Frag) : PrOk K pLenS (fun xs H Q => ∃ x n, xs = [x] ∧ LenV K x H n ∧ Q (.int n) H) := by
  intro g M H vs ws w M' Q R rw_ e k
  unfold pLenS at e
  split at e
  · cases e
    cases rw_ with
    | cons h t =>
      cases t
      cases h with
      | scr h => exact ⟨_, _, rfl, .inl ⟨_, SqL.sub R.sub h, by rw [List.length_map]⟩, k _ g H R (Ext.refl _ _) (.d (.int _))⟩
  · cases e
theorem ixS_ok (K : PySem.W.Frag) : PrOk K pIxS (r2 (rIx K)) := by
  intro g M H vs ws w M' Q R rw_ e k
  unfold pIxS at e
  split at e
  · rename_i M0 ns i
    cases q : atI ns i with
    | none => rw [q] at e; cases e
    | some n =>
      rw [q] at e
      cases e
      cases rw_ with
      | cons h t =>
        cases t with
        | cons h2 t =>
          cases t
          cases h with
          | scr h =>
            cases h2 with
            | d h2 =>
              cases h2
              refine ⟨_, _, rfl, .inl ⟨_, _, _, .int n, rfl, rfl, SqL.sub R.sub h, ?_, k _ g H R (Ext.refl _ _) (.d (.int _))⟩⟩
              unfold atI at q ⊢
              rw [List.length_map]
              cases q2 : ixN ns.length i with
              | none => rw [q2] at q; cases q
              | some j =>
                rw [q2] at q
                replace q : ns[j]? = some n := q
                show (ns.map V.int)[j]? = some (.int n)
                rw [List.getElem?_map, q]
                rfl
  · cases e
theorem me_lenS (ha : MA X xw [a] [fa]) (hm : X.mg "len" = none) (hg : Gl X "len" := by rfl) (he : starEach [a] X.env = (false, eval a X.env) :: starEach [] X.env := by rfl) : ME X xw (.Call (.Name "len" p1) [a] [] pos) (sPr pLenS [fa]) := me_callB call_len (lenS_ok _) hg hm PySem.boot_len ha (he := he)
theorem me_ixS (ha : ME X xw a fa) (hb : ME X xw b fb) (hs : PlainIx b := by exact fun _ _ => rfl) : ME X xw (.Subscript a b pos) (sPr pIxS [fa, fb]) := me_ix ix_seq (ixS_ok _) ha hb hs

/-! ### str * int -/
theorem fold_rep (z : Str) : ∀ (n : Nat) (acc : Array Nat), (List.replicate n z.cps).foldl (· ++ ·) acc = acc ++ ((List.replicate n z.cps.toList).flatten).toArray
  | 0, acc => by simp
  | n + 1, acc => by
    rw [List.replicate_succ, List.foldl_cons, fold_rep z n, List.replicate_succ, List.flatten_cons]
    apply Array.toList_inj.mp
    simp [Array.toList_append]
theorem op_repS : OpR X (binaryOp .Mult) (fun x y H Q => ∃ z k, x = .str z ∧ y = .int k ∧ 0 ≤ k ∧ k < 1048576 ∧ z.length * k.toNat ≤ sizeLine ∧ Q (.str (repS z k.toNat)) H) := by
  intro pins s σ H x y v u Q I rx ry h
  obtain ⟨z, k, rfl, rfl, h0, h1, hz, q⟩ := h
  obtain ⟨t, rfl⟩ := rx
  obtain ⟨t2, rfl⟩ := ry
  have hs : (sizeLine : Nat) ≤ 2 ^ 40 := by decide
  refine PySem.P.mul_str ?_ (fun a1 a2 => ?_) (fun a1 a2 => ?_) ?_
  · rw [decide_eq_false (by omega), decide_eq_false (by omega)]; rfl
  · have hk : 1 ≤ k := by omega
    have h3 : ((z.length : Nat) : Int) * k ≤ 2 ^ 40 := by
      have := Int.ofNat_le.mpr (Nat.le_trans hz hs)
      rw [Int.natCast_mul, Int.toNat_of_nonneg h0] at this
      exact_mod_cast this
    have h4 : ((z.length : Nat) : Int) ≤ (2 ^ 63 - 1) / k := (Int.le_ediv_iff_mul_le (by omega)).mpr (by omega)
    omega
  · exact PyProof.Rows.short24 (by
      have : (sizeLine : Nat) ≤ 16777216 := by decide
      omega)
  · by_cases hk1 : k < 1
    · rw [if_pos hk1]
      have : k.toNat = 0 := by omega
      rw [this] at q
      exact ⟨by decide, .str _, H, I.tok _, ⟨_, rfl⟩, q⟩
    · rw [if_neg hk1]
      by_cases h2 : (k == 1 || z.length == 0) = true
      · rw [if_pos h2]
        have e : repS z k.toNat = z := by
          rcases Bool.or_eq_true .. ▸ h2 with h | h
          · have : k.toNat = 1 := by
              have := eq_of_beq h
              omega
            unfold repS
            rw [this]
            simp
          · have hz0 : z.cps = #[] := Array.eq_empty_of_size_eq_zero (by simpa [Str.length] using h)
            unfold repS
            rw [hz0]
            have : (List.replicate k.toNat ([] : List Nat)).flatten = [] := by
              induction k.toNat with
              | zero => rfl
              | succ n ih => rw [List.replicate_succ, List.flatten_cons, ih]; rfl
            simp only [this]
            show (⟨#[]⟩ : Str) = z
            rw [← hz0]
        rw [e] at q
        exact ⟨.str _, H, I, ⟨_, rfl⟩, q⟩
      · rw [if_neg h2, fold_rep]
        refine ⟨?_, .str _, H, I.tok _, ⟨_, rfl⟩, ?_⟩
        · rw [Array.empty_append]
          show ((List.replicate k.toNat z.cps.toList).flatten).toArray.size ≤ sizeLine
          rw [List.size_toArray, List.length_flatten, List.map_replicate, List.sum_replicate_nat, Array.length_toList, Nat.mul_comm]
          exact hz
        · rw [Array.empty_append]; exact q
def pMul2 : DPr
  | [.str z, .int j] => if 0 ≤ j ∧ j < 1048576 ∧ z.length * j.toNat ≤ sizeLine then some (.str (repS z j.toNat)) else none
  | _ => none
theorem me_mulS (ha : ME X xw a fa) (hb : ME X xw b fb) : ME X xw (.BinOp a .Mult b pos) (sPr (dpr pMul2) [fa, fb]) := by
  refine me_bin op_repS (dpr2 (fun F H v u x y z Q s d1 d2 e k => ?_) fun xs z e => ?_) ha hb
  · unfold pMul2 at e
    split at e
    · rename_i q
      cases q
      split at e
      · rename_i hc
        cases e
        cases d1.str
        cases d2.int
        exact ⟨_, _, rfl, rfl, hc.1, hc.2.1, hc.2.2, kq s k (.str _)⟩
      · cases e
    · cases e
  · unfold pMul2 at e
    split at e <;> first | rfl | cases e

/-! ### x is True -/
def pIsB : DPr
  | [.bool a, .bool b] => some (.bool (decide (a = b)))
  | _ => none
def pNotB : DPr
  | [.bool a, .bool b] => some (.bool (!decide (a = b)))
  | _ => none
theorem isB_ok (K : PySem.W.Frag) : PrOk K (dpr pIsB) (r2 rIsB) := dpr2 (fun F H v u x y z Q s d1 d2 e k => by
  unfold pIsB at e
  split at e
  · rename_i q
    cases q
    cases e
    cases d1.bl
    cases d2.bl
    exact ⟨_, _, rfl, rfl, kq s k (.bl _)⟩
  · cases e) fun xs z e => by
  unfold pIsB at e
  split at e <;> first | rfl | cases e
theorem notB_ok (K : PySem.W.Frag) : PrOk K (dpr pNotB) (r2 rNotB) := dpr2 (fun F H v u x y z Q s d1 d2 e k => by
  unfold pNotB at e
  split at e
  · rename_i q
    cases q
    cases e
    cases d1.bl
    cases d2.bl
    exact ⟨_, _, rfl, rfl, kq s k (.bl _)⟩
  · cases e) fun xs z e => by
  unfold pNotB at e
  split at e <;> first | rfl | cases e
theorem me_isB (ha : ME X xw a fa) (hb : ME X xw b fb) (hm : behindInMarks .Is b = false := by rfl) : ME X xw (.Compare a [.Is] [b] pos) (sPr (dpr pIsB) [fa, fb]) := me_cmp op_isBl (isB_ok _) ha hb hm
theorem me_notB (ha : ME X xw a fa) (hb : ME X xw b fb) (hm : behindInMarks .IsNot b = false := by rfl) : ME X xw (.Compare a [.IsNot] [b] pos) (sPr (dpr pNotB) [fa, fb]) := me_cmp op_notBl (notB_ok _) ha hb hm
theorem mt_isB (ha : ME X xw a fa) (hb : ME X xw b fb) (hm : behindInMarks .Is b = false := by rfl) : MT X xw (.Compare a [.Is] [b] pos) (sVal (sPr (dpr pIsB) [fa, fb])) := mt_cmp op_isBl (isB_ok _) ha hb hm
theorem mt_notB (ha : ME X xw a fa) (hb : ME X xw b fb) (hm : behindInMarks .IsNot b = false := by rfl) : MT X xw (.Compare a [.IsNot] [b] pos) (sVal (sPr (dpr pNotB) [fa, fb])) := mt_cmp op_notBl (notB_ok _) ha hb hm

/-! ### -x -/
def pNeg : DPr
  | [.int i] => some (.int (-i))
  | _ => none
theorem me_neg (ha : ME X xw a fa) : ME X xw (.UnaryOp .USub a pos) (sPr (dpr pNeg) [fa]) := me_un un_neg (dpr1 (fun F H v x z Q s d e k => by
  unfold pNeg at e
  split at e
  · rename_i q
    cases q
    cases e
    cases d.int
    exact ⟨_, rfl, kq s k (.int _)⟩
  · cases e) fun xs z e => by
  unfold pNeg at e
  split at e <;> first | rfl | cases e) ha

/-! ### global constants -/
theorem me_gInt {x : Str} {i : Int} (hm' : ∃ t, X.mg x = some (.int i t)) (hg : Gl X x := by rfl) (hd : (x == ("__debug__" : Str)) = false := by decide) : ME X xw (.Name x pos) (sC (.int i)) :=
  let ⟨_, hm⟩ := hm'
  PE.imp (pe_glob hg hm (v := .int i) ⟨_, rfl⟩ hd) fun _ _ _ q => tE_const (fun _ => .int _) q

/-! ### not reached -/
def eStuck : EF := fun _ _ => .stuck
def sStuck : SF := fun _ _ => .stuck
theorem me_stuck {e : Expr} : ME X xw e eStuck := ⟨fun _ _ _ _ _ _ h => by obtain ⟨_, _, _, _, _, b⟩ := h; exact b.elim⟩
theorem ms_stuck {s : Stmt} : MS X xw s sStuck := ⟨fun _ _ _ _ _ _ h => by obtain ⟨_, _, _, _, _, b⟩ := h; exact b.elim⟩
end
end Y
namespace Y
open PySem PySem.Spec PyProof.Rows L2

/-! ### a live list is rewritten -/
theorem Rel.put {K : PySem.W.Frag} {g : Gh} {M : List MO} {H : Hp} {n : Nat} {p : Addr} {vs : List V} {xs : List PyData} (R : Rel K g M H) (hp : g.ph[n]? = some p) (hF : g.F p = none) (d : DqAll K g.F vs xs) :
    Rel K g (M.set n (.lst xs)) (upd H p (.lst vs)) ∧ Ext g H g (upd H p (.lst vs)) := by
  have hm : p ∈ g.ph := List.mem_of_getElem? hp
  have hl : n < M.length := by rw [← R.len]; exact (List.getElem?_eq_some_iff.mp hp).1
  refine ⟨⟨fun a u e => ?_, by rw [List.length_set]; exact R.len, fun m o e l => ?_, R.inj, fun a hm => ?_⟩, ⟨Gr.refl g, fun a o e hn => ?_, fun a h h' => absurd h h', fun a h => .inl h⟩⟩
  · rw [upd_ne (ne_of_none e hF)]; exact R.sub _ _ e
  · by_cases h : n = m
    · subst h
      rw [List.getElem?_set_self hl] at e
      cases e
      exact ⟨p, hp, hF, vs, upd_same, d⟩
    · rw [List.getElem?_set_ne h] at e
      obtain ⟨a, e1, e2, e3⟩ := R.at_ m o e l
      refine ⟨a, e1, e2, MOk.gr (Gr.refl g) (fun o' q => ?_) e3⟩
      rw [upd_ne]
      · exact q
      · intro z
        subst z
        exact h (R.inj _ _ _ hp e1)
  · by_cases h : a = p
    · subst h; exact ⟨_, upd_same⟩
    · rw [upd_ne h]; exact R.tr a hm
  · rw [upd_ne (fun z => hn (by rw [z]; exact hm))]; exact e

section
variable {X : Cx} {xw : WX} {a b : Expr} {fa fb : EF} {pos p1 : Pos} {k : Nat}
/-! ### methods -/
inductive MT' where
  | str | list
def MT'.nm : MT' → String
  | .str => "str"
  | .list => "list"
def tyW (T : MT') (M : List MO) (w : W) : Bool := match T, w with
  | .str, .d (.str _) => true
  | .list, .d (.list _) => true
  | .list, .loc n => match M[n]? with
    | some (.lst _) => true
    | some (.lsw _) => true
    | _ => false
  | _, _ => false
theorem tyW_ok {K : PySem.W.Frag} {g : Gh} {M : List MO} {H : Hp} {T : MT'} {w : W} {v : V} (R : Rel K g M H) (r : RW K g v w) (h : tyW T M w = true) : tyV K T.nm v H := by
  unfold tyW at h
  split at h
  · cases r with
    | d r => cases r; rfl
  · cases r with
    | d r => cases r with | lst h1 h2 => exact .inl ⟨rfl, _, .of (R.sub _ _ h1)⟩
  · cases r with
    | loc e =>
      split at h
      · rename_i q
        obtain ⟨b, e1, e2, xs, e3, e4⟩ := R.at_ _ _ q rfl
        rw [e] at e1
        cases e1
        exact .inl ⟨rfl, _, .of e3⟩
      · rename_i q
        obtain ⟨b, e1, e2, xs, e3, e4⟩ := R.at_ _ _ q rfl
        rw [e] at e1
        cases e1
        exact .inl ⟨rfl, _, .of e3⟩
      · cases h
  · cases h
def sMeth (T : MT') (p : Pr) (f : EF) (fs : List EF) : EF := fun ρ M => (f ρ M).bind fun w M1 => if tyW T M1 w = true then (evs fs ρ M1).bind fun ws M2 => ans (p (w :: ws) M2) else .stuck
def rM (r : V → List V → Hp → VK → Prop) : List V → Hp → VK → Prop := fun vs H Q => ∃ x xs, vs = x :: xs ∧ r x xs H Q
theorem meth_imp {T : MT'} {p : Pr} {r : V → List V → Hp → VK → Prop} (hp : PrOk X.K p (rM r)) {fs : List EF} {σ : L2.St} {H : Hp} {Q : VK} (h : tE (tx X) xw (sMeth T p fa fs) σ H Q) :
    tE (tx X) xw fa σ H fun x H1 => tyV X.K T.nm x H1 ∧ tA (tx X) xw fs σ H1 fun xs H2 => r x xs H2 Q := by
  refine tG_mono (tG_bind (R2 := RW X.K) h) fun v H1 ⟨g, ρ, M, w, R, S, q, b⟩ => ?_
  split at b
  · rename_i ht
    refine ⟨tyW_ok R q ht, ?_⟩
    refine ⟨g, ρ, M, R, S, ?_⟩
    cases e : evs fs ρ M with
    | stuck => rw [e] at b; exact b
    | err x M2 => rw [e] at b; exact b
    | ok ws M2 =>
      rw [e] at b
      intro vs g' H' R' E' q'
      obtain ⟨x, xs, e1, h1⟩ := bhd_ans (T := tx X) hp R' (.cons (RW.gr E'.gr q) q') (Bhd.later b E')
      cases e1
      exact h1
  · exact b.elim
theorem me_meth0 (T : MT') {o : Expr} {name : Str} {apos cpos : Pos} {id : String} {r : V → List V → Hp → VK → Prop} {p : Pr} (pa : PlainAttrs T.nm) (slot : Slot T.nm name id) (hty : typeOf (.builtin id) = pure (.type "method_descriptor")) (hm : MtR X id r) (hp : PrOk X.K p (rM r)) (ho : ME X xw o fa)
    (hbase : attributeBase o name X.env (eval o X.env) = eval o X.env := by rfl) (hline : (apos.endLine == cpos.line) = true := by rfl) : ME X xw (.Call (.Attribute o name apos) [] [] cpos) (sMeth T p fa []) :=
  PE.imp (pe_bm0 pa slot hty hm ho hbase hline) fun σ H Q h => tG_mono (meth_imp hp h) fun v H1 ⟨t, ⟨g, ρ, M, R, S, b⟩⟩ => ⟨t, b [] g H1 R (Ext.refl _ _) .nil⟩
theorem me_meth (T : MT') {o e : Expr} {es : List Expr} {fs : List EF} {name : Str} {apos cpos : Pos} {id : String} {r : V → List V → Hp → VK → Prop} {p : Pr} (pa : PlainAttrs T.nm) (slot : Slot T.nm name id) (hty : typeOf (.builtin id) = pure (.type "method_descriptor")) (hm : MtR X id r) (hp : PrOk X.K p (rM r)) (ho : ME X xw o fa) (ha : MA X xw (e :: es) fs)
    (hbase : attributeBase o name X.env (eval o X.env) = eval o X.env := by rfl)
    (hfew : ((backTo cpos (starEach (e :: es) X.env)).all (fun x => !x.1) && (backToKw cpos (keywordEach [] X.env)).all (fun x => x.1.isSome)
      && decide ((e :: es).length + ([] : List Keyword).length + (if ([] : List Keyword).isEmpty then 0 else 1) < 30)) = true := by rfl)
    (hline : (apos.endLine == cpos.line) = true := by rfl) (hs : starEach (e :: es) X.env = (false, eval e X.env) :: starEach es X.env := by rfl) (hplain : (backTo cpos (starEach es X.env)).any (·.1) = false := by rfl) :
    ME X xw (.Call (.Attribute o name apos) (e :: es) [] cpos) (sMeth T p fa fs) :=
  PE.imp (pe_bm pa slot hty hm ho ha hbase hfew hline hs hplain) fun σ H Q h => meth_imp hp h
/-- data methods -/
theorem dprM {K : PySem.W.Frag} {p : DPr} {r : V → List V → Hp → VK → Prop} (h : ∀ (F H : Hp) (v : V) (vs : List V) (x : PyData) (xs : List PyData) (z : PyData) (Q : VK), Sub F H → Dv K F H v x → DvAll K F H vs xs → p (x :: xs) = some z → (∀ v F' H', Lay F H F' H' → Dq K F' v z → Q v H') → r v vs H Q)
    (h0 : p [] = none := by rfl) : PrOk K (dpr p) (rM r) := dpr_ok fun F H vs xs y Q s dv e k => by
  cases dv with
  | nil => rw [h0] at e; cases e
  | cons a t => exact ⟨_, _, rfl, h F H _ _ _ _ y Q s a t e k⟩
def pJoin : DPr
  | [.str a, .list ds] => match strsD ds with
    | some ys => if (ys.map (·.length)).sum + ys.length * a.length ≤ 16777216 then some (.str (Txt.join a ys)) else none
    | none => none
  | [.str a, .tuple ds] => match strsD ds with
    | some ys => if (ys.map (·.length)).sum + ys.length * a.length ≤ 16777216 then some (.str (Txt.join a ys)) else none
    | none => none
  | _ => none
def pCount : DPr
  | [.str a, .str b] => some (.int (Txt.count a b))
  | _ => none
def pUpper : DPr
  | [.str a] => if a.length ≤ 5592405 then some (.str (Txt.upper a)) else none
  | _ => none
variable {o e : Expr} {es : List Expr} {fs : List EF} {apos cpos : Pos}
theorem me_join (ho : ME X xw o fa) (ha : MA X xw [a] [fb])
    (hbase : attributeBase o "join" X.env (eval o X.env) = eval o X.env := by rfl)
    (hfew : ((backTo cpos (starEach [a] X.env)).all (fun x => !x.1) && (backToKw cpos (keywordEach [] X.env)).all (fun x => x.1.isSome)
      && decide ([a].length + ([] : List Keyword).length + (if ([] : List Keyword).isEmpty then 0 else 1) < 30)) = true := by rfl)
    (hline : (apos.endLine == cpos.line) = true := by rfl) (hs : starEach [a] X.env = (false, eval a X.env) :: starEach [] X.env := by rfl) : ME X xw (.Call (.Attribute o "join" apos) [a] [] cpos) (sMeth .str (dpr pJoin) fa [fb]) := by
  refine me_meth .str F.plainAttrs_str F.slot_str_join F.type_str_join mt_join (dprM fun F H v vs x xs z Q s d ds e k => ?_) ho ha hbase hfew hline hs
  unfold pJoin at e
  split at e
  · rename_i q
    cases q
    split at e
    · rename_i ys hy
      split at e
      · cases e
        cases d.str
        obtain ⟨v, rfl, d⟩ := ds.one
        obtain ⟨p, xs, rfl, h1, h2⟩ := d.lst s
        exact ⟨_, p, ys, rfl, rfl, .inl (by rw [← strsD_dq h2 hy]; exact .of h1), by assumption, kq s k (.str _)⟩
      · cases e
    · cases e
  · rename_i q
    cases q
    split at e
    · rename_i ys hy
      split at e
      · cases e
        cases d.str
        obtain ⟨v, rfl, d⟩ := ds.one
        obtain ⟨p, xs, rfl, h1, h2⟩ := d.tup
        exact ⟨_, p, ys, rfl, rfl, .inr (by rw [← strsD_dq h2 hy]; exact TqT.up s h1), by assumption, kq s k (.str _)⟩
      · cases e
    · cases e
  · cases e
theorem me_count (ho : ME X xw o fa) (ha : MA X xw [a] [fb])
    (hbase : attributeBase o "count" X.env (eval o X.env) = eval o X.env := by rfl)
    (hfew : ((backTo cpos (starEach [a] X.env)).all (fun x => !x.1) && (backToKw cpos (keywordEach [] X.env)).all (fun x => x.1.isSome)
      && decide ([a].length + ([] : List Keyword).length + (if ([] : List Keyword).isEmpty then 0 else 1) < 30)) = true := by rfl)
    (hline : (apos.endLine == cpos.line) = true := by rfl) (hs : starEach [a] X.env = (false, eval a X.env) :: starEach [] X.env := by rfl) : ME X xw (.Call (.Attribute o "count" apos) [a] [] cpos) (sMeth .str (dpr pCount) fa [fb]) := by
  refine me_meth .str F.plainAttrs_str F.slot_str_count F.type_str_count mt_count (dprM fun F H v vs x xs z Q s d ds e k => ?_) ho ha hbase hfew hline hs
  unfold pCount at e
  split at e
  · rename_i q
    cases q
    cases e
    cases d.str
    obtain ⟨v, rfl, d⟩ := ds.one
    cases d.str
    exact ⟨_, _, rfl, rfl, kq s k (.int _)⟩
  · cases e
theorem me_upper (ho : ME X xw o fa)
    (hbase : attributeBase o "upper" X.env (eval o X.env) = eval o X.env := by rfl)
    (hline : (apos.endLine == cpos.line) = true := by rfl) : ME X xw (.Call (.Attribute o "upper" apos) [] [] cpos) (sMeth .str (dpr pUpper) fa []) := by
  refine me_meth0 .str F.plainAttrs_str F.slot_str_upper F.type_str_upper mt_upper (dprM fun F H v vs x xs z Q s d ds e k => ?_) ho hbase hline
  unfold pUpper at e
  split at e
  · rename_i q
    cases q
    split at e
    · cases e
      cases d.str
      cases ds
      exact ⟨_, rfl, rfl, by assumption, kq s k (.str _)⟩
    · cases e
  · cases e
/-! on live lists -/
def pAppend : Pr
  | [.loc n, .d x], M => match M[n]? with
    | some (.lst ds) => if ds.length < sizeLine then some (.d .none, M.set n (.lst (ds ++ [x]))) else none
    | _ => none
  | _, _ => none
theorem append_ok (K : PySem.W.Frag) : PrOk K pAppend (rM rAppend) := by
  intro g M H vs ws w M' Q R rw_ e k
  unfold pAppend at e
  split at e
  · split at e
    · rename_i q
      split at e
      · cases e
        cases rw_ with
        | cons h t =>
          cases t with
          | cons h2 t =>
            cases t
            cases h with
            | loc h =>
              cases h2 with
              | d h2 =>
                obtain ⟨p, e1, e2, xs, e3, e4⟩ := R.at_ _ _ q rfl
                rw [h] at e1
                cases e1
                obtain ⟨R', E'⟩ := Rel.put R h e2 (e4.append (.cons h2 .nil))
                exact ⟨_, _, rfl, _, xs, _, rfl, rfl, e3, by rw [e4.length]; assumption, k _ g _ R' E' (.d .non)⟩
      · cases e
    · cases e
  · cases e
theorem me_append (ho : ME X xw o fa) (ha : MA X xw [a] [fb])
    (hbase : attributeBase o "append" X.env (eval o X.env) = eval o X.env := by rfl)
    (hfew : ((backTo cpos (starEach [a] X.env)).all (fun x => !x.1) && (backToKw cpos (keywordEach [] X.env)).all (fun x => x.1.isSome)
      && decide ([a].length + ([] : List Keyword).length + (if ([] : List Keyword).isEmpty then 0 else 1) < 30)) = true := by rfl)
    (hline : (apos.endLine == cpos.line) = true := by rfl) (hs : starEach [a] X.env = (false, eval a X.env) :: starEach [] X.env := by rfl) : ME X xw (.Call (.Attribute o "append" apos) [a] [] cpos) (sMeth .list pAppend fa [fb]) :=
  me_meth .list F.plainAttrs_list F.slot_list_append F.type_list_append mt_append (append_ok _) ho ha hbase hfew hline hs
/-! ### target = value -/
def sAsg (f : EF) (gt : GF) : SF := fun ρ M => match f ρ M with
  | .ok w M1 => match gt w ρ M1 with
    | some (ρ1, M2) => .nx ρ1 M2
    | none => .stuck
  | .err e M1 => .er e ρ M1
  | .stuck => .stuck
theorem ms_asg {tg e : Expr} {f : EF} {us : List Nat} {gt : GF} (he : ME X xw e f) (hg : MG X tg us gt) (hs : swapsWithSole [tg] e pos.line X.env = pure false := by rfl) (hw : swappedStores [tg] e X.env = pure none := by rfl)
    (h1 : (assignEach [tg] X.env).map (·.2) = [assign tg X.env] := by rfl) : MS X xw (.Assign [tg] e pos) (sAsg f gt) :=
  PS.imp (ps_asg he hg hs hw h1) fun D σ H ⟨g, ρ, M, R, S, b⟩ => by
    refine ⟨g, ρ, M, R, S, ?_⟩
    unfold sAsg at b
    cases e : f ρ M with
    | stuck => rw [e] at b; exact b
    | err x M2 => rw [e] at b; exact fun c d g' H' r' e' q' => b c d σ g' H' r' e' (S.gr e'.gr) q'
    | ok w M1 =>
      rw [e] at b
      intro v g1 H1 R1 E1 rw_
      cases e2 : gt w ρ M1 with
      | none => simp only [e2] at b; exact b.elim
      | some y =>
        obtain ⟨ρ1, M2⟩ := y
        simp only [e2] at b
        exact ⟨g1, ρ, M1, w, R1, S.gr E1.gr, rw_, ρ1, M2, e2, fun σ' g' H' R' E' S' _ => b σ' g' H' R' (E1.trans E') S'⟩
/-- o[i] = .. on a live list -/
def gS (fo fi : EF) : GF := fun w ρ M => match fo ρ M with
  | .ok (.loc n) M1 => match fi ρ M1 with
    | .ok (.d (.int i)) M2 => match M2[n]? with
      | some (.lst ds) => match w, ixN ds.length i with
        | .d x, some j => some (ρ, M2.set n (.lst (ds.set j x)))
        | _, _ => none
      | _ => none
    | _ => none
  | _ => none
theorem mg_sub {o i : Expr} {fo fi : EF} (ho : ME X xw0 o fo) (hi : ME X xw0 i fi)
    (ha : ∀ v, assign (.Subscript o i pos) X.env v = (do
      let ov ← holding [v] (eval o X.env)
      let iv ← holding [v, ov] (eval i X.env)
      standAt pos
      holding [v, ov, iv] (setItem ov iv v)
      release [v, ov, iv] []) := by intro _; rfl) : MG X (.Subscript o i pos) [] (gS fo fi) :=
  PG.imp (pg_sub ho hi set_list ha) fun v σ H Q ⟨g, ρ, M, w, R, S, r, ρ', M', e, k⟩ => by
    unfold gS at e
    split at e
    · rename_i n M1 eo
      split at e
      · rename_i i M2 ei
        split at e
        · rename_i ds q
          split at e
          · rename_i x j hj
            cases e
            refine ⟨g, ρ, M, R, S, ?_⟩
            rw [eo]
            intro ov g1 H1 R1 E1 r1
            refine ⟨g1, ρ, M1, R1, S.gr E1.gr, ?_⟩
            rw [ei]
            intro iv g2 H2 R2 E2 r2
            cases r1 with
            | loc r1 =>
              cases r2 with
              | d r2 =>
                cases r2
                cases r with
                | d r =>
                  have h1 := E2.gr.ph _ _ r1
                  obtain ⟨p, e1, e2, xs, e3, e4⟩ := R2.at_ _ _ q rfl
                  rw [h1] at e1
                  cases e1
                  have r' := Dq.sub (E1.gr.F.trans E2.gr.F) r
                  obtain ⟨R', E'⟩ := Rel.put R2 h1 e2 (e4.set r' j)
                  refine ⟨_, xs, i, j, rfl, rfl, e3, by rw [e4.length]; exact hj, ?_⟩
                  exact k σ g2 _ R' ((E1.trans E2).trans E') (S.gr (E1.gr.trans E2.gr)) ⟨rfl, fun _ _ => rfl⟩
          · cases e
        · cases e
      · cases e
    · cases e
/-! ### a, b = x, y -/
def sPar2 (i j : Nat) (fs : List EF) : SF := fun ρ M => match evs fs ρ M with
  | .ok [w1, w2] M1 => .nx ((ρ.set i (some w1)).set j (some w2)) M1
  | .err e M1 => .er e ρ M1
  | _ => .stuck
def sPar3 (i j l : Nat) (fs : List EF) : SF := fun ρ M => match evs fs ρ M with
  | .ok [w1, w2, w3] M1 => .nx (((ρ.set i (some w1)).set j (some w2)).set l (some w3)) M1
  | .err e M1 => .er e ρ M1
  | _ => .stuck
theorem ms_par2 {x y : Str} {px py pt : Pos} {kt k2 pt2} {fs : List EF} (C : Ctx X k xw) (i j : Nat) (ha : MA X xw [a, b] fs) (hi : X.N[i]? = some x := by rfl) (hj : X.N[j]? = some y := by rfl) (hij : i ≠ j := by decide)
    (hx : X.env.scope.names.lookup x = some .local := by rfl) (hy : X.env.scope.names.lookup y = some .local := by rfl)
    (hw : swappedStores [.Tuple [.Name x px, .Name y py] kt pt] (.Tuple [a, b] k2 pt2) X.env = pure (some [x, y]) := by rfl)
    (hs : swapsWithSole [.Tuple [.Name x px, .Name y py] kt pt] (.Tuple [a, b] k2 pt2) pos.line X.env = pure false := by rfl) :
    MS X xw (.Assign [.Tuple [.Name x px, .Name y py] kt pt] (.Tuple [a, b] k2 pt2) pos) (sPar2 i j fs) :=
  PS.imp (ps_par C.calm C.nd hi hj hij hx hy ha hw hs) fun D σ H ⟨g, ρ, M, R, S, q⟩ => by
    refine ⟨g, ρ, M, R, S, ?_⟩
    unfold sPar2 at q
    split at q
    · rename_i w1 w2 M1 e
      rw [e]
      intro vs g' H' R' E' rw_
      cases rw_ with
      | cons r1 t =>
        cases t with
        | cons r2 t =>
          cases t
          exact ⟨_, _, rfl, q _ g' H' R' E' (((S.gr E'.gr).set i r1).set j r2)⟩
    · rename_i e
      rw [e]
      exact fun c d g' H' r' e' q' => q c d σ g' H' r' e' (S.gr e'.gr) q'
    · exact q.elim
theorem ms_par3 {x y z : Str} {c : Expr} {px py pz pt : Pos} {kt k2 pt2} {fs : List EF} (C : Ctx X k xw) (i j l : Nat) (ha : MA X xw [a, b, c] fs) (hi : X.N[i]? = some x := by rfl) (hj : X.N[j]? = some y := by rfl) (hl : X.N[l]? = some z := by rfl) (hij : i ≠ j := by decide) (hil : i ≠ l := by decide) (hjl : j ≠ l := by decide)
    (hx : X.env.scope.names.lookup x = some .local := by rfl) (hy : X.env.scope.names.lookup y = some .local := by rfl) (hz : X.env.scope.names.lookup z = some .local := by rfl)
    (hw : swappedStores [.Tuple [.Name x px, .Name y py, .Name z pz] kt pt] (.Tuple [a, b, c] k2 pt2) X.env = pure (some [x, y, z]) := by rfl)
    (hs : swapsWithSole [.Tuple [.Name x px, .Name y py, .Name z pz] kt pt] (.Tuple [a, b, c] k2 pt2) pos.line X.env = pure false := by rfl) :
    MS X xw (.Assign [.Tuple [.Name x px, .Name y py, .Name z pz] kt pt] (.Tuple [a, b, c] k2 pt2) pos) (sPar3 i j l fs) :=
  PS.imp (ps_par3 C.calm C.nd hi hj hl hij hil hjl hx hy hz ha hw hs) fun D σ H ⟨g, ρ, M, R, S, q⟩ => by
    refine ⟨g, ρ, M, R, S, ?_⟩
    unfold sPar3 at q
    split at q
    · rename_i w1 w2 w3 M1 e
      rw [e]
      intro vs g' H' R' E' rw_
      cases rw_ with
      | cons r1 t =>
        cases t with
        | cons r2 t =>
          cases t with
          | cons r3 t =>
            cases t
            exact ⟨_, _, _, rfl, q _ g' H' R' E' ((((S.gr E'.gr).set i r1).set j r2).set l r3)⟩
    · rename_i e
      rw [e]
      exact fun c d g' H' r' e' q' => q c d σ g' H' r' e' (S.gr e'.gr) q'
    · exact q.elim
/-! ### zip of two texts -/
def itZS (fs : List EF) : IF := fun ρ M => (evs fs ρ M).bind fun ws M => match ws with
  | [.d (.str x), .d (.str y)] => .ok (prs (chs x) (chs y)) M
  | _ => .stuck
theorem prs_get {xs ys : List PyData} {i : Nat} {d : PyData} (e : (prs xs ys)[i]? = some d) : ∃ a b, xs[i]? = some a ∧ ys[i]? = some b ∧ d = .tuple [a, b] := by
  unfold prs at e
  rw [List.getElem?_map] at e
  cases q : (xs.zip ys)[i]? with
  | none => rw [q] at e; cases e
  | some p =>
    rw [q] at e
    cases e
    obtain ⟨a, b⟩ := p
    rw [List.getElem?_zip_eq_some] at q
    exact ⟨a, b, q.1, q.2, rfl⟩
theorem mi_zipS {e e2 : Expr} {p tpos : Pos} {elts : List Expr} {kk : Nat} {fs : List EF} (ha : MA X xw [e, e2] fs) (hm : X.mg "zip" = none) (hg : Gl X "zip" := by rfl)
    (hs : starEach [e, e2] X.env = (false, eval e X.env) :: starEach [e2] X.env := by rfl) (hpl : (backTo pos (starEach [e2] X.env)).any (·.1) = false := by rfl) :
    MI X xw (.Tuple elts kk tpos) (.Call (.Name "zip" p) [e, e2] [] pos) (itZS fs) :=
  PI.imp (pi_zipS hg hm ha hs hpl) fun σ H R h => tG_mono (tG_bind (R2 := RWs X.K) h) fun vs H1 ⟨g, ρ, M, ws, R1, S, r, b⟩ => by
    split at b
    · rename_i x y
      cases r with
      | cons r1 t =>
        cases t with
        | cons r2 t =>
          cases t
          cases r1 with
          | d r1 =>
            cases r2 with
            | d r2 =>
              cases r1
              cases r2
              refine ⟨x, y, rfl, b _ g H1 R1 (Ext.refl _ _) (itok_pairs ?_ fun i d e => ?_)⟩
              · unfold prs
                rw [List.length_map, List.length_zip, chs_len, chs_len]
              · obtain ⟨a, b, e1, e2, rfl⟩ := prs_get e
                obtain ⟨c, h1, rfl⟩ := chs_get e1
                obtain ⟨c', h2, rfl⟩ := chs_get e2
                refine ⟨.str ⟨#[c]⟩, .str ⟨#[c']⟩, _, _, ?_, rfl, fun _ _ => ⟨.str _, .str _⟩⟩
                unfold zps
                rw [h1, h2]
    · exact b.elim
/-! ### list(..) that may grow -/
def sLiveOf (f : EF) : EF := fun ρ M => (f ρ M).bind fun w M => match vw M w with
  | some x => match pList [x] with
    | some (.list ds) => .ok (.loc M.length) (M ++ [.lst ds])
    | _ => .stuck
  | none => .stuck
theorem me_liveL (C : Ctx X k xw) (ha : MA X xw [a] [fa]) (hm : X.mg "list" = none) (hg : Gl X "list" := by rfl) (he : starEach [a] X.env = (false, eval a X.env) :: starEach [] X.env := by rfl) : ME X xw (.Call (.Name "list" p1) [a] [] pos) (sLiveOf fa) := by
  refine PE.imp (pe_callTy (call_list_of.or (call_list_S C.calm)) hg hm PyProof.Rows.boot_list ha (he := he)) fun σ H Q h => ?_
  have h' : tE (tx X) xw (sPr (fun ws M => match ws with
    | [w] => match vw M w with
      | some x => match pList [x] with
        | some (.list ds) => some (.loc M.length, M ++ [.lst ds])
        | _ => none
      | none => none
    | _ => none) [fa]) σ H Q := by
    obtain ⟨g, ρ, M, R, S, b⟩ := h
    refine ⟨g, ρ, M, R, S, ?_⟩
    unfold sLiveOf at b
    unfold sPr evs evs
    cases e : fa ρ M with
    | stuck => rw [e] at b; exact b
    | err x M2 => rw [e] at b; exact b
    | ok w M1 =>
      rw [e] at b
      simp only [Res.bind] at b ⊢
      cases e1 : vw M1 w with
      | none => rw [e1] at b; exact b.elim
      | some x =>
        rw [e1] at b
        simp only at b ⊢
        split at b
        · exact b
        · exact b.elim
  refine prim_args (T := tx X) (r := fun xs H Q => (∃ p ys, xs = [V.ref p] ∧ (SqL X.K H p ys ∨ SqT X.K H p ys) ∧ ∀ (l : Addr), H l = none → Q (V.ref l) (upd H l (HO.lst ys))) ∨ rListS xs H Q) (fun g M H vs ws w M' Q R rw_ e k => ?_) h'
  split at e
  · split at e
    · rename_i x hx
      split at e
      · rename_i ds hd
        cases e
        cases rw_ with
        | cons h t =>
          cases t
          have dv := vw_ok R h hx
          have kk : ∀ (p : Addr) (xs : List V), H p = none → DqAll X.K g.F xs ds → Q (.ref p) (upd H p (.lst xs)) := fun p xs hp d => by
            obtain ⟨R', E'⟩ := Rel.live R hp d
            exact k _ _ _ R' E' (.loc (by show (g.ph ++ [p])[M.length]? = some p; rw [List.getElem?_append_right (by rw [R.len]; exact Nat.le_refl _), R.len, Nat.sub_self]; rfl))
          have s := R.sub
          unfold pList at hd
          split at hd
          · rename_i q
            cases q
            cases hd
            obtain ⟨p, xs, rfl, h1, h2⟩ := dv.lst s
            exact .inl ⟨p, xs, rfl, .inl (.of h1), fun l hl => kk l xs hl h2⟩
          · rename_i q
            cases q
            cases hd
            obtain ⟨p, xs, rfl, h1, h2⟩ := dv.tup
            exact .inl ⟨p, xs, rfl, .inr (TqT.up s h1), fun l hl => kk l xs hl h2⟩
          · rename_i q
            cases q
            split at hd
            · cases hd
              cases dv.str
              exact .inr ⟨_, rfl, by assumption, fun l hl => kk l _ hl (dq_chs _)⟩
            · cases hd
          · cases hd
      · cases e
    · cases e
  · cases e
end
end Y
namespace Y
open PySem PySem.Spec PyProof.Rows L2
theorem cxNo {P : Program} {w : World} {outer : List Env} {H : Hp} {s : Shared} {u : Value} {s' : Shared} : ¬ L2.CX P w outer H s (fun _ _ _ => False) u s' :=
  fun ⟨_, _, _, _, _, _, _, _, _, _, _, _, z⟩ => z
theorem law_callM {P : Program} {w : World} {K : PySem.W.Frag} {mg mb : Str → Option Value} {k : Nat} {fa a : Addr} {x : Str} {mf : MF} {s1 : Shared} {vz : List Value} {nz : List Int}
    (kx : K.In s1.heap) (nA : s1.heap.Ns mainGlobals mg) (nB : s1.heap.Ns builtinsNs mb) (nC : ∀ x : Str, x ≠ "__name__" → mb x = bootBuiltins x) (lm : s1.heap.NoLimit) (gn : s1.gens = #[])
    (aH : s1.heap.get? a = some { cls := .type "list", data := .seq vz.toArray }) (iA : IntsAre vz nz) (lN : nz.length ≤ sizeLine) (rm : Room k callerA)
    {nm : Str} (F : ∀ base : Heap, Cal P w K mg base k nm [x] mf) (fH : mg nm = some (.ref fa))
    (spH : ∀ G : Hp, Only G → SqL K G a (nz.map V.int) → spM ⟨K, mg⟩ mf [.ref a] G (fun v5 _ => v5 = .bl true) fun _ _ _ => False) :
    codeAny (model P w) callerA (.call (.ref fa) ⟨[.ref a], []⟩) (fun res s2 => res = .ok (.ret (.bool true)) ∧ OldK s1.heap s2.heap ∧ s2.os = s1.os ∧ AllBare s2.gens) s1 := by
  have vr := vals_ints iA
  have vl := iA.length
  have heart : ∀ G : Hp, Only G → SqL K G a (nz.map V.int) → HOk P w G s1.heap → (∀ bb, G bb ≠ none → bb = a) → (G a ≠ none → K.lookup a = none) →
      codeAny (model P w) callerA (.call (.ref fa) ⟨[.ref a], []⟩) (fun res s2 => res = .ok (.ret (.bool true)) ∧ OldK s1.heap s2.heap ∧ s2.os = s1.os ∧ AllBare s2.gens) s1 := by
    intro G oO sS okH aA kA
    have atB : ∀ {bb : Addr} {ob : Obj}, s1.heap.get? bb = some ob → G bb = none → (hidT s1.heap G).get? bb = some ob := fun e5 n => hidT_get e5 n
    have neA : ∀ {bb : Addr} {ob : Obj} {es5 : Array DictEntry} {ep5 : Nat}, s1.heap.get? bb = some ob → ob.data = .dict es5 ep5 → G bb = none := fun {bb ob es5 ep5} e5 d5 => by
      cases qq : G bb with
      | none => rfl
      | some uu =>
        have ee : bb = a := aA bb (by rw [qq]; simp)
        subst ee
        rw [aH] at e5; cases e5
        have dd2 : Data.seq vz.toArray _ = Data.dict es5 ep5 := d5
        cases dd2
    have nmK : ∀ {bb : Addr} {m5 : Str → Option Value}, s1.heap.Ns bb m5 → (hidT s1.heap G).Ns bb m5 := fun {bb m5} ⟨ob, es5, ep5, e5, d5, res⟩ => ⟨ob, es5, ep5, atB e5 (neA e5 d5), d5, res⟩
    have kB : K.In (hidT s1.heap G) := fun bb ob e5 => atB (kx bb ob e5) (by
      cases qq : G bb with
      | none => rfl
      | some uu =>
        have ee : bb = a := aA bb (by rw [qq]; simp)
        subst ee
        rw [kA (by rw [qq]; simp)] at e5; cases e5)
    have md : Mod K mg (hidT s1.heap G) := ⟨kB, nmK nA, ⟨mb, nmK nB, nC⟩, let ⟨mc, h1, h2⟩ := lm; ⟨mc, nmK h1, h2⟩⟩
    have env : Env0 P w K mg (hidT s1.heap G) callerA [] s1 G := ⟨rfl, md, fun bb ob e5 => of_hidT e5, Nat.le_of_eq (hidT_size _ _), trivial, fun bb nB => absurd (show bb ∈ ([] : List Addr) from nB) (by simp), okH, .of_eq gn⟩
    obtain ⟨f1, fd, F1, f2, _, bd⟩ := (F (hidT s1.heap G)).ex
    rw [fH] at f2
    cases f2
    refine codeAny_mono (F1.run callerA [] s1 G ⟨[.ref a], []⟩ [.ref a] [.ref a] _ _ rm rfl env (bd s1 [.ref a] kx rfl) (.cons rfl .nil) rfl (spH G oO sS)) fun res s2 h5 => ?_
    cases res with
    | error e5 => exact (cxNo h5).elim
    | ok flw =>
      cases flw with
      | next => exact False.elim h5
      | brk => exact False.elim h5
      | cont => exact False.elim h5
      | ret uu =>
        obtain ⟨v5, H', oS, br, unt, okH2, r9, qq⟩ := h5
        have q9 : v5 = .bl true := qq
        subst q9
        obtain rfl : uu = Value.bool true := r9
        refine ⟨rfl, OldK.of_keep fun bb ob e5 => ?_, oS, br⟩
        cases qq : G bb with
        | none => exact unt.keep bb ob e5 qq (by intro zx; exact absurd (show bb ∈ ([] : List Addr) from zx) (by simp)) (by simp)
        | some uu =>
          rcases oO bb with zx | ⟨ob, xz, zx⟩
          · rw [qq] at zx; cases zx
          · have zz := unt.frzs bb ob _ zx
            obtain ⟨ea, _⟩ := okH bb _ zx
            obtain ⟨eb, _⟩ := okH2 bb _ zz
            rw [e5] at ea; cases ea
            exact eb
  cases kL : K.lookup a with
  | some ob =>
    have e5 := kx a ob kL
    rw [aH] at e5
    cases e5
    refine heart (fun _ => none) (fun _ => .inl rfl) (.inr ⟨_, vz.toArray, _, kL, rfl, rfl, rfl, by rw [List.size_toArray, vl]; exact lN, by simpa using vr⟩) (fun bb uu zx => by have z9 : (none : Option HO) = some uu := zx; cases z9) (fun bb zx => absurd rfl zx) fun zx => absurd rfl zx
  | none =>
    refine heart (fun bb => if bb = a then some (.frz { cls := .type "list", data := .seq vz.toArray } (.lst (nz.map V.int))) else none) (fun bb => ?_) (.inl (.inr ⟨{ cls := .type "list", data := .seq vz.toArray }, if_pos rfl⟩)) (fun bb uu zx => ?_) (fun bb zx => ?_) fun _ => kL
    · by_cases nB : bb = a
      · exact .inr ⟨_, _, if_pos nB⟩
      · exact .inl (if_neg nB)
    · by_cases nB : bb = a
      · have z9 := (if_pos nB).symm.trans zx
        cases z9
        subst nB
        exact ⟨aH, by rw [List.length_map]; exact lN, vz, _, vr, aH⟩
      · have z9 := (if_neg nB).symm.trans zx
        cases z9
    · by_cases nB : bb = a
      · exact nB
      · exact absurd (if_neg nB) zx
/-- the law's goal by the mirror of its def -/
theorem walk_ofM {l : PySem.W.OpenLaw} {n k : Nat} {q : Program} {loose : List Str} {XP : (Str → Option Value) → Heap → Prop} {YP : World → Heap → Prop} {d : DefRec} {K : Params → PySem.W.Frag} {mf : MF} {x : Str}
    (hn : l.most = some n) (hn2 : n ≤ sizeLine) (hdf : d.params.defaults = []) (rm : Room k callerA) (hY : ∀ (w : World) (h : Heap), YP w h → (K w.params).In h)
    (F : ∀ (w : World) (mg : Str → Option Value) (fa : Addr) (h : Heap), (K w.params).In h → h.Ns mainGlobals mg → mg d.name = some (.ref fa) → ∀ base : Heap, Cal l.prog w (K w.params) mg base k d.name [x] mf)
    (hm : ∀ ns : List Int, ns.length ≤ n → ∃ M, mf [.scr ns] [] = .ok (.d (.bool true)) M) : PySem.W.WalkO q loose XP YP l.row.toRowW d [] (fun f vs => PySem.call f vs) := by
  refine Att.attach_call hn hdf fun w s0 s1 mg mb fa o pm cd doc a vs ns G Y ho hd hcd hmg hobj hints hlen hg => ?_
  have kx := hY w _ Y
  refine law_callM (mf := mf) kx G.T.g G.T.b G.T.builtins G.T.nolimit hg hobj hints (Nat.le_trans hlen hn2) rm (F w mg fa _ kx G.T.g hmg) hmg fun H hO hS => ?_
  obtain ⟨M, e⟩ := hm ns hlen
  refine ⟨⟨[], H⟩, [.scr ns], [], ⟨Sub.refl _, rfl, fun n o e => by simp at e, fun n m a e => by simp at e, fun a h => by simp at h⟩, .cons (.scr hS) .nil, ?_⟩
  rw [e]
  intro v g' H' R E r
  cases r with
  | d r => cases r; rfl
end Y
namespace Y
open PySem PySem.Spec PyProof.Rows L2
/-! ### a tuple from behind -/
section
variable {prog : Program} {w : World} {A : Around} {E : Value → Shared → Prop} {s : Shared}
theorem places_rev (n : Nat) : Builtin.Slice.slicePlaces ((n : Int) - 1) (-1) (-1) = n := by
  unfold Builtin.Slice.slicePlaces
  rw [if_neg (by decide)]
  by_cases h : (n : Int) - 1 > -1
  · rw [if_pos h]
    have : ((n : Int) - 1 - -1 - 1) / (- -1) + 1 = n := by
      rw [show (- -1 : Int) = 1 by decide, Int.ediv_one]
      omega
    rw [this, Int.toNat_natCast]
  · rw [if_neg h]
    show (0 : Int).toNat = n
    omega
theorem applied_rev {sl : Addr} {vl vu vs : Value} {n : Nat} {Q : Int × Int × Nat → Shared → Prop} (hs : s.heap.IsSliceOf sl vl vu vs) (pl : IsPart vl none) (pu : IsPart vu none) (ps : IsPart vs (some (-1)))
    (h : Q ((n : Int) - 1, -1, n) s) : wpAny (model prog w) A (Builtin.Slice.sliceApplied (.ref sl) (pure (n : Int))) Q E s := by
  obtain ⟨os, hos, hcs, hds⟩ := id hs
  unfold Builtin.Slice.sliceApplied Builtin.Slice.sliceFields
  refine wpAny_bind (wpAny_bind (wpAny_field hos hds (x := vl) rfl (wpAny_bind (wpAny_field hos hds (x := vu) rfl (wpAny_bind (wpAny_field hos hds (x := vs) rfl (wpAny_pure ?_)))))))
  refine wpAny_bind (HT.slicePart_ ps ?_)
  show wpAny _ _ (if ((-1 : Int) == 0) = true then _ else _) _ _ s
  rw [if_neg (by decide)]
  refine wpAny_bind (HT.slicePart_ pl (wpAny_bind (HT.slicePart_ pu (wpAny_bind (wpAny_pure ?_)))))
  show wpAny _ _ (pure (((n : Int) - 1), (-1 : Int), Builtin.Slice.slicePlaces ((n : Int) - 1) (-1) (-1))) _ _ s
  rw [places_rev]
  exact wpAny_pure h
theorem pick_rev (xs : Array Value) : ((List.range xs.size).filterMap fun (m : Nat) => xs[(((xs.size : Int) - 1) + (m : Int) * (-1)).toNat]?).toArray = xs.toList.reverse.toArray := by
  congr 1
  apply List.ext_getElem?
  intro i
  have e : ((List.range xs.size).filterMap fun (m : Nat) => xs[(((xs.size : Int) - 1) + (m : Int) * (-1)).toNat]?) = (List.range xs.size).map fun m => xs.toList.reverse.getD m .none := by
    have hall : ∀ m ∈ List.range xs.size, xs[(((xs.size : Int) - 1) + (m : Int) * (-1)).toNat]? = some (xs.toList.reverse.getD m .none) := fun m hm => by
      have hm' := List.mem_range.mp hm
      have h1 : (((xs.size : Int) - 1) + (m : Int) * (-1)).toNat = xs.size - 1 - m := by omega
      rw [h1, List.getD_eq_getElem?_getD, List.getElem?_reverse (by rw [Array.length_toList]; exact hm'), Array.length_toList, Array.getElem?_toList, Array.getElem?_eq_getElem (by omega)]
      rfl
    generalize List.range xs.size = l at hall
    induction l with
    | nil => rfl
    | cons a r ih =>
      rw [List.filterMap_cons, hall a List.mem_cons_self, List.map_cons, ih fun m hm => hall m (List.mem_cons_of_mem _ hm)]
  rw [e, List.getElem?_map]
  by_cases h : i < xs.size
  · rw [List.getElem?_range h, List.getElem?_eq_getElem (l := xs.toList.reverse) (by simpa using h)]
    show some (xs.toList.reverse.getD i .none) = _
    rw [List.getD_eq_getElem?_getD, List.getElem?_eq_getElem (l := xs.toList.reverse) (by simpa using h)]
    rfl
  · rw [List.getElem?_eq_none (by simpa using h), List.getElem?_eq_none (by simpa using h)]
    rfl
theorem item_tuple_rev {t sl : Addr} {items : Array Value} {vl vu vs : Value} {Q : Value → Shared → Prop} (ht : IsTup s.heap t items) (hs : s.heap.IsSliceOf sl vl vu vs) (pl : IsPart vl none) (pu : IsPart vu none) (ps : IsPart vs (some (-1)))
    (h : Q (.ref s.heap.objs.size) { s with heap := s.heap.push { cls := .type "tuple", data := .seq items.toList.reverse.toArray } }) (hsz : items.size ≤ sizeLine) : wpAny (model prog w) A (getItem (.ref t) (.ref sl)) Q E s := by
  have htake : sizeOk (.seq items.toList.reverse.toArray) := by
    show items.toList.reverse.toArray.size ≤ sizeLine
    rw [List.size_toArray, List.length_reverse, Array.length_toList]
    exact hsz
  obtain ⟨os, hos, hcs, hds⟩ := id hs
  have hT : s.TypeIs (.ref sl) "slice" := ⟨os, hos, hcs⟩
  unfold getItem
  try with_reducible refine wpAny_holding ?_
  first | refine wpAny_bind (wpAny_pure ?_) | skip
  refine wpAny_bind (wpAny_sequenceKey ht.typeIs (by decide) ?_)
  refine wpAny_bind (wpAny_callSpecial?_slot (name := Str.ofString "__getitem__") ht.typeIs PyProof.Rows.slot_tuple_getitem (wpAny_call_entry PyProof.Rows.slot_tuple_getitem ht.typeIs entry_tuple_getitem ?_ (args_tuple_getitem _ _)))
  show wpAny _ _ (Builtin.Tuple.tupleItemsOf (.ref t) >>= _) _ _ s
  refine wpAny_bind (tupleItemsOf_ ht (wpAny_bind (wpAny_typeOf hT ?_)))
  rw [if_pos (by decide)]
  refine wpAny_bind (applied_rev hs pl pu ps ?_)
  have hno : ¬ ((((items.size : Int) - 1) == 0 && (-1 : Int) == 1 && items.size == items.size) = true) := by
    rw [show ((-1 : Int) == 1) = false from by decide, Bool.and_false, Bool.false_and]
    exact Bool.false_ne_true
  show wpAny _ _ (if (((items.size : Int) - 1) == 0 && (-1 : Int) == 1 && items.size == items.size) = true then _ else _) _ _ s
  rw [if_neg hno, pick_rev]
  first
    | exact wpAny_bind (m := Builtin.Tuple.tupleExact _) (wpAny_newObj_type (wpAny_pure ⟨_, rfl, wpAny_pure h⟩) htake)
    | exact wpAny_bind (m := Builtin.Tuple.tupleExact _) (wpAny_newObj_type (wpAny_bind (wpAny_pure (wpAny_pure ⟨_, rfl, wpAny_pure h⟩))) htake)
    | exact wpAny_bind (wpAny_bind (m := Builtin.Tuple.tupleExact _) (wpAny_newObj_type (wpAny_pure (wpAny_pure ⟨_, rfl, wpAny_pure h⟩)) htake))
    | exact wpAny_bind (wpAny_bind (m := Builtin.Tuple.tupleExact _) (wpAny_newObj_type (wpAny_pure ⟨_, rfl, wpAny_pure h⟩) htake))
end
section
variable {X : Cx} {xw : WX}
/-- a list or a tuple from behind -/
theorem pe_revB {e : Expr} {te : TE} {k : Nat} {p1 p2 p3 pos : Pos} (he : PE X e te) : PE X (.Subscript e (.Slice none none (some (.UnaryOp .USub (.Constant (.int 1) k p1) p2)) p3) pos)
    fun σ H Q => te σ H fun x G => (∃ a xs, x = .ref a ∧ SqL X.K G a xs ∧ ∀ p, G p = none → Q (.ref p) (upd G p (.lst xs.reverse))) ∨ ∃ a xs, x = .ref a ∧ SqT X.K G a xs ∧ ∀ p, G p = none → Q (.ref p) (upd G p (.tup xs.reverse)) := by
  refine ⟨fun pins s σ H Q I h => Subscript_ (thn (he.run pins s σ H _ I h) fun v sa ⟨x, Ga, Ia, ra, qa⟩ => ?_)⟩
  have part : PO X (some (.UnaryOp .USub (.Constant (.int 1) k p1) p2)) (tPart (tUn (rU fun i => .int (-i)) (tC (.int 1)))) := po_some (pe_un un_neg pe_int)
  refine wpAny_Slice (thn (po_none.run pins sa σ Ga (fun o G => o = none ∧ G = Ga) Ia ⟨rfl, rfl⟩) fun vl sb ⟨l, Gb, Ib, pl, el, eb⟩ => ?_)
  subst el eb
  refine thn (po_none.run pins sb σ Gb (fun o G => o = none ∧ G = Gb) Ib ⟨rfl, rfl⟩) fun vu sc ⟨u, Gc, Ic, pu, eu, ec⟩ => ?_
  subst eu ec
  refine thn (part.run pins sc σ Gc (fun o G => o = some (-1) ∧ G = Gc) Ic ⟨1, rfl, -1, rfl, rfl, rfl⟩) fun vs sd ⟨o, Gd, Id, ps, eo, ed⟩ => ?_
  subst eo ed
  have Ie : Inv X pins σ Gd { sd with heap := sd.heap.push { cls := .type "slice", data := .fields #[vl, vu, vs] } } := Id.kept (t' := sd.toks) fun b ob q => Heap.get?_push_of_some _ q
  rcases qa with ⟨a, xs, ex, hx, q⟩ | ⟨a, xs, ex, hx, q⟩
  · subst ex
    cases ra
    obtain ⟨its, r, ht, hz⟩ := Ie.list hx
    have hlen := r.length
    show wpAny (model X.prog X.w) X.A (subscriptTail e (.Slice none none (some (.UnaryOp .USub (.Constant (.int 1) k p1) p2)) p3) (.ref a) (.ref sd.heap.objs.size)) (EP X pins σ Q) X.xe { sd with heap := sd.heap.push { cls := .type "slice", data := .fields #[vl, vu, vs] } }
    refine tail_any (ops := [.ref a, .ref sd.heap.objs.size]) ht.isList.typeIs (PySem.slot_list_getitem.lookup) ?_ (by with_unfolding_all rfl)
    refine wpAny_getItem_list_slice ht.isList (Heap.IsSliceOf.new _ vl vu vs) pl pu ps (by decide) ?_ (by rw [List.size_toArray]; omega)
    rw [PySem.W.krv_pick]
    exact ⟨.ref _, _, Ie.laid (t' := sd.toks) (o := .lst xs.reverse) (fun b ob q => Heap.get?_push_of_some _ q) (Nat.le_refl _) ⟨by rw [List.length_reverse]; exact hz, _, 0, r.reverse, Heap.get?_push_size _ rfl⟩, rfl, q _ (Ie.hok.fresh (Nat.le_refl _))⟩
  · subst ex
    cases ra
    obtain ⟨its, r, ht, hz⟩ := Ie.tuple hx
    have hlen := r.length
    show wpAny (model X.prog X.w) X.A (subscriptTail e (.Slice none none (some (.UnaryOp .USub (.Constant (.int 1) k p1) p2)) p3) (.ref a) (.ref sd.heap.objs.size)) (EP X pins σ Q) X.xe { sd with heap := sd.heap.push { cls := .type "slice", data := .fields #[vl, vu, vs] } }
    refine tail_any (ops := [.ref a, .ref sd.heap.objs.size]) ht.typeIs (PyProof.Rows.slot_tuple_getitem.lookup) ?_ (by with_unfolding_all rfl)
    refine item_tuple_rev ht (Heap.IsSliceOf.new _ vl vu vs) pl pu ps ?_ (by rw [List.size_toArray]; omega)
    exact ⟨.ref _, _, Ie.laid (t' := sd.toks) (o := .tup xs.reverse) (fun b ob q => Heap.get?_push_of_some _ q) (Nat.le_refl _) ⟨by rw [List.length_reverse]; exact hz, _, r.reverse, IsTup.new _ _⟩, rfl, q _ (Ie.hok.fresh (Nat.le_refl _))⟩
def revD : PyData → Option PyData
  | .list ds => some (.list ds.reverse)
  | .tuple ds => some (.tuple ds.reverse)
  | _ => none
def sRev (f : EF) : EF := fun ρ M => (f ρ M).bind fun w M => match (vw M w).bind revD with
  | some y => .ok (.d y) M
  | none => .stuck
theorem DqAll.rev {K : PySem.W.Frag} {F : Hp} : ∀ {v : List V} {x : List PyData}, DqAll K F v x → DqAll K F v.reverse x.reverse
  | _, _, .nil => .nil
  | _, _, .cons h t => by
    rw [List.reverse_cons, List.reverse_cons]
    exact (DqAll.rev t).append (.cons h .nil)
theorem me_rev {e : Expr} {f : EF} {k : Nat} {p1 p2 p3 pos : Pos} (he : ME X xw e f) : ME X xw (.Subscript e (.Slice none none (some (.UnaryOp .USub (.Constant (.int 1) k p1) p2)) p3) pos) (sRev f) :=
  PE.imp (pe_revB he) fun σ H Q h => tG_mono (tG_bind (R2 := RW X.K) h) fun v H1 ⟨g, ρ, M, w, R, S, q, b⟩ => by
    cases ev : vw M w with
    | none => rw [ev] at b; exact b.elim
    | some x =>
      rw [ev] at b
      have dv := vw_ok R q ev
      have s := R.sub
      have kk : ∀ y, revD x = some y → ∀ v F' H', Lay g.F H1 F' H' → Dq X.K F' v y → Q v H' := fun y ey v F' H' L dq => by
        have b' := b
        simp only [Option.bind_some, ey] at b'
        exact b' v ⟨g.ph, F'⟩ H' (L.rel R) L.ext (.d dq)
      cases x with
      | list ds =>
        obtain ⟨p, xs, rfl, h1, h2⟩ := dv.lst s
        exact .inl ⟨p, xs, rfl, .of h1, fun q hq => kn s (kk _ rfl) h2.rev hq⟩
      | tuple ds =>
        obtain ⟨p, xs, rfl, h1, h2⟩ := dv.tup
        exact .inr ⟨p, xs, rfl, TqT.up s h1, fun q hq => kt s (kk _ rfl) h2.rev hq⟩
      | _ => exact b.elim
end
end Y
namespace Y
open PySem PySem.Spec PyProof.Rows L2
/-! ### dicts of the module -/
mutual
/-- a value of the module's own, as data -/
inductive KDat (K : PySem.W.Frag) : Value → V → PyData → Prop
  | non : KDat K .none .non .none
  | bl (b : Bool) : KDat K (.bool b) (.bl b) (.bool b)
  | int (i : Int) (t : Tok) : KDat K (.int i t) (.int i) (.int i)
  | str (x : Str) (t : Tok) : KDat K (.str x t) (.str x) (.str x)
  | tup {a : Addr} {o : Obj} {its : Array Value} {n : Nat} {vs : List V} {ds : List PyData} : K.lookup a = some o → o.cls = .type "tuple" → o.data = .seq its n → its.size ≤ sizeLine → KDats K its.toList vs ds → KDat K (.ref a) (.ref a) (.tuple ds)
inductive KDats (K : PySem.W.Frag) : List Value → List V → List PyData → Prop
  | nil : KDats K [] [] []
  | cons {u : Value} {us : List Value} {v : V} {vs : List V} {d : PyData} {ds : List PyData} : KDat K u v d → KDats K us vs ds → KDats K (u :: us) (v :: vs) (d :: ds)
end
def flatD : PyData → Bool
  | .tuple _ => false
  | _ => true
theorem KDat.rel1 {K : PySem.W.Frag} {u : Value} {v : V} {d : PyData} (h : KDat K u v d) : RelV v u := by
  cases h with
  | non => rfl
  | bl b => rfl
  | int i t => exact ⟨t, rfl⟩
  | str x t => exact ⟨t, rfl⟩
  | tup h1 h2 h3 h4 h5 => rfl
theorem KDat.rel2 {K : PySem.W.Frag} {u : Value} {v : V} {d : PyData} (h : KDat K u v d) (hf : flatD d = true) (F : Hp) : Dq K F v d := by
  cases h with
  | non => exact .non
  | bl b => exact .bl b
  | int i t => exact .int i
  | str x t => exact .str x
  | tup h1 h2 h3 h4 h5 => cases hf
theorem KDats.rel1 {K : PySem.W.Frag} : ∀ {u : List Value} {v : List V} {d : List PyData}, KDats K u v d → Vals v u
  | _, _, _, .nil => .nil
  | _, _, _, .cons h t => .cons h.rel1 (KDats.rel1 t)
mutual
theorem KDat.dp {K : PySem.W.Frag} {H : Hp} : ∀ {u : Value} {v : V} {d : PyData}, KDat K u v d → Dp K H v d
  | _, _, _, .non => .non
  | _, _, _, .bl b => .bl b
  | _, _, _, .int i t => .int i
  | _, _, _, .str x t => .str x
  | _, _, _, .tup h1 h2 h3 h4 h5 => .tup (.inr ⟨_, _, _, h1, h2, h3, h4, KDats.rel1 h5⟩) (KDats.dp h5)
theorem KDats.dp {K : PySem.W.Frag} {H : Hp} : ∀ {u : List Value} {v : List V} {d : List PyData}, KDats K u v d → DpAll K H v d
  | _, _, _, .nil => .nil
  | _, _, _, .cons h t => .cons (KDat.dp h) (KDats.dp t)
end
/-- the written dict under a name -/
structure KD (K : PySem.W.Frag) (P : Params) (mg : Str → Option Value) (x : Str) (kvs : List (Str × PyData)) : Prop where
  ex : ∃ (p : Addr) (es : Array DictEntry) (n : Nat), mg x = some (.ref p) ∧ K.lookup p = some ⟨.type "dict", none, .dict es n, #[]⟩ ∧ PySem.W.KeysLit P es.toList ∧ (p == sysModules) = false ∧
    ∀ z, match kvs.lookup z with
      | none => PySem.W.nsIn K p z = some none
      | some d => ∃ u v, PySem.W.nsIn K p z = some (some u) ∧ KDat K u v d
inductive KEnts (K : PySem.W.Frag) (P : Params) : List DictEntry → List (Str × PyData) → Prop
  | nil : KEnts K P [] []
  | cons {x : Str} {t : Tok} {u : Value} {v : V} {d : PyData} {es : List DictEntry} {kvs : List (Str × PyData)} : KDat K u v d → KEnts K P es kvs → KEnts K P (⟨PyData.keyHash P x, .str x t, u⟩ :: es) ((x, d) :: kvs)
theorem KEnts.lit {K : PySem.W.Frag} {P : Params} : ∀ {es : List DictEntry} {kvs : List (Str × PyData)}, KEnts K P es kvs → PySem.W.KeysLit P es
  | _, _, .nil => trivial
  | _, _, .cons _ r => ⟨⟨_, _, rfl, rfl⟩, r.lit⟩
theorem isStr_str {x z : Str} {t : Tok} : (Value.str x t).isStr z = (z == x) := by
  rw [PySem.W.isStr_of]
  show (x == z) = (z == x)
  rw [Bool.eq_iff_iff, beq_iff_eq, beq_iff_eq]
  exact eq_comm
theorem KEnts.get {K : PySem.W.Frag} {P : Params} (z : Str) : ∀ {es : List DictEntry} {kvs : List (Str × PyData)}, KEnts K P es kvs → match kvs.lookup z with
    | none => es.find? (fun e => e.key.isStr z) = none ∧ es.any (fun e => e.refKey) = false
    | some d => ∃ e v, es.find? (fun e => e.key.isStr z) = some e ∧ KDat K e.val v d
  | _, _, .nil => ⟨rfl, rfl⟩
  | _, _, .cons (x := x) (t := t) (u := u) (v := v) (d := d) (es := es) (kvs := kvs) k r => by
    have ih := r.get z
    rw [List.lookup_cons]
    cases e : z == x with
    | true => exact ⟨⟨PyData.keyHash P x, .str x t, u⟩, v, by rw [List.find?_cons]; simp only [isStr_str, e], k⟩
    | false =>
      show match kvs.lookup z with | none => _ | some d => _
      cases e2 : kvs.lookup z with
      | none =>
        rw [e2] at ih
        refine ⟨by rw [List.find?_cons]; simp only [isStr_str, e]; exact ih.1, ?_⟩
        rw [List.any_cons, ih.2]
        rfl
      | some d2 =>
        rw [e2] at ih
        obtain ⟨e', v', h1, h2⟩ := ih
        exact ⟨e', v', by rw [List.find?_cons]; simp only [isStr_str, e]; exact h1, h2⟩
theorem kd_mk {K : PySem.W.Frag} {P : Params} {mg : Str → Option Value} {x : Str} {p : Addr} {es : List DictEntry} {n : Nat} {kvs : List (Str × PyData)} (hm : mg x = some (.ref p)) (hl : K.lookup p = some ⟨.type "dict", none, .dict es.toArray n, #[]⟩) (hlow : (p == sysModules) = false) (hE : KEnts K P es kvs) : KD K P mg x kvs := by
  refine ⟨p, es.toArray, n, hm, hl, by simpa using hE.lit, hlow, fun z => ?_⟩
  have h := hE.get z
  cases e : kvs.lookup z with
  | none =>
    rw [e] at h
    show PySem.W.nsIn K p z = some none
    unfold PySem.W.nsIn
    rw [hl]
    simp only [h.1, h.2]
    rfl
  | some d =>
    rw [e] at h
    obtain ⟨en, v, h1, h2⟩ := h
    refine ⟨en.val, v, ?_, h2⟩
    unfold PySem.W.nsIn
    rw [hl]
    simp only [h1]
section
variable {X : Cx} {xw : WX} {a b : Expr} {fa fb : EF} {pos p1 : Pos} {k : Nat} {x : Str} {kvs : List (Str × PyData)}
def asKIn (kvs : List (Str × PyData)) (b : Bool) : W → List MO → Res W
  | .d (.str z), M => .ok (.d (.bool ((kvs.lookup z).isSome == b))) M
  | _, _ => .stuck
def sKIn (kvs : List (Str × PyData)) (b : Bool) (f : EF) : EF := fun ρ M => (f ρ M).bind (asKIn kvs b)
theorem me_kIn (T : KD X.K X.w.params X.mg x kvs) (ha : ME X xw a fa) (hg : Gl X x := by rfl) (hd : (x == ("__debug__" : Str)) = false := by decide) : ME X xw (.Compare a [.In] [.Name x p1] pos) (sKIn kvs true fa) := by
  obtain ⟨p, es, n, hm, h1, h2, h3, h4⟩ := T.ex
  refine PE.imp (pe_cmpR (op_in_kd ⟨h1, h2, h3⟩) ha (pe_glob hg hm (v := .ref p) rfl hd) (by rfl)) fun σ H Q h => tG_mono (tG_bind (R2 := RW X.K) h) fun v H1 ⟨g, ρ, M, w, R, S, q, b⟩ => ?_
  unfold asKIn at b
  split at b
  · rename_i z
    cases q with
    | d q =>
      cases q
      have h5 := h4 z
      cases e : kvs.lookup z with
      | none =>
        rw [e] at h5 b
        exact ⟨z, none, rfl, rfl, h5, b _ g H1 R (Ext.refl _ _) (.d (.bl _))⟩
      | some d =>
        rw [e] at h5 b
        obtain ⟨u, v, h6, _⟩ := h5
        exact ⟨z, some u, rfl, rfl, h6, b _ g H1 R (Ext.refl _ _) (.d (.bl _))⟩
  · exact b.elim
def asKGet (kvs : List (Str × PyData)) : W → List MO → Res W
  | .d (.str z), M => match kvs.lookup z with
    | some d => if flatD d = true then .ok (.d d) M else .stuck
    | none => .stuck
  | _, _ => .stuck
def sKGet (kvs : List (Str × PyData)) (f : EF) : EF := fun ρ M => (f ρ M).bind (asKGet kvs)
theorem me_kGet (T : KD X.K X.w.params X.mg x kvs) (ha : ME X xw a fa) (hg : Gl X x := by rfl) (hd : (x == ("__debug__" : Str)) = false := by decide) (hs : PlainIx a := by exact fun _ _ => rfl) : ME X xw (.Subscript (.Name x p1) a pos) (sKGet kvs fa) := by
  obtain ⟨p, es, n, hm, h1, h2, h3, h4⟩ := T.ex
  refine PE.imp (pe_ix ix_kdict (pe_glob hg hm (v := .ref p) rfl hd) ha hs) fun σ H Q h => tG_mono (tG_bind (R2 := RW X.K) h) fun v H1 ⟨g, ρ, M, w, R, S, q, b⟩ => ?_
  unfold asKGet at b
  split at b
  · rename_i z
    cases q with
    | d q =>
      cases q
      have h5 := h4 z
      cases e : kvs.lookup z with
      | none => rw [e] at b; exact b.elim
      | some d =>
        rw [e] at h5 b
        obtain ⟨u, v, h6, h7⟩ := h5
        simp only at b
        split at b
        · rename_i hf
          exact ⟨p, z, v, rfl, rfl, ⟨es, n, u, h1, h2, h6, h7.rel1⟩, b v g H1 R (Ext.refl _ _) (.d (h7.rel2 hf _))⟩
        · exact b.elim
  · exact b.elim
/-- a not in D[k], the dict's values being tuples -/
def asKNotInT (kvs : List (Str × PyData)) : W → W → List MO → Res W
  | .d (.str z), .d (.str y), M => match kvs.lookup y with
    | some (.tuple ds) => if SeqAt.shaped (.str z) = true ∧ SeqAt.shaped (.tuple ds) = true then .ok (.d (.bool (!(ds.any fun d => PyData.eqv d (.str z))))) M else .stuck
    | _ => .stuck
  | _, _, _ => .stuck
def sKNotInT (kvs : List (Str × PyData)) (f h : EF) : EF := fun ρ M => (f ρ M).bind fun w M1 => (h ρ M1).bind fun u M2 => asKNotInT kvs w u M2
theorem me_kNotInT (C : Ctx X k xw) (T : KD X.K X.w.params X.mg x kvs) (ha : ME X xw a fa) (hb : ME X xw b fb) (hg : Gl X x := by rfl) (hd : (x == ("__debug__" : Str)) = false := by decide) (hs : PlainIx b := by exact fun _ _ => rfl) {p2 : Pos}
    (hm' : behindInMarks .NotIn (.Subscript (.Name x p1) b p2) = false := by rfl) : ME X xw (.Compare a [.NotIn] [.Subscript (.Name x p1) b p2] pos) (sKNotInT kvs fa fb) := by
  obtain ⟨p, es, n, hm, h1, h2, h3, h4⟩ := T.ex
  refine PE.imp (pe_cmpR (op_notInT (ctx_u C)) ha (pe_ix ix_kdict (pe_glob hg hm (v := .ref p) rfl hd) hb hs) hm') fun σ H Q h => tG_mono (tG_bind (R2 := RW X.K) h) fun v H1 ⟨g, ρ, M, w, R, S, q, b⟩ => ?_
  refine ⟨g, ρ, M, R, S, ?_⟩
  cases e2 : fb ρ M with
  | stuck => rw [e2] at b; exact b
  | err y M2 => rw [e2] at b; exact b
  | ok u M2 =>
    rw [e2] at b
    intro v2 g2 H2 R2 E2 r2
    replace b : Bhd (tx X) (fun c d H => xw c d σ H) (RW X.K) Q (asKNotInT kvs w u M2) g H1 := b
    unfold asKNotInT at b
    split at b
    · rename_i z y
      cases q with
      | d q =>
        cases q
        cases r2 with
        | d r2 =>
          cases r2
          have h5 := h4 y
          cases e : kvs.lookup y with
          | none => simp only [e] at b; exact b.elim
          | some d =>
            simp only [e] at b h5
            obtain ⟨u, v, h6, h7⟩ := h5
            cases d with
            | tuple ds =>
              simp only at b
              split at b
              · rename_i hc
                exact ⟨p, y, v, rfl, rfl, ⟨es, n, u, h1, h2, h6, h7.rel1⟩, _, _, .str z, h7.dp, hc.1, hc.2, b _ g2 H2 R2 E2 (.d (.bl _))⟩
              · exact b.elim
            | _ => exact b.elim
    · exact b.elim
theorem mt_kNotInT (C : Ctx X k xw) (T : KD X.K X.w.params X.mg x kvs) (ha : ME X xw a fa) (hb : ME X xw b fb) (hg : Gl X x := by rfl) (hd : (x == ("__debug__" : Str)) = false := by decide) (hs : PlainIx b := by exact fun _ _ => rfl) {p2 : Pos}
    (hm' : behindInMarks .NotIn (.Subscript (.Name x p1) b p2) = false := by rfl) : MT X xw (.Compare a [.NotIn] [.Subscript (.Name x p1) b p2] pos) (sVal (sKNotInT kvs fa fb)) := by
  obtain ⟨p, es, n, hm, h1, h2, h3, h4⟩ := T.ex
  refine PT.imp (pt_cmpR (op_notInT (ctx_u C)) ha (pe_ix ix_kdict (pe_glob hg hm (v := .ref p) rfl hd) hb hs) hm') fun σ H Q0 h0 => ?_
  have h := tT_val h0
  refine tG_mono (tG_bind (R2 := RW X.K) h) fun v H1 ⟨g, ρ, M, w, R, S, q, b⟩ => ?_
  refine ⟨g, ρ, M, R, S, ?_⟩
  cases e2 : fb ρ M with
  | stuck => rw [e2] at b; exact b
  | err y M2 => rw [e2] at b; exact b
  | ok u M2 =>
    rw [e2] at b
    intro v2 g2 H2 R2 E2 r2
    replace b : Bhd (tx X) (fun c d H => xw c d σ H) (RW X.K) (fun x H => ∃ c, x = .bl c ∧ Q0 c H) (asKNotInT kvs w u M2) g H1 := b
    unfold asKNotInT at b
    split at b
    · rename_i z y
      cases q with
      | d q =>
        cases q
        cases r2 with
        | d r2 =>
          cases r2
          have h5 := h4 y
          cases e : kvs.lookup y with
          | none => simp only [e] at b; exact b.elim
          | some d =>
            simp only [e] at b h5
            obtain ⟨u, v, h6, h7⟩ := h5
            cases d with
            | tuple ds =>
              simp only at b
              split at b
              · rename_i hc
                exact ⟨p, y, v, rfl, rfl, ⟨es, n, u, h1, h2, h6, h7.rel1⟩, _, _, .str z, h7.dp, hc.1, hc.2, b _ g2 H2 R2 E2 (.d (.bl _))⟩
              · exact b.elim
            | _ => exact b.elim
    · exact b.elim
end
end Y
namespace Y
open PySem PySem.Spec PyProof.Rows L2

/-! ### a caught exception is tracked -/
theorem exh_ok {P : Program} {w : World} {H : Hp} {h : Heap} {a : Addr} {cls : Value} {d : Option Addr} {oe : Obj} {vs : Array Value} (e : h.get? a = some oe) (z : Zc cls d oe) (q : oe.data = .fields vs) : ObjOk P w H h a (ExH cls d a) :=
  ⟨⟨oe, vs, e, z, q⟩, ⟨oe, e⟩, fun h1 h2 ⟨o1, v1, e1, z1, q1⟩ k => ⟨o1, v1, k _ e1, z1, q1⟩⟩
theorem exh_at {P : Program} {w : World} {H : Hp} {h : Heap} {a : Addr} {cls : Value} {d : Option Addr} (ok : HOk P w H h) (e : H a = some (ExH cls d a)) : ∃ (oe : Obj) (vs : Array Value), h.get? a = some oe ∧ Zc cls d oe ∧ oe.data = .fields vs :=
  (show ObjOk P w H h a (ExH cls d a) from ok a _ e).1
section
variable {X : Cx} {pins : List (Addr × Obj)} {σ : L2.St} {H : Hp} {s : Shared}
theorem inv_trackX (I : Inv X pins σ H s) {a : Addr} {cls : Value} {d : Option Addr} {oe : Obj} {vs : Array Value} (e : s.heap.get? a = some oe) (z : Zc cls d oe) (q : oe.data = .fields vs) (na : H a = none) (n0 : X.s_0.heap.get? a = none) (nL : a ≠ X.env.locals)
    (np : ∀ p ∈ X.pn ++ pins, p.1 ≠ a) : Inv X pins σ (upd H a (ExH cls d a)) s := by
  have up : ∀ {b : Addr} {o : HO}, H b = some o → upd H a (ExH cls d a) b = some o := fun {b o} r => by rw [upd_ne (ne_of_none r na)]; exact r
  refine ⟨I.ok, I.os, I.bare, ⟨I.base.keep, I.base.slot, fun b o r n hx => ?_, I.base.there, fun b xs r => up (I.base.tups b xs r), fun b o u r => up (I.base.frzs b o u r), fun b ps r => ?_⟩, I.loc, I.cell, ?_, fun x c r => ?_, fun p hp => ?_, fun b u r => ?_, I.len⟩
  · rw [upd_ne (fun z => by rw [z, n0] at r; cases r)]
    exact I.base.free b o r n hx
  · obtain ⟨m, r'⟩ := I.base.tbls b ps r
    exact ⟨m, up r'⟩
  · rw [upd_ne (Ne.symm nL)]
    exact I.free
  · have nc : c ≠ a := fun z => by
      obtain ⟨v, o, ho, hd⟩ := I.cell x c r
      rw [z, e] at ho
      cases ho
      rw [q] at hd
      cases hd
    rw [upd_ne nc]
    exact I.freeC x c r
  · obtain ⟨h1, h2, h3, h4, h5⟩ := I.pin p hp
    exact ⟨h1, by rw [upd_ne (np p hp)]; exact h2, h3, h4, h5⟩
  · by_cases hb : b = a
    · subst hb
      rw [upd_same] at r
      cases r
      exact exh_ok e z q
    · rw [upd_ne hb] at r
      exact (I.hok b u r).stay (fun _ _ _ t => t) (fun _ t => up t) fun _ _ t => up t
theorem inv_suiteX (I : Inv X pins σ H s) (a : Addr) : Inv (X.suite a (X.pn ++ pins)) [] σ H s :=
  { I with ok := I.ok.suite a (X.pn ++ pins), pin := fun p hp => I.pin p (by simpa using hp) }
theorem inv_unsuiteX {a : Addr} {pn' : List (Addr × Obj)} (I : Inv (X.suite a (X.pn ++ pins)) pn' σ H s) (ok : X.Ok) : Inv X pins σ H s :=
  { I with ok := ok, pin := fun p hp => I.pin p (List.mem_append_left pn' hp) }
end
/-- what the except clause wishes: the name's slot holds it, its suite runs -/
def wTry (K : PySem.W.Frag) (c : Value) (i : Nat) (ts : Addr → TS) (D : Ends) : WX := fun cls d σ H =>
  PySem.W.exmOne K cls c = some true ∧ ∀ a, H a = none → ts a { nx := fun σ1 H1 => D.nx (σ1.set i none) H1, rt := D.rt, bk := fun σ1 H1 => D.bk (σ1.set i none) H1, ct := fun σ1 H1 => D.ct (σ1.set i none) H1 } (σ.set i (some (.ref a))) (upd H a (ExH cls d a))
section
variable {X : Cx} {x y : Str} {c : Value} {i : Nat} {body more : List Stmt} {first : Stmt} {p1 p2 p3 : Pos} {tb : WX → TS} {ts : Addr → TS}
theorem ps_tryX (hs : X.stack = X.env :: X.outer) (hl : X.env.frame = some X.env.locals) (hx : X.ex = []) (nd : X.N.Nodup) (hi : X.N[i]? = some y) (hy : X.env.kindOf y = some .local) (hc : Names X x c)
    (hb : ∀ (W : WX) (pn : List (Addr × Obj)) (xe : Value → Shared → Prop), Takes (X.tr pn xe) W → PassesOwn (model X.prog X.w) X.A X.env xe → PSs (X.tr pn xe) body (tb W))
    (hsu : ∀ (a : Addr) (pn : List (Addr × Obj)), PSs (X.suite a pn) (first :: more) (ts a)) :
    PS X (.Try body [.ExceptHandler (some (.Name x p1)) (some y) (first :: more) p2] [] [] p3) (fun D σ H => tb (wTry X.K c i ts D) D σ H) := by
  refine ⟨fun ps u σ H D I h => ?_⟩
  have ok := I.ok
  have frm : X.A.frames = some (X.env :: X.outer) := ok.frames.trans (congrArg some hs)
  refine wpAny_Try_except ?_
  refine wpAny_mono ((hb (wTry X.K c i ts D) (X.pn ++ ps) (fun e u1 => wpAny (model X.prog X.w) X.A (noteFrame e X.env) (fun _ u2 => wpAny (model X.prog X.w) X.A (setFlight e none) (fun _ u3 =>
    wpAny (model X.prog X.w) X.A (handleBy e X.env [.ExceptHandler (some (.Name x p1)) (some y) (first :: more) p2]) (SP X ps D) X.xe u3) X.xe u2) X.xe u1) (fun v u' air => ?_) PassesOwn.looking).run [] u σ H D (I.toTry _) h) (fun fl u1 hfl => ?_) (fun _ _ z => z)
  · obtain ⟨a, B, sI, pl, σ', H', cls, d, rfl, J', nb, up, sky, na, os, ag, hm, hyes⟩ := air
    have J : Inv X ps σ' H' sI := J'.ofTry ok
    have sk : Sky B (X.env :: X.outer) a (Zc cls d) X.env.locals u'.heap := hs ▸ sky
    show wpAny (model X.prog X.w) X.A (noteFrame (.ref a) X.env) _ _ _
    refine Sky.land Zc.steady frm hl sk fun h3 fl3 up3 => ?_
    have J3 : Inv X ps σ' H' { u' with heap := h3 } := J.landed nb fl3.1 (up.trans up3) os ag
    obtain ⟨o3, v3, g3, z3, d3⟩ := fl3.there
    have offFr : a ∉ frs (X.env :: X.outer) := fun hm => by
      obtain ⟨_, o', q, hn⟩ := fl3.2.2.1.mem hm
      rw [g3] at q
      cases q
      exact hn _ d3
    have offL : a ≠ X.env.locals := fun z => offFr (List.mem_filterMap.mpr ⟨X.env, List.mem_cons_self, by rw [hl, z]⟩)
    have newI : sI.heap.get? a = none := by
      cases q : sI.heap.get? a with
      | none => rfl
      | some o =>
        have := nb a o q (by rw [hs]; exact offFr)
        rw [fl3.2.1] at this
        cases this
    have new0 : X.s_0.heap.get? a = none := by
      cases q : X.s_0.heap.get? a with
      | none => rfl
      | some o =>
        obtain ⟨o', q'⟩ := J.base.there a o q (by rw [hx]; exact List.not_mem_nil)
        rw [newI] at q'
        cases q'
    have offP : ∀ p ∈ X.pn ++ ps, p.1 ≠ a := fun p hp z => by
      have := (J.pin p hp).1
      rw [z, newI] at this
      cases this
    have S3 := inv_suiteX J3 a
    refine wpAny_handleBy_cons (codeAny_handlers_test ?_) (by intro q; cases q)
    have lt : PySem.W.Looks (model X.prog X.w) h3 (typeOf (.ref a)) cls := fun _ _ _ _ k q => wpAny_typeOf_ref (k _ _ g3) (by rw [z3.1]; exact q)
    have lm := PySem.W.exm_one (M := model X.prog X.w) J3.kIn lt hm
    have ask : ∀ {Q : Value → Shared → Prop} {E : Value → Shared → Prop}, Q c { u' with heap := h3 } → wpAny (model X.prog X.w) (X.A.mark (some (.ref a))) (eval (.Name x p1) X.env) Q E { u' with heap := h3 } := fun {Q E} q => by
      obtain ⟨c1, c2, c3 | ⟨c3, c4, c5⟩⟩ := hc
      · exact ld_glob (X := X.suite a (X.pn ++ ps)) S3 c1 c3 q c2
      · exact ld_blt (X := X.suite a (X.pn ++ ps)) S3 c1 c3 c4 q c5 c2
    refine ask (lm.here ?_)
    refine codeAny_handlers_suite_as ?_
    refine HandSPX.lands_againZ fl3 fun h4 fl4 up4 => ?_
    have J4 : Inv X ps σ' H' { u' with heap := h4 } := J.landed nb fl4.1 ((up.trans up3).trans up4) os ag
    obtain ⟨o4, v4, g4, z4, d4⟩ := fl4.there
    have J5 : Inv X ps σ' (upd H' a (ExH cls d a)) { u' with heap := h4 } := inv_trackX J4 g4 z4 d4 na new0 offL offP
    refine store_ok (X := X.suite a (X.pn ++ ps)) (v := .ref a) (inv_suiteX J5 a) nd hi (.inl hy) rfl (fun u5 S5 => ?_) (.inr hy)
    refine wpAny_mono ((hsu a (X.pn ++ ps)).run [] u5 _ _ _ S5 (hyes a na)) (fun fl u6 hfl => ?_) (fun _ _ z => z.elim)
    have away : ∀ {σ6 : L2.St} {H6 : Hp} {Q : Shared → Prop}, Inv (X.suite a (X.pn ++ ps)) [] σ6 H6 u6 → (∀ u7, Inv X ps (σ6.set i none) H6 u7 → Q u7) →
        wpAny (model X.prog X.w) X.A (do bindName X.env y .none; unbindBehindTheSuite X.env y p2) (fun _ u7 => Q u7) X.xe u6 := fun S6 hq => gone_ok (inv_unsuiteX S6 ok) nd hi hy hq
    cases fl with
    | next =>
      obtain ⟨_, _, S6, q6⟩ := hfl
      exact away S6 fun u7 J7 => ⟨_, _, J7, q6⟩
    | brk =>
      obtain ⟨_, _, S6, q6⟩ := hfl
      exact away S6 fun u7 J7 => ⟨_, _, J7, q6⟩
    | cont =>
      obtain ⟨_, _, S6, q6⟩ := hfl
      exact away S6 fun u7 J7 => ⟨_, _, J7, q6⟩
    | ret r =>
      obtain ⟨_, _, _, S6, r6, q6⟩ := hfl
      exact away S6 fun u7 J7 => ⟨_, _, _, J7, r6, q6⟩
  · cases fl with
    | next =>
      obtain ⟨_, _, J7, q⟩ := hfl
      exact wpAny_execs_nil ⟨_, _, J7.ofTry ok, q⟩
    | brk =>
      obtain ⟨_, _, J7, q⟩ := hfl
      exact ⟨_, _, J7.ofTry ok, q⟩
    | cont =>
      obtain ⟨_, _, J7, q⟩ := hfl
      exact ⟨_, _, J7.ofTry ok, q⟩
    | ret r =>
      obtain ⟨_, _, _, J7, r, q⟩ := hfl
      exact ⟨_, _, _, J7.ofTry ok, r, q⟩
end
end Y
namespace Y
open PySem PySem.Spec PyProof.Rows L2

/-! ### exception classes of the program's own -/
abbrev veMro : List Value := [.type "ValueError", .type "Exception", .type "BaseException", .type "object"]
structure XCls (K : PySem.W.Frag) (mg : Str → Option Value) (x : Str) (C S : Addr) : Prop where
  ns : PySem.W.nsIn K mainGlobals x = some (some (.ref C))
  mg : mg x = some (.ref C)
  cd : ∃ c, PySem.W.clsIn K C = some c ∧ c.mro = .ref C :: .ref S :: veMro ∧ c.hasDict = true
  ty : PySem.W.typeIn K (.ref C) = some (.type "type")
  kp : PySem.W.keepIn K (.ref C) = true
  gg : PySem.W.findIn K (.ref C) "__getattribute__" = some (some (.builtin "BaseException.__getattribute__"))
  gk : PySem.W.findIn K (.ref C) "__getattr__" = some none
  gc : PySem.W.findIn K (.ref C) "__class__" = some (some (.builtin "object.__class__"))
/-- all of them: name, place; own: has an __init__ of its own -/
inductive XL (K : PySem.W.Frag) (mg : Str → Option Value) (S : Addr) : List (Str × Addr) → Prop
  | nil : XL K mg S []
  | cons {x : Str} {C : Addr} {r : List (Str × Addr)} : XCls K mg x C S → (PySem.W.excIn K C veMro "ValueError.__new__" = true ∨ x = "NoText") → XL K mg S r → XL K mg S ((x, C) :: r)
structure XTab (K : PySem.W.Frag) (mg : Str → Option Value) (xs : List Str) (S : Addr) (tab : List (Str × Addr)) : Prop where
  all : XL K mg S tab
  nm : tab.map (·.1) = xs
  inj : (tab.map (·.2)).Nodup
  nS : S ∉ tab.map (·.2)
  mgS : mg "SettingsError" = some (.ref S)
  cdS : ∃ c, PySem.W.clsIn K S = some c ∧ c.mro = .ref S :: veMro ∧ c.hasDict = true
  tyS : PySem.W.typeIn K (.ref S) = some (.type "type")
  g1 : PySem.W.specialIn K (.builtin "object.__class__") "__get__" = some (some (.builtin "getset_descriptor.__get__"))
  t1 : PySem.W.takesIn K (.builtin "object.__class__") = some true
theorem XL.get {K : PySem.W.Frag} {mg : Str → Option Value} {S : Addr} {x : Str} : ∀ {tab : List (Str × Addr)}, XL K mg S tab → x ∈ tab.map (·.1) → ∃ C, (x, C) ∈ tab ∧ XCls K mg x C S ∧ (PySem.W.excIn K C veMro "ValueError.__new__" = true ∨ x = "NoText")
  | _, .nil, h => nomatch h
  | _, .cons c e r, h => by
    rw [List.map_cons] at h
    rcases List.mem_cons.mp h with rfl | h
    · exact ⟨_, List.mem_cons_self, c, e⟩
    · obtain ⟨C, h1, h2⟩ := r.get h
      exact ⟨C, List.mem_cons_of_mem _ h1, h2⟩
section
variable {K : PySem.W.Frag} {mg : Str → Option Value} {xs : List Str} {S : Addr} {tab : List (Str × Addr)} {x y : Str} {C D : Addr}
theorem XTab.get (T : XTab K mg xs S tab) (h : x ∈ xs) : ∃ C, (x, C) ∈ tab ∧ XCls K mg x C S ∧ (PySem.W.excIn K C veMro "ValueError.__new__" = true ∨ x = "NoText") := T.all.get (by rw [T.nm]; exact h)
theorem inj_of_nodup : ∀ {tab : List (Str × Addr)}, (tab.map (·.2)).Nodup → (x, C) ∈ tab → (y, C) ∈ tab → x = y
  | [], _, h, _ => nomatch h
  | p :: r, n, h1, h2 => by
    rw [List.map_cons, List.nodup_cons] at n
    rcases List.mem_cons.mp h1 with e1 | h1
    · rcases List.mem_cons.mp h2 with e2 | h2
      · rw [← e1] at e2; exact (congrArg Prod.fst e2).symm
      · exact absurd (List.mem_map.mpr ⟨(y, C), h2, by rw [← e1]⟩) n.1
    · rcases List.mem_cons.mp h2 with e2 | h2
      · exact absurd (List.mem_map.mpr ⟨(x, C), h1, by rw [← e2]⟩) n.1
      · exact inj_of_nodup n.2 h1 h2
theorem XTab.inj' (T : XTab K mg xs S tab) (h1 : (x, C) ∈ tab) (h2 : (y, C) ∈ tab) : x = y := inj_of_nodup T.inj h1 h2
theorem XCls.sub (c : XCls K mg x C S) (b : Value) : PySem.W.subIn K (.ref C) b = some ((.ref C :: .ref S :: veMro : List Value).contains b) := by
  obtain ⟨d, h1, h2, _⟩ := c.cd
  show (PySem.W.clsIn K C).bind _ = _
  rw [h1, Option.bind_some, h2]
  rfl
theorem XCls.dict (c : XCls K mg x C S) : PySem.W.hasDictIn K C = true := by
  obtain ⟨d, h1, _, h3⟩ := c.cd
  show (PySem.W.clsIn K C).any _ = true
  rw [h1]
  exact h3
theorem XCls.isc (c : XCls K mg x C S) (T : XTab K mg xs S tab) : ExcC K C := ⟨c.gg, c.gk, (c.sub _).trans rfl, c.dict, c.gc, T.g1, T.t1, (c.sub _).trans rfl⟩
theorem val_ref_beq {a b : Addr} : ((Value.ref a : Value) == .ref b) = decide (a = b) := by
  by_cases h : a = b
  · subst h; rw [decide_eq_true rfl]; exact beq_self_eq_true _
  · rw [decide_eq_false h]
    exact beq_eq_false_iff_ne.mpr fun z => h (Value.ref.inj z)
theorem kitCls_ref {K : PySem.W.Frag} {t : Value} {C : Addr} (h1 : (PySem.W.clsIn K C).isSome = true) (h2 : PySem.W.typeIn K (.ref C) = some (.type "type")) : PySem.W.kitCls K t (.ref C) = PySem.W.subIn K t (.ref C) := by
  show (if ((PySem.W.clsIn K C).isSome && PySem.W.typeIn K (.ref C) == some (.type "type")) = true then PySem.W.subIn K t (.ref C) else none) = _
  rw [h1, h2]
  exact if_pos (by rfl)
/-- is an instance of C one of D -/
theorem XTab.kit (T : XTab K mg xs S tab) (h1 : (x, C) ∈ tab) (c : XCls K mg x C S) (h2 : (y, D) ∈ tab) (d : XCls K mg y D S) : PySem.W.kitOne K (.ref C) (.ref D) = some (decide (x = y)) := by
  obtain ⟨dd, e1, e2, e3⟩ := d.cd
  unfold PySem.W.kitOne
  rw [val_ref_beq]
  by_cases h : C = D
  · subst h
    rw [decide_eq_true rfl, if_pos rfl, T.inj' h1 h2, decide_eq_true rfl]
  · rw [decide_eq_false h, if_neg (by decide)]
    have hxy : x ≠ y := fun z => by
      subst z
      have := c.ns.symm.trans d.ns
      exact h (Value.ref.inj (Option.some.inj (Option.some.inj this)))
    rw [decide_eq_false hxy]
    rw [kitCls_ref (by rw [e1]; rfl) d.ty, c.sub]
    have hS : ¬ S = D := fun z => T.nS (by subst z; exact List.mem_map.mpr ⟨_, h2, rfl⟩)
    refine congrArg some ?_
    rw [List.contains_cons, List.contains_cons, val_ref_beq, decide_eq_false (Ne.symm h), val_ref_beq, decide_eq_false (Ne.symm hS)]
    rfl
theorem XTab.kitS (T : XTab K mg xs S tab) (c : XCls K mg x C S) (h1 : (x, C) ∈ tab) : PySem.W.kitOne K (.ref C) (.ref S) = some true := by
  obtain ⟨dd, e1, e2, e3⟩ := T.cdS
  unfold PySem.W.kitOne
  split
  · rfl
  · rw [kitCls_ref (by rw [e1]; rfl) T.tyS, c.sub]
    refine congrArg some ?_
    rw [List.contains_cons, List.contains_cons, beq_self_eq_true, Bool.true_or, Bool.or_true]
theorem XCls.kitV (c : XCls K mg x C S) : PySem.W.kitOne K (.ref C) (.type "ValueError") = some true := by
  unfold PySem.W.kitOne
  split
  · rfl
  · show (if PySem.W.kitMeta "ValueError" = true then PySem.W.subIn K (.ref C) (.type "ValueError") else none) = _
    rw [if_pos (by decide +kernel), c.sub]
    rfl
theorem XTab.exm (T : XTab K mg xs S tab) (c : XCls K mg x C S) : PySem.W.exmOne K (.ref C) (.ref S) = some true := by
  obtain ⟨dd, e1, e2, e3⟩ := T.cdS
  unfold PySem.W.exmOne
  have hs : ∀ b, PySem.W.subIn K (.ref S) b = some ((.ref S :: veMro : List Value).contains b) := fun b => by
    show (PySem.W.clsIn K S).bind _ = _
    rw [e1, Option.bind_some, e2]
    rfl
  rw [hs, if_pos (by rfl)]
  rw [kitCls_ref (by rw [e1]; rfl) T.tyS, c.sub]
  refine congrArg some ?_
  rw [List.contains_cons, List.contains_cons, beq_self_eq_true, Bool.true_or, Bool.or_true]
end

/-! ### raise -/
def sRaise (x : Str) : SF := fun ρ M => .er ⟨x, none⟩ ρ M
theorem ms_raise {X : Cx} {k : Nat} {xw : WX} {xs : List Str} {S : Addr} {tab : List (Str × Addr)} {x m : Str} {j : Nat} {p p2 p3 pos : Pos} (C : Ctx X k xw) (T : XTab X.K X.mg xs S tab) (hx : x ∈ xs) (hn : x ≠ "NoText" := by decide) (hg : Gl X x := by rfl)
    (hdb : (x == ("__debug__" : Str)) = false := by decide) : MS X xw (.Raise (some (.Call (.Name x p) [.Constant (.str m) j p2] [] pos)) none p3) (sRaise x) := by
  obtain ⟨c, h1, h2, h3 | h3⟩ := T.get hx
  · refine PS.imp (ps_raise C.calm C.takes (pmk_own PySem.F.excBase_ValueError h3 h2.mg h2.kp (raises_own ((h2.sub _).trans rfl) h2.ty) hg hdb)) fun D σ H ⟨g, ρ, M, R, S', b⟩ => ?_
    exact b _ none σ g H R (Ext.refl _ _) S' ⟨⟨c, rfl, h2.ns⟩, rfl⟩
  · exact absurd h3 hn

/-! ### try .. except SettingsError as y -/
def sTry (xs : List Str) (i : Nat) (fb fs : SF) : SF := fun ρ M => match fb ρ M with
  | .er e ρ1 M1 => if e.c ∈ xs then match fs (ρ1.set i (some (.exc e))) M1 with
      | .nx ρ2 M2 => .nx (ρ2.set i none) M2
      | .bk ρ2 M2 => .bk (ρ2.set i none) M2
      | .ct ρ2 M2 => .ct (ρ2.set i none) M2
      | .ret w M2 => .ret w M2
      | _ => .stuck
    else .stuck
  | r => r
theorem Rel.layX {K : PySem.W.Frag} {g : Gh} {M : List MO} {H : Hp} {p : Addr} {o : HO} (r : Rel K g M H) (h : H p = none) : Rel K ⟨g.ph, L2.upd g.F p o⟩ M (L2.upd H p o) := r.lay h
theorem Ctx.try_ {X : Cx} {k : Nat} {xw W : WX} {pn : List (Addr × Obj)} {xe : Value → Shared → Prop} (C : Ctx X k xw) (t : Takes (X.tr pn xe) W) (o : PassesOwn (model X.prog X.w) X.A X.env xe) : Ctx (X.tr pn xe) k W := ⟨C.calm, C.nd, t, o, C.room, C.gd⟩
theorem ms_try {X : Cx} {k : Nat} {xw : WX} {xs : List Str} {S : Addr} {tab : List (Str × Addr)} {y : Str} {body more : List Stmt} {first : Stmt} {fb fs : SF} {p1 p2 p3 : Pos} (C : Ctx X k xw) (T : XTab X.K X.mg xs S tab) (i : Nat)
    (hb : ∀ (W : WX) (pn : List (Addr × Obj)) (xe : Value → Shared → Prop), Ctx (X.tr pn xe) k W → MSs (X.tr pn xe) W body fb)
    (hsu : ∀ (a : Addr) (pn : List (Addr × Obj)), MSs (X.suite a pn) xw0 (first :: more) fs) (hi : X.N[i]? = some y := by rfl) (hy : X.env.kindOf y = some .local := by rfl) (hg : Gl X "SettingsError" := by rfl)
    (hs : X.stack = X.env :: X.outer := by rfl) (hl : X.env.frame = some X.env.locals := by rfl) (hx : X.ex = [] := by rfl) :
    MS X xw (.Try body [.ExceptHandler (some (.Name "SettingsError" p1)) (some y) (first :: more) p2] [] [] p3) (sTry xs i fb fs) := by
  refine PS.imp (ps_tryX (c := .ref S) (i := i) (tb := fun W => tS (tx X) W fb) (ts := fun a => tS (tx X) xw0 fs) hs hl hx C.nd hi hy ⟨hg, rfl, .inl T.mgS⟩ (fun W pn xe t o => hb W pn xe (C.try_ t o)) hsu) fun D σ H ⟨g, ρ, M, R, Sl, b⟩ => ?_
  refine ⟨g, ρ, M, R, Sl, ?_⟩
  unfold sTry at b
  cases e1 : fb ρ M with
  | nx ρ1 M1 => rw [e1] at b; exact b
  | bk ρ1 M1 => rw [e1] at b; exact b
  | ct ρ1 M1 => rw [e1] at b; exact b
  | ret ρ1 M1 => rw [e1] at b; exact b
  | stuck => rw [e1] at b; exact b
  | er e ρ1 M1 =>
    rw [e1] at b
    simp only at b
    split at b
    · rename_i hin
      intro cls d σ1 g1 H1 R1 E1 S1 ix
      obtain ⟨⟨C1, rfl, hns⟩, hln⟩ := ix
      obtain ⟨C2, h1, h2, _⟩ := T.get hin
      have hC : C1 = C2 := Value.ref.inj (Option.some.inj (Option.some.inj (hns.symm.trans h2.ns)))
      subst hC
      refine ⟨T.exm h2, fun a na => ?_⟩
      have R2 := R1.lay (o := ExH (.ref C1) d a) na
      have E2 : Ext g1 H1 ⟨g1.ph, L2.upd g1.F a (ExH (.ref C1) d a)⟩ (L2.upd H1 a (ExH (.ref C1) d a)) := Ext.lay R1.sub na
      have rx : RW X.K ⟨g1.ph, L2.upd g1.F a (ExH (.ref C1) d a)⟩ (.ref a) (.exc e) := .exc hns L2.upd_same (hln.sub (Sub.upd (R1.sub.none na)))
      refine ⟨_, _, M1, R2, (S1.gr E2.gr).set i rx, ?_⟩
      cases e2 : fs (ρ1.set i (some (.exc e))) M1 with
      | nx ρ2 M2 => rw [e2] at b; exact fun σ3 g3 H3 R3 E3 S3 => b (σ3.set i none) g3 H3 R3 ((E1.trans E2).trans E3) (S3.unset i)
      | bk ρ2 M2 => rw [e2] at b; exact fun σ3 g3 H3 R3 E3 S3 => b (σ3.set i none) g3 H3 R3 ((E1.trans E2).trans E3) (S3.unset i)
      | ct ρ2 M2 => rw [e2] at b; exact fun σ3 g3 H3 R3 E3 S3 => b (σ3.set i none) g3 H3 R3 ((E1.trans E2).trans E3) (S3.unset i)
      | ret w M2 => rw [e2] at b; exact fun v g3 H3 R3 E3 r3 => b v g3 H3 R3 ((E1.trans E2).trans E3) r3
      | er x ρ2 M2 => rw [e2] at b; exact b.elim
      | stuck => rw [e2] at b; exact b.elim
    · exact b.elim

/-! ### isinstance of such a class -/
inductive XK where
  | own (x : Str) | base | ve
def XK.of : XK → Ex → Bool
  | .own x, e => decide (e.c = x)
  | _, _ => true
def sIsX (xs : List Str) (q : XK) (f : EF) : EF := fun ρ M => (f ρ M).bind fun w M => match w with
  | .exc e => if e.c ∈ xs then .ok (.d (.bool (q.of e))) M else .stuck
  | .d _ => .ok (.d (.bool false)) M
  | _ => .stuck
theorem _root_.L2.ExcC.cls_there {K : PySem.W.Frag} {D : Addr} (Z : ExcC K D) : ∃ cd, PySem.W.clsIn K D = some cd := by
  cases e : PySem.W.clsIn K D with
  | some cd => exact ⟨cd, rfl⟩
  | none =>
    have h : (PySem.W.clsIn K D).any _ = true := Z.hd
    rw [e] at h
    cases h
/-- the class of a caught exception, whether it has a dict or not -/
theorem cls_of_exc {prog : Program} {w : World} {B : Around} {E : Value → Shared → Prop} {Q : Option Value → Shared → Prop} {K : PySem.W.Frag} {z D : Addr} {oz : Obj} {od : Option Obj} {u : Shared} (Z : ExcC K D) (kin : K.In u.heap) (at_ : PySem.W.InstAt u.heap z oz D od) (fin : Q (some (.ref D)) { u with toks := u.toks + 1 }) :
    wpAny (model prog w) B (getAttr? (.ref z) "__class__") Q E u := by
  have found : PySem.W.findObj K D od "__class__" = some (.bind (.builtin "getset_descriptor.__get__") (.builtin "object.__class__")) := by
    obtain ⟨cd, hc⟩ := Z.cls_there
    unfold PySem.W.findObj
    rw [hc, Option.bind_some, Z.ha, Option.bind_some]
    simp [Z.hn, Z.ht]
  obtain ⟨hp, gg, dd, tk, oo⟩ := u
  have l0 := at_.type (M := model prog w)
  have l1 := PySem.W.looks_findIn (M := model prog w) kin Z.hg
  have l2 := PySem.W.looks_findIn (M := model prog w) kin Z.hk
  have l3 := PySem.W.looks_find (M := model prog w) kin at_ found
  have isB : PySem.W.Looks (model prog w) hp (isInstance (.ref z) (.type "BaseException")) true := l0.andThen (PySem.W.looks_subIn kin Z.hs)
  have n2 : (Value.builtin "BaseException.__getattribute__" == Value.builtin "object.__getattribute__") = false := by decide +kernel
  have n1 : (onTheHeap (Value.ref D) && Value.builtin "BaseException.__getattribute__" == Value.builtin "object.__getattribute__") = false := by rw [n2]; rfl
  unfold getAttr? getAttrBy? getAttrBy
  refine wpAny_bind (wpAny_mkText (wpAny_bind (wpAny_attempt (wpAny_holding (wpAny_bind (l0.at (wpAny_bind (l1.at ?_))))))))
  show wpAny _ _ (if (onTheHeap (Value.ref D) && Value.builtin "BaseException.__getattribute__" == Value.builtin "object.__getattribute__") = true then _ else _) _ _ _
  rw [n1, if_neg Bool.false_ne_true]
  unfold getAttrByItsOwn hookBefore
  refine wpAny_bind (by
    rw [if_pos (show onTheHeap (Value.ref D) = true from rfl)]
    refine l2.at (wpAny_bind (wpAny_attempt (wpAny_holding ?_)))
    unfold callGetattribute
    rw [show (false && onTheHeap (Value.builtin "BaseException.__getattribute__")) = false from rfl, if_neg Bool.false_ne_true]
    unfold boundAndCalled
    rw [PySem.F.excAttr_ValueError.ga.bind (.ref z)]
    refine wpAny_bind (wpAny_pure ?_)
    show wpAny _ _ (call (.builtin "BaseException.__getattribute__") [.ref z, .str "__class__" tk]) _ _ _
    refine wpAny_call (codeAny_call_builtin PySem.F.excAttr_ValueError.ga.plain PySem.F.entry_bexc_ga ?_)
    refine @PySem.W.check_slot (model prog w) _ _ ⟨hp, gg, dd, tk + 1, oo⟩ "BaseException.__getattribute__" "BaseException" "__getattribute__" (.ref z) [.str "__class__" tk] [] _ (by decide +kernel) (by decide +kernel) isB (PySem.F.args_bexc_ga (.ref z) (.str "__class__" tk)) ?_
    unfold Builtin.«object.__getattribute__»
    refine wpAny_bind (wpAny_of_eq (a := ((Value.ref z : Value), [Value.str "__class__" tk])) (by first | rfl | (simp only [slotArgs]; rfl)) ?_)
    refine wpAny_bind (wpAny_pure (wpAny_bind (l0.at (wpAny_bind (l3.at ?_)))))
    show wpAny _ _ (holding [Value.builtin "object.__class__"] (call (.builtin "getset_descriptor.__get__") [.builtin "object.__class__", .ref z, .ref D]) >>= ret) _ _ _
    refine wpAny_bind (wpAny_holding (wpAny_call (PySem.W.class_get (s := ⟨hp, gg, dd, tk + 1, oo⟩) (ox := oz) (od := od) kin at_ Z.hm ?_)))
    refine wpAny_pure ?_
    show wpAny _ _ (handedOut (.ref D)) _ _ _
    rw [PySem.W.handedOut_of (v := .ref D) rfl]
    first
      | exact wpAny_pure (wpAny_pure fin)
      | exact wpAny_pure fin
      | exact wpAny_pure (wpAny_bind (wpAny_pure (wpAny_pure fin))))
theorem kit_of_exc {K : PySem.W.Frag} {z D : Addr} {oz : Obj} {od : Option Obj} (Z : ExcC K D) : PySem.W.KitX K (.ref z) (.ref D) (fun h => PySem.W.InstAt h z oz D od) where
  ty := fun _ _ _ I => I.type
  it := fun M h kin _ => by
    obtain ⟨cd, hc⟩ := Z.cls_there
    unfold PySem.W.clsIn at hc
    split at hc
    · rename_i oD
      intro B Q E u k q
      unfold isType loadHead
      exact wpAny_bind (wpAny_loadPart (k _ _ (kin _ _ oD)) (wpAny_pure q))
    · cases hc
  ne := fun h tp dd its n sl X htp => (PySem.W.handS_kitx_exc (x := z) (ox := oz) Z.hg Z.hk Z.hs Z.hd Z.ha Z.hn Z.ht Z.hm).ne h tp dd its n sl X htp
  ca := fun X I k => cls_of_exc Z X I k
/-- isinstance(e, c), e a caught exception that is tracked -/
def rIsX (K : PySem.W.Frag) : List V → Hp → VK → Prop := fun xs H Q => ∃ (a D : Addr) (c : V) (u : Value) (b : Bool) (d : Option Addr), xs = [.ref a, c] ∧ ClsV c u ∧ ExcC K D ∧ H a = some (ExH (.ref D) d a) ∧ (d = none ∨ ∃ dx fs, d = some dx ∧ H dx = some (.xd fs)) ∧ PySem.W.kitOne K (.ref D) u = some b ∧ Q (.bl b) H
theorem call_isX {X : Cx} : CallR X (.builtin "isinstance") (rIsX X.K) := by
  intro pins s σ H xs us Q I r h
  obtain ⟨a, D, c, u, b, d, rfl, k, C, ha, hd, e, q⟩ := h
  obtain ⟨u1, u2, rfl, r1, r2⟩ := vals2 r
  have e2 := k.eq r2
  subst e2
  obtain rfl : u1 = Value.ref a := r1
  obtain ⟨oe, vs, g1, z1, d1⟩ := exh_at I.hok ha
  obtain ⟨oc, od, oda, osl⟩ := oe
  obtain ⟨h1, h2⟩ := z1
  dsimp only at h1 h2 d1
  subst h1 h2 d1
  rcases hd with rfl | ⟨dx, fs, rfl, hx⟩
  · have J : PySem.W.InstAt s.heap a ⟨.ref D, none, .fields vs, osl⟩ D none := ⟨g1, rfl, rfl, trivial⟩
    exact PySem.W.kia_one (kit_of_exc C) I.kIn J e (fun z => nomatch z) fun tk => ⟨.bl b, H, I.tok tk, rfl, q⟩
  · have hx' : ObjOk X.prog X.w H s.heap dx (.xd fs) := I.hok dx _ hx
    obtain ⟨mA, hns, _⟩ := hx'
    obtain ⟨oo, ho, _⟩ := lookIn_ns hns
    have J : PySem.W.InstAt s.heap a ⟨.ref D, some dx, .fields vs, osl⟩ D (some oo) := ⟨g1, rfl, rfl, ho⟩
    exact PySem.W.kia_one (kit_of_exc C) I.kIn J e (fun z => nomatch z) fun tk => ⟨.bl b, H, I.tok tk, rfl, q⟩
def okM (o : Option (List Value)) : Bool := match o with
  | some l => l.all fun v => match v with
    | .type t => t != "ValueError"
    | _ => false
  | none => false
theorem mro_ok (d : PyData) : okM (fastBuiltinMro (tyN d)) = true := by
  cases d
  · exact (by decide +kernel : okM (fastBuiltinMro "NoneType") = true)
  · exact (by decide +kernel : okM (fastBuiltinMro "bool") = true)
  · exact (by decide +kernel : okM (fastBuiltinMro "int") = true)
  · exact (by decide +kernel : okM (fastBuiltinMro "str") = true)
  · exact (by decide +kernel : okM (fastBuiltinMro "list") = true)
  · exact (by decide +kernel : okM (fastBuiltinMro "tuple") = true)
  · exact (by decide +kernel : okM (fastBuiltinMro "dict") = true)
theorem mro_no {K : PySem.W.Frag} (d : PyData) {u : Value} (h : (∃ C, u = .ref C) ∨ u = .type "ValueError") : PySem.W.subIn K (.type (tyN d)) u = some false := by
  show (fastBuiltinMro (tyN d)).map (fun l => l.contains u) = some false
  have q := mro_ok d
  unfold okM at q
  split at q
  · rename_i l e
    rw [e]
    refine congrArg some (Bool.eq_false_iff.mpr fun z => ?_)
    have hm : u ∈ l := List.contains_iff_mem.mp z
    have := List.all_eq_true.mp q u hm
    rcases h with ⟨C, rfl⟩ | rfl
    · cases this
    · exact absurd this (by decide)
  · cases q
theorem kit_data {K : PySem.W.Frag} (d : PyData) {C : Addr} (h1 : (PySem.W.clsIn K C).isSome = true) (h2 : PySem.W.typeIn K (.ref C) = some (.type "type")) : PySem.W.kitOne K (.type (tyN d)) (.ref C) = some false := by
  unfold PySem.W.kitOne
  rw [if_neg (by intro z; exact absurd (eq_of_beq z) (by intro z; cases z)), kitCls_ref h1 h2]
  exact mro_no d (.inl ⟨_, rfl⟩)
theorem tyN_ne (d : PyData) : ((Value.type (tyN d)) == .type "ValueError") = false := by
  cases d
  · exact (by decide : ((Value.type "NoneType") == .type "ValueError") = false)
  · exact (by decide : ((Value.type "bool") == .type "ValueError") = false)
  · exact (by decide : ((Value.type "int") == .type "ValueError") = false)
  · exact (by decide : ((Value.type "str") == .type "ValueError") = false)
  · exact (by decide : ((Value.type "list") == .type "ValueError") = false)
  · exact (by decide : ((Value.type "tuple") == .type "ValueError") = false)
  · exact (by decide : ((Value.type "dict") == .type "ValueError") = false)
theorem kit_dataV {K : PySem.W.Frag} (d : PyData) : PySem.W.kitOne K (.type (tyN d)) (.type "ValueError") = some false := by
  unfold PySem.W.kitOne
  rw [tyN_ne, if_neg (by decide)]
  show (if PySem.W.kitMeta "ValueError" = true then PySem.W.subIn K (.type (tyN d)) (.type "ValueError") else none) = _
  rw [if_pos (by decide +kernel)]
  exact mro_no d (.inr rfl)
section
variable {X : Cx} {xw : WX} {a : Expr} {fa : EF} {pos p1 p2 : Pos} {xs : List Str} {S : Addr} {tab : List (Str × Addr)}
theorem isX_imp {c : V} {u : Value} {q : XK} (T : XTab X.K X.mg xs S tab) (hc : ClsV c u) (hk : ∀ x C, (x, C) ∈ tab → XCls X.K X.mg x C S → PySem.W.kitOne X.K (.ref C) u = some (q.of ⟨x, none⟩)) (hd : ∀ d, PySem.W.kitOne X.K (.type (tyN d)) u = some false)
    {σ : L2.St} {H : Hp} {Q : VK} (h : tE (tx X) xw (sIsX xs q fa) σ H Q) : tE (tx X) xw fa σ H fun v H1 => rIsi X.K [v, c] H1 Q ∨ rIsX X.K [v, c] H1 Q := by
  refine tG_mono (tG_bind (R2 := RW X.K) h) fun v H1 ⟨g, ρ, M, w, R, Sl, r, b⟩ => ?_
  cases w with
  | loc n => exact b.elim
  | tup n => exact b.elim
  | scr n => exact b.elim
  | kd n => exact b.elim
  | clo _ n => exact b.elim
  | fn n => exact b.elim
  | d x =>
    cases r with
    | d r => exact .inl ⟨v, c, _, _, _, rfl, hc, dv_ty R.sub (.inl r), hd x, b _ g H1 R (Ext.refl _ _) (.d (.bl _))⟩
  | exc e =>
    simp only at b
    split at b
    · rename_i hin
      cases r with
      | @exc pa C d _ hns hF hln =>
        obtain ⟨C2, h1, h2, _⟩ := T.get hin
        have hC : C = C2 := Value.ref.inj (Option.some.inj (Option.some.inj (hns.symm.trans h2.ns)))
        subst hC
        have hdn : d = none ∨ ∃ dx fs, d = some dx ∧ H1 dx = some (.xd fs) := by
          unfold Ln at hln
          split at hln
          · exact .inl hln
          · obtain ⟨dx, e1, e2⟩ := hln
            exact .inr ⟨dx, _, e1, R.sub _ _ e2⟩
        have hq : q.of e = q.of ⟨e.c, none⟩ := by cases q <;> rfl
        exact .inr ⟨_, C, c, u, _, d, rfl, hc, h2.isc T, R.sub _ _ hF, hdn, (hk _ _ h1 h2).trans (congrArg some hq.symm), b _ g H1 R (Ext.refl _ _) (.d (.bl _))⟩
    · exact b.elim
theorem call_isXX {X : Cx} : CallR X (.builtin "isinstance") (fun vs H Q => rIsi X.K vs H Q ∨ rIsX X.K vs H Q) := fun pins s σ H xs us Q I r h => h.elim (call_isi pins s σ H xs us Q I r) (call_isX pins s σ H xs us Q I r)
theorem me_isX {x : Str} (T : XTab X.K X.mg xs S tab) (hx : x ∈ xs) (ha : ME X xw a fa) (hm : X.mg "isinstance" = none) (hg : Gl X "isinstance" := by rfl) (hgx : Gl X x := by rfl) (hdb : (x == ("__debug__" : Str)) = false := by decide)
    (he : starEach [a, .Name x p2] X.env = (false, eval a X.env) :: starEach [.Name x p2] X.env := by rfl) (hpl : (backTo pos (starEach [.Name x p2] X.env)).any (·.1) = false := by rfl) (he2 : starEach [.Name x p2] X.env = (false, eval (.Name x p2) X.env) :: starEach [] X.env := by rfl) :
    ME X xw (.Call (.Name "isinstance" p1) [a, .Name x p2] [] pos) (sIsX xs (.own x) fa) := by
  obtain ⟨D, d1, d2, _⟩ := T.get hx
  obtain ⟨dd, e1, _⟩ := d2.cd
  refine PE.imp (pe_callB call_isXX hg hm PyProof.Rows.boot_isinstance (pa_cons ha (pa_cons (pe_glob hgx d2.mg (v := .ref D) rfl hdb) pa_nil he2) he) (he := he) (hpl := hpl)) fun σ H Q h => ?_
  exact isX_imp (q := .own x) T (.own D) (fun y C h1 h2 => T.kit h1 h2 d1 d2) (fun d => kit_data d (by rw [e1]; rfl) d2.ty) h
theorem me_isXS (T : XTab X.K X.mg xs S tab) (ha : ME X xw a fa) (hm : X.mg "isinstance" = none) (hg : Gl X "isinstance" := by rfl) (hgx : Gl X "SettingsError" := by rfl)
    (he : starEach [a, .Name "SettingsError" p2] X.env = (false, eval a X.env) :: starEach [.Name "SettingsError" p2] X.env := by rfl) (hpl : (backTo pos (starEach [.Name "SettingsError" p2] X.env)).any (·.1) = false := by rfl) (he2 : starEach [.Name "SettingsError" p2] X.env = (false, eval (.Name "SettingsError" p2) X.env) :: starEach [] X.env := by rfl) :
    ME X xw (.Call (.Name "isinstance" p1) [a, .Name "SettingsError" p2] [] pos) (sIsX xs .base fa) := by
  obtain ⟨dd, e1, _⟩ := T.cdS
  refine PE.imp (pe_callB call_isXX hg hm PyProof.Rows.boot_isinstance (pa_cons ha (pa_cons (pe_glob hgx T.mgS (v := .ref S) rfl rfl) pa_nil he2) he) (he := he) (hpl := hpl)) fun σ H Q h => ?_
  exact isX_imp (q := .base) T (.own S) (fun y C h1 h2 => T.kitS h2 h1) (fun d => kit_data d (by rw [e1]; rfl) T.tyS) h
theorem me_isXV (T : XTab X.K X.mg xs S tab) (ha : ME X xw a fa) (hm : X.mg "isinstance" = none) (hmv : X.mg "ValueError" = none) (hg : Gl X "isinstance" := by rfl) (hgx : Gl X "ValueError" := by rfl)
    (he : starEach [a, .Name "ValueError" p2] X.env = (false, eval a X.env) :: starEach [.Name "ValueError" p2] X.env := by rfl) (hpl : (backTo pos (starEach [.Name "ValueError" p2] X.env)).any (·.1) = false := by rfl) (he2 : starEach [.Name "ValueError" p2] X.env = (false, eval (.Name "ValueError" p2) X.env) :: starEach [] X.env := by rfl) :
    ME X xw (.Call (.Name "isinstance" p1) [a, .Name "ValueError" p2] [] pos) (sIsX xs .ve fa) := by
  refine PE.imp (pe_callB call_isXX hg hm PyProof.Rows.boot_isinstance (pa_cons ha (pa_cons (pe_bltn (v := .ty "ValueError") hgx hmv (by decide +kernel) rfl (by decide) rfl) pa_nil he2) he) (he := he) (hpl := hpl)) fun σ H Q h => ?_
  exact isX_imp (q := .ve) T (.ty "ValueError") (fun y C h1 h2 => h2.kitV) (fun d => kit_dataV d) h
/-! x is None, x perhaps an exception -/
def pIsNX (k : Bool) : Pr := fun ws M => match ws with
  | [.exc _] => some (.d (.bool (!k)), M)
  | [.d x] => match pIsN [x] with
    | some (.bool b) => some (.d (.bool (b == k)), M)
    | _ => none
  | _ => none
theorem isNX_ok (K : PySem.W.Frag) (k : Bool) : PrOk K (pIsNX k) (r1 fun x H Q => Q (.bl (decide (x = .non) == k)) H) := fun g M H vs ws w M' Q R r e q => by
  unfold pIsNX at e
  split at e
  · cases e
    cases r with
    | cons r1 r2 =>
      cases r2
      cases r1 with
      | exc h1 h2 h3 =>
        refine ⟨_, rfl, ?_⟩
        have := q (.bl (!k)) g H R (Ext.refl _ _) (.d (.bl _))
        cases k <;> exact this
  · cases r with
    | cons r1 r2 =>
      cases r2
      cases r1 with
      | d d1 =>
        split at e
        · rename_i b eb
          cases e
          refine ⟨_, rfl, ?_⟩
          show Q (.bl (decide (_ = V.non) == k)) H
          rw [isN_dec R.sub (.inl d1) eb]
          exact q _ g H R (Ext.refl _ _) (.d (.bl _))
        · cases e
  · cases e
theorem me_isNX {j pos'} (ha : ME X xw a fa) : ME X xw (.Compare a [.Is] [.Constant .none j pos'] pos) (sPr (pIsNX true) [fa]) :=
  PE.imp (pe_cmp (pc_isN ha) (nobehind _ (by decide) (by decide))) fun σ H Q h => tG_mono (prim1 (T := tx X) (isNX_ok _ true) h) fun v H1 ⟨x, e, q⟩ => by cases e; simpa using q
theorem me_notNX {j pos'} (ha : ME X xw a fa) : ME X xw (.Compare a [.IsNot] [.Constant .none j pos'] pos) (sPr (pIsNX false) [fa]) :=
  PE.imp (pe_cmp (pc_notN ha) (nobehind _ (by decide) (by decide))) fun σ H Q h => tG_mono (prim1 (T := tx X) (isNX_ok _ false) h) fun v H1 ⟨x, e, q⟩ => by cases e; simpa using q
theorem mt_isNX {j pos'} (ha : ME X xw a fa) : MT X xw (.Compare a [.Is] [.Constant .none j pos'] pos) (sVal (sPr (pIsNX true) [fa])) :=
  PT.imp (pt_cmp (pc_isN ha) (nobehind _ (by decide) (by decide))) fun σ H Q h => tG_mono (prim1 (T := tx X) (isNX_ok _ true) (tT_val h)) fun v H1 ⟨x, e, q⟩ => by cases e; simpa using q
theorem mt_notNX {j pos'} (ha : ME X xw a fa) : MT X xw (.Compare a [.IsNot] [.Constant .none j pos'] pos) (sVal (sPr (pIsNX false) [fa])) :=
  PT.imp (pt_cmp (pc_notN ha) (nobehind _ (by decide) (by decide))) fun σ H Q h => tG_mono (prim1 (T := tx X) (isNX_ok _ false) (tT_val h)) fun v H1 ⟨x, e, q⟩ => by cases e; simpa using q
end

/-! ### the table, its places hidden -/
structure XT (K : PySem.W.Frag) (mg : Str → Option Value) (xs : List Str) : Prop where
  ex : ∃ S tab, XTab K mg xs S tab
section
variable {X : Cx} {xw : WX} {a : Expr} {fa : EF} {pos p1 p2 p3 : Pos} {xs : List Str} {k : Nat}
theorem mx_raise {x m : Str} {j : Nat} {p : Pos} (C : Ctx X k xw) (T : XT X.K X.mg xs) (hx : x ∈ xs := by decide) (hn : x ≠ "NoText" := by decide) (hg : Gl X x := by rfl)
    (hdb : (x == ("__debug__" : Str)) = false := by decide) : MS X xw (.Raise (some (.Call (.Name x p) [.Constant (.str m) j p2] [] pos)) none p3) (sRaise x) :=
  let ⟨_, _, t⟩ := T.ex
  ms_raise C t hx hn hg hdb
theorem mx_try {y : Str} {body more : List Stmt} {first : Stmt} {fb fs : SF} (C : Ctx X k xw) (T : XT X.K X.mg xs) (i : Nat)
    (hb : ∀ (W : WX) (pn : List (Addr × Obj)) (xe : Value → Shared → Prop), Ctx (X.tr pn xe) k W → MSs (X.tr pn xe) W body fb)
    (hsu : ∀ (a : Addr) (pn : List (Addr × Obj)), MSs (X.suite a pn) xw0 (first :: more) fs) (hi : X.N[i]? = some y := by rfl) (hy : X.env.kindOf y = some .local := by rfl) (hg : Gl X "SettingsError" := by rfl)
    (hs : X.stack = X.env :: X.outer := by rfl) (hl : X.env.frame = some X.env.locals := by rfl) (hx : X.ex = [] := by rfl) :
    MS X xw (.Try body [.ExceptHandler (some (.Name "SettingsError" p1)) (some y) (first :: more) p2] [] [] p3) (sTry xs i fb fs) :=
  let ⟨_, _, t⟩ := T.ex
  ms_try C t i hb hsu hi hy hg hs hl hx
theorem mx_is {x : Str} (T : XT X.K X.mg xs) (ha : ME X xw a fa) (hm : X.mg "isinstance" = none) (hx : x ∈ xs := by decide) (hg : Gl X "isinstance" := by rfl) (hgx : Gl X x := by rfl) (hdb : (x == ("__debug__" : Str)) = false := by decide)
    (he : starEach [a, .Name x p2] X.env = (false, eval a X.env) :: starEach [.Name x p2] X.env := by rfl) (hpl : (backTo pos (starEach [.Name x p2] X.env)).any (·.1) = false := by rfl) (he2 : starEach [.Name x p2] X.env = (false, eval (.Name x p2) X.env) :: starEach [] X.env := by rfl) :
    ME X xw (.Call (.Name "isinstance" p1) [a, .Name x p2] [] pos) (sIsX xs (.own x) fa) :=
  let ⟨_, _, t⟩ := T.ex
  me_isX t hx ha hm hg hgx hdb he hpl he2
theorem mx_isS (T : XT X.K X.mg xs) (ha : ME X xw a fa) (hm : X.mg "isinstance" = none) (hg : Gl X "isinstance" := by rfl) (hgx : Gl X "SettingsError" := by rfl)
    (he : starEach [a, .Name "SettingsError" p2] X.env = (false, eval a X.env) :: starEach [.Name "SettingsError" p2] X.env := by rfl) (hpl : (backTo pos (starEach [.Name "SettingsError" p2] X.env)).any (·.1) = false := by rfl) (he2 : starEach [.Name "SettingsError" p2] X.env = (false, eval (.Name "SettingsError" p2) X.env) :: starEach [] X.env := by rfl) :
    ME X xw (.Call (.Name "isinstance" p1) [a, .Name "SettingsError" p2] [] pos) (sIsX xs .base fa) :=
  let ⟨_, _, t⟩ := T.ex
  me_isXS t ha hm hg hgx he hpl he2
theorem mx_isV (T : XT X.K X.mg xs) (ha : ME X xw a fa) (hm : X.mg "isinstance" = none) (hmv : X.mg "ValueError" = none) (hg : Gl X "isinstance" := by rfl) (hgx : Gl X "ValueError" := by rfl)
    (he : starEach [a, .Name "ValueError" p2] X.env = (false, eval a X.env) :: starEach [.Name "ValueError" p2] X.env := by rfl) (hpl : (backTo pos (starEach [.Name "ValueError" p2] X.env)).any (·.1) = false := by rfl) (he2 : starEach [.Name "ValueError" p2] X.env = (false, eval (.Name "ValueError" p2) X.env) :: starEach [] X.env := by rfl) :
    ME X xw (.Call (.Name "isinstance" p1) [a, .Name "ValueError" p2] [] pos) (sIsX xs .ve fa) :=
  let ⟨_, _, t⟩ := T.ex
  me_isXV t ha hm hmv hg hgx he hpl he2
end
/-- for the end: one class by what the written part says -/
theorem xcls_mk {K : PySem.W.Frag} {mg : Str → Option Value} {h : Heap} (X : K.In h) (G : h.Ns mainGlobals mg) {x : Str} {C S : Addr} {e : ClassData} (a : PySem.W.nsIn K mainGlobals x = some (some (.ref C))) (m : PySem.W.clsIn K C = some e) (r : e.mro = .ref C :: .ref S :: veMro)
    (d : e.hasDict = true) (ty : PySem.W.typeIn K (.ref C) = some (.type "type")) (kp : PySem.W.keepIn K (.ref C) = true) (gg : PySem.W.findIn K (.ref C) "__getattribute__" = some (some (.builtin "BaseException.__getattribute__"))) (gk : PySem.W.findIn K (.ref C) "__getattr__" = some none)
    (gc : PySem.W.findIn K (.ref C) "__class__" = some (some (.builtin "object.__class__"))) : XCls K mg x C S := ⟨a, PySem.W.mg_of X G a, ⟨e, m, r, d⟩, ty, kp, gg, gk, gc⟩
end Y
namespace Y
open PySem PySem.Spec PyProof.Rows L2

/-! ### enumerate of a tuple -/
def encl (it : Addr) : Obj := { cls := .type "enumerate", data := .fields #[.none, .bool false, .ref it, rawInt 0, .none, .none] }
theorem enumT_new {t : Addr} {items : Array Value} {o : Obj} (B : Begins (.ref t) o fun h => h.IsTuple t items) :
    Meets (Builtin.«enumerate.__new__» ⟨[.type "enumerate", .ref t], []⟩) (fun _ R s => s.heap.IsTuple t items ∧
      R (.ok (.ret (.ref (s.heap.push o).objs.size))) { s with heap := (s.heap.push o).push (encl s.heap.objs.size) }) :=
  .of_wp fun prog w A R s h => by
    obtain ⟨hp, g, d, tk, os⟩ := s
    obtain ⟨h1, h⟩ := h
    have hsub := sub_enumerate
    have q1 : ∀ {A' : Around} {E : Value → Shared → Prop} {Q : Value → Shared → Prop}, Q (.ref hp.objs.size) ⟨hp.push o, g, d, tk, os⟩ → wpAny (model prog w) A' (pyIter (.ref t)) Q E ⟨hp, g, d, tk, os⟩ :=
      fun q => B.iter prog w _ _ ⟨hp, g, d, tk, os⟩ _ h1 q
    wp_walk using q1
    refine wpAny_stack_any fun st => wpAny_pure ?_
    split
    · rename_i c _ _ _ _ _
      cases (c == Value.type "enumerate")
      · wp_walk using q1
        exact ⟨_, rfl, h⟩
      · wp_walk using q1
        exact ⟨_, rfl, h⟩
    · wp_walk using q1
      exact ⟨_, rfl, h⟩
section
variable {prog : Program} {w : World} {A : Around} {E : Value → Shared → Prop} {s : Shared}
theorem call_enumT {t : Addr} {items : Array Value} {Q : Value → Shared → Prop} (ht : s.heap.IsTuple t items)
    (h : ∀ h', IsEnum h' (s.heap.objs.size + 1) s.heap.objs.size 0 .none → h'.IsTupleIter s.heap.objs.size t 0 →
      (∀ b o, s.heap.get? b = some o → h'.get? b = some o) → Q (.ref (s.heap.objs.size + 1)) { s with heap := h' }) :
    wpAny (model prog w) A (call (.type "enumerate") [.ref t]) Q E s := by
  refine callType_new F.called_enumerate (by decide) (F.typeCall_enumerate_1 _) (F.newCall_enumerate_1 _) (fun obj => F.args_object_init_2 obj _) F.entry_enumerate_new
    (enumT_new (begins_tuple t items)) ⟨ht, ?_⟩
  have hz : (s.heap.push { cls := .type "tuple_iterator", data := .fields #[.ref t, .int 0 0] }).objs.size = s.heap.objs.size + 1 := Heap.size_push ..
  show _ ∧ _
  rw [hz]
  have he := Heap.get?_push_size (s.heap.push { cls := .type "tuple_iterator", data := .fields #[.ref t, .int 0 0] }) (o := encl s.heap.objs.size) rfl
  rw [hz] at he
  refine ⟨⟨_, he, rfl⟩, h _ he ⟨_, Heap.get?_push_of_some _ (Heap.get?_push_size _ rfl), rfl, rfl⟩ fun b o x => Heap.get?_push_of_some _ (Heap.get?_push_of_some _ x)⟩
end
/-- the tuple at a, each item in a new pair -/
def IteT (K : PySem.W.Frag) (a : Addr) : It :=
  ⟨fun i H => ∃ (xs : List V) (x : V), SqT K H a xs ∧ xs[i]? = some x, fun i H v H' => ∃ T x, v = .ref T ∧ H T = none ∧ H' = L2.upd H T (.tup [.int (i : Nat), x]) ∧ ∀ xs, SqT K H a xs → xs[i]? = some x, fun i H => ∃ xs : List V, SqT K H a xs ∧ xs.length = i⟩
theorem turn_enumT {P : Program} {w : World} {K : PySem.W.Frag} {elts : List Expr} {kk : Nat} {tpos : Pos} {a N : Addr} : Turn P w K (.Tuple elts kk tpos) (IteT K a) [N + 1, N] (N + 1)
    (fun i h => (∃ old, IsEnum h (N + 1) N (0 + (i : Int)) old) ∧ h.IsTupleIter N a i ∧ a ≠ N ∧ a ≠ N + 1) where
  mem := by simp
  obj := fun i h st b hb => by
    obtain ⟨⟨old, he⟩, h4, _⟩ := st
    have e' : b = N + 1 ∨ b = N := by simpa using hb
    rcases e' with z | z
    · rw [z]; exact ⟨_, he, fun v q => nomatch q⟩
    · rw [z]; obtain ⟨o, e, c, d⟩ := h4; exact ⟨o, e, fun v q => by rw [d] at q; cases q⟩
  keep := fun i h h' st k => by
    obtain ⟨⟨old, he⟩, h4, n1, n2⟩ := st
    exact ⟨⟨old, k _ (by simp) _ he⟩, h4.at fun o e => k N (by simp) o e, n1, n2⟩
  item := by
    intro X hP hw hK hc i pins s σ H E I hf st hg
    subst hP hw hK
    have hh := I.ok.hd hc
    obtain ⟨xs, x, hq, hx⟩ := hg
    obtain ⟨its, rv, p, hz⟩ := I.tuple hq
    obtain ⟨u, hu, ru⟩ := rv.get hx
    obtain ⟨he, hit, n1, n2⟩ := st
    have D1 := Draws.tuple (prog := X.prog) (w := X.w) (A := X.A.in1) hh N a n1 its.toArray
    have G := GoesN.enumFrom (elts := elts) (x1 := kk) (pos := tpos) 0 D1 (N + 1) (Nat.succ_ne_self _) (by simp [Ne.symm n2]) (by simp)
    have hi : i < its.toArray.size := by have := (List.getElem?_eq_some_iff.mp hu).1; simpa using this
    refine G.goes i s (fun u' s2 => ∃ x' H', Inv X pins σ H' s2 ∧ RelV x' u' ∧ (IteT X.K a).yld i H x' H' ∧ _ ∧ ∀ b ∈ [N + 1, N], H' b = none) E hi ⟨he, hit, p⟩ fun v h' tk hY st' hk htk => ?_
    obtain ⟨T, u1, y, rfl, hT, hy, hTup⟩ := hY
    have hyu : y = u := by
      have : its.toArray[i]? = some u := by simpa using hu
      rw [this] at hy
      exact (Option.some.inj hy).symm
    subst hyu
    have new : ObjOk X.prog X.w (L2.upd H T (.tup [.int (i : Nat), x])) h' T (.tup [.int (i : Nat), x]) :=
      ⟨by show 2 ≤ sizeLine; decide, [.int (0 + (i : Int)) u1, y], .cons ⟨u1, by rw [Int.zero_add]⟩ (.cons ru .nil), isTup2 hTup⟩
    have I1 := I.turnedNew (t' := tk) (ch := [N + 1, N]) hk hf hT new
    refine ⟨.ref T, _, I1, rfl, ⟨T, x, rfl, I.hok.fresh hT, rfl, fun ys hys => by rw [I.tuple_inj hys hq]; exact hx⟩, ⟨st'.1, st'.2.1, n1, n2⟩, fun b hb => ?_⟩
    rw [upd_ne]
    · exact (hf b hb).1
    · intro z
      subst z
      obtain ⟨old, he⟩ := he
      obtain ⟨o4, e4, c4, d4⟩ := hit
      have e' : b = N + 1 ∨ b = N := by simpa using hb
      have hlt : b < s.heap.objs.size := by
        rcases e' with z | z
        · rw [z]; exact Heap.lt_size he
        · rw [z]; exact Heap.lt_size e4
      exact absurd (Nat.lt_of_lt_of_le hlt hT) (Nat.lt_irrefl _)
  done := by
    intro X hP hw hK hc i pins s σ H E I hf st hg
    subst hP hw hK
    have hh := I.ok.hd hc
    obtain ⟨xs, hq, hx⟩ := hg
    obtain ⟨its, rv, p, hz⟩ := I.tuple hq
    have hl := rv.length
    obtain ⟨he, hit, n1, n2⟩ := st
    have D1 := Draws.tuple (prog := X.prog) (w := X.w) (A := X.A.in1) hh N a n1 its.toArray
    have G := GoesN.enumFrom (elts := elts) (x1 := kk) (pos := tpos) 0 D1 (N + 1) (Nat.succ_ne_self _) (by simp [Ne.symm n2]) (by simp)
    have hi : i = its.toArray.size := by simp; omega
    subst hi
    exact G.stops s (fun s1 => Inv X pins σ H s1) E ⟨he, hit, p⟩ fun h' tk hk htk => I.turnedL (t' := tk) (ch := [N + 1, N]) hk hf
  self := fun A i s Q E st h => by
    obtain ⟨⟨old, he⟩, _⟩ := st
    exact wpAny_pyIter_enum he h
section
variable {X : Cx} {e : Expr} {ta : TA} {p pos tpos : Pos} {elts : List Expr} {kk : Nat}
theorem pi_enumT (hg : Gl X "enumerate") (hm : X.mg "enumerate" = none) (ha : PA X [e] ta) (hs : starEach [e] X.env = [(false, eval e X.env)] := by rfl) :
    PI X (.Tuple elts kk tpos) (.Call (.Name "enumerate" p) [e] [] pos) fun σ H R => ta σ H fun vs H1 => ∃ a xs, vs = [.ref a] ∧ SqT X.K H1 a xs ∧ R (IteT X.K a) H1 := by
  refine ⟨fun pins s σ H R I h => ?_⟩
  refine Call_ (ld_blt I hg hm boot_enumerate (PyProof.Rows.callWith_type1 (thn (ha.run pos pins s σ H _ I h) fun us s1 ⟨vs, H1, I1, r1, q1⟩ => ?_) hs rfl))
  obtain ⟨a, xs, ex, hq, q⟩ := q1
  subst ex
  cases r1 with
  | cons r rr =>
    cases rr
    cases r
    obtain ⟨its, rv, p', hz⟩ := I1.tuple hq
    obtain ⟨o1, ho1, _⟩ := id p'
    have hlt : a < s1.heap.objs.size := Heap.lt_size ho1
    refine call_enumT p' fun h' he hit hk => wpAny_pyIter_enum he ?_
    have I2 : Inv X pins σ H1 { s1 with heap := h' } := I1.kept (t' := s1.toks) hk
    refine ⟨s1.heap.objs.size + 1, [s1.heap.objs.size + 1, s1.heap.objs.size], _, _, H1, rfl, I2, turn_enumT (a := a), ⟨⟨.none, he⟩, hit, Nat.ne_of_lt hlt, Nat.ne_of_lt (Nat.lt_succ_of_lt hlt)⟩, fun b hb => ?_, q⟩
    have e' : b = s1.heap.objs.size + 1 ∨ b = s1.heap.objs.size := by simpa using hb
    have hle : s1.heap.objs.size ≤ b := by
      rcases e' with z | z
      · rw [z]; exact Nat.le_add_right _ _
      · rw [z]; exact Nat.le_refl _
    exact I1.fpOk hle (I1.hok.fresh hle)
end
end Y
namespace Y
open PySem PySem.Spec PyProof.Rows L2

/-! ### zip of two lists or of two tuples -/
theorem prs_len {xs ys : List PyData} : (prs xs ys).length = min xs.length ys.length := by
  unfold prs
  rw [List.length_map, List.length_zip]
theorem itok_zipL {K : PySem.W.Frag} {F : Hp} {a b : Addr} {xs ys : List V} {ds es : List PyData} (h1 : F a = some (.lst xs)) (d1 : DqAll K F xs ds) (h2 : F b = some (.lst ys)) (d2 : DqAll K F ys es) : ItOk K F (Itz K a b) (prs ds es) := by
  have l1 := d1.length
  have l2 := d2.length
  refine ⟨fun i H hi s => ?_, fun H s => ?_, fun i d F' H v H' e s1 s2 hy => ?_⟩
  · rw [prs_len] at hi
    have i1 : i < xs.length := by omega
    have i2 : i < ys.length := by omega
    exact ⟨xs, ys, xs[i], ys[i], .of (s _ _ h1), .of (s _ _ h2), List.getElem?_eq_getElem i1, List.getElem?_eq_getElem i2⟩
  · rw [prs_len]
    exact ⟨xs, ys, .of (s _ _ h1), .of (s _ _ h2), by omega⟩
  · obtain ⟨T, x, y, rfl, hT, rfl, q1, q2⟩ := hy
    obtain ⟨x', y', e1, e2, rfl⟩ := prs_get e
    have r1 := q1 xs (.of (s2 _ _ (s1 _ _ h1)))
    have r2 := q2 ys (.of (s2 _ _ (s1 _ _ h2)))
    obtain ⟨u, f1, f2⟩ := d1.get e1
    obtain ⟨u', f3, f4⟩ := d2.get e2
    rw [r1] at f1
    rw [r2] at f3
    cases f1
    cases f3
    have hs : Sub F (L2.upd F' T (.tup [x, y])) := s1.trans (Sub.upd (s2.none hT))
    exact ⟨_, Lay.new1 s2 hT, .tup (.of upd_same) (.cons (Dq.sub hs f2) (.cons (Dq.sub hs f4) .nil))⟩
theorem itok_zipT {K : PySem.W.Frag} {F : Hp} {a b : Addr} {xs ys : List V} {ds es : List PyData} (h1 : TqT K F a xs) (d1 : DqAll K F xs ds) (h2 : TqT K F b ys) (d2 : DqAll K F ys es) : ItOk K F (RZ.ItzT K a b) (prs ds es) := by
  have l1 := d1.length
  have l2 := d2.length
  refine ⟨fun i H hi s => ?_, fun H s => ?_, fun i d F' H v H' e s1 s2 hy => ?_⟩
  · rw [prs_len] at hi
    have i1 : i < xs.length := by omega
    have i2 : i < ys.length := by omega
    exact ⟨xs, ys, xs[i], ys[i], TqT.up s h1, TqT.up s h2, List.getElem?_eq_getElem i1, List.getElem?_eq_getElem i2⟩
  · rw [prs_len]
    exact ⟨xs, ys, TqT.up s h1, TqT.up s h2, by omega⟩
  · obtain ⟨T, x, y, rfl, hT, rfl, q1, q2⟩ := hy
    obtain ⟨x', y', e1, e2, rfl⟩ := prs_get e
    have r1 := q1 xs (TqT.up (s1.trans s2) h1)
    have r2 := q2 ys (TqT.up (s1.trans s2) h2)
    obtain ⟨u, f1, f2⟩ := d1.get e1
    obtain ⟨u', f3, f4⟩ := d2.get e2
    rw [r1] at f1
    rw [r2] at f3
    cases f1
    cases f3
    have hs : Sub F (L2.upd F' T (.tup [x, y])) := s1.trans (Sub.upd (s2.none hT))
    exact ⟨_, Lay.new1 s2 hT, .tup (.of upd_same) (.cons (Dq.sub hs f2) (.cons (Dq.sub hs f4) .nil))⟩
def asZL : List W → List MO → Res (List PyData)
  | [.d (.list x), .d (.list y)], M => .ok (prs x y) M
  | [.d (.tuple x), .d (.tuple y)], M => .ok (prs x y) M
  | _, _ => .stuck
def itZL (fs : List EF) : IF := fun ρ M => (evs fs ρ M).bind asZL
section
variable {X : Cx} {xw : WX} {k : Nat} {pos p : Pos}
theorem mi_zipL {e e2 : Expr} {tpos : Pos} {elts : List Expr} {kk : Nat} {fs : List EF} (C : Ctx X k xw) (ha : MA X xw [e, e2] fs) (hm : X.mg "zip" = none) (hg : Gl X "zip" := by rfl)
    (hs : starEach [e, e2] X.env = (false, eval e X.env) :: starEach [e2] X.env := by rfl) (hpl : (backTo pos (starEach [e2] X.env)).any (·.1) = false := by rfl) :
    MI X xw (.Tuple elts kk tpos) (.Call (.Name "zip" p) [e, e2] [] pos) (itZL fs) :=
  PI.imp (RZ.pi_zipA hg hm ha hs hpl) fun σ H R h => tG_mono (tG_bind (R2 := RWs X.K) h) fun vs H1 ⟨g, ρ, M, ws, R1, S, r, b⟩ => by
    unfold asZL at b
    split at b
    · rename_i x y
      cases r with
      | cons r1 t =>
        cases t with
        | cons r2 t =>
          cases t
          cases r1 with
          | d r1 =>
            cases r2 with
            | d r2 =>
              cases r1 with
              | lst h1 d1 =>
                cases r2 with
                | lst h2 d2 => exact ⟨_, _, _, _, rfl, .inl ⟨.of (R1.sub _ _ h1), .of (R1.sub _ _ h2), b _ g H1 R1 (Ext.refl _ _) (itok_zipL h1 d1 h2 d2)⟩⟩
    · rename_i x y
      cases r with
      | cons r1 t =>
        cases t with
        | cons r2 t =>
          cases t
          cases r1 with
          | d r1 =>
            cases r2 with
            | d r2 =>
              cases r1 with
              | tup h1 d1 =>
                cases r2 with
                | tup h2 d2 => exact ⟨_, _, _, _, rfl, .inr ⟨TqT.up R1.sub h1, TqT.up R1.sub h2, b _ g H1 R1 (Ext.refl _ _) (itok_zipT h1 d1 h2 d2)⟩⟩
    · exact b.elim
/-! ### enumerate -/
theorem enu_get {ds : List PyData} {i : Nat} {d : PyData} (e : (enu ds)[i]? = some d) : ∃ x, ds[i]? = some x ∧ d = .tuple [.int (i : Nat), x] := by
  obtain ⟨a, b, e1, e2, rfl⟩ := prs_get (show (prs (rng 0 ds.length) ds)[i]? = some d from e)
  unfold rng at e1
  rw [List.getElem?_map] at e1
  have hi : i < ds.length := (List.getElem?_eq_some_iff.mp e2).1
  rw [List.getElem?_range hi] at e1
  cases e1
  exact ⟨b, e2, by simp⟩
theorem enu_len {ds : List PyData} : (enu ds).length = ds.length := by
  unfold enu
  rw [prs_len, rng_len, Nat.min_self]
theorem itok_enumL {K : PySem.W.Frag} {F : Hp} {a : Addr} {xs : List V} {ds : List PyData} (h1 : F a = some (.lst xs)) (d1 : DqAll K F xs ds) : ItOk K F (Ite K a) (enu ds) := by
  have l1 := d1.length
  refine ⟨fun i H hi s => ?_, fun H s => ?_, fun i d F' H v H' e s1 s2 hy => ?_⟩
  · rw [enu_len] at hi
    have i1 : i < xs.length := by omega
    exact ⟨xs, xs[i], .of (s _ _ h1), List.getElem?_eq_getElem i1⟩
  · rw [enu_len]
    exact ⟨xs, .of (s _ _ h1), by omega⟩
  · obtain ⟨T, x, rfl, hT, rfl, q1⟩ := hy
    obtain ⟨x', e1, rfl⟩ := enu_get e
    have r1 := q1 xs (.of (s2 _ _ (s1 _ _ h1)))
    obtain ⟨u, f1, f2⟩ := d1.get e1
    rw [r1] at f1
    cases f1
    have hs : Sub F (L2.upd F' T (.tup [.int (i : Nat), x])) := s1.trans (Sub.upd (s2.none hT))
    exact ⟨_, Lay.new1 s2 hT, .tup (.of upd_same) (.cons (.int _) (.cons (Dq.sub hs f2) .nil))⟩
theorem itok_enumT {K : PySem.W.Frag} {F : Hp} {a : Addr} {xs : List V} {ds : List PyData} (h1 : TqT K F a xs) (d1 : DqAll K F xs ds) : ItOk K F (IteT K a) (enu ds) := by
  have l1 := d1.length
  refine ⟨fun i H hi s => ?_, fun H s => ?_, fun i d F' H v H' e s1 s2 hy => ?_⟩
  · rw [enu_len] at hi
    have i1 : i < xs.length := by omega
    exact ⟨xs, xs[i], TqT.up s h1, List.getElem?_eq_getElem i1⟩
  · rw [enu_len]
    exact ⟨xs, TqT.up s h1, by omega⟩
  · obtain ⟨T, x, rfl, hT, rfl, q1⟩ := hy
    obtain ⟨x', e1, rfl⟩ := enu_get e
    have r1 := q1 xs (TqT.up (s1.trans s2) h1)
    obtain ⟨u, f1, f2⟩ := d1.get e1
    rw [r1] at f1
    cases f1
    have hs : Sub F (L2.upd F' T (.tup [.int (i : Nat), x])) := s1.trans (Sub.upd (s2.none hT))
    exact ⟨_, Lay.new1 s2 hT, .tup (.of upd_same) (.cons (.int _) (.cons (Dq.sub hs f2) .nil))⟩
theorem pi_enumA {X : Cx} {e : Expr} {ta : TA} {p pos tpos : Pos} {elts : List Expr} {kk : Nat} (hg : Gl X "enumerate") (hm : X.mg "enumerate" = none) (ha : PA X [e] ta) (hs : starEach [e] X.env = [(false, eval e X.env)] := by rfl) :
    PI X (.Tuple elts kk tpos) (.Call (.Name "enumerate" p) [e] [] pos) fun σ H R => ta σ H fun vs H1 => (∃ a xs, vs = [.ref a] ∧ SqL X.K H1 a xs ∧ R (Ite X.K a) H1) ∨ ∃ a xs, vs = [.ref a] ∧ SqT X.K H1 a xs ∧ R (IteT X.K a) H1 := by
  refine ⟨fun pins s σ H R I h => ?_⟩
  refine Call_ (ld_blt I hg hm boot_enumerate (PyProof.Rows.callWith_type1 (thn (ha.run pos pins s σ H _ I h) fun us s1 ⟨vs, H1, I1, r1, q1⟩ => ?_) hs rfl))
  rcases q1 with ⟨a, xs, ex, hq, q⟩ | ⟨a, xs, ex, hq, q⟩
  · subst ex
    cases r1 with
    | cons r rr =>
      cases rr
      cases r
      obtain ⟨its, rv, p', hz⟩ := I1.list hq
      refine call_enumerate_list p'.isList fun h' he hit hsz hk => wpAny_pyIter_enum he ?_
      have I2 : Inv X pins σ H1 { s1 with heap := h' } := I1.kept (t' := s1.toks) hk
      refine ⟨s1.heap.objs.size + 1, [s1.heap.objs.size + 1, s1.heap.objs.size], _, _, H1, rfl, I2, turn_enum a (s1.heap.objs.size + 1) s1.heap.objs.size, ⟨⟨.none, he⟩, hit, Nat.succ_ne_self _⟩, fun b hb => ?_, q⟩
      have e' : b = s1.heap.objs.size + 1 ∨ b = s1.heap.objs.size := by simpa using hb
      have hle : s1.heap.objs.size ≤ b := by
        rcases e' with z | z
        · rw [z]; exact Nat.le_add_right _ _
        · rw [z]; exact Nat.le_refl _
      exact I1.fpOk hle (I1.hok.fresh hle)
  · subst ex
    cases r1 with
    | cons r rr =>
      cases rr
      cases r
      obtain ⟨its, rv, p', hz⟩ := I1.tuple hq
      obtain ⟨o1, ho1, _⟩ := id p'
      have hlt : a < s1.heap.objs.size := Heap.lt_size ho1
      refine call_enumT p' fun h' he hit hk => wpAny_pyIter_enum he ?_
      have I2 : Inv X pins σ H1 { s1 with heap := h' } := I1.kept (t' := s1.toks) hk
      refine ⟨s1.heap.objs.size + 1, [s1.heap.objs.size + 1, s1.heap.objs.size], _, _, H1, rfl, I2, turn_enumT (a := a), ⟨⟨.none, he⟩, hit, Nat.ne_of_lt hlt, Nat.ne_of_lt (Nat.lt_succ_of_lt hlt)⟩, fun b hb => ?_, q⟩
      have e' : b = s1.heap.objs.size + 1 ∨ b = s1.heap.objs.size := by simpa using hb
      have hle : s1.heap.objs.size ≤ b := by
        rcases e' with z | z
        · rw [z]; exact Nat.le_add_right _ _
        · rw [z]; exact Nat.le_refl _
      exact I1.fpOk hle (I1.hok.fresh hle)
def asEL : List W → List MO → Res (List PyData)
  | [.d (.list x)], M => .ok (enu x) M
  | [.d (.tuple x)], M => .ok (enu x) M
  | _, _ => .stuck
def itEL (fs : List EF) : IF := fun ρ M => (evs fs ρ M).bind asEL
theorem mi_enumL {e : Expr} {tpos : Pos} {elts : List Expr} {kk : Nat} {fs : List EF} (C : Ctx X k xw) (ha : MA X xw [e] fs) (hm : X.mg "enumerate" = none) (hg : Gl X "enumerate" := by rfl) (hs : starEach [e] X.env = [(false, eval e X.env)] := by rfl) :
    MI X xw (.Tuple elts kk tpos) (.Call (.Name "enumerate" p) [e] [] pos) (itEL fs) :=
  PI.imp (pi_enumA hg hm ha hs) fun σ H R h => tG_mono (tG_bind (R2 := RWs X.K) h) fun vs H1 ⟨g, ρ, M, ws, R1, S, r, b⟩ => by
    unfold asEL at b
    split at b
    · rename_i x
      cases r with
      | cons r1 t =>
        cases t
        cases r1 with
        | d r1 =>
          cases r1 with
          | lst h1 d1 => exact .inl ⟨_, _, rfl, .of (R1.sub _ _ h1), b _ g H1 R1 (Ext.refl _ _) (itok_enumL h1 d1)⟩
    · rename_i x
      cases r with
      | cons r1 t =>
        cases t
        cases r1 with
        | d r1 =>
          cases r1 with
          | tup h1 d1 => exact .inr ⟨_, _, rfl, TqT.up R1.sub h1, b _ g H1 R1 (Ext.refl _ _) (itok_enumT h1 d1)⟩
    · exact b.elim
def asES : List W → List MO → Res (List PyData)
  | [.d (.str x)], M => .ok (enu (chs x)) M
  | _, _ => .stuck
def itES (fs : List EF) : IF := fun ρ M => (evs fs ρ M).bind asES
theorem mi_enumS {e : Expr} {tpos : Pos} {elts : List Expr} {kk : Nat} {fs : List EF} (C : Ctx X k xw) (ha : MA X xw [e] fs) (hm : X.mg "enumerate" = none) (hg : Gl X "enumerate" := by rfl) (hs : starEach [e] X.env = [(false, eval e X.env)] := by rfl) :
    MI X xw (.Tuple elts kk tpos) (.Call (.Name "enumerate" p) [e] [] pos) (itES fs) :=
  PI.imp (pi_enumS hg hm ha hs) fun σ H R h => tG_mono (tG_bind (R2 := RWs X.K) h) fun vs H1 ⟨g, ρ, M, ws, R1, S, r, b⟩ => by
    unfold asES at b
    split at b
    · rename_i x
      cases r with
      | cons r1 t =>
        cases t
        cases r1 with
        | d r1 =>
          cases r1
          refine ⟨x, rfl, b _ g H1 R1 (Ext.refl _ _) (itok_pairs (by rw [enu_len, chs_len]) fun i d e => ?_)⟩
          obtain ⟨y, e1, rfl⟩ := enu_get e
          obtain ⟨c, h1, rfl⟩ := chs_get e1
          refine ⟨.int (i : Nat), .str ⟨#[c]⟩, _, _, ?_, rfl, fun _ _ => ⟨.int _, .str _⟩⟩
          unfold eps
          rw [h1]
    · exact b.elim
end
end Y
namespace Y
open PySem PySem.Spec PyProof.Rows L2

/-! ### count and index of a list -/
def rCountD (K : PySem.W.Frag) : V → List V → Hp → VK → Prop := fun x xs H Q => ∃ (a : Addr) (y : V) (d : PyData) (ds : List PyData), x = V.ref a ∧ xs = [y] ∧ Dp K H (V.ref a) (.list ds) ∧ Dp K H y d ∧ SeqAt.shaped (.list ds) = true ∧ SeqAt.shaped d = true ∧
  Q (.int ((ds.countP fun z => PyData.eqv z d : Nat) : Int)) H
section
variable {X : Cx}
theorem mt_countD (hu : X.A.units + 65 < cLine) : MtR X "list.count" (rCountD X.K) := by
  intro pins s σ H x xs v us Q I rx rxs h
  obtain ⟨a, y, d, ds, rfl, rfl, hl, hy, sl, sd, q⟩ := h
  cases rx
  cases rxs with
  | cons ry rt =>
    rename_i uy ut
    cases rt
    obtain ⟨bs, r1⟩ := Dp.reads I d y uy hy ry
    cases hl with
    | lst hs ha =>
      obtain ⟨its, rv, ho, hlen⟩ := I.list hs
      obtain ⟨as, h4⟩ := Dp.readsAll I ds _ its ha rv
      refine SeqAt.count_list_data (vs := its.toArray) (show s.heap.IsList a its.toArray from ho.isList) (by simpa using h4) r1 (PyData.plainAll_of_canLay0 _ (SeqAt.canLay_of_shaped sl)) (PyData.plain_of_canLay0 _ (SeqAt.canLay_of_shaped sd)) (room_in_shaped sd hu) ?_
      exact ⟨.int _, H, I.tok _, ⟨_, rfl⟩, q⟩
variable {xw : WX} {a o : Expr} {fa fb : EF} {apos cpos : Pos} {k : Nat}
def pCountL : DPr
  | [.list ds, d] => if SeqAt.shaped (.list ds) = true ∧ SeqAt.shaped d = true then some (.int ((ds.countP fun z => PyData.eqv z d : Nat) : Int)) else none
  | _ => none
theorem me_countL (C : Ctx X k xw) (ho : ME X xw o fa) (ha : MA X xw [a] [fb])
    (hbase : attributeBase o "count" X.env (eval o X.env) = eval o X.env := by rfl)
    (hfew : ((backTo cpos (starEach [a] X.env)).all (fun x => !x.1) && (backToKw cpos (keywordEach [] X.env)).all (fun x => x.1.isSome)
      && decide ([a].length + ([] : List Keyword).length + (if ([] : List Keyword).isEmpty then 0 else 1) < 30)) = true := by rfl)
    (hline : (apos.endLine == cpos.line) = true := by rfl) (hs : starEach [a] X.env = (false, eval a X.env) :: starEach [] X.env := by rfl) : ME X xw (.Call (.Attribute o "count" apos) [a] [] cpos) (sMeth .list (dpr pCountL) fa [fb]) := by
  refine me_meth .list F.plainAttrs_list F.slot_list_count F.type_list_count (mt_countD (ctx_u C)) (dprM fun F H v vs x xs z Q s d ds e k => ?_) ho ha hbase hfew hline hs
  unfold pCountL at e
  split at e
  · rename_i l y q
    cases q
    split at e
    · rename_i hc
      cases e
      obtain ⟨u, rfl, du⟩ := ds.one
      obtain ⟨p, ys, rfl, h1, h2⟩ := d.lst s
      exact ⟨p, u, _, _, rfl, rfl, d.dp s, du.dp s, hc.1, hc.2, kq s k (.int _)⟩
    · cases e
  · cases e
def findJ (ds : List PyData) (d : PyData) : Option Nat := ds.findIdx? fun z => PyData.eqv z d
def pIndexL : DPr
  | [.list ds, d] => if SeqAt.shaped (.list ds) = true ∧ SeqAt.shaped d = true then (findJ ds d).map fun j => .int (j : Nat) else none
  | _ => none
theorem me_indexL (C : Ctx X k xw) (ho : ME X xw o fa) (ha : MA X xw [a] [fb])
    (hbase : attributeBase o "index" X.env (eval o X.env) = eval o X.env := by rfl)
    (hfew : ((backTo cpos (starEach [a] X.env)).all (fun x => !x.1) && (backToKw cpos (keywordEach [] X.env)).all (fun x => x.1.isSome)
      && decide ([a].length + ([] : List Keyword).length + (if ([] : List Keyword).isEmpty then 0 else 1) < 30)) = true := by rfl)
    (hline : (apos.endLine == cpos.line) = true := by rfl) (hs : starEach [a] X.env = (false, eval a X.env) :: starEach [] X.env := by rfl) : ME X xw (.Call (.Attribute o "index" apos) [a] [] cpos) (sMeth .list (dpr pIndexL) fa [fb]) := by
  refine me_meth .list F.plainAttrs_list F.slot_list_index F.type_list_index (mt_indexD (ctx_u C)) (dprM fun F H v vs x xs z Q s d ds e k => ?_) ho ha hbase hfew hline hs
  unfold pIndexL at e
  split at e
  · rename_i l y q
    cases q
    split at e
    · rename_i hc
      cases ej : findJ l y with
      | none => rw [ej] at e; cases e
      | some j =>
        rw [ej] at e
        cases e
        obtain ⟨u, rfl, du⟩ := ds.one
        obtain ⟨p, ys, rfl, h1, h2⟩ := d.lst s
        unfold findJ at ej
        rw [List.findIdx?_eq_some_iff_getElem] at ej
        obtain ⟨hj, e1, e2⟩ := ej
        refine ⟨p, u, _, _, j, l[j], rfl, rfl, d.dp s, du.dp s, hc.1, hc.2, List.getElem?_eq_getElem hj, e1, fun m z' hm hz => ?_, kq s k (.int _)⟩
        obtain ⟨hm', rfl⟩ := List.getElem?_eq_some_iff.mp hz
        have := e2 m hm
        simpa using this
    · cases e
  · cases e
end
end Y
namespace Y
open PySem PySem.Spec PyProof.Rows L2

/-! ### a + b that may grow -/
def pAddLive : Pr := fun ws M => match vws M ws with
  | some [.list a, .list b] => if a.length + b.length ≤ sizeLine then some (.loc M.length, M ++ [.lst (a ++ b)]) else none
  | _ => none
theorem addLive_ok (K : PySem.W.Frag) : PrOk K pAddLive (r2 rCat) := fun g M H vs ws w M' Q R r e q => by
  unfold pAddLive at e
  split at e
  · rename_i a b h
    split at e
    · rename_i hl
      cases e
      obtain ⟨x, y, rfl, d1, d2⟩ := (vws_ok R r h).two
      obtain ⟨p1, v1, rfl, h1, a1⟩ := d1.lst R.sub
      obtain ⟨p2, v2, rfl, h2, a2⟩ := d2.lst R.sub
      refine ⟨_, _, rfl, p1, p2, v1, v2, rfl, rfl, h1, h2, by rw [a1.length, a2.length]; exact hl, fun p hp => ?_⟩
      obtain ⟨R', E'⟩ := Rel.live R hp (a1.append a2)
      exact q _ _ _ R' E' (.loc (by show (g.ph ++ [p])[M.length]? = some p; rw [List.getElem?_append_right (by rw [R.len]; exact Nat.le_refl _), R.len, Nat.sub_self]; rfl))
    · cases e
  · cases e
section
variable {X : Cx} {xw : WX} {a b o e : Expr} {fa fb fc : EF} {pos apos cpos : Pos} {k : Nat}
theorem me_addLive (ha : ME X xw a fa) (hb : ME X xw b fb) : ME X xw (.BinOp a .Add b pos) (sPr pAddLive [fa, fb]) := me_bin op_cat (addLive_ok _) ha hb
/-! ### x op= e -/
theorem ms_aug {i : Nat} {x : Str} {op : Operator} {ti : TIp} {p : DPr} {pos' : Pos} (ho : OpR X (inplaceOp op) ti) (hp : PrOk X.K (dpr p) (r2 ti)) (hN : X.N.Nodup) (he : ME X xw e fa) (hi : X.N[i]? = some x := by rfl) (hx : Loc X.env.scope x := by first | exact Or.inl rfl | exact Or.inr rfl)
    (hf : X.fn x = true ∨ X.env.scope.names.lookup x = some .local := by first | exact .inl rfl | exact .inr rfl) : MS X xw (.AugAssign (.Name x pos') op e pos) (sSet i (sPr (dpr p) [sV i, fa])) :=
  PS.imp (ps_aug hN hi hx he (fun pins s σ H x y v u Q I r1 r2 h => ho pins s σ H x y v u Q I r1 r2 h) hf) fun D σ H q => by
    have h := prim2 (T := tx X) hp (tG_mono (tS_then q) fun v H1 ⟨g, ρ, M, w, R, S, r, b⟩ => (b (σ.set i (some v)) g H1 R (Ext.refl _ _) (S.set i r) : D.nx (σ.set i (some v)) H1))
    obtain ⟨g, ρ, M, R, S, b⟩ := h
    unfold sV at b
    cases q : ρ[i]? with
    | none => rw [q] at b; exact b.elim
    | some o =>
      cases o with
      | none => rw [q] at b; exact b.elim
      | some w =>
        rw [q] at b
        obtain ⟨v, e, r⟩ := S.at_ i w q
        exact ⟨v, e, tG_mono (b v g H R (Ext.refl _ _) r) fun y H2 ⟨x', y', e', t⟩ => by cases e'; exact t⟩
variable {i : Nat} {x : Str} {pos' : Pos}
def pAugAdd : DPr := pI2 (fun _ _ => true) fun i j => i + j
theorem ms_augAdd (hN : X.N.Nodup) (he : ME X xw e fa) (hi : X.N[i]? = some x := by rfl) (hx : Loc X.env.scope x := by first | exact Or.inl rfl | exact Or.inr rfl)
    (hf : X.fn x = true ∨ X.env.scope.names.lookup x = some .local := by first | exact .inl rfl | exact .inr rfl) : MS X xw (.AugAssign (.Name x pos') .Add e pos) (sSet i (sPr (dpr pAugAdd) [sV i, fa])) := ms_aug (rI_of iop_add) (i2_ok (fun _ _ _ => trivial) _) hN he hi hx hf
theorem ms_augShr (hN : X.N.Nodup) (he : ME X xw e fa) (hi : X.N[i]? = some x := by rfl) (hx : Loc X.env.scope x := by first | exact Or.inl rfl | exact Or.inr rfl)
    (hf : X.fn x = true ∨ X.env.scope.names.lookup x = some .local := by first | exact .inl rfl | exact .inr rfl) : MS X xw (.AugAssign (.Name x pos') .RShift e pos) (sSet i (sPr (dpr pShr) [sV i, fa])) := ms_aug iop_shr (i2_ok (fun _ _ h => of_decide_eq_true h) _) hN he hi hx hf
theorem ms_augXor (hN : X.N.Nodup) (he : ME X xw e fa) (hi : X.N[i]? = some x := by rfl) (hx : Loc X.env.scope x := by first | exact Or.inl rfl | exact Or.inr rfl)
    (hf : X.fn x = true ∨ X.env.scope.names.lookup x = some .local := by first | exact .inl rfl | exact .inr rfl) : MS X xw (.AugAssign (.Name x pos') .BitXor e pos) (sSet i (sPr (dpr pXor) [sV i, fa])) := ms_aug (rI_of iop_xor) (i2_ok (fun _ _ _ => trivial) _) hN he hi hx hf
/-! ### while -/
def sWhile (c : TF) (body : SF) : Nat → SF
  | 0 => fun _ _ => .stuck
  | n + 1 => fun ρ M => match c ρ M with
    | .ok true M1 => match body ρ M1 with
      | .nx ρ2 M2 => sWhile c body n ρ2 M2
      | .ct ρ2 M2 => sWhile c body n ρ2 M2
      | .bk ρ2 M2 => .nx ρ2 M2
      | r => r
    | .ok false M1 => .nx ρ M1
    | .err e M1 => .er e ρ M1
    | .stuck => .stuck
theorem ms_while {c : Expr} {body : List Stmt} {fc : TF} {fb : SF} (n : Nat) (C : Ctx X k xw) (hc : MT X xw c fc) (hb : MSs X xw body fb) : MS X xw (.While c body [] pos) (sWhile fc fb n) :=
  PS.imp (ps_while C.own hc hb) fun D σ H q => by
    refine ⟨fun m σ H => tS (tx X) xw (sWhile fc fb m) D σ H, ⟨n, q⟩, fun m σ H ⟨g, ρ, M, R, S, b⟩ => ?_⟩
    cases m with
    | zero => exact b.elim
    | succ m =>
      refine ⟨g, ρ, M, R, S, ?_⟩
      unfold sWhile at b
      cases e1 : fc ρ M with
      | stuck => rw [e1] at b; exact b
      | err x M1 => rw [e1] at b; exact fun c d g' H' r' e' q' => b c d σ g' H' r' e' (S.gr e'.gr) q'
      | ok v M1 =>
        rw [e1] at b
        intro v' g' H' R' E' q'
        have q'' : v' = v := q'
        subst q''
        cases v' with
        | false => exact iteF (b σ g' H' R' E' (S.gr E'.gr))
        | true =>
          refine iteT ⟨fun σ' H' => tS (tx X) xw (sWhile fc fb m) D σ' H', fun σ' H' h => ⟨m, Nat.lt_succ_self m, h⟩, g', ρ, M1, R', S.gr E'.gr, ?_⟩
          simp only at b
          cases e2 : fb ρ M1 with
          | nx ρ2 M2 => rw [e2] at b; exact fun σ3 g3 H3 R3 E3 S3 => ⟨g3, ρ2, M2, R3, S3, BhdS.later b (E'.trans E3)⟩
          | ct ρ2 M2 => rw [e2] at b; exact fun σ3 g3 H3 R3 E3 S3 => ⟨g3, ρ2, M2, R3, S3, BhdS.later b (E'.trans E3)⟩
          | bk ρ2 M2 => rw [e2] at b; exact fun σ3 g3 H3 R3 E3 S3 => b σ3 g3 H3 R3 (E'.trans E3) S3
          | ret w M2 => rw [e2] at b; exact BhdS.later b E'
          | er x ρ2 M2 => rw [e2] at b; exact BhdS.later b E'
          | stuck => rw [e2] at b; exact b.elim
end
/-! ### displays of dicts -/
def trsOf (T : Tx) (xw : WX) : List L2.Key → List EF → List (TE × TE)
  | k :: ks, f :: fs => (tC (kV k), tE T xw f) :: trsOf T xw ks fs
  | _, _ => []
theorem pairs_imp {T : Tx} {xw : WX} {g0 : Gh} {H0 : Hp} {Q : VK} {σ : L2.St} : ∀ {ks : List L2.Key} {fs : List EF} {g : Gh} {ρ : Rho} {M : List MO} {H : Hp} {k : List W → List MO → Res W}, ks.length = fs.length → Rel T.K g M H → RS T.K g σ ρ → Ext g0 H0 g H →
    Bhd T (fun c d H => xw c d σ H) (RW T.K) Q ((evs fs ρ M).bind k) g0 H0 →
    tPairs (trsOf T xw ks fs) σ H fun ps H2 => ∃ g2 M2 vs ws, Rel T.K g2 M2 H2 ∧ Ext g H g2 H2 ∧ ps = (ks.map kV).zip vs ∧ RWs T.K g2 vs ws ∧ ws.length = fs.length ∧ Bhd T (fun c d H => xw c d σ H) (RW T.K) Q (k ws M2) g0 H0
  | [], [], g, ρ, M, H, k, _, R, S, E, b => ⟨g, M, [], [], R, Ext.refl _ _, rfl, .nil, rfl, b⟩
  | [], _ :: _, _, _, _, _, _, h, _, _, _, _ => by cases h
  | _ :: _, [], _, _, _, _, _, h, _, _, _, _ => by cases h
  | kk :: ks, f :: fs, g, ρ, M, H, k, hl, R, S, E, b => by
    have b' : Bhd T (fun c d H => xw c d σ H) (RW T.K) Q ((f ρ M).bind fun w M1 => (evs fs ρ M1).bind fun ws M2 => k (w :: ws) M2) g0 H0 := by
      unfold evs at b
      cases e : f ρ M with
      | stuck => rw [e] at b; exact b
      | err x M1 => rw [e] at b; exact b
      | ok w M1 =>
        rw [e] at b
        show Bhd T (fun c d H => xw c d σ H) (RW T.K) Q ((evs fs ρ M1).bind fun ws M2 => k (w :: ws) M2) g0 H0
        cases e2 : evs fs ρ M1 with
        | stuck => simp only [Res.bind, e2] at b; exact b
        | err x M2 => simp only [Res.bind, e2] at b; exact b
        | ok ws M2 => simp only [Res.bind, e2] at b; exact b
    refine ⟨g, ρ, M, R, S, ?_⟩
    cases e : f ρ M with
    | stuck => rw [e] at b'; exact b'
    | err x M1 => rw [e] at b'; exact fun c d g' H' r' e' q' => b' c d g' H' r' (E.trans e') q'
    | ok w M1 =>
      rw [e] at b'
      intro v g' H' R' E' rw_
      have ih := pairs_imp (T := T) (xw := xw) (g0 := g0) (H0 := H0) (Q := Q) (σ := σ) (ks := ks) (fs := fs) (g := g') (ρ := ρ) (M := M1) (H := H') (k := fun ws M2 => k (w :: ws) M2) (by simpa using hl) R' (S.gr E'.gr) (E.trans E') b'
      refine tPairs_mono ih fun ps H2 ⟨g2, M2, vs, ws, r1, r2, r3, r4, r5, r6⟩ => ⟨g2, M2, v :: vs, w :: ws, r1, E'.trans r2, by rw [r3]; rfl, .cons (RW.gr r2.gr rw_) r4, by rw [List.length_cons, List.length_cons, r5], r6⟩
where
  tPairs_mono {σ : L2.St} {Q Q' : List (V × V) → Hp → Prop} : ∀ {ks : List L2.Key} {fs : List EF} {H : Hp}, tPairs (trsOf T xw ks fs) σ H Q → (∀ ps H2, Q ps H2 → Q' ps H2) → tPairs (trsOf T xw ks fs) σ H Q'
    | [], [], _, h, k => k _ _ h
    | [], _ :: _, _, h, k => k _ _ h
    | _ :: _, [], _, h, k => k _ _ h
    | _ :: ks, _ :: fs, _, h, k => tG_mono h fun _ _ h2 => tPairs_mono (ks := ks) (fs := fs) h2 fun _ _ h3 => k _ _ h3
/-- a display with constant keys, each once -/
def asDisp (ks : List L2.Key) (ws : List W) (M : List MO) : Res W := match allD ws with
  | some xs => if ks.length = xs.length ∧ ks.length ≤ 15 ∧ ks.Nodup then .ok (.kd (ks.zip xs)) M else .stuck
  | none => .stuck
def sDisp (ks : List L2.Key) (fs : List EF) : EF := fun ρ M => (evs fs ρ M).bind (asDisp ks)
theorem merge_nodup : ∀ {kvs acc : List (L2.Key × V)}, ((acc ++ kvs).map (·.1)).Nodup → mergeK acc kvs = acc ++ kvs
  | [], acc, _ => by rw [List.append_nil]; rfl
  | p :: r, acc, h => by
    have hp : (acc.any fun kv => decide (kv.1 = p.1)) = false := by
      rw [List.any_eq_false]
      intro q hq z
      rw [List.map_append, List.map_cons, List.nodup_append] at h
      exact h.2.2 q.1 (List.mem_map.mpr ⟨q, hq, rfl⟩) p.1 List.mem_cons_self (of_decide_eq_true z)
    show mergeK (putK acc p.1 p.2) r = _
    have e : putK acc p.1 p.2 = acc ++ [p] := by
      unfold putK
      rw [hp]
      rfl
    rw [e, merge_nodup (by simpa using h), List.append_assoc]
    rfl
theorem zip_fst {α β : Type} : ∀ {ks : List α} {vs : List β}, ks.length = vs.length → (ks.zip vs).map (·.1) = ks
  | [], [], _ => rfl
  | [], _ :: _, h => by cases h
  | _ :: _, [], h => by cases h
  | _ :: ks, _ :: vs, h => by rw [List.zip_cons_cons, List.map_cons, zip_fst (by simpa using h)]
theorem zip_snd {α β : Type} : ∀ {ks : List α} {vs : List β}, ks.length = vs.length → (ks.zip vs).map (·.2) = vs
  | [], [], _ => rfl
  | [], _ :: _, h => by cases h
  | _ :: _, [], h => by cases h
  | _ :: ks, _ :: vs, h => by rw [List.zip_cons_cons, List.map_cons, zip_snd (by simpa using h)]
theorem zip_kV : ∀ {ks : List L2.Key} {vs : List V}, (ks.map kV).zip vs = (ks.zip vs).map fun kv => (kV kv.1, kv.2)
  | [], _ => rfl
  | _ :: _, [] => rfl
  | _ :: ks, _ :: vs => by
    rw [List.map_cons, List.zip_cons_cons, List.zip_cons_cons, List.map_cons, zip_kV]
section
variable {X : Cx} {xw : WX} {pos : Pos} {keys : List (Option Expr)} {values : List Expr}
abbrev MPs (X : Cx) (xw : WX) (pos : Pos) (keys : List (Option Expr)) (values : List Expr) (ks : List L2.Key) (fs : List EF) : Prop := PPs X pos keys values (trsOf (tx X) xw ks fs)
theorem mp_nil : MPs X xw pos [] [] [] [] := pps_nil
theorem mp_cons {z : Str} {j : Nat} {p : Pos} {e : Expr} {f : EF} {ks : List L2.Key} {fs : List EF} (he : ME X xw e f) (h : MPs X xw pos keys values ks fs) : MPs X xw pos (some (.Constant (.str z) j p) :: keys) (e :: values) (.inr z :: ks) (f :: fs) := pps_cons pe_str he h
theorem me_disp {ks : List L2.Key} {fs : List EF} (h : MPs X xw pos keys values ks fs) (hk : ks.length = fs.length := by rfl) (hall : keys.all (·.isSome) = true := by rfl) (hl : keys.length = values.length := by rfl) (h0 : keys ≠ [] := by intro z; cases z)
    (h15 : keys.length ≤ 15 := by decide) : ME X xw (.Dict keys values pos) (sDisp ks fs) :=
  PE.imp (pe_disp h hall hl h0 h15) fun σ H Q ⟨g, ρ, M, R, S, b⟩ p hp => by
    have hF : g.F p = none := R.sub.none hp
    have hph : p ∉ g.ph := fun z => by obtain ⟨u, q⟩ := R.tr p z; rw [hp] at q; cases q
    have E1 : Ext g H g (L2.upd H p (.dK [])) := (Ext.refl g H).updD hp
    refine pairs_imp.tPairs_mono (T := tx X) (xw := xw) (pairs_imp (T := tx X) (xw := xw) (k := asDisp ks) hk (R.updD hF hph) S E1 b) fun ps H2 ⟨g2, M2, vs, ws, R2, E2, e3, r4, l5, b6⟩ => ?_
    obtain ⟨o1, o2, o3⟩ := E2.outD upd_same hF hph
    unfold asDisp at b6
    cases ea : allD ws with
    | none => rw [ea] at b6; exact b6.elim
    | some xs =>
      rw [ea] at b6
      simp only at b6
      split at b6
      · rename_i hc
        obtain ⟨c1, c2, c3⟩ := hc
        have d := allD_ok r4 ea
        have lv : ks.length = vs.length := by rw [r4.length, l5, hk]
        refine ⟨o1, ks.zip vs, ?_, by rw [List.length_zip]; omega, ?_⟩
        · rw [e3]
          exact zip_kV
        · have em : mergeK [] (ks.zip vs) = ks.zip vs := merge_nodup (by rw [List.nil_append, zip_fst lv]; exact c3)
          rw [em]
          have hs : Sub g2.F (L2.upd g2.F p (.dK (ks.zip vs))) := Sub.upd o2
          have R3 : Rel X.K ⟨g2.ph, L2.upd g2.F p (.dK (ks.zip vs))⟩ M2 (L2.upd H2 p (.dK (ks.zip vs))) := by
            have ne : ∀ a, a ∈ g2.ph → a ≠ p := fun a hm z => o3 (by rw [← z]; exact hm)
            refine ⟨Sub.upd2 R2.sub, R2.len, fun n u e l => ?_, R2.inj, fun a hm => ?_⟩
            · obtain ⟨a, e1, e2, e3⟩ := R2.at_ n u e l
              have na := ne a (List.mem_of_getElem? e1)
              refine ⟨a, e1, by show L2.upd g2.F p _ a = none; rw [upd_ne na]; exact e2, MOk.gr (g := g2) (g' := ⟨g2.ph, L2.upd g2.F p (.dK (ks.zip vs))⟩) ⟨fun _ _ z => z, hs⟩ (fun o' q => ?_) e3⟩
              rw [upd_ne na]
              exact q
            · obtain ⟨u, q⟩ := R2.tr a hm
              exact ⟨u, by rw [upd_ne (ne a hm)]; exact q⟩
          have E3 : Ext g H ⟨g2.ph, L2.upd g2.F p (.dK (ks.zip vs))⟩ (L2.upd H2 p (.dK (ks.zip vs))) := by
            have E := E1.trans E2
            refine ⟨E.gr.trans ⟨fun _ _ z => z, hs⟩, fun a o q hm => ?_, fun a h1 h2 => ?_, E.newph⟩
            · rw [upd_ne (ne_of_none q hp)]
              exact E.keep a o q hm
            · by_cases ha : a = p
              · exact .inl (by rw [ha]; exact hp)
              · have h2' : g2.F a ≠ none := by
                  have : L2.upd g2.F p (.dK (ks.zip vs)) a ≠ none := h2
                  rwa [upd_ne ha] at this
                exact E.new a h1 h2'
          refine b6 (.ref p) _ _ R3 E3 (.kd (vs := ks.zip vs) upd_same ?_ ?_)
          · rw [zip_fst lv, zip_fst c1]
          · rw [zip_snd lv, zip_snd c1]
            exact DqAll.sub hs d
      · exact b6.elim
/-! reading such a dict -/
def kdGet {α : Type} [DecidableEq α] (kvs : List (α × PyData)) (k : α) : Option PyData := (kvs.find? fun kv => decide (kv.1 = k)).map (·.2)
theorem kd_val {α : Type} [DecidableEq α] {K : PySem.W.Frag} {F : Hp} (k : α) : ∀ {vs : List (α × V)} {kvs : List (α × PyData)}, vs.map (·.1) = kvs.map (·.1) → DqAll K F (vs.map (·.2)) (kvs.map (·.2)) →
    match kdGet kvs k with
    | some d => ∃ v, valV vs k = some v ∧ Dq K F v d
    | none => valV vs k = none
  | [], [], _, _ => rfl
  | [], _ :: _, h, _ => by cases h
  | _ :: _, [], h, _ => by cases h
  | p :: vs, q :: kvs, h, d => by
    rw [List.map_cons, List.map_cons] at h d
    have h1 : p.1 = q.1 := (List.cons.inj h).1
    have h2 := (List.cons.inj h).2
    cases d with
    | cons d1 d2 =>
      by_cases hk : q.1 = k
      · have e : kdGet (q :: kvs) k = some q.2 := by unfold kdGet; rw [List.find?_cons, decide_eq_true hk]; rfl
        rw [e]
        exact ⟨p.2, valV_pos (h1.trans hk), d1⟩
      · have e : kdGet (q :: kvs) k = kdGet kvs k := by unfold kdGet; rw [List.find?_cons, decide_eq_false hk]
        rw [e, valV_neg (by rw [h1]; exact hk)]
        exact kd_val k h2 d2
def keyD : PyData → Option L2.Key
  | .str z => some (.inr z)
  | .int i => some (.inl i)
  | _ => none
theorem keyD_v {K : PySem.W.Frag} {F : Hp} {v : V} {x : PyData} {k : L2.Key} (d : Dq K F v x) (e : keyD x = some k) : v = kV k := by
  cases x with
  | str z => cases e; cases d; rfl
  | int i => cases e; cases d; rfl
  | _ => cases e
def asKd1 : W → W → List MO → Res W
  | .kd kvs, .d x, M => match keyD x with
    | some k => match kdGet kvs k with
      | some d => .ok (.d d) M
      | none => .stuck
    | none => .stuck
  | _, _, _ => .stuck
/-- {..}[k], it is there -/
def sKd (f h : EF) : EF := fun ρ M => (f ρ M).bind fun w M1 => (h ρ M1).bind fun u M2 => asKd1 w u M2
def asKd2 : W → W → W → List MO → Res W
  | .kd kvs, .d x, .d y, M => match keyD x with
    | some k => .ok (.d ((kdGet kvs k).getD y)) M
    | none => .stuck
  | _, _, _, _ => .stuck
/-- {..}.get(k, x) -/
def sKd2 (f h j : EF) : EF := fun ρ M => (f ρ M).bind fun w M1 => match w with
  | .kd _ => (h ρ M1).bind fun u M2 => (j ρ M2).bind fun z M3 => asKd2 w u z M3
  | _ => .stuck
variable {a b c : Expr} {fa fb fc : EF} {k : Nat} {apos cpos : Pos}
theorem me_kd (C : Ctx X k xw) (ha : ME X xw a fa) (hb : ME X xw b fb) (hs : NoSl b := by exact fun _ _ => rfl) : ME X xw (.Subscript a b pos) (sKd fa fb) :=
  PE.imp (pe_dget (by have := ctx_u C; omega) ha hb hs) fun σ H Q h => by
    refine tG_mono (tG_bind (R2 := RW X.K) h) fun v H1 ⟨g, ρ, M, w, R, S, q, b⟩ => ?_
    refine ⟨g, ρ, M, R, S, ?_⟩
    cases e : fb ρ M with
    | stuck => rw [e] at b; exact b
    | err x M2 => rw [e] at b; exact b
    | ok u M2 =>
      rw [e] at b
      intro y g' H' R' E' r'
      replace b : Bhd (tx X) (fun c d H => xw c d σ H) (RW X.K) Q (asKd1 w u M2) g H1 := b
      unfold asKd1 at b
      split at b
      · rename_i kvs x
        split at b
        · rename_i kk ek
          split at b
          · rename_i d ed
            cases q with
            | kd h1 h2 h3 =>
              cases r' with
              | d dx =>
                have hv := kd_val kk h2 h3
                rw [ed] at hv
                obtain ⟨v, e1, e2⟩ := hv
                refine ⟨_, v, rfl, ?_, b v g' H' R' E' (.d (Dq.sub E'.gr.F e2))⟩
                rw [keyD_v dx ek, ← e1]
                exact DGet.k (R'.sub _ _ (E'.gr.F _ _ h1))
          · exact b.elim
        · exact b.elim
      · exact b.elim
theorem me_kd2 (C : Ctx X k xw) (ha : ME X xw a fa) (hb : ME X xw b fb) (hc : ME X xw c fc) (m1 : attributeBase a "get" X.env (eval a X.env) = eval a X.env := by rfl)
    (m2 : ((backTo cpos (starEach [b, c] X.env)).all (fun x => !x.1) && (backToKw cpos (keywordEach [] X.env)).all (fun x => x.1.isSome) && decide (([b, c] : List Expr).length + ([] : List Keyword).length + (if ([] : List Keyword).isEmpty then 0 else 1) < 30)) = true := by rfl)
    (m3 : (apos.endLine == cpos.line) = true := by rfl) (m4 : backTo cpos (starEach [b, c] X.env) = [(false, eval b X.env), (false, eval c X.env)] := by rfl) : ME X xw (.Call (.Attribute a "get" apos) [b, c] [] cpos) (sKd2 fa fb fc) :=
  PE.imp (pe_dget2 (by have := ctx_u C; omega) ha hb hc ⟨m1, m2, m3, m4⟩) fun σ H Q h => by
    refine tG_mono (tG_bind (R2 := RW X.K) h) fun v H1 ⟨g, ρ, M, w, R, S, q, b⟩ => ?_
    cases w with
    | kd kvs =>
      cases q with
      | kd h1 h2 h3 =>
        refine ⟨_, rfl, .inl ⟨_, .inl (R.sub _ _ h1)⟩, g, ρ, M, R, S, ?_⟩
        replace b : Bhd (tx X) (fun c d H => xw c d σ H) (RW X.K) Q ((fb ρ M).bind fun u M2 => (fc ρ M2).bind fun z M3 => asKd2 (.kd kvs) u z M3) g H1 := b
        cases e : fb ρ M with
        | stuck => rw [e] at b; exact b
        | err x M2 => rw [e] at b; exact b
        | ok u M2 =>
          rw [e] at b
          intro y g' H' R' E' r'
          refine ⟨g', ρ, M2, R', S.gr E'.gr, ?_⟩
          replace b : Bhd (tx X) (fun c d H => xw c d σ H) (RW X.K) Q ((fc ρ M2).bind fun z M3 => asKd2 (.kd kvs) u z M3) g H1 := b
          cases e2 : fc ρ M2 with
          | stuck => rw [e2] at b; exact b
          | err x M3 => rw [e2] at b; exact fun c d g2 H2 r2 e2 q2 => b c d g2 H2 r2 (E'.trans e2) q2
          | ok z M3 =>
            rw [e2] at b
            intro y2 g2 H2 R2 E2 r2
            cases u with
            | d x =>
              cases z with
              | d y3 =>
                replace b : Bhd (tx X) (fun c d H => xw c d σ H) (RW X.K) Q (match keyD x with | some k => Res.ok (.d ((kdGet kvs k).getD y3)) M3 | none => .stuck) g H1 := b
                cases ek : keyD x with
                | none => rw [ek] at b; exact b.elim
                | some kk =>
                  rw [ek] at b
                  cases r' with
                  | d dx =>
                    cases r2 with
                    | d dy =>
                      have hv := kd_val kk h2 h3
                      have E3 := E'.trans E2
                      have hD : ∀ o, valV _ kk = o → DGet H2 _ y o := fun o ho => by
                        rw [keyD_v dx ek, ← ho]
                        exact DGet.k (R2.sub _ _ (E3.gr.F _ _ h1))
                      cases ed : kdGet kvs kk with
                      | none =>
                        rw [ed] at hv
                        simp only [ed] at b
                        exact ⟨none, hD _ hv, b y2 g2 H2 R2 E3 (.d dy)⟩
                      | some d =>
                        rw [ed] at hv
                        simp only [ed] at b
                        obtain ⟨v, e1, e3⟩ := hv
                        exact ⟨some v, hD _ e1, b v g2 H2 R2 E3 (.d (Dq.sub E3.gr.F e3))⟩
              | _ => exact b.elim
            | _ => exact b.elim
    | _ => exact b.elim
/-! list(range(..)), tuple(range(..)) -/
def lt (l : Bool) (ds : List PyData) : PyData := if l = true then .list ds else .tuple ds
def asRg1 (l : Bool) : W → List MO → Res W
  | .d (.int j), M => if 0 ≤ j ∧ j ≤ 16777216 then .ok (.d (lt l (rng 0 j.toNat))) M else .stuck
  | _, _ => .stuck
def sRg1 (l : Bool) (f : EF) : EF := fun ρ M => (f ρ M).bind (asRg1 l)
def asRg2 (l : Bool) : W → W → List MO → Res W
  | .d (.int i), .d (.int j), M => if 0 ≤ i ∧ i ≤ 16777216 ∧ 0 ≤ j ∧ j ≤ 16777216 then .ok (.d (lt l (rng i (j - i).toNat))) M else .stuck
  | _, _, _ => .stuck
def sRg2 (l : Bool) (f h : EF) : EF := fun ρ M => (f ρ M).bind fun w M1 => (h ρ M1).bind fun u M2 => asRg2 l w u M2
theorem dq_rg {K : PySem.W.Frag} {F : Hp} {a b : Int} : DqAll K F (rgV a b) (rng a (b - a).toNat) := by
  unfold rgV rng
  generalize (b - a).toNat = n
  generalize List.range n = l
  induction l with
  | nil => exact .nil
  | cons x l ih => exact .cons (.int _) ih
theorem me_rgL1 {p p2 pos2 : Pos} (C : Ctx X k xw) (ha : ME X xw a fa) (hm : X.mg "list" = none) (hr : X.mg "range" = none) (hg : Gl X "list" := by rfl) (hg2 : Gl X "range" := by rfl) (n1 : starEach [a] X.env = (false, eval a X.env) :: starEach [] X.env := by rfl)
    (n2 : starEach [.Call (.Name "range" p2) [a] [] pos2] X.env = (false, eval (.Call (.Name "range" p2) [a] [] pos2) X.env) :: starEach [] X.env := by rfl) : ME X xw (.Call (.Name "list" p) [.Call (.Name "range" p2) [a] [] pos2] [] pos) (sRg1 true fa) :=
  PE.imp (pe_listRg C.calm hg hm (prg_1 hg2 hr ha n1) n2) fun σ H Q h => tG_mono (tG_bind (R2 := RW X.K) h) fun v H1 ⟨g, ρ, M, w, R, S, q, b⟩ => by
    unfold asRg1 at b
    split at b
    · rename_i j
      split at b
      · rename_i hc
        cases q with
        | d q =>
          cases q
          have d := dq_rg (K := X.K) (F := g.F) (a := 0) (b := j)
          rw [Int.sub_zero] at d
          exact ⟨j, rfl, RgOk.of_le (by decide) hc.2 (by decide) hc.1, fun p hp => b _ ⟨g.ph, L2.upd g.F p (.lst (rgV 0 j))⟩ _ (R.lay hp) (Ext.lay R.sub hp) (.d (.lst upd_same (DqAll.sub (Sub.upd (R.sub.none hp)) d)))⟩
      · exact b.elim
    · exact b.elim
theorem me_rgT1 {p p2 pos2 : Pos} (C : Ctx X k xw) (ha : ME X xw a fa) (hm : X.mg "tuple" = none) (hr : X.mg "range" = none) (hg : Gl X "tuple" := by rfl) (hg2 : Gl X "range" := by rfl) (n1 : starEach [a] X.env = (false, eval a X.env) :: starEach [] X.env := by rfl)
    (n2 : starEach [.Call (.Name "range" p2) [a] [] pos2] X.env = (false, eval (.Call (.Name "range" p2) [a] [] pos2) X.env) :: starEach [] X.env := by rfl) : ME X xw (.Call (.Name "tuple" p) [.Call (.Name "range" p2) [a] [] pos2] [] pos) (sRg1 false fa) :=
  PE.imp (pe_tupRg C.calm hg hm (prg_1 hg2 hr ha n1) n2) fun σ H Q h => tG_mono (tG_bind (R2 := RW X.K) h) fun v H1 ⟨g, ρ, M, w, R, S, q, b⟩ => by
    unfold asRg1 at b
    split at b
    · rename_i j
      split at b
      · rename_i hc
        cases q with
        | d q =>
          cases q
          have d := dq_rg (K := X.K) (F := g.F) (a := 0) (b := j)
          rw [Int.sub_zero] at d
          exact ⟨j, rfl, RgOk.of_le (by decide) hc.2 (by decide) hc.1, fun p hp => b _ ⟨g.ph, L2.upd g.F p (.tup (rgV 0 j))⟩ _ (R.lay hp) (Ext.lay R.sub hp) (.d (.tup (.of upd_same) (DqAll.sub (Sub.upd (R.sub.none hp)) d)))⟩
      · exact b.elim
    · exact b.elim
theorem me_rgT2 {p p2 pos2 : Pos} (C : Ctx X k xw) (ha : ME X xw a fa) (hb : ME X xw b fb) (hm : X.mg "tuple" = none) (hr : X.mg "range" = none) (hg : Gl X "tuple" := by rfl) (hg2 : Gl X "range" := by rfl) (n1 : starEach [a, b] X.env = (false, eval a X.env) :: starEach [b] X.env := by rfl) (n3 : starEach [b] X.env = (false, eval b X.env) :: starEach [] X.env := by rfl) (hpl : (backTo pos2 (starEach [b] X.env)).any (·.1) = false := by rfl)
    (n2 : starEach [.Call (.Name "range" p2) [a, b] [] pos2] X.env = (false, eval (.Call (.Name "range" p2) [a, b] [] pos2) X.env) :: starEach [] X.env := by rfl) : ME X xw (.Call (.Name "tuple" p) [.Call (.Name "range" p2) [a, b] [] pos2] [] pos) (sRg2 false fa fb) :=
  PE.imp (pe_tupRg C.calm hg hm (prg_2 hg2 hr ha hb n1 n3 hpl) n2) fun σ H Q h => by
    refine tG_mono (tG_bind (R2 := RW X.K) h) fun v H1 ⟨g, ρ, M, w, R, S, q, b⟩ => ?_
    refine ⟨g, ρ, M, R, S, ?_⟩
    replace b : Bhd (tx X) (fun c d H => xw c d σ H) (RW X.K) Q ((fb ρ M).bind fun u M2 => asRg2 false w u M2) g H1 := b
    cases e : fb ρ M with
    | stuck => rw [e] at b; exact b
    | err x M2 => rw [e] at b; exact b
    | ok u M2 =>
      rw [e] at b
      intro y g' H' R' E' r'
      replace b : Bhd (tx X) (fun c d H => xw c d σ H) (RW X.K) Q (asRg2 false w u M2) g H1 := b
      unfold asRg2 at b
      split at b
      · rename_i i j
        split at b
        · rename_i hc
          cases q with
          | d q =>
            cases q
            cases r' with
            | d r' =>
              cases r'
              have d := dq_rg (K := X.K) (F := g'.F) (a := i) (b := j)
              exact ⟨i, j, rfl, rfl, RgOk.of_le hc.1 hc.2.2.2 hc.2.1 hc.2.2.1, fun p hp => b _ ⟨g'.ph, L2.upd g'.F p (.tup (rgV i j))⟩ _ (R'.lay hp) (E'.trans (Ext.lay R'.sub hp)) (.d (.tup (.of upd_same) (DqAll.sub (Sub.upd (R'.sub.none hp)) d)))⟩
        · exact b.elim
      · exact b.elim
end
end Y
namespace Y
open PySem PySem.Spec PyProof.Rows L2

/-! ### texts taken apart -/
section
variable {X : Cx} {xw : WX} {a o : Expr} {fa fb : EF} {apos cpos : Pos} {k : Nat}
def strD (ys : List Str) : List PyData := ys.map PyData.str
theorem dq_strs {K : PySem.W.Frag} {F : Hp} : ∀ (ys : List Str), DqAll K F (ys.map V.str) (strD ys)
  | [] => .nil
  | y :: ys => .cons (.str y) (dq_strs ys)
def pSplit : DPr
  | [.str x, .str y] => if (y.length == 0) = false ∧ x.length + 2 ≤ sizeLine then some (.list (strD (Txt.split x y))) else none
  | _ => none
def tri (p : Str × Str × Str) : List PyData := [.str p.1, .str p.2.1, .str p.2.2]
def pPart : DPr
  | [.str x, .str y] => if (y.length == 0) = false ∧ x.length ≤ sizeLine then some (.tuple (tri (Txt.partition x y))) else none
  | _ => none
def pRPart : DPr
  | [.str x, .str y] => if (y.length == 0) = false ∧ x.length ≤ sizeLine then some (.tuple (tri (Txt.rpartition x y))) else none
  | _ => none
theorem me_split (ho : ME X xw o fa) (ha : MA X xw [a] [fb])
    (hbase : attributeBase o "split" X.env (eval o X.env) = eval o X.env := by rfl)
    (hfew : ((backTo cpos (starEach [a] X.env)).all (fun x => !x.1) && (backToKw cpos (keywordEach [] X.env)).all (fun x => x.1.isSome)
      && decide ([a].length + ([] : List Keyword).length + (if ([] : List Keyword).isEmpty then 0 else 1) < 30)) = true := by rfl)
    (hline : (apos.endLine == cpos.line) = true := by rfl) (hs : starEach [a] X.env = (false, eval a X.env) :: starEach [] X.env := by rfl) : ME X xw (.Call (.Attribute o "split" apos) [a] [] cpos) (sMeth .str (dpr pSplit) fa [fb]) := by
  refine me_meth .str F.plainAttrs_str F.slot_str_split F.type_str_split mt_split (dprM fun F H v vs x xs z Q s d ds e k => ?_) ho ha hbase hfew hline hs
  unfold pSplit at e
  split at e
  · rename_i q
    cases q
    split at e
    · rename_i c
      cases e
      cases d.str
      obtain ⟨v, rfl, d⟩ := ds.one
      cases d.str
      exact ⟨_, _, rfl, rfl, c.1, c.2, fun p hp => kn s k (dq_strs _) hp⟩
    · cases e
  · cases e
theorem me_part (ho : ME X xw o fa) (ha : MA X xw [a] [fb])
    (hbase : attributeBase o "partition" X.env (eval o X.env) = eval o X.env := by rfl)
    (hfew : ((backTo cpos (starEach [a] X.env)).all (fun x => !x.1) && (backToKw cpos (keywordEach [] X.env)).all (fun x => x.1.isSome)
      && decide ([a].length + ([] : List Keyword).length + (if ([] : List Keyword).isEmpty then 0 else 1) < 30)) = true := by rfl)
    (hline : (apos.endLine == cpos.line) = true := by rfl) (hs : starEach [a] X.env = (false, eval a X.env) :: starEach [] X.env := by rfl) : ME X xw (.Call (.Attribute o "partition" apos) [a] [] cpos) (sMeth .str (dpr pPart) fa [fb]) := by
  refine me_meth .str F.plainAttrs_str F.slot_str_partition F.type_str_partition mt_partition (dprM fun F H v vs x xs z Q s d ds e k => ?_) ho ha hbase hfew hline hs
  unfold pPart at e
  split at e
  · rename_i q
    cases q
    split at e
    · rename_i c
      cases e
      cases d.str
      obtain ⟨v, rfl, d⟩ := ds.one
      cases d.str
      exact ⟨_, _, rfl, rfl, c.1, c.2, fun p hp => kt s k (dq_strs [_, _, _]) hp⟩
    · cases e
  · cases e
/-- what the kit tells of rpartition, as a method's rule -/
theorem mt_rpart : MtR X "str.rpartition" (fun x xs H Q => ∃ a b, x = .str a ∧ xs = [.str b] ∧ (b.length == 0) = false ∧ a.length ≤ sizeLine ∧ ∀ p, H p = none → Q (.ref p) (upd H p (.tup [V.str (Txt.rpartition a b).1, .str (Txt.rpartition a b).2.1, .str (Txt.rpartition a b).2.2]))) := by
  intro pins s σ H x xs v us Q I rx rxs ⟨a, b, ex, exs, hb, hz, q⟩
  subst ex exs
  obtain ⟨t, rfl⟩ := rx
  cases rxs with
  | cons ry rt =>
    cases rt
    obtain ⟨u, rfl⟩ := ry
    refine call_meets F.slot_str_rpartition (typeIs_str _ _ _) F.entry_str_rpartition (F.args_str_rpartition_2 _ _) (meets_str_rpartition a b t u hb hz) ?_
    unfold Txt.rpartition at q
    revert q
    cases Builtin.Str.lastOccurrence a b 0 a.length with
    | none => exact fun q => laid_parts I q
    | some i => exact fun q => laid_parts I q
theorem me_rpart (ho : ME X xw o fa) (ha : MA X xw [a] [fb])
    (hbase : attributeBase o "rpartition" X.env (eval o X.env) = eval o X.env := by rfl)
    (hfew : ((backTo cpos (starEach [a] X.env)).all (fun x => !x.1) && (backToKw cpos (keywordEach [] X.env)).all (fun x => x.1.isSome)
      && decide ([a].length + ([] : List Keyword).length + (if ([] : List Keyword).isEmpty then 0 else 1) < 30)) = true := by rfl)
    (hline : (apos.endLine == cpos.line) = true := by rfl) (hs : starEach [a] X.env = (false, eval a X.env) :: starEach [] X.env := by rfl) : ME X xw (.Call (.Attribute o "rpartition" apos) [a] [] cpos) (sMeth .str (dpr pRPart) fa [fb]) := by
  refine me_meth .str F.plainAttrs_str F.slot_str_rpartition F.type_str_rpartition mt_rpart (dprM fun F H v vs x xs z Q s d ds e k => ?_) ho ha hbase hfew hline hs
  unfold pRPart at e
  split at e
  · rename_i q
    cases q
    split at e
    · rename_i c
      cases e
      cases d.str
      obtain ⟨v, rfl, d⟩ := ds.one
      cases d.str
      exact ⟨_, _, rfl, rfl, c.1, c.2, fun p hp => kt s k (dq_strs [_, _, _]) hp⟩
    · cases e
  · cases e
end

/-! ### texts with values in them -/
section
variable {X : Cx} {xw : WX} {σ : L2.St} {H : Hp}
def pFmt : DPr
  | [.str y] => if y.length ≤ sizeLine then some (.str y) else none
  | [.int i] => if i.natAbs.log2 < 1920 then some (.str (toString i)) else none
  | _ => none
def rFmt : List V → Hp → VK → Prop := fun xs H1 Q => ∃ x, xs = [x] ∧ ((∃ y : Str, x = .str y ∧ y.length ≤ sizeLine ∧ Q (.str y) H1) ∨ ∃ i : Int, x = .int i ∧ i.natAbs.log2 < 1920 ∧ Q (.str (toString i)) H1)
theorem fmt_ok (K : PySem.W.Frag) : PrOk K (dpr pFmt) rFmt := dprN fun F H vs xs y Q s dv e k => by
  unfold pFmt at e
  split at e
  · split at e
    · cases e
      obtain ⟨v, rfl, d⟩ := dv.one
      cases d.str
      exact ⟨_, rfl, .inl ⟨_, rfl, by assumption, kq s k (.str _)⟩⟩
    · cases e
  · split at e
    · cases e
      obtain ⟨v, rfl, d⟩ := dv.one
      cases d.int
      exact ⟨_, rfl, .inr ⟨_, rfl, by assumption, kq s k (.str _)⟩⟩
    · cases e
  · cases e
theorem me_fmt {e : Expr} {f : EF} {pos : Pos} (he : ME X xw e f) : ME X xw (.FormattedValue e (-1) none pos) (sPr (dpr pFmt) [f]) :=
  PE.imp (pe_fmt he) fun _ _ _ h => tG_mono (prim1 (T := tx X) (fmt_ok X.K) h) fun v _ ⟨x, e, q⟩ => by
    cases e
    exact q
/-- the parts one behind the other -/
def sJs : List EF → Str → Rho → List MO → Res W
  | [], acc, _, M => .ok (.d (.str acc)) M
  | f :: fs, acc, ρ, M => (f ρ M).bind fun w M1 => match w with
    | .d (.str y) => if (acc ++ y).length ≤ sizeLine then sJs fs (acc ++ y) ρ M1 else .stuck
    | _ => .stuck
def sFs (fs : List EF) : EF := sJs fs Str.empty
theorem js_ok {K : PySem.W.Frag} (T : Tx) : ∀ (fs : List EF) (acc : Str) (H : Hp) (Q : VK), tG T xw (RW T.K) (sJs fs acc) σ H Q → tJs (fs.map fun f => tE T xw f) acc σ H fun out H1 => Q (.str out) H1
  | [], acc, H, Q, h => by
    obtain ⟨g, ρ, M, R, S, b⟩ := h
    exact b (.str acc) g H R (Ext.refl _ _) (.d (.str _))
  | f :: fs, acc, H, Q, h => by
    refine tG_mono (tG_bind (R2 := RW T.K) h) fun v H1 ⟨g, ρ, M, w, R, S, q, b⟩ => ?_
    cases w with
    | d x =>
      cases x with
      | str y =>
        cases q with
        | d q =>
          cases q
          have b' : Bhd T (fun c d H => xw c d σ H) (RW T.K) Q (if (acc ++ y).length ≤ sizeLine then sJs fs (acc ++ y) ρ M else .stuck) g H1 := b
          split at b'
          · rename_i c
            exact ⟨y, rfl, c, js_ok (K := K) T fs (acc ++ y) H1 Q ⟨g, ρ, M, R, S, b'⟩⟩
          · exact b'.elim
      | _ => exact (show False from b).elim
    | _ => exact (show False from b).elim
abbrev MJ (X : Cx) (xw : WX) (es : List Expr) (fs : List EF) : Prop := PJ X es (fs.map fun f => tE (tx X) xw f)
theorem mj_nil : MJ X xw [] [] := .nil
theorem mj_cons {e : Expr} {es : List Expr} {f : EF} {fs : List EF} (h : ME X xw e f) (r : MJ X xw es fs) : MJ X xw (e :: es) (f :: fs) := .cons h r
theorem me_joined {v1 v2 : Expr} {rest : List Expr} {fs : List EF} {pos : Pos} (h : MJ X xw (v1 :: v2 :: rest) fs) : ME X xw (.JoinedStr (v1 :: v2 :: rest) pos) (sFs fs) :=
  PE.imp (pe_joined h) fun σ H Q q => js_ok (K := X.K) (tx X) fs Str.empty H Q q
end
end Y
namespace Y
open PySem PySem.Spec PyProof.Rows L2

/-! ### defs as values -/
/-- the name holds a def -/
def FnV (K : PySem.W.Frag) (mg : Str → Option Value) (x : Str) : Prop := ∃ f, PySem.W.nsIn K mainGlobals x = some (some (.ref f)) ∧ mg x = some (.ref f)
section
variable {X : Cx} {k : Nat} {xw : WX}
def sFn (x : Str) : EF := fun _ M => .ok (.fn x) M
theorem me_fn {x : Str} {pos : Pos} (h : FnV X.K X.mg x) (hg : Gl X x := by rfl) (hd : (x == ("__debug__" : Str)) = false := by decide) : ME X xw (.Name x pos) (sFn x) := by
  obtain ⟨f, h1, h2⟩ := h
  refine PE.imp (pe_glob hg h2 (v := .ref f) rfl hd) fun σ H Q ⟨g, ρ, M, R, S, b⟩ => ?_
  exact b (.ref f) g H R (Ext.refl _ _) (.fn h1)
/-- a module's text -/
theorem me_gStr {x : Str} {z : Str} (hm' : ∃ t, X.mg x = some (.str z t)) {pos : Pos} (hg : Gl X x := by rfl) (hd : (x == ("__debug__" : Str)) = false := by decide) : ME X xw (.Name x pos) (sC (.str z)) :=
  let ⟨_, hm⟩ := hm'
  PE.imp (pe_glob hg hm (v := .str z) ⟨_, rfl⟩ hd) fun _ _ _ q => tE_const (fun _ => .str _) q
variable {i : Nat} {a x : Str} {ps : List Str} {mf : MF} {e : Expr} {es : List Expr} {fs : List EF} {p pos : Pos} {σ : L2.St} {H : Hp} {Q : VK}
/-- the callee's view of a call -/
theorem callM_of {n : Nat} (h : tE (tx X) xw (sCallF mf n fs) σ H Q) : tCallM (tx X) mf n xw (tA (tx X) xw fs) σ H Q :=
  tG_mono (tG_bind (R2 := RWs X.K) h) fun vs H1 ⟨g, ρ, M, ws, R, S, q, b⟩ => by
    unfold callF at b
    split at b
    · rename_i hc
      obtain ⟨hl, hpl, nd⟩ := hc
      cases hs : subM M (locs ws) with
      | none => rw [hs] at b; exact b.elim
      | some Mc =>
        rw [hs] at b
        refine ⟨q.length.trans hl, ghC g (locs ws), relo 0 ws, Mc, rel_ghC R hs nd, relo_ok (g := g) (gc := ghC g (locs ws)) rfl 0 q hpl fun j n e => ?_, ?_⟩
        · obtain ⟨a, e1, _, e3, _⟩ := ph_at R hs e
          rw [Nat.zero_add, e1]; exact e3
        · replace b : Bhd (tx X) (fun c d H => xw c d σ H) (RW X.K) Q (freeze M (locs ws) (mf (relo 0 ws) Mc)) g H1 := b
          cases r : mf (relo 0 ws) Mc with
          | stuck => rw [r] at b; exact b
          | err y M' =>
            rw [r] at b
            unfold freeze at b
            simp only at b
            split at b
            · rename_i hd
              intro cls d g' H' R' E' ix
              obtain ⟨F2, r2, e2, s2, _⟩ := back_ok R hs nd R' E' hd
              exact b cls d _ H' r2 e2 (ix.sub s2)
            · exact b.elim
          | ok w M' =>
            rw [r] at b
            unfold freeze at b
            simp only at b
            split at b
            · rename_i hd
              cases hz : fz 3 (List.replicate (locs ws).length MO.dead ++ M'.drop (locs ws).length) w with
              | none => rw [hz] at b; exact b.elim
              | some y =>
                rw [hz] at b
                intro v g' H' R' E' rw_
                obtain ⟨F2, r2, e2, s2, hM⟩ := back_ok R hs nd R' E' hd
                exact b v _ H' r2 e2 (.d (fz_ok hM s2 3 w v y rw_ hz))
            · exact b.elim
    · exact b.elim
theorem pe_callLM (C : Ctx X k xw) (c : Cal X.prog X.w X.K X.mg X.base k x ps mf) {t : TA} (ha : PA X (e :: es) t) (hN : X.N[i]? = some a) (hv : Vis X.env.scope a) (hdb : (a == ("__debug__" : Str)) = false := by decide) (hcd : (a == ("__classdict__" : Str)) = false := by decide)
    (he : starEach (e :: es) X.env = (false, eval e X.env) :: starEach es X.env := by rfl) (hpl : (backTo pos (starEach es X.env)).any (·.1) = false := by rfl) :
    PE X (.Call (.Name a p) (e :: es) [] pos) (fun σ H Q => (∃ f, X.mg x = some (.ref f) ∧ σ[i]? = some (some (.ref f))) ∧ tCallM (tx X) mf ps.length xw t σ H Q) := by
  obtain ⟨f, fd, F, hm, hk, hb⟩ := c.ex
  refine ⟨fun pins s σ H Q I h => ?_⟩
  obtain ⟨⟨f', hf, hs⟩, h⟩ := h
  rw [hm] at hf
  cases hf
  refine wpAny_Call_Name_kw (thn ((pe_var (pos := p) hN hv hdb hcd).run pins s σ H (fun v H1 => v = .ref f ∧ H1 = H) I ⟨.ref f, hs, rfl, rfl⟩) fun u s1 ⟨v, H1, I1, r1, q1⟩ => ?_)
  obtain ⟨rfl, rfl⟩ := q1
  cases r1
  exact PySem.W.callWith_K (h₀ := X.base) I.ok.mod.kin hk (thn (ha.run pos pins s1 σ _ _ I1 h) fun us s2 ⟨vs, H2, I2, r, q⟩ => ⟨I2.kIn, run_fnM C F hb I2 r q.1 q.2⟩) he hpl
/-- a call of what the slot holds: one of the defs of the table -/
def sCallV (i : Nat) (tab : List (Str × MF × Nat)) (fs : List EF) : EF := fun ρ M => match ρ[i]? with
  | some (some (.fn x)) => match tab.lookup x with
    | some (mf, n) => sCallF mf n fs ρ M
    | none => .stuck
  | _ => .stuck
inductive Tab (X : Cx) (k : Nat) : List (Str × MF × Nat) → Prop
  | nil : Tab X k []
  | cons {x : Str} {ps : List Str} {mf : MF} {r : List (Str × MF × Nat)} : Cal X.prog X.w X.K X.mg X.base k x ps mf → FnV X.K X.mg x → Tab X k r → Tab X k ((x, mf, ps.length) :: r)
theorem Tab.get {tab : List (Str × MF × Nat)} {n : Nat} (t : Tab X k tab) (h : tab.lookup x = some (mf, n)) : ∃ ps, n = ps.length ∧ Cal X.prog X.w X.K X.mg X.base k x ps mf ∧ FnV X.K X.mg x := by
  induction t with
  | nil => cases h
  | @cons y qs mg' r c v t ih =>
    rw [List.lookup_cons] at h
    cases q : x == y with
    | true =>
      rw [q] at h
      cases h
      have e : x = y := eq_of_beq q
      subst e
      exact ⟨qs, rfl, c, v⟩
    | false =>
      rw [q] at h
      exact ih h
theorem me_callV {tab : List (Str × MF × Nat)} (C : Ctx X k xw) (t : Tab X k tab) (ha : MA X xw (e :: es) fs) (i : Nat) (hN : X.N[i]? = some a := by rfl) (hv : Vis X.env.scope a := by first | exact Or.inl rfl | exact Or.inr (Or.inl rfl) | exact Or.inr (Or.inr rfl)) (hdb : (a == ("__debug__" : Str)) = false := by decide) (hcd : (a == ("__classdict__" : Str)) = false := by decide)
    (he : starEach (e :: es) X.env = (false, eval e X.env) :: starEach es X.env := by rfl) (hpl : (backTo pos (starEach es X.env)).any (·.1) = false := by rfl) :
    ME X xw (.Call (.Name a p) (e :: es) [] pos) (sCallV i tab fs) := by
  refine ⟨fun pins s σ H Q I h => ?_⟩
  obtain ⟨g, ρ, M, R, S, b⟩ := h
  unfold sCallV at b
  cases q : ρ[i]? with
  | none => rw [q] at b; exact b.elim
  | some o =>
    cases o with
    | none => rw [q] at b; exact b.elim
    | some w =>
      rw [q] at b
      obtain ⟨v, e1, e2⟩ := S.at_ i w q
      cases w with
      | fn x =>
        cases e2 with
        | fn hf =>
          cases hl : tab.lookup x with
          | none =>
            simp only [hl] at b
            exact b.elim
          | some y =>
            obtain ⟨mf, n⟩ := y
            simp only [hl] at b
            obtain ⟨ps, hn, c, f', v1, v2⟩ := t.get hl
            subst hn
            rw [hf] at v1
            cases v1
            exact (pe_callLM (p := p) C c ha hN hv hdb hcd he hpl).run pins s σ H Q I ⟨⟨_, v2, e1⟩, callM_of ⟨g, ρ, M, R, S, b⟩⟩
      | _ => exact (show False from b).elim
end
end Y
namespace Y
open PySem PySem.Spec PyProof.Rows L2

/-! ### an error class with an __init__ of its own: self.line = line -/
def CXn : CXT := fun _ _ _ _ _ _ => False
/-- what its __init__ does with the exception that is being made -/
def spLine (K : PySem.W.Frag) : Sp := fun vs H Q _ => ∃ (a C : Addr) (i : Int), vs = [.ref a, .int i] ∧ OexC K C ∧ PySem.W.findIn K (.ref C) "line" = some none ∧ H a = some (exo a C none) ∧
  ∀ dx, H dx = none → dx ≠ a → Q .non (L2.upd (L2.upd H dx (exd dx [(("line" : Str), .int i)])) a (exo a C (some dx)))
theorem fnL_of {P : Program} {w : World} {K : PySem.W.Frag} {mg : Str → Option Value} {base : Heap} {x qual : Str} {st : Stmt} {f : Addr} {fd : FuncData} {k : Nat} {p1 p2 p3 p4 : Pos} (F : Fun K x qual st f fd) (S : FnScope ["self", "line"] ["self", "line"] (defScope st))
    (hb : defBody st = [.Assign [.Attribute (.Name "self" p1) "line" p2] (.Name "line" p3) p4]) : FnOk P w K mg base CXn (k + 1) f fd ["self", "line"] (spLine K) := by
  obtain ⟨oc, od, kV, doc, pm, an, cdv, ct, osl, rfl, lk, hcd⟩ := F.ex
  refine ⟨fun vs H Q E ⟨a, C, i, e, _⟩ => by rw [e]; rfl, fun A outer s H args us vs Q E hr e0 bt r hsp => ?_⟩
  obtain ⟨a, C, i, rfl, T, hno, ha, q⟩ := hsp
  have kin : K.In s.heap := e0.mod.kin.keeps fun b o e => (e0.bs b o e).1
  have lim : s.heap.NoLimit := e0.mod.nolimit.keeps fun b o e => (e0.bs b o e).1
  have kinds : ∀ y ∈ (["self", "line"] : List Str).zip us, (defScope st).names.lookup y.1 = some .local ∨ ((defScope st).names.lookup y.1 = some .cell ∧ ((cellsFrom (s.heap.objs.size + 1) (defScope st).names []).lookup y.1).isSome = true) := fun ⟨n, v⟩ hy => by
    rcases S.par n (List.of_mem_zip hy).1 with z | z
    · exact .inl z
    · exact .inr ⟨z, PySem.W.cellsFrom_some _ _ _ (.inl z)⟩
  refine codeAny_call_function hr.depth (kin _ _ lk) rfl S.co S.gen rfl (PySem.W.codeRec_of kin hcd) (bt _ _ _ _ (wpAny_newFunctionEnv_cells S.kind kinds fun env he s1 x => ?_))
  subst he
  refine ⟨lim.keeps x.toInCall.keep, codeAny_func ?_⟩
  have I : Inv (cxOf CXn P w K mg base ["self", "line"] qual (defScope st) f cdv A outer s H E) [] (L2.start ["self", "line"] [.ref a, .int i]) H s1 := inv_start S hr.hd e0 rfl r x
  have vis : ∀ n ∈ (["self", "line"] : List Str), Vis (defScope st) n := fun n hn => (S.par n hn).imp id .inl
  have body : PSs (cxOf CXn P w K mg base ["self", "line"] qual (defScope st) f cdv A outer s H E) (defBody st) (tOst K "line" (tVar 0) (tVar 1)) := by
    rw [hb]
    exact pss_one (ps_ost (pe_var (i := 0) rfl (vis _ (by simp)) (by decide) (by decide)) (pe_var (i := 1) rfl (vis _ (by simp)) (by decide) (by decide)))
  refine wpAny_mono (body.run [] s1 _ H { nx := fun _ H' => Q .non H', rt := Q } I ⟨.int i, rfl, .ref a, rfl, a, C, rfl, T, hno, .inl ⟨ha, fun dx n ne => q dx n ne⟩⟩) (fun fl s' hs => ?_) fun e s' hs => hs
  cases fl with
  | ret u =>
    obtain ⟨v, σ', H', J, rv, q⟩ := hs
    exact ⟨v, H', J.os, J.bare, J.base, J.hok, rv, q⟩
  | next =>
    obtain ⟨σ', H', J, q⟩ := hs
    exact ⟨V.non, H', J.os, J.bare, J.base, J.hok, rfl, q⟩
  | brk =>
    obtain ⟨_, _, _, q⟩ := hs
    exact False.elim q
  | cont =>
    obtain ⟨_, _, _, q⟩ := hs
    exact False.elim q
/-- what the written part says of the class NoText -/
structure NTx (K : PySem.W.Frag) (mg : Str → Option Value) (qual : Str) (st : Stmt) : Prop where
  ex : ∃ (C fI : Addr) (fd : FuncData), PySem.W.nsIn K mainGlobals "NoText" = some (some (.ref C)) ∧ mg "NoText" = some (.ref C) ∧ OexC K C ∧ PySem.W.findIn K (.ref C) "__init__" = some (some (.ref fI)) ∧ PySem.W.typeIn K (.ref fI) = some (.type "function") ∧
    Fun K "__init__" qual st fI fd ∧ Binds K fd ["self", "line"] [] ∧ PySem.W.findIn K (.ref C) "line" = some none
/-- raise NoText(e) -/
def sRaiseL (f : EF) : SF := fun ρ M => match f ρ M with
  | .ok (.d (.int i)) M1 => .er ⟨"NoText", some i⟩ ρ M1
  | .err e M1 => .er e ρ M1
  | _ => .stuck
theorem mx_raiseL {X : Cx} {k : Nat} {xw : WX} {qual : Str} {st : Stmt} {e : Expr} {f : EF} {p pos p3 q1 q2 q3 q4 : Pos} (C : Ctx X (k + 2) xw) (T : NTx X.K X.mg qual st) (S : FnScope ["self", "line"] ["self", "line"] (defScope st))
    (hb : defBody st = [.Assign [.Attribute (.Name "self" q1) "line" q2] (.Name "line" q3) q4]) (ha : MA X xw [e] [f]) (hg : Gl X "NoText" := by rfl)
    (he : starEach [e] X.env = (false, eval e X.env) :: starEach [] X.env := by rfl) (hpl : (backTo pos (starEach [] X.env)).any (·.1) = false := by rfl) : MS X xw (.Raise (some (.Call (.Name "NoText" p) [e] [] pos)) none p3) (sRaiseL f) := by
  obtain ⟨D, fI, fd, hns, hm, oe, iC, tI, F, bd, hno⟩ := T.ex
  refine PS.imp (ps_raise C.calm C.takes (pmk_oex (ds := []) (dvs := []) oe iC tI (fnL_of (k := k) F S hb) C.room bd .nil (fun _ _ _ _ _ _ _ z => z.elim) hg hm ha (by decide) he hpl)) fun W σ H ⟨g, ρ, M, R, Sl, b⟩ => ?_
  unfold sRaiseL at b
  refine ⟨g, ρ, M, R, Sl, ?_⟩
  unfold evs evs
  cases ef : f ρ M with
  | stuck => rw [ef] at b; exact b.elim
  | err x M1 =>
    rw [ef] at b
    exact fun cls d g' H' R' E' ix => b cls d σ g' H' R' E' (Sl.gr E'.gr) ix
  | ok w M1 =>
    rw [ef] at b
    intro vs g1 H1 R1 E1 rs
    cases rs with
    | @cons v _ _ _ rv rt =>
      cases rt
      cases w with
      | d x =>
        cases x with
        | int i =>
          cases rv with
          | d rv =>
            cases rv
            refine ⟨Nat.le_of_ble_eq_true rfl, fun a na => ?_⟩
            refine ⟨a, D, i, rfl, oe, hno, L2.upd_same, fun dx nd ne => ⟨rfl, dx, [(("line" : Str), .int i)], L2.upd_same, ?_, ?_, ?_⟩⟩
            · rw [L2.upd_ne ne, L2.upd_same]
            · rw [← nd, L2.upd_ne ne]
            · have hdx : H1 dx = none := by rw [← nd, L2.upd_ne ne]
              have hf : L2.upd (del (L2.upd (L2.upd (L2.upd H1 a (exo a D none)) dx (exd dx [(("line" : Str), .int i)])) a (exo a D (some dx))) a) dx (.xd [(("line" : Str), .int i)]) = L2.upd H1 dx (.xd [(("line" : Str), .int i)]) := by
                funext z
                by_cases z1 : z = dx
                · rw [z1, L2.upd_same, L2.upd_same]
                · rw [L2.upd_ne z1, L2.upd_ne z1]
                  by_cases z2 : z = a
                  · rw [z2, del_same, na]
                  · rw [del_ne z2, L2.upd_ne z2, L2.upd_ne z1, L2.upd_ne z2]
              rw [hf]
              have R2 := R1.lay (o := .xd [(("line" : Str), .int i)]) hdx
              have E2 : Ext g1 H1 ⟨g1.ph, L2.upd g1.F dx (.xd [(("line" : Str), .int i)])⟩ (L2.upd H1 dx (.xd [(("line" : Str), .int i)])) := Ext.lay R1.sub hdx
              exact b (.ref D) (some dx) σ _ _ R2 (E1.trans E2) (Sl.gr (E1.trans E2).gr) ⟨⟨D, rfl, hns⟩, dx, rfl, L2.upd_same⟩
        | _ => exact b.elim
      | _ => exact (show False from b).elim
end Y
namespace Y
open PySem PySem.Spec PyProof.Rows L2

/-! ### a display with a star; a call without arguments -/
section
variable {X : Cx} {k : Nat} {xw : WX}
theorem rws_map {K : PySem.W.Frag} {g : Gh} : ∀ {xs : List V} {ds : List PyData}, DqAll K g.F xs ds → RWs K g xs (ds.map W.d)
  | _, _, .nil => .nil
  | _, _, .cons h t => .cons (.d h) (rws_map t)
theorem RWs.app {K : PySem.W.Frag} {g : Gh} : ∀ {xs ys : List V} {ws us : List W}, RWs K g xs ws → RWs K g ys us → RWs K g (xs ++ ys) (ws ++ us)
  | _, _, _, _, .nil, h => h
  | _, _, _, _, .cons a t, h => .cons a (RWs.app t h)
theorem ml_star {e : Expr} {es : List Expr} {f : EF} {fs : LF} {p : Pos} (he : ME X xw e f) (ha : ML X xw es fs) (hs : starEach (.Starred e p :: es) X.env = (true, eval e X.env) :: starEach es X.env := by rfl) : ML X xw (.Starred e p :: es) (lStar f fs) := by
  refine PA.imp (StX.pa_star he ha hs) fun σ H Q h => ?_
  refine tG_mono (tG_bind (R2 := RW X.K) h) fun v H1 ⟨g, ρ, M, w, R, S, q, b⟩ => ?_
  have fin : ∀ (ds : List PyData) (a : Addr) (xs : List V), v = .ref a → (SqT X.K H1 a xs ∨ SqL X.K H1 a xs) → DqAll X.K g.F xs ds → Bhd (tx X) (fun c d H => xw c d σ H) (RWs X.K) Q ((fs ρ M).bind fun ws M2 => .ok (ds.map .d ++ ws) M2) g H1 →
      ∃ (a : Addr) (xs : List V), v = .ref a ∧ (SqT X.K H1 a xs ∨ SqL X.K H1 a xs) ∧ tG (tx X) xw (RWs X.K) fs σ H1 fun vs H2 => Q (xs ++ vs) H2 := by
    intro ds a xs hv hs hd b'
    refine ⟨a, xs, hv, hs, g, ρ, M, R, S, ?_⟩
    cases e : fs ρ M with
    | ok ws M2 =>
      rw [e] at b'
      exact fun vs g' H' R' E' q' => b' (xs ++ vs) g' H' R' E' (RWs.app (RWs.gr E'.gr (rws_map hd)) q')
    | err y M2 =>
      rw [e] at b'
      exact b'
    | stuck =>
      rw [e] at b'
      exact b'
  replace b : Bhd (tx X) (fun c d H => xw c d σ H) (RWs X.K) Q (match vw M w with | some (.list ds) => (fs ρ M).bind fun ws M2 => .ok (ds.map .d ++ ws) M2 | some (.tuple ds) => (fs ρ M).bind fun ws M2 => .ok (ds.map .d ++ ws) M2 | _ => .stuck) g H1 := b
  cases ew : vw M w with
  | none => rw [ew] at b; exact b.elim
  | some x =>
    rw [ew] at b
    have dv := vw_ok R q ew
    cases x with
    | list ds =>
      rcases dv with dq | ⟨a, xs, ds', e1, e2, e3, e4⟩
      · cases dq with
        | lst h1 h2 => exact fin ds _ _ rfl (.inr (.inl (.inl (R.sub _ _ h1)))) h2 b
      · cases e2
        exact fin ds a xs e1 (.inr (.inl (.inl e3))) e4 b
    | tuple ds =>
      rcases dv with dq | ⟨a, xs, ds', e1, e2, e3, e4⟩
      · cases dq with
        | tup h1 h2 => exact fin ds _ _ rfl (.inl (TqT.up R.sub h1)) h2 b
      · cases e2
    | _ => exact b.elim
theorem me_callF0 {x : Str} {mf : MF} {p pos : Pos} (C : Ctx X k xw) (c : Cal X.prog X.w X.K X.mg X.base k x [] mf) (hg : Gl X x := by rfl) (hdb : (x == ("__debug__" : Str)) = false := by decide) : ME X xw (.Call (.Name x p) [] [] pos) (sCallF mf 0 []) := by
  obtain ⟨f, fd, F, hm, hk, hb⟩ := c.ex
  refine ⟨fun pins s σ H Q I h => ?_⟩
  obtain ⟨g, ρ, M, R, S, b⟩ := callM_of h
  have b' := b [] g H R (Ext.refl _ _) .nil
  exact wpAny_Call_Name_kw (ld_glob I hg hm (PySem.W.callWith_K0 I.kIn hk (run_fnM C F hb I .nil b'.1 b'.2)) hdb)
end
end Y
namespace Y
open PySem PySem.Spec PyProof.Rows L2

/-! ### the store: something new, something rewritten -/
theorem Rel.push {K : PySem.W.Frag} {g : Gh} {M : List MO} {H : Hp} {p : Addr} {u : HO} {o : MO} (R : Rel K g M H) (hp : H p = none) (ho : MOk K ⟨g.ph ++ [p], g.F⟩ (L2.upd H p u) p o) :
    Rel K ⟨g.ph ++ [p], g.F⟩ (M ++ [o]) (L2.upd H p u) ∧ Ext g H ⟨g.ph ++ [p], g.F⟩ (L2.upd H p u) := by
  have hF : g.F p = none := R.sub.none hp
  have hn : p ∉ g.ph := fun z => by obtain ⟨u, q⟩ := R.tr p z; rw [hp] at q; cases q
  have gr : Gr g ⟨g.ph ++ [p], g.F⟩ := ⟨fun n a e => by
    show (g.ph ++ [p])[n]? = some a
    rw [List.getElem?_append_left (List.getElem?_eq_some_iff.mp e).1]; exact e, Sub.refl _⟩
  have up : ∀ a o, H a = some o → L2.upd H p u a = some o := fun a o e => by rw [upd_ne (ne_of_none e hp)]; exact e
  refine ⟨⟨fun a u e => up _ _ (R.sub _ _ e), by simp [R.len], fun n o e l => ?_, fun n m a e1 e2 => ?_, fun a hm => ?_⟩, ⟨gr, fun a o e _ => up _ _ e, fun a h h' => absurd h h', fun a hm => ?_⟩⟩
  · by_cases hl : n < M.length
    · rw [List.getElem?_append_left hl] at e
      obtain ⟨a, e1, e2, e3⟩ := R.at_ n o e l
      exact ⟨a, gr.ph _ _ e1, e2, MOk.gr gr (up a) e3⟩
    · have hz : n = M.length := by
        have := (List.getElem?_eq_some_iff.mp e).1
        simp at this
        omega
      subst hz
      rw [List.getElem?_append_right (Nat.le_refl _), Nat.sub_self] at e
      cases e
      refine ⟨p, ?_, hF, ho⟩
      show (g.ph ++ [p])[M.length]? = some p
      rw [List.getElem?_append_right (by rw [R.len]; exact Nat.le_refl _), R.len, Nat.sub_self]
      rfl
  · have h1 : (g.ph ++ [p])[n]? = some a := e1
    have h2 : (g.ph ++ [p])[m]? = some a := e2
    by_cases hn1 : n < g.ph.length
    · rw [List.getElem?_append_left hn1] at h1
      by_cases hm1 : m < g.ph.length
      · rw [List.getElem?_append_left hm1] at h2
        exact R.inj n m a h1 h2
      · rw [List.getElem?_append_right (by omega)] at h2
        have : a = p := by
          have := List.mem_of_getElem? h2
          simpa using this
        exact absurd (this ▸ List.mem_of_getElem? h1) hn
    · rw [List.getElem?_append_right (by omega)] at h1
      have ha : a = p := by
        have := List.mem_of_getElem? h1
        simpa using this
      by_cases hm1 : m < g.ph.length
      · rw [List.getElem?_append_left hm1] at h2
        exact absurd (ha ▸ List.mem_of_getElem? h2) hn
      · have l1 := (List.getElem?_eq_some_iff.mp e1).1
        have l2 := (List.getElem?_eq_some_iff.mp e2).1
        simp at l1 l2
        omega
  · have hm' : a ∈ g.ph ∨ a = p := by simpa using hm
    rcases hm' with z | z
    · obtain ⟨u, q⟩ := R.tr a z
      exact ⟨u, up _ _ q⟩
    · subst z; exact ⟨_, upd_same⟩
  · have hm' : a ∈ g.ph ∨ a = p := by simpa using hm
    rcases hm' with z | z
    · exact .inl z
    · subst z; exact .inr hp
theorem Rel.setO {K : PySem.W.Frag} {g : Gh} {M : List MO} {H : Hp} {n : Nat} {p : Addr} {u : HO} {o : MO} (R : Rel K g M H) (hp : g.ph[n]? = some p) (hF : g.F p = none) (ho : MOk K g (L2.upd H p u) p o) :
    Rel K g (M.set n o) (L2.upd H p u) ∧ Ext g H g (L2.upd H p u) := by
  have hm : p ∈ g.ph := List.mem_of_getElem? hp
  have hl : n < M.length := by rw [← R.len]; exact (List.getElem?_eq_some_iff.mp hp).1
  refine ⟨⟨fun a u e => ?_, by rw [List.length_set]; exact R.len, fun m o e l => ?_, R.inj, fun a hm => ?_⟩, ⟨Gr.refl g, fun a o e hn => ?_, fun a h h' => absurd h h', fun a h => .inl h⟩⟩
  · rw [upd_ne (ne_of_none e hF)]; exact R.sub _ _ e
  · by_cases h : n = m
    · subst h
      rw [List.getElem?_set_self hl] at e
      cases e
      exact ⟨p, hp, hF, ho⟩
    · rw [List.getElem?_set_ne h] at e
      obtain ⟨a, e1, e2, e3⟩ := R.at_ m o e l
      refine ⟨a, e1, e2, MOk.gr (Gr.refl g) (fun o' q => ?_) e3⟩
      rw [upd_ne]
      · exact q
      · intro z
        subst z
        exact h (R.inj _ _ _ hp e1)
  · by_cases h : a = p
    · subst h; exact ⟨_, upd_same⟩
    · rw [upd_ne h]; exact R.tr a hm
  · rw [upd_ne (fun z => hn (by rw [z]; exact hm))]; exact e

/-! ### own classes -/
/-- what the top says of a class: its plain attributes -/
structure ClT (K : PySem.W.Frag) (mg : Str → Option Value) (c : Str) (as : List Str) : Prop where
  ex : ∃ C, PySem.W.nsIn K mainGlobals c = some (some (.ref C)) ∧ mg c = some (.ref C) ∧ Cls K C ∧ ∀ f ∈ as, NoAttr K C f
theorem lookup_rw {K : PySem.W.Frag} {g : Gh} {f : Str} {w : W} : ∀ {vs : List (Str × V)} {fs : List (Str × W)}, vs.map (·.1) = fs.map (·.1) → RWs K g (vs.map (·.2)) (fs.map (·.2)) → fs.lookup f = some w → ∃ v, vs.lookup f = some v ∧ RW K g v w
  | [], [], _, _, e => by cases e
  | [], _ :: _, h, _, _ => by cases h
  | _ :: _, [], h, _, _ => by cases h
  | (a, v) :: vs, (b, u) :: fs, h, r, e => by
    rw [List.map_cons, List.map_cons, List.cons.injEq] at h
    obtain ⟨h1, h2⟩ := h
    have h1' : a = b := h1
    subst h1'
    rw [List.lookup_cons] at e ⊢
    cases r with
    | cons r1 r2 =>
      cases q : (f == a) with
      | true => rw [q] at e; cases e; exact ⟨v, rfl, r1⟩
      | false => rw [q] at e; exact lookup_rw h2 r2 e
theorem lookup_nn {f : Str} {α β : Type} : ∀ {vs : List (Str × α)} {fs : List (Str × β)}, vs.map (·.1) = fs.map (·.1) → fs.lookup f = none → vs.lookup f = none
  | [], [], _, _ => rfl
  | [], _ :: _, h, _ => by cases h
  | _ :: _, [], h, _ => by cases h
  | (a, v) :: vs, (b, u) :: fs, h, e => by
    rw [List.map_cons, List.map_cons, List.cons.injEq] at h
    obtain ⟨h1, h2⟩ := h
    have h1' : a = b := h1
    subst h1'
    rw [List.lookup_cons] at e ⊢
    cases q : (f == a) with
    | true => rw [q] at e; cases e
    | false => rw [q] at e; exact lookup_nn h2 e
def sFld (c f : Str) (fe : EF) : EF := fun ρ M => (fe ρ M).bind fun w M1 => match w with
  | .loc n => match M1[n]? with
    | some (.obj c' fs) => if c' = c then match fs.lookup f with
      | some w => .ok w M1
      | none => .stuck
      else .stuck
    | _ => .stuck
  | _ => .stuck
section
variable {X : Cx} {xw : WX} {e o : Expr} {fe fo fv : EF} {pos p1 : Pos} {k : Nat} {c f : Str} {as : List Str}
theorem me_fld (T : ClT X.K X.mg c as) (he : ME X xw e fe) (hf : f ∈ as := by decide) (hb : attributeBase e f X.env (eval e X.env) = eval e X.env := by rfl) : ME X xw (.Attribute e f pos) (sFld c f fe) := by
  obtain ⟨C, h1, h2, h3, h4⟩ := T.ex
  refine PE.imp (pe_fld he hb) fun σ H Q h => tG_mono (tG_bind (R2 := RW X.K) h) fun v H1 ⟨g, ρ, M, w, R, S, q, b⟩ => ?_
  cases w with
  | loc n =>
    cases q with
    | loc q =>
      rename_i a
      cases em : M[n]? with
      | none => simp only [em] at b; exact b.elim
      | some z =>
        simp only [em] at b
        cases z with
        | obj c' fs =>
          simp only at b
          split at b
          · rename_i hc
            subst hc
            cases el : fs.lookup f with
            | none => rw [el] at b; exact b.elim
            | some w =>
              rw [el] at b
              obtain ⟨a', e1, e2, vs, ⟨C', dx, e3, e4⟩, e5, e6⟩ := R.at_ n _ em rfl
              rw [q] at e1
              cases e1
              rw [h1] at e3
              cases e3
              obtain ⟨u, l1, l2⟩ := lookup_rw e5 e6 el
              exact ⟨_, C, dx, vs, u, rfl, e4, h3, h4 f hf, l1, b u g H1 R (Ext.refl _ _) l2⟩
          · exact b.elim
        | _ => exact b.elim
  | _ => exact b.elim
/-! o.f = e -/
def putW (f : Str) (w : W) : List (Str × W) → List (Str × W)
  | [] => [(f, w)]
  | (k, x) :: r => if k = f then (k, w) :: r else (k, x) :: putW f w r
end
/-! C(..) -/
structure CalC (P : Program) (w : World) (K : PySem.W.Frag) (mg : Str → Option Value) (base : Heap) (k : Nat) (c : Str) (ps : List Str) (mf : MF) : Prop where
  ex : ∃ (C f : Addr) (fd : FuncData), PySem.W.nsIn K mainGlobals c = some (some (.ref C)) ∧ mg c = some (.ref C) ∧ Mk K C f ∧ FnM P w K mg base k f fd ps mf ∧ Binds K fd ps []
theorem CalC.mono {P : Program} {w : World} {K : PySem.W.Frag} {mg : Str → Option Value} {base : Heap} {j k : Nat} {x : Str} {ps : List Str} {mf : MF} (c : CalC P w K mg base j x ps mf) (h : j ≤ k) : CalC P w K mg base k x ps mf :=
  let ⟨C, f, fd, h1, h2, h3, F, r⟩ := c.ex
  ⟨C, f, fd, h1, h2, h3, ⟨fun A outer s H args us vs Q E hr => F.run A outer s H args us vs Q E (hr.mono h)⟩, r⟩
theorem run_makeM {X : Cx} {k : Nat} {xw : WX} {D f : Addr} {fd : FuncData} {ps : List Str} {mf : MF} (C : Ctx X (k + 1) xw) (M : Mk X.K D f) (F : FnM X.prog X.w X.K X.mg X.base k f fd ps mf) (hb : Binds X.K fd ps [])
    {pins : List (Addr × Obj)} {σ : L2.St} {H : Hp} {s : Shared} {Q : VK} {us : List Value} {vs : List V} (I : Inv X pins σ H s) (r : Vals vs us) (hl : vs.length + 1 = ps.length)
    (h : ∀ x dx, H x = none → H dx = none → dx ≠ x → spM (tx X) mf (.ref x :: vs) (L2.upd (L2.upd H dx (.own x)) x (.ins D dx [])) (fun v H2 => v = .non ∧ Q (.ref x) H2) (WE xw σ)) :
    wpAny (model X.prog X.w) X.A (call (.ref D) us) (EP X pins σ Q) X.xe s := by
  have hq := h (s.heap.objs.size + 1) s.heap.objs.size (I.hok.fresh (Nat.le_succ _)) (I.hok.fresh (Nat.le_refl _)) (Nat.ne_of_lt (Nat.lt_succ_self _))
  have I2 := Inv.made (C := D) I
  have r2 : Vals (V.ref (s.heap.objs.size + 1) :: vs) (Value.ref (s.heap.objs.size + 1) :: us) := .cons rfl r
  have l2 : (V.ref (s.heap.objs.size + 1) :: vs).length = ps.length := hl
  have hl' : (Value.ref (s.heap.objs.size + 1) :: us).length = ps.length := by rw [← r2.length]; exact l2
  have b := hb { heap := (s.heap.push PySem.W.emptyDict).push (PySem.W.instObj D s.heap.objs.size), gens := s.gens, drawn := s.drawn, toks := s.toks, os := s.os } (Value.ref (s.heap.objs.size + 1) :: us) I2.kIn (by rw [List.append_nil]; exact hl')
  rw [List.append_nil] at b
  have gd : (X.A.under (.builtin "type.__call__" { pos := Value.ref D :: us })).guards = some [] := by
    simp only [Around.under]
    rw [C.gd]
    rfl
  refine wpAny_call (make_map I.kIn M.makes M.init (beq_iff_eq.mp M.fn) (codeAny_mono (F.run _ X.stack _ _ _ _ _ _ (WE xw σ) (Room.make C.room D us []) gd (Env0.make I2.env0 D us []) b r2 l2 hq) fun r s' hq' => ?_))
  cases r with
  | error e => exact passAt C.takes σ pins _ _ e s' I2 hq'
  | ok fl =>
    cases fl with
    | ret u =>
      obtain ⟨v, H', I3, rv, ev, q3⟩ := I2.after hq'
      subst ev
      exact ⟨rv, .ref _, H', I3, rfl, q3⟩
    | next => exact False.elim hq'
    | brk => exact False.elim hq'
    | cont => exact False.elim hq'
def sMake (c : Str) (mf : MF) (n : Nat) (fs : List EF) : EF := fun ρ M => (evs fs ρ M).bind fun ws M1 => if ws.length + 1 = n then match mf (.loc M1.length :: ws) (M1 ++ [.obj c []]) with
    | .ok (.d .none) M2 => .ok (.loc M1.length) M2
    | .err e M2 => .err e M2
    | _ => .stuck
  else .stuck
section
variable {X : Cx} {xw : WX} {e o : Expr} {es : List Expr} {fs : List EF} {fe fo fv : EF} {pos p p1 apos : Pos} {k : Nat} {c m f : Str} {as ps : List Str} {mf : MF}
/-- the new instance is laid -/
theorem made_ok {K : PySem.W.Frag} {g : Gh} {M : List MO} {H : Hp} {D x dx : Addr} (hD : PySem.W.nsIn K mainGlobals c = some (some (.ref D))) (R : Rel K g M H) (hx : H x = none) (hdx : H dx = none) (ne : dx ≠ x) :
    ∃ g', Rel K g' (M ++ [.obj c []]) (L2.upd (L2.upd H dx (.own x)) x (.ins D dx [])) ∧ Ext g H g' (L2.upd (L2.upd H dx (.own x)) x (.ins D dx [])) ∧ g'.ph[M.length]? = some x := by
  have R1 := R.lay (o := .own x) hdx
  have E1 : Ext g H ⟨g.ph, L2.upd g.F dx (.own x)⟩ (L2.upd H dx (.own x)) := Ext.lay R.sub hdx
  have hx1 : L2.upd H dx (.own x) x = none := by rw [upd_ne (Ne.symm ne)]; exact hx
  obtain ⟨R2, E2⟩ := R1.push (u := .ins D dx []) (o := .obj c []) hx1 ⟨[], ⟨D, dx, hD, upd_same⟩, rfl, .nil⟩
  refine ⟨_, R2, E1.trans E2, ?_⟩
  show (g.ph ++ [x])[M.length]? = some x
  rw [List.getElem?_append_right (by rw [R.len]; exact Nat.le_refl _), R.len, Nat.sub_self]
  rfl
theorem make_back {σ : L2.St} {H1 : Hp} {Q : VK} {g : Gh} {ρ : Rho} {M : List MO} {vs : List V} {ws : List W} {D x dx : Addr} (hD : PySem.W.nsIn X.K mainGlobals c = some (some (.ref D))) (R : Rel X.K g M H1) (q : RWs X.K g vs ws)
    (b : Bhd (tx X) (fun c d H => xw c d σ H) (RW X.K) Q (match mf (.loc M.length :: ws) (M ++ [.obj c []]) with
      | .ok (.d .none) M2 => .ok (.loc M.length) M2
      | .err e M2 => .err e M2
      | _ => .stuck) g H1) (hx : H1 x = none) (hdx : H1 dx = none) (ne : dx ≠ x) :
    spM (tx X) mf (.ref x :: vs) (L2.upd (L2.upd H1 dx (.own x)) x (.ins D dx [])) (fun v H2 => v = .non ∧ Q (.ref x) H2) (WE xw σ) := by
  obtain ⟨g', R', E', hp⟩ := made_ok hD R hx hdx ne
  have q' : RWs X.K g' vs ws := RWs.gr E'.gr q
  refine ⟨g', .loc M.length :: ws, M ++ [.obj c []], R', .cons (.loc hp) q', ?_⟩
  cases r : mf (.loc M.length :: ws) (M ++ [.obj c []]) with
  | stuck => rw [r] at b; exact b.elim
  | err y M2 => rw [r] at b; exact fun cls d g2 H2 R2 E2 ix => b cls d g2 H2 R2 (E'.trans E2) ix
  | ok w M2 =>
    rw [r] at b
    intro v g2 H2 R2 E2 rv
    cases w with
    | d y =>
      cases y with
      | none =>
        cases rv with
        | d rv =>
          cases rv
          exact ⟨rfl, b (.ref x) g2 H2 R2 (E'.trans E2) (.loc (E2.gr.ph _ _ hp))⟩
      | _ => exact b.elim
    | _ => exact b.elim
theorem me_make (C : Ctx X (k + 1) xw) (T : CalC X.prog X.w X.K X.mg X.base k c ps mf) (ha : MA X xw (e :: es) fs) (hg : Gl X c := by rfl) (hdb : (c == ("__debug__" : Str)) = false := by decide)
    (he : starEach (e :: es) X.env = (false, eval e X.env) :: starEach es X.env := by rfl) (hpl : (backTo pos (starEach es X.env)).any (·.1) = false := by rfl) : ME X xw (.Call (.Name c p) (e :: es) [] pos) (sMake c mf ps.length fs) := by
  obtain ⟨D, f, fd, hD, hm, M, F, hb⟩ := T.ex
  refine ⟨fun pins s σ H Q I h => wpAny_Call_Name_kw (ld_glob I hg hm (PySem.W.callWith_K (h₀ := X.base) I.ok.mod.kin M.kp (thn (ha.run pos pins s σ H (fun vs H1 => vs.length + 1 = ps.length ∧ ∀ x dx, H1 x = none → H1 dx = none → dx ≠ x → spM (tx X) mf (.ref x :: vs) (L2.upd (L2.upd H1 dx (.own x)) x (.ins D dx [])) (fun v H2 => v = .non ∧ Q (.ref x) H2) (WE xw σ)) I ?_) fun us s1 ⟨vs, H1, I1, r, q⟩ => ⟨I1.kIn, run_makeM C M F hb I1 r q.1 q.2⟩) he hpl) hdb)⟩
  refine tG_mono (tG_bind (R2 := RWs X.K) h) fun vs H1 ⟨g, ρ, M1, ws, R, S, q, b⟩ => ?_
  by_cases hl : ws.length + 1 = ps.length
  · rw [if_pos hl] at b
    exact ⟨by rw [q.length]; exact hl, fun x dx hx hdx ne => make_back (ρ := ρ) hD R q b hx hdx ne⟩
  · rw [if_neg hl] at b; exact b.elim
theorem me_make0 (C : Ctx X (k + 1) xw) (T : CalC X.prog X.w X.K X.mg X.base k c ps mf) (hg : Gl X c := by rfl) (hdb : (c == ("__debug__" : Str)) = false := by decide) : ME X xw (.Call (.Name c p) [] [] pos) (sMake c mf ps.length []) := by
  obtain ⟨D, f, fd, hD, hm, M, F, hb⟩ := T.ex
  refine ⟨fun pins s σ H Q I h => ?_⟩
  obtain ⟨g, ρ, M1, R, S, b⟩ := h
  by_cases hl : ([] : List W).length + 1 = ps.length
  · have b' : Bhd (tx X) (fun c d H => xw c d σ H) (RW X.K) Q (if ([] : List W).length + 1 = ps.length then match mf (.loc M1.length :: []) (M1 ++ [.obj c []]) with
      | .ok (.d .none) M2 => .ok (.loc M1.length) M2
      | .err e M2 => .err e M2
      | _ => .stuck else .stuck) g H := b
    rw [if_pos hl] at b'
    exact wpAny_Call_Name_kw (ld_glob I hg hm (PySem.W.callWith_K0 I.kIn M.kp (run_makeM C M F hb I .nil hl fun x dx hx hdx ne => make_back (ρ := ρ) hD R .nil b' hx hdx ne)) hdb)
  · have b' : Bhd (tx X) (fun c d H => xw c d σ H) (RW X.K) Q (if ([] : List W).length + 1 = ps.length then match mf (.loc M1.length :: []) (M1 ++ [.obj c []]) with
      | .ok (.d .none) M2 => .ok (.loc M1.length) M2
      | .err e M2 => .err e M2
      | _ => .stuck else .stuck) g H := b
    rw [if_neg hl] at b'
    exact b'.elim
end
/-! o.f = e -/
theorem putF_rw {K : PySem.W.Frag} {g : Gh} {f : Str} {v : V} {w : W} (h : RW K g v w) : ∀ {vs : List (Str × V)} {fs : List (Str × W)}, vs.map (·.1) = fs.map (·.1) → RWs K g (vs.map (·.2)) (fs.map (·.2)) →
    (putF f v vs).map (·.1) = (putW f w fs).map (·.1) ∧ RWs K g ((putF f v vs).map (·.2)) ((putW f w fs).map (·.2))
  | [], [], _, _ => ⟨rfl, .cons h .nil⟩
  | [], _ :: _, h, _ => by cases h
  | _ :: _, [], h, _ => by cases h
  | (a, v') :: vs, (b, u) :: fs, e, r => by
    rw [List.map_cons, List.map_cons, List.cons.injEq] at e
    obtain ⟨h1, h2⟩ := e
    have h1' : a = b := h1
    subst h1'
    cases r with
    | cons r1 r2 =>
      rw [putF.eq_2, putW]
      by_cases q : a = f
      · rw [if_pos q, if_pos q]
        exact ⟨by rw [List.map_cons, List.map_cons, h2], .cons h r2⟩
      · rw [if_neg q, if_neg q]
        obtain ⟨i1, i2⟩ := putF_rw h h2 r2
        exact ⟨by rw [List.map_cons, List.map_cons, i1], .cons r1 i2⟩
def sFldSet (c f : Str) (fo fv : EF) : SF := sThen fv fun ρ w M1 => match fo ρ M1 with
  | .ok (.loc n) M2 => match M2[n]? with
    | some (.obj c' fs) => if c' = c ∧ fs.length < 1000 then .nx ρ (M2.set n (.obj c (putW f w fs))) else .stuck
    | _ => .stuck
  | _ => .stuck
section
variable {X : Cx} {xw : WX} {e o : Expr} {es : List Expr} {fs : List EF} {fe fo fv : EF} {pos p p1 apos : Pos} {k : Nat} {c m f : Str} {as ps : List Str} {mf : MF}
theorem ms_fldSet (T : ClT X.K X.mg c as) (ho : ME X xw o fo) (he : ME X xw e fv) (hf : f ∈ as := by decide) (hs : swapsWith e (some (.Attribute o f p1)) pos.line X.env = pure false := by rfl) : MS X xw (.Assign [.Attribute o f p1] e pos) (sFldSet c f fo fv) := by
  obtain ⟨C, h1, h2, h3, h4⟩ := T.ex
  refine PS.imp (ps_fld ho he hs) fun D σ H q => tG_mono (tS_then q) fun v H1 ⟨g, ρ, M, w, R, S, r, b⟩ => ?_
  refine ⟨g, ρ, M, R, S, ?_⟩
  cases eo : fo ρ M with
  | stuck => rw [eo] at b; exact b.elim
  | err y M2 => rw [eo] at b; exact b.elim
  | ok u M2 =>
    rw [eo] at b
    intro v2 g2 H2 R2 E2 r2
    cases u with
    | loc n =>
      cases r2 with
      | loc r2 =>
        rename_i a
        cases em : M2[n]? with
        | none => simp only [em] at b; exact b.elim
        | some z =>
          simp only [em] at b
          cases z with
          | obj c' fs =>
            simp only at b
            split at b
            · rename_i hc
              obtain ⟨hc, hl⟩ := hc
              subst hc
              obtain ⟨a', e1, e2, vs, ⟨C', dx, e3, e4⟩, e5, e6⟩ := R2.at_ n _ em rfl
              rw [r2] at e1
              cases e1
              rw [h1] at e3
              cases e3
              obtain ⟨i1, i2⟩ := putF_rw (f := f) (RW.gr E2.gr r) e5 e6
              obtain ⟨R3, E3⟩ := R2.setO (u := .ins C dx (putF f v vs)) (o := .obj c' (putW f w fs)) r2 e2 ⟨_, ⟨C, dx, h1, upd_same⟩, i1, i2⟩
              have hl' : vs.length < 1000 := by have := congrArg List.length e5; simp at this; omega
              exact ⟨_, C, dx, vs, rfl, e4, h3, h4 f hf, hl', b σ g2 _ R3 (E2.trans E3) (S.gr (E2.trans E3).gr)⟩
            · exact b.elim
          | _ => exact b.elim
    | _ => exact b.elim
end
/-! o.m(..) -/
structure CalM (P : Program) (w : World) (K : PySem.W.Frag) (mg : Str → Option Value) (base : Heap) (k : Nat) (c m : Str) (ps : List Str) (mf : MF) : Prop where
  ex : ∃ (C f : Addr) (fd : FuncData), PySem.W.nsIn K mainGlobals c = some (some (.ref C)) ∧ Cls K C ∧ Meth K C m f ∧ FnM P w K mg base k f fd ps mf ∧ Binds K fd ps []
theorem CalM.mono {P : Program} {w : World} {K : PySem.W.Frag} {mg : Str → Option Value} {base : Heap} {j k : Nat} {x m : Str} {ps : List Str} {mf : MF} (c : CalM P w K mg base j x m ps mf) (h : j ≤ k) : CalM P w K mg base k x m ps mf :=
  let ⟨C, f, fd, h1, h2, h3, F, r⟩ := c.ex
  ⟨C, f, fd, h1, h2, h3, ⟨fun A outer s H args us vs Q E hr => F.run A outer s H args us vs Q E (hr.mono h)⟩, r⟩
def isObj (c m : Str) (M : List MO) (j : Nat) : Bool := match M[j]? with
  | some (.obj c' fs) => decide (c' = c) && (fs.lookup m).isNone
  | _ => false
def sMethW (c m : Str) (mf : MF) (n : Nat) (fo : EF) (fs : List EF) : EF := fun ρ M => (fo ρ M).bind fun w M1 => match w with
  | .loc j => if isObj c m M1 j = true then (evs fs ρ M1).bind fun ws M2 => if ws.length + 1 = n then mf (.loc j :: ws) M2 else .stuck else .stuck
  | _ => .stuck
section
variable {X : Cx} {xw : WX} {e o : Expr} {es : List Expr} {fs : List EF} {fe fo fv : EF} {pos p p1 apos : Pos} {k : Nat} {c m f : Str} {as ps : List Str} {mf : MF} {pl : Sem Bool}
theorem isObj_ok {K : PySem.W.Frag} {g : Gh} {M : List MO} {H : Hp} {j : Nat} {a D : Addr} (hD : PySem.W.nsIn K mainGlobals c = some (some (.ref D))) (R : Rel K g M H) (hj : g.ph[j]? = some a) (h : isObj c m M j = true) : ∃ dx fs, H a = some (.ins D dx fs) ∧ fs.lookup m = none := by
  unfold isObj at h
  split at h
  · rename_i c' fs q
    rw [Bool.and_eq_true, decide_eq_true_eq, Option.isNone_iff_eq_none] at h
    obtain ⟨rfl, h2⟩ := h
    obtain ⟨a', e1, e2, vs, ⟨C', dx, e3, e4⟩, e5, e6⟩ := R.at_ j _ q rfl
    rw [hj] at e1
    cases e1
    rw [hD] at e3
    cases e3
    exact ⟨dx, vs, e4, lookup_nn e5 h2⟩
  · cases h
theorem meth_of {mf : MF} {n : Nat} {D : Addr} (hD : PySem.W.nsIn X.K mainGlobals c = some (some (.ref D))) {σ : L2.St} {H : Hp} {Q : VK} (h : tE (tx X) xw (sMethW c m mf n fo fs) σ H Q) :
    tE (tx X) xw fo σ H fun x H1 => ∃ a dx us, x = .ref a ∧ H1 a = some (.ins D dx us) ∧ us.lookup m = none ∧ tA (tx X) xw fs σ H1 fun vs H2 => (x :: vs).length = n ∧ spM (tx X) mf (x :: vs) H2 Q (WE xw σ) := by
  refine tG_mono (tG_bind (R2 := RW X.K) h) fun v H1 ⟨g, ρ, M, w, R, S, q, b⟩ => ?_
  cases w with
  | loc j =>
    cases q with
    | loc q =>
      rename_i a
      simp only at b
      split at b
      · rename_i ho
        obtain ⟨dx, us, i1, i2⟩ := isObj_ok hD R q ho
        refine ⟨_, dx, us, rfl, i1, i2, g, ρ, M, R, S, ?_⟩
        cases ea : evs fs ρ M with
        | stuck => rw [ea] at b; exact b
        | err y M2 => rw [ea] at b; exact b
        | ok ws M2 =>
          rw [ea] at b
          intro vs g2 H2 R2 E2 r2
          have b' : Bhd (tx X) (fun c d H => xw c d σ H) (RW X.K) Q (if ws.length + 1 = n then mf (.loc j :: ws) M2 else .stuck) g H1 := b
          split at b'
          · rename_i hl
            refine ⟨by rw [List.length_cons, r2.length]; exact hl, g2, .loc j :: ws, M2, R2, .cons (.loc (E2.gr.ph _ _ q)) r2, Bhd.later b' E2⟩
          · exact b'.elim
      · exact b.elim
  | _ => exact b.elim
theorem me_meth1 (C : Ctx X k xw) (T : CalM X.prog X.w X.K X.mg X.base k c m ps mf) (ho : ME X xw o fo) (ha : MA X xw (e :: es) fs)
    (hst : starEach (e :: es) X.env = (false, eval e X.env) :: starEach es X.env := by rfl) (hpl : (backTo pos (starEach es X.env)).any (·.1) = false := by rfl)
    (ht : eval (.Call (.Attribute o m apos) (e :: es) [] pos) X.env = (do
      let ov ← eval o X.env
      standAt apos.atName
      let (f, first) ← holding [ov] (getMethod ov m pl)
      callWith pos f first (backTo pos (starEach (e :: es) X.env)) (backToKw pos (keywordEach [] X.env))) := by rfl) : ME X xw (.Call (.Attribute o m apos) (e :: es) [] pos) (sMethW c m mf ps.length fo fs) := by
  obtain ⟨D, f, fd, hD, hc, hm, F, hb⟩ := T.ex
  refine ⟨fun pins s σ H Q I h => PySem.W.methodCall_KW (thn (ho.run pins s σ H _ I (meth_of hD h)) fun u s1 ⟨x, H1, I1, rx, a, dx, us, ex, ea, l, q⟩ => ?_) ht⟩
  subst ex
  cases rx
  exact getmeth_ok I1 ea hc hm l (PySem.W.callWith_K (h₀ := X.base) I.ok.mod.kin hm.kp (thn (ha.run pos pins s1 σ H1 _ I1 q) fun us s2 ⟨vs, H2, I2, r, q2⟩ => ⟨I2.kIn, run_fnM C F hb I2 (show Vals (V.ref a :: vs) (Value.ref a :: us) from .cons rfl r) q2.1 q2.2⟩) hst hpl)
theorem me_meth0' (C : Ctx X k xw) (T : CalM X.prog X.w X.K X.mg X.base k c m ps mf) (ho : ME X xw o fo)
    (ht : eval (.Call (.Attribute o m apos) [] [] pos) X.env = (do
      let ov ← eval o X.env
      standAt apos.atName
      let (f, first) ← holding [ov] (getMethod ov m pl)
      callWith pos f first (backTo pos (starEach [] X.env)) (backToKw pos (keywordEach [] X.env))) := by rfl) : ME X xw (.Call (.Attribute o m apos) [] [] pos) (sMethW c m mf ps.length fo []) := by
  obtain ⟨D, f, fd, hD, hc, hm, F, hb⟩ := T.ex
  refine ⟨fun pins s σ H Q I h => PySem.W.methodCall_KW (thn (ho.run pins s σ H _ I (meth_of hD h)) fun u s1 ⟨x, H1, I1, rx, a, dx, us, ex, ea, l, q⟩ => ?_) ht⟩
  subst ex
  cases rx
  obtain ⟨g, ρ, M1, R, S, b⟩ := q
  obtain ⟨l1, l2⟩ := b [] g H1 R (Ext.refl _ _) .nil
  exact getmeth_ok I1 ea hc hm l (PySem.W.callWith_K0 I1.kIn hm.kp (run_fnM C F hb I1 (show Vals [V.ref a] [Value.ref a] from .cons rfl .nil) l1 l2))
end
/-- what the top says of a method, of a class that is made -/
structure Txt1M (K : PySem.W.Frag) (c m qual : Str) (st : Stmt) (ps : List Str) : Prop where
  ex : ∃ (C f : Addr) (fd : FuncData), PySem.W.nsIn K mainGlobals c = some (some (.ref C)) ∧ Cls K C ∧ Meth K C m f ∧ Fun K m qual st f fd ∧ Binds K fd ps []
theorem calM_of {P : Program} {w : World} {K : PySem.W.Frag} {mg : Str → Option Value} {base : Heap} {c m qual : Str} {st : Stmt} {N ps : List Str} {k : Nat} {sf : SF} (t : Txt1M K c m qual st ps) (S : FnScope N ps (defScope st))
    (hbody : ∀ (f : Addr) (cdv : Value) (A : Around) (outer : List Env) (s : Shared) (H : Hp) (E : L2.XK), Ctx (cxOf (L2.CX P w) P w K mg base N qual (defScope st) f cdv A outer s H E) k (fun c d _ H => E c d H) →
      MSs (cxOf (L2.CX P w) P w K mg base N qual (defScope st) f cdv A outer s H E) (fun c d _ H => E c d H) (defBody st) sf) : CalM P w K mg base (k + 1) c m ps (defF N.length sf) :=
  let ⟨C, f, fd, h1, h2, h3, F, b⟩ := t.ex
  ⟨C, f, fd, h1, h2, h3, fnM_of F S (hbody f), b⟩
structure Txt1C (K : PySem.W.Frag) (mg : Str → Option Value) (c qual : Str) (st : Stmt) (ps : List Str) : Prop where
  ex : ∃ (C f : Addr) (fd : FuncData), PySem.W.nsIn K mainGlobals c = some (some (.ref C)) ∧ mg c = some (.ref C) ∧ Mk K C f ∧ Fun K "__init__" qual st f fd ∧ Binds K fd ps []
theorem calC_of {P : Program} {w : World} {K : PySem.W.Frag} {mg : Str → Option Value} {base : Heap} {c qual : Str} {st : Stmt} {N ps : List Str} {k : Nat} {sf : SF} (t : Txt1C K mg c qual st ps) (S : FnScope N ps (defScope st))
    (hbody : ∀ (f : Addr) (cdv : Value) (A : Around) (outer : List Env) (s : Shared) (H : Hp) (E : L2.XK), Ctx (cxOf (L2.CX P w) P w K mg base N qual (defScope st) f cdv A outer s H E) k (fun c d _ H => E c d H) →
      MSs (cxOf (L2.CX P w) P w K mg base N qual (defScope st) f cdv A outer s H E) (fun c d _ H => E c d H) (defBody st) sf) : CalC P w K mg base (k + 1) c ps (defF N.length sf) :=
  let ⟨C, f, fd, h1, h2, h3, F, b⟩ := t.ex
  ⟨C, f, fd, h1, h2, h3, fnM_of F S (hbody f), b⟩
end Y
namespace Y
open PySem PySem.Spec PyProof.Rows L2

/-! ### dicts that grow -/
def keyK : PyData → Option L2.Key
  | .int i => some (.inl i)
  | .str x => some (.inr x)
  | _ => none
def keysK : List PyData → Option (List L2.Key)
  | [] => some []
  | d :: ds => match keyK d with
    | some k => match keysK ds with
      | some ks => some (k :: ks)
      | none => none
    | none => none
def valD {κ : Type} [DecidableEq κ] (kvs : List (κ × PyData)) (k : κ) : Option PyData := (kvs.find? fun kv => decide (kv.1 = k)).map (·.2)
def putD {κ : Type} [DecidableEq κ] (kvs : List (κ × PyData)) (k : κ) (d : PyData) : List (κ × PyData) := if (kvs.any fun kv => decide (kv.1 = k)) = true then kvs.map (fun kv => if kv.1 = k then (kv.1, d) else kv) else kvs ++ [(k, d)]
theorem keyK_ok {K : PySem.W.Frag} {F : Hp} {v : V} {x : PyData} {k : L2.Key} (h : Dq K F v x) (e : keyK x = some k) : v = kV k := by
  cases h with
  | int i => cases e; rfl
  | str i => cases e; rfl
  | _ => cases e
theorem keysK_ok {K : PySem.W.Frag} {F : Hp} : ∀ {vs : List V} {xs : List PyData} {ks : List L2.Key}, DqAll K F vs xs → keysK xs = some ks → vs = ks.map kV
  | _, _, _, .nil, e => by cases e; rfl
  | _, _, _, .cons h t, e => by
    unfold keysK at e
    split at e
    · rename_i q
      split at e
      · rename_i q2
        cases e
        rw [List.map_cons, keyK_ok h q, keysK_ok t q2]
      · cases e
    · cases e
section
variable {κ : Type} [DecidableEq κ] {K : PySem.W.Frag} {F : Hp}
theorem val_some {k : κ} {d : PyData} : ∀ {vs : List (κ × V)} {kvs : List (κ × PyData)}, vs.map (·.1) = kvs.map (·.1) → DqAll K F (vs.map (·.2)) (kvs.map (·.2)) → valD kvs k = some d → ∃ v, valV vs k = some v ∧ Dq K F v d
  | [], [], _, _, e => by cases e
  | [], _ :: _, h, _, _ => by cases h
  | _ :: _, [], h, _, _ => by cases h
  | (a, v) :: vs, (b, u) :: fs, h, r, e => by
    rw [List.map_cons, List.map_cons, List.cons.injEq] at h
    obtain ⟨h1, h2⟩ := h
    have h1' : a = b := h1
    subst h1'
    cases r with
    | cons r1 r2 =>
      unfold valD at e
      unfold valV
      rw [List.find?_cons] at e ⊢
      by_cases q : a = k
      · simp only [q, decide_true, Option.map_some] at e ⊢
        cases e
        exact ⟨v, rfl, r1⟩
      · simp only [q, decide_false] at e ⊢
        exact val_some h2 r2 e
theorem val_none {k : κ} : ∀ {vs : List (κ × V)} {kvs : List (κ × PyData)}, vs.map (·.1) = kvs.map (·.1) → valD kvs k = none → valV vs k = none
  | [], [], _, _ => rfl
  | [], _ :: _, h, _ => by cases h
  | _ :: _, [], h, _ => by cases h
  | (a, v) :: vs, (b, u) :: fs, h, e => by
    rw [List.map_cons, List.map_cons, List.cons.injEq] at h
    obtain ⟨h1, h2⟩ := h
    have h1' : a = b := h1
    subst h1'
    unfold valD at e
    unfold valV
    rw [List.find?_cons] at e ⊢
    by_cases q : a = k
    · simp only [q, decide_true, Option.map_some] at e
      cases e
    · simp only [q, decide_false] at e ⊢
      exact val_none h2 e
theorem val_rel {k : κ} {vs : List (κ × V)} {kvs : List (κ × PyData)} (h : vs.map (·.1) = kvs.map (·.1)) (r : DqAll K F (vs.map (·.2)) (kvs.map (·.2))) : (valV vs k).isSome = (valD kvs k).isSome := by
  cases e : valD kvs k with
  | none => rw [val_none h e]; rfl
  | some d => obtain ⟨v, e2, _⟩ := val_some h r e; rw [e2]; rfl
theorem any_rel {k : κ} : ∀ {vs : List (κ × V)} {kvs : List (κ × PyData)}, vs.map (·.1) = kvs.map (·.1) → (vs.any fun kv => decide (kv.1 = k)) = (kvs.any fun kv => decide (kv.1 = k))
  | [], [], _ => rfl
  | [], _ :: _, h => by cases h
  | _ :: _, [], h => by cases h
  | (a, v) :: vs, (b, u) :: fs, h => by
    rw [List.map_cons, List.map_cons, List.cons.injEq] at h
    obtain ⟨h1, h2⟩ := h
    have h1' : a = b := h1
    subst h1'
    rw [List.any_cons, List.any_cons, any_rel h2]
theorem put_map {k : κ} {v : V} {d : PyData} (q : Dq K F v d) : ∀ {vs : List (κ × V)} {kvs : List (κ × PyData)}, vs.map (·.1) = kvs.map (·.1) → DqAll K F (vs.map (·.2)) (kvs.map (·.2)) →
    (vs.map fun kv => if kv.1 = k then (kv.1, v) else kv).map (·.1) = (kvs.map fun kv => if kv.1 = k then (kv.1, d) else kv).map (·.1) ∧ DqAll K F ((vs.map fun kv => if kv.1 = k then (kv.1, v) else kv).map (·.2)) ((kvs.map fun kv => if kv.1 = k then (kv.1, d) else kv).map (·.2))
  | [], [], _, _ => ⟨rfl, .nil⟩
  | [], _ :: _, h, _ => by cases h
  | _ :: _, [], h, _ => by cases h
  | (a, x) :: vs, (b, u) :: fs, h, r => by
    rw [List.map_cons, List.map_cons, List.cons.injEq] at h
    obtain ⟨h1, h2⟩ := h
    have h1' : a = b := h1
    subst h1'
    cases r with
    | cons r1 r2 =>
      obtain ⟨i1, i2⟩ := put_map (k := k) q h2 r2
      by_cases e : a = k
      · simp only [List.map_cons, e, if_true]
        exact ⟨by rw [i1], .cons q i2⟩
      · simp only [List.map_cons, e, if_false]
        exact ⟨by rw [i1], .cons r1 i2⟩
theorem put_rel {k : κ} {v : V} {d : PyData} (q : Dq K F v d) {vs : List (κ × V)} {kvs : List (κ × PyData)} (h : vs.map (·.1) = kvs.map (·.1)) (r : DqAll K F (vs.map (·.2)) (kvs.map (·.2))) :
    (putK vs k v).map (·.1) = (putD kvs k d).map (·.1) ∧ DqAll K F ((putK vs k v).map (·.2)) ((putD kvs k d).map (·.2)) := by
  unfold putK putD
  rw [any_rel h]
  split
  · exact put_map q h r
  · rw [List.map_append, List.map_append, List.map_append, List.map_append, h]
    exact ⟨rfl, r.append (.cons q .nil)⟩
end
/-! what is read -/
def look2 (M : List MO) (n : Nat) (x : PyData) : Option (Option PyData) := match M[n]? with
  | some (.dct kvs) => match keyK x with
    | some k => some (valD kvs k)
    | none => none
  | some (.dctT kvs) => match x with
    | .tuple xs => match keysK xs with
      | some ks => some (valD kvs ks)
      | none => none
    | _ => none
  | _ => none
def SeeD (K : PySem.W.Frag) (F : Hp) (u : Option V) : Option PyData → Prop
  | none => u = none
  | some d => ∃ v, u = some v ∧ Dq K F v d
theorem look2_ok {K : PySem.W.Frag} {g : Gh} {M : List MO} {H : Hp} (R : Rel K g M H) {n : Nat} {x : PyData} {o : Option PyData} {a y : V} (ha : RW K g a (.loc n)) (hy : RW K g y (.d x)) (e : look2 M n x = some o) :
    ∃ p u, a = .ref p ∧ DGet H p y u ∧ SeeD K g.F u o := by
  cases ha with
  | loc h =>
    rename_i p
    cases hy with
    | d hy =>
      unfold look2 at e
      split at e
      · rename_i kvs q
        split at e
        · rename_i k hk
          cases e
          obtain ⟨p', e1, e2, vs, e3, e4, e5⟩ := R.at_ _ _ q rfl
          rw [h] at e1
          cases e1
          refine ⟨p, valV vs k, rfl, .inl ⟨vs, k, .inl e3, keyK_ok hy hk, rfl⟩, ?_⟩
          cases ev : valD kvs k with
          | none => exact val_none e4 ev
          | some d => exact val_some e4 e5 ev
        · cases e
      · rename_i kvs q
        split at e
        · split at e
          · rename_i ks hk
            cases e
            obtain ⟨p', e1, e2, vs, e3, e4, e5⟩ := R.at_ _ _ q rfl
            rw [h] at e1
            cases e1
            cases hy with
            | tup t1 t2 =>
              rename_i b ys
              have hb := keysK_ok t2 hk
              subst hb
              refine ⟨p, valV vs ks, rfl, .inr ⟨vs, ks, b, .inl e3, rfl, R.sub _ _ t1, rfl⟩, ?_⟩
              cases ev : valD kvs ks with
              | none => exact val_none e4 ev
              | some d => exact val_some e4 e5 ev
          · cases e
        · cases e
      · cases e
def pDGet : Pr
  | [.loc n, .d x], M => match look2 M n x with
    | some (some d) => some (.d d, M)
    | _ => none
  | _, _ => none
def pDIn (neg : Bool) : Pr
  | [.d x, .loc n], M => match look2 M n x with
    | some o => some (.d (.bool (if neg = true then !o.isSome else o.isSome)), M)
    | _ => none
  | _, _ => none
theorem dget_ok (K : PySem.W.Frag) : PrOk K pDGet (r2 fun x y H Q => ∃ a v, x = .ref a ∧ DGet H a y (some v) ∧ Q v H) := by
  intro g M H vs ws w M' Q R rw_ e k
  unfold pDGet at e
  split at e
  · split at e
    · rename_i d q
      cases e
      cases rw_ with
      | cons h t =>
        cases t with
        | cons h2 t =>
          cases t
          obtain ⟨p, u, rfl, e1, v, rfl, e2⟩ := look2_ok R h h2 q
          exact ⟨_, _, rfl, p, v, rfl, e1, k v g H R (Ext.refl _ _) (.d e2)⟩
    · cases e
  · cases e
theorem din_ok (K : PySem.W.Frag) (neg : Bool) : PrOk K (pDIn neg) (r2 fun y x H Q => ∃ a o, x = .ref a ∧ DGet H a y o ∧ Q (.bl (if neg = true then !o.isSome else o.isSome)) H) := by
  intro g M H vs ws w M' Q R rw_ e k
  unfold pDIn at e
  split at e
  · split at e
    · rename_i o q
      cases e
      cases rw_ with
      | cons h t =>
        cases t with
        | cons h2 t =>
          cases t
          obtain ⟨p, u, rfl, e1, e2⟩ := look2_ok R h2 h q
          have eu : u.isSome = o.isSome := by
            cases o with
            | none => rw [show u = none from e2]; rfl
            | some d => obtain ⟨v, rfl, _⟩ := e2; rfl
          refine ⟨_, _, rfl, p, u, rfl, e1, ?_⟩
          rw [eu]
          exact k _ g H R (Ext.refl _ _) (.d (.bl _))
    · cases e
  · cases e
section
variable {X : Cx} {xw : WX} {a b e : Expr} {fa fb fv : EF} {pos p1 : Pos} {k : Nat}
theorem me_dGet (C : Ctx X k xw) (ha : ME X xw a fa) (hb : ME X xw b fb) (hs : NoSl b := by exact fun _ _ => rfl) : ME X xw (.Subscript a b pos) (sPr pDGet [fa, fb]) :=
  PE.imp (pe_dget (by have := ctx_u C; omega) ha hb hs) fun _ _ _ h => tG_mono (prim2 (T := tx X) (dget_ok _) h) fun _ _ h => tG_mono h fun _ _ ⟨_, _, e, q⟩ => by cases e; exact q
theorem me_dIn (C : Ctx X k xw) (ha : ME X xw a fa) (hb : ME X xw b fb) (hm : behindInMarks .In b = false := by rfl) : ME X xw (.Compare a [.In] [b] pos) (sPr (pDIn false) [fa, fb]) :=
  PE.imp (pe_cmp (pc_din (by have := ctx_u C; omega) ha hb) hm) fun _ _ _ h => tG_mono (prim2 (T := tx X) (din_ok _ false) h) fun _ _ h => tG_mono h fun _ _ ⟨_, _, e, q⟩ => by cases e; exact q
theorem me_dNotIn (C : Ctx X k xw) (ha : ME X xw a fa) (hb : ME X xw b fb) (hm : behindInMarks .NotIn b = false := by rfl) : ME X xw (.Compare a [.NotIn] [b] pos) (sPr (pDIn true) [fa, fb]) :=
  PE.imp (pe_cmp (pc_dnotin (by have := ctx_u C; omega) ha hb) hm) fun _ _ _ h => tG_mono (prim2 (T := tx X) (din_ok _ true) h) fun _ _ h => tG_mono h fun _ _ ⟨_, _, e, q⟩ => by cases e; exact q
/-! {} -/
def sNewK : EF := fun _ M => .ok (.loc M.length) (M ++ [.dct []])
def sNewT : EF := fun _ M => .ok (.loc M.length) (M ++ [.dctT []])
theorem push_loc {K : PySem.W.Frag} {g : Gh} {M : List MO} {H : Hp} {p : Addr} (R : Rel K g M H) : RW K ⟨g.ph ++ [p], g.F⟩ (.ref p) (.loc M.length) := .loc (by
  show (g.ph ++ [p])[M.length]? = some p
  rw [List.getElem?_append_right (by rw [R.len]; exact Nat.le_refl _), R.len, Nat.sub_self]
  rfl)
theorem me_newK : ME X xw (.Dict [] [] pos) sNewK := PE.imp pe_dnewK fun σ H Q ⟨g, ρ, M, R, S, b⟩ p hp => by
  obtain ⟨R2, E2⟩ := R.push (u := .dK []) (o := .dct []) hp ⟨[], upd_same, rfl, .nil⟩
  exact b _ _ _ R2 E2 (push_loc R)
theorem me_newT : ME X xw (.Dict [] [] pos) sNewT := PE.imp pe_dnewT fun σ H Q ⟨g, ρ, M, R, S, b⟩ p hp => by
  obtain ⟨R2, E2⟩ := R.push (u := .dT []) (o := .dctT []) hp ⟨[], upd_same, rfl, .nil⟩
  exact b _ _ _ R2 E2 (push_loc R)
/-! d[k] = e -/
def putO (M : List MO) (n : Nat) (d x : PyData) : Option MO := match M[n]? with
  | some (.dct kvs) => match keyK x with
    | some k => if kvs.length < sizeLine then some (.dct (putD kvs k d)) else none
    | none => none
  | some (.dctT kvs) => match x with
    | .tuple xs => match keysK xs with
      | some ks => if kvs.length < sizeLine then some (.dctT (putD kvs ks d)) else none
      | none => none
    | _ => none
  | _ => none
theorem putO_ok {K : PySem.W.Frag} {g : Gh} {M : List MO} {H : Hp} (R : Rel K g M H) {n : Nat} {x d : PyData} {o : MO} {a y v : V} (ha : RW K g a (.loc n)) (hy : RW K g y (.d x)) (hv : Dq K g.F v d) (e : putO M n d x = some o) :
    ∃ p H', a = .ref p ∧ DPut H p y v H' ∧ Rel K g (M.set n o) H' ∧ Ext g H g H' := by
  cases ha with
  | loc h =>
    rename_i p
    cases hy with
    | d hy =>
      unfold putO at e
      split at e
      · rename_i kvs q
        split at e
        · rename_i k hk
          split at e
          · rename_i hl
            cases e
            obtain ⟨p', e1, e2, vs, e3, e4, e5⟩ := R.at_ _ _ q rfl
            rw [h] at e1
            cases e1
            have hl' : vs.length < sizeLine := by have := congrArg List.length e4; simp only [List.length_map] at this; omega
            obtain ⟨i1, i2⟩ := put_rel (k := k) hv e4 e5
            obtain ⟨R2, E2⟩ := R.setO (u := .dK (putK vs k v)) (o := .dct (putD kvs k d)) h e2 ⟨_, upd_same, i1, i2⟩
            exact ⟨p, _, rfl, .inl ⟨vs, k, e3, keyK_ok hy hk, hl', rfl⟩, R2, E2⟩
          · cases e
        · cases e
      · rename_i kvs q
        split at e
        · split at e
          · rename_i ks hk
            split at e
            · rename_i hl
              cases e
              obtain ⟨p', e1, e2, vs, e3, e4, e5⟩ := R.at_ _ _ q rfl
              rw [h] at e1
              cases e1
              cases hy with
              | tup t1 t2 =>
                rename_i b ys
                have hb := keysK_ok t2 hk
                subst hb
                have hl' : vs.length < sizeLine := by have := congrArg List.length e4; simp only [List.length_map] at this; omega
                obtain ⟨i1, i2⟩ := put_rel (k := ks) hv e4 e5
                obtain ⟨R2, E2⟩ := R.setO (u := .dT (putK vs ks v)) (o := .dctT (putD kvs ks d)) h e2 ⟨_, upd_same, i1, i2⟩
                exact ⟨p, _, rfl, .inr ⟨vs, ks, b, e3, rfl, R.sub _ _ t1, hl', rfl⟩, R2, E2⟩
            · cases e
          · cases e
        · cases e
      · cases e
def sDPutS (fd fk fv : EF) : SF := sThen fv fun ρ w M1 => match w, fd ρ M1 with
  | .d d, .ok (.loc n) M2 => match fk ρ M2 with
    | .ok (.d x) M3 => match putO M3 n d x with
      | some o => .nx ρ (M3.set n o)
      | none => .stuck
    | _ => .stuck
  | _, _ => .stuck
theorem ms_dPut (C : Ctx X k xw) (ha : ME X xw a fa) (hb : ME X xw b fb) (he : ME X xw e fv) (hs : swapsWith e (some (.Subscript a b p1)) pos.line X.env = pure false := by rfl) : MS X xw (.Assign [.Subscript a b p1] e pos) (sDPutS fa fb fv) :=
  PS.imp (ps_dput (by have := ctx_u C; omega) ha hb he hs) fun D σ H q => tG_mono (tS_then q) fun v H1 ⟨g, ρ, M, w, R, S, r, b⟩ => by
    refine ⟨g, ρ, M, R, S, ?_⟩
    cases w with
    | d d =>
      cases ea : fa ρ M with
      | stuck => rw [ea] at b; exact b.elim
      | err y M2 => rw [ea] at b; exact b.elim
      | ok u M2 =>
        rw [ea] at b
        intro x2 g2 H2 R2 E2 r2
        cases u with
        | loc n =>
          refine ⟨g2, ρ, M2, R2, S.gr E2.gr, ?_⟩
          simp only at b
          cases eb : fb ρ M2 with
          | stuck => rw [eb] at b; exact b.elim
          | err y M2 => rw [eb] at b; exact b.elim
          | ok u3 M3 =>
            rw [eb] at b
            intro x3 g3 H3 R3 E3 r3
            cases u3 with
            | d x =>
              simp only at b
              cases eo : putO M3 n d x with
              | none => rw [eo] at b; exact b.elim
              | some o =>
                rw [eo] at b
                cases r with
                | d r =>
                  obtain ⟨p, H', hp, hd, R4, E4⟩ := putO_ok R3 (RW.gr E3.gr r2) r3 (Dq.sub (E2.gr.F.trans E3.gr.F) r) eo
                  exact ⟨p, H', hp, hd, b σ g3 H' R4 ((E2.trans E3).trans E4) (S.gr (E2.gr.trans E3.gr))⟩
            | _ => exact b.elim
        | _ => exact b.elim
    | _ => exact b.elim
end
end Y
namespace Y
open PySem PySem.Spec PyProof.Rows L2

/-! ### something made beside the store comes to stand in it -/
theorem Rel.delD {K : PySem.W.Frag} {g : Gh} {M : List MO} {H : Hp} {D : Addr} (R : Rel K g M H) (h1 : g.F D = none) (h2 : D ∉ g.ph) : Rel K g M (del H D) := by
  have ne : ∀ a, a ∈ g.ph → a ≠ D := fun a hm z => h2 (by rw [← z]; exact hm)
  refine ⟨fun a u e => ?_, R.len, fun n u e l => ?_, R.inj, fun a hm => ?_⟩
  · rw [del_ne (ne_of_none e h1)]; exact R.sub _ _ e
  · obtain ⟨a, e1, e2, e3⟩ := R.at_ n u e l
    refine ⟨a, e1, e2, MOk.gr (Gr.refl g) (fun o' q => ?_) e3⟩
    rw [del_ne (ne a (List.mem_of_getElem? e1))]
    exact q
  · obtain ⟨u, q⟩ := R.tr a hm
    exact ⟨u, by rw [del_ne (ne a hm)]; exact q⟩
theorem upd_del {H : Hp} {D : Addr} {o : HO} : L2.upd (del H D) D o = L2.upd H D o := by
  funext z
  by_cases h : z = D
  · rw [h, upd_same, upd_same]
  · rw [upd_ne h, upd_ne h, del_ne h]
theorem Rel.pushD {K : PySem.W.Frag} {g g0 : Gh} {M : List MO} {H H0 : Hp} {p : Addr} {u : HO} {o : MO} (R : Rel K g M H) (h1 : g.F p = none) (h2 : p ∉ g.ph) (E : Ext g0 H0 g H) (h0 : H0 p = none) (ho : MOk K ⟨g.ph ++ [p], g.F⟩ (L2.upd H p u) p o) :
    Rel K ⟨g.ph ++ [p], g.F⟩ (M ++ [o]) (L2.upd H p u) ∧ Ext g0 H0 ⟨g.ph ++ [p], g.F⟩ (L2.upd H p u) := by
  have R1 := R.delD h1 h2
  obtain ⟨R2, E2⟩ := R1.push (u := u) (o := o) del_same (by rw [upd_del]; exact ho)
  rw [upd_del] at R2
  refine ⟨R2, ⟨E.gr.trans E2.gr, fun a x e n => ?_, E.new, fun a hm => ?_⟩⟩
  · rw [upd_ne (ne_of_none e h0)]; exact E.keep a x e n
  · rcases List.mem_append.mp hm with z | z
    · exact E.newph a z
    · rw [List.mem_singleton.mp z]; exact .inr h0
/-! {(): e} -/
theorem dict_pairsS {prog : Program} {w : World} {K : Type} [DecidableEq K] {knd : HeapKind prog w K} {A : Around} {E : Value → Shared → Prop} {s : Shared} {env : Env} {keys : List (Option Expr)} {values : List Expr} {pos : Pos} {pairs : List (Sem Value × Sem Value)} {Q : Value → Shared → Prop}
    (hu : knd.room A) (hshape : (evalEachOpt keys env).zip (List.map (fun v => do
        let x ← v
        standAt pos
        pure x) (evalEach values env)) = List.map (fun p => (some p.1, p.2)) pairs) (h0 : pairs ≠ []) (hlen : pairs.length ≤ 15)
    (h : wpAny (model prog w) A (evalPairs pairs) (fun vs s₁ => ∃ ps, CarriesH knd s₁.heap vs ps ∧ Heap.DictOfH knd s₁.heap s.heap.objs.size [] ∧ ∀ (h' : Heap) (tk : Nat), Heap.DictOfH knd h' s.heap.objs.size (storedAllH [] ps) → Heap.SameBut s.heap.objs.size s₁.heap h' →
        Q (.ref s.heap.objs.size) { heap := h', gens := s₁.gens, drawn := s₁.drawn, toks := tk, os := s₁.os }) E
      { heap := s.heap.push { cls := .type "dict", data := .dict #[] }, gens := s.gens, drawn := s.drawn, toks := s.toks, os := s.os }) : wpAny (model prog w) A (eval (.Dict keys values pos) env) Q E s := by
  rw [arm_eval_Dict keys values pos env, hshape, dictDisplay_pairs pairs h0 (by omega)]
  exact wpAny_bind (wpAny_standAt (wpAny_bind (wpAny_subDictH hu hlen (wpAny_mono h (fun vs s₁ ⟨ps, hc, hm, hq⟩ => ⟨ps, hc, hm, fun h' tk a b => wpAny_pure (hq h' tk a b)⟩) fun _ _ e => e))))
section
variable {X : Cx} {xw : WX} {a b e ke ve : Expr} {fa fb fk fv : EF} {pos p1 : Pos} {k : Nat}
def qT1 (Q : VK) (p : Addr) : List (V × V) → Hp → Prop := fun ps H2 => H2 p = some (.dT []) ∧ ∃ (b : Addr) (ks : List L2.Key) (y : V), ps = [(.ref b, y)] ∧ H2 b = some (.tup (ks.map kV)) ∧ Q (.ref p) (L2.upd H2 p (.dT [(ks, y)]))
def tDispT1 (tk tv : TE) : TE := fun σ H Q => ∀ p, H p = none → tk σ (L2.upd H p (.dT [])) fun x H1 => tv σ H1 fun y H2 => qT1 Q p [(x, y)] H2
theorem pe_dispT1 {tk tv : TE} (hu : X.A.units < cLine) (hk : PE X ke tk) (hv : PE X ve tv) (hs : (evalEachOpt [some ke] X.env).zip (List.map (fun v => do
        let x ← v
        standAt pos
        pure x) (evalEach [ve] X.env)) = List.map (fun p => (some p.1, p.2)) (pairTrees [some ke] [ve] X.env pos) := by rfl) (hn0 : pairTrees [some ke] [ve] X.env pos ≠ [] := by intro z; cases z) (hl : (pairTrees [some ke] [ve] X.env pos).length ≤ 15 := by exact Nat.le_of_ble_eq_true rfl) : PE X (.Dict [some ke] [ve] pos) (tDispT1 tk tv) := by
  refine ⟨fun pins s σ H Q I q => ?_⟩
  have hn := I.hok.fresh (Nat.le_refl s.heap.objs.size)
  have I1 := Inv.laid (t' := s.toks) I (fun x x_1 q => Heap.get?_push_of_some { cls := Value.type "dict", data := Data.dict #[] } q) (Nat.le_refl s.heap.objs.size) (dt_empty s.heap (Inv.big I))
  refine dict_pairsS (knd := tupleKind (mixKind X.prog X.w)) hu hs hn0 hl ?_
  refine thn ((pps_cons hk hv pps_nil).run pins _ σ _ (qT1 Q s.heap.objs.size) I1 (q s.heap.objs.size hn)) fun ws s2 ⟨ps, H2, I2, rel, e, b, ks, y, ep, eb, q2⟩ => ?_
  subst ep
  cases rel with
  | @cons _ w _ _ r1 r2 =>
    cases r2
    obtain ⟨w1, w2⟩ := w
    obtain ⟨ra, rb⟩ := r1
    have ra' : w1 = .ref b := ra
    subst ra'
    obtain ⟨z, hd, xs, kt, dd⟩ := dt_of I2.hok e
    cases kt
    refine ⟨[(ks, b, w2)], ⟨rfl, rfl, key_of I2.hok eb, trivial⟩, dd, fun h' tk dd' hs' => ⟨.ref s.heap.objs.size, L2.upd H2 s.heap.objs.size (.dT [(ks, y)]), ?_, rfl, q2⟩⟩
    have nb : b ≠ s.heap.objs.size := fun h => by rw [h, e] at eb; cases eb
    have kt' : KT (L2.upd H2 s.heap.objs.size (.dT [(ks, y)])) [(ks, y)] (storedAllH [] [(ks, b, w2)]) := .cons ⟨rfl, by rw [upd_ne nb]; exact eb, rb⟩ .nil
    have he : ∃ q, h'.get? s.heap.objs.size = some q := let ⟨q, _, _, hq, _⟩ := dd'; ⟨q, hq⟩
    refine d_write I2 (by rw [e]; trivial) hs' he ?_
    obtain ⟨o, es, ep, h1, h2, h3, h4, _, h6⟩ := dd'
    exact ⟨by rw [sizeLine_eq]; exact Nat.le_of_ble_eq_true rfl, hd, _, kt', o, es, ep, h1, h2, h3, h4, h6⟩
def disp1 : W → W → List MO → Res W
  | .d (.tuple xs), .d y, M2 => match keysK xs with
    | some ks => .ok (.loc M2.length) (M2 ++ [.dctT [(ks, y)]])
    | none => .stuck
  | _, _, _ => .stuck
def sDispT1 (fk fv : EF) : EF := fun ρ M => (fk ρ M).bind fun w M1 => (fv ρ M1).bind fun u M2 => disp1 w u M2
theorem KT.upd {H : Hp} {a : Addr} {o : HO} {us : List (List L2.Key × V)} (e : H a = some (.dT us)) : ∀ {kvs : List (List L2.Key × V)} {xs : List (List L2.Key × Addr × Value)}, KT H kvs xs → KT (L2.upd H a o) kvs xs
  | _, _, .nil => .nil
  | _, _, .cons ⟨h1, h2, h3⟩ t => .cons ⟨h1, by rw [upd_ne (fun z => by rw [z, e] at h2; cases h2)]; exact h2, h3⟩ (KT.upd e t)
theorem me_dispT1 (C : Ctx X k xw) (hk : ME X xw ke fk) (hv : ME X xw ve fv) (hs : (evalEachOpt [some ke] X.env).zip (List.map (fun v => do
        let x ← v
        standAt pos
        pure x) (evalEach [ve] X.env)) = List.map (fun p => (some p.1, p.2)) (pairTrees [some ke] [ve] X.env pos) := by rfl) (hn0 : pairTrees [some ke] [ve] X.env pos ≠ [] := by intro z; cases z) (hl : (pairTrees [some ke] [ve] X.env pos).length ≤ 15 := by exact Nat.le_of_ble_eq_true rfl) :
    ME X xw (.Dict [some ke] [ve] pos) (sDispT1 fk fv) := by
  refine PE.imp (pe_dispT1 (by have := ctx_u C; omega) hk hv hs hn0 hl) fun σ H Q ⟨g, ρ, M, R, S, b⟩ p hp => ?_
  have hF : g.F p = none := R.sub.none hp
  have hph : p ∉ g.ph := fun z => by obtain ⟨u, q⟩ := R.tr p z; rw [hp] at q; cases q
  refine ⟨g, ρ, M, R.updD (o := .dT []) hF hph, S, ?_⟩
  replace b : Bhd (tx X) (fun c d H => xw c d σ H) (RW X.K) Q ((fk ρ M).bind fun w M1 => (fv ρ M1).bind fun u M2 => disp1 w u M2) g H := b
  have E0 : Ext g H g (L2.upd H p (.dT [])) := (Ext.refl g H).updD hp
  cases e1 : fk ρ M with
  | stuck => rw [e1] at b; exact b
  | err x M2 => rw [e1] at b; exact fun c d g' H' R' E' ix => b c d g' H' R' (E0.trans E') ix
  | ok w M1 =>
    rw [e1] at b
    intro v1 g1 H1 R1 E1 r1
    refine ⟨g1, ρ, M1, R1, S.gr E1.gr, ?_⟩
    replace b : Bhd (tx X) (fun c d H => xw c d σ H) (RW X.K) Q ((fv ρ M1).bind fun u M2 => disp1 w u M2) g H := b
    cases e2 : fv ρ M1 with
    | stuck => rw [e2] at b; exact b
    | err x M2 => rw [e2] at b; exact fun c d g' H' R' E' ix => b c d g' H' R' ((E0.trans E1).trans E') ix
    | ok u M2 =>
      rw [e2] at b
      intro v2 g2 H2 R2 E2 r2
      obtain ⟨o1, o2, o3⟩ := (E1.trans E2).outD upd_same hF hph
      replace b : Bhd (tx X) (fun c d H => xw c d σ H) (RW X.K) Q (disp1 w u M2) g H := b
      unfold disp1 at b
      split at b
      · rename_i xs y
        split at b
        · rename_i ks hks
          cases r1 with
          | d r1 =>
            cases r2 with
            | d r2 =>
              cases r1 with
              | tup t1 t2 =>
                rename_i bb vs
                have hb := keysK_ok t2 hks
                subst hb
                obtain ⟨R3, E3⟩ := R2.pushD (u := .dT [(ks, v2)]) (o := .dctT [(ks, y)]) o2 o3 ((E0.trans E1).trans E2) hp ⟨_, upd_same, rfl, .cons r2 .nil⟩
                exact ⟨o1, bb, ks, v2, rfl, R2.sub _ _ (E2.gr.F _ _ t1), b _ _ _ R3 E3 (push_loc R2)⟩
        · exact b.elim
      · exact b.elim
/-! d.setdefault(k, e), the keys being tuples -/
def tDSetdT (td ty tx : TE) : TE := fun σ H Q => td σ H fun x H1 => ∃ a, x = .ref a ∧ IsD H1 a ∧ ty σ H1 fun y H2 => tx σ H2 fun z H3 => ∃ (kvs : List (List L2.Key × V)) (k : List L2.Key) (b : Addr),
  H3 a = some (.dT kvs) ∧ y = .ref b ∧ H3 b = some (.tup (k.map kV)) ∧ kvs.length < sizeLine ∧ (∀ v, valV kvs k = some v → Q v H3) ∧ (valV kvs k = none → Q z (L2.upd H3 a (.dT (putK kvs k z))))
theorem pe_dsetdT {o e f : Expr} {td ty tx : TE} {apos cpos : Pos} (hu : X.A.units + 1 < cLine) (ho : PE X o td) (he : PE X e ty) (hf : PE X f tx) (m : M2 X o "setdefault" apos e f cpos) : PE X (.Call (.Attribute o "setdefault" apos) [e, f] [] cpos) (tDSetdT td ty tx) := by
  refine ⟨fun pins s σ H Q I h => wpAny_Call_method m.base m.few m.line F.plainAttrs_dict F.slot_dict_setdefault F.type_dict_setdefault (thn (ho.run pins s σ H _ I h) fun u s1 ⟨x, H1, I1, rx, a, ex, d, q1⟩ => ?_)⟩
  subst ex
  cases rx
  obtain ⟨t1, t2, hsys⟩ := isD_at I1 d
  refine ⟨t1, t2, ?_⟩
  rw [m.trees]
  refine Calls.callWith_builtin rfl (Calls.evalArgs_plain (Calls.spliced_cons (thn (he.run pins s1 σ H1 _ I1 q1) fun iv s2 ⟨y, H2, I2, ry, q2⟩ => Calls.spliced_cons (thn (hf.run pins s2 σ H2 _ I2 q2) fun fv s3 ⟨z, H3, I3, rz, kvs, k, b, ea, ey, eb, hl, q3, q4⟩ => Calls.spliced_nil ?_))))
  subst ey
  cases ry
  obtain ⟨hz, hd, xs, kt, dd⟩ := dt_of I3.hok ea
  have hlx : xs.length = kvs.length := (Paired.length kt).symm
  refine call_setdefault_heap (knd := tupleKind (mixKind X.prog X.w)) (tupleKind_room_in1 hu) (key_of I3.hok eb) hd dd (fun p hp => ?_) (fun hn h' dd' hs' => ?_) (by rw [hlx]; omega)
  · have r := KT.val kt k
    rw [hp] at r
    cases ev : valV kvs k with
    | none => rw [ev] at r; exact r.elim
    | some v =>
      rw [ev] at r
      exact ⟨v, H3, I3.tok _, r, q3 v ev⟩
  · have r := KT.val kt k
    rw [hn] at r
    cases ev : valV kvs k with
    | some v => rw [ev] at r; exact r.elim
    | none =>
      have nb : b ≠ a := fun h => by rw [h, ea] at eb; cases eb
      have kt' := KT.put kt k eb rz
      refine ⟨z, _, ?_, rz, q4 ev⟩
      have he : ∃ q, h'.get? a = some q := let ⟨q, _, _, hq, _⟩ := dd'; ⟨q, hq⟩
      refine d_write I3 (by rw [ea]; trivial) hs' he ?_
      obtain ⟨o, es, ep, h1, h2, h3, h4, _, h6⟩ := dd'
      refine ⟨?_, hd, _, ?_, o, es, ep, h1, h2, h3, h4, h6⟩
      · have := length_putK kvs k z
        omega
      · exact KT.upd ea kt'
def isDT (M : List MO) : W → Bool
  | .loc n => match M[n]? with
    | some (.dctT _) => true
    | _ => false
  | _ => false
def setd : W → W → W → List MO → Res W
  | .loc n, .d (.tuple xs), .d y, M => match M[n]? with
    | some (.dctT kvs) => match keysK xs with
      | some ks => if kvs.length < sizeLine then match valD kvs ks with
          | some d => .ok (.d d) M
          | none => .ok (.d y) (M.set n (.dctT (putD kvs ks y)))
        else .stuck
      | none => .stuck
    | _ => .stuck
  | _, _, _, _ => .stuck
def sSetd (fd fk fv : EF) : EF := fun ρ M => (fd ρ M).bind fun w M1 => if isDT M1 w = true then (fk ρ M1).bind fun u M2 => (fv ρ M2).bind fun z M3 => setd w u z M3 else .stuck
theorem me_setd {fd : EF} {o e f : Expr} {apos cpos : Pos} (C : Ctx X k xw) (ho : ME X xw o fd) (he : ME X xw e fk) (hf : ME X xw f fv) (m : M2 X o "setdefault" apos e f cpos := by exact ⟨rfl, rfl, rfl, rfl⟩) : ME X xw (.Call (.Attribute o "setdefault" apos) [e, f] [] cpos) (sSetd fd fk fv) := by
  refine PE.imp (pe_dsetdT (by have := ctx_u C; omega) ho he hf m) fun σ H Q h => tG_mono (tG_bind (R2 := RW X.K) h) fun v H1 ⟨g, ρ, M, w, R, S, q, b⟩ => ?_
  split at b
  · rename_i hd
    unfold isDT at hd
    split at hd
    · rename_i n
      split at hd
      · rename_i kvs0 em0
        cases q with
        | loc q =>
          rename_i a
          obtain ⟨a', e1, e2, vs, e3, e4, e5⟩ := R.at_ n _ em0 rfl
          rw [q] at e1
          cases e1
          refine ⟨_, rfl, .inr ⟨vs, .inl e3⟩, g, ρ, M, R, S, ?_⟩
          cases h1 : fk ρ M with
          | stuck => rw [h1] at b; exact b
          | err x M2 => rw [h1] at b; exact b
          | ok u M2 =>
            rw [h1] at b
            intro v1 g1 H2 R1 E1 r1
            refine ⟨g1, ρ, M2, R1, S.gr E1.gr, ?_⟩
            replace b : Bhd (tx X) (fun c d H => xw c d σ H) (RW X.K) Q ((fv ρ M2).bind fun z M3 => setd (.loc n) u z M3) g H1 := b
            cases h2 : fv ρ M2 with
            | stuck => rw [h2] at b; exact b
            | err x M3 => rw [h2] at b; exact fun c d g' H' R' E' ix => b c d g' H' R' (E1.trans E') ix
            | ok z M3 =>
              rw [h2] at b
              intro v2 g2 H3 R2 E2 r2
              replace b : Bhd (tx X) (fun c d H => xw c d σ H) (RW X.K) Q (setd (.loc n) u z M3) g H1 := b
              unfold setd at b
              split at b
              · rename_i n' xs y en
                cases en
                split at b
                · rename_i kvs em
                  split at b
                  · rename_i ks hks
                    split at b
                    · rename_i hl
                      have q2 := E2.gr.ph _ _ (E1.gr.ph _ _ q)
                      obtain ⟨a', i1, i2, us, i3, i4, i5⟩ := R2.at_ _ _ em rfl
                      rw [q2] at i1
                      cases i1
                      cases r1 with
                      | d r1 =>
                        cases r1 with
                        | tup t1 t2 =>
                          rename_i bb vs
                          have hb := keysK_ok t2 hks
                          subst hb
                          cases r2 with
                          | d r2 =>
                            have hl' : us.length < sizeLine := by have := congrArg List.length i4; simp only [List.length_map] at this; omega
                            refine ⟨us, ks, bb, i3, rfl, R2.sub _ _ (E2.gr.F _ _ t1), hl', fun v hv => ?_, fun hn => ?_⟩
                            · cases ev : valD kvs ks with
                              | none => rw [val_none i4 ev] at hv; cases hv
                              | some d =>
                                obtain ⟨v', j1, j2⟩ := val_some i4 i5 ev
                                rw [hv] at j1
                                cases j1
                                simp only [ev] at b
                                exact b v g2 H3 R2 (E1.trans E2) (.d j2)
                            · cases ev : valD kvs ks with
                              | some d => obtain ⟨v', j1, j2⟩ := val_some i4 i5 ev; rw [hn] at j1; cases j1
                              | none =>
                                simp only [ev] at b
                                obtain ⟨k1, k2⟩ := put_rel (k := ks) r2 i4 i5
                                obtain ⟨R3, E3⟩ := R2.setO (u := .dT (putK us ks v2)) (o := .dctT (putD kvs ks y)) q2 i2 ⟨_, upd_same, k1, k2⟩
                                exact b v2 g2 _ R3 ((E1.trans E2).trans E3) (.d r2)
                    · exact b.elim
                  · exact b.elim
                · exact b.elim
              · exact b.elim
      · cases hd
    · cases hd
  · exact b.elim
/-! len(d) -/
def pLenD : Pr
  | [.loc n], M => match M[n]? with
    | some (.dct kvs) => some (.d (.int kvs.length), M)
    | some (.dctT kvs) => some (.d (.int kvs.length), M)
    | _ => none
  | _, _ => none
def rLenKT : List V → Hp → VK → Prop := fun xs H Q => (∃ a kvs, xs = [V.ref a] ∧ H a = some (HO.dK kvs) ∧ Q (V.int (kvs.length : Nat)) H) ∨ rLenT xs H Q
theorem lenD_ok (K : PySem.W.Frag) : PrOk K pLenD rLenKT := by
  intro g M H vs ws w M' Q R rw_ e k
  unfold pLenD at e
  split at e
  · split at e
    · rename_i n M kvs q
      cases e
      cases rw_ with
      | cons h t =>
        cases t
        cases h with
        | loc h =>
          obtain ⟨a', i1, i2, us, i3, i4, i5⟩ := R.at_ _ _ q rfl
          rw [h] at i1
          cases i1
          have hl : us.length = kvs.length := by have := congrArg List.length i4; simpa using this
          exact .inl ⟨_, us, rfl, i3, by rw [hl]; exact k _ g H R (Ext.refl _ _) (.d (.int _))⟩
    · rename_i n M kvs q
      cases e
      cases rw_ with
      | cons h t =>
        cases t
        cases h with
        | loc h =>
          obtain ⟨a', i1, i2, us, i3, i4, i5⟩ := R.at_ _ _ q rfl
          rw [h] at i1
          cases i1
          have hl : us.length = kvs.length := by have := congrArg List.length i4; simpa using this
          exact .inr ⟨_, us, rfl, i3, by rw [hl]; exact k _ g H R (Ext.refl _ _) (.d (.int _))⟩
    · cases e
  · cases e
theorem me_lenD (ha : MA X xw [a] [fa]) (hm : X.mg "len" = none) (hg : Gl X "len" := by rfl) (he : starEach [a] X.env = (false, eval a X.env) :: starEach [] X.env := by rfl) (hpl : (backTo pos (starEach [] X.env)).any (·.1) = false := by rfl) : ME X xw (.Call (.Name "len" p1) [a] [] pos) (sPr pLenD [fa]) :=
  me_callB (call_lenD.or call_len_dT) (lenD_ok _) hg hm PySem.boot_len ha (he := he) (hpl := hpl)
end
end Y
namespace Y
open PySem PySem.Spec PyProof.Rows L2

/-! ### the values of a dict whose keys are tuples -/
def ItdT (d : Addr) (o : Obj) (kvs : List (List L2.Key × V)) : It :=
  { go := fun i H => H d = some (.frz o (.dT kvs)) ∧ i < kvs.length,
    yld := fun i H x H' => H' = H ∧ ∃ k, kvs[i]? = some (k, x),
    stop := fun i H => H d = some (.frz o (.dT kvs)) ∧ kvs.length ≤ i }
theorem kt_get {H : Hp} : ∀ {kvs : List (List L2.Key × V)} {xs : List (List L2.Key × Addr × Value)} {i : Nat} {k : List L2.Key} {v : V}, KT H kvs xs → kvs[i]? = some (k, v) → ∃ b u, xs[i]? = some (k, b, u) ∧ RelV v u
  | _, _, _, _, _, .nil, e => by simp at e
  | _, _, 0, _, _, .cons (b := q) ⟨h1, h2, h3⟩ _, e => by
    simp at e
    subst e
    obtain ⟨k', b, u⟩ := q
    have h1' : _ = k' := h1
    subst h1'
    exact ⟨b, u, rfl, h3⟩
  | _, _, i + 1, _, _, .cons _ t, e => by
    obtain ⟨b, u, e1, e2⟩ := kt_get (i := i) t (by simpa using e)
    exact ⟨b, u, by simpa using e1, e2⟩
/-- what is locked, told raw -/
theorem frzT_raw {X : Cx} {pins : List (Addr × Obj)} {σ : L2.St} {H : Hp} {s : Shared} {d : Addr} {o : Obj} {kvs : List (List L2.Key × V)} (I : Inv X pins σ H s) (hd : H d = some (.frz o (.dT kvs))) :
    (d == sysModules) = false ∧ s.heap.get? d = some o ∧ ∃ es ep, o.data = .dict es ep ∧ es.size = kvs.length ∧ s.heap.DictRaw d es ep ∧ ∀ (i : Nat) (k : List L2.Key) (v : V) (hi : i < es.size), kvs[i]? = some (k, v) → RelV v es[i].val := by
  obtain ⟨h1, h2, h3, _⟩ := Inv.frzT I hd
  obtain ⟨z, _, xs, kt, dd⟩ := dt_rd I.hok (.inr ⟨o, hd⟩)
  obtain ⟨es, ep, hr, hsz, hv⟩ := dd.raw
  have hl := Paired.length kt
  obtain ⟨o', q1, q2⟩ : ∃ o', s.heap.get? d = some o' ∧ o'.data = .dict es ep := by
    obtain ⟨o', a1, a2, a3⟩ := hr
    exact ⟨o', a1, a3⟩
  rw [h2] at q1
  cases q1
  refine ⟨h1, h2, es, ep, q2, by rw [hsz, ← hl], hr, fun i k v hi e => ?_⟩
  obtain ⟨y, y1, y2, y3, y4⟩ := hv i hi
  obtain ⟨b, u, e1, e2⟩ := kt_get kt e
  rw [e1] at y1
  cases y1
  rw [y3]
  exact e2
theorem turn_valsT {P : Program} {w : World} {K : PySem.W.Frag} {tg : Expr} {d : Addr} {o : Obj} {es : Array DictEntry} {ep : Nat} {kvs : List (List L2.Key × V)} (it : Addr) (hod : o.data = .dict es ep) : Turn P w K tg (ItdT d o kvs) [it] it fun i h => h.IsValIter it d i kvs.length ep where
  mem := by simp
  obj := fun i h st b hb => by
    have e : b = it := by simpa using hb
    subst e
    obtain ⟨oi, e, c, dd⟩ := st
    exact ⟨oi, e, fun v z => by rw [dd] at z; cases z⟩
  keep := fun i h h' st k => Heap.IsValIter.at st fun oi e => k it (by simp) oi e
  item := fun X hP hw hK hc i pins s σ H E I hf st hg => by
    subst hP hw
    obtain ⟨hd, hi⟩ := hg
    obtain ⟨f0, f1, f2, f3, f4, f5⟩ := hf it (by simp)
    obtain ⟨hs, hgd, es', ep', hdt, hsz, hr, hv⟩ := frzT_raw I hd
    rw [hod] at hdt
    cases hdt
    have hi' : i < es.size := by rw [hsz]; exact hi
    obtain ⟨⟨k, v⟩, hkv⟩ : ∃ w, kvs[i]? = some w := ⟨_, List.getElem?_eq_getElem hi⟩
    rw [← hsz] at st
    refine wpAny_pyNext_values_item_raw st hr hi' fun h' st' sb => ?_
    have I1 := Inv.turned (t' := s.toks) I (fun b ob hb e => (sb.right b hb).trans e) f0 f1 f3 f4 f5
    obtain ⟨oi, e, c, dd⟩ := id st'
    refine ⟨es[i].val, rfl, go_of e c dd (of_decide_eq_true rfl) ⟨v, H, I1, hv i k v hi' hkv, ⟨rfl, k, hkv⟩, ?_, fun b hb => (hf b hb).left⟩⟩
    show h'.IsValIter it d (i + 1) kvs.length ep
    rw [← hsz]
    exact st'
  done := fun X hP hw hK hc i pins s σ H E I hf st hg => by
    subst hP hw
    obtain ⟨hd, hi⟩ := hg
    obtain ⟨f0, f1, f2, f3, f4, f5⟩ := hf it (by simp)
    obtain ⟨hs, hgd, es', ep', hdt, hsz, hr, hv⟩ := frzT_raw I hd
    rw [hod] at hdt
    cases hdt
    rw [← hsz] at st
    exact wpAny_pyNext_values_end_raw (I.ok.hd hc) st hr (by rw [hsz]; exact hi) fun h' eb => ⟨rfl, Inv.turned I (fun b ob hb e => eb b ob hb e) f0 f1 f3 f4 f5⟩
  self := fun A i s Q E st h => wpAny_pyIter_valiter st h
def iValsT (td : TE) : TI := fun σ H R => td σ H fun x H1 => ∃ d o kvs, x = .ref d ∧ H1 d = some (.frz o (.dT kvs)) ∧ R (ItdT d o kvs) H1
theorem pi_valuesT {X : Cx} {tg e : Expr} {td : TE} {apos cpos : Pos} (he : PE X e td) (hbase : attributeBase e "values" X.env (eval e X.env) = eval e X.env := by rfl) (hline : (apos.endLine == cpos.line) = true := by rfl) : PI X tg (.Call (.Attribute e "values" apos) [] [] cpos) (iValsT td) := by
  refine ⟨fun pins s σ H R I h => wpAny_Call_method hbase rfl hline F.plainAttrs_dict F.slot_dict_values F.type_dict_values (thn (he.run pins s σ H _ I h) fun u s1 ⟨x, H1, I1, rx, d, o, kvs, ex, hd, q⟩ => ?_)⟩
  subst ex
  cases rx
  obtain ⟨t1, t2, _⟩ := isD_at I1 (a := d) (.inr ⟨kvs, .inr ⟨o, hd⟩⟩)
  obtain ⟨hs, hgd, es, ep, hdt, hsz, hr, hv⟩ := frzT_raw I1 hd
  have I2 := Inv.kept (t' := s1.toks) I1 fun b ob q => Heap.get?_push_of_some { cls := Value.type "dict_values", data := Data.fields #[Value.ref d] } q
  have hr2 : Heap.DictRaw (s1.heap.push { cls := Value.type "dict_values", data := Data.fields #[Value.ref d] }) d es ep := by
    obtain ⟨o', a1, a2⟩ := hr
    exact ⟨o', Heap.get?_push_of_some _ a1, a2⟩
  refine ⟨t1, t2, ?_⟩
  refine method_meetsIn F.slot_dict_values F.entry_dict_values rfl (PySem.evalArgs_none ⟨rfl, t1, F.args_dict_values_1 (.ref d), _, meets_dict_values_raw d hs, ⟨es, ep, hr⟩, ?_⟩)
  refine wpAny_pyIter_values_raw ⟨_, Heap.get?_push_size s1.heap rfl, rfl, rfl⟩ hr2 ?_
  refine pi_one I2 { cls := Value.type "dict_valueiterator", data := Data.fields #[Value.ref d, Value.int 0 0, Value.int es.size 0, Value.int ep 0] } (turn_valsT _ hdt) ⟨_, Heap.get?_push_size _ rfl, rfl, ?_⟩ q
  rw [← hsz]
  rfl
/-! ghosts without what was locked -/
theorem Ln.cut {F : Hp} {d : Addr} {o : Obj} {u : List (List L2.Key × V)} (h : F d = some (.frz o (.dT u))) {e : Ex} {x : Option Addr} (k : Ln F e x) : Ln (del F d) e x := by
  unfold Ln at *
  split at k
  · exact k
  · obtain ⟨dx, e1, e2⟩ := k
    exact ⟨dx, e1, by rw [del_ne (fun z => by rw [z, h] at e2; cases e2)]; exact e2⟩
mutual
theorem Dq.cut {K : PySem.W.Frag} {F : Hp} {d : Addr} {o : Obj} {u : List (List L2.Key × V)} (h : F d = some (.frz o (.dT u))) : ∀ {v : V} {x : PyData}, Dq K F v x → Dq K (del F d) v x
  | _, _, .non => .non
  | _, _, .bl b => .bl b
  | _, _, .int b => .int b
  | _, _, .str b => .str b
  | _, _, .lst q t => .lst (by rw [del_ne (fun z => by rw [z, h] at q; cases q)]; exact q) (DqAll.cut h t)
  | _, _, .tup q t => .tup (show del F d _ = _ by rw [del_ne (fun z => by rw [z] at q; have q' : F d = _ := q; rw [h] at q'; cases q')]; exact q) (DqAll.cut h t)
theorem DqAll.cut {K : PySem.W.Frag} {F : Hp} {d : Addr} {o : Obj} {u : List (List L2.Key × V)} (h : F d = some (.frz o (.dT u))) : ∀ {v : List V} {x : List PyData}, DqAll K F v x → DqAll K (del F d) v x
  | _, _, .nil => .nil
  | _, _, .cons q t => .cons (Dq.cut h q) (DqAll.cut h t)
end
theorem SqL.cut {K : PySem.W.Frag} {F : Hp} {d a : Addr} {o : Obj} {u : List (List L2.Key × V)} {xs : List V} (h : F d = some (.frz o (.dT u))) (k : SqL K F a xs) : SqL K (del F d) a xs := by
  rcases k with (k | ⟨o', k⟩) | k
  · exact .inl (.inl (by rw [del_ne (fun z => by rw [z, h] at k; cases k)]; exact k))
  · exact .inl (.inr ⟨o', by rw [del_ne (fun z => by rw [z, h] at k; cases k)]; exact k⟩)
  · exact .inr k
mutual
theorem RW.cut {K : PySem.W.Frag} {g : Gh} {d : Addr} {o : Obj} {u : List (List L2.Key × V)} (h : g.F d = some (.frz o (.dT u))) : ∀ {v : V} {x : W}, RW K g v x → RW K ⟨g.ph, del g.F d⟩ v x
  | _, _, .d q => .d (Dq.cut h q)
  | _, _, .scr q => .scr (SqL.cut h q)
  | _, _, .loc e => .loc e
  | _, _, .exc h1 h2 h3 => .exc h1 (by
      show del g.F d _ = _
      rw [del_ne (fun z => by rw [z, h] at h2; cases h2)]; exact h2) (Ln.cut h h3)
  | _, _, .kd h1 h2 h3 => .kd (by
      show del g.F d _ = _
      rw [del_ne (fun z => by rw [z, h] at h1; cases h1)]; exact h1) h2 (DqAll.cut h h3)
  | _, _, .tup q t => .tup (show del g.F d _ = _ by rw [del_ne (fun z => by rw [z] at q; have q' : g.F d = _ := q; rw [h] at q'; cases q')]; exact q) (RWs.cut h t)
  | _, _, .fn q => .fn q
theorem RWs.cut {K : PySem.W.Frag} {g : Gh} {d : Addr} {o : Obj} {u : List (List L2.Key × V)} (h : g.F d = some (.frz o (.dT u))) : ∀ {v : List V} {x : List W}, RWs K g v x → RWs K ⟨g.ph, del g.F d⟩ v x
  | _, _, .nil => .nil
  | _, _, .cons q t => .cons (RW.cut h q) (RWs.cut h t)
end
theorem MOk.cut {K : PySem.W.Frag} {g : Gh} {d : Addr} {o : Obj} {u : List (List L2.Key × V)} (h : g.F d = some (.frz o (.dT u))) {H : Hp} {a : Addr} : ∀ {m : MO}, MOk K g H a m → MOk K ⟨g.ph, del g.F d⟩ H a m
  | .dead, _ => trivial
  | .lst _, ⟨xs, e, r⟩ => ⟨xs, e, DqAll.cut h r⟩
  | .lsw _, ⟨xs, e, r⟩ => ⟨xs, e, RWs.cut h r⟩
  | .obj _ _, ⟨vs, n, q, r⟩ => ⟨vs, n, q, RWs.cut h r⟩
  | .dct _, ⟨vs, e, q, r⟩ => ⟨vs, e, q, DqAll.cut h r⟩
  | .dctT _, ⟨vs, e, q, r⟩ => ⟨vs, e, q, DqAll.cut h r⟩
theorem Rel.lock {K : PySem.W.Frag} {g : Gh} {M : List MO} {H : Hp} {n : Nat} {d : Addr} {u : HO} (R : Rel K g M H) (hp : g.ph[n]? = some d) (hF : g.F d = none) : Rel K ⟨g.ph, L2.upd g.F d u⟩ (M.set n .dead) (L2.upd H d u) ∧ Ext g H ⟨g.ph, L2.upd g.F d u⟩ (L2.upd H d u) := by
  have hl : n < M.length := by rw [← R.len]; exact (List.getElem?_eq_some_iff.mp hp).1
  have hm := List.mem_of_getElem? hp
  refine ⟨⟨Sub.upd2 R.sub, by rw [List.length_set]; exact R.len, fun m o e l => ?_, R.inj, fun a hm => ?_⟩, ⟨⟨fun _ _ z => z, Sub.upd hF⟩, fun a o e hn => ?_, fun a h h' => ?_, fun a h => .inl h⟩⟩
  · by_cases h : n = m
    · subst h
      rw [List.getElem?_set_self hl] at e
      cases e
      cases l
    · rw [List.getElem?_set_ne h] at e
      obtain ⟨a, e1, e2, e3⟩ := R.at_ m o e l
      have na : a ≠ d := fun z => by subst z; exact h (R.inj _ _ _ hp e1)
      refine ⟨a, e1, ?_, MOk.gr (g := g) (g' := ⟨g.ph, L2.upd g.F d u⟩) ⟨fun _ _ z => z, Sub.upd hF⟩ (fun o' q => ?_) e3⟩
      · show L2.upd g.F d u a = none
        rw [upd_ne na]; exact e2
      · rw [upd_ne na]; exact q
  · by_cases h : a = d
    · subst h; exact ⟨_, upd_same⟩
    · rw [upd_ne h]; exact R.tr a hm
  · rw [upd_ne (fun z => hn (by rw [z]; exact hm))]; exact e
  · by_cases q : a = d
    · subst q; exact .inr hm
    · exact absurd (by show L2.upd g.F d u a = none; rw [upd_ne q]; exact h) h'
theorem Rel.unlock {K : PySem.W.Frag} {g : Gh} {M : List MO} {H : Hp} {d : Addr} {o : Obj} {us : List (List L2.Key × V)} {u : HO} (R : Rel K g M H) (h : g.F d = some (.frz o (.dT us))) : Rel K ⟨g.ph, del g.F d⟩ M (L2.upd H d u) := by
  refine ⟨fun a x e => ?_, R.len, fun m x e l => ?_, R.inj, fun a hm => ?_⟩
  · have e' : del g.F d a = some x := e
    by_cases q : a = d
    · rw [q, del_same] at e'; cases e'
    · rw [del_ne q] at e'; rw [upd_ne q]; exact R.sub _ _ e'
  · obtain ⟨a, e1, e2, e3⟩ := R.at_ m x e l
    have na : a ≠ d := fun z => by rw [z, h] at e2; cases e2
    refine ⟨a, e1, ?_, ?_⟩
    · show del g.F d a = none
      rw [del_ne na]; exact e2
    · refine MOk.gr (g := ⟨g.ph, del g.F d⟩) (Gr.refl _) (fun o' q => ?_) (MOk.cut h e3)
      rw [upd_ne na]; exact q
  · by_cases q : a = d
    · subst q; exact ⟨_, upd_same⟩
    · rw [upd_ne q]; exact R.tr a hm
def sLcV (i : Nat) (gt : GF) (tt : TF) (te : EF) (vs : List Nat) : EF := fun ρ M => match ρ[i]? with
  | some (some (.loc n)) => match M[n]? with
    | some (.dctT kvs) => if (kvs.map (·.2)).length ≤ sizeLine then match compL gt tt te (wip ρ vs) (kvs.map (·.2)) (M.set n .dead) with
      | some (xs, M2) => .ok (.d (.list xs)) M2
      | none => .stuck
      else .stuck
    | _ => .stuck
  | _ => .stuck
theorem key0 {X : Cx} {xw : WX} {gt : GF} {tt : TF} {te : EF} {vs : List Nat} {σ : L2.St} {Q : VK} {g : Gh} {ρ : Rho} {M : List MO} {H : Hp} {n : Nat} {d : Addr} {od : Obj} {us : List (List L2.Key × V)} {kvs : List (List L2.Key × PyData)}
    (hl : (kvs.map (·.2)).length ≤ sizeLine) (hp : g.ph[n]? = some d) (e2 : g.F d = none) (E1 : Ext g H ⟨g.ph, L2.upd g.F d (.frz od (.dT us))⟩ (L2.upd H d (.frz od (.dT us))))
    (b : Bhd (tx X) (fun c d H => xw c d σ H) (RW X.K) Q (match compL gt tt te (wip ρ vs) (kvs.map (·.2)) (M.set n .dead) with
      | some (xs, M2) => .ok (.d (.list xs)) M2
      | none => .stuck) g H) : Bhd (tx X) (fun _ _ _ => False) (RW X.K) (fun v H' => H' d = some (.frz od (.dT us)) ∧ Q v (L2.upd H' d (.dT us))) (if (kvs.map (·.2)).length ≤ sizeLine then match compL gt tt te (wip ρ vs) (kvs.map (·.2)) (M.set n .dead) with
      | some (xs, M2) => .ok (.d (.list xs)) M2
      | none => .stuck
    else .stuck) ⟨g.ph, L2.upd g.F d (.frz od (.dT us))⟩ (L2.upd H d (.frz od (.dT us))) := by
  rw [if_pos hl]
  cases ec : compL gt tt te (wip ρ vs) (kvs.map (·.2)) (M.set n .dead) with
  | none => rw [ec] at b; exact b.elim
  | some y =>
    obtain ⟨xs, M2⟩ := y
    rw [ec] at b
    intro v2 g2 H2 R2 E2 r2
    have hF2 : g2.F d = some (.frz od (.dT us)) := E2.gr.F _ _ upd_same
    refine ⟨R2.sub _ _ hF2, b v2 ⟨g2.ph, del g2.F d⟩ _ (R2.unlock hF2) ?_ (RW.cut hF2 r2)⟩
    have hm := List.mem_of_getElem? hp
    have E3 := E1.trans E2
    refine ⟨⟨E3.gr.ph, fun a o e => ?_⟩, fun a o e hn => ?_, fun a h h' => ?_, E3.newph⟩
    · show del g2.F d a = some o
      rw [del_ne (fun z => by rw [z, e2] at e; cases e)]
      exact E3.gr.F _ _ e
    · have na : a ≠ d := fun z => hn (by rw [z]; exact hm)
      rw [upd_ne na]
      exact E3.keep a o e hn
    · have h2 : del g2.F d a ≠ none := h'
      by_cases na : a = d
      · exact absurd (by rw [na, del_same]) h2
      · rw [del_ne na] at h2
        exact E3.new a h h2
theorem me_lcV {X : Cx} {k : Nat} {xw : WX} {elt tg : Expr} {ifs : List Expr} {scope : Scope} {own : List (Str × Nat)} {pos npos apos cpos : Pos} {x : Str} {gt : GF} {tt : TF} {te : EF} {us : List Nat} (C : Ctx X k xw) (i : Nat) (ok : BlkOk X.N X.env.scope scope own)
    (hg : ∀ (s : Shared) (H : Hp) (A : Addr) (cl : List (Str × Addr)) (fp : List Addr), Ctx (X.blk s H scope (compEnvC scope cl A X.env) fp) k xw0 → MG (X.blk s H scope (compEnvC scope cl A X.env) fp) tg us gt) (ht : ∀ (s : Shared) (H : Hp) (A : Addr) (cl : List (Str × Addr)) (fp : List Addr), Ctx (X.blk s H scope (compEnvC scope cl A X.env) fp) k xw0 → MTs (X.blk s H scope (compEnvC scope cl A X.env) fp) ifs tt)
    (he : ∀ (s : Shared) (H : Hp) (A : Addr) (cl : List (Str × Addr)) (fp : List Addr), Ctx (X.blk s H scope (compEnvC scope cl A X.env) fp) k xw0 → ME (X.blk s H scope (compEnvC scope cl A X.env) fp) xw0 elt te) (hus : ∀ v ∈ us, v ∈ own.map (·.2) := by decide)
    (hN : X.N[i]? = some x := by rfl) (hv : Vis X.env.scope x := by first | exact Or.inl rfl | exact Or.inr (Or.inl rfl) | exact Or.inr (Or.inr rfl)) (hd : (x == ("__debug__" : Str)) = false := by decide) (hcd : (x == ("__classdict__" : Str)) = false := by decide)
    (hbase : attributeBase (.Name x npos) "values" X.env (eval (.Name x npos) X.env) = eval (.Name x npos) X.env := by rfl) (hline : (apos.endLine == cpos.line) = true := by rfl) (hs : ∀ z, foldedSetIterable (.Call (.Attribute (.Name x npos) "values" apos) [] [] cpos) X.env z = pure z := by intro _; rfl) :
    ME X xw (.ListComp elt [⟨tg, .Call (.Attribute (.Name x npos) "values" apos) [] [] cpos, ifs, 0⟩] scope pos) (sLcV i gt tt te (own.map (·.2))) := by
  refine PE.imp (pe_lock (pe_lc (g := tGt (tx X) us gt) (tt := tT (tx X) xw0 tt) (te := tE (tx X) xw0 te) C.calm C.nd (pi_valuesT (pe_var hN hv hd hcd) hbase hline) ok (fun s H A cl fp => hg s H A cl fp (C.blk _ _ _ _ _)) (fun s H A cl fp => ht s H A cl fp (C.blk _ _ _ _ _)) (fun s H A cl fp => he s H A cl fp (C.blk _ _ _ _ _)) hs)) fun σ H Q ⟨g, ρ, M, R, S, b⟩ => ?_
  unfold sLcV at b
  split at b
  · rename_i n en
    split at b
    · rename_i kvs em
      split at b
      · rename_i hl
        obtain ⟨v, hv, rv⟩ := S.at_ i _ en
        cases rv with
        | loc hp =>
          rename_i d
          obtain ⟨d', e1, e2, us', e3, e4, e5⟩ := R.at_ n _ em rfl
          rw [hp] at e1
          cases e1
          refine ⟨d, .dT us', e3, trivial, fun od => ⟨.ref d, hv, d, od, us', rfl, upd_same, ?_⟩⟩
          obtain ⟨R1, E1⟩ := R.lock (u := .frz od (.dT us')) hp e2
          have hJ : ItOk X.K (L2.upd g.F d (.frz od (.dT us'))) (ItdT d od us') (kvs.map (·.2)) := by
            have hlen : us'.length = kvs.length := by have := congrArg List.length e4; simpa using this
            refine ⟨fun i H hi s => ⟨s _ _ upd_same, by rw [List.length_map] at hi; omega⟩, fun H s => ⟨s _ _ upd_same, by rw [List.length_map]; omega⟩, fun i x F H v H' e s1 s2 hy => ?_⟩
            obtain ⟨rfl, k, hk⟩ := hy
            obtain ⟨u, h1, h2⟩ := (DqAll.sub (Sub.upd (o := .frz od (.dT us')) e2) e5).get e
            rw [List.getElem?_map, hk] at h1
            cases h1
            exact ⟨F, Lay.refl s2, Dq.sub s1 h2⟩
          have key : tLc (fun _ H R => R (ItdT d od us') H) (tGt (tx X) us gt) (tT (tx X) xw0 tt) (tE (tx X) xw0 te) (own.map (·.2)) σ (L2.upd H d (.frz od (.dT us'))) (fun v H' => H' d = some (.frz od (.dT us')) ∧ Q v (L2.upd H' d (.dT us'))) := by
            refine lc_core (T := tx X) (xq := fun _ _ _ => False) (gt := gt) (tt := tt) (te := te) (ρ := ρ) hus R1 (S.gr E1.gr) hJ ?_
            exact key0 hl hp e2 E1 b
          exact key
      · exact b.elim
    · exact b.elim
  · exact b.elim
end Y
namespace Y
open PySem PySem.Spec PyProof.Rows L2

/-! ### D.get(k, e) of a module's dict -/
section
variable {X : Cx} {xw : WX} {a b e f : Expr} {fa fb fk fv : EF} {pos p1 apos cpos : Pos} {k : Nat} {x : Str} {kvs : List (Str × PyData)}
def tKGet2 (p : Addr) (ty tx : TE) : TE := fun σ H Q => ty σ H fun y H2 => tx σ H2 fun z H3 => ∃ (s : Str) (r : Option V) , y = .str s ∧ (r = none ∨ ∃ v, r = some v) ∧ ∃ kvs : List (Str × PyData), True
def asKGet2 (kvs : List (Str × PyData)) : W → W → List MO → Res W
  | .d (.str z), .d y, M => match kvs.lookup z with
    | some d => if flatD d = true then .ok (.d d) M else .stuck
    | none => .ok (.d y) M
  | _, _, _ => .stuck
def sKGet2 (kvs : List (Str × PyData)) (fk fv : EF) : EF := fun ρ M => (fk ρ M).bind fun w M1 => (fv ρ M1).bind fun u M2 => asKGet2 kvs w u M2
theorem me_kGet2 (T : KD X.K X.w.params X.mg x kvs) (he : ME X xw e fk) (hf : ME X xw f fv) (hg : Gl X x := by rfl) (hd : (x == ("__debug__" : Str)) = false := by decide) (m : M2 X (.Name x p1) "get" apos e f cpos := by exact ⟨rfl, rfl, rfl, rfl⟩) :
    ME X xw (.Call (.Attribute (.Name x p1) "get" apos) [e, f] [] cpos) (sKGet2 kvs fk fv) := by
  obtain ⟨p, es, n, hm, h1, h2, h3, h4⟩ := T.ex
  refine ⟨fun pins s σ H Q I h => wpAny_Call_method m.base m.few m.line F.plainAttrs_dict F.slot_dict_get F.type_dict_get (thn ((pe_glob (pos := p1) hg hm (v := .ref p) rfl hd).run pins s σ H (fun v H1 => v = .ref p ∧ H1 = H) I ⟨rfl, rfl⟩) fun u s1 ⟨v, H1, I1, r1, ev, eH⟩ => ?_)⟩
  subst ev eH
  cases r1
  have hM := PySem.W.mapOf_K (w := X.w) (prog := X.prog) (Inv.kIn I1) h1 h2
  refine ⟨hM.typeIs, hM.noDict, ?_⟩
  rw [m.trees]
  have key : tE (tx X) xw fk σ H1 fun y H2 => tE (tx X) xw fv σ H2 fun z H3 => ∃ zs, y = .str zs ∧ match kvs.lookup zs with
      | some d => flatD d = true ∧ ∀ v, (∀ F, Dq X.K F v d) → Q v H3
      | none => Q z H3 := by
    refine tG_mono (tG_bind (R2 := RW X.K) (k := fun ρ w M1 => (fv ρ M1).bind fun u M2 => asKGet2 kvs w u M2) h) fun y H2 ⟨g, ρ, M, w, R, S, q, b⟩ => ⟨g, ρ, M, R, S, ?_⟩
    cases e2 : fv ρ M with
    | stuck => rw [e2] at b; exact b
    | err y M2 => rw [e2] at b; exact b
    | ok u M2 =>
      rw [e2] at b
      intro z g3 H3 R3 E3 r3
      replace b : Bhd (tx X) (fun c d H => xw c d σ H) (RW X.K) Q (asKGet2 kvs w u M2) g H2 := b
      unfold asKGet2 at b
      split at b
      · rename_i zs y0
        cases q with
        | d q =>
          cases q
          refine ⟨zs, rfl, ?_⟩
          cases el : kvs.lookup zs with
          | none => simp only [el] at b; exact b z g3 H3 R3 E3 r3
          | some d =>
            simp only [el] at b
            split at b
            · rename_i hf
              exact ⟨hf, fun v hv => b v g3 H3 R3 E3 (.d (hv _))⟩
            · exact b.elim
      · exact b.elim
  refine Calls.callWith_builtin rfl (Calls.evalArgs_plain (Calls.spliced_cons (thn (he.run pins s1 σ H1 _ I1 key) fun iv s2 ⟨y, H2, I2, ry, q2⟩ => Calls.spliced_cons (thn (hf.run pins s2 σ H2 _ I2 q2) fun fv s3 ⟨z, H3, I3, rz, zs, ey, q3⟩ => Calls.spliced_nil ?_))))
  subst ey
  obtain ⟨t, rfl⟩ := ry
  have hM3 := PySem.W.mapOf_K (w := X.w) (prog := X.prog) (Inv.kIn I3) h1 h2
  have h5 := h4 zs
  refine call_meetsIn F.slot_dict_get hM3.typeIs F.entry_dict_get (F.args_dict_get_3 (.ref p) _ fv) (meets_dict_get_default (strKind X.prog X.w) p (strKind_is X.prog X.w zs t) h3 fv) ⟨_, hM3, ?_⟩
  cases el : kvs.lookup zs with
  | none =>
    rw [el] at q3 h5
    rw [PySem.W.find_K h1 h5]
    exact ⟨z, H3, I3.tok _, rz, q3⟩
  | some d =>
    rw [el] at q3 h5
    obtain ⟨u, v, h6, h7⟩ := h5
    rw [PySem.W.find_K h1 h6]
    simp only at q3
    exact ⟨v, H3, I3.tok _, h7.rel1, q3.2 v fun F => h7.rel2 q3.1 F⟩
/-! a or b by truth, a being a list; a test of a number -/
def truD : PyData → Option Bool
  | .int i => some (i != 0)
  | .list ds => some (!ds.isEmpty)
  | .tuple ds => some (!ds.isEmpty)
  | .bool b => some b
  | .none => some false
  | _ => none
theorem truD_ok {K : PySem.W.Frag} {F H : Hp} (s : Sub F H) {v : V} {x : PyData} {b : Bool} (h : Dq K F v x) (e : truD x = some b) : TruV K v H b := by
  cases h with
  | non => cases e; rfl
  | bl b => cases e; rfl
  | int i => cases e; rfl
  | str x => cases e
  | lst h1 h2 =>
    rename_i a xs ds
    cases e
    refine .inl ⟨xs, .of (s _ _ h1), ?_⟩
    cases h2 <;> rfl
  | tup h1 h2 =>
    rename_i a xs ds
    cases e
    refine .inr (.inl ⟨xs, TqT.up s h1, ?_⟩)
    cases h2 <;> rfl
def sOrT (f h : EF) : EF := fun ρ M => (f ρ M).bind fun w M1 => match w with
  | .d x => match truD x with
    | some true => .ok (.d x) M1
    | some false => h ρ M1
    | none => .stuck
  | _ => .stuck
theorem me_orT {rest : List Expr} (ha : ME X xw a fa) (hb : ME X xw (.BoolOp .Or (b :: rest) pos) fb) : ME X xw (.BoolOp .Or (a :: b :: rest) pos) (sOrT fa fb) :=
  PE.imp (pe_orT ha hb) fun σ H Q h => tG_mono (tG_bind (R2 := RW X.K) h) fun v H1 ⟨g, ρ, M, w, R, S, q, b⟩ => by
    split at b
    · rename_i x
      cases q with
      | d q =>
        split at b
        · rename_i e
          exact ⟨true, truD_ok R.sub q e, iteT (b v g H1 R (Ext.refl _ _) (.d q))⟩
        · rename_i e
          exact ⟨false, truD_ok R.sub q e, iteF ⟨g, ρ, M, R, S, b⟩⟩
        · exact b.elim
    · exact b.elim
def sTru (f : EF) : TF := fun ρ M => (f ρ M).bind fun w M1 => match w with
  | .d x => match truD x with
    | some b => .ok b M1
    | none => .stuck
  | _ => .stuck
theorem mt_tru (ha : ME X xw a fa) (he : ∀ whole, isTrue a X.env whole = (do let v ← whole; standAt a.pos; holding [v] (truthy v)) := by intro _; rfl) : MT X xw a (sTru fa) :=
  PT.imp (pt_truth ha he) fun σ H Q h => tG_mono (tG_bind (R2 := RW X.K) h) fun v H1 ⟨g, ρ, M, w, R, S, q, b⟩ => by
    split at b
    · rename_i x
      cases q with
      | d q =>
        split at b
        · rename_i k e
          exact ⟨k, truD_ok R.sub q e, b k g H1 R (Ext.refl _ _) rfl⟩
        · exact b.elim
    · exact b.elim
end
/-! dict comprehensions: a dict that may grow -/
def compD (gt : GF) (tt : TF) (tk tv : EF) (ρ : Rho) : List PyData → List (L2.Key × PyData) → List MO → Option (List (L2.Key × PyData) × List MO)
  | [], acc, M => some (acc, M)
  | d :: ds, acc, M => match gt (.d d) ρ M with
    | some (ρ1, M1) => match tt ρ1 M1 with
      | .ok true M2 => match tk ρ1 M2 with
        | .ok (.d y) M3 => match keyK y with
          | some k => match tv ρ1 M3 with
            | .ok (.d z) M4 => compD gt tt tk tv ρ ds (putD acc k z) M4
            | _ => none
          | none => none
        | _ => none
      | .ok false M2 => compD gt tt tk tv ρ ds acc M2
      | _ => none
    | none => none
def sDc (it : IF) (gt : GF) (tt : TF) (tk tv : EF) (vs : List Nat) : EF := fun ρ M => (it ρ M).bind fun ds M1 => if ds.length < sizeLine then match compD gt tt tk tv (wip ρ vs) ds [] M1 with
    | some (kvs, M2) => .ok (.loc M2.length) (M2 ++ [.dct kvs])
    | none => .stuck
  else .stuck
theorem dc_imp {T : Tx} {xw : WX} {fi : IF} {gt : GF} {tt : TF} {tk tv : EF} {vs us : List Nat} (hus : ∀ v ∈ us, v ∈ vs) {σ : L2.St} {H : Hp} {Q : VK} (h : tE T xw (sDc fi gt tt tk tv vs) σ H Q) :
    tDc (tI T xw fi) (tGt T us gt) (tT T xw0 tt) (tE T xw0 tk) (tE T xw0 tv) vs σ H Q := by
  refine tG_mono (tG_bind (R2 := fun g (J : It) ds => ItOk T.K g.F J ds) h) fun J H1 ⟨g1, ρ, M1, ds, R1, S1, hJ, b⟩ D hD => ?_
  by_cases hz : ds.length < sizeLine
  · rw [if_pos hz] at b
    cases ec : compD gt tt tk tv (wip ρ vs) ds [] M1 with
    | none => rw [ec] at b; exact b.elim
    | some y =>
      obtain ⟨all, Mend⟩ := y
      rw [ec] at b
      have hF : g1.F D = none := R1.sub.none hD
      have hph : D ∉ g1.ph := fun z => by obtain ⟨u, q⟩ := R1.tr D z; rw [hD] at q; cases q
      refine ⟨fun i m H => m = ds.length - i ∧ i ≤ ds.length ∧ ∃ (g : Gh) (M : List MO) (us : List (L2.Key × V)) (acc : List (L2.Key × PyData)), Rel T.K g M H ∧ Ext g1 H1 g H ∧ H D = some (.dK us) ∧ g.F D = none ∧ D ∉ g.ph ∧ us.map (·.1) = acc.map (·.1) ∧ DqAll T.K g.F (us.map (·.2)) (acc.map (·.2)) ∧ us.length ≤ i ∧
          compD gt tt tk tv (wip ρ vs) (ds.drop i) acc M = some (all, Mend),
        ⟨ds.length, rfl, Nat.zero_le _, g1, M1, [], [], R1.updD hF hph, (Ext.refl _ _).updD hD, upd_same, hF, hph, rfl, .nil, Nat.le_refl _, ec⟩, ?_⟩
      rintro i m H ⟨rfl, hi, g, M, ks, acc, R, E, hDa, hFD, hphD, hk, da, hal, ec'⟩
      have sF : Sub g1.F g.F := E.gr.F
      by_cases hlt : i < ds.length
      · have hd : ds[i]? = some ds[i] := List.getElem?_eq_getElem hlt
        rw [List.drop_eq_getElem_cons hlt] at ec'
        unfold compD at ec'
        cases eg : gt (.d ds[i]) (wip ρ vs) M with
        | none => rw [eg] at ec'; cases ec'
        | some y =>
          obtain ⟨ρ1, Mg⟩ := y
          rw [eg] at ec'
          simp only at ec'
          cases et : tt ρ1 Mg with
          | stuck => rw [et] at ec'; cases ec'
          | err _ _ => rw [et] at ec'; cases ec'
          | ok bb M2 =>
            rw [et] at ec'
            refine .inr ⟨hJ.go i H hlt (sF.trans R.sub), fun H' => ∃ (g : Gh) (M : List MO) (us : List (L2.Key × V)) (acc : List (L2.Key × PyData)), Rel T.K g M H' ∧ Ext g1 H1 g H' ∧ H' D = some (.dK us) ∧ g.F D = none ∧ D ∉ g.ph ∧ us.map (·.1) = acc.map (·.1) ∧ DqAll T.K g.F (us.map (·.2)) (acc.map (·.2)) ∧ us.length ≤ i + 1 ∧
              compD gt tt tk tv (wip ρ vs) (ds.drop (i + 1)) acc M = some (all, Mend), fun H' n => ⟨ds.length - (i + 1), by omega, rfl, hlt, n⟩, fun x H' hy => ?_⟩
            obtain ⟨F', L, dq⟩ := hJ.yld i _ g.F H x H' hd sF R.sub hy
            refine ⟨⟨g.ph, F'⟩, wip ρ vs, M, .d ds[i], L.rel R, rs_wip (S1.gr (E.gr.trans L.ext.gr)) vs, .d dq, ρ1, Mg, eg, fun σ2 g2 H2 R2 E2 S2 O2 => ⟨wipe_off O2 hus, g2, ρ1, Mg, R2, S2, ?_⟩⟩
            rw [et]
            intro b' g3 H3 R3 E3 hb
            have hb' : b' = bb := hb
            subst hb'
            have E03 : Ext g H g3 H3 := (L.ext.trans E2).trans E3
            obtain ⟨o1, o2, o3⟩ := E03.outD hDa hFD hphD
            cases b' with
            | false => exact iteF ⟨g3, M2, ks, acc, R3, E.trans E03, o1, o2, o3, hk, DqAll.sub E03.gr.F da, by omega, ec'⟩
            | true =>
              simp only at ec'
              refine iteT ⟨g3, ρ1, M2, R3, S2.gr E3.gr, ?_⟩
              cases ee : tk ρ1 M2 with
              | stuck => rw [ee] at ec'; cases ec'
              | err _ _ => rw [ee] at ec'; cases ec'
              | ok w M3 =>
                rw [ee] at ec'
                cases w with
                | d y =>
                  simp only at ec'
                  cases ek : keyK y with
                  | none => rw [ek] at ec'; cases ec'
                  | some kk =>
                    rw [ek] at ec'
                    simp only at ec'
                    intro vy g4 H4 R4 E4 rv
                    refine ⟨g4, ρ1, M3, R4, (S2.gr E3.gr).gr E4.gr, ?_⟩
                    cases ev : tv ρ1 M3 with
                    | stuck => rw [ev] at ec'; cases ec'
                    | err _ _ => rw [ev] at ec'; cases ec'
                    | ok w2 M4 =>
                      rw [ev] at ec'
                      cases w2 with
                      | d z =>
                        simp only at ec'
                        intro vz g5 H5 R5 E5 rz
                        have E05 := (E03.trans E4).trans E5
                        obtain ⟨p1, p2, p3⟩ := E05.outD hDa hFD hphD
                        cases rv with
                        | d rv =>
                          cases rz with
                          | d dz =>
                            obtain ⟨i1, i2⟩ := put_rel (k := kk) dz hk (DqAll.sub E05.gr.F da)
                            refine ⟨ks, kk, keyK_ok rv ek, p1, by omega, g5, M4, putK ks kk vz, putD acc kk z, R5.updD p2 p3, (E.trans E05).updD hD, upd_same, p2, p3, i1, i2, ?_, ec'⟩
                            have := length_putK ks kk vz
                            omega
                      | _ => cases ec'
                | _ => cases ec'
      · have hz' : ds.drop i = [] := List.drop_of_length_le (by omega)
        rw [hz'] at ec'
        unfold compD at ec'
        cases ec'
        refine .inl ⟨by rw [show i = ds.length by omega]; exact hJ.stop H (sF.trans R.sub), ?_⟩
        obtain ⟨R6, E6⟩ := R.pushD (u := .dK ks) (o := .dct all) hFD hphD E hD ⟨ks, upd_same, hk, da⟩
        have hu : L2.upd H D (.dK ks) = H := by
          funext z
          by_cases hz2 : z = D
          · rw [hz2, upd_same, hDa]
          · rw [upd_ne hz2]
        rw [hu] at R6 E6
        exact b (.ref D) _ H R6 E6 (push_loc R)
  · rw [if_neg hz] at b; exact b.elim
theorem me_dc {X : Cx} {k : Nat} {xw : WX} {kx vx tg iter : Expr} {ifs : List Expr} {scope : Scope} {own : List (Str × Nat)} {pos : Pos} {fi : IF} {gt : GF} {tt : TF} {tk tv : EF} {us : List Nat} (C : Ctx X k xw) (hi : MI X xw tg iter fi) (ok : BlkOk X.N X.env.scope scope own)
    (hg : ∀ (s : Shared) (H : Hp) (A : Addr) (cl : List (Str × Addr)) (fp : List Addr), Ctx (X.blk s H scope (compEnvC scope cl A X.env) fp) k xw0 → MG (X.blk s H scope (compEnvC scope cl A X.env) fp) tg us gt) (ht : ∀ (s : Shared) (H : Hp) (A : Addr) (cl : List (Str × Addr)) (fp : List Addr), Ctx (X.blk s H scope (compEnvC scope cl A X.env) fp) k xw0 → MTs (X.blk s H scope (compEnvC scope cl A X.env) fp) ifs tt)
    (hk : ∀ (s : Shared) (H : Hp) (A : Addr) (cl : List (Str × Addr)) (fp : List Addr), Ctx (X.blk s H scope (compEnvC scope cl A X.env) fp) k xw0 → ME (X.blk s H scope (compEnvC scope cl A X.env) fp) xw0 kx tk)
    (he : ∀ (s : Shared) (H : Hp) (A : Addr) (cl : List (Str × Addr)) (fp : List Addr), Ctx (X.blk s H scope (compEnvC scope cl A X.env) fp) k xw0 → ME (X.blk s H scope (compEnvC scope cl A X.env) fp) xw0 vx tv) (hus : ∀ v ∈ us, v ∈ own.map (·.2) := by decide) (hs : ∀ x, foldedSetIterable iter X.env x = pure x := by intro _; rfl) :
    ME X xw (.DictComp kx vx [⟨tg, iter, ifs, 0⟩] scope pos) (sDc fi gt tt tk tv (own.map (·.2))) :=
  PE.imp (pe_dc C.calm C.nd hi ok (fun s H A cl fp => hg s H A cl fp (C.blk _ _ _ _ _)) (fun s H A cl fp => ht s H A cl fp (C.blk _ _ _ _ _)) (fun s H A cl fp => hk s H A cl fp (C.blk _ _ _ _ _)) (fun s H A cl fp => he s H A cl fp (C.blk _ _ _ _ _)) hs) fun σ H Q h => dc_imp (T := tx X) hus h
/-! range(a, b, c), c > 0 -/
theorem fitsL {x : Int} (h : -100000000 ≤ x) (h2 : x ≤ 100000000) : Builtin.Range.rangeFitsLong x = true := by
  unfold Builtin.Range.rangeFitsLong
  simp
  omega
def rgN (i j c : Int) : Nat := if i < j then ((j - i - 1) / c + 1).toNat else 0
theorem rgC_pos {i j c : Int} (h0 : 0 ≤ i) (h1 : i ≤ 1000000) (h2 : 0 ≤ j) (h3 : j ≤ 1000000) (h4 : 0 < c) (h5 : c ≤ 1000) : RgC i j c (rgN i j c) := by
  have hd : 0 ≤ (j - i - 1) / c ∨ ¬ i < j := by
    by_cases h : i < j
    · exact .inl (Int.ediv_nonneg (by omega) (by omega))
    · exact .inr h
  have hu : (j - i - 1) / c ≤ 1000000 ∨ ¬ i < j := by
    by_cases h : i < j
    · exact .inl (Int.le_trans (Int.ediv_le_self _ (by omega)) (by omega))
    · exact .inr h
  have hs : Builtin.Range.rangeSize i j c = (rgN i j c : Nat) := by
    unfold Builtin.Range.rangeSize rgN
    rw [if_pos h4]
    by_cases h : i < j
    · rw [if_pos h, if_pos h]
      have := hd.resolve_right (by simpa using h)
      omega
    · rw [if_neg h, if_neg h]
      rfl
  refine ⟨by omega, by omega, ?_, hs⟩
  unfold Builtin.Range.small
  rw [hs, fitsL (by omega) (by omega), fitsL (by omega) (by omega), fitsL (x := c) (by omega) (by omega), fitsL (x := (rgN i j c : Nat)) (by omega) (by
    unfold rgN
    split
    · have := hu.resolve_right (by simpa using by assumption)
      have := hd.resolve_right (by simpa using by assumption)
      omega
    · omega), if_pos h4, fitsL (by omega) (by omega)]
  simp
def rng3 (lo c : Int) (n : Nat) : List PyData := (List.range n).map fun i => .int (lo + (i : Nat) * c)
theorem itok_rng3 {K : PySem.W.Frag} {F : Hp} {lo c : Int} {n : Nat} : ItOk K F (Itc lo c n) (rng3 lo c n) := by
  have hl : (rng3 lo c n).length = n := by unfold rng3; rw [List.length_map, List.length_range]
  refine ⟨fun i H hi s => by show i < n; omega, fun H s => by show n ≤ (rng3 lo c n).length; omega, fun i x F' H v H' e s1 s2 hy => ?_⟩
  obtain ⟨rfl, rfl⟩ := hy
  unfold rng3 at e
  rw [List.getElem?_map] at e
  cases q : (List.range n)[i]? with
  | none => rw [q] at e; cases e
  | some c =>
    rw [q] at e
    cases e
    obtain ⟨h1, h2⟩ := List.getElem?_eq_some_iff.mp q
    rw [List.getElem_range] at h2
    subst h2
    exact ⟨F', Lay.refl s2, .int _⟩
def asR3 : List W → List MO → Res (List PyData)
  | [.d (.int i), .d (.int j), .d (.int c)], M => if 0 ≤ i ∧ i ≤ 1000000 ∧ 0 ≤ j ∧ j ≤ 1000000 ∧ 0 < c ∧ c ≤ 1000 then .ok (rng3 i c (rgN i j c)) M else .stuck
  | _, _ => .stuck
def itR3 (fs : List EF) : IF := fun ρ M => (evs fs ρ M).bind asR3
theorem mi_range3 {X : Cx} {xw : WX} {tg a a2 a3 : Expr} {fs : List EF} {p pos : Pos} (ha : MA X xw [a, a2, a3] fs) (hm : X.mg "range" = none) (hg : Gl X "range" := by rfl)
    (hs : starEach [a, a2, a3] X.env = (false, eval a X.env) :: starEach [a2, a3] X.env := by rfl) (hpl : (backTo pos (starEach [a2, a3] X.env)).any (·.1) = false := by rfl) : MI X xw tg (.Call (.Name "range" p) [a, a2, a3] [] pos) (itR3 fs) :=
  PI.imp (pi_range3 hg hm ha hs hpl) fun σ H R h => tG_mono (tG_bind (R2 := RWs X.K) h) fun v H1 ⟨g, ρ, M, ws, R1, S, q, b⟩ => by
    unfold asR3 at b
    split at b
    · rename_i i j c
      cases q with
      | cons q1 t =>
        cases t with
        | cons q2 t =>
          cases t with
          | cons q3 t =>
            cases t
            cases q1 with
            | d q1 => cases q2 with
              | d q2 => cases q3 with
                | d q3 =>
                  cases q1
                  cases q2
                  cases q3
                  split at b
                  · rename_i hc
                    exact ⟨i, j, c, _, rfl, rgC_pos hc.1 hc.2.1 hc.2.2.1 hc.2.2.2.1 hc.2.2.2.2.1 hc.2.2.2.2.2, b _ g H1 R1 (Ext.refl _ _) itok_rng3⟩
                  · exact b.elim
    · exact b.elim
/-! x = {..for..} -/
theorem sw_trueD {kx vx : Expr} {gs : List Comprehension} {scope : Scope} {pos py : Pos} {y : Str} {l : Nat} {env : Env} (hk : env.scope.kind = .function) (hy : List.lookup y env.scope.names = some .local) (hl : (py.line == pos.line) = true)
    (ha : (scope.names.any fun x => match x with | (n, k) => n == y && (k == NameKind.local || k == NameKind.cell)) = false) : swapsWith (.DictComp kx vx gs scope pos) (some (.Name y py)) l env = pure true :=
  (show swapsWith (.DictComp kx vx gs scope pos) (some (.Name y py)) l env = swapsWith (.ListComp kx gs scope pos) (some (.Name y py)) l env from rfl).trans (sw_true hk hy hl ha)
theorem ps_setDc {X : Cx} {i : Nat} {y : Str} {py : Pos} {kx vx tg iter : Expr} {ifs : List Expr} {scope : Scope} {own : List (Str × Nat)} {pos spos : Pos} {wi : TI} {g : TG} {tt : TT} {tk tv : TE}
    (hc : X.calm = true) (hN : X.N.Nodup) (hy : X.N[i]? = some y) (hyl : X.env.scope.names.lookup y = some .local) (hsw : swapsWith (.DictComp kx vx [⟨tg, iter, ifs, 0⟩] scope pos) (some (.Name y py)) spos.line X.env = pure true)
    (hi : PI X tg iter wi) (ok : BlkOk X.N X.env.scope scope own) (hg : ∀ (s : Shared) (H : Hp) (C : Addr) (cl : List (Str × Addr)) (fp : List Addr), PG (X.blk s H scope (compEnvC scope cl C X.env) fp) tg g)
    (ht : ∀ (s : Shared) (H : Hp) (C : Addr) (cl : List (Str × Addr)) (fp : List Addr), PTs (X.blk s H scope (compEnvC scope cl C X.env) fp) ifs tt) (hk : ∀ (s : Shared) (H : Hp) (C : Addr) (cl : List (Str × Addr)) (fp : List Addr), PE (X.blk s H scope (compEnvC scope cl C X.env) fp) kx tk)
    (he : ∀ (s : Shared) (H : Hp) (C : Addr) (cl : List (Str × Addr)) (fp : List Addr), PE (X.blk s H scope (compEnvC scope cl C X.env) fp) vx tv) (hs : ∀ x, foldedSetIterable iter X.env x = pure x := by intro _; rfl) :
    PS X (.Assign [.Name y py] (.DictComp kx vx [⟨tg, iter, ifs, 0⟩] scope pos) spos) (tAsg (tDc wi g tt tk tv (own.map (·.2))) (gName i)) := by
  refine ⟨fun pins s σ H D I h => ?_⟩
  rw [exec_Assign_Name_used y py _ spos hsw]
  refine wpAny_bind (wpAny_standAt (wpAny_bind ?_))
  refine wpAny_bind (thn (dc_core hc hN I hi ok hg ht hk he hs h fun L C s' m H' I' q hn f => ?_) fun x s' hq => wpAny_pure (wpAny_pure hq))
  refine wpAny_assign_Name (store_ok2 (v := V.ref L) I' hN hy (.inl hyl) rfl (fun s2 I2 x => ?_) (.inr hyl))
  obtain ⟨a, sb, ha⟩ := x
  obtain ⟨f0, f1, f2, f3, f4, f5⟩ := f
  have haC : C ≠ a := by
    rcases ha with z | z
    · rw [z]; exact f1
    · exact fun e => f4 y a z e.symm
  exact ⟨m, hn.sameBut sb haC, fun h3 sb3 => ⟨σ.set i (some (V.ref L)), H', Inv.turned I2 (fun b o hb e => (sb3.right b hb).trans e) f0 f1 f3 f4 f5, q⟩⟩
theorem ms_setDc {X : Cx} {k : Nat} {xw : WX} {i : Nat} {y : Str} {py : Pos} {kx vx tg iter : Expr} {ifs : List Expr} {scope : Scope} {own : List (Str × Nat)} {pos spos : Pos} {fi : IF} {gt : GF} {tt : TF} {tk tv : EF} {us : List Nat} (C : Ctx X k xw) (hi : MI X xw tg iter fi) (ok : BlkOk X.N X.env.scope scope own)
    (hg : ∀ (s : Shared) (H : Hp) (A : Addr) (cl : List (Str × Addr)) (fp : List Addr), Ctx (X.blk s H scope (compEnvC scope cl A X.env) fp) k xw0 → MG (X.blk s H scope (compEnvC scope cl A X.env) fp) tg us gt) (ht : ∀ (s : Shared) (H : Hp) (A : Addr) (cl : List (Str × Addr)) (fp : List Addr), Ctx (X.blk s H scope (compEnvC scope cl A X.env) fp) k xw0 → MTs (X.blk s H scope (compEnvC scope cl A X.env) fp) ifs tt)
    (hk : ∀ (s : Shared) (H : Hp) (A : Addr) (cl : List (Str × Addr)) (fp : List Addr), Ctx (X.blk s H scope (compEnvC scope cl A X.env) fp) k xw0 → ME (X.blk s H scope (compEnvC scope cl A X.env) fp) xw0 kx tk)
    (he : ∀ (s : Shared) (H : Hp) (A : Addr) (cl : List (Str × Addr)) (fp : List Addr), Ctx (X.blk s H scope (compEnvC scope cl A X.env) fp) k xw0 → ME (X.blk s H scope (compEnvC scope cl A X.env) fp) xw0 vx tv) (hy : X.N[i]? = some y := by rfl) (hyl : X.env.scope.names.lookup y = some .local := by rfl)
    (hsw : swapsWith (.DictComp kx vx [⟨tg, iter, ifs, 0⟩] scope pos) (some (.Name y py)) spos.line X.env = pure true := by exact (sw_trueD rfl rfl rfl (by decide +kernel))) (hus : ∀ v ∈ us, v ∈ own.map (·.2) := by decide) (hs : ∀ x, foldedSetIterable iter X.env x = pure x := by intro _; rfl) :
    MS X xw (.Assign [.Name y py] (.DictComp kx vx [⟨tg, iter, ifs, 0⟩] scope pos) spos) (sSet i (sDc fi gt tt tk tv (own.map (·.2)))) :=
  PS.imp (ps_setDc C.calm C.nd hy hyl hsw hi ok (fun s H A cl fp => hg s H A cl fp (C.blk _ _ _ _ _)) (fun s H A cl fp => ht s H A cl fp (C.blk _ _ _ _ _)) (fun s H A cl fp => hk s H A cl fp (C.blk _ _ _ _ _)) (fun s H A cl fp => he s H A cl fp (C.blk _ _ _ _ _)) hs) fun D σ H q => dc_imp (T := tx X) hus (tG_mono (tS_then q) fun v H1 ⟨g, ρ, M, w, R, S, r, b⟩ => b _ g H1 R (Ext.refl _ _) (S.set i r))
/-! tests of dicts -/
section
variable {X : Cx} {xw : WX} {a b : Expr} {fa fb : EF} {pos p1 : Pos} {k : Nat}
theorem mt_dIn (C : Ctx X k xw) (ha : ME X xw a fa) (hb : ME X xw b fb) (hm : behindInMarks .In b = false := by rfl) : MT X xw (.Compare a [.In] [b] pos) (sVal (sPr (pDIn false) [fa, fb])) :=
  PT.imp (pt_cmp (pc_din (by have := ctx_u C; omega) ha hb) hm) fun σ H Q h => tG_mono (prim2 (T := tx X) (din_ok _ false) (tT_val h)) fun _ _ h => tG_mono h fun _ _ ⟨_, _, e, q⟩ => by cases e; exact q
theorem mt_dNotIn (C : Ctx X k xw) (ha : ME X xw a fa) (hb : ME X xw b fb) (hm : behindInMarks .NotIn b = false := by rfl) : MT X xw (.Compare a [.NotIn] [b] pos) (sVal (sPr (pDIn true) [fa, fb])) :=
  PT.imp (pt_cmp (pc_dnotin (by have := ctx_u C; omega) ha hb) hm) fun σ H Q h => tG_mono (prim2 (T := tx X) (din_ok _ true) (tT_val h)) fun _ _ h => tG_mono h fun _ _ ⟨_, _, e, q⟩ => by cases e; exact q
end
end Y
namespace Y
open PySem PySem.Spec PyProof.Rows L2

/-! ### for over a list that lives -/
def forV (gt : GF) (body : SF) (n : Nat) : Nat → Nat → SF
  | 0, _ => fun _ _ => .stuck
  | m + 1, i => fun ρ M => match M[n]? with
    | some (.lst ds) => match ds[i]? with
      | none => .nx ρ M
      | some d => match gt (.d d) ρ M with
        | some (ρ1, M1) => match body ρ1 M1 with
          | .nx ρ2 M2 => forV gt body n m (i + 1) ρ2 M2
          | .ct ρ2 M2 => forV gt body n m (i + 1) ρ2 M2
          | .bk ρ2 M2 => .nx ρ2 M2
          | r => r
        | none => .stuck
    | _ => .stuck
def sForA (f : EF) (gt : GF) (body : SF) (fuel : Nat) : SF := fun ρ M => match f ρ M with
  | .ok (.loc n) M1 => forV gt body n fuel 0 ρ M1
  | .ok (.d (.list ds)) M1 => forL gt body ds ρ M1
  | .ok (.d (.tuple ds)) M1 => forL gt body ds ρ M1
  | .ok _ _ => .stuck
  | .err e M1 => .er e ρ M1
  | .stuck => .stuck
theorem forL_turns {X : Cx} {xw : WX} {vs : List Nat} {gt : GF} {fb : SF} {D : Ends} {J : It} {ds : List PyData} {g0 g1 : Gh} {ρ0 : Rho} {M2 : List MO} {σ : L2.St} {H0 H1 : Hp}
    (b0 : BhdS (tx X) xw D (forL gt fb ds ρ0 M2) g0 H0) (R1 : Rel X.K g1 M2 H1) (S1 : RS X.K g1 σ ρ0) (E1 : Ext g0 H0 g1 H1) (hJ : ItOk X.K g1.F J ds) :
    ∃ W : Nat → Nat → L2.St → Hp → Prop, (∃ m, W 0 m σ H1) ∧ ∀ i m σ H, W i m σ H →
      (J.stop i H ∧ D.nx σ H) ∨ (J.go i H ∧ ∃ N : L2.St → Hp → Prop, (∀ σ' H', N σ' H' → ∃ m', m' < m ∧ W (i + 1) m' σ' H') ∧ ∀ x H', J.yld i H x H' → tGt (tx X) vs gt x σ H' fun σ2 H2 => tS (tx X) xw fb { D with nx := N, ct := N, bk := D.nx } σ2 H2) := by
  refine ⟨fun i m σ H => m = ds.length - i ∧ i ≤ ds.length ∧ ∃ g ρ M, Rel X.K g M H ∧ RS X.K g σ ρ ∧ Sub g1.F g.F ∧ BhdS (tx X) xw D (forL gt fb (ds.drop i) ρ M) g H,
    ⟨ds.length, rfl, Nat.zero_le _, g1, ρ0, M2, R1, S1, Sub.refl _, BhdS.later b0 E1⟩, ?_⟩
  rintro i m σ H ⟨rfl, hi, g, ρ, M, R, S, sF, b⟩
  by_cases hlt : i < ds.length
  · have hd : ds[i]? = some ds[i] := List.getElem?_eq_getElem hlt
    rw [List.drop_eq_getElem_cons hlt] at b
    unfold forL at b
    cases eg : gt (.d ds[i]) ρ M with
    | none => rw [eg] at b; exact b.elim
    | some y =>
      obtain ⟨ρ1, M1⟩ := y
      rw [eg] at b
      simp only at b
      refine .inr ⟨hJ.go i H hlt (sF.trans R.sub), fun σ' H' => ∃ g ρ M, Rel X.K g M H' ∧ RS X.K g σ' ρ ∧ Sub g1.F g.F ∧ BhdS (tx X) xw D (forL gt fb (ds.drop (i + 1)) ρ M) g H',
        fun σ' H' n => ⟨ds.length - (i + 1), by omega, rfl, hlt, n⟩, fun x H' hy => ?_⟩
      obtain ⟨F', L, dq⟩ := hJ.yld i _ g.F H x H' hd sF R.sub hy
      refine ⟨⟨g.ph, F'⟩, ρ, M, .d ds[i], L.rel R, S.gr L.ext.gr, .d dq, ρ1, M1, eg, fun σ2 g2 H2 R2 E2 S2 _ => ⟨g2, ρ1, M1, R2, S2, ?_⟩⟩
      have E3 := L.ext.trans E2
      cases eb : fb ρ1 M1 with
      | nx ρ2 M2 => rw [eb] at b; exact fun σ' g' H' r' e' s' => ⟨g', ρ2, M2, r', s', sF.trans (E3.trans e').gr.F, BhdS.later b (E3.trans e')⟩
      | ct ρ2 M2 => rw [eb] at b; exact fun σ' g' H' r' e' s' => ⟨g', ρ2, M2, r', s', sF.trans (E3.trans e').gr.F, BhdS.later b (E3.trans e')⟩
      | bk ρ2 M2 => rw [eb] at b; exact fun σ' g' H' r' e' s' => BhdS.later b E3 σ' g' H' r' e' s'
      | ret ρ2 M2 => rw [eb] at b; exact fun σ' g' H' r' e' s' => BhdS.later b E3 σ' g' H' r' e' s'
      | er x ρ2 M2 => rw [eb] at b; exact fun c d σ' g' H' r' e' s' => BhdS.later b E3 c d σ' g' H' r' e' s'
      | stuck => rw [eb] at b; exact b.elim
  · have hz : ds.drop i = [] := List.drop_of_length_le (by omega)
    rw [hz] at b
    exact .inl ⟨by rw [show i = ds.length by omega]; exact hJ.stop H (sF.trans R.sub), b σ g H R (Ext.refl _ _) S⟩
theorem forV_turns {X : Cx} {xw : WX} {vs : List Nat} {gt : GF} {fb : SF} {D : Ends} {a : Addr} {n fuel : Nat} {g0 g1 : Gh} {ρ0 : Rho} {M2 : List MO} {σ : L2.St} {H0 H1 : Hp}
    (b0 : BhdS (tx X) xw D (forV gt fb n fuel 0 ρ0 M2) g0 H0) (R1 : Rel X.K g1 M2 H1) (S1 : RS X.K g1 σ ρ0) (E1 : Ext g0 H0 g1 H1) (hp : g1.ph[n]? = some a) :
    ∃ W : Nat → Nat → L2.St → Hp → Prop, (∃ m, W 0 m σ H1) ∧ ∀ i m σ H, W i m σ H →
      ((Itl X.K a).stop i H ∧ D.nx σ H) ∨ ((Itl X.K a).go i H ∧ ∃ N : L2.St → Hp → Prop, (∀ σ' H', N σ' H' → ∃ m', m' < m ∧ W (i + 1) m' σ' H') ∧ ∀ x H', (Itl X.K a).yld i H x H' → tGt (tx X) vs gt x σ H' fun σ2 H2 => tS (tx X) xw fb { D with nx := N, ct := N, bk := D.nx } σ2 H2) := by
  refine ⟨fun i m σ H => ∃ g ρ M, Rel X.K g M H ∧ RS X.K g σ ρ ∧ g.ph[n]? = some a ∧ BhdS (tx X) xw D (forV gt fb n m i ρ M) g H,
    ⟨fuel, g1, ρ0, M2, R1, S1, hp, BhdS.later b0 E1⟩, ?_⟩
  rintro i m σ H ⟨g, ρ, M, R, S, hph, b⟩
  cases m with
  | zero => exact b.elim
  | succ m =>
    unfold forV at b
    cases hM : M[n]? with
    | none => rw [hM] at b; exact b.elim
    | some o =>
      rw [hM] at b
      cases o with
      | lst ds =>
        obtain ⟨a', ha', _, xs, hxs, dq⟩ := R.at_ n _ hM rfl
        rw [hph] at ha'
        cases ha'
        have hl := dq.length
        simp only at b
        cases hd : ds[i]? with
        | none =>
          rw [hd] at b
          have := List.getElem?_eq_none_iff.mp hd
          exact .inl ⟨⟨xs, .of hxs, by omega⟩, b σ g H R (Ext.refl _ _) S⟩
        | some d =>
          rw [hd] at b
          obtain ⟨u, e1, e2⟩ := dq.get hd
          simp only at b
          cases eg : gt (.d d) ρ M with
          | none => rw [eg] at b; exact b.elim
          | some y =>
            obtain ⟨ρ1, M1⟩ := y
            rw [eg] at b
            simp only at b
            refine .inr ⟨⟨xs, u, .of hxs, e1⟩, fun σ' H' => ∃ g ρ M, Rel X.K g M H' ∧ RS X.K g σ' ρ ∧ g.ph[n]? = some a ∧ BhdS (tx X) xw D (forV gt fb n m (i + 1) ρ M) g H',
              fun σ' H' n => ⟨m, Nat.lt_succ_self m, n⟩, fun x H' hy => ?_⟩
            obtain ⟨rfl, hv⟩ := hy
            have := hv xs (.of hxs)
            rw [e1] at this
            cases this
            refine ⟨g, ρ, M, .d d, R, S, .d e2, ρ1, M1, eg, fun σ2 g2 H2 R2 E2 S2 _ => ⟨g2, ρ1, M1, R2, S2, ?_⟩⟩
            cases eb : fb ρ1 M1 with
            | nx ρ2 M2 => rw [eb] at b; exact fun σ' g' H' r' e' s' => ⟨g', ρ2, M2, r', s', (E2.trans e').gr.ph _ _ hph, BhdS.later b (E2.trans e')⟩
            | ct ρ2 M2 => rw [eb] at b; exact fun σ' g' H' r' e' s' => ⟨g', ρ2, M2, r', s', (E2.trans e').gr.ph _ _ hph, BhdS.later b (E2.trans e')⟩
            | bk ρ2 M2 => rw [eb] at b; exact fun σ' g' H' r' e' s' => BhdS.later b E2 σ' g' H' r' e' s'
            | ret ρ2 M2 => rw [eb] at b; exact fun σ' g' H' r' e' s' => BhdS.later b E2 σ' g' H' r' e' s'
            | er x ρ2 M2 => rw [eb] at b; exact fun c d σ' g' H' r' e' s' => BhdS.later b E2 c d σ' g' H' r' e' s'
            | stuck => rw [eb] at b; exact b.elim
      | _ => exact b.elim
theorem ms_forA {X : Cx} {k : Nat} {xw : WX} {tg iter : Expr} {body : List Stmt} {f : EF} {vs : List Nat} {gt : GF} {fb : SF} {pos : Pos} (fuel : Nat) (C : Ctx X k xw) (hi : ME X xw iter f) (hg : MG X tg vs gt) (hb : MSs X xw body fb)
    (hs : ∀ x, foldedSetIterable iter X.env x = pure x := by intro _; rfl) : MS X xw (.For tg iter body [] pos) (sForA f gt fb fuel) :=
  PS.imp (ps_for C.own C.calm (pi_seq3 hi) hg hb hs) fun D σ H ⟨g0, ρ0, M0, R0, S0, b0⟩ => by
    refine ⟨g0, ρ0, M0, R0, S0, ?_⟩
    unfold sForA at b0
    cases ei : f ρ0 M0 with
    | stuck => rw [ei] at b0; exact b0
    | err x M2 => rw [ei] at b0; exact fun c d g' H' r' e' q' => b0 c d σ g' H' r' e' (S0.gr e'.gr) q'
    | ok w M2 =>
      rw [ei] at b0
      intro v g1 H1 R1 E1 hv
      cases w with
      | loc n =>
        cases hv with
        | loc hp =>
          refine .inl ⟨_, rfl, ?_, forV_turns b0 R1 (S0.gr E1.gr) E1 hp⟩
          simp only at b0
          cases fuel with
          | zero => exact b0.elim
          | succ m =>
            unfold forV at b0
            cases hM : M2[n]? with
            | none => rw [hM] at b0; exact b0.elim
            | some o =>
              rw [hM] at b0
              cases o with
              | lst ds =>
                obtain ⟨a', ha', _, xs, hxs, dq⟩ := R1.at_ n _ hM rfl
                rw [hp] at ha'
                cases ha'
                exact ⟨xs, .of hxs⟩
              | _ => exact b0.elim
      | d x =>
        cases x with
        | list ds =>
          cases hv with
          | d q => cases q with
            | lst h t => exact .inl ⟨_, rfl, ⟨_, .of (R1.sub _ _ h)⟩, forL_turns b0 R1 (S0.gr E1.gr) E1 (itok_lst h t)⟩
        | tuple ds =>
          cases hv with
          | d q => cases q with
            | tup h t => exact .inr (.inl ⟨_, rfl, ⟨_, TqT.up R1.sub h⟩, forL_turns b0 R1 (S0.gr E1.gr) E1 (itok_tup h t)⟩)
        | _ => exact b0.elim
      | _ => exact b0.elim
end Y
namespace Y
open PySem PySem.Spec PyProof.Rows L2

/-! ### a list that lives, gone through once and for all: it is locked -/
def asItA : W → List MO → Res (List PyData)
  | .d (.list ds), M => .ok ds M
  | .d (.tuple ds), M => .ok ds M
  | .d (.str s), M => .ok (chs s) M
  | .loc n, M => match M[n]? with
    | some (.lst ds) => .ok ds (M.set n .dead)
    | _ => .stuck
  | _, _ => .stuck
def itA (f : EF) : IF := fun ρ M => (f ρ M).bind asItA
theorem upd_selfY {H : Hp} {a : Addr} {o : HO} (h : H a = some o) : L2.upd H a o = H := by
  funext x
  by_cases e : x = a
  · subst e; rw [upd_same, h]
  · rw [upd_ne e]
theorem mi_seqA {X : Cx} {xw : WX} {tg l : Expr} {f : EF} (hl : ME X xw l f) : MI X xw tg l (itA f) :=
  PI.imp (pi_seq3 hl) fun σ H R h => tG_mono (tG_bind (R2 := RW X.K) h) fun v H1 ⟨g, ρ, M, w, R1, S, q, b⟩ => by
    cases w with
    | loc n =>
      cases q with
      | loc hp =>
        simp only [asItA] at b
        cases hM : M[n]? with
        | none => rw [hM] at b; exact b.elim
        | some o =>
          rw [hM] at b
          cases o with
          | lst ds =>
            obtain ⟨a', ha', hF, xs, hxs, dq⟩ := R1.at_ n _ hM rfl
            rw [hp] at ha'
            cases ha'
            obtain ⟨R2, E2⟩ := R1.lock (u := .lst xs) hp hF
            rw [upd_selfY hxs] at R2 E2
            exact .inl ⟨_, rfl, ⟨_, .of hxs⟩, b _ _ H1 R2 E2 (itok_lst upd_same (DqAll.sub (Sub.upd hF) dq))⟩
          | _ => exact b.elim
    | tup n => exact b.elim
    | scr n => exact b.elim
    | exc n => exact b.elim
    | kd n => exact b.elim
    | clo _ n => exact b.elim
    | fn n => exact b.elim
    | d x =>
      cases x with
      | list ds =>
        cases q with
        | d q => cases q with
          | lst h t => exact .inl ⟨_, rfl, ⟨_, .of (R1.sub _ _ h)⟩, b _ g H1 R1 (Ext.refl _ _) (itok_lst h t)⟩
      | tuple ds =>
        cases q with
        | d q => cases q with
          | tup h t => exact .inr (.inl ⟨_, rfl, ⟨_, TqT.up R1.sub h⟩, b _ g H1 R1 (Ext.refl _ _) (itok_tup h t)⟩)
      | str z =>
        cases q with
        | d q => cases q; exact .inr (.inr ⟨_, rfl, b _ g H1 R1 (Ext.refl _ _) itok_str⟩)
      | none => exact b.elim
      | bool _ => exact b.elim
      | int _ => exact b.elim
      | dict _ => exact b.elim
section
variable {X : Cx} {xw : WX} {a b o : Expr} {fa fb fc : EF} {pos p1 apos cpos : Pos} {k : Nat}
/-! ### repr -/
def rRepr (K : PySem.W.Frag) : List V → Hp → VK → Prop := fun vs H Q => ∃ v d, vs = [v] ∧ Dp K H v d ∧ okShow d = true ∧ Q (.str d.shown) H
theorem call_reprD (C : Ctx X k xw) : CallR X (.builtin "repr") (rRepr X.K) := by
  intro pins s σ H xs us Q I r h
  obtain ⟨v, d, rfl, hd, hok, q⟩ := h
  obtain ⟨u, rfl, rx⟩ := vals1 r
  obtain ⟨as, rd⟩ := Dp.reads I d v u hd rx
  have hu := C.room.un
  obtain ⟨h1, h2, h3, h4⟩ := okShow_of hok
  cases hd with
  | non => cases rx; exact PySem.P.repr_of_none ⟨.str _, H, I.tok _, ⟨_, rfl⟩, q⟩
  | bl b => cases rx; exact PySem.P.repr_of_bool ⟨.str _, H, I.tok _, ⟨_, rfl⟩, q⟩
  | int i => obtain ⟨t, rfl⟩ := rx; exact PySem.P.repr_of_int (by simpa [PyData.showable] using h1) ⟨.str _, H, I.tok _, ⟨_, rfl⟩, q⟩
  | str z => obtain ⟨t, rfl⟩ := rx; exact PySem.P.repr_of_str ⟨.str _, H, I.tok _, ⟨_, rfl⟩, q⟩ h4
  | lst hs ha =>
    cases rx
    exact repr_of_reads' rd h1 (PySem.PyData.noDict_hsm h2) C.gd (by omega) (fun _ _ e => e) (fun h' u tk hk => ⟨.str _, H, I.kept (t' := tk) hk, ⟨_, rfl⟩, q⟩) h4
  | tup hs ha =>
    cases rx
    exact repr_of_reads' rd h1 (PySem.PyData.noDict_hsm h2) C.gd (by omega) (fun _ _ e => e) (fun h' u tk hk => ⟨.str _, H, I.kept (t' := tk) hk, ⟨_, rfl⟩, q⟩) h4
theorem repr_ok (K : PySem.W.Frag) : PrOk K (dpr pRepr) (rRepr K) := dprN fun F H vs xs y Q s dv e k => by
  unfold pRepr at e
  split at e
  · split at e
    · cases e
      obtain ⟨v, rfl, d⟩ := dv.one
      exact ⟨v, _, rfl, d.dp s, by assumption, kq s k (.str _)⟩
    · cases e
  · cases e
theorem me_repr1 (C : Ctx X k xw) (ha : MA X xw [a] [fa]) (hm : X.mg "repr" = none) (hg : Gl X "repr" := by rfl) (he : starEach [a] X.env = (false, eval a X.env) :: starEach [] X.env := by rfl) : ME X xw (.Call (.Name "repr" p1) [a] [] pos) (sPr (dpr pRepr) [fa]) := me_callB (call_reprD C) (repr_ok _) hg hm PyProof.Rows.boot_repr ha (he := he)
/-! ### insert -/
def pInsert : Pr
  | [.loc n, .d (.int i), .d x], M => match M[n]? with
    | some (.lst ds) => if ds.length < sizeLine ∧ 0 ≤ i ∧ i < 2 ^ 63 then some (.d .none, M.set n (.lst (ds.take i.toNat ++ [x] ++ ds.drop i.toNat))) else none
    | _ => none
  | _, _ => none
theorem insert_ok (K : PySem.W.Frag) : PrOk K pInsert (rM (fun x vs H Q => ∃ (l : Addr) (xs : List V) (i : Int) (y : V), x = .ref l ∧ vs = [.int i, y] ∧ H l = some (.lst xs) ∧ xs.length < sizeLine ∧ 0 ≤ i ∧ i < 2 ^ 63 ∧
    Q .non (L2.upd H l (.lst (xs.take i.toNat ++ [y] ++ xs.drop i.toNat))))) := by
  intro g M H vs ws w M' Q R rw_ e k
  unfold pInsert at e
  split at e
  · split at e
    · rename_i q
      split at e
      · rename_i hc
        cases e
        cases rw_ with
        | cons h t =>
          cases t with
          | cons h1 t =>
            cases t with
            | cons h2 t =>
              cases t
              cases h with
              | loc h =>
                cases h1 with
                | d h1 =>
                  cases h1
                  cases h2 with
                  | d h2 =>
                    obtain ⟨p, e1, e2, xs, e3, e4⟩ := R.at_ _ _ q rfl
                    rw [h] at e1
                    cases e1
                    obtain ⟨R', E'⟩ := Rel.put R h e2 (((e4.take _).append (.cons h2 .nil)).append (e4.drop _))
                    exact ⟨_, _, rfl, _, xs, _, _, rfl, rfl, e3, by rw [e4.length]; exact hc.1, hc.2.1, hc.2.2, k _ g _ R' E' (.d .non)⟩
      · cases e
    · cases e
  · cases e
theorem me_insert (ho : ME X xw o fa) (ha : MA X xw [a, b] [fb, fc])
    (hbase : attributeBase o "insert" X.env (eval o X.env) = eval o X.env := by rfl)
    (hfew : ((backTo cpos (starEach [a, b] X.env)).all (fun x => !x.1) && (backToKw cpos (keywordEach [] X.env)).all (fun x => x.1.isSome)
      && decide ([a, b].length + ([] : List Keyword).length + (if ([] : List Keyword).isEmpty then 0 else 1) < 30)) = true := by rfl)
    (hline : (apos.endLine == cpos.line) = true := by rfl) (hs : starEach [a, b] X.env = (false, eval a X.env) :: starEach [b] X.env := by rfl) (hplain : (backTo cpos (starEach [b] X.env)).any (·.1) = false := by rfl) : ME X xw (.Call (.Attribute o "insert" apos) [a, b] [] cpos) (sMeth .list pInsert fa [fb, fc]) :=
  me_meth .list F.plainAttrs_list F.slot_list_insert F.type_list_insert mt_insert (insert_ok _) ho ha hbase hfew hline hs hplain
end
end Y
namespace Y
open PySem PySem.Spec PyProof.Rows L2

/-! ### a list that lives is locked from here on: no step of the program -/
def sLk (i : Nat) (f : SF) : SF := fun ρ M => match ρ[i]? with
  | some (some (.loc n)) => match M[n]? with
    | some (.lst ds) => f (ρ.set i (some (.d (.list ds)))) (M.set n .dead)
    | _ => .stuck
  | _ => .stuck
theorem mss_lock {X : Cx} {xw : WX} {ss : List Stmt} {f : SF} (i : Nat) (h : MSs X xw ss f) : MSs X xw ss (sLk i f) :=
  PSs.imp h fun D σ H ⟨g, ρ, M, R, S, b⟩ => by
    unfold sLk at b
    split at b
    · rename_i n hi
      split at b
      · rename_i ds hM
        obtain ⟨v, hv, rw_⟩ := S.at_ i _ hi
        cases rw_ with
        | loc hp =>
          obtain ⟨a', ha', hF, xs, hxs, dq⟩ := R.at_ n _ hM rfl
          rw [hp] at ha'
          cases ha'
          obtain ⟨R2, E2⟩ := R.lock (u := .lst xs) hp hF
          rw [upd_selfY hxs] at R2 E2
          refine ⟨_, _, _, R2, ⟨by rw [List.length_set]; exact S.len, fun j w e => ?_⟩, BhdS.later b E2⟩
          by_cases hj : i = j
          · subst hj
            have hl : i < ρ.length := (List.getElem?_eq_some_iff.mp hi).1
            rw [List.getElem?_set_self hl] at e
            cases e
            exact ⟨_, hv, .d (.lst upd_same (DqAll.sub (Sub.upd hF) dq))⟩
          · rw [List.getElem?_set_ne hj] at e
            exact (S.gr E2.gr).at_ j w e
      · exact b.elim
    · exact b.elim
end Y
namespace Y
open PySem PySem.Spec PyProof.Rows L2
section
variable {X : Cx} {xw : WX} {a b : Expr} {fa fb : EF} {pos : Pos}
/-! ### tuple * int -/
def pMulT : DPr
  | [.tuple a, .int j] => if a.isEmpty = false ∧ 2 ≤ j ∧ j ≤ 1000 ∧ a.length ≤ 1000 then some (.tuple (List.replicate j.toNat a).flatten) else none
  | _ => none
theorem me_mulT (ha : ME X xw a fa) (hb : ME X xw b fb) : ME X xw (.BinOp a .Mult b pos) (sPr (dpr pMulT) [fa, fb]) := by
  refine me_bin op_repT (dpr2 (fun F H v u x y z Q s d1 d2 e k => ?_) fun xs z e => ?_) ha hb
  · unfold pMulT at e
    split at e
    · rename_i a j q
      cases q
      split at e
      · rename_i hc
        cases e
        obtain ⟨p, xs, rfl, h1, h2⟩ := d1.tup
        cases d2.int
        have hne : xs ≠ [] := fun z => by
          have := h2.length
          rw [z] at this
          cases a with
          | nil => exact absurd hc.1 (by decide)
          | cons _ _ => simp at this
        exact ⟨p, j, xs, rfl, rfl, TqT.up s h1, hne, hc.2.1, hc.2.2.1, by rw [h2.length]; exact hc.2.2.2, fun q hq => kt s k (dq_rep h2 _) hq⟩
      · cases e
    · cases e
  · unfold pMulT at e
    split at e <;> first | rfl | cases e
end
end Y
namespace Y
open PySem PySem.Spec PyProof.Rows L2

/-! ### the keys of a dict whose keys are ints and texts -/
def keyX (kv : L2.Key × PyData) : PyData := match kv.1 with
  | .inl i => .int i
  | .inr x => .str x
theorem keyX_ok {K : PySem.W.Frag} {F : Hp} {kv : L2.Key × PyData} : Dq K F (kV kv.1) (keyX kv) := by
  unfold keyX
  cases kv.1 with
  | inl i => exact .int i
  | inr x => exact .str x
/-! ghosts without what was locked -/
theorem Ln.cutK {F : Hp} {d : Addr} {o : Obj} {u : List (L2.Key × V)} (h : F d = some (.frz o (.dK u))) {e : Ex} {x : Option Addr} (k : Ln F e x) : Ln (del F d) e x := by
  unfold Ln at *
  split at k
  · exact k
  · obtain ⟨dx, e1, e2⟩ := k
    exact ⟨dx, e1, by rw [del_ne (fun z => by rw [z, h] at e2; cases e2)]; exact e2⟩
mutual
theorem Dq.cutK {K : PySem.W.Frag} {F : Hp} {d : Addr} {o : Obj} {u : List (L2.Key × V)} (h : F d = some (.frz o (.dK u))) : ∀ {v : V} {x : PyData}, Dq K F v x → Dq K (del F d) v x
  | _, _, .non => .non
  | _, _, .bl b => .bl b
  | _, _, .int b => .int b
  | _, _, .str b => .str b
  | _, _, .lst q t => .lst (by rw [del_ne (fun z => by rw [z, h] at q; cases q)]; exact q) (DqAll.cutK h t)
  | _, _, .tup q t => .tup (show del F d _ = _ by rw [del_ne (fun z => by rw [z] at q; have q' : F d = _ := q; rw [h] at q'; cases q')]; exact q) (DqAll.cutK h t)
theorem DqAll.cutK {K : PySem.W.Frag} {F : Hp} {d : Addr} {o : Obj} {u : List (L2.Key × V)} (h : F d = some (.frz o (.dK u))) : ∀ {v : List V} {x : List PyData}, DqAll K F v x → DqAll K (del F d) v x
  | _, _, .nil => .nil
  | _, _, .cons q t => .cons (Dq.cutK h q) (DqAll.cutK h t)
end
theorem SqL.cutK {K : PySem.W.Frag} {F : Hp} {d a : Addr} {o : Obj} {u : List (L2.Key × V)} {xs : List V} (h : F d = some (.frz o (.dK u))) (k : SqL K F a xs) : SqL K (del F d) a xs := by
  rcases k with (k | ⟨o', k⟩) | k
  · exact .inl (.inl (by rw [del_ne (fun z => by rw [z, h] at k; cases k)]; exact k))
  · exact .inl (.inr ⟨o', by rw [del_ne (fun z => by rw [z, h] at k; cases k)]; exact k⟩)
  · exact .inr k
mutual
theorem RW.cutK {K : PySem.W.Frag} {g : Gh} {d : Addr} {o : Obj} {u : List (L2.Key × V)} (h : g.F d = some (.frz o (.dK u))) : ∀ {v : V} {x : W}, RW K g v x → RW K ⟨g.ph, del g.F d⟩ v x
  | _, _, .d q => .d (Dq.cutK h q)
  | _, _, .scr q => .scr (SqL.cutK h q)
  | _, _, .loc e => .loc e
  | _, _, .exc h1 h2 h3 => .exc h1 (by
      show del g.F d _ = _
      rw [del_ne (fun z => by rw [z, h] at h2; cases h2)]; exact h2) (Ln.cutK h h3)
  | _, _, .kd h1 h2 h3 => .kd (by
      show del g.F d _ = _
      rw [del_ne (fun z => by rw [z, h] at h1; cases h1)]; exact h1) h2 (DqAll.cutK h h3)
  | _, _, .tup q t => .tup (show del g.F d _ = _ by rw [del_ne (fun z => by rw [z] at q; have q' : g.F d = _ := q; rw [h] at q'; cases q')]; exact q) (RWs.cutK h t)
  | _, _, .fn q => .fn q
theorem RWs.cutK {K : PySem.W.Frag} {g : Gh} {d : Addr} {o : Obj} {u : List (L2.Key × V)} (h : g.F d = some (.frz o (.dK u))) : ∀ {v : List V} {x : List W}, RWs K g v x → RWs K ⟨g.ph, del g.F d⟩ v x
  | _, _, .nil => .nil
  | _, _, .cons q t => .cons (RW.cutK h q) (RWs.cutK h t)
end
theorem MOk.cutK {K : PySem.W.Frag} {g : Gh} {d : Addr} {o : Obj} {u : List (L2.Key × V)} (h : g.F d = some (.frz o (.dK u))) {H : Hp} {a : Addr} : ∀ {m : MO}, MOk K g H a m → MOk K ⟨g.ph, del g.F d⟩ H a m
  | .dead, _ => trivial
  | .lst _, ⟨xs, e, r⟩ => ⟨xs, e, DqAll.cutK h r⟩
  | .lsw _, ⟨xs, e, r⟩ => ⟨xs, e, RWs.cutK h r⟩
  | .obj _ _, ⟨vs, n, q, r⟩ => ⟨vs, n, q, RWs.cutK h r⟩
  | .dct _, ⟨vs, e, q, r⟩ => ⟨vs, e, q, DqAll.cutK h r⟩
  | .dctT _, ⟨vs, e, q, r⟩ => ⟨vs, e, q, DqAll.cutK h r⟩
theorem Rel.unlockK {K : PySem.W.Frag} {g : Gh} {M : List MO} {H : Hp} {d : Addr} {o : Obj} {us : List (L2.Key × V)} {u : HO} (R : Rel K g M H) (h : g.F d = some (.frz o (.dK us))) : Rel K ⟨g.ph, del g.F d⟩ M (L2.upd H d u) := by
  refine ⟨fun a x e => ?_, R.len, fun m x e l => ?_, R.inj, fun a hm => ?_⟩
  · have e' : del g.F d a = some x := e
    by_cases q : a = d
    · rw [q, del_same] at e'; cases e'
    · rw [del_ne q] at e'; rw [upd_ne q]; exact R.sub _ _ e'
  · obtain ⟨a, e1, e2, e3⟩ := R.at_ m x e l
    have na : a ≠ d := fun z => by rw [z, h] at e2; cases e2
    refine ⟨a, e1, ?_, ?_⟩
    · show del g.F d a = none
      rw [del_ne na]; exact e2
    · refine MOk.gr (g := ⟨g.ph, del g.F d⟩) (Gr.refl _) (fun o' q => ?_) (MOk.cutK h e3)
      rw [upd_ne na]; exact q
  · by_cases q : a = d
    · subst q; exact ⟨_, upd_same⟩
    · rw [upd_ne q]; exact R.tr a hm
def sLcK (i : Nat) (gt : GF) (tt : TF) (te : EF) (vs : List Nat) : EF := fun ρ M => match ρ[i]? with
  | some (some (.loc n)) => match M[n]? with
    | some (.dct kvs) => if (kvs.map keyX).length ≤ sizeLine then match compL gt tt te (wip ρ vs) (kvs.map keyX) (M.set n .dead) with
      | some (xs, M2) => .ok (.d (.list xs)) M2
      | none => .stuck
      else .stuck
    | _ => .stuck
  | _ => .stuck
theorem key0K {X : Cx} {xw : WX} {gt : GF} {tt : TF} {te : EF} {vs : List Nat} {σ : L2.St} {Q : VK} {g : Gh} {ρ : Rho} {M : List MO} {H : Hp} {n : Nat} {d : Addr} {od : Obj} {us : List (L2.Key × V)} {kvs : List (L2.Key × PyData)}
    (hl : (kvs.map keyX).length ≤ sizeLine) (hp : g.ph[n]? = some d) (e2 : g.F d = none) (E1 : Ext g H ⟨g.ph, L2.upd g.F d (.frz od (.dK us))⟩ (L2.upd H d (.frz od (.dK us))))
    (b : Bhd (tx X) (fun c d H => xw c d σ H) (RW X.K) Q (match compL gt tt te (wip ρ vs) (kvs.map keyX) (M.set n .dead) with
      | some (xs, M2) => .ok (.d (.list xs)) M2
      | none => .stuck) g H) : Bhd (tx X) (fun _ _ _ => False) (RW X.K) (fun v H' => H' d = some (.frz od (.dK us)) ∧ Q v (L2.upd H' d (.dK us))) (if (kvs.map keyX).length ≤ sizeLine then match compL gt tt te (wip ρ vs) (kvs.map keyX) (M.set n .dead) with
      | some (xs, M2) => .ok (.d (.list xs)) M2
      | none => .stuck
    else .stuck) ⟨g.ph, L2.upd g.F d (.frz od (.dK us))⟩ (L2.upd H d (.frz od (.dK us))) := by
  rw [if_pos hl]
  cases ec : compL gt tt te (wip ρ vs) (kvs.map keyX) (M.set n .dead) with
  | none => rw [ec] at b; exact b.elim
  | some y =>
    obtain ⟨xs, M2⟩ := y
    rw [ec] at b
    intro v2 g2 H2 R2 E2 r2
    have hF2 : g2.F d = some (.frz od (.dK us)) := E2.gr.F _ _ upd_same
    refine ⟨R2.sub _ _ hF2, b v2 ⟨g2.ph, del g2.F d⟩ _ (R2.unlockK hF2) ?_ (RW.cutK hF2 r2)⟩
    have hm := List.mem_of_getElem? hp
    have E3 := E1.trans E2
    refine ⟨⟨E3.gr.ph, fun a o e => ?_⟩, fun a o e hn => ?_, fun a h h' => ?_, E3.newph⟩
    · show del g2.F d a = some o
      rw [del_ne (fun z => by rw [z, e2] at e; cases e)]
      exact E3.gr.F _ _ e
    · have na : a ≠ d := fun z => hn (by rw [z]; exact hm)
      rw [upd_ne na]
      exact E3.keep a o e hn
    · have h2 : del g2.F d a ≠ none := h'
      by_cases na : a = d
      · exact absurd (by rw [na, del_same]) h2
      · rw [del_ne na] at h2
        exact E3.new a h h2
theorem me_lcK {X : Cx} {k : Nat} {xw : WX} {elt tg : Expr} {ifs : List Expr} {scope : Scope} {own : List (Str × Nat)} {pos npos : Pos} {x : Str} {gt : GF} {tt : TF} {te : EF} {us : List Nat} (C : Ctx X k xw) (i : Nat) (ok : BlkOk X.N X.env.scope scope own)
    (hg : ∀ (s : Shared) (H : Hp) (A : Addr) (cl : List (Str × Addr)) (fp : List Addr), Ctx (X.blk s H scope (compEnvC scope cl A X.env) fp) k xw0 → MG (X.blk s H scope (compEnvC scope cl A X.env) fp) tg us gt) (ht : ∀ (s : Shared) (H : Hp) (A : Addr) (cl : List (Str × Addr)) (fp : List Addr), Ctx (X.blk s H scope (compEnvC scope cl A X.env) fp) k xw0 → MTs (X.blk s H scope (compEnvC scope cl A X.env) fp) ifs tt)
    (he : ∀ (s : Shared) (H : Hp) (A : Addr) (cl : List (Str × Addr)) (fp : List Addr), Ctx (X.blk s H scope (compEnvC scope cl A X.env) fp) k xw0 → ME (X.blk s H scope (compEnvC scope cl A X.env) fp) xw0 elt te) (hus : ∀ v ∈ us, v ∈ own.map (·.2) := by decide)
    (hN : X.N[i]? = some x := by rfl) (hv : Vis X.env.scope x := by first | exact Or.inl rfl | exact Or.inr (Or.inl rfl) | exact Or.inr (Or.inr rfl)) (hd : (x == ("__debug__" : Str)) = false := by decide) (hcd : (x == ("__classdict__" : Str)) = false := by decide)
    (hs : ∀ z, foldedSetIterable (.Name x npos) X.env z = pure z := by intro _; rfl) :
    ME X xw (.ListComp elt [⟨tg, (.Name x npos), ifs, 0⟩] scope pos) (sLcK i gt tt te (own.map (·.2))) := by
  refine PE.imp (pe_lock (pe_lc (g := tGt (tx X) us gt) (tt := tT (tx X) xw0 tt) (te := tE (tx X) xw0 te) C.calm C.nd (pi_keys (pe_var hN hv hd hcd)) ok (fun s H A cl fp => hg s H A cl fp (C.blk _ _ _ _ _)) (fun s H A cl fp => ht s H A cl fp (C.blk _ _ _ _ _)) (fun s H A cl fp => he s H A cl fp (C.blk _ _ _ _ _)) hs)) fun σ H Q ⟨g, ρ, M, R, S, b⟩ => ?_
  unfold sLcK at b
  split at b
  · rename_i n en
    split at b
    · rename_i kvs em
      split at b
      · rename_i hl
        obtain ⟨v, hv, rv⟩ := S.at_ i _ en
        cases rv with
        | loc hp =>
          rename_i d
          obtain ⟨d', e1, e2, us', e3, e4, e5⟩ := R.at_ n _ em rfl
          rw [hp] at e1
          cases e1
          refine ⟨d, .dK us', e3, trivial, fun od => ⟨.ref d, hv, d, od, rfl, .inl ⟨us', upd_same, ?_⟩⟩⟩
          obtain ⟨R1, E1⟩ := R.lock (u := .frz od (.dK us')) hp e2
          have hJ : ItOk X.K (L2.upd g.F d (.frz od (.dK us'))) (Itk d od us') (kvs.map keyX) := by
            have hlen : us'.length = kvs.length := by have := congrArg List.length e4; simpa using this
            refine ⟨fun i H hi s => ⟨s _ _ upd_same, by rw [List.length_map] at hi; omega⟩, fun H s => ⟨s _ _ upd_same, by rw [List.length_map]; omega⟩, fun i x F H v H' e s1 s2 hy => ?_⟩
            obtain ⟨rfl, k, u, hk, rfl⟩ := hy
            have h1 := congrArg (fun l => l[i]?) e4
            simp only [List.getElem?_map, hk, Option.map_some] at h1
            rw [List.getElem?_map] at e
            cases q : kvs[i]? with
            | none => rw [q] at e; cases e
            | some kv =>
              rw [q] at e h1
              cases e
              cases h1
              exact ⟨F, Lay.refl s2, keyX_ok⟩
          have key : tLc (fun _ H R => R (Itk d od us') H) (tGt (tx X) us gt) (tT (tx X) xw0 tt) (tE (tx X) xw0 te) (own.map (·.2)) σ (L2.upd H d (.frz od (.dK us'))) (fun v H' => H' d = some (.frz od (.dK us')) ∧ Q v (L2.upd H' d (.dK us'))) := by
            refine lc_core (T := tx X) (xq := fun _ _ _ => False) (gt := gt) (tt := tt) (te := te) (ρ := ρ) hus R1 (S.gr E1.gr) hJ ?_
            exact key0K hl hp e2 E1 b
          exact key
      · exact b.elim
    · exact b.elim
  · exact b.elim
end Y
namespace Y
open PySem PySem.Spec PyProof.Rows L2

/-! ### two fors in a comprehension -/
def compL2 (gt : GF) (tt : TF) (fi1 : IF) (gt1 : GF) (tt1 : TF) (te : EF) (vs1 : List Nat) (ρ : Rho) : List PyData → List MO → Option (List PyData × List MO)
  | [], M => some ([], M)
  | d :: ds, M => match gt (.d d) ρ M with
    | some (ρ1, M1) => match tt ρ1 M1 with
      | .ok true M2 => match fi1 ρ1 M2 with
        | .ok ds1 M3 => match compL gt1 tt1 te (wip ρ1 vs1) ds1 M3 with
          | some (xs, M4) => match compL2 gt tt fi1 gt1 tt1 te vs1 ρ ds M4 with
            | some (ys, M5) => some (xs ++ ys, M5)
            | none => none
          | none => none
        | _ => none
      | .ok false M2 => compL2 gt tt fi1 gt1 tt1 te vs1 ρ ds M2
      | _ => none
    | none => none
/-- a comprehension with two fors -/
def sLc2 (it : IF) (gt : GF) (tt : TF) (it1 : IF) (gt1 : GF) (tt1 : TF) (te : EF) (vs vs1 : List Nat) : EF := fun ρ M => (it ρ M).bind fun ds M1 => match compL2 gt tt it1 gt1 tt1 te vs1 (wip ρ vs) ds M1 with
  | some (xs, M2) => if xs.length ≤ sizeLine then .ok (.d (.list xs)) M2 else .stuck
  | none => .stuck
theorem lc_in {T : Tx} {gt : GF} {tt : TF} {te : EF} {vs us : List Nat} (hus : ∀ v ∈ us, v ∈ vs) {σ : L2.St} {g0 : Gh} {H0 : Hp} {D : Addr} (hD0 : H0 D = none) {J : It} {g1 : Gh} {ρ : Rho} {M1 : List MO} {ds : List PyData} {acc0 : List V} {xs0 ys0 : List PyData} {H1 : Hp} {Mend : List MO} {Nx : Hp → Prop}
    (R1 : Rel T.K g1 M1 H1) (E1 : Ext g0 H0 g1 H1) (S1 : RS T.K g1 σ ρ) (hJ : ItOk T.K g1.F J ds) (hD1 : H1 D = some (.lst acc0)) (hF : g1.F D = none) (hph : D ∉ g1.ph) (da0 : DqAll T.K g1.F acc0 xs0) (ec : compL gt tt te (wip ρ vs) ds M1 = some (ys0, Mend)) (hl : (xs0 ++ ys0).length ≤ sizeLine)
    (kk : ∀ (g : Gh) (H : Hp) (acc : List V), Rel T.K g Mend H → Ext g0 H0 g H → Gr g1 g → H D = some (.lst acc) → g.F D = none → D ∉ g.ph → DqAll T.K g.F acc (xs0 ++ ys0) → Nx H) :
    ∃ W1 : Nat → Nat → Hp → Prop, (∃ m, W1 0 m H1) ∧ ∀ j k H, W1 j k H →
      (J.stop j H ∧ Nx H) ∨ (J.go j H ∧ ∃ Nx1 : Hp → Prop, (∀ H', Nx1 H' → ∃ k', k' < k ∧ W1 (j + 1) k' H') ∧ ∀ x H', J.yld j H x H' → tGt T us gt x (wipe σ vs) H' fun σ3 H5 => wipe σ3 vs = wipe σ vs ∧ tT T xw0 tt σ3 H5 fun b H6 =>
        if b = true then tE T xw0 te σ3 H6 fun y H7 => ∃ acc, H7 D = some (.lst acc) ∧ acc.length < sizeLine ∧ Nx1 (upd H7 D (.lst (acc ++ [y]))) else Nx1 H6) := by
  generalize eall0 : xs0 ++ ys0 = all at *
  refine ⟨fun i m H => m = ds.length - i ∧ i ≤ ds.length ∧ ∃ (g : Gh) (M : List MO) (acc : List V) (xs ys : List PyData), Rel T.K g M H ∧ Ext g0 H0 g H ∧ Gr g1 g ∧ H D = some (.lst acc) ∧ g.F D = none ∧ D ∉ g.ph ∧ DqAll T.K g.F acc xs ∧
          compL gt tt te (wip ρ vs) (ds.drop i) M = some (ys, Mend) ∧ all = xs ++ ys,
        ⟨ds.length, rfl, Nat.zero_le _, g1, M1, acc0, xs0, ys0, R1, E1, Gr.refl _, hD1, hF, hph, da0, ec, eall0.symm⟩, ?_⟩
  rintro i m H ⟨rfl, hi, g, M, acc, xs, ys, R, E, G, hDa, hFD, hphD, da, ec', eall⟩
  have sF : Sub g1.F g.F := G.F
  by_cases hlt : i < ds.length
  · have hd : ds[i]? = some ds[i] := List.getElem?_eq_getElem hlt
    rw [List.drop_eq_getElem_cons hlt] at ec'
    unfold compL at ec'
    cases eg : gt (.d ds[i]) (wip ρ vs) M with
    | none => rw [eg] at ec'; cases ec'
    | some y =>
      obtain ⟨ρ1, Mg⟩ := y
      rw [eg] at ec'
      simp only at ec'
      cases et : tt ρ1 Mg with
      | stuck => rw [et] at ec'; cases ec'
      | err _ _ => rw [et] at ec'; cases ec'
      | ok bb M2 =>
        rw [et] at ec'
        refine .inr ⟨hJ.go i H hlt (sF.trans R.sub), fun H' => ∃ (g : Gh) (M : List MO) (acc : List V) (xs ys : List PyData), Rel T.K g M H' ∧ Ext g0 H0 g H' ∧ Gr g1 g ∧ H' D = some (.lst acc) ∧ g.F D = none ∧ D ∉ g.ph ∧ DqAll T.K g.F acc xs ∧
          compL gt tt te (wip ρ vs) (ds.drop (i + 1)) M = some (ys, Mend) ∧ all = xs ++ ys, fun H' n => ⟨ds.length - (i + 1), by omega, rfl, hlt, n⟩, fun x H' hy => ?_⟩
        obtain ⟨F', L, dq⟩ := hJ.yld i _ g.F H x H' hd sF R.sub hy
        refine ⟨⟨g.ph, F'⟩, wip ρ vs, M, .d ds[i], L.rel R, rs_wip (S1.gr (G.trans L.ext.gr)) vs, .d dq, ρ1, Mg, eg, fun σ2 g2 H2 R2 E2 S2 O2 => ⟨wipe_off O2 hus, g2, ρ1, Mg, R2, S2, ?_⟩⟩
        rw [et]
        intro b' g3 H3 R3 E3 hb
        have hb' : b' = bb := hb
        subst hb'
        have E03 : Ext g H g3 H3 := (L.ext.trans E2).trans E3
        obtain ⟨o1, o2, o3⟩ := E03.outD hDa hFD hphD
        cases b' with
        | false => exact iteF ⟨g3, M2, acc, xs, ys, R3, E.trans E03, G.trans E03.gr, o1, o2, o3, DqAll.sub E03.gr.F da, ec', eall⟩
        | true =>
          simp only at ec'
          refine iteT ⟨g3, ρ1, M2, R3, S2.gr E3.gr, ?_⟩
          cases ee : te ρ1 M2 with
          | stuck => rw [ee] at ec'; cases ec'
          | err _ _ => rw [ee] at ec'; cases ec'
          | ok w M3 =>
            cases w with
            | loc n => rw [ee] at ec'; cases ec'
            | tup n => rw [ee] at ec'; cases ec'
            | scr n => rw [ee] at ec'; cases ec'
            | exc n => rw [ee] at ec'; cases ec'
            | kd n => rw [ee] at ec'; cases ec'
            | clo _ n => rw [ee] at ec'; cases ec'
            | fn n => rw [ee] at ec'; cases ec'
            | d z =>
              rw [ee] at ec'
              simp only at ec'
              cases er : compL gt tt te (wip ρ vs) (ds.drop (i + 1)) M3 with
              | none => rw [er] at ec'; cases ec'
              | some y =>
                obtain ⟨zs, M4⟩ := y
                rw [er] at ec'
                cases ec'
                intro v g4 H4 R4 E4 rv
                have E04 := E03.trans E4
                obtain ⟨p1, p2, p3⟩ := E04.outD hDa hFD hphD
                cases rv with
                | d dz =>
                  refine ⟨acc, p1, ?_, g4, M3, acc ++ [v], xs ++ [z], zs, R4.updD p2 p3, (E.trans E04).updD hD0, G.trans E04.gr, upd_same, p2, p3, DqAll.append (DqAll.sub E04.gr.F da) (.cons dz .nil), er, ?_⟩
                  · have q1 := da.length
                    rw [eall, List.length_append, List.length_cons] at hl
                    omega
                  · rw [eall, List.append_assoc]; rfl
  · have hz' : ds.drop i = [] := List.drop_of_length_le (by omega)
    rw [hz'] at ec'
    unfold compL at ec'
    cases ec'
    rw [List.append_nil] at eall
    exact .inl ⟨by rw [show i = ds.length by omega]; exact hJ.stop H (sF.trans R.sub), kk g H acc R E G hDa hFD hphD (eall ▸ da)⟩
theorem lc2_core' {T : Tx} {xq : Value → Option Addr → Hp → Prop} {gt gt1 : GF} {tt tt1 : TF} {fi1 : IF} {te : EF} {vs us vs1 us1 : List Nat} (hus : ∀ v ∈ us, v ∈ vs) (hus1 : ∀ v ∈ us1, v ∈ vs1) {σ : L2.St} {H1 : Hp} {Q : VK} {J : It} {g1 : Gh} {ρ : Rho} {M1 : List MO} {ds : List PyData} (R1 : Rel T.K g1 M1 H1) (S1 : RS T.K g1 σ ρ) (hJ : ItOk T.K g1.F J ds)
    (b : Bhd T xq (RW T.K) Q (match compL2 gt tt fi1 gt1 tt1 te vs1 (wip ρ vs) ds M1 with
      | some (xs, M2) => if xs.length ≤ sizeLine then .ok (.d (.list xs)) M2 else .stuck
      | none => .stuck) g1 H1) :
    tLc2 (fun _ H R => R J H) (tGt T us gt) (tT T xw0 tt) (tI T xw0 fi1) (tGt T us1 gt1) (tT T xw0 tt1) (tE T xw0 te) vs vs1 σ H1 Q := by
  refine fun D hD => ?_
  cases ec : compL2 gt tt fi1 gt1 tt1 te vs1 (wip ρ vs) ds M1 with
  | none => rw [ec] at b; exact b.elim
  | some y =>
    obtain ⟨all, Mend⟩ := y
    rw [ec] at b
    simp only at b
    by_cases hz : all.length ≤ sizeLine
    case neg => rw [if_neg hz] at b; exact b.elim
    rw [if_pos hz] at b
    have hF : g1.F D = none := R1.sub.none hD
    have hph : D ∉ g1.ph := fun z => by obtain ⟨u, q⟩ := R1.tr D z; rw [hD] at q; cases q
    refine ⟨fun i m H => m = ds.length - i ∧ i ≤ ds.length ∧ ∃ (g : Gh) (M : List MO) (acc : List V) (xs ys : List PyData), Rel T.K g M H ∧ Ext g1 H1 g H ∧ H D = some (.lst acc) ∧ g.F D = none ∧ D ∉ g.ph ∧ DqAll T.K g.F acc xs ∧
        compL2 gt tt fi1 gt1 tt1 te vs1 (wip ρ vs) (ds.drop i) M = some (ys, Mend) ∧ all = xs ++ ys,
      ⟨ds.length, rfl, Nat.zero_le _, g1, M1, [], [], all, R1.updD hF hph, (Ext.refl _ _).updD hD, upd_same, hF, hph, .nil, ec, rfl⟩, ?_⟩
    rintro i m H ⟨rfl, hi, g, M, acc, xs, ys, R, E, hDa, hFD, hphD, da, ec', eall⟩
    have sF : Sub g1.F g.F := E.gr.F
    by_cases hlt : i < ds.length
    · have hd : ds[i]? = some ds[i] := List.getElem?_eq_getElem hlt
      rw [List.drop_eq_getElem_cons hlt] at ec'
      unfold compL2 at ec'
      cases eg : gt (.d ds[i]) (wip ρ vs) M with
      | none => rw [eg] at ec'; cases ec'
      | some y =>
        obtain ⟨ρ1, Mg⟩ := y
        rw [eg] at ec'
        simp only at ec'
        cases et : tt ρ1 Mg with
        | stuck => rw [et] at ec'; cases ec'
        | err _ _ => rw [et] at ec'; cases ec'
        | ok bb M2 =>
          rw [et] at ec'
          refine .inr ⟨hJ.go i H hlt (sF.trans R.sub), fun H' => ∃ (g : Gh) (M : List MO) (acc : List V) (xs ys : List PyData), Rel T.K g M H' ∧ Ext g1 H1 g H' ∧ H' D = some (.lst acc) ∧ g.F D = none ∧ D ∉ g.ph ∧ DqAll T.K g.F acc xs ∧
            compL2 gt tt fi1 gt1 tt1 te vs1 (wip ρ vs) (ds.drop (i + 1)) M = some (ys, Mend) ∧ all = xs ++ ys, fun H' n => ⟨ds.length - (i + 1), by omega, rfl, hlt, n⟩, fun x H' hy => ?_⟩
          obtain ⟨F', L, dq⟩ := hJ.yld i _ g.F H x H' hd sF R.sub hy
          refine ⟨⟨g.ph, F'⟩, wip ρ vs, M, .d ds[i], L.rel R, rs_wip (S1.gr (E.gr.trans L.ext.gr)) vs, .d dq, ρ1, Mg, eg, fun σ2 g2 H2 R2 E2 S2 O2 => ⟨wipe_off O2 hus, g2, ρ1, Mg, R2, S2, ?_⟩⟩
          rw [et]
          intro b' g3 H3 R3 E3 hb
          have hb' : b' = bb := hb
          subst hb'
          have E03 : Ext g H g3 H3 := (L.ext.trans E2).trans E3
          obtain ⟨o1, o2, o3⟩ := E03.outD hDa hFD hphD
          cases b' with
          | false => exact iteF ⟨g3, M2, acc, xs, ys, R3, E.trans E03, o1, o2, o3, DqAll.sub E03.gr.F da, ec', eall⟩
          | true =>
            simp only at ec'
            refine iteT ⟨g3, ρ1, M2, R3, S2.gr E3.gr, ?_⟩
            cases ef : fi1 ρ1 M2 with
            | stuck => rw [ef] at ec'; cases ec'
            | err _ _ => rw [ef] at ec'; cases ec'
            | ok ds1 M3 =>
              rw [ef] at ec'
              simp only at ec'
              cases e1 : compL gt1 tt1 te (wip ρ1 vs1) ds1 M3 with
              | none => rw [e1] at ec'; cases ec'
              | some y =>
                obtain ⟨xs1, M4⟩ := y
                rw [e1] at ec'
                simp only at ec'
                cases er : compL2 gt tt fi1 gt1 tt1 te vs1 (wip ρ vs) (ds.drop (i + 1)) M4 with
                | none => rw [er] at ec'; cases ec'
                | some y =>
                  obtain ⟨zs, M5⟩ := y
                  rw [er] at ec'
                  cases ec'
                  intro J1 g4 H4 R4 E4 hJ1
                  have E04 := E03.trans E4
                  obtain ⟨p1, p2, p3⟩ := E04.outD hDa hFD hphD
                  refine lc_in hus1 hD R4 (E.trans E04) (S2.gr (E3.gr.trans E4.gr)) hJ1 p1 p2 p3 (DqAll.sub E04.gr.F da) e1 (by
                    rw [eall, List.length_append, List.length_append] at hz
                    rw [List.length_append]
                    omega) fun g' H' acc' R' E' G' q1 q2 q3 d' => ⟨g', M4, acc', xs ++ xs1, zs, R', E', q1, q2, q3, d', er, by rw [eall, List.append_assoc]⟩
    · have hz' : ds.drop i = [] := List.drop_of_length_le (by omega)
      rw [hz'] at ec'
      unfold compL2 at ec'
      cases ec'
      refine .inl ⟨by rw [show i = ds.length by omega]; exact hJ.stop H (sF.trans R.sub), ?_⟩
      refine b (.ref D) ⟨g.ph, upd g.F D (.lst acc)⟩ H ⟨fun a u q => ?_, R.len, fun n u e l => ?_, R.inj, R.tr⟩ ⟨⟨E.gr.ph, E.gr.F.trans (Sub.upd hFD)⟩, E.keep, fun a h1 h2 => ?_, E.newph⟩ (.d ?_)
      · have q' : upd g.F D (.lst acc) a = some u := q
        by_cases h : a = D
        · subst h
          rw [upd_same] at q'
          rw [hDa]; exact q'
        · rw [upd_ne h] at q'; exact R.sub _ _ q'
      · obtain ⟨a, e1, e2, e3⟩ := R.at_ n u e l
        refine ⟨a, e1, ?_, MOk.gr (g := g) (g' := ⟨g.ph, upd g.F D (.lst acc)⟩) ⟨fun _ _ z => z, Sub.upd hFD⟩ (fun _ q => q) e3⟩
        show upd g.F D (.lst acc) a = none
        rw [upd_ne (fun z => hphD (by rw [← z]; exact List.mem_of_getElem? e1))]
        exact e2
      · by_cases h : a = D
        · subst h; exact .inl hD
        · refine E.new a h1 ?_
          have h2' : upd g.F D (.lst acc) a ≠ none := h2
          rw [upd_ne h] at h2'
          exact h2'
      · rw [eall, List.append_nil]
        exact .lst upd_same (DqAll.sub (Sub.upd hFD) da)
theorem lc2_imp {T : Tx} {xw : WX} {fi fi1 : IF} {gt gt1 : GF} {tt tt1 : TF} {te : EF} {vs us vs1 us1 : List Nat} (hus : ∀ v ∈ us, v ∈ vs) (hus1 : ∀ v ∈ us1, v ∈ vs1) {σ : L2.St} {H : Hp} {Q : VK} (h : tE T xw (sLc2 fi gt tt fi1 gt1 tt1 te vs vs1) σ H Q) :
    tLc2 (tI T xw fi) (tGt T us gt) (tT T xw0 tt) (tI T xw0 fi1) (tGt T us1 gt1) (tT T xw0 tt1) (tE T xw0 te) vs vs1 σ H Q :=
  tG_mono (tG_bind (R2 := fun g (J : It) ds => ItOk T.K g.F J ds) h) fun J H1 ⟨g1, ρ, M1, ds, R1, S1, hJ, b⟩ => lc2_core' (xq := fun c d H => xw c d σ H) hus hus1 R1 S1 hJ b
theorem me_lc2 {X : Cx} {k : Nat} {xw : WX} {elt tg iter tg1 iter1 : Expr} {ifs ifs1 : List Expr} {scope : Scope} {own : List (Str × Nat)} {pos : Pos} {fi fi1 : IF} {gt gt1 : GF} {tt tt1 : TF} {te : EF} {us us1 : List Nat} (vs1 : List Nat) (C : Ctx X k xw) (hi : MI X xw tg iter fi) (ok : BlkOk X.N X.env.scope scope own)
    (hg : ∀ (s : Shared) (H : Hp) (A : Addr) (cl : List (Str × Addr)) (fp : List Addr), Ctx (X.blk s H scope (compEnvC scope cl A X.env) fp) k xw0 → MG (X.blk s H scope (compEnvC scope cl A X.env) fp) tg us gt) (ht : ∀ (s : Shared) (H : Hp) (A : Addr) (cl : List (Str × Addr)) (fp : List Addr), Ctx (X.blk s H scope (compEnvC scope cl A X.env) fp) k xw0 → MTs (X.blk s H scope (compEnvC scope cl A X.env) fp) ifs tt)
    (hi1 : ∀ (s : Shared) (H : Hp) (A : Addr) (cl : List (Str × Addr)) (fp : List Addr), Ctx (X.blk s H scope (compEnvC scope cl A X.env) fp) k xw0 → MI (X.blk s H scope (compEnvC scope cl A X.env) fp) xw0 tg1 iter1 fi1)
    (hg1 : ∀ (s : Shared) (H : Hp) (A : Addr) (cl : List (Str × Addr)) (fp : List Addr), Ctx (X.blk s H scope (compEnvC scope cl A X.env) fp) k xw0 → MG (X.blk s H scope (compEnvC scope cl A X.env) fp) tg1 us1 gt1) (ht1 : ∀ (s : Shared) (H : Hp) (A : Addr) (cl : List (Str × Addr)) (fp : List Addr), Ctx (X.blk s H scope (compEnvC scope cl A X.env) fp) k xw0 → MTs (X.blk s H scope (compEnvC scope cl A X.env) fp) ifs1 tt1)
    (he : ∀ (s : Shared) (H : Hp) (A : Addr) (cl : List (Str × Addr)) (fp : List Addr), Ctx (X.blk s H scope (compEnvC scope cl A X.env) fp) k xw0 → ME (X.blk s H scope (compEnvC scope cl A X.env) fp) xw0 elt te) (hus : ∀ v ∈ us, v ∈ own.map (·.2) := by decide) (hus1 : ∀ v ∈ us1, v ∈ vs1 := by decide) (hv : ∀ i ∈ vs1, i ∈ own.map (·.2) := by decide)
    (hs : ∀ x, foldedSetIterable iter X.env x = pure x := by intro _; rfl) (hs1 : ∀ env x, foldedSetIterable iter1 env x = pure x := by intro _ _; rfl) :
    ME X xw (.ListComp elt [⟨tg, iter, ifs, 0⟩, ⟨tg1, iter1, ifs1, 0⟩] scope pos) (sLc2 fi gt tt fi1 gt1 tt1 te (own.map (·.2)) vs1) :=
  PE.imp (pe_lc2 C.calm C.nd hi ok hv (fun s H A cl fp => hg s H A cl fp (C.blk _ _ _ _ _)) (fun s H A cl fp => ht s H A cl fp (C.blk _ _ _ _ _)) (fun s H A cl fp => hi1 s H A cl fp (C.blk _ _ _ _ _)) (fun s H A cl fp => hg1 s H A cl fp (C.blk _ _ _ _ _)) (fun s H A cl fp => ht1 s H A cl fp (C.blk _ _ _ _ _)) (fun s H A cl fp => he s H A cl fp (C.blk _ _ _ _ _)) hs hs1) fun σ H Q h => lc2_imp (T := tx X) hus hus1 h
theorem ms_setLc2 {X : Cx} {k : Nat} {xw : WX} {i : Nat} {y : Str} {py : Pos} {elt tg iter tg1 iter1 : Expr} {ifs ifs1 : List Expr} {scope : Scope} {own : List (Str × Nat)} {pos spos : Pos} {fi fi1 : IF} {gt gt1 : GF} {tt tt1 : TF} {te : EF} {us us1 : List Nat} (vs1 : List Nat) (C : Ctx X k xw) (hi : MI X xw tg iter fi) (ok : BlkOk X.N X.env.scope scope own)
    (hg : ∀ (s : Shared) (H : Hp) (A : Addr) (cl : List (Str × Addr)) (fp : List Addr), Ctx (X.blk s H scope (compEnvC scope cl A X.env) fp) k xw0 → MG (X.blk s H scope (compEnvC scope cl A X.env) fp) tg us gt) (ht : ∀ (s : Shared) (H : Hp) (A : Addr) (cl : List (Str × Addr)) (fp : List Addr), Ctx (X.blk s H scope (compEnvC scope cl A X.env) fp) k xw0 → MTs (X.blk s H scope (compEnvC scope cl A X.env) fp) ifs tt)
    (hi1 : ∀ (s : Shared) (H : Hp) (A : Addr) (cl : List (Str × Addr)) (fp : List Addr), Ctx (X.blk s H scope (compEnvC scope cl A X.env) fp) k xw0 → MI (X.blk s H scope (compEnvC scope cl A X.env) fp) xw0 tg1 iter1 fi1)
    (hg1 : ∀ (s : Shared) (H : Hp) (A : Addr) (cl : List (Str × Addr)) (fp : List Addr), Ctx (X.blk s H scope (compEnvC scope cl A X.env) fp) k xw0 → MG (X.blk s H scope (compEnvC scope cl A X.env) fp) tg1 us1 gt1) (ht1 : ∀ (s : Shared) (H : Hp) (A : Addr) (cl : List (Str × Addr)) (fp : List Addr), Ctx (X.blk s H scope (compEnvC scope cl A X.env) fp) k xw0 → MTs (X.blk s H scope (compEnvC scope cl A X.env) fp) ifs1 tt1)
    (he : ∀ (s : Shared) (H : Hp) (A : Addr) (cl : List (Str × Addr)) (fp : List Addr), Ctx (X.blk s H scope (compEnvC scope cl A X.env) fp) k xw0 → ME (X.blk s H scope (compEnvC scope cl A X.env) fp) xw0 elt te) (hy : X.N[i]? = some y := by rfl) (hyl : X.env.scope.names.lookup y = some .local := by rfl)
    (hsw : swapsWith (.ListComp elt [⟨tg, iter, ifs, 0⟩, ⟨tg1, iter1, ifs1, 0⟩] scope pos) (some (.Name y py)) spos.line X.env = pure true := by exact (sw_true rfl rfl rfl (by decide +kernel))) (hus : ∀ v ∈ us, v ∈ own.map (·.2) := by decide) (hus1 : ∀ v ∈ us1, v ∈ vs1 := by decide) (hv : ∀ i ∈ vs1, i ∈ own.map (·.2) := by decide)
    (hs : ∀ x, foldedSetIterable iter X.env x = pure x := by intro _; rfl) (hs1 : ∀ env x, foldedSetIterable iter1 env x = pure x := by intro _ _; rfl) :
    MS X xw (.Assign [.Name y py] (.ListComp elt [⟨tg, iter, ifs, 0⟩, ⟨tg1, iter1, ifs1, 0⟩] scope pos) spos) (sSet i (sLc2 fi gt tt fi1 gt1 tt1 te (own.map (·.2)) vs1)) :=
  PS.imp (ps_setLc2 C.calm C.nd hy hyl hsw hi ok hv (fun s H A cl fp => hg s H A cl fp (C.blk _ _ _ _ _)) (fun s H A cl fp => ht s H A cl fp (C.blk _ _ _ _ _)) (fun s H A cl fp => hi1 s H A cl fp (C.blk _ _ _ _ _)) (fun s H A cl fp => hg1 s H A cl fp (C.blk _ _ _ _ _)) (fun s H A cl fp => ht1 s H A cl fp (C.blk _ _ _ _ _)) (fun s H A cl fp => he s H A cl fp (C.blk _ _ _ _ _)) hs hs1) fun D σ H q => lc2_imp (T := tx X) hus hus1 (tG_mono (tS_then q) fun v H1 ⟨g, ρ, M, w, R, S, r, b⟩ => b _ g H1 R (Ext.refl _ _) (S.set i r))
end Y
namespace Y
open PySem PySem.Spec PyProof.Rows L2

/-! ### a text's parts, and what a comprehension made, that may grow -/
def pSplitLive : Pr := fun ws M => match vws M ws with
  | some [.str x, .str y] => if (y.length == 0) = false ∧ x.length + 2 ≤ sizeLine then some (.loc M.length, M ++ [.lst (strD (Txt.split x y))]) else none
  | _ => none
section
variable {X : Cx} {xw : WX} {a o : Expr} {fa fb : EF} {apos cpos : Pos} {k : Nat}
theorem me_splitLive (ho : ME X xw o fa) (ha : MA X xw [a] [fb])
    (hbase : attributeBase o "split" X.env (eval o X.env) = eval o X.env := by rfl)
    (hfew : ((backTo cpos (starEach [a] X.env)).all (fun x => !x.1) && (backToKw cpos (keywordEach [] X.env)).all (fun x => x.1.isSome)
      && decide ([a].length + ([] : List Keyword).length + (if ([] : List Keyword).isEmpty then 0 else 1) < 30)) = true := by rfl)
    (hline : (apos.endLine == cpos.line) = true := by rfl) (hs : starEach [a] X.env = (false, eval a X.env) :: starEach [] X.env := by rfl) : ME X xw (.Call (.Attribute o "split" apos) [a] [] cpos) (sMeth .str pSplitLive fa [fb]) := by
  refine me_meth .str F.plainAttrs_str F.slot_str_split F.type_str_split mt_split (fun g M H vs ws w M' Q R r e q => ?_) ho ha hbase hfew hline hs
  unfold pSplitLive at e
  split at e
  · rename_i x y h
    split at e
    · rename_i c
      cases e
      obtain ⟨u, v, rfl, d1, d2⟩ := (vws_ok R r h).two
      cases d1.str
      cases d2.str
      refine ⟨_, _, rfl, _, _, rfl, rfl, c.1, c.2, fun p hp => ?_⟩
      obtain ⟨R', E'⟩ := Rel.live R hp (dq_strs _)
      exact q _ _ _ R' E' (.loc (by show (g.ph ++ [p])[M.length]? = some p; rw [List.getElem?_append_right (by rw [R.len]; exact Nat.le_refl _), R.len, Nat.sub_self]; rfl))
    · cases e
  · cases e
end
def sLcA (it : IF) (gt : GF) (tt : TF) (te : EF) (vs : List Nat) : EF := fun ρ M => (it ρ M).bind fun ds M1 => match compL gt tt te (wip ρ vs) ds M1 with
  | some (xs, M2) => if xs.length ≤ sizeLine then .ok (.loc M2.length) (M2 ++ [.lst xs]) else .stuck
  | none => .stuck
theorem lcA_core {T : Tx} {xq : Value → Option Addr → Hp → Prop} {gt : GF} {tt : TF} {te : EF} {vs us : List Nat} (hus : ∀ v ∈ us, v ∈ vs) {σ : L2.St} {H1 : Hp} {Q : VK} {J : It} {g1 : Gh} {ρ : Rho} {M1 : List MO} {ds : List PyData} (R1 : Rel T.K g1 M1 H1) (S1 : RS T.K g1 σ ρ) (hJ : ItOk T.K g1.F J ds)
    (b : Bhd T xq (RW T.K) Q (match compL gt tt te (wip ρ vs) ds M1 with
      | some (xs, M2) => if xs.length ≤ sizeLine then .ok (.loc M2.length) (M2 ++ [.lst xs]) else .stuck
      | none => .stuck) g1 H1) :
    tLc (fun _ H R => R J H) (tGt T us gt) (tT T xw0 tt) (tE T xw0 te) vs σ H1 Q := by
  refine fun D hD => ?_
  cases ec : compL gt tt te (wip ρ vs) ds M1 with
  | none => rw [ec] at b; exact b.elim
  | some y =>
    obtain ⟨all, Mend⟩ := y
    rw [ec] at b
    simp only at b
    by_cases hz : all.length ≤ sizeLine
    case neg => rw [if_neg hz] at b; exact b.elim
    rw [if_pos hz] at b
    have hF : g1.F D = none := R1.sub.none hD
    have hph : D ∉ g1.ph := fun z => by obtain ⟨u, q⟩ := R1.tr D z; rw [hD] at q; cases q
    refine lc_in hus hD (R1.updD hF hph) ((Ext.refl _ _).updD hD) S1 hJ upd_same hF hph .nil ec (by simpa using hz) fun g H acc R E G q1 q2 q3 d => ?_
    have eH : L2.upd H D (.lst acc) = H := funext fun a => by
      by_cases h : a = D
      · rw [h, upd_same, q1]
      · rw [upd_ne h]
    obtain ⟨R', E'⟩ := Rel.pushD (u := .lst acc) (o := .lst all) R q2 q3 E hD ⟨acc, upd_same, d⟩
    rw [eH] at R' E'
    exact b (.ref D) ⟨g.ph ++ [D], g.F⟩ H R' E' (push_loc R)
theorem lcA_imp {T : Tx} {xw : WX} {fi : IF} {gt : GF} {tt : TF} {te : EF} {vs us : List Nat} (hus : ∀ v ∈ us, v ∈ vs) {σ : L2.St} {H : Hp} {Q : VK} (h : tE T xw (sLcA fi gt tt te vs) σ H Q) :
    tLc (tI T xw fi) (tGt T us gt) (tT T xw0 tt) (tE T xw0 te) vs σ H Q :=
  tG_mono (tG_bind (R2 := fun g (J : It) ds => ItOk T.K g.F J ds) h) fun J H1 ⟨g1, ρ, M1, ds, R1, S1, hJ, b⟩ => lcA_core (xq := fun c d H => xw c d σ H) hus R1 S1 hJ b
theorem me_lcA {X : Cx} {k : Nat} {xw : WX} {elt tg iter : Expr} {ifs : List Expr} {scope : Scope} {own : List (Str × Nat)} {pos : Pos} {fi : IF} {gt : GF} {tt : TF} {te : EF} {us : List Nat} (C : Ctx X k xw) (hi : MI X xw tg iter fi) (ok : BlkOk X.N X.env.scope scope own)
    (hg : ∀ (s : Shared) (H : Hp) (A : Addr) (cl : List (Str × Addr)) (fp : List Addr), Ctx (X.blk s H scope (compEnvC scope cl A X.env) fp) k xw0 → MG (X.blk s H scope (compEnvC scope cl A X.env) fp) tg us gt) (ht : ∀ (s : Shared) (H : Hp) (A : Addr) (cl : List (Str × Addr)) (fp : List Addr), Ctx (X.blk s H scope (compEnvC scope cl A X.env) fp) k xw0 → MTs (X.blk s H scope (compEnvC scope cl A X.env) fp) ifs tt)
    (he : ∀ (s : Shared) (H : Hp) (A : Addr) (cl : List (Str × Addr)) (fp : List Addr), Ctx (X.blk s H scope (compEnvC scope cl A X.env) fp) k xw0 → ME (X.blk s H scope (compEnvC scope cl A X.env) fp) xw0 elt te) (hus : ∀ v ∈ us, v ∈ own.map (·.2) := by decide) (hs : ∀ x, foldedSetIterable iter X.env x = pure x := by intro _; rfl) :
    ME X xw (.ListComp elt [⟨tg, iter, ifs, 0⟩] scope pos) (sLcA fi gt tt te (own.map (·.2))) :=
  PE.imp (pe_lc C.calm C.nd hi ok (fun s H A cl fp => hg s H A cl fp (C.blk _ _ _ _ _)) (fun s H A cl fp => ht s H A cl fp (C.blk _ _ _ _ _)) (fun s H A cl fp => he s H A cl fp (C.blk _ _ _ _ _)) hs) fun σ H Q h => lcA_imp (T := tx X) hus h
theorem ms_setLcA {X : Cx} {k : Nat} {xw : WX} {i : Nat} {y : Str} {py : Pos} {elt tg iter : Expr} {ifs : List Expr} {scope : Scope} {own : List (Str × Nat)} {pos spos : Pos} {fi : IF} {gt : GF} {tt : TF} {te : EF} {us : List Nat} (C : Ctx X k xw) (hi : MI X xw tg iter fi) (ok : BlkOk X.N X.env.scope scope own)
    (hg : ∀ (s : Shared) (H : Hp) (A : Addr) (cl : List (Str × Addr)) (fp : List Addr), Ctx (X.blk s H scope (compEnvC scope cl A X.env) fp) k xw0 → MG (X.blk s H scope (compEnvC scope cl A X.env) fp) tg us gt) (ht : ∀ (s : Shared) (H : Hp) (A : Addr) (cl : List (Str × Addr)) (fp : List Addr), Ctx (X.blk s H scope (compEnvC scope cl A X.env) fp) k xw0 → MTs (X.blk s H scope (compEnvC scope cl A X.env) fp) ifs tt)
    (he : ∀ (s : Shared) (H : Hp) (A : Addr) (cl : List (Str × Addr)) (fp : List Addr), Ctx (X.blk s H scope (compEnvC scope cl A X.env) fp) k xw0 → ME (X.blk s H scope (compEnvC scope cl A X.env) fp) xw0 elt te) (hy : X.N[i]? = some y := by rfl) (hyl : X.env.scope.names.lookup y = some .local := by rfl)
    (hsw : swapsWith (.ListComp elt [⟨tg, iter, ifs, 0⟩] scope pos) (some (.Name y py)) spos.line X.env = pure true := by exact (sw_true rfl rfl rfl (by decide +kernel))) (hus : ∀ v ∈ us, v ∈ own.map (·.2) := by decide) (hs : ∀ x, foldedSetIterable iter X.env x = pure x := by intro _; rfl) :
    MS X xw (.Assign [.Name y py] (.ListComp elt [⟨tg, iter, ifs, 0⟩] scope pos) spos) (sSet i (sLcA fi gt tt te (own.map (·.2)))) :=
  PS.imp (ps_setLc C.calm C.nd hy hyl hsw hi ok (fun s H A cl fp => hg s H A cl fp (C.blk _ _ _ _ _)) (fun s H A cl fp => ht s H A cl fp (C.blk _ _ _ _ _)) (fun s H A cl fp => he s H A cl fp (C.blk _ _ _ _ _)) hs) fun D σ H q => lcA_imp (T := tx X) hus (tG_mono (tS_then q) fun v H1 ⟨g, ρ, M, w, R, S, r, b⟩ => b _ g H1 R (Ext.refl _ _) (S.set i r))
end Y
namespace Y
open PySem PySem.Spec PyProof.Rows L2

/-! ### the line of an error, read behind the try -/
theorem pe_xfT {X : Cx} {C : Addr} {e : Expr} {te : TE} {pos : Pos} {n : Str} (T : XfC X.K C) (hno : PySem.W.findIn X.K (.ref C) n = some none) (he : PE X e te) (hb : attributeBase e n X.env (eval e X.env) = eval e X.env := by rfl) :
    PE X (.Attribute e n pos) (fun σ H Q => te σ H fun x H1 => ∃ (a dd : Addr) (fs : List (Str × V)) (v : V), x = .ref a ∧ H1 a = some (ExH (.ref C) (some dd) a) ∧ H1 dd = some (.xd fs) ∧ fs.lookup n = some v ∧ Q v H1) := by
  refine ⟨fun pins s σ H Q I h => ?_⟩
  refine attr_of hb (thn (he.run pins s σ H _ I h) fun u s1 hh => ?_)
  obtain ⟨x, H1, I1, rx, a, dd, fs, v, ex, hA, ea, l, q⟩ := hh
  subst ex
  obtain rfl : u = Value.ref a := rx
  obtain ⟨oe, vs, ha, hz, hd⟩ := exh_at I1.hok hA
  have hx : ObjOk X.prog X.w H1 s1.heap dd (.xd fs) := I1.hok dd _ ea
  obtain ⟨mA, hns, hr⟩ := hx
  obtain ⟨od, ho, hl⟩ := lookIn_ns hns
  obtain ⟨u, hu, ru⟩ := RelO.some_of (v := v) (o := mA n) (by rw [← l]; exact hr n)
  have J : PySem.W.InstAt s1.heap a oe C (some od) := ⟨ha, hz.1, by unfold PySem.W.notCls; rw [hd] <;> rfl, by rw [hz.2]; exact ho⟩
  exact HandSPX.exc_get I1.kIn J T.ga T.gg T.exC (PySem.W.findObj_own T.hdC hno rfl (by rw [hl, hu])) (handed_of ru) ⟨v, H1, I1.tok _, ru, q⟩
structure XLn (K : PySem.W.Frag) : Prop where
  ex : ∃ C : Addr, PySem.W.nsIn K mainGlobals "NoText" = some (some (.ref C)) ∧ XfC K C ∧ PySem.W.findIn K (.ref C) "line" = some none
def sXLine (f : EF) : EF := fun ρ M => (f ρ M).bind fun w M1 => match w with
  | .exc x => match x.line with
    | some i => if x.c = "NoText" then .ok (.d (.int i)) M1 else .stuck
    | none => .stuck
  | _ => .stuck
theorem me_xline {X : Cx} {xw : WX} {e : Expr} {f : EF} {pos : Pos} (T : XLn X.K) (he : ME X xw e f) (hb : attributeBase e "line" X.env (eval e X.env) = eval e X.env := by rfl) : ME X xw (.Attribute e "line" pos) (sXLine f) := by
  obtain ⟨C, hns, hT, hno⟩ := T.ex
  refine PE.imp (pe_xfT hT hno he hb) fun σ H Q h => tG_mono (tG_bind (R2 := RW X.K) h) fun v H1 ⟨g, ρ, M, w, R, S, r, b⟩ => ?_
  cases w with
  | exc x =>
    simp only at b
    cases hx : x.line with
    | none => rw [hx] at b; exact b.elim
    | some i =>
      rw [hx] at b
      simp only at b
      split at b
      · rename_i hc
        cases r with
        | exc h1 h2 h3 =>
          rw [hc, hns] at h1
          cases h1
          unfold Ln at h3
          rw [hx] at h3
          obtain ⟨dx, rfl, hdx⟩ := h3
          exact ⟨_, dx, _, .int i, rfl, R.sub _ _ h2, R.sub _ _ hdx, rfl, b _ g H1 R (Ext.refl _ _) (.d (.int i))⟩
      · exact b.elim
  | _ => exact b.elim
end Y
namespace Y
open PySem PySem.Spec PyProof.Rows L2
/-- a text by its signs -/
def S (l : List Nat) : Str := ⟨l.toArray⟩
section
variable {X : Cx} {xw : WX} {a b : Expr} {fa fb : EF} {pos p1 : Pos} {k : Nat}
def pMulA : DPr := fun xs => match pMul xs with
  | some z => some z
  | none => pMul2 xs
theorem mulA_ok (X : Cx) : ∃ r, OpR X (binaryOp .Mult) r ∧ PrOk X.K (dpr pMulA) (r2 r) := by
  obtain ⟨r, h1, h2⟩ := mul_ok X
  refine ⟨_, h1.or op_repS, fun g M H vs ws w M' Q R rw_ e k => ?_⟩
  unfold dpr at e
  cases q : vws M ws with
  | none => rw [q] at e; cases e
  | some xs =>
    cases q1 : pMul xs with
    | some z =>
      have : pMulA xs = some z := by unfold pMulA; rw [q1]
      rw [q] at e
      simp only [this] at e
      cases e
      obtain ⟨x, y, e1, e2⟩ := h2 g M H vs ws _ M Q R rw_ (by unfold dpr; rw [q]; simp only [q1]) k
      exact ⟨x, y, e1, .inl e2⟩
    | none =>
      have : pMulA xs = pMul2 xs := by unfold pMulA; rw [q1]
      rw [q] at e
      simp only [this] at e
      cases q2 : pMul2 xs with
      | none => rw [q2] at e; cases e
      | some z =>
        rw [q2] at e
        cases e
        unfold pMul2 at q2
        split at q2
        · rename_i z j
          split at q2
          · rename_i hc
            cases q2
            obtain ⟨v, u, rfl, d1, d2⟩ := (vws_ok R rw_ q).two
            cases d1.str
            cases d2.int
            exact ⟨_, _, rfl, .inr ⟨_, _, rfl, rfl, hc.1, hc.2.1, hc.2.2, k _ g H R (Ext.refl _ _) (.d (.str _))⟩⟩
          · cases q2
        · cases q2
theorem me_mulA (ha : ME X xw a fa) (hb : ME X xw b fb) : ME X xw (.BinOp a .Mult b pos) (sPr (dpr pMulA) [fa, fb]) := let ⟨_, h1, h2⟩ := mulA_ok X; me_bin h1 h2 ha hb
def itZ (fs : List EF) : IF := itZS fs
theorem mi_zip {e e2 : Expr} {p tpos : Pos} {elts : List Expr} {kk : Nat} {fs : List EF} (C : Ctx X k xw) (ha : MA X xw [e, e2] fs) (hm : X.mg "zip" = none) (hg : Gl X "zip" := by rfl)
    (hs : starEach [e, e2] X.env = (false, eval e X.env) :: starEach [e2] X.env := by rfl) (hpl : (backTo pos (starEach [e2] X.env)).any (·.1) = false := by rfl) :
    MI X xw (.Tuple elts kk tpos) (.Call (.Name "zip" p) [e, e2] [] pos) (itZ fs) := mi_zipS ha hm hg hs hpl
end
end Y
namespace Y
open PySem PySem.Spec PyProof.Rows L2

/-! ### running a mirror -/
section
variable {α β : Type} {f g : EF} {c d : TF} {a b : SF} {ρ ρ' : Rho} {M M' : List MO} {w : W} {x : PyData} {e : Ex}
@[simp] theorem bind_ok {x : α} {k : α → List MO → Res β} : (Res.ok x M).bind k = k x M := Eq.trans rfl rfl
@[simp] theorem bind_err {k : α → List MO → Res β} : (Res.err e M : Res α).bind k = .err e M := rfl
@[simp] theorem bind_stuck {k : α → List MO → Res β} : (Res.stuck : Res α).bind k = .stuck := rfl
@[simp] theorem evs_nil : evs [] ρ M = .ok [] M := rfl
@[simp] theorem evs_cons {fs : List EF} : evs (f :: fs) ρ M = (f ρ M).bind fun w M1 => (evs fs ρ M1).bind fun ws M2 => .ok (w :: ws) M2 := Eq.trans rfl rfl
@[simp] theorem ans_some {y : W × List MO} : ans (some y) = .ok y.1 y.2 := rfl
@[simp] theorem ans_none : ans none = .stuck := rfl
theorem sPr_e {p : Pr} {fs : List EF} : sPr p fs ρ M = (evs fs ρ M).bind fun ws M1 => ans (p ws M1) := Eq.trans rfl rfl
def MO.asL : MO → Option PyData
  | .lst ds => some (.list ds)
  | _ => none
@[simp] theorem asL_lst {ds : List PyData} : MO.asL (.lst ds) = some (.list ds) := rfl
@[simp] theorem vw_d : vw M (.d x) = some x := by cases x <;> rfl
@[simp] theorem vw_loc {n : Nat} : vw M (.loc n) = (M[n]?).bind MO.asL := by
  show (match M[n]? with | some (.lst ds) => some (PyData.list ds) | _ => none) = _
  cases M[n]? with
  | none => rfl
  | some o => cases o <;> rfl
@[simp] theorem vws_nil : vws M [] = some [] := rfl
@[simp] theorem vws_cons {ws : List W} : vws M (w :: ws) = (vw M w).bind fun x => (vws M ws).map (x :: ·) := by
  show (match vw M w with | some x => (match vws M ws with | some xs => some (x :: xs) | none => none) | none => none) = _
  cases vw M w with
  | none => rfl
  | some x => cases vws M ws <;> rfl
theorem dpr_e {p : DPr} {ws : List W} : dpr p ws M = ((vws M ws).bind p).map fun y => (.d y, M) := by
  unfold dpr
  cases vws M ws with
  | none => rfl
  | some xs =>
    show (match p xs with | some y => some (W.d y, M) | none => none) = _
    cases q : p xs with
    | none => simp [q]
    | some y => simp [q]
def rd (o : Option (List PyData)) (p : DPr) (M : List MO) : Res W := match o with
  | some xs => match p xs with
    | some y => .ok (.d y) M
    | none => .stuck
  | none => .stuck
def asD (o : Option PyData) (M : List MO) : Res W := match o with
  | some y => .ok (.d y) M
  | none => .stuck
@[simp] theorem asD_s : asD (some x) M = .ok (.d x) M := rfl
@[simp] theorem asD_n : asD none M = .stuck := rfl
@[simp] theorem asD_i {c : Prop} [Decidable c] {o : Option PyData} : asD (if c then o else none) M = if c then asD o M else .stuck := by
  by_cases h : c
  · rw [if_pos h, if_pos h]
  · rw [if_neg h, if_neg h]; rfl
@[simp] theorem rd_s {p : DPr} {xs : List PyData} : rd (some xs) p M = asD (p xs) M := by
  cases q : p xs <;> simp [rd, asD, q]
@[simp] theorem ans_dpr {p : DPr} {ws : List W} : ans (dpr p ws M) = rd (vws M ws) p M := by
  unfold dpr rd
  cases vws M ws with
  | none => rfl
  | some xs =>
    show ans (match p xs with | some y => some (W.d y, M) | none => none) = _
    cases q : p xs with
    | none => simp [q]
    | some y => simp [q]
@[simp] theorem sPr_d {p : DPr} {fs : List EF} : sPr (dpr p) fs ρ M = (evs fs ρ M).bind fun ws M1 => rd (vws M1 ws) p M1 := by
  rw [sPr_e]
  congr 1
  funext ws M1
  exact ans_dpr
@[simp] theorem sPr_lenS {fs : List EF} : sPr pLenS fs ρ M = (evs fs ρ M).bind fun ws M1 => ans (pLenS ws M1) := sPr_e
@[simp] theorem sPr_ixS {fs : List EF} : sPr pIxS fs ρ M = (evs fs ρ M).bind fun ws M1 => ans (pIxS ws M1) := sPr_e
@[simp] theorem sC_e : sC x ρ M = .ok (.d x) M := rfl
def optW : Option (Option W) → List MO → Res W
  | some (some w), M => .ok w M
  | _, _ => .stuck
@[simp] theorem optW_s : optW (some (some w)) M = .ok w M := rfl
@[simp] theorem sV_e {i : Nat} : sV i ρ M = optW ρ[i]? M := by
  unfold sV optW
  rcases ρ[i]? with _ | _ | _ <;> rfl
/-! statements -/
def SR.go (r : SR) (h : SF) : SR := match r with
  | .nx ρ M => h ρ M
  | r => r
@[simp] theorem go_nx {h : SF} : (SR.nx ρ M).go h = h ρ M := Eq.trans rfl rfl
@[simp] theorem go_ret {h : SF} : (SR.ret w M).go h = .ret w M := rfl
@[simp] theorem go_bk {h : SF} : (SR.bk ρ M).go h = .bk ρ M := rfl
@[simp] theorem go_ct {h : SF} : (SR.ct ρ M).go h = .ct ρ M := rfl
@[simp] theorem go_er {h : SF} : (SR.er e ρ M).go h = .er e ρ M := rfl
@[simp] theorem go_stuck {h : SF} : SR.stuck.go h = .stuck := rfl
@[simp] theorem sSeq_e : sSeq a b ρ M = (a ρ M).go b := by
  unfold sSeq SR.go
  cases a ρ M <;> rfl
def Res.th (r : Res W) (ρ : Rho) (k : Rho → W → List MO → SR) : SR := match r with
  | .ok w M => k ρ w M
  | .err e M => .er e ρ M
  | .stuck => .stuck
@[simp] theorem th_ok {k : Rho → W → List MO → SR} : (Res.ok w M).th ρ k = k ρ w M := Eq.trans rfl rfl
@[simp] theorem th_err {k : Rho → W → List MO → SR} : (Res.err e M : Res W).th ρ k = .er e ρ M := rfl
@[simp] theorem th_stuck {k : Rho → W → List MO → SR} : (Res.stuck : Res W).th ρ k = .stuck := rfl
@[simp] theorem sThen_e {k : Rho → W → List MO → SR} : sThen f k ρ M = (f ρ M).th ρ k := by
  unfold sThen Res.th
  cases f ρ M <;> rfl
@[simp] theorem sSet_e {i : Nat} : sSet i f ρ M = (f ρ M).th ρ fun ρ w M => .nx (ρ.set i (some w)) M := by unfold sSet; simp
@[simp] theorem sExpr_e : sExpr f ρ M = (f ρ M).th ρ fun ρ _ M => .nx ρ M := by unfold sExpr; simp
@[simp] theorem sRet_e : sRet f ρ M = (f ρ M).th ρ fun _ w M => .ret w M := by unfold sRet; simp
@[simp] theorem sRetN_e : sRetN ρ M = .ret (.d .none) M := rfl
@[simp] theorem sNx_e : sNx ρ M = .nx ρ M := rfl
@[simp] theorem sBk_e : sBk ρ M = .bk ρ M := rfl
@[simp] theorem sCt_e : sCt ρ M = .ct ρ M := rfl
def Res.tb (r : Res Bool) (ρ : Rho) (a b : SF) : SR := match r with
  | .ok true M => a ρ M
  | .ok false M => b ρ M
  | .err e M => .er e ρ M
  | .stuck => .stuck
@[simp] theorem tb_true : (Res.ok true M).tb ρ a b = a ρ M := Eq.trans rfl rfl
@[simp] theorem tb_false : (Res.ok false M).tb ρ a b = b ρ M := Eq.trans rfl rfl
@[simp] theorem tb_err : (Res.err e M : Res Bool).tb ρ a b = .er e ρ M := rfl
theorem tb_if {k : Bool} : (Res.ok k M).tb ρ a b = if k = true then a ρ M else b ρ M := by cases k <;> rfl
@[simp] theorem sIf_e : sIf c a b ρ M = (c ρ M).tb ρ a b := by
  unfold sIf Res.tb
  rcases c ρ M with ⟨_ | _, _⟩ | _ | _ <;> rfl
/-! tests -/
def asB : W → List MO → Res Bool
  | .d (.bool b), M => .ok b M
  | _, _ => .stuck
@[simp] theorem asB_b {k : Bool} : asB (.d (.bool k)) M = .ok k M := rfl
@[simp] theorem sVal_e : sVal f ρ M = (f ρ M).bind asB := by
  unfold sVal
  congr 1
  funext w M
  rcases w with (_ | (_ | _) | _ | _ | _ | _ | _) | _ | _ | _ | _ | _ | _ <;> rfl
@[simp] theorem sNot_e : sNot c ρ M = (c ρ M).bind fun b M => .ok (!b) M := Eq.trans rfl rfl
@[simp] theorem sAnd_e : sAnd c d ρ M = (c ρ M).bind fun b M => if b = true then d ρ M else .ok false M := Eq.trans rfl rfl
@[simp] theorem sOr_e : sOr c d ρ M = (c ρ M).bind fun b M => if b = true then .ok true M else d ρ M := Eq.trans rfl rfl
@[simp] theorem sIte_e : sIte c f g ρ M = (c ρ M).bind fun k M => if k = true then f ρ M else g ρ M := Eq.trans rfl rfl
@[simp] theorem sAndV_e : sAndV f g ρ M = (f ρ M).bind fun w M => (asB w M).bind fun b M => if b = true then g ρ M else .ok (.d (.bool false)) M := by
  unfold sAndV
  congr 1
  funext w M
  rcases w with (_ | (_ | _) | _ | _ | _ | _ | _) | _ | _ | _ | _ | _ | _ <;> rfl
@[simp] theorem sOrV_e : sOrV f g ρ M = (f ρ M).bind fun w M => (asB w M).bind fun b M => if b = true then .ok (.d (.bool true)) M else g ρ M := by
  unfold sOrV
  congr 1
  funext w M
  rcases w with (_ | (_ | _) | _ | _ | _ | _ | _) | _ | _ | _ | _ | _ | _ <;> rfl
@[simp] theorem sNotV_e : sNotV f ρ M = (f ρ M).bind fun w M => (asB w M).bind fun b M => .ok (.d (.bool (!b))) M := by
  unfold sNotV
  congr 1
  funext w M
  rcases w with (_ | (_ | _) | _ | _ | _ | _ | _) | _ | _ | _ | _ | _ | _ <;> rfl
@[simp] theorem sYes_e : sYes ρ M = .ok true M := rfl
end

/-! ### primitives on data -/
section
variable {a b : List Nat} {i j : Int} {x y : Str} {ds es : List PyData}
@[simp] theorem pAdd_i : pAdd [.int i, .int j] = some (.int (i + j)) := rfl
@[simp] theorem pAdd_s : pAdd [.str x, .str y] = if x.length + y.length ≤ sizeLine then some (.str (x ++ y)) else none := rfl
@[simp] theorem pAdd_l : pAdd [.list ds, .list es] = if ds.length + es.length ≤ sizeLine then some (.list (ds ++ es)) else none := rfl
@[simp] theorem pAdd_t : pAdd [.tuple ds, .tuple es] = if ds.length + es.length ≤ sizeLine then some (.tuple (ds ++ es)) else none := rfl
@[simp] theorem pSub_i : pSub [.int i, .int j] = some (.int (i - j)) := rfl
@[simp] theorem pMod_i : pMod [.int i, .int j] = if 0 < j then some (.int (i % j)) else none := by
  show (if decide (0 < j) = true then _ else _) = _
  simp
@[simp] theorem pFdiv_i : pFdiv [.int i, .int j] = if 0 < j ∧ j < 1073741824 then some (.int (i / j)) else none := by
  show (if decide (0 < j ∧ j < 1073741824) = true then _ else _) = _
  simp
@[simp] theorem pPow_i : pPow [.int i, .int j] = if cPow i j = true then some (.int (i ^ j.toNat)) else none := rfl
@[simp] theorem pLt_i : pLt [.int i, .int j] = some (.bool (decide (i < j))) := rfl
@[simp] theorem pLe_i : pLe [.int i, .int j] = some (.bool (decide (i ≤ j))) := rfl
@[simp] theorem pGt_i : pGt [.int i, .int j] = some (.bool (decide (j < i))) := rfl
@[simp] theorem pGe_i : pGe [.int i, .int j] = some (.bool (decide (j ≤ i))) := rfl
@[simp] theorem pMulA_i : pMulA [.int i, .int j] = if cMul i j = true then some (.int (i * j)) else none := by
  show (match (if cMul i j = true then some (PyData.int (i * j)) else none) with | some z => some z | none => pMul2 [.int i, .int j]) = _
  by_cases h : cMul i j = true
  · rw [if_pos h]
  · rw [if_neg h]; rfl
theorem pMulA_s : pMulA [.str x, .int j] = if 0 ≤ j ∧ j < 1048576 ∧ x.length * j.toNat ≤ sizeLine then some (.str (repS x j.toNat)) else none := rfl
@[simp] theorem pMulA_c (h : 0 ≤ j ∧ j ≤ 1000) (h2 : a.length * j.toNat ≤ 16777216) : pMulA [.str (S a), .int j] = some (.str (S (List.replicate j.toNat a).flatten)) := by
  have hl : (S a).length = a.length := by simp [S, Str.length]
  have hr : repS (S a) j.toNat = S (List.replicate j.toNat a).flatten := by
    unfold repS
    have : (S a).cps.toList = a := by simp [S]
    rw [this]
    rfl
  rw [pMulA_s, hl, hr, if_pos ⟨h.1, by omega, by rw [sizeLine_eq]; omega⟩]
@[simp] theorem pMulA_l : pMulA [.list ds, .int j] = if 0 ≤ j ∧ j < 2 ^ 63 ∧ ds.length * j.toNat ≤ sizeLine then some (.list (List.replicate j.toNat ds).flatten) else none := by
  show (match (if 0 ≤ j ∧ j < 2 ^ 63 ∧ ds.length * j.toNat ≤ sizeLine then some (PyData.list (List.replicate j.toNat ds).flatten) else none) with | some z => some z | none => pMul2 [.list ds, .int j]) = _
  by_cases h : 0 ≤ j ∧ j < 2 ^ 63 ∧ ds.length * j.toNat ≤ sizeLine
  · rw [if_pos h]
  · rw [if_neg h]; rfl
@[simp] theorem pEq_i {y : PyData} : pEq [.int i, y] = if SeqAt.shaped (.int i) = true ∧ SeqAt.shaped y = true then some (.bool (PyData.eqv (.int i) y)) else none := rfl
@[simp] theorem pEq_b {p : Bool} {y : PyData} : pEq [.bool p, y] = if SeqAt.shaped (.bool p) = true ∧ SeqAt.shaped y = true then some (.bool (PyData.eqv (.bool p) y)) else none := rfl
@[simp] theorem pEq_l {y : PyData} : pEq [.list ds, y] = if SeqAt.shaped (.list ds) = true ∧ SeqAt.shaped y = true then some (.bool (PyData.eqv (.list ds) y)) else none := rfl
@[simp] theorem pEq_t {y : PyData} : pEq [.tuple ds, y] = if SeqAt.shaped (.tuple ds) = true ∧ SeqAt.shaped y = true then some (.bool (PyData.eqv (.tuple ds) y)) else none := rfl
@[simp] theorem pEq_s : pEq [.str x, .str y] = some (.bool (decide (x = y))) := rfl
@[simp] theorem pNe_i {y : PyData} : pNe [.int i, y] = if SeqAt.shaped (.int i) = true ∧ SeqAt.shaped y = true then some (.bool (!PyData.eqv (.int i) y)) else none := rfl
@[simp] theorem pNe_b {p : Bool} {y : PyData} : pNe [.bool p, y] = if SeqAt.shaped (.bool p) = true ∧ SeqAt.shaped y = true then some (.bool (!PyData.eqv (.bool p) y)) else none := rfl
@[simp] theorem pNe_l {y : PyData} : pNe [.list ds, y] = if SeqAt.shaped (.list ds) = true ∧ SeqAt.shaped y = true then some (.bool (!PyData.eqv (.list ds) y)) else none := rfl
@[simp] theorem pNe_t {y : PyData} : pNe [.tuple ds, y] = if SeqAt.shaped (.tuple ds) = true ∧ SeqAt.shaped y = true then some (.bool (!PyData.eqv (.tuple ds) y)) else none := rfl
@[simp] theorem pNe_s : pNe [.str x, .str y] = some (.bool (!decide (x = y))) := rfl
@[simp] theorem pIx_l : pIx [.list ds, .int i] = atI ds i := rfl
@[simp] theorem pIx_t : pIx [.tuple ds, .int i] = atI ds i := rfl
@[simp] theorem pIx_s : pIx [.str (S a), .int i] = if a.length ≤ sizeLine then (atI a i).map fun c => .str (S [c]) else none := by
  show (if (S a).length ≤ sizeLine then (match atI (S a).cps.toList i with | some c => some (PyData.str ⟨#[c]⟩) | none => none) else none) = _
  have h1 : (S a).length = a.length := by simp [S, Str.length]
  have h2 : (S a).cps.toList = a := by simp [S]
  rw [h1, h2]
  cases atI a i <;> rfl
@[simp] theorem pLen_l : pLen [.list ds] = some (.int ds.length) := rfl
@[simp] theorem pLen_t : pLen [.tuple ds] = some (.int ds.length) := rfl
@[simp] theorem S_len : (S a).length = a.length := by simp [S, Str.length]
@[simp] theorem S_toList : (S a).cps.toList = a := by simp [S]
@[simp] theorem S_size : (S a).cps.size = a.length := by simp [S]
theorem S_inj : S a = S b ↔ a = b := ⟨fun h => by have := congrArg (fun z => z.cps.toList) h; simpa using this, fun h => by rw [h]⟩
@[simp] theorem S_eq : S a = S b ↔ a = b := S_inj
@[simp] theorem S_app : S a ++ S b = S (a ++ b) := by
  show (⟨a.toArray ++ b.toArray⟩ : Str) = ⟨(a ++ b).toArray⟩
  simp
theorem S_of (z : Str) : z = S z.cps.toList := by simp [S]
@[simp] theorem pLen_s : pLen [.str (S a)] = if a.length ≤ sizeLine then some (.int a.length) else none := by
  show (if (S a).length ≤ sizeLine then some (PyData.int (S a).length) else none) = _
  rw [S_len]
@[simp] theorem pInt_i : pInt [.int i] = some (.int i) := rfl
@[simp] theorem pInt_b {b : Bool} : pInt [.bool b] = some (.int (if b then 1 else 0)) := rfl
@[simp] theorem pStr_s : pStr [.str x] = some (.str x) := rfl
@[simp] theorem pMax_i : pMax [.int i, .int j] = some (.int (if j > i then j else i)) := rfl
@[simp] theorem pMin_i : pMin [.int i, .int j] = some (.int (if j < i then j else i)) := rfl
@[simp] theorem pNeg_i : pNeg [.int i] = some (.int (-i)) := rfl
@[simp] theorem pIsB_e {a b : Bool} : pIsB [.bool a, .bool b] = some (.bool (decide (a = b))) := rfl
@[simp] theorem pNotB_e {a b : Bool} : pNotB [.bool a, .bool b] = some (.bool (!decide (a = b))) := rfl
@[simp] theorem pList_l : pList [.list ds] = some (.list ds) := rfl
@[simp] theorem pList_t : pList [.tuple ds] = some (.list ds) := rfl
@[simp] theorem pTuple_l : pTuple [.list ds] = some (.tuple ds) := rfl
@[simp] theorem pTuple_t : pTuple [.tuple ds] = some (.tuple ds) := rfl
/-- the signs as data -/
def sg (a : List Nat) : List PyData := a.map fun c => .str (S [c])
@[simp] theorem chs_S : chs (S a) = sg a := by
  show (S a).cps.toList.map _ = _
  rw [S_toList]
  rfl
@[simp] theorem pList_s : pList [.str (S a)] = if a.length ≤ sizeLine then some (.list (sg a)) else none := by
  show (if (S a).cps.size ≤ sizeLine then some (PyData.list (chs (S a))) else none) = _
  rw [S_size, chs_S]
@[simp] theorem pTuple_s : pTuple [.str (S a)] = if a.length ≤ sizeLine then some (.tuple (sg a)) else none := by
  show (if (S a).cps.size ≤ sizeLine then some (PyData.tuple (chs (S a))) else none) = _
  rw [S_size, chs_S]
@[simp] theorem repS_S {n : Nat} : repS (S a) n = S (List.replicate n a).flatten := by
  unfold repS
  rw [S_toList]
  rfl
@[simp] theorem cutS_S {lo hi : Option Int} : cutS (S a) lo hi = S (cutL a lo hi) := by
  unfold cutS cutL
  rw [S_toList, S_len]
  rfl
@[simp] theorem slD_l {lo hi : Option Int} : slD lo hi (.list ds) = some (.list (cutL ds lo hi)) := rfl
@[simp] theorem slD_t {lo hi : Option Int} : slD lo hi (.tuple ds) = some (.tuple (cutL ds lo hi)) := rfl
@[simp] theorem slD_s {lo hi : Option Int} : slD lo hi (.str (S a)) = if a.length ≤ sizeLine then some (.str (S (cutL a lo hi))) else none := by
  show (if (S a).length ≤ sizeLine then some (PyData.str (cutS (S a) lo hi)) else none) = _
  rw [S_len, cutS_S]
theorem pEq_sh {x y : PyData} (h1 : SeqAt.shaped x = true) (h2 : SeqAt.shaped y = true) : pEq [x, y] = some (.bool (PyData.eqv x y)) := by
  unfold pEq
  split
  · rename_i a b q
    cases q
    show _ = some (PyData.bool (a == b))
    rw [show (a == b) = decide (a = b) from by rw [Bool.eq_iff_iff, beq_iff_eq, decide_eq_true_iff]]
  · rename_i q
    cases q
    rw [if_pos ⟨h1, h2⟩]
  · rename_i h
    exact absurd rfl (h x y)
theorem pNe_sh {x y : PyData} (h1 : SeqAt.shaped x = true) (h2 : SeqAt.shaped y = true) : pNe [x, y] = some (.bool (!PyData.eqv x y)) := by
  unfold pNe
  split
  · rename_i a b q
    cases q
    show _ = some (PyData.bool (!(a == b)))
    rw [show (a == b) = decide (a = b) from by rw [Bool.eq_iff_iff, beq_iff_eq, decide_eq_true_iff]]
  · rename_i q
    cases q
    rw [if_pos ⟨h1, h2⟩]
  · rename_i h
    exact absurd rfl (h x y)
@[simp] theorem eqv_s : PyData.eqv (.str (S a)) (.str (S b)) = decide (a = b) := by
  show (S a == S b) = _
  rw [Bool.eq_iff_iff, beq_iff_eq, decide_eq_true_iff, S_inj]
@[simp] theorem eqv_i : PyData.eqv (.int i) (.int j) = decide (i = j) := by
  show (i == j) = _
  rw [Bool.eq_iff_iff, beq_iff_eq, decide_eq_true_iff]
@[simp] theorem eqv_b {p q : Bool} : PyData.eqv (.bool p) (.bool q) = (p == q) := rfl
/-- is it one of the signs -/
def inS (a : List Nat) (c : Nat) : Bool := decide (c ∈ a)
theorem inS_iff {c : Nat} : inS a c = true ↔ c ∈ a := decide_eq_true_iff
@[simp] theorem inB_s {c : Nat} : inB (.str (S [c])) (.str (S a)) = some (inS a c) := by
  show some (decide (c ∈ (S a).cps.toList)) = _
  rw [S_toList]
  rfl
@[simp] theorem pIn_e {x y : PyData} : pIn [x, y] = (inB x y).map .bool := by
  show (match inB x y with | some b => some (PyData.bool b) | none => none) = _
  cases inB x y <;> rfl
@[simp] theorem pNotIn_e {x y : PyData} : pNotIn [x, y] = (inB x y).map fun b => .bool (!b) := by
  show (match inB x y with | some b => some (PyData.bool (!b)) | none => none) = _
  cases inB x y <;> rfl
/-! truths -/
def bl (bs : List Bool) : List PyData := bs.map .bool
@[simp] theorem bls_bl {bs : List Bool} : bls (bl bs) = some bs := by
  induction bs with
  | nil => rfl
  | cons b r ih =>
    show (match bls (bl r) with | some bs => some (b :: bs) | none => none) = _
    rw [ih]
@[simp] theorem pAll_e {bs : List Bool} : pAll [.list (bl bs)] = some (.bool (bs.all id)) := by
  show (match bls (bl bs) with | some bs => some (PyData.bool (bs.all id)) | none => none) = _
  rw [bls_bl]
@[simp] theorem pAny_e {bs : List Bool} : pAny [.list (bl bs)] = some (.bool (bs.any id)) := by
  show (match bls (bl bs) with | some bs => some (PyData.bool (bs.any id)) | none => none) = _
  rw [bls_bl]
/-! texts -/
def sts (ls : List (List Nat)) : List PyData := ls.map fun l => .str (S l)
@[simp] theorem strsD_sts {ls : List (List Nat)} : strsD (sts ls) = some (ls.map S) := by
  induction ls with
  | nil => rfl
  | cons b r ih =>
    show (match strsD (sts r) with | some bs => some (S b :: bs) | none => none) = _
    rw [ih]
    rfl
theorem sg_sts : sg a = sts (a.map fun c => [c]) := by
  unfold sg sts
  rw [List.map_map]
  rfl
theorem join0 {ls : List (List Nat)} : Txt.join (S []) (ls.map S) = S ls.flatten := by
  have h : ∀ (ls : List (List Nat)) (acc : Array Nat), ((ls.map S).foldl (fun acc p => acc ++ (S []).cps ++ p.cps) acc) = acc ++ ls.flatten.toArray := by
    intro ls
    induction ls with
    | nil => intro acc; simp
    | cons l r ih =>
      intro acc
      rw [List.map_cons, List.foldl_cons, ih]
      simp [S]
  show (⟨(((ls.map S).drop 1).foldl (fun acc p => acc ++ (S []).cps ++ p.cps) ((ls.map S).headD Str.empty).cps)⟩ : Str) = _
  cases ls with
  | nil => rfl
  | cons l r =>
    rw [List.map_cons, List.drop_one, List.tail_cons, h]
    simp [S]
@[simp] theorem pJoin0 {ls : List (List Nat)} : pJoin [.str (S []), .list (sts ls)] = if ls.flatten.length ≤ 16777216 then some (.str (S ls.flatten)) else none := by
  show (match strsD (sts ls) with | some ys => if (ys.map fun z : Str => z.length).sum + ys.length * (S []).length ≤ 16777216 then some (PyData.str (Txt.join (S []) ys)) else none | none => none) = _
  rw [strsD_sts]
  simp only [join0]
  have : ((ls.map S).map fun z : Str => z.length).sum + (ls.map S).length * (S []).length = ls.flatten.length := by
    rw [S_len, List.length_nil, Nat.mul_zero, Nat.add_zero, List.map_map, List.length_flatten]
    congr 1
  rw [this]
theorem flat_sg : (a.map fun c => [c]).flatten = a := by
  induction a with
  | nil => rfl
  | cons c r ih => rw [List.map_cons, List.flatten_cons, ih]; rfl
@[simp] theorem pJoin_sg : pJoin [.str (S []), .list (sg a)] = if a.length ≤ 16777216 then some (.str (S a)) else none := by
  rw [sg_sts, pJoin0, flat_sg]
end
end Y
namespace Y
open PySem PySem.Spec PyProof.Rows L2
/-! ### calls -/
section
variable {mf : MF} {n : Nat} {M M' J : List MO} {w : W} {x : PyData} {ws : List W} {ρ : Rho} {fs : List EF}
@[simp] theorem sCallF_e : sCallF mf n fs ρ M = (evs fs ρ M).bind fun ws M1 => callF mf n ws M1 := Eq.trans rfl rfl
@[simp] theorem sCallW_e : sCallW mf n fs ρ M = (evs fs ρ M).bind fun ws M1 => if ws.length = n then mf ws M1 else .stuck := Eq.trans rfl rfl
def W.dat : W → Bool
  | .d _ => true
  | .scr _ => true
  | .exc _ => true
  | .kd _ => true
  | .fn _ => true
  | _ => false
theorem dat_all : ∀ {ws : List W}, ws.all W.dat = true → ws.all W.plain = true ∧ locs ws = [] ∧ ∀ k, relo k ws = ws
  | [], _ => ⟨rfl, rfl, fun _ => rfl⟩
  | w :: ws, h => by
    simp only [List.all_cons, Bool.and_eq_true] at h
    obtain ⟨h1, h2, h3⟩ := dat_all h.2
    cases w with
    | loc n => exact absurd h.1 (by simp [W.dat])
    | tup n => exact absurd h.1 (by simp [W.dat])
    | d x => exact ⟨by simp [W.plain, h1], h2, fun k => by show W.d x :: relo k ws = _; rw [h3]⟩
    | clo i x => exact absurd h.1 (by simp [W.dat])
    | fn x => exact ⟨by simp [W.plain, h1], h2, fun k => by show W.fn x :: relo k ws = _; rw [h3]⟩
    | kd x => exact ⟨by simp [W.plain, h1], h2, fun k => by show W.kd x :: relo k ws = _; rw [h3]⟩
    | exc x => exact ⟨by simp [W.plain, h1], h2, fun k => by show W.exc x :: relo k ws = _; rw [h3]⟩
    | scr x => exact ⟨by simp [W.plain, h1], h2, fun k => by show W.scr x :: relo k ws = _; rw [h3]⟩
/-- a call with data alone -/
theorem callF_d (h : mf ws [] = .ok w J) (hz : fz 3 J w = some x) (hl : ws.length = n := by rfl) (hd : ws.all W.dat = true := by rfl) : callF mf n ws M = .ok (.d x) M := by
  obtain ⟨h1, h2, h3⟩ := dat_all hd
  unfold callF
  rw [h2, h3, if_pos ⟨hl, h1, List.nodup_nil⟩]
  show freeze M [] (mf ws []) = _
  rw [h]
  unfold freeze
  simp only [List.length_nil, List.take_zero, dataOnly, if_true, List.replicate_zero, List.drop_zero, List.nil_append, hz]
  rfl
theorem callF_dx {y : PyData} (h : mf ws [] = .ok (.d y) J) (hl : ws.length = n := by rfl) (hd : ws.all W.dat = true := by rfl) : callF mf n ws M = .ok (.d y) M := callF_d h rfl hl hd
/-- a call with a pile in front -/
theorem callF_p {i : Nat} {ds ds' : List PyData} (hM : M[i]? = some (.lst ds)) (h : mf (.loc 0 :: ws) [.lst ds] = .ok w (.lst ds' :: J)) (hz : fz 3 (.dead :: J) w = some x) (hl : ws.length + 1 = n := by rfl) (hd : ws.all W.dat = true := by rfl) :
    callF mf n (.loc i :: ws) M = .ok (.d x) (M.set i (.lst ds')) := by
  obtain ⟨h1, h2, h3⟩ := dat_all hd
  unfold callF
  have hp : (W.loc i :: ws).all W.plain = true := by simp [W.plain, h1]
  have hL : locs (W.loc i :: ws) = [i] := by show i :: locs ws = _; rw [h2]
  have hR : relo 0 (W.loc i :: ws) = .loc 0 :: ws := by show W.loc 0 :: relo 1 ws = _; rw [h3]
  rw [hL, hR, if_pos ⟨hl, hp, List.nodup_cons.mpr ⟨List.not_mem_nil, List.nodup_nil⟩⟩]
  have hs : subM M [i] = some [.lst ds] := by
    unfold subM
    rw [hM]
    rfl
  rw [hs]
  show freeze M [i] (mf (.loc 0 :: ws) [.lst ds]) = _
  rw [h]
  unfold freeze
  simp only [List.length_cons, List.length_nil, List.take_succ_cons, List.take_zero, dataOnly, if_true]
  show (match fz 3 (.dead :: J) w with | some x => _ | none => _) = _
  rw [hz]
  rfl
theorem callF_px {i : Nat} {ds ds' : List PyData} (hM : M[i]? = some (.lst ds)) (h : mf (.loc 0 :: ws) [.lst ds] = .ok (.d x) (.lst ds' :: J)) (hl : ws.length + 1 = n := by rfl) (hd : ws.all W.dat = true := by rfl) :
    callF mf n (.loc i :: ws) M = .ok (.d x) (M.set i (.lst ds')) := callF_p hM h rfl hl hd
@[simp] theorem defF_e {k : Nat} {sf : SF} : defF k sf ws M = fin (sf (start0 k ws) M) := Eq.trans rfl rfl
@[simp] theorem fin_ret : fin (.ret w M) = .ok w M := rfl
@[simp] theorem fin_nx : fin (.nx ρ M) = .ok (.d .none) M := rfl
@[simp] theorem fin_er {e : Ex} : fin (.er e ρ M) = .err e M := rfl
@[simp] theorem start0_nil {k : Nat} : start0 k [] = List.replicate k none := by simp [start0]
@[simp] theorem start0_cons {k : Nat} : start0 (k + 1) (w :: ws) = some w :: start0 k ws := by
  unfold start0
  simp
@[simp] theorem sMeth_e {T : MT'} {p : Pr} {f : EF} : sMeth T p f fs ρ M = (f ρ M).bind fun w M1 => if tyW T M1 w = true then (evs fs ρ M1).bind fun ws M2 => ans (p (w :: ws) M2) else .stuck := Eq.trans rfl rfl
@[simp] theorem tyW_s {x : Str} : tyW .str M (.d (.str x)) = true := rfl
theorem tyW_l {i : Nat} {ds : List PyData} (h : M[i]? = some (.lst ds)) : tyW .list M (.loc i) = true := by
  show (match M[i]? with | some (.lst _) => true | some (.lsw _) => true | _ => false) = true
  rw [h]
theorem pAppend_e {i : Nat} {ds : List PyData} (h : M[i]? = some (.lst ds)) (hl : ds.length < sizeLine) : pAppend [.loc i, .d x] M = some (.d .none, M.set i (.lst (ds ++ [x]))) := by
  show (match M[i]? with | some (.lst ds) => if ds.length < sizeLine then some (W.d .none, M.set i (.lst (ds ++ [x]))) else none | _ => none) = _
  rw [h]
  simp only [if_pos hl]
/-! displays -/
@[simp] theorem lNil_e : lNil ρ M = .ok [] M := rfl
@[simp] theorem lCons_e {f : EF} {h : LF} : lCons f h ρ M = (f ρ M).bind fun w M1 => (h ρ M1).bind fun ws M2 => .ok (w :: ws) M2 := Eq.trans rfl rfl
@[simp] theorem allD_nil : allD [] = some [] := rfl
@[simp] theorem allD_d : allD (.d x :: ws) = (allD ws).map (x :: ·) := by
  show (match allD ws with | some xs => some (x :: xs) | none => none) = _
  cases allD ws <;> rfl
def asLst (o : Option (List PyData)) (M : List MO) : Res W := match o with
  | some xs => if xs.length ≤ sizeLine then .ok (.d (.list xs)) M else .stuck
  | none => .stuck
@[simp] theorem asLst_s {xs : List PyData} : asLst (some xs) M = if xs.length ≤ sizeLine then .ok (.d (.list xs)) M else .stuck := rfl
@[simp] theorem sLst_e {h : LF} : sLst h ρ M = (h ρ M).bind fun ws M => asLst (allD ws) M := by
  unfold sLst
  congr 1
def asLive (o : Option (List PyData)) (M : List MO) : Res W := match o with
  | some xs => if xs.length ≤ sizeLine then .ok (.loc M.length) (M ++ [.lst xs]) else .stuck
  | none => .stuck
@[simp] theorem asLive_s {xs : List PyData} : asLive (some xs) M = if xs.length ≤ sizeLine then .ok (.loc M.length) (M ++ [.lst xs]) else .stuck := rfl
@[simp] theorem sLive_e {h : LF} : sLive h ρ M = (h ρ M).bind fun ws M => asLive (allD ws) M := by
  unfold sLive
  congr 1
def asTup (ws : List W) (M : List MO) : Res W := if ws.length ≤ sizeLine then match allD ws with
    | some xs => .ok (.d (.tuple xs)) M
    | none => .ok (.tup ws) M
  else .stuck
@[simp] theorem sTup_e {h : LF} : sTup h ρ M = (h ρ M).bind asTup := Eq.trans rfl rfl
theorem asTup_d {xs : List PyData} (h : allD ws = some xs) (hl : ws.length ≤ sizeLine) : asTup ws M = .ok (.d (.tuple xs)) M := by
  unfold asTup
  rw [if_pos hl, h]
@[simp] theorem asTup_nil : asTup [] M = .ok (.d (.tuple [])) M := asTup_d rfl (Nat.zero_le _)
@[simp] theorem asTup_1 {a : PyData} : asTup [.d a] M = .ok (.d (.tuple [a])) M := asTup_d rfl (by show 1 ≤ sizeLine; decide)
@[simp] theorem asTup_2 {a b : PyData} : asTup [.d a, .d b] M = .ok (.d (.tuple [a, b])) M := asTup_d rfl (by show 2 ≤ sizeLine; decide)
@[simp] theorem asTup_3 {a b c : PyData} : asTup [.d a, .d b, .d c] M = .ok (.d (.tuple [a, b, c])) M := asTup_d rfl (by show 3 ≤ sizeLine; decide)
@[simp] theorem asTup_4 {a b c e : PyData} : asTup [.d a, .d b, .d c, .d e] M = .ok (.d (.tuple [a, b, c, e])) M := asTup_d rfl (by show 4 ≤ sizeLine; decide)
/-! isinstance -/
def asIsi (T : Ty) (o : Option PyData) (M : List MO) : Res W := match o with
  | some d => .ok (.d (.bool (isT T d))) M
  | none => .stuck
@[simp] theorem asIsi_s {T : Ty} : asIsi T (some x) M = .ok (.d (.bool (isT T x))) M := rfl
@[simp] theorem sIsi_e {T : Ty} {f : EF} : sIsi T f ρ M = (f ρ M).bind fun w M => asIsi T (vw M w) M := by
  unfold sIsi
  congr 1
/-! slices -/
@[simp] theorem oN_e : oN ρ M = .ok none M := rfl
def asO : W → List MO → Res (Option Int)
  | .d (.int i), M => .ok (some i) M
  | _, _ => .stuck
@[simp] theorem asO_i {i : Int} : asO (.d (.int i)) M = .ok (some i) M := rfl
@[simp] theorem oS_e {f : EF} : oS f ρ M = (f ρ M).bind asO := by
  unfold oS
  congr 1
  funext w M
  rcases w with (_ | _ | _ | _ | _ | _ | _) | _ | _ | _ | _ | _ | _ <;> rfl
@[simp] theorem sSl_e {f : EF} {lo hi : OF} : sSl f lo hi ρ M = (f ρ M).bind fun w M1 => (lo ρ M1).bind fun l M2 => (hi ρ M2).bind fun h M3 => asD ((vw M3 w).bind (slD l h)) M3 := by
  unfold sSl
  congr 1
  funext w M1
  congr 1
  funext l M2
  congr 1
  funext h M3
  cases vw M3 w with
  | none => rfl
  | some y =>
    show (match slD l h y with | some y => Res.ok (W.d y) M3 | none => .stuck) = asD (slD l h y) M3
    cases slD l h y <;> rfl
/-! stores -/
def Res.ag (r : Res W) (ρ : Rho) (gt : GF) : SR := match r with
  | .ok w M => match gt w ρ M with
    | some (ρ, M) => .nx ρ M
    | none => .stuck
  | .err e M => .er e ρ M
  | .stuck => .stuck
@[simp] theorem ag_ok {gt : GF} : (Res.ok w M).ag ρ gt = match gt w ρ M with | some (ρ, M) => .nx ρ M | none => .stuck := Eq.trans rfl rfl
@[simp] theorem sAsg_e {f : EF} {gt : GF} : sAsg f gt ρ M = (f ρ M).ag ρ gt := by
  unfold sAsg Res.ag
  cases f ρ M <;> rfl
@[simp] theorem gN_e {i : Nat} : gN i w ρ M = some (ρ.set i (some w), M) := rfl
@[simp] theorem gs_nil : gs [] [] ρ M = some (ρ, M) := rfl
@[simp] theorem gs_cons {t : GF} {ts : List GF} {ds : List PyData} : gs (t :: ts) (x :: ds) ρ M = match t (.d x) ρ M with | some (ρ, M) => gs ts ds ρ M | none => none := Eq.trans rfl rfl
@[simp] theorem gT_t {ts : List GF} {ds : List PyData} : gT ts (.d (.tuple ds)) ρ M = gs ts ds ρ M := Eq.trans rfl rfl
theorem gS_e {fo fi : EF} {n j : Nat} {k : Int} {M1 M2 : List MO} {ds : List PyData} (h1 : fo ρ M = .ok (.loc n) M1) (h2 : fi ρ M1 = .ok (.d (.int k)) M2) (h3 : M2[n]? = some (.lst ds)) (h4 : ixN ds.length k = some j) : gS fo fi (.d x) ρ M = some (ρ, M2.set n (.lst (ds.set j x))) := by
  unfold gS
  rw [h1]
  simp only [h2, h3, h4]
@[simp] theorem sPar2_e {i j : Nat} : sPar2 i j fs ρ M = match evs fs ρ M with | .ok [w1, w2] M1 => .nx ((ρ.set i (some w1)).set j (some w2)) M1 | .err e M1 => .er e ρ M1 | _ => .stuck := rfl
@[simp] theorem sPar3_e {i j l : Nat} : sPar3 i j l fs ρ M = match evs fs ρ M with | .ok [w1, w2, w3] M1 => .nx (((ρ.set i (some w1)).set j (some w2)).set l (some w3)) M1 | .err e M1 => .er e ρ M1 | _ => .stuck := rfl
end

/-! ### loops -/
section
variable {gt : GF} {body : SF} {ρ ρ' : Rho} {M M' : List MO} {ds : List PyData} {d : PyData} {f : EF} {fs : List EF} {w : W}
@[simp] theorem forL_nil : forL gt body [] ρ M = .nx ρ M := rfl
def SR.nxt (r : SR) (k : SF) : SR := match r with
  | .nx ρ M => k ρ M
  | .ct ρ M => k ρ M
  | .bk ρ M => .nx ρ M
  | r => r
@[simp] theorem nxt_nx {k : SF} : (SR.nx ρ M).nxt k = k ρ M := Eq.trans rfl rfl
@[simp] theorem nxt_ct {k : SF} : (SR.ct ρ M).nxt k = k ρ M := Eq.trans rfl rfl
@[simp] theorem nxt_bk {k : SF} : (SR.bk ρ M).nxt k = .nx ρ M := rfl
@[simp] theorem nxt_ret {k : SF} : (SR.ret w M).nxt k = .ret w M := rfl
theorem forL_cons : forL gt body (d :: ds) ρ M = match gt (.d d) ρ M with | some (ρ1, M1) => (body ρ1 M1).nxt (forL gt body ds) | none => .stuck := by
  show (match gt (.d d) ρ M with | some (ρ1, M1) => (match body ρ1 M1 with | .nx ρ2 M2 => forL gt body ds ρ2 M2 | .ct ρ2 M2 => forL gt body ds ρ2 M2 | .bk ρ2 M2 => SR.nx ρ2 M2 | r => r) | none => .stuck) = _
  rcases gt (.d d) ρ M with _ | ⟨ρ1, M1⟩
  · rfl
  · show (match body ρ1 M1 with | .nx ρ2 M2 => forL gt body ds ρ2 M2 | .ct ρ2 M2 => forL gt body ds ρ2 M2 | .bk ρ2 M2 => SR.nx ρ2 M2 | r => r) = (body ρ1 M1).nxt _
    cases body ρ1 M1 <;> rfl
/-- a loop's invariant -/
theorem forL_inv (I : Rho → List MO → Prop) (P : PyData → Prop) (hb : ∀ d ρ M, P d → I ρ M → ∃ ρ1 M1, gt (.d d) ρ M = some (ρ1, M1) ∧ ∃ ρ2 M2, body ρ1 M1 = .nx ρ2 M2 ∧ I ρ2 M2) : ∀ {ds : List PyData} {ρ : Rho} {M : List MO}, (∀ d ∈ ds, P d) → I ρ M →
    ∃ ρ' M', forL gt body ds ρ M = .nx ρ' M' ∧ I ρ' M'
  | [], ρ, M, _, h => ⟨ρ, M, rfl, h⟩
  | d :: ds, ρ, M, hP, h => by
    obtain ⟨ρ1, M1, e1, ρ2, M2, e2, h2⟩ := hb d ρ M (hP d List.mem_cons_self) h
    obtain ⟨ρ', M', e3, h3⟩ := forL_inv I P hb (ds := ds) (fun x hx => hP x (List.mem_cons_of_mem _ hx)) h2
    refine ⟨ρ', M', ?_, h3⟩
    rw [forL_cons, e1]
    simp only [e2, nxt_nx, e3]
def Res.fo (r : Res (List PyData)) (ρ : Rho) (k : List PyData → SF) : SR := match r with
  | .ok ds M => k ds ρ M
  | .err e M => .er e ρ M
  | .stuck => .stuck
@[simp] theorem fo_ok {k : List PyData → SF} : (Res.ok ds M).fo ρ k = k ds ρ M := Eq.trans rfl rfl
@[simp] theorem sFor_e {it : IF} : sFor it gt body ρ M = (it ρ M).fo ρ (forL gt body) := by
  unfold sFor Res.fo
  cases it ρ M <;> rfl
def asIt : W → List MO → Res (List PyData)
  | .d (.list ds), M => .ok ds M
  | .d (.tuple ds), M => .ok ds M
  | .d (.str s), M => .ok (chs s) M
  | _, _ => .stuck
@[simp] theorem asIt_l : asIt (.d (.list ds)) M = .ok ds M := rfl
@[simp] theorem asIt_t : asIt (.d (.tuple ds)) M = .ok ds M := rfl
@[simp] theorem asIt_s {a : List Nat} : asIt (.d (.str (S a))) M = .ok (sg a) M := by show Res.ok (chs (S a)) M = _; rw [chs_S]
@[simp] theorem itD_e : itD f ρ M = (f ρ M).bind asIt := by
  unfold itD
  congr 1
  funext w M
  rcases w with (_ | _ | _ | _ | _ | _ | _) | _ | _ | _ | _ | _ | _ <;> rfl
def asR1 : List W → List MO → Res (List PyData)
  | [.d (.int j)], M => if -(2 ^ 62) ≤ j ∧ j < 2 ^ 62 then .ok (rng 0 j.toNat) M else .stuck
  | _, _ => .stuck
theorem asR1_i {j : Int} : asR1 [.d (.int j)] M = if -(2 ^ 62) ≤ j ∧ j < 2 ^ 62 then .ok (rng 0 j.toNat) M else .stuck := rfl
@[simp] theorem asR1_c {j : Int} (h : -1000000 ≤ j ∧ j ≤ 1000000) : asR1 [.d (.int j)] M = .ok (rng 0 j.toNat) M := by
  rw [asR1_i, if_pos (by omega)]
@[simp] theorem itR1_e : itR1 fs ρ M = (evs fs ρ M).bind asR1 := by
  unfold itR1
  congr 1
  funext ws M
  unfold asR1
  split
  · rfl
  · split
    · simp_all
    · rfl
def asR2 : List W → List MO → Res (List PyData)
  | [.d (.int i), .d (.int j)], M => if -(2 ^ 62) ≤ i ∧ i < 2 ^ 62 ∧ -(2 ^ 62) ≤ j ∧ j < 2 ^ 62 then .ok (rng i (j - i).toNat) M else .stuck
  | _, _ => .stuck
theorem asR2_i {i j : Int} : asR2 [.d (.int i), .d (.int j)] M = if -(2 ^ 62) ≤ i ∧ i < 2 ^ 62 ∧ -(2 ^ 62) ≤ j ∧ j < 2 ^ 62 then .ok (rng i (j - i).toNat) M else .stuck := rfl
@[simp] theorem asR2_c {i j : Int} (h : -1000000 ≤ i ∧ i ≤ 1000000) (h2 : -1000000 ≤ j ∧ j ≤ 1000000) : asR2 [.d (.int i), .d (.int j)] M = .ok (rng i (j - i).toNat) M := by
  rw [asR2_i, if_pos (by omega)]
@[simp] theorem itR2_e : itR2 fs ρ M = (evs fs ρ M).bind asR2 := by
  unfold itR2
  congr 1
  funext ws M
  unfold asR2
  split
  · rfl
  · split
    · simp_all
    · rfl
def asZ : List W → List MO → Res (List PyData)
  | [.d (.str x), .d (.str y)], M => .ok (prs (chs x) (chs y)) M
  | _, _ => .stuck
@[simp] theorem asZ_s {a b : List Nat} : asZ [.d (.str (S a)), .d (.str (S b))] M = .ok (prs (sg a) (sg b)) M := by show Res.ok (prs (chs (S a)) (chs (S b))) M = _; rw [chs_S, chs_S]
@[simp] theorem itZ_e : itZ fs ρ M = (evs fs ρ M).bind asZ := by
  unfold itZ itZS
  congr 1
  funext ws M
  unfold asZ
  split
  · rfl
  · split
    · simp_all
    · rfl
theorem mem_rng {lo : Int} {n : Nat} {d : PyData} (h : d ∈ rng lo n) : ∃ i : Int, d = .int i ∧ lo ≤ i ∧ i < lo + n := by
  unfold rng at h
  obtain ⟨i, hi, rfl⟩ := List.mem_map.mp h
  rw [List.mem_range] at hi
  exact ⟨_, rfl, by omega, by omega⟩
theorem rng_0 {lo : Int} : rng lo 0 = [] := rfl
theorem rng_cons {lo : Int} {n : Nat} : rng lo (n + 1) = .int lo :: rng (lo + 1) n := by
  unfold rng
  rw [List.range_succ_eq_map, List.map_cons, List.map_map]
  congr 1
  · simp
  · refine List.map_congr_left fun i _ => ?_
    show PyData.int _ = .int _
    congr 1
    simp
    omega
theorem forL_rng0 {lo : Int} (I : Nat → Rho → List MO → Prop) : ∀ (n j : Nat) {lo' : Int} {ρ : Rho} {M : List MO}, lo' = lo + (j : Int) → (∀ (i : Nat) (ρ : Rho) (M : List MO), j ≤ i → i < j + n → I i ρ M → ∃ ρ1 M1, gt (.d (.int (lo + (i : Int)))) ρ M = some (ρ1, M1) ∧ ∃ ρ2 M2, body ρ1 M1 = .nx ρ2 M2 ∧ I (i + 1) ρ2 M2) → I j ρ M →
    ∃ ρ' M', forL gt body (rng lo' n) ρ M = .nx ρ' M' ∧ I (j + n) ρ' M'
  | 0, j, _, ρ, M, _, _, h => ⟨ρ, M, by rw [rng_0, forL_nil], h⟩
  | n + 1, j, lo', ρ, M, e, hb, h => by
    obtain ⟨ρ1, M1, e1, ρ2, M2, e2, h2⟩ := hb j ρ M (Nat.le_refl _) (by omega) h
    obtain ⟨ρ', M', e3, h3⟩ := forL_rng0 I n (j + 1) (lo' := lo' + 1) (by rw [e]; omega) (fun i ρ M a b => hb i ρ M (by omega) (by omega)) h2
    refine ⟨ρ', M', ?_, by rw [show j + (n + 1) = j + 1 + n by omega]; exact h3⟩
    subst e
    rw [rng_cons, forL_cons, e1]
    simp only [e2, nxt_nx, e3]
/-- a loop over numbers, its invariant by the turn -/
theorem forL_rng {n : Nat} {ρ : Rho} {M : List MO} (I : Nat → Rho → List MO → Prop) (hb : ∀ (i : Nat) (ρ : Rho) (M : List MO), i < n → I i ρ M → ∃ ρ1 M1, gt (.d (.int (i : Int))) ρ M = some (ρ1, M1) ∧ ∃ ρ2 M2, body ρ1 M1 = .nx ρ2 M2 ∧ I (i + 1) ρ2 M2) (h : I 0 ρ M) :
    ∃ ρ' M', forL gt body (rng 0 n) ρ M = .nx ρ' M' ∧ I n ρ' M' := by
  obtain ⟨ρ', M', e, h'⟩ := forL_rng0 (gt := gt) (body := body) (lo := 0) I n 0 (lo' := 0) rfl (fun i ρ M _ b hi => by rw [Int.zero_add]; exact hb i ρ M (by omega) hi) h
  exact ⟨ρ', M', e, by rw [Nat.zero_add] at h'; exact h'⟩
/-! comprehensions -/
variable {tt : TF} {te : EF} {it : IF} {vs : List Nat}
def asLc (o : Option (List PyData × List MO)) : Res W := match o with
  | some (xs, M2) => .ok (.d (.list xs)) M2
  | none => .stuck
@[simp] theorem asLc_s {xs : List PyData} : asLc (some (xs, M)) = .ok (.d (.list xs)) M := Eq.trans rfl rfl
@[simp] theorem sLc_e : sLc it gt tt te vs ρ M = (it ρ M).bind fun ds M1 => if ds.length ≤ sizeLine then asLc (compL gt tt te (wip ρ vs) ds M1) else .stuck := by
  unfold sLc
  congr 1
@[simp] theorem wip_nil : wip ρ [] = ρ := rfl
@[simp] theorem wip_cons {v : Nat} : wip ρ (v :: vs) = (wip ρ vs).set v none := rfl
@[simp] theorem compL_nil : compL gt tt te ρ [] M = some ([], M) := rfl
theorem compL_cons : compL gt tt te ρ (d :: ds) M = match gt (.d d) ρ M with
    | some (ρ1, M1) => match tt ρ1 M1 with
      | .ok true M2 => match te ρ1 M2 with
        | .ok (.d x) M3 => match compL gt tt te ρ ds M3 with
          | some (xs, M4) => some (x :: xs, M4)
          | none => none
        | _ => none
      | .ok false M2 => compL gt tt te ρ ds M2
      | _ => none
    | none => none := rfl
/-- a comprehension that keeps the store: what is kept, what it becomes -/
theorem compL_pure (t : PyData → Bool) (f : PyData → PyData) : ∀ {ds : List PyData}, (∀ d ∈ ds, ∃ ρ1, gt (.d d) ρ M = some (ρ1, M) ∧ tt ρ1 M = .ok (t d) M ∧ (t d = true → te ρ1 M = .ok (.d (f d)) M)) → compL gt tt te ρ ds M = some ((ds.filter t).map f, M)
  | [], _ => rfl
  | d :: ds, h => by
    obtain ⟨ρ1, e1, e2, e3⟩ := h d List.mem_cons_self
    have ih := compL_pure t f (ds := ds) fun x hx => h x (List.mem_cons_of_mem _ hx)
    rw [compL_cons, e1]
    simp only [e2]
    cases q : t d with
    | true => simp [e3 q, ih, q]
    | false => simp [ih, q]
theorem compL_map (f : PyData → PyData) {ds : List PyData} (h : ∀ d ∈ ds, ∃ ρ1, gt (.d d) ρ M = some (ρ1, M) ∧ tt ρ1 M = .ok true M ∧ te ρ1 M = .ok (.d (f d)) M) : compL gt tt te ρ ds M = some (ds.map f, M) := by
  rw [compL_pure (fun _ => true) f fun d hd => let ⟨ρ1, a, b, c⟩ := h d hd; ⟨ρ1, a, b, fun _ => c⟩]
  rw [List.filter_eq_self.mpr fun _ _ => rfl]
/-- over the images of a list -/
theorem compL_on {α : Type} (h : α → PyData) (t : α → Bool) (f : α → PyData) : ∀ {l : List α}, (∀ a ∈ l, ∃ ρ1, gt (.d (h a)) ρ M = some (ρ1, M) ∧ tt ρ1 M = .ok (t a) M ∧ (t a = true → te ρ1 M = .ok (.d (f a)) M)) → compL gt tt te ρ (l.map h) M = some ((l.filter t).map f, M)
  | [], _ => rfl
  | a :: l, k => by
    obtain ⟨ρ1, e1, e2, e3⟩ := k a List.mem_cons_self
    have ih := compL_on h t f (l := l) fun x hx => k x (List.mem_cons_of_mem _ hx)
    rw [List.map_cons, compL_cons, e1]
    simp only [e2]
    cases q : t a with
    | true => simp [e3 q, ih, q]
    | false => simp [ih, q]
theorem compL_all {α : Type} (h : α → PyData) (f : α → PyData) {l : List α} (k : ∀ a ∈ l, ∃ ρ1, gt (.d (h a)) ρ M = some (ρ1, M) ∧ tt ρ1 M = .ok true M ∧ te ρ1 M = .ok (.d (f a)) M) : compL gt tt te ρ (l.map h) M = some (l.map f, M) := by
  rw [compL_on h (fun _ => true) f fun d hd => let ⟨ρ1, a, b, c⟩ := k d hd; ⟨ρ1, a, b, fun _ => c⟩]
  rw [List.filter_eq_self.mpr fun _ _ => rfl]
theorem prs_sg {a b : List Nat} : prs (sg a) (sg b) = (a.zip b).map fun p => .tuple [.str (S [p.1]), .str (S [p.2])] := by
  unfold prs sg
  rw [List.zip_map, List.map_map]
  rfl
inductive All2 {α β : Type} (Q : α → β → Prop) : List α → List β → Prop
  | nil : All2 Q [] []
  | cons {a : α} {b : β} {as : List α} {bs : List β} : Q a b → All2 Q as bs → All2 Q (a :: as) (b :: bs)
theorem All2.len {α β : Type} {Q : α → β → Prop} : ∀ {as : List α} {bs : List β}, All2 Q as bs → bs.length = as.length
  | _, _, .nil => rfl
  | _, _, .cons _ t => by rw [List.length_cons, List.length_cons, t.len]
theorem All2.all {α β : Type} {Q : α → β → Prop} {P : β → Prop} (h : ∀ a b, Q a b → P b) : ∀ {as : List α} {bs : List β}, All2 Q as bs → ∀ b ∈ bs, P b
  | _, _, .nil, _, hb => by simp at hb
  | _, _, .cons q t, b, hb => by
    rcases List.mem_cons.mp hb with rfl | hb
    · exact h _ _ q
    · exact All2.all h t b hb
/-- a comprehension that goes along with the store -/
theorem compL_inv (I : List MO → Prop) (Q : PyData → PyData → Prop) : ∀ {ds : List PyData} {M : List MO}, (∀ d ∈ ds, ∀ M, I M → ∃ ρ1 M1, gt (.d d) ρ M = some (ρ1, M1) ∧ ∃ x M3, tt ρ1 M1 = .ok true M1 ∧ te ρ1 M1 = .ok (.d x) M3 ∧ I M3 ∧ Q d x) → I M →
    ∃ xs M', compL gt tt te ρ ds M = some (xs, M') ∧ I M' ∧ All2 Q ds xs
  | [], M, _, h => ⟨[], M, rfl, h, .nil⟩
  | d :: ds, M, hb, h => by
    obtain ⟨ρ1, M1, e1, x, M3, e2, e3, h3, hx⟩ := hb d List.mem_cons_self M h
    obtain ⟨xs, M', e4, h4, hq⟩ := compL_inv I Q (ds := ds) (fun y hy => hb y (List.mem_cons_of_mem _ hy)) h3
    refine ⟨x :: xs, M', ?_, h4, .cons hx hq⟩
    rw [compL_cons, e1]
    simp only [e2, e3, e4]
end
end Y
namespace Y
open PySem PySem.Spec PyProof.Rows L2
/-! ### data that may be shown and compared -/
mutual
def nice : PyData → Bool
  | .none => true
  | .bool _ => true
  | .int i => decide (i.natAbs < 10 ^ 30)
  | .str s => s.cps.toList.all fun c => decide (c < 1114112)
  | .list ds => niceA ds
  | .tuple ds => niceA ds
  | .dict _ => false
def niceA : List PyData → Bool
  | [] => true
  | d :: ds => nice d && niceA ds
end
mutual
theorem nice_lay : ∀ d : PyData, nice d = true → d.canLay0 = true
  | .none, _ => rfl
  | .bool _, _ => rfl
  | .int _, _ => rfl
  | .str s, h => by
    have h' : s.cps.toList.all (fun c => decide (c < 1114112)) = true := h
    show s.cps.all (· < 0x110000) = true
    rw [← Array.all_toList]
    exact h'
  | .list ds, h => niceA_lay ds h
  | .tuple ds, h => niceA_lay ds h
  | .dict _, h => by cases h
theorem niceA_lay : ∀ ds : List PyData, niceA ds = true → PyData.canLayAll0 ds = true
  | [], _ => rfl
  | d :: ds, h => by
    have h' : nice d = true ∧ niceA ds = true := by simpa only [niceA, Bool.and_eq_true] using h
    simp only [PyData.canLayAll0, Bool.and_eq_true]
    exact ⟨nice_lay d h'.1, niceA_lay ds h'.2⟩
end
theorem natAbs_big {i : Int} (h : i.natAbs < 10 ^ 30) : i.natAbs.log2 < 1920 ∧ (PyData.shown (.int i)).length ≤ 40 := by
  refine ⟨?_, ?_⟩
  · by_cases h0 : i.natAbs = 0
    · rw [h0]; decide
    · have : i.natAbs < 2 ^ 1920 := Nat.lt_trans h (by decide +kernel)
      exact (Nat.log2_lt h0).mpr this
  · have e := int_text_length_le10 (k := 30) (by decide) h
    show (Str.ofString (toString i)).length ≤ 40
    rw [PySem.ofString_length]
    omega
mutual
theorem nice_show : ∀ d : PyData, nice d = true → d.showable = true ∧ d.hasDict = false ∧ d.leavesShort 40 = true
  | .none, _ => ⟨rfl, rfl, rfl⟩
  | .bool _, _ => ⟨rfl, rfl, rfl⟩
  | .int i, h => by
    have h' : i.natAbs < 10 ^ 30 := of_decide_eq_true h
    obtain ⟨a, b⟩ := natAbs_big h'
    exact ⟨decide_eq_true a, rfl, decide_eq_true b⟩
  | .str s, h => by
    have h' : s.cps.toList.all (fun c => decide (c < 1114112)) = true := h
    refine ⟨rfl, rfl, ?_⟩
    show s.cps.toList.all (fun c => decide (c < 16 ^ 8)) = true
    rw [List.all_eq_true] at h' ⊢
    intro c hc
    have := of_decide_eq_true (h' c hc)
    exact decide_eq_true (Nat.lt_trans this (by decide))
  | .list ds, h => by
    obtain ⟨a, b, c⟩ := niceA_show ds h
    exact ⟨by simpa only [PyData.showable] using a, by simpa only [PyData.hasDict] using b, by simpa only [PyData.leavesShort] using c⟩
  | .tuple ds, h => by
    obtain ⟨a, b, c⟩ := niceA_show ds h
    exact ⟨by simpa only [PyData.showable] using a, by simpa only [PyData.hasDict] using b, by simpa only [PyData.leavesShort] using c⟩
  | .dict _, h => by cases h
theorem niceA_show : ∀ ds : List PyData, niceA ds = true → PyData.showableAll ds = true ∧ PyData.hasDictAll ds = false ∧ PyData.leavesShortAll 40 ds = true
  | [], _ => ⟨rfl, rfl, rfl⟩
  | d :: ds, h => by
    have h' : nice d = true ∧ niceA ds = true := by simpa only [niceA, Bool.and_eq_true] using h
    obtain ⟨a, b, c⟩ := nice_show d h'.1
    obtain ⟨a', b', c'⟩ := niceA_show ds h'.2
    refine ⟨?_, ?_, ?_⟩
    · simp only [PyData.showableAll, a, a', Bool.and_self]
    · simp only [PyData.hasDictAll, b, b', Bool.or_self]
    · simp only [PyData.leavesShortAll, c, c', Bool.and_self]
end
/-- nice, shallow, light -/
structure Fine (d : PyData) : Prop where
  nice : nice d = true
  dep : d.depth ≤ 20
  wt : d.weight ≤ 200000
theorem Fine.shaped {d : PyData} (h : Fine d) : SeqAt.shaped d = true := by
  unfold SeqAt.shaped
  rw [nice_lay d h.nice, Bool.true_and]
  exact decide_eq_true (by have := h.dep; omega)
theorem Fine.show {d : PyData} (h : Fine d) : okShow d = true := by
  obtain ⟨a, b, c⟩ := nice_show d h.nice
  have e := PyData.shown_le 40 (by decide) d c
  have hw := h.wt
  unfold okShow
  rw [a, b, decide_eq_true (show d.depth ≤ 60 by have := h.dep; omega)]
  show (true && true && decide (d.shown.length ≤ sizeLine)) = true
  rw [decide_eq_true (by rw [sizeLine_eq]; omega)]
  rfl
theorem Fine.str {d : PyData} (h : Fine d) : ∃ z, pStr [d] = some (.str z) := by
  by_cases hs : ∃ z, d = .str z
  · obtain ⟨z, rfl⟩ := hs
    exact ⟨z, rfl⟩
  · refine ⟨d.shown, ?_⟩
    cases d with
    | str z => exact absurd ⟨z, rfl⟩ hs
    | none => exact if_pos (c := okShow _ = true) h.show (e := none)
    | bool b => exact if_pos (c := okShow _ = true) h.show (e := none)
    | int b => exact if_pos (c := okShow _ = true) h.show (e := none)
    | list b => exact if_pos (c := okShow _ = true) h.show (e := none)
    | tuple b => exact if_pos (c := okShow _ = true) h.show (e := none)
    | dict b => exact if_pos (c := okShow _ = true) h.show (e := none)
theorem weightA_le {B : Nat} : ∀ {ds : List PyData}, (∀ d ∈ ds, d.weight ≤ B) → PyData.weightAll ds ≤ ds.length * (B + 1)
  | [], _ => Nat.zero_le _
  | d :: ds, h => by
    have h1 := h d List.mem_cons_self
    have h2 := weightA_le (B := B) (ds := ds) fun x hx => h x (List.mem_cons_of_mem _ hx)
    simp only [PyData.weightAll, List.length_cons, Nat.add_mul, Nat.one_mul]
    omega
theorem depthA_le {B : Nat} : ∀ {ds : List PyData}, (∀ d ∈ ds, d.depth ≤ B) → PyData.depthAll ds ≤ B
  | [], _ => Nat.zero_le _
  | d :: ds, h => by
    have h1 := h d List.mem_cons_self
    have h2 := depthA_le (B := B) (ds := ds) fun x hx => h x (List.mem_cons_of_mem _ hx)
    simp only [PyData.depthAll]
    omega
theorem niceA_of : ∀ {ds : List PyData}, (∀ d ∈ ds, nice d = true) → niceA ds = true
  | [], _ => rfl
  | d :: ds, h => by
    simp only [niceA, Bool.and_eq_true]
    exact ⟨h d List.mem_cons_self, niceA_of fun x hx => h x (List.mem_cons_of_mem _ hx)⟩
/-- small pieces: B the weight, D the depth -/
structure Sm (D B : Nat) (d : PyData) : Prop where
  nice : nice d = true
  dep : d.depth ≤ D
  wt : d.weight ≤ B
theorem Sm.mono {D B D' B' : Nat} {d : PyData} (h : Sm D B d) (h1 : D ≤ D') (h2 : B ≤ B') : Sm D' B' d := ⟨h.nice, Nat.le_trans h.dep h1, Nat.le_trans h.wt h2⟩
theorem Sm.fine {D B : Nat} {d : PyData} (h : Sm D B d) (h1 : D ≤ 20) (h2 : B ≤ 200000) : Fine d := ⟨h.nice, Nat.le_trans h.dep h1, Nat.le_trans h.wt h2⟩
theorem Sm.list {D B n : Nat} {ds : List PyData} (h : ∀ d ∈ ds, Sm D B d) (hn : ds.length ≤ n) : Sm (D + 1) (n * (B + 1)) (.list ds) :=
  ⟨niceA_of fun d hd => (h d hd).nice, by
    have := depthA_le fun d hd => (h d hd).dep
    simp only [PyData.depth]
    omega, by
    have h1 := weightA_le fun d hd => (h d hd).wt
    have h2 : ds.length * (B + 1) ≤ n * (B + 1) := Nat.mul_le_mul_right _ hn
    simp only [PyData.weight]
    omega⟩
theorem Sm.tuple {D B n : Nat} {ds : List PyData} (h : ∀ d ∈ ds, Sm D B d) (hn : ds.length ≤ n) : Sm (D + 1) (n * (B + 1)) (.tuple ds) :=
  ⟨niceA_of fun d hd => (h d hd).nice, by
    have := depthA_le fun d hd => (h d hd).dep
    simp only [PyData.depth]
    omega, by
    have h1 := weightA_le fun d hd => (h d hd).wt
    have h2 : ds.length * (B + 1) ≤ n * (B + 1) := Nat.mul_le_mul_right _ hn
    simp only [PyData.weight]
    omega⟩
theorem Sm.str {a : List Nat} {n : Nat} (h : ∀ c ∈ a, c < 1114112) (hn : a.length ≤ n) : Sm 0 n (.str (S a)) :=
  ⟨by
    show (S a).cps.toList.all _ = true
    rw [S_toList, List.all_eq_true]
    exact fun c hc => decide_eq_true (h c hc), Nat.le_refl _, by
    show (S a).cps.size ≤ n
    rw [S_size]; exact hn⟩
theorem Sm.none : Sm 0 0 .none := ⟨rfl, Nat.le_refl _, Nat.le_refl _⟩
theorem Sm.bool {b : Bool} : Sm 0 0 (.bool b) := ⟨rfl, Nat.le_refl _, Nat.le_refl _⟩
theorem Sm.int {i : Int} (h : i.natAbs < 10 ^ 30) : Sm 0 100 (.int i) :=
  ⟨decide_eq_true h, Nat.le_refl _, by
    show (if i == 0 then 0 else i.natAbs.log2 + 1) ≤ 100
    split
    · omega
    · rename_i h0
      have h0' : i.natAbs ≠ 0 := by
        intro z
        apply h0
        rw [beq_iff_eq]
        omega
      have : i.natAbs < 2 ^ 100 := Nat.lt_trans h (by decide +kernel)
      have := (Nat.log2_lt h0').mpr this
      omega⟩
theorem sg_sm {a : List Nat} (h : ∀ c ∈ a, c < 1114112) : ∀ d ∈ sg a, Sm 0 1 d := fun d hd => by
  obtain ⟨c, hc, rfl⟩ := List.mem_map.mp hd
  exact Sm.str (fun x hx => by rw [List.mem_singleton.mp hx]; exact h c hc) (Nat.le_refl _)
@[simp] theorem sg_len {a : List Nat} : (sg a).length = a.length := by simp [sg]
@[simp] theorem shaped_sg {a : List Nat} (h : ∀ c ∈ a, c < 1114112) : SeqAt.shaped (.str (S a)) = true := by
  unfold SeqAt.shaped
  rw [nice_lay (.str (S a)) (Sm.str h (Nat.le_refl _)).nice]
  rfl
@[simp] theorem shaped_i {i : Int} : SeqAt.shaped (.int i) = true := by
  unfold SeqAt.shaped
  rfl
@[simp] theorem shaped_b {b : Bool} : SeqAt.shaped (.bool b) = true := by
  unfold SeqAt.shaped
  rfl
@[simp] theorem shaped_n : SeqAt.shaped .none = true := rfl
@[simp] theorem shaped_nil : SeqAt.shaped (.list []) = true := rfl
theorem shaped_of {d : PyData} (h : nice d = true) (h2 : d.depth ≤ 64) : SeqAt.shaped d = true := by
  unfold SeqAt.shaped
  rw [nice_lay d h, Bool.true_and]
  exact decide_eq_true h2
theorem shaped_sgl {a : List Nat} (h : ∀ c ∈ a, c < 1114112) : SeqAt.shaped (.list (sg a)) = true := by
  have q := Sm.list (n := a.length) (sg_sm h) (by rw [sg_len]; exact Nat.le_refl _)
  exact shaped_of q.nice (by have := q.dep; omega)
theorem eqv_nil {ds : List PyData} : PyData.eqv (.list ds) (.list []) = ds.isEmpty := by
  cases ds <;> rfl
@[simp] theorem atI_e {α : Type} {xs : List α} {i : Int} (h0 : 0 ≤ i) : atI xs i = xs[i.toNat]? := by
  unfold atI ixN
  rw [if_pos h0]
  by_cases h : i < xs.length
  · rw [if_pos h]; rfl
  · rw [if_neg h, List.getElem?_eq_none (by omega)]
    rfl
theorem atI_mem {α : Type} {xs : List α} {i : Int} (h0 : 0 ≤ i) (h1 : i < xs.length) : ∃ x, atI xs i = some x ∧ x ∈ xs := by
  rw [atI_e h0]
  have : i.toNat < xs.length := by omega
  exact ⟨xs[i.toNat], List.getElem?_eq_getElem this, List.getElem_mem this⟩
/-- the signs that are not among a -/
theorem bad_signs {a l : List Nat} {gt : GF} {tt : TF} {te : EF} {ρ : Rho} {M : List MO} (hc : ∀ c ∈ l, c < 1114112) (h : ∀ c ∈ l, ∃ ρ1, gt (.d (.str (S [c]))) ρ M = some (ρ1, M) ∧ tt ρ1 M = .ok (!inS a c) M ∧ te ρ1 M = .ok (.d (.str (S [c]))) M) :
    ∃ F, compL gt tt te ρ (sg l) M = some (sg F, M) ∧ SeqAt.shaped (.list (sg F)) = true ∧ (sg F).isEmpty = l.all (inS a) := by
  refine ⟨l.filter fun c => !inS a c, ?_, shaped_sgl fun c hc' => hc c (List.mem_filter.mp hc').1, ?_⟩
  · unfold sg
    exact compL_on _ _ _ fun c hc' => let ⟨ρ1, e1, e2, e3⟩ := h c hc'; ⟨ρ1, e1, e2, fun _ => e3⟩
  · rw [Bool.eq_iff_iff, List.isEmpty_iff, List.all_eq_true]
    unfold sg
    rw [List.map_eq_nil_iff, List.filter_eq_nil_iff]
    simp
theorem Fine.txt {l : List Nat} (h : Fine (.str (S l))) : l.length ≤ 200000 ∧ ∀ c ∈ l, c < 1114112 := by
  refine ⟨?_, ?_⟩
  · have := h.wt
    have e : PyData.weight (.str (S l)) = l.length := by show (S l).cps.size = _; rw [S_size]
    omega
  · have h := h.nice
    replace h : (S l).cps.toList.all (fun c => decide (c < 1114112)) = true := h
    rw [S_toList, List.all_eq_true] at h
    exact fun c hc => of_decide_eq_true (h c hc)
theorem pInt_str {a : List Nat} {i : Int} (h : intText? (S a) = some i) (hl : a.length ≤ 640) : pInt [.str (S a)] = some (.int i) := by
  show (if (S a).length ≤ 640 then (match intText? (S a) with | some n => some (PyData.int n) | none => none) else none) = _
  rw [S_len, if_pos hl, h]
theorem szT {n : Nat} (h : n ≤ 16777216) : (n ≤ sizeLine) = True := eq_true (by rw [sizeLine_eq]; omega)
theorem slT {n : Nat} (h : n < 16777216) : (n < sizeLine) = True := eq_true (by rw [sizeLine_eq]; omega)
/-- signs and length -/
structure OkS (n : Nat) (a : List Nat) : Prop where
  lt : ∀ c ∈ a, c < 1114112
  len : a.length ≤ n
theorem OkS.nil {n : Nat} : OkS n [] := ⟨(fun _ h => nomatch h), Nat.zero_le _⟩
theorem OkS.cons {n c : Nat} {a : List Nat} (h : c < 1114112) (k : OkS n a) : OkS (n + 1) (c :: a) := ⟨fun x hx => by
  rcases List.mem_cons.mp hx with rfl | hx
  · exact h
  · exact k.lt x hx, Nat.succ_le_succ k.len⟩
theorem OkS.app {n m : Nat} {a b : List Nat} (h : OkS n a) (k : OkS m b) : OkS (n + m) (a ++ b) := ⟨fun x hx => by
  rcases List.mem_append.mp hx with hx | hx
  · exact h.lt x hx
  · exact k.lt x hx, by rw [List.length_append]; have := h.len; have := k.len; omega⟩
theorem OkS.cut {n : Nat} {a : List Nat} {lo hi : Option Int} (h : OkS n a) : OkS n (cutL a lo hi) := ⟨fun x hx => h.lt x (List.mem_of_mem_drop (List.mem_of_mem_take hx)), by
  have := h.len
  unfold cutL
  rw [List.length_take, List.length_drop]
  omega⟩
theorem OkS.mono {n m : Nat} {a : List Nat} (h : OkS n a) (k : n ≤ m) : OkS m a := ⟨h.lt, Nat.le_trans h.len k⟩
theorem OkS.rep {n m : Nat} {a : List Nat} (h : OkS n a) : OkS (m * n) (List.replicate m a).flatten := ⟨fun x hx => by
  rw [List.mem_flatten] at hx
  obtain ⟨l, hl, hx⟩ := hx
  rw [(List.mem_replicate.mp hl).2] at hx
  exact h.lt x hx, by
  rw [List.length_flatten, List.map_replicate, List.sum_replicate_nat]
  exact Nat.mul_le_mul_left _ h.len⟩
theorem OkS.sm {n : Nat} {a : List Nat} (h : OkS n a) : Sm 0 n (.str (S a)) := Sm.str h.lt h.len
@[simp] theorem cut_len {α : Type} {xs : List α} {lo hi : Option Int} : (cutL xs lo hi).length ≤ xs.length := by
  unfold cutL
  rw [List.length_take, List.length_drop]
  omega
theorem sz {n : Nat} (h : n ≤ 16777216) : n ≤ sizeLine := by rw [sizeLine_eq]; omega
theorem niceA_mem : ∀ {ds : List PyData}, niceA ds = true → ∀ d ∈ ds, nice d = true
  | [], _, _, h => by cases h
  | x :: ds, h, d, hd => by
    simp only [niceA, Bool.and_eq_true] at h
    rcases List.mem_cons.mp hd with rfl | hd
    · exact h.1
    · exact niceA_mem h.2 d hd
theorem depthA_mem : ∀ {ds : List PyData}, ∀ d ∈ ds, d.depth ≤ PyData.depthAll ds
  | [], _, h => by cases h
  | x :: ds, d, hd => by
    simp only [PyData.depthAll]
    rcases List.mem_cons.mp hd with rfl | hd
    · omega
    · have := depthA_mem d hd; omega
theorem weightA_len : ∀ {ds : List PyData}, ds.length ≤ PyData.weightAll ds
  | [] => Nat.zero_le _
  | x :: ds => by
    have := weightA_len (ds := ds)
    simp only [PyData.weightAll, List.length_cons]
    omega
theorem Fine.tl {ds : List PyData} (h : Fine (.tuple ds)) : ds.length ≤ 200000 := by
  have := h.wt
  have := weightA_len (ds := ds)
  simp only [PyData.weight] at *
  omega
theorem Fine.tf {ds : List PyData} (h : Fine (.tuple ds)) (f : PyData → Bool) : SeqAt.shaped (.list (ds.filter f)) = true := by
  have h1 : niceA ds = true := h.nice
  have h2 := h.dep
  simp only [PyData.depth] at h2
  refine shaped_of (show niceA (ds.filter f) = true from niceA_of fun d hd => niceA_mem h1 d (List.mem_filter.mp hd).1) ?_
  have := depthA_le (B := 20) (ds := ds.filter f) fun d hd => by have := depthA_mem d (List.mem_filter.mp hd).1; omega
  simp only [PyData.depth]
  omega
theorem Fine.mem {ds : List PyData} (h : Fine (.tuple ds)) {d : PyData} (hd : d ∈ ds) : Fine d := by
  have h1 : niceA ds = true := h.nice
  have h2 := h.dep
  have h3 := h.wt
  simp only [PyData.depth, PyData.weight] at h2 h3
  have hw : ∀ {ds : List PyData}, d ∈ ds → d.weight ≤ PyData.weightAll ds := by
    intro ds
    induction ds with
    | nil => intro h; cases h
    | cons x r ih =>
      intro h
      simp only [PyData.weightAll]
      rcases List.mem_cons.mp h with rfl | h
      · omega
      · have := ih h; omega
  exact ⟨niceA_mem h1 d hd, by have := depthA_mem d hd; omega, by have := hw hd; omega⟩
end Y
namespace Y
open PySem PySem.Spec PyProof.Rows L2
section
variable {mf : MF} {n i : Nat} {M M' J : List MO} {w : W} {x : PyData} {ws : List W} {ρ ρ' : Rho} {fs : List EF} {f : EF} {e : Ex} {xs : List Str} {q : XK} {fb fh : SF} {ds es : List PyData} {kvs : List (Str × PyData)}
@[simp] theorem sRaise_e {c : Str} : sRaise c ρ M = .er ⟨c, none⟩ ρ M := rfl
def SR.tr (r : SR) (xs : List Str) (i : Nat) (fh : SF) : SR := match r with
  | .er e ρ1 M1 => if e.c ∈ xs then match fh (ρ1.set i (some (.exc e))) M1 with
      | .nx ρ2 M2 => .nx (ρ2.set i none) M2
      | .bk ρ2 M2 => .bk (ρ2.set i none) M2
      | .ct ρ2 M2 => .ct (ρ2.set i none) M2
      | .ret w M2 => .ret w M2
      | _ => .stuck
    else .stuck
  | r => r
@[simp] theorem sTry_e : sTry xs i fb fh ρ M = (fb ρ M).tr xs i fh := by
  unfold sTry SR.tr
  cases fb ρ M <;> rfl
@[simp] theorem tr_nx : (SR.nx ρ M).tr xs i fh = .nx ρ M := rfl
@[simp] theorem tr_ret : (SR.ret w M).tr xs i fh = .ret w M := rfl
theorem tr_er {j : Nat} (h : e.c ∈ xs) (hi : ρ.length > i) (hij : i ≠ j) : (SR.er e ρ M).tr xs i (sSet j (sV i)) = .nx (((ρ.set i (some (.exc e))).set j (some (.exc e))).set i none) M := by
  unfold SR.tr
  simp only [if_pos h, sSet_e, sV_e, List.getElem?_set_self hi, optW_s, th_ok]
def asX (xs : List Str) (q : XK) : W → List MO → Res W
  | .exc e, M => if e.c ∈ xs then .ok (.d (.bool (q.of e))) M else .stuck
  | .d _, M => .ok (.d (.bool false)) M
  | _, _ => .stuck
@[simp] theorem sIsX_e : sIsX xs q f ρ M = (f ρ M).bind (asX xs q) := by
  unfold sIsX
  congr 1
  funext w M
  cases w <;> rfl
@[simp] theorem asX_d : asX xs q (.d x) M = .ok (.d (.bool false)) M := rfl
theorem asX_x {c : Str} {l : Option Int} (h : c ∈ xs) : asX xs q (.exc ⟨c, l⟩) M = .ok (.d (.bool (q.of ⟨c, l⟩))) M := if_pos h
@[simp] theorem sPr_nx {k : Bool} : sPr (pIsNX k) fs ρ M = (evs fs ρ M).bind fun ws M1 => ans (pIsNX k ws M1) := sPr_e
@[simp] theorem pIsNX_x {k : Bool} : pIsNX k [.exc e] M = some (.d (.bool (!k)), M) := rfl
@[simp] theorem pIsNX_n {k : Bool} : pIsNX k [.d .none] M = some (.d (.bool (true == k)), M) := rfl
@[simp] theorem itZL_e : itZL fs ρ M = (evs fs ρ M).bind asZL := Eq.trans rfl rfl
@[simp] theorem asZL_l : asZL [.d (.list ds), .d (.list es)] M = .ok (prs ds es) M := rfl
@[simp] theorem asZL_t : asZL [.d (.tuple ds), .d (.tuple es)] M = .ok (prs ds es) M := rfl
@[simp] theorem itEL_e : itEL fs ρ M = (evs fs ρ M).bind asEL := Eq.trans rfl rfl
@[simp] theorem asEL_l : asEL [.d (.list ds)] M = .ok (enu ds) M := rfl
@[simp] theorem asEL_t : asEL [.d (.tuple ds)] M = .ok (enu ds) M := rfl
@[simp] theorem itES_e : itES fs ρ M = (evs fs ρ M).bind asES := Eq.trans rfl rfl
@[simp] theorem asES_s {a : List Nat} : asES [.d (.str (S a))] M = .ok (enu (sg a)) M := by show Res.ok (enu (chs (S a))) M = _; rw [chs_S]
@[simp] theorem prs_nil : prs [] es = [] := rfl
@[simp] theorem prs_cons {a b : PyData} : prs (a :: ds) (b :: es) = .tuple [a, b] :: prs ds es := rfl
/-- a call that raises, data alone -/
theorem callF_dr (h : mf ws [] = .err e J) (hl : ws.length = n := by rfl) (hd : ws.all W.dat = true := by rfl) : callF mf n ws M = .err e M := by
  obtain ⟨h1, h2, h3⟩ := dat_all hd
  unfold callF
  rw [h2, h3, if_pos ⟨hl, h1, List.nodup_nil⟩]
  show freeze M [] (mf ws []) = _
  rw [h]
  unfold freeze
  simp only [List.length_nil, List.take_zero, dataOnly, if_true]
  rfl
/-! lists -/
theorem pCountL_e {d : PyData} (h1 : SeqAt.shaped (.list ds) = true) (h2 : SeqAt.shaped d = true) : pCountL [.list ds, d] = some (.int ((ds.countP fun z => PyData.eqv z d : Nat) : Int)) := if_pos ⟨h1, h2⟩
theorem pIndexL_e {d : PyData} (h1 : SeqAt.shaped (.list ds) = true) (h2 : SeqAt.shaped d = true) : pIndexL [.list ds, d] = (findJ ds d).map fun j => .int (j : Nat) := if_pos ⟨h1, h2⟩
@[simp] theorem tyW_dl : tyW .list M (.d (.list ds)) = true := rfl
/-! the module's dicts -/
@[simp] theorem sKIn_e {b : Bool} : sKIn kvs b f ρ M = (f ρ M).bind (asKIn kvs b) := Eq.trans rfl rfl
@[simp] theorem asKIn_e {b : Bool} {z : Str} : asKIn kvs b (.d (.str z)) M = .ok (.d (.bool ((kvs.lookup z).isSome == b))) M := rfl
def flatO : Option PyData → Option PyData
  | some d => if flatD d = true then some d else none
  | none => none
@[simp] theorem flatO_i {i : Int} : flatO (some (.int i)) = some (.int i) := rfl
@[simp] theorem flatO_s {x : Str} : flatO (some (.str x)) = some (.str x) := rfl
@[simp] theorem asKGet_e {z : Str} : asKGet kvs (.d (.str z)) M = asD (flatO (kvs.lookup z)) M := by
  show (match kvs.lookup z with | some d => if flatD d = true then Res.ok (W.d d) M else .stuck | none => .stuck) = _
  cases kvs.lookup z with
  | none => rfl
  | some d =>
    unfold flatO
    by_cases h : flatD d = true
    · simp only [h, if_true, asD_s]
    · simp only [h, if_false, asD_n, Bool.false_eq_true]
@[simp] theorem sKGet_e : sKGet kvs f ρ M = (f ρ M).bind (asKGet kvs) := Eq.trans rfl rfl
end
/-! comprehensions as a whole -/
section
variable {it : IF} {gt : GF} {tt : TF} {te : EF} {vs : List Nat} {ρ : Rho} {M : List MO}
theorem lc_on {α : Type} (h : α → PyData) (t : α → Bool) (f : α → PyData) {l : List α} (hi : it ρ M = .ok (l.map h) M) (hl : l.length ≤ 16777216)
    (k : ∀ a ∈ l, ∃ ρ1, gt (.d (h a)) (wip ρ vs) M = some (ρ1, M) ∧ tt ρ1 M = .ok (t a) M ∧ (t a = true → te ρ1 M = .ok (.d (f a)) M)) : sLc it gt tt te vs ρ M = .ok (.d (.list ((l.filter t).map f))) M := by
  have h1 : (l.map h).length ≤ sizeLine := by rw [List.length_map]; exact sz hl
  rw [sLc_e, hi, bind_ok, if_pos h1, compL_on h t f k]
  rfl
theorem lc_all {α : Type} (h : α → PyData) (f : α → PyData) {l : List α} (hi : it ρ M = .ok (l.map h) M) (hl : l.length ≤ 16777216)
    (k : ∀ a ∈ l, ∃ ρ1, gt (.d (h a)) (wip ρ vs) M = some (ρ1, M) ∧ tt ρ1 M = .ok true M ∧ te ρ1 M = .ok (.d (f a)) M) : sLc it gt tt te vs ρ M = .ok (.d (.list (l.map f))) M := by
  have h1 : (l.map h).length ≤ sizeLine := by rw [List.length_map]; exact sz hl
  rw [sLc_e, hi, bind_ok, if_pos h1, compL_all h f k]
  rfl
end
/-- the loop over the script's cells -/
theorem cells {ns : List Int} {f1 : SF} {lo hi : Int} (h0 : 0 ≤ lo ∧ lo ≤ 1000) (h1 : 0 ≤ hi ∧ hi ≤ 1000) (I : Rho → List MO → Prop) {ρ0 : Rho} (hs : ρ0[0]? = some (some (.scr ns))) (hI : I ρ0 [])
    (step : ∀ (k : Int) (ρ : Rho) (N : List MO), 0 ≤ k → I ρ N → ∃ ρ2 M2, f1 (ρ.set 1 (some (.d (.int k)))) N = .nx ρ2 M2 ∧ I ρ2 M2) :
    ∃ ρ' M', sFor (itR1 [(sPr (dpr pMax) [(sC (.int lo)), (sPr (dpr pMin) [(sPr pLenS [(sV 0)]), (sC (.int hi))])])]) (gN 1) f1 ρ0 [] = .nx ρ' M' ∧ I ρ' M' := by
  obtain ⟨m, hm, m0, m1⟩ : ∃ m : Int, m = (if (if hi < (ns.length : Int) then hi else (ns.length : Int)) > lo then (if hi < (ns.length : Int) then hi else (ns.length : Int)) else lo) ∧ 0 ≤ m ∧ m ≤ 1000 := by
    refine ⟨_, rfl, ?_, ?_⟩ <;> split <;> split <;> omega
  obtain ⟨ρ', M', e, h⟩ := forL_inv (gt := gN 1) (body := f1) I (fun d => ∃ k : Int, d = .int k ∧ 0 ≤ k)
    (fun d ρ N ⟨k, hd, k0⟩ hi => by
      subst hd
      exact ⟨_, _, rfl, step k ρ N k0 hi⟩)
    (ds := rng 0 m.toNat) (ρ := ρ0) (M := []) (fun d hd => by obtain ⟨i, rfl, a, b⟩ := mem_rng hd; exact ⟨i, rfl, a⟩) hI
  have q2 : (itR1 [(sPr (dpr pMax) [(sC (.int lo)), (sPr (dpr pMin) [(sPr pLenS [(sV 0)]), (sC (.int hi))])])]) ρ0 [] = .ok (rng 0 m.toNat) [] := by
    simp only [itR1_e, sPr_d, sPr_lenS, evs_cons, evs_nil, sC_e, sV_e, bind_ok, hs, optW_s, pLenS, ans_some, vws_cons, vws_nil, vw_d, Option.bind_some, Option.map_some, rd_s, pMin_i, asD_s, pMax_i]
    rw [← hm, asR1_c ⟨by omega, by omega⟩]
  refine ⟨ρ', M', ?_, h⟩
  rw [sFor_e, q2, fo_ok, e]
theorem Fine.lmem {ds : List PyData} (h : Fine (.list ds)) {d : PyData} (hd : d ∈ ds) : Fine d := Fine.mem (ds := ds) ⟨h.nice, h.dep, h.wt⟩ hd
theorem Fine.llen {ds : List PyData} (h : Fine (.list ds)) : ds.length ≤ 200000 := Fine.tl (ds := ds) ⟨h.nice, h.dep, h.wt⟩
theorem shaped_sts {ls : List (List Nat)} (h : ∀ l ∈ ls, ∀ c ∈ l, c < 1114112) : SeqAt.shaped (.list (sts ls)) = true := by
  refine shaped_of (show niceA _ = true from niceA_of fun d hd => ?_) ?_
  · obtain ⟨l, hl, rfl⟩ := List.mem_map.mp hd
    exact (Sm.str (h l hl) (Nat.le_refl _)).nice
  · have := depthA_le (B := 0) (ds := sts ls) fun d hd => by
      obtain ⟨l, hl, rfl⟩ := List.mem_map.mp hd
      exact Nat.le_refl _
    simp only [PyData.depth]
    omega
theorem eqvA_sts : ∀ {a b : List (List Nat)}, PyData.eqvAll (sts a) (sts b) = decide (a = b)
  | [], [] => rfl
  | [], y :: b => rfl
  | x :: a, [] => rfl
  | x :: a, y :: b => by
    show (PyData.eqv (.str (S x)) (.str (S y)) && PyData.eqvAll (sts a) (sts b)) = _
    rw [eqv_s, eqvA_sts, ← Bool.decide_and]
    exact decide_eq_decide.mpr (by rw [List.cons.injEq])
theorem eqv_sts {a b : List (List Nat)} : PyData.eqv (.list (sts a)) (.list (sts b)) = decide (a = b) := eqvA_sts
theorem eqv_stsT {a b : List (List Nat)} : PyData.eqv (.tuple (sts a)) (.tuple (sts b)) = decide (a = b) := eqvA_sts
theorem cut_from {α : Type} {xs : List α} {k : Nat} : cutL xs (some (k : Int)) none = xs.drop k := by
  unfold cutL HT.sIx
  have h0 : ¬ ((k : Int) < 0) := by omega
  simp only [h0, if_false, Int.toNat_natCast]
  by_cases h : k ≤ xs.length
  · rw [Nat.min_eq_left h, List.take_of_length_le (by rw [List.length_drop]; omega)]
  · rw [Nat.min_eq_right (by omega), List.drop_of_length_le (Nat.le_refl _), List.drop_of_length_le (by omega), List.take_nil]
theorem cut_to {α : Type} {xs : List α} {k : Nat} : cutL xs none (some (k : Int)) = xs.take k := by
  unfold cutL HT.sIx
  have h0 : ¬ ((k : Int) < 0) := by omega
  simp only [h0, if_false, Int.toNat_natCast, List.drop_zero, Nat.sub_zero]
  by_cases h : k ≤ xs.length
  · rw [Nat.min_eq_left h]
  · rw [Nat.min_eq_right (by omega), List.take_of_length_le (Nat.le_refl _), List.take_of_length_le (by omega)]
theorem drop1 {α : Type} {xs : List α} : cutL xs (some 1) none = xs.drop 1 := cut_from (k := 1)
theorem take1 {α : Type} {xs : List α} : cutL xs none (some 1) = xs.take 1 := cut_to (k := 1)
theorem take2 {α : Type} {xs : List α} : cutL xs none (some 2) = xs.take 2 := cut_to (k := 2)
theorem any_sts {x : List Nat} {ls : List (List Nat)} : (sts ls).any (fun z => PyData.eqv z (.str (S x))) = decide (x ∈ ls) := by
  rw [Bool.eq_iff_iff, List.any_eq_true, decide_eq_true_iff]
  constructor
  · rintro ⟨z, hz, e⟩
    obtain ⟨l, hl, rfl⟩ := List.mem_map.mp hz
    rw [eqv_s, decide_eq_true_iff] at e
    exact e ▸ hl
  · intro h
    exact ⟨.str (S x), List.mem_map.mpr ⟨x, h, rfl⟩, by rw [eqv_s]; exact decide_eq_true rfl⟩
theorem in_sts {x : List Nat} {ls : List (List Nat)} (hx : ∀ c ∈ x, c < 1114112) (h : ∀ l ∈ ls, ∀ c ∈ l, c < 1114112) : inB (.str (S x)) (.list (sts ls)) = some (decide (x ∈ ls)) := by
  show (if SeqAt.shaped (.str (S x)) = true ∧ SeqAt.shaped (.list (sts ls)) = true then some ((sts ls).any fun z => PyData.eqv z (.str (S x))) else none) = _
  rw [if_pos ⟨shaped_sg hx, shaped_sts h⟩, any_sts]
end Y
namespace Y
open PySem PySem.Spec PyProof.Rows L2
section
variable {M M' : List MO} {w : W} {x y : PyData} {ws : List W} {ρ ρ' : Rho} {fs : List EF} {f h j : EF} {ds es : List PyData} {kvs : List (L2.Key × PyData)} {ks : List L2.Key} {c : TF} {body : SF} {n : Nat} {i k : Int}
@[simp] theorem sPr_al : sPr pAddLive fs ρ M = (evs fs ρ M).bind fun ws M1 => ans (pAddLive ws M1) := sPr_e
@[simp] theorem pAddLive_e : pAddLive [.d (.list ds), .d (.list es)] M = if ds.length + es.length ≤ sizeLine then some (.loc M.length, M ++ [.lst (ds ++ es)]) else none := rfl
theorem pAddLive_l {n : Nat} (hn : M[n]? = some (.lst ds)) : pAddLive [.loc n, .d (.list es)] M = if ds.length + es.length ≤ sizeLine then some (.loc M.length, M ++ [.lst (ds ++ es)]) else none := by
  have : vws M [.loc n, .d (.list es)] = some [.list ds, .list es] := by simp [hn]
  unfold pAddLive
  rw [this]
@[simp] theorem pAugAdd_i : pAugAdd [.int i, .int k] = some (.int (i + k)) := rfl
@[simp] theorem sDisp_e : sDisp ks fs ρ M = (evs fs ρ M).bind (asDisp ks) := Eq.trans rfl rfl
@[simp] theorem sKd_e : sKd f h ρ M = (f ρ M).bind fun w M1 => (h ρ M1).bind fun u M2 => asKd1 w u M2 := Eq.trans rfl rfl
theorem sKd2_e {w : W} {M1 : List MO} (e : f ρ M = .ok (.kd kvs) M1) : sKd2 f h j ρ M = (h ρ M1).bind fun u M2 => (j ρ M2).bind fun z M3 => asKd2 (.kd kvs) u z M3 := by
  unfold sKd2
  rw [e]
  exact Eq.trans rfl rfl
theorem asDisp_e {xs : List PyData} (h1 : allD ws = some xs) (h2 : ks.length = xs.length) (h3 : ks.length ≤ 15) (h4 : ks.Nodup) : asDisp ks ws M = .ok (.kd (ks.zip xs)) M := by
  unfold asDisp
  rw [h1]
  simp only [h2, true_and]
  rw [if_pos ⟨by omega, h4⟩]
theorem asKd1_e {k : L2.Key} (h1 : keyD x = some k) (h2 : kdGet kvs k = some y) : asKd1 (.kd kvs) (.d x) M = .ok (.d y) M := by
  show (match keyD x with | some k => (match kdGet kvs k with | some d => Res.ok (W.d d) M | none => .stuck) | none => .stuck) = _
  rw [h1]
  simp only [h2]
theorem asKd2_e {k : L2.Key} (h1 : keyD x = some k) : asKd2 (.kd kvs) (.d x) (.d y) M = .ok (.d ((kdGet kvs k).getD y)) M := by
  show (match keyD x with | some k => Res.ok (W.d ((kdGet kvs k).getD y)) M | none => .stuck) = _
  rw [h1]
@[simp] theorem sRg1_e {l : Bool} : sRg1 l f ρ M = (f ρ M).bind (asRg1 l) := Eq.trans rfl rfl
theorem asRg1_e {l : Bool} {j : Int} (h : 0 ≤ j ∧ j ≤ 16777216) : asRg1 l (.d (.int j)) M = .ok (.d (lt l (rng 0 j.toNat))) M := if_pos h
@[simp] theorem sRg2_e {l : Bool} : sRg2 l f h ρ M = (f ρ M).bind fun w M1 => (h ρ M1).bind fun u M2 => asRg2 l w u M2 := Eq.trans rfl rfl
theorem asRg2_e {l : Bool} {i j : Int} (h : 0 ≤ i ∧ i ≤ 16777216 ∧ 0 ≤ j ∧ j ≤ 16777216) : asRg2 l (.d (.int i)) (.d (.int j)) M = .ok (.d (lt l (rng i (j - i).toNat))) M := if_pos h
@[simp] theorem lt_f : lt false ds = .tuple ds := rfl
@[simp] theorem lt_t : lt true ds = .list ds := rfl
/-! while -/
theorem sWhile_f (e : c ρ M = .ok false M') : sWhile c body (n + 1) ρ M = .nx ρ M' := by
  unfold sWhile
  rw [e]
theorem sWhile_t {M1 M2 : List MO} (e : c ρ M = .ok true M1) (b : body ρ M1 = .nx ρ' M2) : sWhile c body (n + 1) ρ M = sWhile c body n ρ' M2 := by
  conv => lhs; unfold sWhile
  rw [e]
  simp only [b]
theorem sWhile_r {M1 M2 : List MO} (e : c ρ M = .ok true M1) (b : body ρ M1 = .ret w M2) : sWhile c body (n + 1) ρ M = .ret w M2 := by
  conv => lhs; unfold sWhile
  rw [e]
  simp only [b]
/-- by a word and a measure -/
theorem sWhile_inv (I : Rho → List MO → Prop) (μ : Rho → List MO → Nat) (N : Rho → List MO → Prop) (R : W → List MO → Prop)
    (step : ∀ ρ M, I ρ M → (∃ M', c ρ M = .ok false M' ∧ N ρ M') ∨ ∃ M1, c ρ M = .ok true M1 ∧ ((∃ ρ2 M2, body ρ M1 = .nx ρ2 M2 ∧ I ρ2 M2 ∧ μ ρ2 M2 < μ ρ M) ∨ ∃ w M2, body ρ M1 = .ret w M2 ∧ R w M2)) :
    ∀ {n : Nat} {ρ : Rho} {M : List MO}, μ ρ M < n → I ρ M → (∃ ρ' M', sWhile c body n ρ M = .nx ρ' M' ∧ N ρ' M') ∨ ∃ w M', sWhile c body n ρ M = .ret w M' ∧ R w M'
  | 0, _, _, h, _ => absurd h (Nat.not_lt_zero _)
  | n + 1, ρ, M, h, hi => by
    rcases step ρ M hi with ⟨M', e, hn⟩ | ⟨M1, e, ⟨ρ2, M2, b, hi2, hm⟩ | ⟨w, M2, b, hr⟩⟩
    · exact .inl ⟨ρ, M', sWhile_f e, hn⟩
    · rcases sWhile_inv I μ N R step (n := n) (ρ := ρ2) (M := M2) (by omega) hi2 with ⟨ρ', M', e2, h2⟩ | ⟨w, M', e2, h2⟩
      · exact .inl ⟨ρ', M', by rw [sWhile_t e b]; exact e2, h2⟩
      · exact .inr ⟨w, M', by rw [sWhile_t e b]; exact e2, h2⟩
    · exact .inr ⟨w, M2, sWhile_r e b, hr⟩
end
end Y
namespace Y
open PySem PySem.Spec PyProof.Rows L2 TL
section
variable {a b : List Nat} {c k : Nat}
theorem strD_sts (ys : List Str) : strD ys = sts (ys.map TL.tl) := by
  unfold strD sts
  rw [List.map_map]
  exact List.map_congr_left fun y _ => (congrArg PyData.str (S_of y) : PyData.str y = PyData.str (S y.cps.toList))
theorem kind1 (h : ∀ x ∈ b, x < 256) {z : Str} : ¬ Builtin.Str.strKind z < Builtin.Str.strKind (S b) := kind_ok (by
  show b.toArray.all _ = true
  rw [← Array.all_toList]
  simpa using h)
theorem pSplit_S (hb : b ≠ []) (h : ∀ x ∈ b, x < 256) (ha : a.length ≤ 100000) : pSplit [.str (S a), .str (S b)] = some (.list (sts (spl b 0 [] a))) := by
  have c1 : ((S b).length == 0) = false := by
    rw [S_len]
    exact beq_eq_false_iff_ne.mpr fun e => hb (List.length_eq_zero_iff.mp e)
  show (if ((S b).length == 0) = false ∧ (S a).length + 2 ≤ sizeLine then some (PyData.list (strD (Txt.split (S a) (S b)))) else none) = _
  rw [if_pos ⟨c1, by rw [S_len, sizeLine_eq]; omega⟩, strD_sts, split_spl (S a) (S b) (by show (S b).cps.toList ≠ []; rw [S_toList]; exact hb) (kind1 h)]
  show some (PyData.list (sts (spl (S b).cps.toList 0 [] (S a).cps.toList))) = _
  rw [S_toList, S_toList]
theorem pPart_S (hb : b ≠ []) (ha : a.length ≤ 100000) : pPart [.str (S a), .str (S b)] = some (.tuple (match par b [] a with | some (x, y) => [.str (S x), .str (S b), .str (S y)] | none => [.str (S a), .str (S []), .str (S [])])) := by
  have c1 : ((S b).length == 0) = false := by
    rw [S_len]
    exact beq_eq_false_iff_ne.mpr fun e => hb (List.length_eq_zero_iff.mp e)
  show (if ((S b).length == 0) = false ∧ (S a).length ≤ sizeLine then some (PyData.tuple (tri (Txt.partition (S a) (S b)))) else none) = _
  rw [if_pos ⟨c1, by rw [S_len, sizeLine_eq]; omega⟩, partition_par (S a) (S b) (by show (S b).cps.toList ≠ []; rw [S_toList]; exact hb)]
  have e1 : tl (S b) = b := S_toList
  have e2 : tl (S a) = a := S_toList
  rw [e1, e2]
  cases par b [] a with
  | none => rfl
  | some p => rfl
theorem pre1 {l : List Nat} : pre [c] l = true ↔ l[0]? = some c := by
  cases l with
  | nil => simp [pre]
  | cons x r => simp [pre]
theorem at1 (i : Nat) : StrLaws.At (S a) (S [c]) (S a).length i ↔ a[i]? = some c := by
  have e1 : tl (S [c]) = [c] := S_toList
  have e2 : tl (S a) = a := S_toList
  rw [at_iff (by rw [e1]; simp), e1, e2, pre1, List.getElem?_drop, Nat.add_zero]
theorem rpart_c {t : Str × Str × Str} (ha : a.length ≤ 100000) (h : Txt.rpartition (S a) (S [c]) = t) : pRPart [.str (S a), .str (S [c])] = some (.tuple (tri t)) := by
  subst h
  exact if_pos ⟨rfl, by rw [S_len, sizeLine_eq]; omega⟩
theorem pRPart_no (ha : a.length ≤ 100000) (h : c ∉ a) : pRPart [.str (S a), .str (S [c])] = some (.tuple [.str (S []), .str (S []), .str (S a)]) := by
  refine rpart_c (t := (S [], S [], S a)) ha ?_
  unfold Txt.rpartition
  rcases StrLaws.last_spec (S a) (S [c]) with ⟨e, _⟩ | ⟨i, _, hi, _⟩
  · rw [e]; rfl
  · exact absurd (List.mem_of_getElem? ((at1 i).mp hi)) h
theorem pRPart_hit {p q : List Nat} (ha : (p ++ c :: q).length ≤ 100000) (h : c ∉ q) : pRPart [.str (S (p ++ c :: q)), .str (S [c])] = some (.tuple [.str (S p), .str (S [c]), .str (S q)]) := by
  refine rpart_c (t := (S p, S [c], S q)) ha ?_
  have hp : (p ++ c :: q)[p.length]? = some c := by simp
  unfold Txt.rpartition
  rcases StrLaws.last_spec (S (p ++ c :: q)) (S [c]) with ⟨_, hn⟩ | ⟨i, e, hi, hk⟩
  · exact absurd ((at1 p.length).mpr hp) (hn p.length)
  · have e1 : i = p.length := by
      rcases Nat.lt_trichotomy i p.length with z | z | z
      · exact absurd ((at1 p.length).mpr hp) (hk _ z)
      · exact z
      · have := (at1 i).mp hi
        rw [List.getElem?_append_right (by omega)] at this
        obtain ⟨j, hj⟩ : ∃ j, i - p.length = j + 1 := ⟨i - p.length - 1, by omega⟩
        rw [hj, List.getElem?_cons_succ] at this
        exact absurd (List.mem_of_getElem? this) h
    subst e1
    rw [e]
    have e2 : tl (S (p ++ c :: q)) = p ++ c :: q := S_toList
    have s1 : Builtin.Str.strSub (S (p ++ c :: q)) 0 p.length = S p := ext_tl (by rw [tl_strSub, e2, List.drop_zero, Nat.sub_zero, List.take_left]; exact S_toList.symm)
    have s2 : Builtin.Str.strSub (S (p ++ c :: q)) (p.length + (S [c]).length) (S (p ++ c :: q)).length = S q := ext_tl (by
      rw [tl_strSub_end, e2, S_len]
      show (p ++ c :: q).drop (p.length + 1) = (S q).cps.toList
      rw [← List.drop_drop, List.drop_left, S_toList]
      rfl)
    show (Builtin.Str.strSub (S (p ++ c :: q)) 0 p.length, S [c], Builtin.Str.strSub (S (p ++ c :: q)) (p.length + (S [c]).length) (S (p ++ c :: q)).length) = _
    rw [s1, s2]
/-! numbers as texts -/
theorem num_S (k : Nat) : (Str.ofString (toString ((k : Nat) : Int))) = S (numL k) := ext_tl (by rw [tl_num]; exact S_toList.symm)
theorem num_short {k : Nat} (h : k < 1000000) : (numL k).length ≤ 6 := numL_len (by decide) h
theorem pStr_n (h : k < 1000000) : pStr [.int (k : Int)] = some (.str (S (numL k))) := by
  have hf : Fine (.int (k : Int)) := (Sm.int (by omega)).fine (by decide) (by decide)
  show (if okShow (.int (k : Int)) = true then some (PyData.str (PyData.shown (.int (k : Int)))) else none) = _
  rw [if_pos hf.show]
  exact congrArg (fun z => some (PyData.str z)) (num_S k)
theorem pFmt_n (h : k < 1000000) : pFmt [.int (k : Int)] = some (.str (S (numL k))) := by
  show (if (k : Int).natAbs.log2 < 1920 then some (PyData.str (Str.ofString (toString (k : Int)))) else none) = _
  have h1 : (k : Int).natAbs.log2 < 1920 := by
    rw [Int.natAbs_natCast]
    by_cases z : k = 0
    · rw [z]; decide
    · exact (Nat.log2_lt z).mpr (Nat.lt_trans h (by decide +kernel))
  rw [if_pos h1, num_S]
theorem pInt_n (h : k < 1000000) : pInt [.str (S (numL k))] = some (.int (k : Int)) := by
  have l := num_short h
  refine pInt_str ?_ (by omega)
  rw [← num_S]
  exact int_num (by omega)
end
section
variable {fs : List EF} {f g : EF} {ρ : Rho} {M : List MO} {a b : List Nat} {i n : Nat} {x : Str} {mf : MF} {tab : List (Str × MF × Nat)} {ds : List PyData} {h : LF}
theorem sFs_2 (hf : f ρ M = .ok (.d (.str (S a))) M) (hg : g ρ M = .ok (.d (.str (S b))) M) (hl : a.length + b.length ≤ 100000) : sFs [f, g] ρ M = .ok (.d (.str (S (a ++ b)))) M := by
  have e0 : Str.empty ++ S a = S a := PySem.Str.empty_append _
  have l1 : (S a).length ≤ sizeLine := by rw [S_len, sizeLine_eq]; omega
  have l2 : (S a ++ S b).length ≤ sizeLine := by rw [S_app, S_len, List.length_append, sizeLine_eq]; omega
  unfold sFs sJs
  rw [hf]
  show (if (Str.empty ++ S a).length ≤ sizeLine then sJs [g] (Str.empty ++ S a) ρ M else .stuck) = _
  rw [e0, if_pos l1]
  unfold sJs
  rw [hg]
  show (if (S a ++ S b).length ≤ sizeLine then sJs [] (S a ++ S b) ρ M else .stuck) = _
  rw [if_pos l2, S_app]
  rfl
theorem sCallV_e (hi : ρ[i]? = some (some (.fn x))) (ht : tab.lookup x = some (mf, n)) : sCallV i tab fs ρ M = sCallF mf n fs ρ M := by
  unfold sCallV
  rw [hi]
  simp only [ht]
@[simp] theorem sFn_e : sFn x ρ M = .ok (.fn x) M := rfl
theorem sRaiseL_e {j : Int} (hf : f ρ M = .ok (.d (.int j)) M) : sRaiseL f ρ M = .er ⟨"NoText", some j⟩ ρ M := by
  unfold sRaiseL
  rw [hf]
theorem lStar_l (hf : f ρ M = .ok (.d (.list ds)) M) : lStar f h ρ M = (h ρ M).bind fun ws M2 => .ok (ds.map .d ++ ws) M2 := by
  unfold lStar
  rw [hf]
  rfl
end
end Y
namespace Y
open PySem PySem.Spec PyProof.Rows L2

/-! ### running objects and dicts -/
section
variable {f g fo fd fk fv : EF} {ρ : Rho} {M M1 : List MO} {w : W} {x y : PyData} {fs : List EF} {c a : Str} {mf : MF} {n m l s : Nat}
def fldW (c a : Str) : W → List MO → Res W := fun w M1 => match w with
  | .loc n => match M1[n]? with
    | some (.obj c' fs) => if c' = c then match fs.lookup a with
      | some w => .ok w M1
      | none => .stuck
      else .stuck
    | _ => .stuck
  | _ => .stuck
@[simp] theorem sFld_e : sFld c a f ρ M = (f ρ M).bind (fldW c a) := Eq.trans rfl rfl
theorem fldW_at {fs : List (Str × W)} (h : M[n]? = some (.obj c fs)) (e : fs.lookup a = some w) : fldW c a (.loc n) M = .ok w M := by
  unfold fldW
  simp only [h, if_true, e]
def methW (c m : Str) (mf : MF) (n : Nat) (fs : List EF) (ρ : Rho) : W → List MO → Res W := fun w M1 => match w with
  | .loc j => if isObj c m M1 j = true then (evs fs ρ M1).bind fun ws M2 => if ws.length + 1 = n then mf (.loc j :: ws) M2 else .stuck else .stuck
  | _ => .stuck
@[simp] theorem sMethW_e {b : Str} : sMethW c b mf n fo fs ρ M = (fo ρ M).bind (methW c b mf n fs ρ) := Eq.trans rfl rfl
def methR (n : Nat) (mf : MF) (j : Nat) (ws : List W) (M2 : List MO) : Res W := if ws.length + 1 = n then mf (.loc j :: ws) M2 else .stuck
theorem methR_e {j : Nat} {ws : List W} : methR n mf j ws M = if ws.length + 1 = n then mf (.loc j :: ws) M else .stuck := rfl
@[simp] theorem methR_1 {j : Nat} {w1 : W} : methR 2 mf j [w1] M = mf [.loc j, w1] M := rfl
@[simp] theorem methR_2 {j : Nat} {w1 w2 : W} : methR 3 mf j [w1, w2] M = mf [.loc j, w1, w2] M := rfl
@[simp] theorem methR_3 {j : Nat} {w1 w2 w3 : W} : methR 4 mf j [w1, w2, w3] M = mf [.loc j, w1, w2, w3] M := rfl
@[simp] theorem methW_l {b : Str} {j : Nat} : methW c b mf n fs ρ (.loc j) M = if isObj c b M j = true then (evs fs ρ M).bind (methR n mf j) else .stuck := Eq.trans rfl rfl
theorem atI_nat {α : Type} {xs : List α} {k : Nat} {x : α} (h : xs[k]? = some x) : atI xs (k : Int) = some x := by
  rw [atI_e (by omega), Int.toNat_natCast, h]
def makeW (c : Str) (mf : MF) (n : Nat) (ws : List W) (M1 : List MO) : Res W := if ws.length + 1 = n then match mf (.loc M1.length :: ws) (M1 ++ [.obj c []]) with
    | .ok (.d .none) M2 => .ok (.loc M1.length) M2
    | .err e M2 => .err e M2
    | _ => .stuck
  else .stuck
@[simp] theorem sMake_e : sMake c mf n fs ρ M = (evs fs ρ M).bind (makeW c mf n) := Eq.trans rfl rfl
def fldS (c a : Str) (fo : EF) (ρ : Rho) (w : W) (M1 : List MO) : SR := match fo ρ M1 with
  | .ok (.loc n) M2 => match M2[n]? with
    | some (.obj c' fs) => if c' = c ∧ fs.length < 1000 then .nx ρ (M2.set n (.obj c (putW a w fs))) else .stuck
    | _ => .stuck
  | _ => .stuck
@[simp] theorem sFldSet_e : sFldSet c a fo fv ρ M = (fv ρ M).th ρ (fldS c a fo) := by
  unfold sFldSet
  rw [sThen_e]
  rfl
def dputS (fd fk : EF) (ρ : Rho) (w : W) (M1 : List MO) : SR := match w, fd ρ M1 with
  | .d d, .ok (.loc n) M2 => match fk ρ M2 with
    | .ok (.d x) M3 => match putO M3 n d x with
      | some o => .nx ρ (M3.set n o)
      | none => .stuck
    | _ => .stuck
  | _, _ => .stuck
@[simp] theorem sDPutS_e : sDPutS fd fk fv ρ M = (fv ρ M).th ρ (dputS fd fk) := by
  unfold sDPutS
  rw [sThen_e]
  rfl
def _root_.Y.Res.tq (r : Res W) (k : W → List MO → SR) : SR := match r with
  | .ok w M => k w M
  | _ => .stuck
@[simp] theorem tq_ok {k : W → List MO → SR} : (Res.ok w M).tq k = k w M := Eq.trans rfl rfl
def dputF (w u v : W) (ρ : Rho) (M3 : List MO) : SR := match w, u, v with
  | .d d, .loc n, .d x => match putO M3 n d x with
    | some o => .nx ρ (M3.set n o)
    | none => .stuck
  | _, _, _ => .stuck
@[simp] theorem dputS_e : dputS fd fk ρ w M = (fd ρ M).tq fun u M2 => (fk ρ M2).tq fun v M3 => dputF w u v ρ M3 := by
  unfold dputS
  cases w with
  | d d =>
    cases fd ρ M with
    | ok u M2 =>
      cases u with
      | loc n =>
        simp only [tq_ok]
        cases fk ρ M2 with
        | ok v M3 => cases v <;> rfl
        | err e M3 => rfl
        | stuck => rfl
      | _ =>
        simp only [tq_ok]
        cases fk ρ M2 with
        | ok v M3 => cases v <;> rfl
        | err e M3 => rfl
        | stuck => rfl
    | err e M2 => rfl
    | stuck => rfl
  | _ =>
    cases fd ρ M with
    | ok u M2 =>
      simp only [tq_ok]
      cases fk ρ M2 with
      | ok v M3 => cases u <;> cases v <;> rfl
      | err e M3 => rfl
      | stuck => rfl
    | err e M2 => rfl
    | stuck => rfl
theorem dputF_at {o : MO} (h : putO M n x y = some o) : dputF (.d x) (.loc n) (.d y) ρ M = .nx ρ (M.set n o) := by
  unfold dputF
  simp only [h]
def fldF (c a : Str) (w u : W) (ρ : Rho) (M2 : List MO) : SR := match u with
  | .loc n => match M2[n]? with
    | some (.obj c' fs) => if c' = c ∧ fs.length < 1000 then .nx ρ (M2.set n (.obj c (putW a w fs))) else .stuck
    | _ => .stuck
  | _ => .stuck
@[simp] theorem fldS_e : fldS c a fo ρ w M = (fo ρ M).tq fun u M2 => fldF c a w u ρ M2 := by
  unfold fldS
  cases fo ρ M with
  | ok u M2 => cases u <;> rfl
  | err e M2 => rfl
  | stuck => rfl
theorem fldF_at {fs : List (Str × W)} (h2 : M[n]? = some (.obj c fs)) (h3 : fs.length < 1000) : fldF c a w (.loc n) ρ M = .nx ρ (M.set n (.obj c (putW a w fs))) := by
  unfold fldF
  simp only [h2, h3, and_self, if_true]
theorem lStar_v {f : EF} {h : LF} {w : W} {ds : List PyData} (hf : f ρ M = .ok w M) (hv : vw M w = some (.list ds)) : lStar f h ρ M = (h ρ M).bind fun ws M2 => .ok (ds.map .d ++ ws) M2 := by
  unfold lStar
  rw [hf]
  show (match vw M w with | some (.list ds) => _ | some (.tuple ds) => _ | _ => _) = _
  rw [hv]
theorem lStar_t' {f : EF} {h : LF} {ds : List PyData} (hf : f ρ M = .ok (.d (.tuple ds)) M) : lStar f h ρ M = (h ρ M).bind fun ws M2 => .ok (ds.map .d ++ ws) M2 := by
  unfold lStar
  rw [hf]
  rfl
theorem asTup_at {ws : List W} {xs : List PyData} (h : allD ws = some xs) (hl : ws.length ≤ 16777216) : asTup ws M = .ok (.d (.tuple xs)) M := by
  unfold asTup
  rw [if_pos (sz hl), h]
@[simp] theorem sPr_dget {fs : List EF} : sPr pDGet fs ρ M = (evs fs ρ M).bind fun ws M1 => ans (pDGet ws M1) := sPr_e
@[simp] theorem sPr_din {b : Bool} {fs : List EF} : sPr (pDIn b) fs ρ M = (evs fs ρ M).bind fun ws M1 => ans (pDIn b ws M1) := sPr_e
@[simp] theorem sPr_lenD {fs : List EF} : sPr pLenD fs ρ M = (evs fs ρ M).bind fun ws M1 => ans (pLenD ws M1) := sPr_e
theorem dget_at (h : look2 M n x = some (some y)) : pDGet [.loc n, .d x] M = some (.d y, M) := by
  unfold pDGet
  simp only [h]
theorem din_at {b : Bool} {o : Option PyData} (h : look2 M n x = some o) : pDIn b [.d x, .loc n] M = some (.d (.bool (if b = true then !o.isSome else o.isSome)), M) := by
  unfold pDIn
  simp only [h]
theorem look2_k {kvs : List (L2.Key × PyData)} {i : Int} (h : M[n]? = some (.dct kvs)) : look2 M n (.int i) = some (valD kvs (.inl i)) := by
  unfold look2
  simp only [h, keyK]
theorem look2_t {kvs : List (List L2.Key × PyData)} {xs : List PyData} {ks : List L2.Key} (h : M[n]? = some (.dctT kvs)) (hk : keysK xs = some ks) : look2 M n (.tuple xs) = some (valD kvs ks) := by
  unfold look2
  simp only [h, hk]
theorem putO_k {kvs : List (L2.Key × PyData)} {i : Int} (h : M[n]? = some (.dct kvs)) (hl : kvs.length < sizeLine) : putO M n y (.int i) = some (.dct (putD kvs (.inl i) y)) := by
  unfold putO
  simp only [h, keyK, hl, if_true]
theorem putO_t {kvs : List (List L2.Key × PyData)} {xs : List PyData} {ks : List L2.Key} (h : M[n]? = some (.dctT kvs)) (hk : keysK xs = some ks) (hl : kvs.length < sizeLine) : putO M n y (.tuple xs) = some (.dctT (putD kvs ks y)) := by
  unfold putO
  simp only [h, hk, hl, if_true]
@[simp] theorem sNewK_e : sNewK ρ M = .ok (.loc M.length) (M ++ [.dct []]) := rfl
@[simp] theorem sNewT_e : sNewT ρ M = .ok (.loc M.length) (M ++ [.dctT []]) := rfl
@[simp] theorem sDispT1_e : sDispT1 fk fv ρ M = (fk ρ M).bind fun w M1 => (fv ρ M1).bind fun u M2 => disp1 w u M2 := Eq.trans rfl rfl
@[simp] theorem sSetd_e : sSetd fd fk fv ρ M = (fd ρ M).bind fun w M1 => if isDT M1 w = true then (fk ρ M1).bind fun u M2 => (fv ρ M2).bind fun z M3 => setd w u z M3 else .stuck := Eq.trans rfl rfl
@[simp] theorem asKGet2_e {kvs : List (Str × PyData)} {z : Str} : asKGet2 kvs (.d (.str z)) (.d y) M = match kvs.lookup z with
    | some d => if flatD d = true then .ok (.d d) M else .stuck
    | none => .ok (.d y) M := rfl
@[simp] theorem sKGet2_e {kvs : List (Str × PyData)} : sKGet2 kvs fk fv ρ M = (fk ρ M).bind fun w M1 => (fv ρ M1).bind fun u M2 => asKGet2 kvs w u M2 := Eq.trans rfl rfl
def orT (h : EF) (ρ : Rho) : W → List MO → Res W := fun w M1 => match w with
  | .d x => match truD x with
    | some true => .ok (.d x) M1
    | some false => h ρ M1
    | none => .stuck
  | _ => .stuck
@[simp] theorem sOrT_e : sOrT f g ρ M = (f ρ M).bind (orT g ρ) := Eq.trans rfl rfl
theorem orT_t (h : truD x = some true) : orT g ρ (.d x) M = .ok (.d x) M := by unfold orT; simp only [h]
theorem orT_f (h : truD x = some false) : orT g ρ (.d x) M = g ρ M := by unfold orT; simp only [h]
def asT : W → List MO → Res Bool := fun w M1 => match w with
  | .d x => match truD x with
    | some b => .ok b M1
    | none => .stuck
  | _ => .stuck
@[simp] theorem sTru_e : sTru f ρ M = (f ρ M).bind asT := Eq.trans rfl rfl
@[simp] theorem asT_i {i : Int} : asT (.d (.int i)) M = .ok (i != 0) M := rfl
@[simp] theorem itR3_e : itR3 fs ρ M = (evs fs ρ M).bind asR3 := Eq.trans rfl rfl
theorem asR3_c {i j c : Int} (h : 0 ≤ i ∧ i ≤ 1000000 ∧ 0 ≤ j ∧ j ≤ 1000000 ∧ 0 < c ∧ c ≤ 1000) : asR3 [.d (.int i), .d (.int j), .d (.int c)] M = .ok (rng3 i c (rgN i j c)) M := if_pos h
@[simp] theorem sKNotInT_e {kvs : List (Str × PyData)} : sKNotInT kvs f g ρ M = (f ρ M).bind fun w M1 => (g ρ M1).bind fun u M2 => asKNotInT kvs w u M2 := Eq.trans rfl rfl
theorem putD_new {κ : Type} [DecidableEq κ] {kvs : List (κ × PyData)} {k : κ} (h : valD kvs k = none) : putD kvs k y = kvs ++ [(k, y)] := by
  unfold putD
  rw [if_neg]
  intro q
  obtain ⟨kv, h1, h2⟩ := List.any_eq_true.mp q
  unfold valD at h
  rw [Option.map_eq_none_iff, List.find?_eq_none] at h
  exact h kv h1 h2
theorem valD_put {κ : Type} [DecidableEq κ] {k j : κ} : ∀ {kvs : List (κ × PyData)}, valD (putD kvs k y) j = if j = k then some y else valD kvs j
  | [] => by
    by_cases h : j = k
    · subst h; simp [putD, valD]
    · simp [putD, valD, h, Ne.symm h]
  | (a, z) :: r => by
    have ih := valD_put (k := k) (j := j) (kvs := r)
    by_cases hk : a = k
    · subst hk
      have e : putD ((a, z) :: r) a y = (a, y) :: r.map (fun kv => if kv.1 = a then (kv.1, y) else kv) := by simp [putD]
      rw [e]
      by_cases hj : j = a
      · subst hj; simp [valD]
      · simp only [valD, List.find?_cons, hj, if_false, decide_eq_true_eq]
        rw [show decide (a = j) = false from decide_eq_false (Ne.symm hj)]
        simp only
        have : ∀ r : List (κ × PyData), (r.map fun kv => if kv.1 = a then (kv.1, y) else kv).find? (fun kv => decide (kv.1 = j)) = r.find? fun kv => decide (kv.1 = j) := by
          intro r
          induction r with
          | nil => rfl
          | cons p r ih =>
            rw [List.map_cons, List.find?_cons, List.find?_cons, ih]
            by_cases hp : p.1 = a
            · simp only [hp, if_true]
              rw [show decide (a = j) = false from decide_eq_false (Ne.symm hj)]
            · simp only [hp, if_false]
        rw [this r]
    · have e : putD ((a, z) :: r) k y = (a, z) :: putD r k y := by
        unfold putD
        rw [List.any_cons, decide_eq_false hk, Bool.false_or]
        split
        · rw [List.map_cons, if_neg hk]
        · rfl
      rw [e]
      unfold valD at ih ⊢
      rw [List.find?_cons, List.find?_cons]
      by_cases ha : a = j
      · subst ha
        simp [hk]
      · rw [decide_eq_false ha]
        exact ih
theorem putD_len {κ : Type} [DecidableEq κ] {k : κ} {kvs : List (κ × PyData)} : (putD kvs k y).length ≤ kvs.length + 1 := by
  unfold putD
  split
  · rw [List.length_map]; omega
  · rw [List.length_append]; simp
end
section
variable {gt : GF} {body : SF} {ρ : Rho} {M : List MO} {w : W}
@[simp] theorem pShl_one {k : Nat} (h : k ≤ 1000000) : pShl [.int 1, .int (k : Int)] = some (.int ((2 ^ k : Nat) : Int)) := by
  have c : cPow 1 (k : Int) = true := decide_eq_true ⟨by omega, by omega, by decide⟩
  show (if cPow 1 (k : Int) = true then _ else _) = _
  rw [if_pos c]
  show some (PyData.int (1 * 2 ^ ((k : Int)).toNat)) = _
  rw [Int.toNat_natCast, Int.one_mul]
  push_cast
  rfl
theorem pShr_nat {x k : Nat} : pShr [.int (x : Int), .int (k : Int)] = some (.int ((x / 2 ^ k : Nat) : Int)) := by
  show (if decide (0 ≤ (k : Int)) = true then some (PyData.int ((x : Int) / 2 ^ ((k : Int)).toNat)) else none) = _
  rw [if_pos (decide_eq_true (by omega)), Int.toNat_natCast]
  push_cast
  rfl
@[simp] theorem pAnd_i {i j : Int} : pAnd [.int i, .int j] = some (.int (Builtin.bitAnd i j)) := rfl
@[simp] theorem pXor_i {i j : Int} : pXor [.int i, .int j] = some (.int (Builtin.bitXor i j)) := rfl
@[simp] theorem pSum_l {ds : List PyData} : pSum [.list ds] = match intsD ds with
    | some bs => some (.int bs.sum)
    | none => none := rfl
def forW (gt : GF) (body : SF) (fuel : Nat) (ρ : Rho) : W → List MO → SR
  | .loc n, M1 => forV gt body n fuel 0 ρ M1
  | .d (.list ds), M1 => forL gt body ds ρ M1
  | .d (.tuple ds), M1 => forL gt body ds ρ M1
  | _, _ => .stuck
@[simp] theorem sForA_e {f : EF} {fuel : Nat} : sForA f gt body fuel ρ M = (f ρ M).th ρ fun ρ w M => forW gt body fuel ρ w M := by
  unfold sForA Res.th
  cases f ρ M with
  | ok w M1 => rcases w with (_ | _ | _ | _ | _ | _ | _) | _ | _ | _ | _ | _ | _ <;> rfl
  | err e M1 => rfl
  | stuck => rfl
theorem sRev_at {f : EF} {ds : List PyData} (h : f ρ M = .ok w M) (v : vw M w = some (.list ds)) : sRev f ρ M = .ok (.d (.list ds.reverse)) M := by
  unfold sRev
  rw [h]
  show (match (vw M w).bind revD with
    | some y => Res.ok (W.d y) M
    | none => Res.stuck) = _
  rw [v]
  rfl
end
theorem forV_inv {gt : GF} {body : SF} {n : Nat} {α : Type} (h : α → PyData) (I : List α → Rho → List MO → Prop) (all : List α) (hM : ∀ pre ρ M, I pre ρ M → M[n]? = some (.lst (all.map h))) : ∀ {ds pre : List α} {fuel : Nat} {ρ : Rho} {M : List MO}, all = pre ++ ds → ds.length < fuel →
    (∀ (pre post : List α) (d : α) (ρ : Rho) (M : List MO), all = pre ++ d :: post → I pre ρ M → ∃ ρ1 M1, gt (.d (h d)) ρ M = some (ρ1, M1) ∧ ∃ ρ2 M2, body ρ1 M1 = .nx ρ2 M2 ∧ I (pre ++ [d]) ρ2 M2) → I pre ρ M →
    ∃ ρ' M', forV gt body n fuel pre.length ρ M = .nx ρ' M' ∧ I all ρ' M'
  | [], pre, f + 1, ρ, M, ha, _, _, hi => by
    rw [List.append_nil] at ha
    refine ⟨ρ, M, ?_, by rw [ha]; exact hi⟩
    unfold forV
    simp only [hM _ _ _ hi]
    rw [List.getElem?_eq_none (by rw [List.length_map, ha]; exact Nat.le_refl _)]
  | d :: ds, pre, f + 1, ρ, M, ha, hl, step, hi => by
    obtain ⟨ρ1, M1, e1, ρ2, M2, e2, h2⟩ := step pre ds d ρ M ha hi
    have hl' : ds.length < f := by rw [List.length_cons] at hl; omega
    obtain ⟨ρ', M', e3, h3⟩ := forV_inv h I all hM (ds := ds) (pre := pre ++ [d]) (fuel := f) (ρ := ρ2) (M := M2) (by rw [ha, List.append_assoc]; rfl) hl' step h2
    refine ⟨ρ', M', ?_, h3⟩
    have hd : (all.map h)[pre.length]? = some (h d) := by rw [List.getElem?_map, ha, List.getElem?_append_right (Nat.le_refl _), Nat.sub_self]; rfl
    rw [List.length_append] at e3
    unfold forV
    simp only [hM _ _ _ hi, hd, e1, e2]
    exact e3
section
variable {f : EF} {ρ : Rho} {M : List MO} {n : Nat} {ds : List PyData} {x d : PyData} {i : Int}
@[simp] theorem itA_e : itA f ρ M = (f ρ M).bind asItA := Eq.trans rfl rfl
@[simp] theorem asItA_l : asItA (.d (.list ds)) M = .ok ds M := rfl
@[simp] theorem asItA_t : asItA (.d (.tuple ds)) M = .ok ds M := rfl
@[simp] theorem asItA_s {a : List Nat} : asItA (.d (.str (S a))) M = .ok (sg a) M := by show Res.ok (chs (S a)) M = _; rw [chs_S]
theorem asItA_at (h : M[n]? = some (.lst ds)) : asItA (.loc n) M = .ok ds (M.set n .dead) := by
  simp only [asItA, h]
theorem asItA_loc : asItA (.loc n) M = match M[n]? with
    | some (.lst ds) => .ok ds (M.set n .dead)
    | _ => .stuck := rfl
theorem Fine.repr {d : PyData} (h : Fine d) : pRepr [d] = some (.str d.shown) := if_pos h.show
theorem pInsert_e (h : M[n]? = some (.lst ds)) (hl : ds.length ≤ 16000000) (h0 : 0 ≤ i ∧ i ≤ 1000000) : pInsert [.loc n, .d (.int i), .d x] M = some (.d .none, M.set n (.lst (ds.take i.toNat ++ [x] ++ ds.drop i.toNat))) := by
  have hc : ds.length < sizeLine ∧ 0 ≤ i ∧ i < 2 ^ 63 := ⟨by rw [sizeLine_eq]; omega, h0.1, by omega⟩
  simp only [pInsert, h]
  rw [if_pos hc]
end
theorem sLk_e {i n : Nat} {f : SF} {ρ : Rho} {M : List MO} {ds : List PyData} (h1 : ρ[i]? = some (some (.loc n))) (h2 : M[n]? = some (.lst ds)) : sLk i f ρ M = f (ρ.set i (some (.d (.list ds)))) (M.set n .dead) := by
  unfold sLk
  simp only [h1, h2]
theorem pMulT_e {a : List PyData} {j : Int} (h : a.isEmpty = false) (h1 : 2 ≤ j ∧ j ≤ 1000) (h2 : a.length ≤ 1000) : pMulT [.tuple a, .int j] = some (.tuple (List.replicate j.toNat a).flatten) := if_pos ⟨h, h1.1, h1.2, h2⟩
end Y
namespace K61
open PySem PySem.Spec PyProof.Rows L2 Y
def xs_ : List Str := ["NoKind", "NoSize", "NoDeed", "NoSettings", "NoSetting", "NoPartial", "NoRule", "NoOptions", "NoPairs", "Fitted", "Unfit", "NoBook", "NoNumber", "Unlike", "NoText"]
def b_is_whole : SF := (sRet (sAndV (sIsi .int (sV 0)) (sNotV (sIsi .bool (sV 0)))))
def F_is_whole : MF := defF 1 b_is_whole
def b_is_below : SF := (sRet (sAndV (sCallF F_is_whole 1 [(sV 0)]) (sAndV (sPr (dpr pLe) [(sC (.int 0)), (sV 0)]) (sPr (dpr pLt) [(sV 0), (sV 1)]))))
def F_is_below : MF := defF 2 b_is_below
def b_is_size : SF := (sRet (sAndV (sCallF F_is_whole 1 [(sV 0)]) (sAndV (sPr (dpr pLe) [(sC (.int 1)), (sV 0)]) (sPr (dpr pLe) [(sV 0), (sC (.int 30))]))))
def F_is_size : MF := defF 1 b_is_size
def b_look_at_size : SF := (sIf (sNot (sVal (sCallF F_is_size 1 [(sV 0)]))) (sRaise "NoSize") sNx)
def F_look_at_size : MF := defF 1 b_look_at_size
def x1_are_options : EF := (sCallF F_is_below 2 [(sV 3), (sV 0)])
def x2_are_options : EF := (sPr (dpr pLt) [(sPr (dpr pIx) [(sV 1), (sV 2)]), (sPr (dpr pIx) [(sV 1), (sPr (dpr pAdd) [(sV 2), (sC (.int 1))])])])
def b_are_options : SF := (sSeq (sIf (sOr (sNot (sVal (sIsi .tuple (sV 1)))) (sNot (sVal (sPr (dpr pAll) [(sLc (itD (sV 1)) (gN 3) sYes x1_are_options [3])])))) (sRet (sC (.bool false))) sNx)
    (sRet (sPr (dpr pAll) [(sLc (itR1 [(sPr (dpr pSub) [(sPr (dpr pLen) [(sV 1)]), (sC (.int 1))])]) (gN 2) sYes x2_are_options [2])])))
def F_are_options : MF := defF 4 b_are_options
def b_is_right_pair : SF := (sSeq (sIf (sOr (sNot (sVal (sIsi .tuple (sV 1)))) (sOr (sVal (sPr (dpr pNe) [(sPr (dpr pLen) [(sV 1)]), (sC (.int 2))])) (sNot (sVal (sCallF F_are_options 2 [(sV 0), (sPr (dpr pIx) [(sV 1), (sC (.int 0))])]))))) (sRet (sC (.bool false))) sNx)
    (sRet (sOrV (sPr (dpr pIsN) [(sPr (dpr pIx) [(sV 1), (sC (.int 1))])]) (sCallF F_are_options 2 [(sV 0), (sPr (dpr pIx) [(sV 1), (sC (.int 1))])]))))
def F_is_right_pair : MF := defF 2 b_is_right_pair
def x1_pair_text : EF := (sPr (dpr pStr) [(sV 2)])
def x2_pair_text : EF := (sPr (dpr pStr) [(sV 2)])
def b_pair_text : SF := (sSeq (sSet 1 (sPr (dpr pAdd) [(sLc (itD (sPr (dpr pIx) [(sV 0), (sC (.int 0))])) (gN 2) sYes x1_pair_text [2]), (sLst (lCons (sC (.str (S [45, 62]))) lNil))]))
    (sSeq (sIf (sVal (sPr (dpr pIsN) [(sPr (dpr pIx) [(sV 0), (sC (.int 1))])])) (sRet (sMeth .str (dpr pJoin) (sC (.str (S [32]))) [(sLst (lStar (sV 1) (lCons (sC (.str (S [110, 101, 118, 101, 114]))) lNil)))])) sNx)
    (sRet (sMeth .str (dpr pJoin) (sC (.str (S [32]))) [(sPr (dpr pAdd) [(sV 1), (sLc (itD (sPr (dpr pIx) [(sV 0), (sC (.int 1))])) (gN 2) sYes x2_pair_text [2])])]))))
def F_pair_text : MF := defF 3 b_pair_text
def x1_pairs_text : EF := (sCallF F_pair_text 1 [(sV 1)])
def b_pairs_text : SF := (sRet (sMeth .str (dpr pJoin) (sC (.str (S [10]))) [(sLc (itD (sV 0)) (gN 1) sYes x1_pairs_text [1])]))
def F_pairs_text : MF := defF 2 b_pairs_text
def x1_option_read : EF := (sPr (dpr pIn) [(sV 1), (sC (.str (S [48, 49, 50, 51, 52, 53, 54, 55, 56, 57])))])
def b_option_read : SF := (sSeq (sIf (sOr (sVal (sPr (dpr pEq) [(sV 0), (sC (.str (S [])))])) (sOr (sNot (sVal (sPr (dpr pAll) [(sLc (itD (sV 0)) (gN 1) sYes x1_option_read [1])]))) (sAnd (sVal (sPr (dpr pEq) [(sPr (dpr pIx) [(sV 0), (sC (.int 0))]), (sC (.str (S [48])))])) (sVal (sPr (dpr pNe) [(sV 0), (sC (.str (S [48])))]))))) (sRet (sC .none)) sNx)
    (sRet (sPr (dpr pInt) [(sV 0)])))
def F_option_read : MF := defF 2 b_option_read
def x1_pair_read : EF := (sCallF F_option_read 1 [(sV 8)])
def x2_pair_read : EF := (sCallF F_option_read 1 [(sV 8)])
def b_pair_read_6 : SF := (sRet (sC .none))
def b_pair_read_5 : SF := sSeq (sIf (sAnd (sVal (sCallF F_is_right_pair 2 [(sV 0), (sV 7)])) (sVal (sPr (dpr pEq) [(sCallF F_pair_text 1 [(sV 7)]), (sV 1)]))) (sRet (sV 7)) sNx) b_pair_read_6
def b_pair_read_4 : SF := sSeq (sSet 7 (sTup (lCons (sV 5) (lCons (sV 6) lNil)))) b_pair_read_5
def b_pair_read_3 : SF := sSeq (sSet 6 (sIte (sVal (sPr (dpr pEq) [(sV 4), (sC (.str (S [32, 110, 101, 118, 101, 114])))])) (sC .none) (sPr (dpr pTuple) [(sLc (itD (sSl (sMeth .str (dpr pSplit) (sV 4) [(sC (.str (S [32])))]) (oS (sC (.int 1))) oN)) (gN 8) sYes x2_pair_read [8])]))) b_pair_read_4
def b_pair_read_2 : SF := sSeq (sIf (sVal (sPr (dpr pEq) [(sV 3), (sC (.str (S [])))])) (sRet (sC .none)) sNx) b_pair_read_3
def b_pair_read_1 : SF := sSeq (sSet 5 (sPr (dpr pTuple) [(sLc (itD (sSl (sMeth .str (dpr pSplit) (sV 2) [(sC (.str (S [32])))]) oN (oS (sPr (dpr pNeg) [(sC (.int 1))])))) (gN 8) sYes x1_pair_read [8])])) b_pair_read_2
def b_pair_read : SF := sSeq (sAsg (sMeth .str (dpr pPart) (sV 1) [(sC (.str (S [45, 62])))]) (gT ((gN 2) :: ((gN 3) :: ((gN 4) :: []))))) b_pair_read_1
def F_pair_read : MF := defF 9 b_pair_read
def f1_lines_read_2 : SF := (sExpr (sMeth .list pAppend (sV 3) [(sV 6)]))
def f1_lines_read_1 : SF := sSeq (sIf (sVal (sPr (dpr pIsN) [(sV 6)])) (sRaiseL (sPr (dpr pAdd) [(sV 4), (sC (.int 1))])) sNx) f1_lines_read_2
def f1_lines_read : SF := sSeq (sSet 6 (sCallV 0 [("pair_read", F_pair_read, 2)] [(sV 1), (sV 5)])) f1_lines_read_1
def b_lines_read_2 : SF := (sRet (sV 3))
def b_lines_read_1 : SF := sSeq (sFor (itEL [(sIte (sVal (sPr (dpr pNe) [(sV 2), (sC (.str (S [])))])) (sMeth .str (dpr pSplit) (sV 2) [(sC (.str (S [10])))]) (sLst lNil))]) (gT ((gN 4) :: ((gN 5) :: []))) f1_lines_read) b_lines_read_2
def b_lines_read : SF := sSeq (sSet 3 (sLive lNil)) b_lines_read_1
def F_lines_read : MF := defF 7 b_lines_read
def b_one_read : SF := (sSeq (sSet 3 (sCallV 0 [("pair_read", F_pair_read, 2)] [(sV 1), (sV 2)]))
    (sSeq (sIf (sVal (sPr (dpr pIsN) [(sV 3)])) (sRaiseL (sC (.int 1))) sNx)
    (sRet (sV 3))))
def F_one_read : MF := defF 4 b_one_read
def b_read_pair : SF := (sSeq (sExpr (sCallF F_look_at_size 1 [(sV 0)]))
    (sRet (sCallF F_one_read 3 [(sFn "pair_read"), (sV 0), (sV 1)])))
def F_read_pair : MF := defF 2 b_read_pair
def b_read_pairs : SF := (sSeq (sExpr (sCallF F_look_at_size 1 [(sV 0)]))
    (sRet (sCallW F_lines_read 3 [(sFn "pair_read"), (sV 0), (sV 1)])))
def F_read_pairs : MF := defF 2 b_read_pairs
def b_law_mixed : SF := (sSeq (sSet 2 (sPr (dpr pMod) [(sPr (dpr pInt) [(sPr (dpr pAdd) [(sPr (dpr pAdd) [(sPr (dpr pMulA) [(sPr (dpr pMod) [(sPr (dpr pInt) [(sV 0)]), (sC (.int 2147483647))]), (sC (.int 48271))]), (sPr (dpr pMulA) [(sV 1), (sC (.int 69621))])]), (sC (.int 1048583))])]), (sC (.int 2147483629))]))
    (sSeq (sSet 2 (sPr (dpr pMod) [(sPr (dpr pInt) [(sPr (dpr pMulA) [(sV 2), (sV 2)])]), (sC (.int 2147483587))]))
    (sRet (sPr (dpr pMod) [(sPr (dpr pInt) [(sPr (dpr pMulA) [(sV 2), (sPr (dpr pAdd) [(sV 2), (sC (.int 2))])])]), (sC (.int 2147483579))]))))
def F_law_mixed : MF := defF 3 b_law_mixed
def f1_law_pile : SF := (sSet 3 (sPr (dpr pAdd) [(sPr (dpr pMulA) [(sV 3), (sC (.int 2147483579))]), (sCallF F_law_mixed 2 [(sV 2), (sPr (dpr pAdd) [(sPr (dpr pAdd) [(sPr (dpr pMulA) [(sC (.int 7)), (sV 1)]), (sPr (dpr pMulA) [(sC (.int 100)), (sV 4)])]), (sPr (dpr pMulA) [(sV 4), (sV 4)])])])]))
def b_law_pile_5 : SF := (sRet (sLive (lCons (sV 3) lNil)))
def b_law_pile_4 : SF := sSeq (sFor (itR1 [(sC (.int 24))]) (gN 4) f1_law_pile) b_law_pile_5
def b_law_pile_3 : SF := sSeq (sSet 3 (sC (.int 0))) b_law_pile_4
def b_law_pile_2 : SF := sSeq (sIf (sVal (sPr (dpr pGe) [(sV 2), (sPr (dpr pPow) [(sC (.int 10)), (sC (.int 18))])])) (sRet (sLive (lCons (sPr (dpr pMod) [(sPr (dpr pInt) [(sPr (dpr pSub) [(sV 2), (sPr (dpr pPow) [(sC (.int 10)), (sC (.int 18))])])]), (sPr (dpr pMulA) [(sPr (dpr pMulA) [(sPr (dpr pMulA) [(sPr (dpr pPow) [(sC (.int 10)), (sC (.int 60))]), (sPr (dpr pPow) [(sC (.int 10)), (sC (.int 60))])]), (sPr (dpr pPow) [(sC (.int 10)), (sC (.int 60))])]), (sPr (dpr pPow) [(sC (.int 10)), (sC (.int 60))])])]) lNil))) sNx) b_law_pile_3
def b_law_pile_1 : SF := sSeq (sIf (sVal (sPr (dpr pLt) [(sV 1), (sPr pLenS [(sV 0)])])) (sSet 2 (sPr pIxS [(sV 0), (sV 1)])) sNx) b_law_pile_2
def b_law_pile : SF := sSeq (sSet 2 (sC (.int 0))) b_law_pile_1
def F_law_pile : MF := defF 5 b_law_pile
def b_law_take : SF := (sSeq (sSet 2 (sPr (dpr pMod) [(sPr (dpr pInt) [(sPr (dpr pIx) [(sV 0), (sC (.int 0))])]), (sV 1)]))
    (sSeq (sAsg (sPr (dpr pFdiv) [(sPr (dpr pIx) [(sV 0), (sC (.int 0))]), (sV 1)]) (gS (sV 0) (sC (.int 0))))
    (sRet (sV 2))))
def F_law_take : MF := defF 3 b_law_take
def b_law_wide_size : SF := (sRet (sPr (dpr pIx) [(sLst (lCons (sC (.int 1)) (lCons (sC (.int 2)) (lCons (sC (.int 3)) (lCons (sC (.int 5)) (lCons (sC (.int 9)) (lCons (sC (.int 10)) (lCons (sC (.int 11)) (lCons (sC (.int 20)) (lCons (sC (.int 29)) (lCons (sC (.int 30)) lNil))))))))))), (sCallF F_law_take 2 [(sV 0), (sC (.int 10))])]))
def F_law_wide_size : MF := defF 1 b_law_wide_size
def f1_law_some : SF := (sIf (sAnd (sVal (sPr (dpr pLt) [(sPr (dpr pLen) [(sV 3)]), (sV 2)])) (sVal (sPr (dpr pEq) [(sCallF F_law_take 2 [(sV 0), (sC (.int 3))]), (sC (.int 0))]))) (sExpr (sMeth .list pAppend (sV 3) [(sV 4)])) sNx)
def b_law_some_2 : SF := (sRet (sPr (dpr pTuple) [(sV 3)]))
def b_law_some_1 : SF := sSeq (sFor (itR1 [(sV 1)]) (gN 4) f1_law_some) b_law_some_2
def b_law_some : SF := sSeq (sSet 3 (sLive lNil)) b_law_some_1
def F_law_some : MF := defF 5 b_law_some
def b_law_whole : SF := (sRet (sAndV (sIsi .int (sV 0)) (sNotV (sIsi .bool (sV 0)))))
def F_law_whole : MF := defF 1 b_law_whole
def x1_law_options : EF := (sV 2)
def y1_law_options : TF := (sOr (sNot (sVal (sCallF F_law_whole 1 [(sV 2)]))) (sOr (sVal (sPr (dpr pLt) [(sV 2), (sC (.int 0))])) (sVal (sPr (dpr pGe) [(sV 2), (sV 0)]))))
def x2_law_options : EF := (sV 2)
def y2_law_options : TF := (sVal (sPr (dpr pGe) [(sPr (dpr pIx) [(sV 1), (sPr (dpr pSub) [(sV 2), (sC (.int 1))])]), (sPr (dpr pIx) [(sV 1), (sV 2)])]))
def b_law_options : SF := (sSeq (sIf (sNot (sVal (sIsi .tuple (sV 1)))) (sRet (sC (.bool false))) sNx)
    (sSeq (sIf (sVal (sPr (dpr pNe) [(sLc (itD (sV 1)) (gN 2) y1_law_options x1_law_options [2]), (sLst lNil)])) (sRet (sC (.bool false))) sNx)
    (sRet (sPr (dpr pEq) [(sLc (itR2 [(sC (.int 1)), (sPr (dpr pLen) [(sV 1)])]) (gN 2) y2_law_options x2_law_options [2]), (sLst lNil)]))))
def F_law_options : MF := defF 3 b_law_options
def x1_law_is_rule : EF := (sV 2)
def y1_law_is_rule : TF := (sVal (sPr (dpr pIn) [(sV 2), (sPr (dpr pIx) [(sV 1), (sC (.int 2))])]))
def b_law_is_rule : SF := (sSeq (sIf (sOr (sNot (sVal (sIsi .tuple (sV 1)))) (sOr (sVal (sPr (dpr pNe) [(sPr (dpr pLen) [(sV 1)]), (sC (.int 3))])) (sNot (sVal (sIsi .str (sPr (dpr pIx) [(sV 1), (sC (.int 0))])))))) (sRet (sC (.bool false))) sNx)
    (sSeq (sIf (sVal (sPr (dpr pEq) [(sPr (dpr pIx) [(sV 1), (sC (.int 0))]), (sC (.str (S [115, 117, 109])))])) (sRet (sAndV (sCallF F_law_options 2 [(sV 0), (sPr (dpr pIx) [(sV 1), (sC (.int 1))])]) (sAndV (sCallF F_law_whole 1 [(sPr (dpr pIx) [(sV 1), (sC (.int 2))])]) (sPr (dpr pIn) [(sPr (dpr pIx) [(sV 1), (sC (.int 2))]), (sLst (lCons (sC (.int 0)) (lCons (sC (.int 1)) lNil)))])))) sNx)
    (sSeq (sIf (sOr (sVal (sPr (dpr pNe) [(sPr (dpr pIx) [(sV 1), (sC (.int 0))]), (sC (.str (S [97, 110, 121])))])) (sOr (sNot (sVal (sCallF F_law_options 2 [(sV 0), (sPr (dpr pIx) [(sV 1), (sC (.int 1))])]))) (sNot (sVal (sCallF F_law_options 2 [(sV 0), (sPr (dpr pIx) [(sV 1), (sC (.int 2))])]))))) (sRet (sC (.bool false))) sNx)
    (sRet (sPr (dpr pEq) [(sLc (itD (sPr (dpr pIx) [(sV 1), (sC (.int 1))])) (gN 2) y1_law_is_rule x1_law_is_rule [2]), (sLst lNil)])))))
def F_law_is_rule : MF := defF 3 b_law_is_rule
def b_law_flags : SF := (sSeq (sSet 1 (sLst (lCons (sIsX xs_ (.own "NoKind") (sV 0)) (lCons (sIsX xs_ (.own "NoSize") (sV 0)) (lCons (sIsX xs_ (.own "NoDeed") (sV 0)) lNil)))))
    (sSeq (sSet 1 (sPr (dpr pAdd) [(sV 1), (sLst (lCons (sIsX xs_ (.own "NoSettings") (sV 0)) (lCons (sIsX xs_ (.own "NoSetting") (sV 0)) (lCons (sIsX xs_ (.own "NoPartial") (sV 0)) lNil))))]))
    (sSeq (sSet 1 (sPr (dpr pAdd) [(sV 1), (sLst (lCons (sIsX xs_ (.own "NoRule") (sV 0)) (lCons (sIsX xs_ (.own "NoOptions") (sV 0)) (lCons (sIsX xs_ (.own "NoPairs") (sV 0)) lNil))))]))
    (sSeq (sSet 1 (sPr (dpr pAdd) [(sV 1), (sLst (lCons (sIsX xs_ (.own "Fitted") (sV 0)) (lCons (sIsX xs_ (.own "Unfit") (sV 0)) (lCons (sIsX xs_ (.own "NoBook") (sV 0)) lNil))))]))
    (sRet (sPr (dpr pAdd) [(sV 1), (sLst (lCons (sIsX xs_ (.own "NoNumber") (sV 0)) (lCons (sIsX xs_ (.own "Unlike") (sV 0)) (lCons (sIsX xs_ (.own "NoText") (sV 0)) lNil))))]))))))
def F_law_flags : MF := defF 2 b_law_flags
def b_law_error : SF := (sSeq (sIf (sVal (sPr (pIsNX true) [(sV 0)])) (sRet (sC (.str (S [])))) sNx)
    (sSeq (sSet 1 (sCallF F_law_flags 1 [(sV 0)]))
    (sSeq (sIf (sOr (sVal (sPr (dpr pNe) [(sMeth .list (dpr pCountL) (sV 1) [(sC (.bool true))]), (sC (.int 1))])) (sOr (sNot (sVal (sIsX xs_ .base (sV 0)))) (sNot (sVal (sIsX xs_ .ve (sV 0)))))) (sRet (sC (.str (S [111, 116, 104, 101, 114])))) sNx)
    (sSeq (sSet 2 (sLst (lCons (sC (.str (S [107, 105, 110, 100]))) (lCons (sC (.str (S [115, 105, 122, 101]))) (lCons (sC (.str (S [100, 101, 101, 100]))) (lCons (sC (.str (S [115, 101, 116, 116, 105, 110, 103, 115]))) (lCons (sC (.str (S [115, 101, 116, 116, 105, 110, 103]))) (lCons (sC (.str (S [112, 97, 114, 116, 105, 97, 108]))) (lCons (sC (.str (S [114, 117, 108, 101]))) (lCons (sC (.str (S [111, 112, 116, 105, 111, 110, 115]))) (lCons (sC (.str (S [112, 97, 105, 114, 115]))) (lCons (sC (.str (S [102, 105, 116, 116, 101, 100]))) (lCons (sC (.str (S [117, 110, 102, 105, 116]))) lNil)))))))))))))
    (sRet (sPr (dpr pIx) [(sPr (dpr pAdd) [(sV 2), (sLst (lCons (sC (.str (S [98, 111, 111, 107]))) (lCons (sC (.str (S [110, 117, 109, 98, 101, 114]))) (lCons (sC (.str (S [117, 110, 108, 105, 107, 101]))) (lCons (sC (.str (S [116, 101, 120, 116]))) lNil)))))]), (sMeth .list (dpr pIndexL) (sV 1) [(sC (.bool true))])]))))))
def F_law_error : MF := defF 3 b_law_error
def x1_law_pair_text : EF := (sPr (dpr pStr) [(sV 2)])
def x2_law_pair_text : EF := (sPr (dpr pStr) [(sV 2)])
def b_law_pair_text : SF := (sSeq (sSet 1 (sPr (dpr pAdd) [(sLc (itD (sPr (dpr pIx) [(sV 0), (sC (.int 0))])) (gN 2) sYes x1_law_pair_text [2]), (sLst (lCons (sC (.str (S [45, 62]))) lNil))]))
    (sSeq (sIf (sVal (sPr (dpr pIsN) [(sPr (dpr pIx) [(sV 0), (sC (.int 1))])])) (sRet (sMeth .str (dpr pJoin) (sC (.str (S [32]))) [(sPr (dpr pAdd) [(sV 1), (sLst (lCons (sC (.str (S [110, 101, 118, 101, 114]))) lNil))])])) sNx)
    (sRet (sMeth .str (dpr pJoin) (sC (.str (S [32]))) [(sPr (dpr pAdd) [(sV 1), (sLc (itD (sPr (dpr pIx) [(sV 0), (sC (.int 1))])) (gN 2) sYes x2_law_pair_text [2])])]))))
def F_law_pair_text : MF := defF 3 b_law_pair_text
def x1_law_option_of : EF := (sV 2)
def y1_law_option_of : TF := (sVal (sPr (dpr pNotIn) [(sV 2), (sC (.str (S [48, 49, 50, 51, 52, 53, 54, 55, 56, 57])))]))
def b_law_option_of : SF := (sSeq (sIf (sOr (sVal (sPr (dpr pEq) [(sV 1), (sC (.str (S [])))])) (sOr (sVal (sPr (dpr pGt) [(sPr (dpr pLen) [(sV 1)]), (sC (.int 2))])) (sVal (sPr (dpr pNe) [(sLc (itD (sV 1)) (gN 2) y1_law_option_of x1_law_option_of [2]), (sLst lNil)])))) (sRet (sC .none)) sNx)
    (sSeq (sIf (sOr (sAnd (sVal (sPr (dpr pEq) [(sPr (dpr pIx) [(sV 1), (sC (.int 0))]), (sC (.str (S [48])))])) (sVal (sPr (dpr pNe) [(sV 1), (sC (.str (S [48])))]))) (sVal (sPr (dpr pGe) [(sPr (dpr pInt) [(sV 1)]), (sV 0)]))) (sRet (sC .none)) sNx)
    (sRet (sPr (dpr pInt) [(sV 1)]))))
def F_law_option_of : MF := defF 3 b_law_option_of
def x1_law_any_of : EF := (sMeth .str (dpr pSplit) (sV 7) [(sC (.str (S [32])))])
def x2_law_any_of : EF := (sV 7)
def y2_law_any_of : TF := (sOr (sVal (sPr (dpr pNe) [(sPr (dpr pLen) [(sV 7)]), (sC (.int 2))])) (sVal (sPr (dpr pNotIn) [(sPr (dpr pIx) [(sV 7), (sC (.int 1))]), (sLst (lCons (sC (.str (S [111, 110]))) (lCons (sC (.str (S [111, 102, 102]))) lNil)))])))
def x3_law_any_of : EF := (sPr (dpr pIx) [(sV 7), (sC (.int 1))])
def x4_law_any_of : EF := (sCallF F_law_option_of 2 [(sV 0), (sPr (dpr pIx) [(sV 7), (sC (.int 0))])])
def b_law_any_of_8 : SF := (sRet (sV 6))
def b_law_any_of_7 : SF := sSeq (sIf (sOr (sVal (sPr (dpr pIn) [(sC .none), (sV 4)])) (sNot (sVal (sCallF F_law_is_rule 2 [(sV 0), (sV 6)])))) (sRet (sC .none)) sNx) b_law_any_of_8
def b_law_any_of_6 : SF := sSeq (sSet 6 (sTup (lCons (sC (.str (S [97, 110, 121]))) (lCons (sPr (dpr pTuple) [(sSl (sV 4) oN (oS (sV 5)))]) (lCons (sPr (dpr pTuple) [(sSl (sV 4) (oS (sV 5)) oN)]) lNil))))) b_law_any_of_7
def b_law_any_of_5 : SF := sSeq (sIf (sVal (sPr (dpr pNe) [(sV 3), (sPr (dpr pAdd) [(sPr (dpr pMulA) [(sLst (lCons (sC (.str (S [111, 110]))) lNil)), (sV 5)]), (sPr (dpr pMulA) [(sLst (lCons (sC (.str (S [111, 102, 102]))) lNil)), (sPr (dpr pSub) [(sPr (dpr pLen) [(sV 3)]), (sV 5)])])])])) (sRet (sC .none)) sNx) b_law_any_of_6
def b_law_any_of_4 : SF := sSeq (sSet 5 (sMeth .list (dpr pCountL) (sV 3) [(sC (.str (S [111, 110])))])) b_law_any_of_5
def b_law_any_of_3 : SF := sSeq (sSet 4 (sLc (itD (sV 2)) (gN 7) sYes x4_law_any_of [7])) b_law_any_of_4
def b_law_any_of_2 : SF := sSeq (sSet 3 (sLc (itD (sV 2)) (gN 7) sYes x3_law_any_of [7])) b_law_any_of_3
def b_law_any_of_1 : SF := sSeq (sIf (sVal (sPr (dpr pNe) [(sLc (itD (sV 2)) (gN 7) y2_law_any_of x2_law_any_of [7]), (sLst lNil)])) (sRet (sC .none)) sNx) b_law_any_of_2
def b_law_any_of : SF := sSeq (sSet 2 (sLc (itD (sMeth .str (dpr pSplit) (sV 1) [(sC (.str (S [32, 111, 114, 32])))])) (gN 7) sYes x1_law_any_of [7])) b_law_any_of_1
def F_law_any_of : MF := defF 8 b_law_any_of
def x1_law_sum_of : EF := (sCallF F_law_option_of 2 [(sV 0), (sV 7)])
def f1_law_sum_of_1 : SF := (sIf (sAnd (sVal (sPr (dpr pEq) [(sSl (sV 1) (oS (sPr (dpr pSub) [(sPr (dpr pLen) [(sV 1)]), (sPr (dpr pLen) [(sV 3)])])) oN), (sV 3)])) (sVal (sPr (dpr pGt) [(sPr (dpr pLen) [(sV 1)]), (sPr (dpr pLen) [(sV 3)])]))) (sSeq (sSet 4 (sSl (sV 1) oN (oS (sPr (dpr pSub) [(sPr (dpr pLen) [(sV 1)]), (sPr (dpr pLen) [(sV 3)])]))))
    (sSeq (sIf (sVal (sPr (dpr pEq) [(sV 4), (sC (.str (S [110, 111, 116, 104, 105, 110, 103])))])) (sRet (sTup (lCons (sC (.str (S [115, 117, 109]))) (lCons (sTup lNil) (lCons (sV 2) lNil))))) sNx)
    (sSeq (sSet 5 (sLc (itD (sMeth .str (dpr pSplit) (sV 4) [(sC (.str (S [32, 43, 32])))])) (gN 7) sYes x1_law_sum_of [7]))
    (sSeq (sSet 6 (sTup (lCons (sC (.str (S [115, 117, 109]))) (lCons (sPr (dpr pTuple) [(sV 5)]) (lCons (sV 2) lNil)))))
    (sIf (sAnd (sVal (sPr (dpr pNotIn) [(sC .none), (sV 5)])) (sVal (sCallF F_law_is_rule 2 [(sV 0), (sV 6)]))) (sRet (sV 6)) sNx))))) sNx)
def f1_law_sum_of : SF := sSeq (sSet 3 (sPr (dpr pIx) [(sLst (lCons (sC (.str (S [32, 101, 118, 101, 110]))) (lCons (sC (.str (S [32, 111, 100, 100]))) lNil))), (sV 2)])) f1_law_sum_of_1
def b_law_sum_of_1 : SF := (sRet (sC .none))
def b_law_sum_of : SF := sSeq (sFor (itD (sLst (lCons (sC (.int 0)) (lCons (sC (.int 1)) lNil)))) (gN 2) f1_law_sum_of) b_law_sum_of_1
def F_law_sum_of : MF := defF 8 b_law_sum_of
def b_law_rule_of : SF := (sSeq (sIf (sVal (sPr (dpr pEq) [(sV 1), (sC (.str (S [110, 101, 118, 101, 114])))])) (sRet (sTup (lCons (sC (.str (S [97, 110, 121]))) (lCons (sTup lNil) (lCons (sTup lNil) lNil))))) sNx)
    (sSeq (sSet 2 (sCallF F_law_sum_of 2 [(sV 0), (sV 1)]))
    (sSeq (sIf (sVal (sPr (dpr pIsN) [(sV 2)])) (sSet 2 (sCallF F_law_any_of 2 [(sV 0), (sV 1)])) sNx)
    (sRet (sV 2)))))
def F_law_rule_of : MF := defF 3 b_law_rule_of
def x1_law_pair_of : EF := (sCallF F_law_option_of 2 [(sV 0), (sV 7)])
def x2_law_pair_of : EF := (sCallF F_law_option_of 2 [(sV 0), (sV 7)])
def b_law_pair_of_9 : SF := (sRet (sV 6))
def b_law_pair_of_8 : SF := sSeq (sIf (sVal (sPr (dpr pEq) [(sSl (sV 2) (oS (sPr (dpr pAdd) [(sV 3), (sC (.int 1))])) oN), (sLst (lCons (sC (.str (S [110, 101, 118, 101, 114]))) lNil))])) (sRet (sTup (lCons (sPr (dpr pIx) [(sV 6), (sC (.int 0))]) (lCons (sC .none) lNil)))) sNx) b_law_pair_of_9
def b_law_pair_of_7 : SF := sSeq (sIf (sOr (sVal (sPr (dpr pIn) [(sC .none), (sPr (dpr pAdd) [(sV 4), (sV 5)])])) (sOr (sNot (sVal (sCallF F_law_options 2 [(sV 0), (sPr (dpr pIx) [(sV 6), (sC (.int 0))])]))) (sNot (sVal (sCallF F_law_options 2 [(sV 0), (sPr (dpr pIx) [(sV 6), (sC (.int 1))])]))))) (sRet (sC .none)) sNx) b_law_pair_of_8
def b_law_pair_of_6 : SF := sSeq (sSet 6 (sTup (lCons (sPr (dpr pTuple) [(sV 4)]) (lCons (sPr (dpr pTuple) [(sV 5)]) lNil)))) b_law_pair_of_7
def b_law_pair_of_5 : SF := sSeq (sIf (sVal (sPr (dpr pEq) [(sSl (sV 2) (oS (sPr (dpr pAdd) [(sV 3), (sC (.int 1))])) oN), (sLst (lCons (sC (.str (S [110, 101, 118, 101, 114]))) lNil))])) (sSet 5 (sLst lNil)) sNx) b_law_pair_of_6
def b_law_pair_of_4 : SF := sSeq (sSet 5 (sLc (itD (sSl (sV 2) (oS (sPr (dpr pAdd) [(sV 3), (sC (.int 1))])) oN)) (gN 7) sYes x2_law_pair_of [7])) b_law_pair_of_5
def b_law_pair_of_3 : SF := sSeq (sSet 4 (sLc (itD (sSl (sV 2) oN (oS (sV 3)))) (gN 7) sYes x1_law_pair_of [7])) b_law_pair_of_4
def b_law_pair_of_2 : SF := sSeq (sSet 3 (sMeth .list (dpr pIndexL) (sV 2) [(sC (.str (S [45, 62])))])) b_law_pair_of_3
def b_law_pair_of_1 : SF := sSeq (sIf (sVal (sPr (dpr pNe) [(sMeth .list (dpr pCountL) (sV 2) [(sC (.str (S [45, 62])))]), (sC (.int 1))])) (sRet (sC .none)) sNx) b_law_pair_of_2
def b_law_pair_of : SF := sSeq (sSet 2 (sMeth .str (dpr pSplit) (sV 1) [(sC (.str (S [32])))])) b_law_pair_of_1
def F_law_pair_of : MF := defF 8 b_law_pair_of
def b_law_bent_text_14 : SF := (sRet (sPr (dpr pAdd) [(sMeth .str (dpr pJoin) (sC (.str (S [10]))) [(sV 7)]), (sPr (dpr pMulA) [(sC (.str (S [10]))), (sPr (dpr pInt) [(sPr (dpr pEq) [(sV 4), (sC (.int 8))])])])]))
def b_law_bent_text_13 : SF := sSeq (sAsg (sMeth .str (dpr pJoin) (sC (.str (S [32]))) [(sV 10)]) (gS (sV 7) (sV 8))) b_law_bent_text_14
def b_law_bent_text_12 : SF := sSeq (sIf (sVal (sPr (dpr pEq) [(sV 4), (sC (.int 7))])) (sSet 10 (sPr pAddLive [(sSl (sV 10) oN (oS (sV 11))), (sSl (sV 10) (oS (sPr (dpr pAdd) [(sV 11), (sC (.int 1))])) oN)])) sNx) b_law_bent_text_13
def b_law_bent_text_11 : SF := sSeq (sIf (sVal (sPr (dpr pEq) [(sV 4), (sC (.int 6))])) (sSet 10 (sPr pAddLive [(sSl (sV 10) oN (oS (sPr (dpr pAdd) [(sV 11), (sC (.int 1))]))), (sSl (sV 10) (oS (sV 11)) oN)])) sNx) b_law_bent_text_12
def b_law_bent_text_10 : SF := sSeq (sIf (sVal (sPr (dpr pEq) [(sV 4), (sC (.int 5))])) (sAsg (sPr (dpr pIx) [(sV 3), (sCallF F_law_take 2 [(sV 0), (sPr (dpr pLen) [(sV 3)])])]) (gS (sV 10) (sV 11))) sNx) b_law_bent_text_11
def b_law_bent_text_9 : SF := sSeq (sSet 11 (sCallF F_law_take 2 [(sV 0), (sPr (dpr pLen) [(sV 10)])])) b_law_bent_text_10
def b_law_bent_text_8 : SF := sSeq (sSet 10 (sMeth .str pSplitLive (sPr (dpr pIx) [(sV 7), (sV 8)]) [(sC (.str (S [32])))])) b_law_bent_text_9
def b_law_bent_text_7 : SF := sSeq (sIf (sVal (sPr (dpr pEq) [(sV 4), (sC (.int 4))])) (sRet (sMeth .str (dpr pJoin) (sC (.str (S [10]))) [(sPr (dpr pAdd) [(sSl (sV 7) oN (oS (sV 8))), (sSl (sV 7) (oS (sPr (dpr pAdd) [(sV 8), (sC (.int 1))])) oN)])])) sNx) b_law_bent_text_8
def b_law_bent_text_6 : SF := sSeq (sIf (sVal (sPr (dpr pEq) [(sV 4), (sC (.int 3))])) (sRet (sMeth .str (dpr pJoin) (sC (.str (S [10]))) [(sPr (dpr pAdd) [(sPr (dpr pAdd) [(sSl (sV 7) oN (oS (sV 8))), (sLst (lCons (sPr (dpr pIx) [(sV 7), (sV 9)]) lNil))]), (sSl (sV 7) (oS (sV 8)) oN)])])) sNx) b_law_bent_text_7
def b_law_bent_text_5 : SF := sSeq (sIf (sVal (sPr (dpr pLt) [(sV 4), (sC (.int 3))])) (sRet (sPr (dpr pAdd) [(sPr (dpr pAdd) [(sSl (sV 1) oN (oS (sV 5))), (sPr (dpr pIx) [(sLst (lCons (sC (.str (S []))) (lCons (sV 6) (lCons (sV 6) lNil)))), (sV 4)])]), (sSl (sV 1) (oS (sPr (dpr pAdd) [(sV 5), (sPr (dpr pIx) [(sLst (lCons (sC (.int 1)) (lCons (sC (.int 0)) (lCons (sC (.int 1)) lNil)))), (sV 4)])])) oN)])) sNx) b_law_bent_text_6
def b_law_bent_text_4 : SF := sSeq (sPar2 8 9 [(sCallF F_law_take 2 [(sV 0), (sPr (dpr pLen) [(sV 7)])]), (sCallF F_law_take 2 [(sV 0), (sPr (dpr pLen) [(sV 7)])])]) b_law_bent_text_5
def b_law_bent_text_3 : SF := sSeq (sSet 7 (sMeth .str pSplitLive (sV 1) [(sC (.str (S [10])))])) b_law_bent_text_4
def b_law_bent_text_2 : SF := sSeq (sSet 6 (sPr (dpr pIx) [(sV 2), (sCallF F_law_take 2 [(sV 0), (sPr (dpr pLen) [(sV 2)])])])) b_law_bent_text_3
def b_law_bent_text_1 : SF := sSeq (sSet 5 (sCallF F_law_take 2 [(sV 0), (sPr (dpr pAdd) [(sPr (dpr pLen) [(sV 1)]), (sC (.int 1))])])) b_law_bent_text_2
def b_law_bent_text : SF := sSeq (sSet 4 (sCallF F_law_take 2 [(sV 0), (sC (.int 9))])) b_law_bent_text_1
def F_law_bent_text : MF := defF 12 b_law_bent_text
def f1_law_lines_of_2 : SF := (sExpr (sMeth .list pAppend (sV 3) [(sV 6)]))
def f1_law_lines_of_1 : SF := sSeq (sIf (sVal (sPr (dpr pIsN) [(sV 6)])) (sRet (sPr (dpr pAdd) [(sV 5), (sC (.int 1))])) sNx) f1_law_lines_of_2
def f1_law_lines_of : SF := sSeq (sIf (sVal (sPr (dpr pEq) [(sV 0), (sC (.str (S [114, 117, 108, 101])))])) (sSet 6 (sCallF F_law_rule_of 2 [(sV 1), (sPr (dpr pIx) [(sV 4), (sV 5)])])) (sSet 6 (sCallF F_law_pair_of 2 [(sV 1), (sPr (dpr pIx) [(sV 4), (sV 5)])]))) f1_law_lines_of_1
def b_law_lines_of_3 : SF := (sRet (sV 3))
def b_law_lines_of_2 : SF := sSeq (sFor (itR1 [(sPr (dpr pMulA) [(sPr (dpr pLen) [(sV 4)]), (sPr (dpr pInt) [(sPr (dpr pNe) [(sV 2), (sC (.str (S [])))])])])]) (gN 5) f1_law_lines_of) b_law_lines_of_3
def b_law_lines_of_1 : SF := sSeq (sSet 4 (sMeth .str (dpr pSplit) (sV 2) [(sC (.str (S [10])))])) b_law_lines_of_2
def b_law_lines_of : SF := sSeq (sSet 3 (sLive lNil)) b_law_lines_of_1
def F_law_lines_of : MF := defF 7 b_law_lines_of
def b_law_pair : SF := (sSeq (sSet 2 (sCallF F_law_some 3 [(sV 0), (sV 1), (sC (.int 10))]))
    (sSeq (sSet 3 (sCallF F_law_some 3 [(sV 0), (sV 1), (sC (.int 10))]))
    (sSeq (sIf (sVal (sPr (dpr pEq) [(sCallF F_law_take 2 [(sV 0), (sC (.int 4))]), (sC (.int 0))])) (sRet (sTup (lCons (sV 2) (lCons (sC .none) lNil)))) sNx)
    (sRet (sTup (lCons (sV 2) (lCons (sV 3) lNil)))))))
def F_law_pair : MF := defF 4 b_law_pair
def f1_law_answer : SF := (sIf (sVal (sPr (dpr pEq) [(sV 0), (sC (.int 0))])) (sSet 4 (sCallW F_read_pairs 2 [(sV 1), (sV 2)])) (sSet 4 (sCallF F_read_pair 2 [(sV 1), (sV 2)])))
def b_law_answer_5 : SF := (sRet (sXLine (sV 3)))
def b_law_answer_4 : SF := sSeq (sIf (sOr (sVal (sPr (dpr pNe) [(sCallF F_law_error 1 [(sV 3)]), (sC (.str (S [116, 101, 120, 116])))])) (sNot (sVal (sCallF F_law_whole 1 [(sXLine (sV 3))])))) (sRet (sC (.str (S [119, 114, 111, 110, 103])))) sNx) b_law_answer_5
def b_law_answer_3 : SF := sSeq (sIf (sVal (sPr (pIsNX true) [(sV 3)])) (sRet (sV 4)) sNx) b_law_answer_4
def b_law_answer_2 : SF := sSeq (sTry xs_ 5 f1_law_answer (sSet 3 (sV 5))) b_law_answer_3
def b_law_answer_1 : SF := sSeq (sSet 4 (sC .none)) b_law_answer_2
def b_law_answer : SF := sSeq (sSet 3 (sC .none)) b_law_answer_1
def F_law_answer : MF := defF 6 b_law_answer
def b_law_both : SF := (sSeq (sSet 2 (sCallF F_law_pair_of 2 [(sV 0), (sV 1)]))
    (sSeq (sIf (sVal (sPr (dpr pIsN) [(sV 2)])) (sSet 2 (sC (.int 1))) sNx)
    (sSeq (sSet 3 (sLst (lCons (sCallF F_law_answer 3 [(sC (.int 0)), (sV 0), (sV 1)]) (lCons (sCallF F_law_answer 3 [(sC (.int 1)), (sV 0), (sV 1)]) lNil))))
    (sRet (sPr (dpr pEq) [(sPr (dpr pRepr) [(sV 3)]), (sPr (dpr pRepr) [(sLst (lCons (sCallF F_law_lines_of 3 [(sC (.str (S [112, 97, 105, 114]))), (sV 0), (sV 1)]) (lCons (sV 2) lNil)))])])))))
def F_law_both : MF := defF 4 b_law_both
def x1_law_good : EF := (sCallF F_law_pair_text 1 [(sV 6)])
def x2_law_good : EF := (sCallF F_pair_text 1 [(sV 6)])
def f1_law_good_2 : SF := (sExpr (sMeth .list pAppend (sV 5) [(sC .none)]))
def f1_law_good_1 : SF := sSeq (sIf (sOr (sNot (sVal (sIsi .list (sV 5)))) (sVal (sPr (dpr pNe) [(sPr (dpr pRepr) [(sV 5)]), (sV 2)]))) (sRet (sC (.bool false))) sNx) f1_law_good_2
def f1_law_good : SF := sSeq (sSet 5 (sCallW F_read_pairs 2 [(sV 0), (sMeth .str (dpr pJoin) (sC (.str (S [10]))) [(sV 3)])])) f1_law_good_1
def x3_law_good : EF := (sCallF F_read_pair 2 [(sV 0), (sV 7)])
def b_law_good_4 : SF := (sRet (sPr (dpr pEq) [(sLc (itD (sV 3)) (gN 7) sYes x3_law_good [7]), (sV 1)]))
def b_law_good_3 : SF := sSeq (sFor (itR1 [(sC (.int 2))]) (gN 4) f1_law_good) b_law_good_4
def b_law_good_2 : SF := sSeq (sIf (sOr (sVal (sPr (dpr pNe) [(sCallF F_pairs_text 1 [(sV 1)]), (sMeth .str (dpr pJoin) (sC (.str (S [10]))) [(sV 3)])])) (sOr (sVal (sPr (dpr pNe) [(sLc (itD (sV 1)) (gN 6) sYes x2_law_good [6]), (sV 3)])) (sVal (sPr (dpr pNe) [(sPr (dpr pRepr) [(sV 1)]), (sV 2)])))) (sRet (sC (.bool false))) sNx) b_law_good_3
def b_law_good_1 : SF := sSeq (sSet 3 (sLc (itD (sV 1)) (gN 6) sYes x1_law_good [6])) b_law_good_2
def b_law_good : SF := sSeq (sSet 2 (sPr (dpr pRepr) [(sV 1)])) b_law_good_1
def F_law_good : MF := defF 8 b_law_good
def x1_law : EF := (sCallF F_law_pair 2 [(sV 3), (sV 4)])
def x2_law : EF := (sCallF F_law_pair_text 1 [(sV 11)])
def f2_law_2 : SF := (sIf (sNot (sVal (sCallF F_law_both 2 [(sV 4), (sV 8)]))) (sRet (sC (.bool false))) sNx)
def f2_law_1 : SF := sSeq (sIf (sVal (sPr (dpr pGt) [(sV 7), (sC (.int 5))])) (sSet 8 (sCallF F_law_bent_text 4 [(sV 3), (sV 8), (sC (.str (S [32, 10, 48, 49, 50, 51, 52, 53, 54, 55, 56, 57, 45, 62, 110, 101, 118, 114, 78]))), (sV 1)])) sNx) f2_law_2
def f2_law : SF := sSeq (sSet 8 (sCallF F_law_bent_text 4 [(sV 3), (sV 6), (sC (.str (S [32, 10, 48, 49, 50, 51, 52, 53, 54, 55, 56, 57, 45, 62, 110, 101, 118, 114, 78]))), (sV 1)])) f2_law_1
def f1_law_5 : SF := (sFor (itR1 [(sC (.int 8))]) (gN 7) f2_law)
def f1_law_4 : SF := sSeq (sSet 6 (sMeth .str (dpr pJoin) (sC (.str (S [10]))) [(sLc (itD (sV 5)) (gN 11) sYes x2_law [11])])) f1_law_5
def f1_law_3 : SF := sSeq (sIf (sNot (sVal (sCallF F_law_good 2 [(sV 4), (sV 5)]))) (sRet (sC (.bool false))) sNx) f1_law_4
def f1_law_2 : SF := sSeq (sSet 5 (sLc (itR1 [(sCallF F_law_take 2 [(sV 3), (sC (.int 5))])]) (gN 10) sYes x1_law [10])) f1_law_3
def f1_law_1 : SF := sSeq (sSet 4 (sCallF F_law_wide_size 1 [(sV 3)])) f1_law_2
def f1_law : SF := sSeq (sSet 3 (sCallW F_law_pile 2 [(sV 0), (sV 2)])) f1_law_1
def x3_law : EF := (sV 6)
def y3_law : TF := (sNot (sVal (sCallF F_law_both 2 [(sC (.int 3)), (sV 6)])))
def b_law_8 : SF := (sRet (sPr (dpr pEq) [(sLc (itA (sV 9)) (gN 6) y3_law x3_law [6]), (sLst lNil)]))
def b_law_7 : SF := sSeq (sExpr (sMeth .list pAppend (sV 9) [(sMeth .str (dpr pJoin) (sC (.str (S [10]))) [(sPr (dpr pAdd) [(sPr (dpr pMulA) [(sLst (lCons (sC (.str (S [45, 62]))) lNil)), (sC (.int 1300))]), (sLst (lCons (sC (.str (S [45]))) lNil))])])])) b_law_8
def b_law_6 : SF := sSeq (sExpr (sMeth .list pAppend (sV 9) [(sMeth .str (dpr pJoin) (sC (.str (S [10]))) [(sPr (dpr pMulA) [(sLst (lCons (sC (.str (S [45, 62]))) lNil)), (sC (.int 1333))])])])) b_law_7
def b_law_5 : SF := sSeq (sSet 9 (sPr pAddLive [(sV 9), (sLst (lCons (sC (.str (S [45, 62, 32, 48, 32, 49, 32, 50]))) (lCons (sC (.str (S [48, 32, 48, 32, 45, 62, 32, 49]))) (lCons (sC (.str (S [48, 32, 45, 62, 32, 50, 32, 49]))) lNil))))])) b_law_6
def b_law_4 : SF := sSeq (sSet 9 (sPr pAddLive [(sV 9), (sLst (lCons (sC (.str (S [48, 32, 45, 62, 32, 48]))) (lCons (sC (.str (S [45, 62, 32, 48, 10, 48]))) (lCons (sC (.str (S [45, 62, 32, 48, 10, 45, 62, 32, 120]))) (lCons (sC (.str (S [48, 32, 45, 62, 32, 78, 101, 118, 101, 114]))) (lCons (sC (.str (S [48, 48, 32, 45, 62, 32, 49]))) (lCons (sC (.str (S [48, 32, 45, 32, 62, 32, 49]))) (lCons (sC (.str (S [48, 32, 45, 62, 32, 49, 32]))) (lCons (sC (.str (S [32, 48, 32, 45, 62, 32, 49]))) lNil)))))))))])) b_law_5
def b_law_3 : SF := sSeq (sSet 9 (sPr pAddLive [(sV 9), (sLst (lCons (sC (.str (S [48, 32, 45, 62, 32, 110, 101, 118, 101, 114, 32, 49]))) (lCons (sC (.str (S [110, 101, 118, 101, 114, 32, 45, 62, 32, 48]))) (lCons (sC (.str (S [48, 32, 45, 62, 32, 49, 32, 110, 101, 118, 101, 114]))) (lCons (sC (.str (S [48, 32, 45, 62, 32, 45, 62, 32, 49]))) (lCons (sC (.str (S [48, 32, 45, 62, 32, 51]))) (lCons (sC (.str (S [51, 32, 45, 62, 32, 48]))) (lCons (sC (.str (S [48, 32, 32, 45, 62, 32, 49]))) (lCons (sC (.str (S [48, 32, 45, 62, 32, 32, 49]))) lNil)))))))))])) b_law_4
def b_law_2 : SF := sSeq (sSet 9 (sLive (lCons (sC (.str (S []))) (lCons (sC (.str (S [10]))) (lCons (sC (.str (S [45, 62]))) (lCons (sC (.str (S [45, 62, 32]))) (lCons (sC (.str (S [32, 45, 62]))) (lCons (sC (.str (S [45, 62, 32, 110, 101, 118, 101, 114]))) (lCons (sC (.str (S [48, 32, 45, 62]))) (lCons (sC (.str (S [48, 32, 45, 62, 32]))) (lCons (sC (.str (S [48, 45, 62, 49]))) (lCons (sC (.str (S [48, 32, 45, 62, 32, 49]))) (lCons (sC (.str (S [48, 32, 49, 32, 45, 62, 32, 50]))) (lCons (sC (.str (S [49, 32, 48, 32, 45, 62, 32, 50]))) lNil)))))))))))))) b_law_3
def b_law_1 : SF := sSeq (sFor (itR1 [(sPr (dpr pMax) [(sC (.int 2)), (sPr (dpr pMin) [(sPr pLenS [(sV 0)]), (sC (.int 8))])])]) (gN 2) f1_law) b_law_2
def b_law : SF := sSeq (sSet 1 (sLst (lCons (sC (.str (S [45, 62]))) (lCons (sC (.str (S [110, 101, 118, 101, 114]))) (lCons (sC (.str (S [48]))) (lCons (sC (.str (S [57]))) (lCons (sC (.str (S [49, 48]))) (lCons (sC (.str (S [50, 57]))) (lCons (sC (.str (S [51, 48]))) (lCons (sC (.str (S []))) (lCons (sC (.str (S [45, 49]))) (lCons (sC (.str (S [48, 48]))) (lCons (sC (.str (S [45]))) (lCons (sC (.str (S [62]))) (lCons (sC (.str (S [78, 101, 118, 101, 114]))) lNil))))))))))))))) b_law_1
def F_law : MF := defF 12 b_law
end K61
namespace K61
open PySem PySem.Spec PyProof.Rows L2 Y
theorem cMul_s {i j : Int} (h : -(2 ^ 64) < j ∧ j < 2 ^ 64) : cMul i j = true := decide_eq_true (.inr (.inl h))
theorem cMul_s' {i j : Int} (h : -(2 ^ 64) < i ∧ i < 2 ^ 64) : cMul i j = true := decide_eq_true (.inl h)
/-- a pile to take from -/
def Pil (M : List MO) : Prop := ∃ p : Int, M = [.lst [.int p]]
theorem All2.map1 {ds : List PyData} {P : Nat → Prop} : ∀ {xs : List PyData}, All2 (fun _ x => ∃ c, x = .str (S [c]) ∧ P c) ds xs → ∃ l : List Nat, xs = sg l ∧ l.length = ds.length ∧ ∀ c ∈ l, P c
  | _, .nil => ⟨[], rfl, rfl, fun _ h => nomatch h⟩
  | _, .cons ⟨c, hc, pc⟩ t => by
    obtain ⟨l, e, hl, hp⟩ := All2.map1 t
    refine ⟨c :: l, by rw [hc, e]; rfl, by simp [hl], fun x hx => ?_⟩
    rcases List.mem_cons.mp hx with rfl | hx
    · exact pc
    · exact hp x hx
/-- the signs of a setting -/
def Bit (c : Nat) : Prop := c = 48 ∨ c = 49
def Tri (c : Nat) : Prop := c = 48 ∨ c = 49 ∨ c = 63
theorem set_at {M : List MO} {n : Nat} {o o' : MO} (h : M[n]? = some o) : (M.set n o')[n]? = some o' := by
  rw [List.getElem?_set_self (List.getElem?_eq_some_iff.mp h).1]
/-- what is_text_of answers -/
def textOf (a : List Nat) (n : Int) : PyData → Bool
  | .str s => decide ((s.cps.size : Int) = n) && s.cps.toList.all (inS a)
  | _ => false
theorem textOf_S {a l : List Nat} {n : Int} : textOf a n (.str (S l)) = (decide ((l.length : Int) = n) && l.all (inS a)) := by
  show (decide (((S l).cps.size : Int) = n) && (S l).cps.toList.all _) = _
  rw [S_size, S_toList]
/-- short as a text -/
def Short (x : PyData) : Prop := ∀ s, x = .str s → s.cps.size ≤ 200000
theorem text_lt {a l : List Nat} {n : Int} (ha : ∀ c ∈ a, c < 1114112) (h : textOf a n (.str (S l)) = true) : ∀ c ∈ l, c < 1114112 := by
  rw [textOf_S, Bool.and_eq_true, List.all_eq_true] at h
  exact fun c hc => ha c (inS_iff.mp (h.2 c hc))
theorem text_len {a l : List Nat} {n : Int} (h : textOf a n (.str (S l)) = true) : (l.length : Int) = n := by
  rw [textOf_S, Bool.and_eq_true] at h
  exact of_decide_eq_true h.1
theorem text_of {a l : List Nat} {n : Int} (h : ∀ c ∈ l, c ∈ a) (hl : (l.length : Int) = n) : textOf a n (.str (S l)) = true := by
  rw [textOf_S, hl, decide_eq_true rfl, Bool.true_and, List.all_eq_true]
  exact fun c hc => inS_iff.mpr (h c hc)
theorem intBit {c : Nat} (h : Bit c) : ∃ i : Int, pInt [.str (S [c])] = some (.int i) ∧ 0 ≤ i ∧ i < 2 := by
  rcases h with rfl | rfl
  · exact ⟨0, pInt_str (by decide +kernel) (by decide), by decide, by decide⟩
  · exact ⟨1, pInt_str (by decide +kernel) (by decide), by decide, by decide⟩
theorem ints_nice {l : List Nat} (h : ∀ k ∈ l, k < 1000000) : SeqAt.shaped (.list (l.map fun (k : Nat) => PyData.int ((0 : Int) + k))) = true := by
  have q := Sm.list (D := 0) (B := 100) (n := l.length) (ds := l.map fun (k : Nat) => PyData.int ((0 : Int) + k)) (fun d hd => by
    obtain ⟨k, hk, rfl⟩ := List.mem_map.mp hd
    have := h k hk
    exact Sm.int (by omega)) (by rw [List.length_map]; exact Nat.le_refl _)
  exact shaped_of q.nice (by have := q.dep; omega)
def kInts (l : List Nat) : List PyData := l.map fun (k : Nat) => PyData.int ((0 : Int) + k)
theorem cut_le {α : Type} {xs : List α} {lo hi : Option Int} {n : Nat} (h : xs.length ≤ n) : (cutL xs lo hi).length ≤ n := Nat.le_trans cut_len h
/-- how a partial setting is met -/
def meets (a b : List Nat) : Bool := (a.zip b).all fun p => decide (p.2 = 63) || decide (p.2 = p.1)
theorem meets_iff {a b : List Nat} : meets a b = true ↔ ∀ (k x y : Nat), a[k]? = some x → b[k]? = some y → y = 63 ∨ y = x := by
  unfold meets
  rw [List.all_eq_true]
  constructor
  · intro h k x y hx hy
    have := h (x, y) (List.mem_of_getElem? (i := k) (List.getElem?_zip_eq_some.mpr ⟨hx, hy⟩))
    simpa using this
  · rintro h ⟨x, y⟩ hp
    obtain ⟨k, hk⟩ := List.mem_iff_getElem?.mp hp
    obtain ⟨hx, hy⟩ := List.getElem?_zip_eq_some.mp hk
    have := h k x y hx hy
    simpa using this
/-! options -/
def whole : PyData → Bool
  | .int _ => true
  | _ => false
def below (n : Int) : PyData → Bool
  | .int i => decide (0 ≤ i) && decide (i < n)
  | _ => false
/-- numbers as data -/
def oi (l : List Nat) : List PyData := l.map fun (k : Nat) => PyData.int (k : Int)
@[simp] theorem oi_len {l : List Nat} : (oi l).length = l.length := by simp [oi]
@[simp] theorem oi_nil : oi [] = [] := rfl
theorem oi_at {l : List Nat} {p : Nat} (h : p < l.length) : (oi l)[p]? = some (.int ((l.getD p 0 : Nat) : Int)) := by
  unfold oi
  rw [List.getElem?_map, List.getElem?_eq_getElem h]
  simp [List.getD_eq_getElem?_getD, List.getElem?_eq_getElem h]
theorem below_oi {n : Int} : ∀ {ds : List PyData}, ds.all (below n) = true → ∃ l : List Nat, ds = oi l ∧ ∀ k ∈ l, (k : Int) < n
  | [], _ => ⟨[], rfl, fun _ h => by cases h⟩
  | d :: ds, h => by
    simp only [List.all_cons, Bool.and_eq_true] at h
    obtain ⟨l, e, hl⟩ := below_oi h.2
    cases d with
    | int i =>
      have h1 : (decide (0 ≤ i) && decide (i < n)) = true := h.1
      simp only [Bool.and_eq_true, decide_eq_true_eq] at h1
      refine ⟨i.toNat :: l, ?_, fun k hk => ?_⟩
      · show PyData.int i :: ds = PyData.int ((i.toNat : Nat) : Int) :: oi l
        rw [e, Int.toNat_of_nonneg h1.1]
      · rcases List.mem_cons.mp hk with rfl | hk
        · omega
        · exact hl k hk
    | _ => exact absurd h.1 (by simp [below])
theorem all_below {n : Int} {l : List Nat} (h : ∀ k ∈ l, (k : Int) < n) : (oi l).all (below n) = true := by
  rw [List.all_eq_true]
  intro d hd
  obtain ⟨k, hk, rfl⟩ := List.mem_map.mp hd
  have := h k hk
  show (decide (0 ≤ (k : Int)) && decide ((k : Int) < n)) = true
  simp only [Bool.and_eq_true, decide_eq_true_eq]
  omega
def adj (l : List Nat) : Bool := (List.range (l.length - 1)).all fun p => decide (l.getD p 0 < l.getD (p + 1) 0)
def areO (n : Int) : PyData → Bool
  | .tuple ds => ds.all (below n) && adj (ds.map fun d => match d with | .int i => i.toNat | _ => 0)
  | _ => false
theorem areO_oi {n : Int} {l : List Nat} (h : ∀ k ∈ l, (k : Int) < n) : areO n (.tuple (oi l)) = adj l := by
  show ((oi l).all (below n) && adj ((oi l).map _)) = _
  rw [all_below h, Bool.true_and]
  congr 1
  unfold oi
  rw [List.map_map]
  conv => rhs; rw [← List.map_id l]
  exact List.map_congr_left fun k _ => by simp
/-- a list of options in order -/
structure Up (n : Int) (l : List Nat) : Prop where
  lt : ∀ k ∈ l, (k : Int) < n
  up : l.Pairwise (· < ·)
theorem adj_up {l : List Nat} (h : l.Pairwise (· < ·)) : adj l = true := by
  unfold adj
  rw [List.all_eq_true]
  intro p hp
  rw [List.mem_range] at hp
  have h1 : p < l.length := by omega
  have h2 : p + 1 < l.length := by omega
  rw [decide_eq_true_iff, List.getD_eq_getElem?_getD, List.getD_eq_getElem?_getD, List.getElem?_eq_getElem h1, List.getElem?_eq_getElem h2]
  exact List.pairwise_iff_getElem.mp h p (p + 1) h1 h2 (Nat.lt_succ_self p)
theorem Up.are {n : Int} {l : List Nat} (h : Up n l) : areO n (.tuple (oi l)) = true := by rw [areO_oi h.lt, adj_up h.up]
theorem up_len0 : ∀ {l : List Nat} {m n : Nat}, l.Pairwise (· < ·) → (∀ k ∈ l, m ≤ k ∧ k < n) → l.length ≤ n - m
  | [], _, _, _, _ => Nat.zero_le _
  | k :: r, m, n, hp, hl => by
    rw [List.pairwise_cons] at hp
    have h1 := hl k List.mem_cons_self
    have h2 := up_len0 (m := k + 1) (n := n) hp.2 fun x hx => ⟨hp.1 x hx, (hl x (List.mem_cons_of_mem _ hx)).2⟩
    rw [List.length_cons]
    omega
theorem up_len {l : List Nat} {n : Nat} (hp : l.Pairwise (· < ·)) (hl : ∀ k ∈ l, k < n) : l.length ≤ n := up_len0 (m := 0) hp fun k hk => ⟨Nat.zero_le _, hl k hk⟩
theorem Up.len {n : Int} {l : List Nat} (h : Up n l) : (l.length : Int) ≤ n ∨ l = [] := by
  by_cases hl : l = []
  · exact .inr hl
  · left
    have h0 : 0 ≤ n := by
      cases l with
      | nil => exact absurd rfl hl
      | cons k r => have := h.lt k List.mem_cons_self; omega
    have := up_len (n := n.toNat) h.up fun k hk => by have := h.lt k hk; omega
    omega
/-! rules -/
def anyR (on off : List Nat) : PyData := .tuple [.str (S [97, 110, 121]), .tuple (oi on), .tuple (oi off)]
def sumR (on : List Nat) (r : Int) : PyData := .tuple [.str (S [115, 117, 109]), .tuple (oi on), .int r]
/-- a rule of a size -/
inductive Rule (n : Int) : PyData → Prop
  | any {on off : List Nat} : Up n on → Up n off → (∀ k ∈ on, k ∉ off) → Rule n (anyR on off)
  | sum {on : List Nat} {r : Int} : Up n on → r = 0 ∨ r = 1 → Rule n (sumR on r)
theorem oi_nice {l : List Nat} (h : ∀ k ∈ l, k < 1000000) : ∀ d ∈ oi l, Sm 0 100 d := fun d hd => by
  obtain ⟨k, hk, rfl⟩ := List.mem_map.mp hd
  have := h k hk
  exact Sm.int (by omega)
theorem Up.sm {n : Int} {l : List Nat} (h : Up n l) (h1 : n ≤ 30) : Sm 1 3030 (.tuple (oi l)) := by
  refine (Sm.tuple (n := 30) (oi_nice fun k hk => by have := h.lt k hk; omega) ?_).mono (by decide) (by decide)
  rw [oi_len]
  rcases h.len with q | rfl
  · omega
  · simp
theorem Rule.sm {n : Int} {x : PyData} (h : Rule n x) (h1 : n ≤ 30) : Sm 2 10000 x := by
  cases h with
  | any a b c =>
    refine (Sm.tuple (D := 1) (B := 3030) (n := 3) (fun d hd => ?_) (Nat.le_refl _)).mono (by decide) (by decide)
    simp only [List.mem_cons, List.not_mem_nil, or_false] at hd
    rcases hd with rfl | rfl | rfl
    · exact (Sm.str (n := 3) (by decide) (by decide)).mono (by decide) (by decide)
    · exact a.sm h1
    · exact b.sm h1
  | sum a r =>
    refine (Sm.tuple (D := 1) (B := 3030) (n := 3) (fun d hd => ?_) (Nat.le_refl _)).mono (by decide) (by decide)
    simp only [List.mem_cons, List.not_mem_nil, or_false] at hd
    rcases hd with rfl | rfl | rfl
    · exact (Sm.str (n := 3) (by decide) (by decide)).mono (by decide) (by decide)
    · exact a.sm h1
    · exact (Sm.int (by omega)).mono (by decide) (by decide)
/-- is one of the numbers among them -/
theorem in_oi {k : Nat} {l : List Nat} (h : ∀ k ∈ l, k < 1000000) : inB (.int (k : Int)) (.tuple (oi l)) = some (decide (k ∈ l)) := by
  have s1 : SeqAt.shaped (.tuple (oi l)) = true := by
    have q := Sm.tuple (n := l.length) (oi_nice h) (by rw [oi_len]; exact Nat.le_refl _)
    exact shaped_of q.nice (by have := q.dep; omega)
  show (if SeqAt.shaped (.int (k : Int)) = true ∧ SeqAt.shaped (.tuple (oi l)) = true then some ((oi l).any fun z => PyData.eqv z (.int (k : Int))) else none) = _
  rw [if_pos ⟨shaped_i, s1⟩]
  congr 1
  rw [Bool.eq_iff_iff, List.any_eq_true, decide_eq_true_iff]
  constructor
  · rintro ⟨d, hd, e⟩
    obtain ⟨j, hj, rfl⟩ := List.mem_map.mp hd
    rw [eqv_i, decide_eq_true_iff] at e
    have : j = k := by omega
    rw [← this]; exact hj
  · intro hk
    exact ⟨_, List.mem_map.mpr ⟨k, hk, rfl⟩, by rw [eqv_i, decide_eq_true_iff]⟩
/-! what keeps a rule -/
def sel (a on : List Nat) : List Nat := on.map fun k => a.getD k 0
theorem in_sg {c : Nat} {b : List Nat} (hb : ∀ x ∈ b, x < 1114112) (hc : c < 1114112) : inB (.str (S [c])) (.list (sg b)) = some (decide (c ∈ b)) := by
  show (if SeqAt.shaped (.str (S [c])) = true ∧ SeqAt.shaped (.list (sg b)) = true then some ((sg b).any fun z => PyData.eqv z (.str (S [c]))) else none) = _
  rw [if_pos ⟨shaped_sg (by simpa using hc), shaped_sgl hb⟩]
  congr 1
  rw [Bool.eq_iff_iff, List.any_eq_true, decide_eq_true_iff]
  constructor
  · rintro ⟨d, hd, e⟩
    obtain ⟨j, hj, rfl⟩ := List.mem_map.mp hd
    rw [eqv_s, decide_eq_true_iff] at e
    have : j = c := by simpa using e
    rw [← this]; exact hj
  · intro hk
    exact ⟨_, List.mem_map.mpr ⟨c, hk, rfl⟩, by rw [eqv_s, decide_eq_true_iff]⟩
theorem sel_bit {a on : List Nat} (ha : ∀ c ∈ a, Bit c) (hn : ∀ k ∈ on, k < a.length) : ∀ c ∈ sel a on, Bit c := fun c hc => by
  obtain ⟨k, hk, rfl⟩ := List.mem_map.mp hc
  have := hn k hk
  rw [List.getD_eq_getElem?_getD, List.getElem?_eq_getElem this]
  exact ha _ (List.getElem_mem this)
theorem bit_lt {l : List Nat} (h : ∀ c ∈ l, Bit c) : ∀ c ∈ l, c < 1114112 := fun c hc => by rcases h c hc with rfl | rfl <;> decide
theorem at_sel {a : List Nat} {k : Nat} (h : k < a.length) : atI a (k : Int) = some (a.getD k 0) := by
  rw [atI_e (by omega), Int.toNat_natCast, List.getElem?_eq_getElem h, List.getD_eq_getElem?_getD, List.getElem?_eq_getElem h]
  rfl
theorem at_x {a : List Nat} {k : Nat} (h : k < a.length) : ∃ x, a[k]? = some x := ⟨_, List.getElem?_eq_getElem h⟩
def onIn (a : List Nat) (k : Nat) : Bool := decide (a.getD k 0 = 49)
def keptR (a : List Nat) : PyData → Bool
  | .tuple [_, .tuple on, .tuple off] => decide (49 ∈ sel a (on.map fun d => match d with | .int i => i.toNat | _ => 0)) || decide (48 ∈ sel a (off.map fun d => match d with | .int i => i.toNat | _ => 0))
  | .tuple [_, .tuple on, .int r] => decide ((((on.map fun d => match d with | .int i => i.toNat | _ => 0).filter (onIn a)).length : Int) % 2 = r)
  | _ => false
theorem un_oi {l : List Nat} : ((oi l).map fun d => match d with | .int i => i.toNat | _ => 0) = l := by
  unfold oi
  rw [List.map_map]
  conv => rhs; rw [← List.map_id l]
  exact List.map_congr_left fun k _ => by simp
theorem kept_any {a on off : List Nat} : keptR a (anyR on off) = (decide (49 ∈ sel a on) || decide (48 ∈ sel a off)) := by
  show (decide (49 ∈ sel a _) || decide (48 ∈ sel a _)) = _
  rw [un_oi, un_oi]
theorem kept_sum {a on : List Nat} {r : Int} : keptR a (sumR on r) = decide (((on.filter (onIn a)).length : Int) % 2 = r) := by
  show decide (((List.filter (onIn a) _).length : Int) % 2 = r) = _
  rw [un_oi]
theorem Up.at {n : Int} {a l : List Nat} (h : Up n l) (ha : (a.length : Int) = n) : ∀ k ∈ l, k < a.length := fun k hk => by have := h.lt k hk; omega
/-- the kinds -/
inductive Kind : List Nat → Prop
  | and : Kind [97, 110, 100]
  | or : Kind [111, 114]
  | most : Kind [109, 111, 115, 116]
  | odd : Kind [111, 100, 100]
  | both : Kind [98, 111, 116, 104]
  | pairs : Kind [112, 97, 105, 114, 115]
theorem Up.nil {n : Int} : Up n [] := ⟨(fun _ h => by cases h), .nil⟩
theorem Up.filter {n : Int} {l : List Nat} (h : Up n l) (f : Nat → Bool) : Up n (l.filter f) := ⟨fun k hk => h.lt k (List.mem_filter.mp hk).1, h.up.filter f⟩
theorem kd_in {kd : List Nat} (h : Kind kd) (a b : List Nat) (ha : ∀ c ∈ a, c < 1000) (hb : ∀ c ∈ b, c < 1000) : inB (.str (S kd)) (.list [.str (S a), .str (S b)]) = some (decide (kd = a) || decide (kd = b)) := by
  have hk : ∀ c ∈ kd, c < 1000 := by cases h <;> decide
  have s0 : ∀ l : List Nat, (∀ c ∈ l, c < 1000) → Sm 0 l.length (.str (S l)) := fun l hl => Sm.str (fun c hc => Nat.lt_trans (hl c hc) (by decide)) (Nat.le_refl _)
  show (if SeqAt.shaped (.str (S kd)) = true ∧ SeqAt.shaped (.list [.str (S a), .str (S b)]) = true then some (([PyData.str (S a), .str (S b)]).any fun z => PyData.eqv z (.str (S kd))) else none) = _
  have hL : SeqAt.shaped (.list [.str (S a), .str (S b)]) = true := by
    have q := Sm.list (D := 0) (B := a.length + b.length) (n := 2) (ds := [.str (S a), .str (S b)]) (fun d hd => by
      simp only [List.mem_cons, List.not_mem_nil, or_false] at hd
      rcases hd with rfl | rfl
      · exact (s0 a ha).mono (by decide) (by omega)
      · exact (s0 b hb).mono (by decide) (by omega)) (Nat.le_refl _)
    exact shaped_of q.nice (by have := q.dep; omega)
  rw [if_pos ⟨shaped_sg fun c hc => Nat.lt_trans (hk c hc) (by decide), hL⟩]
  simp [eq_comm]
/-- the other sign -/
def fl (c : Nat) : Nat := if c = 48 then 49 else 48
theorem fl_bit {a : List Nat} : ∀ c ∈ a.map fl, Bit c := fun c hc => by
  obtain ⟨x, _, rfl⟩ := List.mem_map.mp hc
  unfold fl Bit
  split <;> simp
theorem sel_fl {a on : List Nat} (h : ∀ k ∈ on, k < a.length) : sel (a.map fl) on = (sel a on).map fl := by
  unfold sel
  rw [List.map_map]
  refine List.map_congr_left fun k hk => ?_
  have := h k hk
  simp [List.getD_eq_getElem?_getD, List.getElem?_eq_getElem this]
theorem fl_49 {l : List Nat} (h : ∀ c ∈ l, Bit c) : decide (49 ∈ l.map fl) = decide (48 ∈ l) := by
  rw [Bool.eq_iff_iff, decide_eq_true_iff, decide_eq_true_iff, List.mem_map]
  constructor
  · rintro ⟨x, hx, e⟩
    rcases h x hx with rfl | rfl
    · exact hx
    · simp [fl] at e
  · exact fun hx => ⟨48, hx, rfl⟩
theorem fl_48 {l : List Nat} (h : ∀ c ∈ l, Bit c) : decide (48 ∈ l.map fl) = decide (49 ∈ l) := by
  rw [Bool.eq_iff_iff, decide_eq_true_iff, decide_eq_true_iff, List.mem_map]
  constructor
  · rintro ⟨x, hx, e⟩
    rcases h x hx with rfl | rfl
    · simp [fl] at e
    · exact hx
  · exact fun hx => ⟨49, hx, rfl⟩
theorem kept_fl {n : Int} {a on off : List Nat} (u : Up n on) (v : Up n off) (ha : ∀ c ∈ a, Bit c) (la : (a.length : Int) = n) : keptR (a.map fl) (anyR off on) = keptR a (anyR on off) := by
  rw [kept_any, kept_any, sel_fl (u.at la), sel_fl (v.at la), fl_49 (sel_bit ha (v.at la)), fl_48 (sel_bit ha (u.at la)), Bool.or_comm]
def RuleOk (n : Int) (ds : List PyData) : Prop := ∀ d ∈ ds, Rule n d
def onD (d : List Nat) (m : Nat) : Bool := if d = [97, 110, 100] then decide (m = 2) else if d = [111, 114] then decide (0 < m) else if d = [109, 111, 115, 116] then decide (1 < m) else decide (m % 2 = 1)
def sgD (d : List Nat) (m : Nat) : Nat := if onD d m then 49 else 48
inductive Deed : List Nat → Nat → Prop
  | and : Deed [97, 110, 100] 2
  | or : Deed [111, 114] 2
  | most : Deed [109, 111, 115, 116] 3
  | odd : Deed [111, 100, 100] 3
theorem count_sg {b : List Nat} (hb : ∀ c ∈ b, Bit c) : (sg b).countP (fun z => PyData.eqv z (.str (S [49]))) = b.count 49 := by
  unfold sg
  rw [List.countP_map, List.count_eq_countP]
  congr 1
  funext c
  show PyData.eqv (.str (S [c])) (.str (S [49])) = _
  rw [eqv_s]
  by_cases q : c = 49
  · subst q; rfl
  · rw [decide_eq_false (by simpa using q)]
    exact (beq_eq_false_iff_ne.mpr q).symm
structure Sets (n : Nat) (ls : List (List Nat)) : Prop where
  len : ∀ l ∈ ls, l.length = n
  bit : ∀ l ∈ ls, ∀ c ∈ l, Bit c
theorem Sets.sub {n : Nat} {ls ms : List (List Nat)} (h : Sets n ls) (k : ∀ l ∈ ms, l ∈ ls) : Sets n ms := ⟨fun l hl => h.len l (k l hl), fun l hl => h.bit l (k l hl)⟩
def colD (ls : List (List Nat)) (k : Nat) : List Nat := ls.map fun l => l.getD k 0
def madeD (d : List Nat) (n : Nat) (ls : List (List Nat)) : List Nat := (List.range n).map fun k => sgD d ((colD ls k).count 49)
theorem Sets.col {n k : Nat} {ls : List (List Nat)} (h : Sets n ls) (hk : k < n) : ∀ c ∈ colD ls k, Bit c := fun c hc => by
  obtain ⟨l, hl, rfl⟩ := List.mem_map.mp hc
  have : k < l.length := by rw [h.len l hl]; exact hk
  refine h.bit l hl _ ?_
  rw [List.getD_eq_getElem?_getD, List.getElem?_eq_getElem this]
  exact List.getElem_mem this
theorem ix_c {M : List MO} {l : List Nat} {k n : Nat} (hl : l.length = n) (hk : k < n) (h1 : n ≤ 30) : rd (some [.str (S l), .int (k : Int)]) pIx M = .ok (.d (.str (S [l.getD k 0]))) M := by
  rw [rd_s, pIx_s, if_pos (sz (by omega)), at_sel (by omega)]
  rfl
theorem bl_true {α : Type} {l : List α} : (l.map fun _ => PyData.bool true) = bl (l.map fun _ => true) := by
  unfold bl
  rw [List.map_map]
  rfl
theorem made_perm {d : List Nat} {n : Nat} {ls ms : List (List Nat)} (p : ls.Perm ms) : madeD d n ls = madeD d n ms := by
  unfold madeD colD
  refine List.map_congr_left fun k _ => ?_
  rw [(p.map fun l => l.getD k 0).count_eq]
theorem made_same {d l : List Nat} {n k : Nat} (hd : Deed d k) (hl : l.length = n) (hb : ∀ c ∈ l, Bit c) : madeD d n (List.replicate k l) = l := by
  unfold madeD colD
  refine List.ext_getElem (by simp [hl]) fun i h1 h2 => ?_
  simp only [List.getElem_map, List.getElem_range, List.map_replicate]
  have e : l.getD i 0 = l[i] := by rw [List.getD_eq_getElem?_getD, List.getElem?_eq_getElem h2]; rfl
  rw [e]
  have := hb _ (List.getElem_mem h2)
  rcases this with q | q <;> rw [q] <;> cases hd <;> rfl
theorem made_bit {d : List Nat} {n : Nat} {ls : List (List Nat)} : (madeD d n ls).length = n ∧ ∀ c ∈ madeD d n ls, Bit c := by
  refine ⟨by simp [madeD], fun c hc => ?_⟩
  obtain ⟨k, _, rfl⟩ := List.mem_map.mp hc
  unfold sgD
  split
  · exact .inr rfl
  · exact .inl rfl
theorem sts_fine {n : Nat} {ls : List (List Nat)} (h : Sets n ls) (h1 : n ≤ 30) (hl : ls.length ≤ 1000) : Fine (.list (sts ls)) := (Sm.list (n := 1000) (D := 0) (B := 30) (fun d hd => by
  obtain ⟨l, hl, rfl⟩ := List.mem_map.mp hd
  exact Sm.str (bit_lt (h.bit l hl)) (by have := h.len l hl; omega)) (by simp [sts, hl])).fine (by decide) (by decide)
/-! what is a rule -/
def uN : PyData → Nat
  | .int i => i.toNat
  | _ => 0
theorem uN_oi {l : List Nat} : (oi l).map uN = l := by
  unfold oi
  rw [List.map_map]
  conv => rhs; rw [← List.map_id l]
  exact List.map_congr_left fun k _ => by simp [uN]
def disj : PyData → PyData → Bool
  | .tuple a, .tuple b => (a.map uN).all fun k => !decide (k ∈ b.map uN)
  | _, _ => false
def bit01 : PyData → Bool
  | .int i => decide (i = 0) || decide (i = 1)
  | _ => false
def ruleB (n : Int) : PyData → Bool
  | .tuple [.str w, a, b] => if w = S [97, 110, 121] then areO n a && (areO n b && disj a b) else decide (w = S [115, 117, 109]) && (areO n a && bit01 b)
  | _ => false
theorem disj_oi {a b : List Nat} : disj (.tuple (oi a)) (.tuple (oi b)) = a.all fun k => !decide (k ∈ b) := by
  show ((oi a).map _).all _ = _
  rw [uN_oi, uN_oi]
theorem areO_inv {n : Int} {x : PyData} (h : areO n x = true) : ∃ l, x = .tuple (oi l) ∧ ∀ k ∈ l, (k : Int) < n := by
  cases x with
  | tuple ds =>
    have h' : (ds.all (below n) && _) = true := h
    rw [Bool.and_eq_true] at h'
    obtain ⟨l, rfl, hl⟩ := below_oi h'.1
    exact ⟨l, rfl, hl⟩
  | _ => cases h
theorem in_bits {i : Int} : inB (.int i) (.tuple [.int 0, .int 1]) = some (bit01 (.int i)) := by
  show (if SeqAt.shaped (.int i) = true ∧ SeqAt.shaped (.tuple [.int 0, .int 1]) = true then some (([PyData.int 0, .int 1]).any fun z => PyData.eqv z (.int i)) else none) = _
  rw [if_pos ⟨shaped_i, by decide +kernel⟩]
  simp [bit01, eq_comm]
theorem in_bitsL {i : Int} : inB (.int i) (.list [.int 0, .int 1]) = some (bit01 (.int i)) := by
  show (if SeqAt.shaped (.int i) = true ∧ SeqAt.shaped (.list [.int 0, .int 1]) = true then some (([PyData.int 0, .int 1]).any fun z => PyData.eqv z (.int i)) else none) = _
  rw [if_pos ⟨shaped_i, by decide +kernel⟩]
  simp [bit01, eq_comm]
/-! rules as lists -/
inductive Shp : PyData → Prop
  | any (on off : List Nat) : Shp (anyR on off)
  | sum (on : List Nat) (r : Int) : Shp (sumR on r)
theorem ruleB_inv {n : Int} {x : PyData} (h : ruleB n x = true) : Shp x := by
  unfold ruleB at h
  split at h
  · rename_i w a b
    split at h
    · rename_i c
      subst c
      simp only [Bool.and_eq_true] at h
      obtain ⟨l, rfl, _⟩ := areO_inv h.1
      obtain ⟨k, rfl, _⟩ := areO_inv h.2.1
      exact .any l k
    · simp only [Bool.and_eq_true, decide_eq_true_eq] at h
      obtain ⟨rfl, h1, h2⟩ := h
      obtain ⟨l, rfl, _⟩ := areO_inv h1
      cases b with
      | int i => exact .sum l i
      | _ => cases h2
  · cases h
theorem Rule.is {n : Int} {x : PyData} (h : Rule n x) : ruleB n x = true := by
  cases h with
  | any u v d =>
    rename_i on off
    have : disj (.tuple (oi on)) (.tuple (oi off)) = true := by
      rw [disj_oi, List.all_eq_true]
      intro k hk
      simpa using d k hk
    simp [ruleB, anyR, u.are, v.are, this]
  | sum u r => rcases r with rfl | rfl <;> simp [ruleB, sumR, u.are, bit01]
def kindB (kd : List Nat) : PyData → Bool
  | .tuple [_, .tuple a, .tuple b] =>
    if kd = [97, 110, 100] then decide (a.length ≤ 1) else if kd = [111, 114] then decide (b.length ≤ 1)
    else if kd = [98, 111, 116, 104] then decide (a.length ≤ 1) && decide (b.length ≤ 1)
    else if kd = [109, 111, 115, 116] then decide (a.length + b.length ≤ 2) else false
  | .tuple [_, .tuple a, _] => decide (kd = [111, 100, 100]) || decide (kd = [112, 97, 105, 114, 115]) && decide (a.length ≤ 2)
  | _ => false
def kinds : List PyData := sts [[97, 110, 100], [111, 114], [109, 111, 115, 116], [111, 100, 100], [98, 111, 116, 104], [112, 97, 105, 114, 115]]
theorem kinds_kd : ∀ d ∈ kinds, ∃ kd, d = .str (S kd) ∧ Kind kd := fun d hd => by
  obtain ⟨l, hl, rfl⟩ := List.mem_map.mp hd
  refine ⟨l, rfl, ?_⟩
  simp only [List.mem_cons, List.not_mem_nil, or_false] at hl
  rcases hl with rfl | rfl | rfl | rfl | rfl | rfl
  · exact .and
  · exact .or
  · exact .most
  · exact .odd
  · exact .both
  · exact .pairs
theorem lst_sm {n : Int} {l : List Nat} (h : Up n l) (h1 : n ≤ 30) : Sm 1 3030 (.list (oi l)) := by
  refine (Sm.list (n := 30) (oi_nice fun k hk => by have := h.lt k hk; omega) ?_).mono (by decide) (by decide)
  rw [oi_len]
  rcases h.len with q | rfl
  · omega
  · simp
/-- a tuple of small things -/
theorem many_sm {ds : List PyData} (h : ∀ d ∈ ds, Sm 1 200 d) (hl : ds.length ≤ 100) : Sm 2 30000 (.tuple ds) := (Sm.tuple (n := 100) h hl).mono (by decide) (by decide)
theorem oi_small {n : Int} {l : List Nat} (h : Up n l) (h1 : n ≤ 30) : (∀ d ∈ oi l, Sm 1 200 d) ∧ (oi l).length ≤ 30 := by
  refine ⟨fun d hd => (oi_nice (fun k hk => by have := h.lt k hk; omega) d hd).mono (by decide) (by decide), ?_⟩
  rw [oi_len]
  rcases h.len with q | rfl
  · omega
  · simp
theorem cut_mem {α : Type} {xs : List α} {lo hi : Option Int} {x : α} (h : x ∈ cutL xs lo hi) : x ∈ xs := List.mem_of_mem_drop (List.mem_of_mem_take h)
theorem sRev_t {f : EF} {ρ : Rho} {M M' : List MO} {ds : List PyData} (h : f ρ M = .ok (.d (.tuple ds)) M') : sRev f ρ M = .ok (.d (.tuple ds.reverse)) M' := by
  unfold sRev
  rw [h]
  rfl
/-! a loop that may return -/
theorem forL_pre {gt : GF} {body : SF} {α : Type} (h : α → PyData) (I : List α → Rho → List MO → Prop) (R : W → List MO → Prop) : ∀ {ds pre : List α} {ρ : Rho} {M : List MO},
    (∀ (pre' post : List α) (d : α) (ρ : Rho) (M : List MO), pre ++ ds = pre' ++ d :: post → I pre' ρ M → ∃ ρ1 M1, gt (.d (h d)) ρ M = some (ρ1, M1) ∧ ((∃ ρ2 M2, body ρ1 M1 = .nx ρ2 M2 ∧ I (pre' ++ [d]) ρ2 M2) ∨ ∃ w M2, body ρ1 M1 = .ret w M2 ∧ R w M2)) → I pre ρ M →
    (∃ ρ' M', forL gt body (ds.map h) ρ M = .nx ρ' M' ∧ I (pre ++ ds) ρ' M') ∨ ∃ w M', forL gt body (ds.map h) ρ M = .ret w M' ∧ R w M'
  | [], pre, ρ, M, _, hi => .inl ⟨ρ, M, rfl, by rw [List.append_nil]; exact hi⟩
  | d :: ds, pre, ρ, M, hb, hi => by
    obtain ⟨ρ1, M1, e1, ⟨ρ2, M2, e2, h2⟩ | ⟨w, M2, e2, h2⟩⟩ := hb pre ds d ρ M rfl hi
    · rcases forL_pre h I R (ds := ds) (pre := pre ++ [d]) (ρ := ρ2) (M := M2) (fun p q x ρ M e hi => hb p q x ρ M (by rw [← e, List.append_assoc]; rfl) hi) h2 with ⟨ρ', M', e3, h3⟩ | ⟨w, M', e3, h3⟩
      · exact .inl ⟨ρ', M', by rw [List.map_cons, forL_cons, e1]; simp only [e2, nxt_nx, e3], by rw [List.append_assoc] at h3; exact h3⟩
      · exact .inr ⟨w, M', by rw [List.map_cons, forL_cons, e1]; simp only [e2, nxt_nx, e3], h3⟩
    · exact .inr ⟨w, M2, by rw [List.map_cons, forL_cons, e1]; simp only [e2, nxt_ret], h2⟩
/-! pairs -/
abbrev Pr2 := List Nat × Option (List Nat)
def dOpt : Option (List Nat) → PyData
  | none => .none
  | some l => .tuple (oi l)
def pd (p : Pr2) : PyData := .tuple [.tuple (oi p.1), dOpt p.2]
structure Prs (n : Nat) (P : List Pr2) : Prop where
  l : ∀ p ∈ P, Up n p.1
  r : ∀ p ∈ P, ∀ r, p.2 = some r → Up n r

def isNone : PyData → Bool
  | .none => true
  | _ => false
theorem isN_e {x : PyData} (h : nice x = true) : pIsN [x] = some (.bool (isNone x)) := by
  cases x with
  | dict _ => cases h
  | _ => rfl
def pairB (n : Int) : PyData → Bool
  | .tuple [l, r] => areO n l && (isNone r || areO n r)
  | _ => false
theorem in_oiL {k : Nat} {l : List Nat} (h : ∀ k ∈ l, k < 1000000) : inB (.int (k : Int)) (.list (oi l)) = some (decide (k ∈ l)) := by
  have s1 : SeqAt.shaped (.list (oi l)) = true := by
    have q := Sm.list (n := l.length) (oi_nice h) (by rw [oi_len]; exact Nat.le_refl _)
    exact shaped_of q.nice (by have := q.dep; omega)
  show (if SeqAt.shaped (.int (k : Int)) = true ∧ SeqAt.shaped (.list (oi l)) = true then some ((oi l).any fun z => PyData.eqv z (.int (k : Int))) else none) = _
  rw [if_pos ⟨shaped_i, s1⟩]
  congr 1
  rw [Bool.eq_iff_iff, List.any_eq_true, decide_eq_true_iff]
  constructor
  · rintro ⟨d, hd, e⟩
    obtain ⟨j, hj, rfl⟩ := List.mem_map.mp hd
    rw [eqv_i, decide_eq_true_iff] at e
    have : j = k := by omega
    rw [← this]; exact hj
  · intro hk
    exact ⟨_, List.mem_map.mpr ⟨k, hk, rfl⟩, by rw [eqv_i, decide_eq_true_iff]⟩
theorem sum_le {B : Nat} : ∀ {l : List Nat}, (∀ x ∈ l, x ≤ B) → l.sum ≤ l.length * B
  | [], _ => Nat.zero_le _
  | a :: l, h => by
    have := sum_le (l := l) fun x hx => h x (List.mem_cons_of_mem _ hx)
    have := h a List.mem_cons_self
    rw [List.sum_cons, List.length_cons, Nat.succ_mul]
    omega
theorem cut_to {α : Type} {xs : List α} {k : Nat} : cutL xs none (some (k : Int)) = xs.take k := by
  unfold cutL HT.sIx
  have h0 : ¬ ((k : Int) < 0) := by omega
  simp only [h0, if_false, Int.toNat_natCast, List.drop_zero, Nat.sub_zero]
  by_cases h : k ≤ xs.length
  · rw [Nat.min_eq_left h]
  · rw [Nat.min_eq_right (by omega), List.take_of_length_le (Nat.le_refl _), List.take_of_length_le (by omega)]
theorem setsC {P : List Nat → Prop} {ds : List PyData} : ∀ {xs : List PyData}, All2 (fun _ x => ∃ l, x = .str (S l) ∧ P l) ds xs → ∃ ls : List (List Nat), xs = sts ls ∧ ls.length = ds.length ∧ ∀ l ∈ ls, P l
  | _, .nil => ⟨[], rfl, rfl, fun _ h => nomatch h⟩
  | _, .cons ⟨c, hc, pc⟩ t => by
    obtain ⟨l, e, hl, hp⟩ := setsC t
    refine ⟨c :: l, by rw [hc, e]; rfl, by simp [hl], fun x hx => ?_⟩
    rcases List.mem_cons.mp hx with rfl | hx
    · exact pc
    · exact hp x hx
theorem Sets.app1 {n : Nat} {ls : List (List Nat)} {a : List Nat} (h : Sets n ls) (la : a.length = n) (ba : ∀ c ∈ a, Bit c) : Sets n (ls ++ [a]) := ⟨fun l hl => by
  rcases List.mem_append.mp hl with hl | hl
  · exact h.len l hl
  · rw [List.mem_singleton.mp hl]; exact la, fun l hl => by
  rcases List.mem_append.mp hl with hl | hl
  · exact h.bit l hl
  · rw [List.mem_singleton.mp hl]; exact ba⟩
theorem tri_of {p : List Nat} (h : (p.all fun c => decide (c = 48) || (decide (c = 49) || decide (c = 63))) = true) : ∀ c ∈ p, Tri c := fun c hc => by
  have := List.all_eq_true.mp h c hc
  simpa [Tri] using this
/-- how often a sign stands in a text -/
theorem occ_count {x : Str} {c : Nat} : ∀ (m j : Nat) (st : Array Nat × Nat), st.snd ≤ j → st.fst.size ≤ j → j + m ≤ x.length + 1 →
    (forIn (List.range' j m) st (StrLaws.occBody x ⟨#[c]⟩ x.length (x.length + 1))).run.fst.size = st.fst.size + ((List.range' j m).filter fun i => decide (x.cps.toList[i]? = some c)).length
  | 0, j, st, _, _, _ => rfl
  | m + 1, j, st, h1, h2, h3 => by
    rw [List.range'_succ, List.forIn_cons, List.filter_cons]
    unfold StrLaws.occBody
    by_cases hc : x.cps.toList[j]? = some c
    · have q := (StrLaws.subAt_one x c j).mpr hc
      rw [if_pos ⟨⟨⟨by omega, h1⟩, q.1⟩, q.2⟩]
      have ih := occ_count (x := x) (c := c) m (j + 1) (st.fst.push j, j + (⟨#[c]⟩ : Str).length) (Nat.le_refl _) (by rw [Array.size_push]; omega) (by omega)
      unfold StrLaws.occBody at ih
      refine Eq.trans ih ?_
      simp only [decide_eq_true hc, if_true, List.length_cons, Array.size_push]
      omega
    · rw [if_neg fun z => hc ((StrLaws.subAt_one x c j).mp ⟨z.1.2, z.2⟩)]
      have ih := occ_count (x := x) (c := c) m (j + 1) (st.fst, st.snd) (by show st.snd ≤ _; omega) (by show st.fst.size ≤ _; omega) (by omega)
      unfold StrLaws.occBody at ih
      refine Eq.trans ih ?_
      simp only [decide_eq_false hc, Bool.false_eq_true, if_false]
theorem nodup_sub_len : ∀ {l m : List Nat}, l.Nodup → (∀ x ∈ l, x ∈ m) → l.length ≤ m.length
  | [], _, _, _ => Nat.zero_le _
  | a :: l, m, h, hs => by
    rw [List.nodup_cons] at h
    have ha := hs a List.mem_cons_self
    have ih := nodup_sub_len (l := l) (m := m.erase a) h.2 fun x hx => (List.mem_erase_of_ne (fun e => h.1 (by rw [← e]; exact hx))).mpr (hs x (List.mem_cons_of_mem _ hx))
    have lp : 0 < m.length := List.length_pos_of_mem ha
    rw [List.length_erase_of_mem ha] at ih
    rw [List.length_cons]
    omega
theorem mixed_e (c k : Int) : ∃ r : Int, ∀ M, callF F_law_mixed 2 [.d (.int c), .d (.int k)] M = .ok (.d (.int r)) M := by
  suffices h : ∃ r : Int, F_law_mixed [.d (.int c), .d (.int k)] [] = .ok (.d (.int r)) [] from let ⟨r, e⟩ := h; ⟨r, fun M => callF_dx e⟩
  have h1 : ∀ x : Int, 0 ≤ x % 2147483629 ∧ x % 2147483629 < 2147483629 := fun x => ⟨Int.emod_nonneg _ (by decide), Int.emod_lt_of_pos _ (by decide)⟩
  have h2 : ∀ x : Int, 0 ≤ x % 2147483587 ∧ x % 2147483587 < 2147483587 := fun x => ⟨Int.emod_nonneg _ (by decide), Int.emod_lt_of_pos _ (by decide)⟩
  have m1 : ∀ x : Int, cMul x 48271 = true := fun x => cMul_s (by decide)
  have m2 : ∀ x : Int, cMul x 69621 = true := fun x => cMul_s (by decide)
  have m3 : ∀ x y : Int, cMul (x % 2147483629) y = true := fun x y => cMul_s' (by have := h1 x; omega)
  have m4 : ∀ x y : Int, cMul (x % 2147483587) y = true := fun x y => cMul_s' (by have := h2 x; omega)
  simp [F_law_mixed, b_law_mixed, m1, m2, m3, m4]
theorem take_e {M : List MO} {n : Nat} {p k : Int} (h : M[n]? = some (.lst [.int p])) (h0 : 0 < k) (h1 : k < 1073741824) :
    callF F_law_take 2 [.loc n, .d (.int k)] M = .ok (.d (.int (p % k))) (M.set n (.lst [.int (p / k)])) := by
  refine callF_px (J := []) h ?_
  have g : gS (sV 0) (sC (.int 0)) (.d (.int (p / k))) [some (.loc 0), some (.d (.int k)), some (.d (.int (p % k)))] [.lst [.int p]] = some ([some (.loc 0), some (.d (.int k)), some (.d (.int (p % k)))], [.lst [.int (p / k)]]) := by
    exact gS_e (n := 0) (j := 0) (k := 0) (M1 := [.lst [.int p]]) (M2 := [.lst [.int p]]) (ds := [.int p]) rfl rfl rfl rfl
  simp [F_law_take, b_law_take, h0, h1, g]
theorem pick_e {M : List MO} {n : Nat} {p : Int} (h : M[n]? = some (.lst [.int p])) (xs : List PyData) (hx : xs ≠ []) (hl : xs.length ≤ 1000) : ∃ (x : PyData), x ∈ xs ∧ atI xs (p % (xs.length : Int)) = some x ∧ callF F_law_take 2 [.loc n, .d (.int (xs.length : Int))] M = .ok (.d (.int (p % (xs.length : Int)))) (M.set n (.lst [.int (p / (xs.length : Int))])) := by
  have h0 : 0 < xs.length := List.length_pos_iff.mpr hx
  have h1 : 0 ≤ p % (xs.length : Int) := Int.emod_nonneg _ (by omega)
  have h2 : p % (xs.length : Int) < xs.length := Int.emod_lt_of_pos _ (by omega)
  obtain ⟨x, e, m⟩ := atI_mem h1 h2
  exact ⟨x, m, e, take_e h (by omega) (by omega)⟩
/-- a script's pile -/
theorem pile_2 (ns : List Int) (k c : Int) (M : List MO) : ∃ p : Int, b_law_pile_2 [some (.scr ns), some (.d (.int k)), some (.d (.int c)), none, none] M = .ret (.loc M.length) (M ++ [.lst [.int p]]) := by
  have w1 : cPow 10 18 = true := by decide
  have w2 : cPow 10 60 = true := by decide
  have m1 : ∀ x : Int, cMul x 2147483579 = true := fun x => cMul_s (by decide)
  have m2 : ∀ x : Int, cMul 7 x = true := fun x => cMul_s' (by decide)
  have m3 : ∀ x : Int, cMul 100 x = true := fun x => cMul_s' (by decide)
  have s1 : 1 ≤ sizeLine := sz (by decide)
  obtain ⟨ρ', M', e, p, y, rfl, rfl⟩ := forL_inv (gt := gN 4) (body := f1_law_pile)
    (fun ρ N => ∃ (p : Int) (y : Option W), ρ = [some (.scr ns), some (.d (.int k)), some (.d (.int c)), some (.d (.int p)), y] ∧ N = M) (fun d => ∃ i : Int, d = .int i ∧ 0 ≤ i ∧ i < 24)
    (fun d ρ N ⟨i, hd, i0, i1⟩ ⟨p, y, hρ, hN⟩ => by
      subst hd hρ hN
      obtain ⟨r, hr⟩ := mixed_e c (7 * k + 100 * i + i * i)
      have m7 : cMul i i = true := cMul_s (by omega)
      refine ⟨_, _, rfl, ?_⟩
      simp [f1_law_pile, m1, m2, m3, m7, hr])
    (ds := rng 0 24) (ρ := [some (.scr ns), some (.d (.int k)), some (.d (.int c)), some (.d (.int 0)), none]) (M := M) (fun d hd => by obtain ⟨i, rfl, a, b⟩ := mem_rng hd; exact ⟨i, rfl, a, by omega⟩) ⟨0, none, rfl, rfl⟩
  by_cases hc : (1000000000000000000 : Int) ≤ c
  · refine ⟨(c - 10 ^ 18) % (10 ^ 60 * 10 ^ 60 * 10 ^ 60 * 10 ^ 60), ?_⟩
    simp [b_law_pile_2, w1, w2, hc]
    rw [if_pos (by decide +kernel)]
    simp
    rw [if_pos (by decide +kernel)]
    simp
    rw [if_pos (by decide +kernel)]
    simp [s1]
  · refine ⟨p, ?_⟩
    simp [b_law_pile_2, b_law_pile_3, b_law_pile_4, b_law_pile_5, w1, hc, s1, e]
theorem pile_e (ns : List Int) {k : Int} (h0 : 0 ≤ k) (M : List MO) : ∃ p : Int, F_law_pile [.scr ns, .d (.int k)] M = .ok (.loc M.length) (M ++ [.lst [.int p]]) := by
  by_cases hk : k < ns.length
  · obtain ⟨c, hc, _⟩ := atI_mem h0 hk
    obtain ⟨p, hp⟩ := pile_2 ns k c M
    refine ⟨p, ?_⟩
    simp [F_law_pile, b_law_pile, b_law_pile_1, hk, pLenS, pIxS, hc, hp]
  · obtain ⟨p, hp⟩ := pile_2 ns k 0 M
    refine ⟨p, ?_⟩
    simp [F_law_pile, b_law_pile, b_law_pile_1, hk, pLenS, hp]
theorem whole_e {M : List MO} {n : Int} : callF F_is_whole 1 [.d (.int n)] M = .ok (.d (.bool true)) M := by
  refine callF_dx (J := []) ?_
  simp [F_is_whole, b_is_whole, isT]
theorem is_size_e {M : List MO} {n : Int} (h0 : 1 ≤ n) (h1 : n ≤ 30) : callF F_is_size 1 [.d (.int n)] M = .ok (.d (.bool true)) M := by
  refine callF_dx (J := []) ?_
  simp [F_is_size, b_is_size, whole_e, h0, h1]
theorem look_size_e {M : List MO} {n : Int} (h0 : 1 ≤ n) (h1 : n ≤ 30) : callF F_look_at_size 1 [.d (.int n)] M = .ok (.d .none) M := by
  refine callF_dx (J := []) ?_
  simp [F_look_at_size, b_look_at_size, is_size_e h0 h1]
theorem whole_x {M : List MO} {x : PyData} : callF F_is_whole 1 [.d x] M = .ok (.d (.bool (whole x))) M := by
  refine callF_dx (J := []) ?_
  cases x <;> simp [F_is_whole, b_is_whole, isT, whole]
theorem below_e {M : List MO} {n : Int} {x : PyData} : callF F_is_below 2 [.d x, .d (.int n)] M = .ok (.d (.bool (below n x))) M := by
  refine callF_dx (J := []) ?_
  cases x with
  | int i => by_cases h : 0 ≤ i <;> simp [F_is_below, b_is_below, whole_x, whole, below, h]
  | _ => simp [F_is_below, b_is_below, whole_x, whole, below]
theorem options_e {M : List MO} {n : Int} {x : PyData} (hx : ∀ ds, x = .tuple ds → ds.length ≤ 200000) : callF F_are_options 2 [.d (.int n), .d x] M = .ok (.d (.bool (areO n x))) M := by
  refine callF_dx (J := []) ?_
  by_cases ht : ∃ ds, x = .tuple ds
  · obtain ⟨ds, rfl⟩ := ht
    have hl := hx ds rfl
    have c1 := szT (show ds.length ≤ 16777216 by omega)
    have e1 : compL (gN 3) sYes x1_are_options [some (.d (.int n)), some (.d (.tuple ds)), none, none] ds [] = some (bl (ds.map (below n)), []) := by
      have := compL_map (gt := gN 3) (tt := sYes) (te := x1_are_options) (ρ := [some (.d (.int n)), some (.d (.tuple ds)), none, none]) (M := []) (fun d => .bool (below n d)) (ds := ds) fun d _ => ⟨_, rfl, rfl, by simp [x1_are_options, below_e]⟩
      rw [this]
      simp [bl]
    by_cases hb : ds.all (below n) = true
    · obtain ⟨l, rfl, hk⟩ := below_oi hb
      rw [areO_oi hk]
      rw [oi_len] at hl c1
      have e2 : compL (gN 2) sYes x2_are_options [some (.d (.int n)), some (.d (.tuple (oi l))), none, none] (rng 0 (l.length - 1)) [] = some (bl ((List.range (l.length - 1)).map fun p => decide (l.getD p 0 < l.getD (p + 1) 0)), []) := by
        unfold rng
        rw [compL_all _ (fun p => .bool (decide (l.getD p 0 < l.getD (p + 1) 0))) fun p hp => ⟨_, rfl, rfl, ?_⟩]
        · simp [bl]
        · rw [List.mem_range] at hp
          have a1 : atI (oi l) ((0 : Int) + (p : Int)) = some (.int ((l.getD p 0 : Nat) : Int)) := by
            rw [atI_e (by omega), show ((0 : Int) + (p : Int)).toNat = p by omega, oi_at (by omega)]
          have a2 : atI (oi l) ((0 : Int) + (p : Int) + 1) = some (.int ((l.getD (p + 1) 0 : Nat) : Int)) := by
            rw [atI_e (by omega), show ((0 : Int) + (p : Int) + 1).toNat = p + 1 by omega, oi_at (by omega)]
          have a3 : decide (((l.getD p 0 : Nat) : Int) < ((l.getD (p + 1) 0 : Nat) : Int)) = decide (l.getD p 0 < l.getD (p + 1) 0) := by
            rw [Bool.eq_iff_iff, decide_eq_true_iff, decide_eq_true_iff]
            omega
          simp only [x2_are_options, sPr_d, evs_cons, evs_nil, sV_e, sC_e, bind_ok, List.getElem?_cons_zero, List.getElem?_cons_succ, List.set_cons_succ, List.set_cons_zero, optW_s, vws_cons, vws_nil, vw_d, Option.bind_some, Option.map_some, rd_s, pIx_t, a1, asD_s, pAdd_i, a2, pLt_i, a3]
      have r1 : asR1 [.d (.int ((l.length : Int) - 1))] ([] : List MO) = .ok (rng 0 (l.length - 1)) [] := by
        rw [asR1_c (by omega), show ((l.length : Int) - 1).toNat = l.length - 1 by omega]
      have c2 := szT (show l.length - 1 ≤ 16777216 by omega)
      simp [F_are_options, b_are_options, isT, c1, e1, hb, Function.comp_def, r1, rng_len, c2, e2, adj]
    · have h0 : areO n (.tuple ds) = false := by
        show (ds.all (below n) && _) = false
        rw [Bool.eq_false_iff.mpr hb, Bool.false_and]
      rw [h0]
      have hb' := Bool.eq_false_iff.mpr hb
      have hb2 : (ds.map (below n)).all id = false := by rw [← hb']; simp [Function.comp_def]
      simp [F_are_options, b_are_options, isT, c1, e1, -List.all_map, hb2]
  · cases x with
    | tuple ds => exact absurd ⟨ds, rfl⟩ ht
    | _ => simp [F_are_options, b_are_options, isT, areO]
theorem Up.opt {M : List MO} {n : Int} {l : List Nat} (h : Up n l) (h1 : n ≤ 1000) : callF F_are_options 2 [.d (.int n), .d (.tuple (oi l))] M = .ok (.d (.bool true)) M := by
  rw [options_e fun ds e => by
    cases e
    rw [oi_len]
    rcases h.len with q | rfl
    · omega
    · simp, h.are]

theorem opt_f {M : List MO} {n : Int} {x : PyData} (hf : Fine x) : callF F_are_options 2 [.d (.int n), .d x] M = .ok (.d (.bool (areO n x))) M := options_e fun ds e => by
  subst e
  exact hf.tl
theorem law_whole_e {M : List MO} {x : PyData} : callF F_law_whole 1 [.d x] M = .ok (.d (.bool (whole x))) M := by
  refine callF_dx (J := []) ?_
  cases x <;> simp [F_law_whole, b_law_whole, isT, whole]
theorem filter_nil {ds : List PyData} {n : Int} : (ds.filter fun d => !below n d).isEmpty = ds.all (below n) := by
  rw [Bool.eq_iff_iff, List.isEmpty_iff, List.filter_eq_nil_iff, List.all_eq_true]
  simp
theorem law_options_e {M : List MO} {n : Int} {x : PyData} (hf : Fine x) : callF F_law_options 2 [.d (.int n), .d x] M = .ok (.d (.bool (areO n x))) M := by
  refine callF_dx (J := []) ?_
  by_cases ht : ∃ ds, x = .tuple ds
  · obtain ⟨ds, rfl⟩ := ht
    have hl := hf.tl
    have c1 := szT (show ds.length ≤ 16777216 by omega)
    have e1 : compL (gN 2) y1_law_options x1_law_options [some (.d (.int n)), some (.d (.tuple ds)), none] ds [] = some ((ds.filter fun d => !below n d).map id, []) := by
      refine compL_pure _ _ fun d _ => ⟨_, rfl, ?_, fun _ => by simp [x1_law_options]⟩
      cases d with
      | int i =>
        by_cases h0 : i < 0
        · simp [y1_law_options, law_whole_e, whole, below, h0, show ¬ 0 ≤ i by omega]
        · by_cases h1 : n ≤ i
          · simp [y1_law_options, law_whole_e, whole, below, h0, h1, show ¬ i < n by omega]
          · simp [y1_law_options, law_whole_e, whole, below, h0, h1, show 0 ≤ i by omega, show i < n by omega]
      | _ => simp [y1_law_options, law_whole_e, whole, below]
    rw [List.map_id] at e1
    have hs := hf.tf fun d => !below n d
    have hv := filter_nil (ds := ds) (n := n)
    generalize ds.filter (fun d => !below n d) = F at e1 hs hv
    by_cases hb : ds.all (below n) = true
    · obtain ⟨l, rfl, hk⟩ := below_oi hb
      rw [areO_oi hk]
      rw [oi_len] at hl c1
      rw [hb] at hv
      have e2 : compL (gN 2) y2_law_options x2_law_options [some (.d (.int n)), some (.d (.tuple (oi l))), none] (rng 1 (l.length - 1)) [] = some (((List.range (l.length - 1)).filter fun p => !decide (l.getD p 0 < l.getD (p + 1) 0)).map (fun (p : Nat) => PyData.int ((1 : Int) + p)), []) := by
        unfold rng
        refine compL_on _ _ _ fun p hp => ⟨_, rfl, ?_, fun _ => by simp [x2_law_options]⟩
        rw [List.mem_range] at hp
        have a1 : atI (oi l) ((1 : Int) + (p : Int) - 1) = some (.int ((l.getD p 0 : Nat) : Int)) := by
          rw [atI_e (by omega), show ((1 : Int) + (p : Int) - 1).toNat = p by omega, oi_at (by omega)]
        have a2 : atI (oi l) ((1 : Int) + (p : Int)) = some (.int ((l.getD (p + 1) 0 : Nat) : Int)) := by
          rw [atI_e (by omega), show ((1 : Int) + (p : Int)).toNat = p + 1 by omega, oi_at (by omega)]
        have a3 : decide (((l.getD (p + 1) 0 : Nat) : Int) ≤ ((l.getD p 0 : Nat) : Int)) = !decide (l.getD p 0 < l.getD (p + 1) 0) := by
          rw [Bool.eq_iff_iff, decide_eq_true_iff, Bool.not_eq_true', decide_eq_false_iff_not]
          omega
        simp only [y2_law_options, sVal_e, sPr_d, evs_cons, evs_nil, sV_e, sC_e, bind_ok, List.getElem?_cons_zero, List.getElem?_cons_succ, List.set_cons_succ, List.set_cons_zero, optW_s, vws_cons, vws_nil, vw_d, Option.bind_some, Option.map_some, rd_s, pIx_t, a1, asD_s, pSub_i, a2, pGe_i, a3, asB_b]
      have r1 : asR2 [.d (.int 1), .d (.int (l.length : Int))] ([] : List MO) = .ok (rng 1 (l.length - 1)) [] := by
        rw [asR2_c (by decide) (by omega), show ((l.length : Int) - 1).toNat = l.length - 1 by omega]
      have c2 := szT (show l.length - 1 ≤ 16777216 by omega)
      have hv2 : (((List.range (l.length - 1)).filter fun p => !decide (l.getD p 0 < l.getD (p + 1) 0)).map (fun (p : Nat) => PyData.int ((1 : Int) + p))).isEmpty = adj l := by
        unfold adj
        rw [Bool.eq_iff_iff, List.isEmpty_iff, List.map_eq_nil_iff, List.filter_eq_nil_iff, List.all_eq_true]
        simp
      have hs2 : SeqAt.shaped (.list (((List.range (l.length - 1)).filter fun p => !decide (l.getD p 0 < l.getD (p + 1) 0)).map (fun (p : Nat) => PyData.int ((1 : Int) + p)))) = true := by
        refine shaped_of (show niceA _ = true from niceA_of fun d hd => ?_) ?_
        · obtain ⟨p, hp, rfl⟩ := List.mem_map.mp hd
          have := List.mem_range.mp (List.mem_filter.mp hp).1
          exact (Sm.int (i := 1 + (p : Int)) (by omega)).nice
        · have := depthA_le (B := 0) (ds := ((List.range (l.length - 1)).filter fun p => !decide (l.getD p 0 < l.getD (p + 1) 0)).map (fun (p : Nat) => PyData.int ((1 : Int) + p))) fun d hd => by
            obtain ⟨p, hp, rfl⟩ := List.mem_map.mp hd
            exact Nat.le_refl _
          simp only [PyData.depth]
          omega
      generalize ((List.range (l.length - 1)).filter fun p => !decide (l.getD p 0 < l.getD (p + 1) 0)).map (fun (p : Nat) => PyData.int ((1 : Int) + p)) = G at e2 hv2 hs2
      simp [F_law_options, b_law_options, isT, c1, e1, hs, eqv_nil, hv, r1, rng_len, c2, e2, hs2, hv2]
    · have h0 : areO n (.tuple ds) = false := by
        show (ds.all (below n) && _) = false
        rw [Bool.eq_false_iff.mpr hb, Bool.false_and]
      rw [h0]
      rw [Bool.eq_false_iff.mpr hb] at hv
      simp [F_law_options, b_law_options, isT, c1, e1, hs, eqv_nil, hv]
  · cases x with
    | tuple ds => exact absurd ⟨ds, rfl⟩ ht
    | _ => simp [F_law_options, b_law_options, isT, areO]
theorem right_pair_e {M : List MO} {n : Int} {x : PyData} (hf : Fine x) : callF F_is_right_pair 2 [.d (.int n), .d x] M = .ok (.d (.bool (pairB n x))) M := by
  refine callF_dx (J := []) ?_
  cases x with
  | tuple ds =>
    match ds, hf with
    | [], _ => simp [F_is_right_pair, b_is_right_pair, isT, pairB]
    | [a], _ => simp [F_is_right_pair, b_is_right_pair, isT, pairB]
    | [l, r], hf =>
      have e1 := opt_f (M := []) (n := n) (hf.mem (d := l) (by simp))
      have e2 := opt_f (M := []) (n := n) (hf.mem (d := r) (by simp))
      have e3 := isN_e (hf.mem (d := r) (by simp)).nice
      cases q1 : areO n l <;> cases q2 : isNone r <;> simp [F_is_right_pair, b_is_right_pair, isT, pairB, e1, e2, e3, q1, q2]
    | a :: b :: c :: r, _ =>
      have h : ¬ ((r.length : Int) + 1 + 1 + 1 = 2) := by omega
      simp [F_is_right_pair, b_is_right_pair, isT, pairB, h]
  | _ => simp [F_is_right_pair, b_is_right_pair, isT, pairB]
theorem law_f {M : List MO} {n : Int} {x : PyData} (h1 : n ≤ 30) (hf : Fine x) : callF F_law_is_rule 2 [.d (.int n), .d x] M = .ok (.d (.bool (ruleB n x))) M := by
  refine callF_dx (J := []) ?_
  cases x with
  | tuple ds =>
    match ds, hf with
    | [], _ => simp [F_law_is_rule, b_law_is_rule, isT, ruleB]
    | [a], _ => simp [F_law_is_rule, b_law_is_rule, isT, ruleB]
    | [a, b], _ => simp [F_law_is_rule, b_law_is_rule, isT, ruleB]
    | [w, a, b], hf =>
      have fa := hf.mem (d := a) (by simp)
      have fb := hf.mem (d := b) (by simp)
      have e1 := law_options_e (M := []) (n := n) fa
      have e2 := law_options_e (M := []) (n := n) fb
      cases w with
      | str w =>
        by_cases c1 : w = S [97, 110, 121]
        · subst c1
          cases q1 : areO n a with
          | false => simp [F_law_is_rule, b_law_is_rule, isT, ruleB, e1, q1]
          | true =>
            cases q2 : areO n b with
            | false => simp [F_law_is_rule, b_law_is_rule, isT, ruleB, e1, q1, e2, q2]
            | true =>
              obtain ⟨on, rfl, h3⟩ := areO_inv q1
              obtain ⟨off, rfl, h4⟩ := areO_inv q2
              have la := fa.tl
              rw [oi_len] at la
              have e : compL (gN 2) y1_law_is_rule x1_law_is_rule [some (.d (.int n)), some (.d (.tuple [.str (S [97, 110, 121]), .tuple (oi on), .tuple (oi off)])), none] (oi on) [] = some (oi (on.filter fun k => decide (k ∈ off)), []) := by
                unfold oi
                refine compL_on _ _ _ fun k hk => ⟨_, rfl, ?_, fun _ => by simp [x1_law_is_rule]⟩
                have := in_oi (k := k) (l := off) fun x hx => by have := h4 x hx; omega
                unfold oi at this
                simp [y1_law_is_rule, this]
              have hg : (oi (on.filter fun k => decide (k ∈ off))).isEmpty = disj (.tuple (oi on)) (.tuple (oi off)) := by
                rw [disj_oi, Bool.eq_iff_iff, List.isEmpty_iff]
                unfold oi
                rw [List.map_eq_nil_iff, List.filter_eq_nil_iff]
                simp
              have hs : SeqAt.shaped (.list (oi (on.filter fun k => decide (k ∈ off)))) = true := by
                have q := Sm.list (n := (oi (on.filter fun k => decide (k ∈ off))).length) (oi_nice (l := on.filter fun k => decide (k ∈ off)) fun k hk => by have := h3 k (List.mem_filter.mp hk).1; omega) (Nat.le_refl _)
                exact shaped_of q.nice (by have := q.dep; omega)
              generalize oi (on.filter fun k => decide (k ∈ off)) = G at e hg hs
              simp [F_law_is_rule, b_law_is_rule, isT, ruleB, e1, q1, e2, q2, szT (show on.length ≤ 16777216 by omega), e, hs, eqv_nil, hg]
        · by_cases c2 : w = S [115, 117, 109]
          · cases q1 : areO n a with
            | false => simp [F_law_is_rule, b_law_is_rule, isT, ruleB, c2, e1, q1]
            | true =>
              cases b with
              | int i => simp [F_law_is_rule, b_law_is_rule, isT, ruleB, c2, e1, q1, law_whole_e, whole, szT, in_bitsL]
              | _ => simp [F_law_is_rule, b_law_is_rule, isT, ruleB, c2, e1, q1, law_whole_e, whole, bit01]
          · simp [F_law_is_rule, b_law_is_rule, isT, ruleB, c1, c2]
      | _ => simp [F_law_is_rule, b_law_is_rule, isT, ruleB]
    | a :: b :: c :: d :: r, _ =>
      have h : ¬ ((r.length : Int) + 1 + 1 + 1 + 1 = 3) := by omega
      simp [F_law_is_rule, b_law_is_rule, isT, ruleB, h]
  | _ => simp [F_law_is_rule, b_law_is_rule, isT, ruleB]
/-! a pile's rules -/
theorem some_f {M : List MO} {n : Nat} {p k m : Int} (h : M[n]? = some (.lst [.int p])) (k0 : 0 ≤ k) (k1 : k ≤ 1000) :
    ∃ (l : List Nat) (q : Int), callF F_law_some 3 [.loc n, .d (.int k), .d (.int m)] M = .ok (.d (.tuple (oi l))) (M.set n (.lst [.int q])) ∧ Up k l ∧ ((l.length : Int) ≤ m ∨ l = []) := by
  obtain ⟨ρ', M', e, y4, l, q, rfl, rfl, hl, hp, hm⟩ := forL_rng (gt := gN 4) (body := f1_law_some) (n := k.toNat) (ρ := [some (.loc 0), some (.d (.int k)), some (.d (.int m)), some (.loc 1), none]) (M := [.lst [.int p], .lst (oi [])])
    (fun i ρ N => ∃ (y4 : Option W) (l : List Nat) (q : Int), ρ = [some (.loc 0), some (.d (.int k)), some (.d (.int m)), some (.loc 1), y4] ∧ N = [.lst [.int q], .lst (oi l)] ∧ (∀ x ∈ l, x < i) ∧ l.Pairwise (· < ·) ∧ ((l.length : Int) ≤ m ∨ l = []))
    (fun i ρ N hi ⟨y4, l, q, hρ, hN, hl, hp, hm⟩ => by
      subst hρ hN
      have ll := up_len hp hl
      refine ⟨_, _, rfl, ?_⟩
      by_cases c1 : (l.length : Int) < m
      · have t := take_e (M := [.lst [.int q], .lst (oi l)]) (n := 0) (p := q) (k := 3) rfl (by decide) (by decide)
        simp at t
        by_cases c2 : q % 3 = 0
        · refine ⟨_, _, ?_, some (.d (.int (i : Int))), l ++ [i], q / 3, rfl, rfl, fun x hx => ?_, ?_, .inl (by rw [List.length_append]; simp; omega)⟩
          · have ap := pAppend_e (M := [.lst [.int (q / 3)], .lst (oi l)]) (i := 1) (ds := oi l) (x := .int (i : Int)) rfl (by rw [sizeLine_eq, oi_len]; omega)
            have oe : oi (l ++ [i]) = oi l ++ [.int (i : Int)] := by simp [oi]
            simp [f1_law_some, c1, t, c2, ap, oe, tyW_l (M := [.lst [.int (q / 3)], .lst (oi l)]) (i := 1) (ds := oi l) rfl]
          · rcases List.mem_append.mp hx with hx | hx
            · have := hl x hx; omega
            · rw [List.mem_singleton.mp hx]; omega
          · rw [List.pairwise_append]
            exact ⟨hp, List.pairwise_singleton _ _, fun x hx y hy => by rw [List.mem_singleton.mp hy]; exact hl x hx⟩
        · refine ⟨_, _, ?_, some (.d (.int (i : Int))), l, q / 3, rfl, rfl, fun x hx => by have := hl x hx; omega, hp, hm⟩
          simp [f1_law_some, c1, t, c2]
      · refine ⟨_, _, ?_, some (.d (.int (i : Int))), l, q, rfl, rfl, fun x hx => by have := hl x hx; omega, hp, hm⟩
        simp [f1_law_some, c1]) ⟨none, [], p, rfl, rfl, (fun _ h => by cases h), .nil, .inr rfl⟩
  refine ⟨l, q, callF_px (J := [.lst (oi l)]) h ?_, ⟨fun x hx => by have := hl x hx; omega, hp⟩, hm⟩
  have r1 := asR1_c (M := [.lst [.int p], .lst []]) (j := k) (by omega)
  rw [oi_nil] at e
  simp [F_law_some, b_law_some, b_law_some_1, b_law_some_2, szT, r1, e]
theorem some_e {M : List MO} {n : Nat} {p k m : Int} (h : M[n]? = some (.lst [.int p])) (k0 : 0 ≤ k) (k1 : k ≤ 1000) :
    ∃ (l : List Nat) (q : Int), callF F_law_some 3 [.loc n, .d (.int k), .d (.int m)] M = .ok (.d (.tuple (oi l))) (M.set n (.lst [.int q])) ∧ Up k l :=
  let ⟨l, q, e, u, _⟩ := some_f (m := m) h k0 k1
  ⟨l, q, e, u⟩
/-! errors -/
def resX (c : Bool) (e : Str) (M : List MO) : Res W := if c = true then .ok (.d .none) M else .err ⟨e, none⟩ M
theorem resX_t {e : Str} {M : List MO} : resX true e M = .ok (.d .none) M := rfl
theorem resX_f {e : Str} {M : List MO} : resX false e M = .err ⟨e, none⟩ M := rfl
def sizeOk : PyData → Bool
  | .int i => decide (1 ≤ i) && decide (i ≤ 30)
  | _ => false
def setsOk (n : Int) : PyData → Bool
  | .list ds => ds.all (textOf [48, 49] n)
  | _ => false
theorem fine_short {x : PyData} (h : Fine x) : Short x := fun s e => by
  subst e
  have := (Fine.txt (l := s.cps.toList) (by rw [← S_of]; exact h)).1
  rw [Array.length_toList] at this
  have h2 := h.wt
  have e : PyData.weight (.str s) = s.cps.size := rfl
  omega
theorem sizeOk_iff {x : PyData} (h : sizeOk x = true) : ∃ n : Nat, x = .int (n : Int) ∧ 1 ≤ n ∧ n ≤ 30 := by
  cases x with
  | int i =>
    have h' : (decide (1 ≤ i) && decide (i ≤ 30)) = true := h
    simp only [Bool.and_eq_true, decide_eq_true_eq] at h'
    exact ⟨i.toNat, by rw [Int.toNat_of_nonneg (by omega)], by omega, by omega⟩
  | _ => cases h
theorem sizeOk_n {n : Nat} (h0 : 1 ≤ n) (h1 : n ≤ 30) : sizeOk (.int (n : Int)) = true := by
  show (decide (1 ≤ (n : Int)) && decide ((n : Int) ≤ 30)) = true
  simp only [Bool.and_eq_true, decide_eq_true_eq]
  omega

theorem f3 {D B : Nat} {a b c : PyData} (h1 : Sm D B a) (h2 : Sm D B b) (h3 : Sm D B c) (hD : D ≤ 19) (hB : B ≤ 60000) : Fine (.list [a, b, c]) := by
  have := Sm.list (n := 3) (ds := [a, b, c]) (D := D) (B := B) (fun d hd => by
    simp only [List.mem_cons, List.not_mem_nil, or_false] at hd
    rcases hd with rfl | rfl | rfl <;> assumption) (Nat.le_refl _)
  exact this.fine (by omega) (by omega)
theorem f4 {a b c d : PyData} (h1 : Sm 2 4000 a) (h2 : Sm 2 4000 b) (h3 : Sm 3 100000 c) (h4 : Sm 2 4000 d) : Fine (.list [a, b, c, d]) := by
  have n1 := h1.nice; have n2 := h2.nice; have n3 := h3.nice; have n4 := h4.nice
  have d1 := h1.dep; have d2 := h2.dep; have d3 := h3.dep; have d4 := h4.dep
  have w1 := h1.wt; have w2 := h2.wt; have w3 := h3.wt; have w4 := h4.wt
  refine ⟨?_, ?_, ?_⟩
  · show niceA [a, b, c, d] = true
    simp [niceA, n1, n2, n3, n4]
  · simp only [PyData.depth, PyData.depthAll]
    omega
  · simp only [PyData.weight, PyData.weightAll]
    omega
theorem is_size_x {M : List MO} {x : PyData} : callF F_is_size 1 [.d x] M = .ok (.d (.bool (sizeOk x))) M := by
  refine callF_dx (J := []) ?_
  cases x with
  | int i =>
    by_cases a : 1 ≤ i <;> by_cases b : i ≤ 30 <;> simp [F_is_size, b_is_size, whole_x, whole, sizeOk, a, b]
  | _ => simp [F_is_size, b_is_size, whole_x, whole, sizeOk]
theorem look_size_x {M : List MO} {x : PyData} : callF F_look_at_size 1 [.d x] M = resX (sizeOk x) "NoSize" M := by
  cases h : sizeOk x
  · exact callF_dr (J := []) (by simp [F_look_at_size, b_look_at_size, is_size_x, h])
  · exact callF_dx (J := []) (by simp [F_look_at_size, b_look_at_size, is_size_x, h])
theorem lerr_none {M : List MO} : callF F_law_error 1 [.d .none] M = .ok (.d (.str (S []))) M := callF_dx (J := []) (by rfl)
theorem lerr_NoKind {M : List MO} : callF F_law_error 1 [.exc ⟨"NoKind", none⟩] M = .ok (.d (.str (S [107, 105, 110, 100]))) M := callF_dx (J := []) (by rfl)
theorem lerr_NoSize {M : List MO} : callF F_law_error 1 [.exc ⟨"NoSize", none⟩] M = .ok (.d (.str (S [115, 105, 122, 101]))) M := callF_dx (J := []) (by rfl)
theorem lerr_NoSettings {M : List MO} : callF F_law_error 1 [.exc ⟨"NoSettings", none⟩] M = .ok (.d (.str (S [115, 101, 116, 116, 105, 110, 103, 115]))) M := callF_dx (J := []) (by rfl)
theorem lerr_NoPartial {M : List MO} : callF F_law_error 1 [.exc ⟨"NoPartial", none⟩] M = .ok (.d (.str (S [112, 97, 114, 116, 105, 97, 108]))) M := callF_dx (J := []) (by rfl)
theorem lerr_Fitted {M : List MO} : callF F_law_error 1 [.exc ⟨"Fitted", none⟩] M = .ok (.d (.str (S [102, 105, 116, 116, 101, 100]))) M := callF_dx (J := []) (by rfl)
theorem lerr_Unfit {M : List MO} : callF F_law_error 1 [.exc ⟨"Unfit", none⟩] M = .ok (.d (.str (S [117, 110, 102, 105, 116]))) M := callF_dx (J := []) (by rfl)
end K61
namespace K61
open PySem PySem.Spec PyProof.Rows L2 Y
open TL
theorem pJoin_S {b : List Nat} {ls : List (List Nat)} (h : (ls.map List.length).sum + ls.length * b.length ≤ 16777216) : pJoin [.str (S b), .list (sts ls)] = some (.str (S (joinL b ls))) := by
  show (match strsD (sts ls) with | some ys => if (ys.map fun z : Str => z.length).sum + ys.length * (S b).length ≤ 16777216 then some (PyData.str (Txt.join (S b) ys)) else none | none => none) = _
  rw [strsD_sts]
  have e : ((ls.map S).map fun z : Str => z.length).sum + (ls.map S).length * (S b).length = (ls.map List.length).sum + ls.length * b.length := by
    rw [S_len, List.map_map, List.length_map]
    congr 2
  have j : Txt.join (S b) (ls.map S) = S (joinL b ls) := ext_tl (by
    rw [join_eq, tl_join, List.map_map]
    have e1 : tl (S b) = b := S_toList
    have e2 : ls.map (tl ∘ S) = ls := by
      conv => rhs; rw [← List.map_id ls]
      exact List.map_congr_left fun l _ => S_toList
    rw [e1, e2]
    exact S_toList.symm)
  simp only [e, if_pos h, j]
def never : List Nat := [110, 101, 118, 101, 114]
theorem sumL_le {n : Nat} : ∀ {ls : List (List Nat)}, (∀ l ∈ ls, l.length ≤ n) → (ls.map List.length).sum ≤ ls.length * n
  | [], _ => Nat.zero_le _
  | l :: ls, h => by
    have h1 := h l List.mem_cons_self
    have h2 := sumL_le (ls := ls) fun x hx => h x (List.mem_cons_of_mem _ hx)
    rw [List.map_cons, List.sum_cons, List.length_cons, Nat.succ_mul]
    omega
theorem pJoin_s {b : List Nat} {ls : List (List Nat)} (h : ∀ l ∈ ls, l.length ≤ 100) (hl : ls.length ≤ 100) (hb : b.length ≤ 10) : pJoin [.str (S b), .list (sts ls)] = some (.str (S (joinL b ls))) := pJoin_S (by
  have h1 := sumL_le h
  have h2 : ls.length * 100 ≤ 100 * 100 := Nat.mul_le_mul_right _ hl
  have h3 : ls.length * b.length ≤ 100 * 10 := Nat.mul_le_mul hl hb
  omega)
theorem joinL_len {b : List Nat} : ∀ {ls : List (List Nat)}, (∀ l ∈ ls, l.length ≤ 100) → b.length ≤ 10 → (joinL b ls).length ≤ ls.length * 110
  | [], _, _ => Nat.zero_le _
  | [p], h, _ => by
    show p.length ≤ _
    have := h p List.mem_cons_self
    simp only [List.length_cons, List.length_nil]
    omega
  | p :: q :: r, h, hb => by
    show (p ++ (b ++ joinL b (q :: r))).length ≤ _
    have h1 := h p List.mem_cons_self
    have h2 := joinL_len (ls := q :: r) (fun x hx => h x (List.mem_cons_of_mem _ hx)) hb
    rw [List.length_append, List.length_append, List.length_cons, Nat.succ_mul]
    omega
structure Opts (l : List Nat) : Prop where
  lt : ∀ k ∈ l, k < 100
  len : l.length ≤ 30
theorem numL30 {k : Nat} (h : k < 100) : (numL k).length ≤ 6 := num_short (by omega)
theorem num_sign {k c : Nat} (h : c ∈ numL k) : 48 ≤ c ∧ c ≤ 57 := by
  refine Classical.byContradiction fun z => numL_free (n := k) (s := c) ?_ h
  omega
theorem N_len {on : List Nat} (ho : Opts on) : (∀ l ∈ on.map numL, l.length ≤ 100) ∧ (on.map numL).length ≤ 100 := by
  have l1 := ho.len
  refine ⟨fun l hl => ?_, by simp; omega⟩
  obtain ⟨k, hk, rfl⟩ := List.mem_map.mp hl
  have := numL30 (ho.lt k hk); omega
def endT : Option (List Nat) → List (List Nat)
  | none => [never]
  | some r => r.map numL
def pairW (p : Pr2) : List (List Nat) := (p.1.map numL ++ [[45, 62]]) ++ endT p.2
def pairT (p : Pr2) : List Nat := joinL [32] (pairW p)
structure OptP (p : Pr2) : Prop where
  l : Opts p.1
  r : ∀ r, p.2 = some r → Opts r
theorem pairW_len {p : Pr2} (h : OptP p) : (∀ l ∈ pairW p, l.length ≤ 100) ∧ (pairW p).length ≤ 100 := by
  obtain ⟨l, r⟩ := p
  obtain ⟨w1, w2⟩ := N_len (on := l) h.l
  have e0 : ∀ x ∈ [[45, 62]], x.length ≤ 100 := by decide
  have q1 : l.length ≤ 30 := h.l.len
  cases r with
  | none =>
    refine ⟨fun x hx => ?_, by simp [pairW, endT]; omega⟩
    rcases List.mem_append.mp hx with hx | hx
    · rcases List.mem_append.mp hx with hx | hx
      · exact w1 x hx
      · exact e0 x hx
    · rw [List.mem_singleton.mp hx]; decide
  | some r =>
    obtain ⟨v1, v2⟩ := N_len (on := r) (h.r r rfl)
    have q2 : r.length ≤ 30 := (h.r r rfl).len
    refine ⟨fun x hx => ?_, by simp [pairW, endT]; omega⟩
    rcases List.mem_append.mp hx with hx | hx
    · rcases List.mem_append.mp hx with hx | hx
      · exact w1 x hx
      · exact e0 x hx
    · exact v1 x hx
theorem allD_map {A : List PyData} {ws : List W} : allD (A.map W.d ++ ws) = (allD ws).map (A ++ ·) := by
  induction A with
  | nil => cases e : allD ws <;> simp [e]
  | cons a A ih => rw [List.map_cons, List.cons_append, allD_d, ih]; cases allD ws <;> rfl
theorem pair_text_e {M : List MO} {p : Pr2} (h : OptP p) : callF F_pair_text 1 [.d (pd p)] M = .ok (.d (.str (S (pairT p)))) M := by
  refine callF_dx (J := []) ?_
  obtain ⟨w, wl⟩ := pairW_len h
  have j := pJoin_s (b := [32]) w wl (by decide)
  obtain ⟨l, r⟩ := p
  have l1 : l.length ≤ 30 := h.l.len
  have e1 : ∀ ρ : Rho, ρ.length = 3 → compL (gN 2) sYes x1_pair_text ρ (oi l) [] = some (sts (l.map numL), []) := fun ρ hρ => by
    unfold oi sts
    rw [List.map_map]
    refine compL_all _ _ fun k hk => ⟨_, rfl, rfl, ?_⟩
    have hk' := h.l.lt k hk
    have v : (ρ.set 2 (some (.d (.int (k : Int)))))[2]? = some (some (.d (.int (k : Int)))) := List.getElem?_set_self (by omega)
    simp [x1_pair_text, v, pStr_n (show k < 1000000 by omega)]
  have n1 : (sts (l.map numL)).length = l.length := by simp [sts]
  cases r with
  | none =>
    have ap : sts (pairW (l, none)) = sts (l.map numL) ++ [.str (S [45, 62]), .str (S never)] := by simp [pairW, endT, sts]
    rw [ap] at j
    unfold pairT
    generalize joinL [32] (pairW (l, none)) = J at *
    generalize sts (l.map numL) = A at *
    have st := lStar_l (f := sV 1) (ρ := [some (.d (.tuple [.tuple (oi l), .none])), some (.d (.list (A ++ [.str (S [45, 62])]))), none]) (M := []) (ds := A ++ [.str (S [45, 62])]) (h := (lCons (sC (.str (S [110, 101, 118, 101, 114]))) lNil)) rfl
    simp at st
    simp [F_pair_text, b_pair_text, pd, dOpt, szT (show l.length ≤ 16777216 by omega), e1, n1, szT, szT (show l.length + 1 ≤ 16777216 by omega), pIsN, st]
    unfold never at j
    rw [allD_map]
    simp [n1, szT (show l.length + 1 + 1 ≤ 16777216 by omega), szT (show l.length + 2 ≤ 16777216 by omega), j]
  | some r =>
    have l2 : r.length ≤ 30 := (h.r r rfl).len
    have e2 : ∀ ρ : Rho, ρ.length = 3 → compL (gN 2) sYes x2_pair_text ρ (oi r) [] = some (sts (r.map numL), []) := fun ρ hρ => by
      unfold oi sts
      rw [List.map_map]
      refine compL_all _ _ fun k hk => ⟨_, rfl, rfl, ?_⟩
      have hk' := (h.r r rfl).lt k hk
      have v : (ρ.set 2 (some (.d (.int (k : Int)))))[2]? = some (some (.d (.int (k : Int)))) := List.getElem?_set_self (by omega)
      simp [x2_pair_text, v, pStr_n (show k < 1000000 by omega)]
    have n2 : (sts (r.map numL)).length = r.length := by simp [sts]
    have ap : sts (pairW (l, some r)) = sts (l.map numL) ++ .str (S [45, 62]) :: sts (r.map numL) := by simp [pairW, endT, sts]
    rw [ap] at j
    unfold pairT
    generalize joinL [32] (pairW (l, some r)) = J at *
    generalize sts (l.map numL) = A at *
    generalize sts (r.map numL) = B at *
    simp [F_pair_text, b_pair_text, pd, dOpt, szT (show l.length ≤ 16777216 by omega), szT (show r.length ≤ 16777216 by omega), e1, e2, n1, n2, szT, szT (show l.length + 1 ≤ 16777216 by omega), szT (show l.length + 1 + r.length ≤ 16777216 by omega), pIsN, j]
theorem law_ptext_e {M : List MO} {p : Pr2} (h : OptP p) : callF F_law_pair_text 1 [.d (pd p)] M = .ok (.d (.str (S (pairT p)))) M := by
  refine callF_dx (J := []) ?_
  obtain ⟨w, wl⟩ := pairW_len h
  have j := pJoin_s (b := [32]) w wl (by decide)
  obtain ⟨l, r⟩ := p
  have l1 : l.length ≤ 30 := h.l.len
  have e1 : ∀ ρ : Rho, ρ.length = 3 → compL (gN 2) sYes x1_law_pair_text ρ (oi l) [] = some (sts (l.map numL), []) := fun ρ hρ => by
    unfold oi sts
    rw [List.map_map]
    refine compL_all _ _ fun k hk => ⟨_, rfl, rfl, ?_⟩
    have hk' := h.l.lt k hk
    have v : (ρ.set 2 (some (.d (.int (k : Int)))))[2]? = some (some (.d (.int (k : Int)))) := List.getElem?_set_self (by omega)
    simp [x1_law_pair_text, v, pStr_n (show k < 1000000 by omega)]
  have n1 : (sts (l.map numL)).length = l.length := by simp [sts]
  cases r with
  | none =>
    have ap : sts (pairW (l, none)) = sts (l.map numL) ++ [.str (S [45, 62]), .str (S never)] := by simp [pairW, endT, sts]
    rw [ap] at j
    unfold pairT
    generalize joinL [32] (pairW (l, none)) = J at *
    generalize sts (l.map numL) = A at *
    unfold never at j
    simp [F_law_pair_text, b_law_pair_text, pd, dOpt, szT (show l.length ≤ 16777216 by omega), e1, n1, szT, szT (show l.length + 1 ≤ 16777216 by omega), szT (show l.length + 1 + 1 ≤ 16777216 by omega), pIsN, j]
  | some r =>
    have l2 : r.length ≤ 30 := (h.r r rfl).len
    have e2 : ∀ ρ : Rho, ρ.length = 3 → compL (gN 2) sYes x2_law_pair_text ρ (oi r) [] = some (sts (r.map numL), []) := fun ρ hρ => by
      unfold oi sts
      rw [List.map_map]
      refine compL_all _ _ fun k hk => ⟨_, rfl, rfl, ?_⟩
      have hk' := (h.r r rfl).lt k hk
      have v : (ρ.set 2 (some (.d (.int (k : Int)))))[2]? = some (some (.d (.int (k : Int)))) := List.getElem?_set_self (by omega)
      simp [x2_law_pair_text, v, pStr_n (show k < 1000000 by omega)]
    have n2 : (sts (r.map numL)).length = r.length := by simp [sts]
    have ap : sts (pairW (l, some r)) = sts (l.map numL) ++ .str (S [45, 62]) :: sts (r.map numL) := by simp [pairW, endT, sts]
    rw [ap] at j
    unfold pairT
    generalize joinL [32] (pairW (l, some r)) = J at *
    generalize sts (l.map numL) = A at *
    generalize sts (r.map numL) = B at *
    simp [F_law_pair_text, b_law_pair_text, pd, dOpt, szT (show l.length ≤ 16777216 by omega), szT (show r.length ≤ 16777216 by omega), e1, e2, n1, n2, szT, szT (show l.length + 1 ≤ 16777216 by omega), szT (show l.length + 1 + r.length ≤ 16777216 by omega), pIsN, j]
theorem num_ne {k : Nat} : numL k ≠ [] := numL_ne k
theorem num_head : ∀ k, k < 100 → k ≠ 0 → (numL k)[0]? ≠ some 48 := by decide +kernel
theorem option_e {M : List MO} {k : Nat} (h : k < 100) : callF F_option_read 1 [.d (.str (S (numL k)))] M = .ok (.d (.int (k : Int))) M := by
  refine callF_dx (J := []) ?_
  have hl : (numL k).length ≤ 6 := num_short (by omega)
  have e : compL (gN 1) sYes x1_option_read [some (.d (.str (S (numL k)))), none] (sg (numL k)) [] = some (bl ((numL k).map fun _ => true), []) := by
    unfold sg
    rw [← bl_true]
    refine compL_all _ _ fun c hc => ⟨_, rfl, rfl, ?_⟩
    have := num_sign hc
    have hi : inS [48, 49, 50, 51, 52, 53, 54, 55, 56, 57] c = true := inS_iff.mpr (by simp; omega)
    simp [x1_option_read, hi]
  have ne := num_ne (k := k)
  have pi := pInt_n (k := k) (by omega)
  by_cases z : k = 0
  · subst z
    have e0 : numL 0 = [48] := by decide +kernel
    rw [e0] at e pi ⊢
    simp [F_option_read, b_option_read, szT, e]
    simp at pi
    simp [pi, szT]
  · have hh := num_head k h z
    cases q : numL k with
    | nil => exact absurd q ne
    | cons c r =>
      rw [q] at e pi hl hh
      have hc : c ≠ 48 := fun z => hh (by rw [z]; rfl)
      have cl := szT (show (c :: r).length ≤ 16777216 by omega)
      rw [List.length_cons] at cl
      simp [F_option_read, b_option_read, cl, e, hc, pi]
theorem num_cons (k : Nat) : ∃ c r, numL k = c :: r ∧ 48 ≤ c ∧ c ≤ 57 := by
  cases e : numL k with
  | nil => exact absurd e num_ne
  | cons c r => exact ⟨c, r, rfl, num_sign (k := k) (by rw [e]; exact List.mem_cons_self)⟩
theorem join_head {b : List Nat} {p : List Nat} {r : List (List Nat)} {c : Nat} {q : List Nat} (h : p = c :: q) : ∃ z, joinL b (p :: r) = c :: z := by
  subst h
  cases r with
  | nil => exact ⟨q, rfl⟩
  | cons x r => exact ⟨q ++ (b ++ joinL b (x :: r)), rfl⟩
theorem joinL_mem {b : List Nat} {c : Nat} : ∀ {ls : List (List Nat)}, c ∈ joinL b ls → c ∈ b ∨ ∃ l ∈ ls, c ∈ l
  | [], h => by cases h
  | [p], h => .inr ⟨p, List.mem_cons_self, h⟩
  | p :: q :: r, h => by
    rcases List.mem_append.mp h with h | h
    · exact .inr ⟨p, List.mem_cons_self, h⟩
    · rcases List.mem_append.mp h with h | h
      · exact .inl h
      · rcases joinL_mem h with h | ⟨l, hl, h⟩
        · exact .inl h
        · exact .inr ⟨l, List.mem_cons_of_mem _ hl, h⟩
theorem joinL_cons {b p : List Nat} {L : List (List Nat)} (h : L ≠ []) : joinL b (p :: L) = p ++ (b ++ joinL b L) := by
  cases L with
  | nil => exact absurd rfl h
  | cons q r => rfl
theorem joinL_mid {b x : List Nat} {B : List (List Nat)} : ∀ {A : List (List Nat)}, joinL b (A ++ x :: B) = joinL b (A ++ [[]]) ++ (x ++ joinL b ([] :: B))
  | [] => by
    cases B with
    | nil => show x = [] ++ (x ++ []); simp
    | cons y r => show x ++ (b ++ joinL b (y :: r)) = [] ++ (x ++ ([] ++ (b ++ joinL b (y :: r)))); simp
  | p :: A => by
    rw [List.cons_append, joinL_cons (by simp), joinL_mid, List.cons_append, joinL_cons (L := A ++ [[]]) (by simp)]
    simp only [List.append_assoc]
def leftT (l : List Nat) : List Nat := joinL [32] (l.map numL ++ [[]])
def rightT (r : Option (List Nat)) : List Nat := joinL [32] ([] :: endT r)
theorem pairT_eq {p : Pr2} : pairT p = leftT p.1 ++ ([45, 62] ++ rightT p.2) := by
  unfold pairT pairW leftT rightT
  rw [List.append_assoc]
  exact joinL_mid
theorem left_free {l : List Nat} : 45 ∉ leftT l := fun h => by
  rcases joinL_mem h with h | ⟨x, hx, h⟩
  · simp at h
  · rcases List.mem_append.mp hx with hx | hx
    · obtain ⟨k, _, rfl⟩ := List.mem_map.mp hx
      have := num_sign h; omega
    · rw [List.mem_singleton.mp hx] at h; cases h
theorem nums32 {l : List Nat} : ∀ p ∈ l.map numL, 32 ∉ p := fun p hp z => by
  obtain ⟨k, _, rfl⟩ := List.mem_map.mp hp
  have := num_sign z; omega
theorem spl_left {l : List Nat} : spl [32] 0 [] (leftT l) = l.map numL ++ [[]] := spl_join (by simp) fun p hp => by
  rcases List.mem_append.mp hp with hp | hp
  · exact nums32 p hp
  · rw [List.mem_singleton.mp hp]; simp
theorem spl_right {r : List Nat} : spl [32] 0 [] (rightT (some r)) = [] :: r.map numL := spl_join (by simp) fun p hp => by
  rcases List.mem_cons.mp hp with rfl | hp
  · simp
  · exact nums32 p hp
theorem pairT_len {p : Pr2} (h : OptP p) : (pairT p).length ≤ 20000 := by
  obtain ⟨w, wl⟩ := pairW_len h
  have := joinL_len (b := [32]) w (by decide)
  have : (pairW p).length * 110 ≤ 100 * 110 := Nat.mul_le_mul_right _ wl
  unfold pairT
  omega
theorem cut_last {α : Type} {A : List α} {x : α} : cutL (A ++ [x]) none (some (-1)) = A := by
  unfold cutL HT.sIx
  have h : ((A ++ [x]).length : Int) = (A.length : Int) + 1 := by rw [List.length_append, List.length_singleton]; rfl
  have h0 : (-1 : Int) < 0 := by decide
  simp only [h, h0, if_true]
  rw [show (-1 + ((A.length : Int) + 1)).toNat - 0 = A.length by omega, List.drop_zero, List.take_left]
theorem right_ne {r : List Nat} : rightT (some r) ≠ [32, 110, 101, 118, 101, 114] := fun e => by
  cases r with
  | nil => cases e
  | cons k l =>
    obtain ⟨c, q, ec, h1, h2⟩ := num_cons k
    obtain ⟨z, ez⟩ := join_head (b := [32]) (r := l.map numL) ec
    have : rightT (some (k :: l)) = [] ++ ([32] ++ joinL [32] (numL k :: l.map numL)) := rfl
    rw [this, ez] at e
    cases e
    omega
theorem read_pair_e {M : List MO} {n : Int} {p : Pr2} (h : OptP p) : callF F_pair_read 2 [.d (.int n), .d (.str (S (pairT p)))] M = .ok (.d (if pairB n (pd p) = true then pd p else .none)) M := by
  refine callF_dx (J := []) ?_
  have lT := pairT_len h
  have e4 := pair_text_e (M := []) h
  have pt := pPart_S (a := pairT p) (b := [45, 62]) (by simp) (by omega)
  have pr : par [45, 62] [] (pairT p) = some (leftT p.1, rightT p.2) := by
    rw [pairT_eq]
    exact par_part1 (S := [62]) (rest := rightT p.2) (acc := []) left_free
  rw [pr] at pt
  simp only at pt
  obtain ⟨l, r⟩ := p
  have l1 : l.length ≤ 30 := h.l.len
  have ll : (leftT l).length ≤ 20000 := by
    have := congrArg List.length (pairT_eq (p := (l, r)))
    simp only [List.length_append] at this
    omega
  have lr : (rightT r).length ≤ 20000 := by
    have := congrArg List.length (pairT_eq (p := (l, r)))
    simp only [List.length_append] at this
    omega
  have sl := pSplit_S (a := leftT l) (b := [32]) (by simp) (by decide) (by omega)
  rw [spl_left, show sts (l.map numL ++ [[]]) = sts (l.map numL) ++ [.str (S [])] by simp [sts]] at sl
  have ct : cutL (sts (l.map numL) ++ [PyData.str (S [])]) none (some (-1)) = sts (l.map numL) := cut_last
  have n1 : (sts (l.map numL)).length = l.length := by simp [sts]
  have e1 : ∀ ρ : Rho, ρ.length = 9 → compL (gN 8) sYes x1_pair_read ρ (sts (l.map numL)) [] = some (oi l, []) := fun ρ hρ => by
    unfold sts oi
    rw [List.map_map]
    refine compL_all _ _ fun k hk => ⟨_, rfl, rfl, ?_⟩
    have v : (ρ.set 8 (some (.d (.str (S (numL k))))))[8]? = some (some (.d (.str (S (numL k))))) := List.getElem?_set_self (by omega)
    simp [x1_pair_read, v, option_e (h.l.lt k hk)]
  have fp : Fine (pd (l, r)) := by
    have f : ∀ l : List Nat, Opts l → Sm 1 4000 (.tuple (oi l)) := fun l h => (Sm.tuple (n := 30) (oi_nice fun k hk => by have := h.lt k hk; omega) (by rw [oi_len]; exact h.len)).mono (by decide) (by decide)
    refine (Sm.tuple (n := 2) (D := 1) (B := 4000) (fun d hd => ?_) (Nat.le_refl _)).fine (by decide) (by decide)
    simp only [List.mem_cons, List.not_mem_nil, or_false] at hd
    rcases hd with rfl | rfl
    · exact f l h.l
    · cases r with
      | none => exact Sm.none.mono (by decide) (by decide)
      | some r => exact f r (h.r r rfl)
  have e3 := right_pair_e (M := []) (n := n) fp
  cases r with
  | none =>
    have er : rightT none = [32, 110, 101, 118, 101, 114] := rfl
    rw [er] at pt
    unfold pd dOpt at e3 e4 ⊢
    generalize pairT (l, none) = a at *
    generalize leftT l = u at *
    generalize sts (l.map numL) = T at *
    cases q : pairB n (.tuple [.tuple (oi l), .none]) with
    | true => simp [F_pair_read, b_pair_read, b_pair_read_1, b_pair_read_2, b_pair_read_3, b_pair_read_4, b_pair_read_5, b_pair_read_6, pt, sl, ct, szT, n1, szT (show l.length ≤ 16777216 by omega), e1, e3, q, e4]
    | false => simp [F_pair_read, b_pair_read, b_pair_read_1, b_pair_read_2, b_pair_read_3, b_pair_read_4, b_pair_read_5, b_pair_read_6, pt, sl, ct, szT, n1, szT (show l.length ≤ 16777216 by omega), e1, e3, q]
  | some r =>
    have l2 : r.length ≤ 30 := (h.r r rfl).len
    have nr := right_ne (r := r)
    have sr := pSplit_S (a := rightT (some r)) (b := [32]) (by simp) (by decide) (by omega)
    rw [spl_right, show sts ([] :: r.map numL) = .str (S []) :: sts (r.map numL) from rfl] at sr
    have cr : cutL (PyData.str (S []) :: sts (r.map numL)) (some 1) none = sts (r.map numL) := by rw [drop1]; rfl
    have n2 : (sts (r.map numL)).length = r.length := by simp [sts]
    have e2 : ∀ ρ : Rho, ρ.length = 9 → compL (gN 8) sYes x2_pair_read ρ (sts (r.map numL)) [] = some (oi r, []) := fun ρ hρ => by
      unfold sts oi
      rw [List.map_map]
      refine compL_all _ _ fun k hk => ⟨_, rfl, rfl, ?_⟩
      have v : (ρ.set 8 (some (.d (.str (S (numL k))))))[8]? = some (some (.d (.str (S (numL k))))) := List.getElem?_set_self (by omega)
      simp [x2_pair_read, v, option_e ((h.r r rfl).lt k hk)]
    unfold pd dOpt at e3 e4 ⊢
    generalize pairT (l, some r) = a at *
    generalize leftT l = u at *
    generalize rightT (some r) = w at *
    generalize sts (l.map numL) = T at *
    generalize sts (r.map numL) = V at *
    cases q : pairB n (.tuple [.tuple (oi l), .tuple (oi r)]) with
    | true => simp [F_pair_read, b_pair_read, b_pair_read_1, b_pair_read_2, b_pair_read_3, b_pair_read_4, b_pair_read_5, b_pair_read_6, pt, sl, ct, szT, n1, n2, szT (show l.length ≤ 16777216 by omega), szT (show r.length ≤ 16777216 by omega), e1, e2, nr, sr, cr, e3, q, e4]
    | false => simp [F_pair_read, b_pair_read, b_pair_read_1, b_pair_read_2, b_pair_read_3, b_pair_read_4, b_pair_read_5, b_pair_read_6, pt, sl, ct, szT, n1, n2, szT (show l.length ≤ 16777216 by omega), szT (show r.length ≤ 16777216 by omega), e1, e2, nr, sr, cr, e3, q]
theorem pairT_ok {p : Pr2} : pairT p ≠ [] ∧ 10 ∉ pairT p := by
  refine ⟨by rw [pairT_eq]; simp, fun q => ?_⟩
  unfold pairT pairW at q
  rcases joinL_mem q with q | ⟨x, hx, q⟩
  · simp at q
  · rcases List.mem_append.mp hx with hx | hx
    · rcases List.mem_append.mp hx with hx | hx
      · obtain ⟨k, _, rfl⟩ := List.mem_map.mp hx
        have := num_sign q; omega
      · rw [List.mem_singleton.mp hx] at q; simp at q
    · cases h : p.2 with
      | none => rw [h] at hx; rw [List.mem_singleton.mp hx] at q; simp [never] at q
      | some r =>
        rw [h] at hx
        obtain ⟨k, _, rfl⟩ := List.mem_map.mp hx
        have := num_sign q; omega
theorem pair_e {M : List MO} {m : Nat} {q n : Int} (h : M[m]? = some (.lst [.int q])) (h0 : 1 ≤ n) (h1 : n ≤ 30) : ∃ (p : Pr2) (q' : Int), callF F_law_pair 2 [.loc m, .d (.int n)] M = .ok (.d (pd p)) (M.set m (.lst [.int q'])) ∧ Up n p.1 ∧ ∀ r, p.2 = some r → Up n r := by
  obtain ⟨l1, q1, e1, u1⟩ := some_e (M := [.lst [.int q]]) (n := 0) (p := q) (k := n) (m := 10) rfl (by omega) (by omega)
  simp only [List.set_cons_zero] at e1
  obtain ⟨l2, q2, e2, u2⟩ := some_e (M := [.lst [.int q1]]) (n := 0) (p := q1) (k := n) (m := 10) rfl (by omega) (by omega)
  simp only [List.set_cons_zero] at e2
  have t := take_e (M := [.lst [.int q2]]) (n := 0) (p := q2) (k := 4) rfl (by decide) (by decide)
  simp only [List.set_cons_zero] at t
  by_cases c : q2 % 4 = 0
  · refine ⟨(l1, none), q2 / 4, callF_px (J := []) h ?_, u1, fun r hr => by cases hr⟩
    simp [F_law_pair, b_law_pair, e1, e2, t, c, pd, dOpt]
  · refine ⟨(l1, some l2), q2 / 4, callF_px (J := []) h ?_, u1, fun r hr => by cases hr; exact u2⟩
    simp [F_law_pair, b_law_pair, e1, e2, t, c, pd, dOpt]
theorem wide_e {M : List MO} {m : Nat} {p : Int} (h : M[m]? = some (.lst [.int p])) : ∃ n q : Int, callF F_law_wide_size 1 [.loc m] M = .ok (.d (.int n)) (M.set m (.lst [.int q])) ∧ 1 ≤ n ∧ n ≤ 30 := by
  have t := take_e (M := [.lst [.int p]]) (n := 0) (p := p) (k := 10) rfl (by decide) (by decide)
  obtain ⟨x, e, hx⟩ := atI_mem (xs := [PyData.int 1, .int 2, .int 3, .int 5, .int 9, .int 10, .int 11, .int 20, .int 29, .int 30]) (i := p % 10) (by omega) (by show p % 10 < 10; omega)
  have hx' : ∃ k : Int, x = .int k ∧ 1 ≤ k ∧ k ≤ 30 := by
    simp only [List.mem_cons, List.not_mem_nil, or_false] at hx
    rcases hx with rfl | rfl | rfl | rfl | rfl | rfl | rfl | rfl | rfl | rfl <;> exact ⟨_, rfl, by decide, by decide⟩
  obtain ⟨k, rfl, k0, k1⟩ := hx'
  simp only [List.set_cons_zero] at t
  refine ⟨k, p / 10, callF_px (J := []) h ?_, k0, k1⟩
  simp [F_law_wide_size, b_law_wide_size, szT, t, e]
/-! words as options -/
def digC (c : Nat) : Bool := inS [48, 49, 50, 51, 52, 53, 54, 55, 56, 57] c
theorem digC_iff {c : Nat} : digC c = true ↔ 48 ≤ c ∧ c ≤ 57 := by
  unfold digC
  rw [inS_iff]
  simp
  omega
def optB (a : List Nat) : Bool := !a.isEmpty && (a.all digC && !(decide (a[0]? = some 48) && !decide (a = [48])))
theorem int_any {a : List Nat} (h : a.all digC = true) (h0 : a ≠ []) (hl : a.length ≤ 640) : pInt [.str (S a)] = some (.int ((NumText.digitsVal a : Nat) : Int)) := by
  refine pInt_str ?_ hl
  have e : (S a).cps.toList = a := S_toList
  have := intText_digits (x := S a) (by
    rw [e]
    exact fun c hc => digC_iff.mp (List.all_eq_true.mp h c hc)) (by rw [e]; exact h0) (by rw [S_len]; omega)
  rw [e] at this
  exact this
theorem option_any {M : List MO} {a : List Nat} (hl : a.length ≤ 5000) (hd : a.all digC = true → a.length ≤ 640) : callF F_option_read 1 [.d (.str (S a))] M = .ok (.d (if optB a = true then .int ((NumText.digitsVal a : Nat) : Int) else .none)) M := by
  refine callF_dx (J := []) ?_
  cases a with
  | nil => simp [F_option_read, b_option_read, optB]
  | cons c r =>
    have e : compL (gN 1) sYes x1_option_read [some (.d (.str (S (c :: r)))), none] (sg (c :: r)) [] = some (bl ((c :: r).map digC), []) := by
      have e2 : bl ((c :: r).map digC) = (c :: r).map fun x => PyData.bool (digC x) := by unfold bl; rw [List.map_map]; rfl
      rw [e2]
      unfold sg
      exact compL_all _ _ fun x hx => ⟨_, rfl, rfl, by simp [x1_option_read, digC]⟩
    have pa := pAll_e (bs := (c :: r).map digC)
    have ea : ((c :: r).map digC).all id = (c :: r).all digC := by rw [List.all_map]; rfl
    rw [ea] at pa
    have cl := szT (show (c :: r).length ≤ 16777216 by omega)
    rw [List.length_cons] at cl
    have lb := szT (show (bl ((c :: r).map digC)).length ≤ 16777216 by unfold bl; rw [List.length_map, List.length_map]; omega)
    have pi := fun h => int_any (a := c :: r) h (by simp) (hd h)
    have hb : optB (c :: r) = ((c :: r).all digC && !(decide (c = 48) && !decide (c :: r = [48]))) := by unfold optB; simp
    rw [hb]
    clear hd
    generalize bl ((c :: r).map digC) = B at *
    generalize hA : (c :: r).all digC = A at *
    cases A with
    | false => simp [F_option_read, b_option_read, cl, e, pa, lb]
    | true =>
      have pi := pi rfl
      by_cases h1 : c = 48
      · by_cases h2 : r = []
        · subst h1 h2
          simp [F_option_read, b_option_read, cl, e, pa, lb, pi, szT]
        · subst h1
          simp [F_option_read, b_option_read, cl, e, pa, lb, h2]
      · simp [F_option_read, b_option_read, cl, e, pa, lb, h1, pi]
/-- the law's reading of an option -/
def optN (n : Int) (a : List Nat) : Bool := optB a && (decide (a.length ≤ 2) && decide (((NumText.digitsVal a : Nat) : Int) < n))
theorem law_option_any {M : List MO} {n : Int} {a : List Nat} (ha : ∀ c ∈ a, c < 1114112) (hl : a.length ≤ 5000) : callF F_law_option_of 2 [.d (.int n), .d (.str (S a))] M = .ok (.d (if optN n a = true then .int ((NumText.digitsVal a : Nat) : Int) else .none)) M := by
  refine callF_dx (J := []) ?_
  cases a with
  | nil => simp [F_law_option_of, b_law_option_of, optN, optB]
  | cons c r =>
    have e : compL (gN 2) y1_law_option_of x1_law_option_of [some (.d (.int n)), some (.d (.str (S (c :: r)))), none] (sg (c :: r)) [] = some (sg ((c :: r).filter fun x => !digC x), []) := by
      unfold sg
      exact compL_on _ _ _ fun x hx => ⟨_, rfl, by simp [y1_law_option_of, digC], fun _ => by simp [x1_law_option_of]⟩
    have hs : SeqAt.shaped (.list (sg ((c :: r).filter fun x => !digC x))) = true := by
      have : sg ((c :: r).filter fun x => !digC x) = sts (((c :: r).filter fun x => !digC x).map fun x => [x]) := by unfold sg sts; rw [List.map_map]; rfl
      rw [this]
      refine shaped_sts fun l hl x hx => ?_
      obtain ⟨y, hy, rfl⟩ := List.mem_map.mp hl
      rw [List.mem_singleton.mp hx]
      exact ha y (List.mem_filter.mp hy).1
    have ie : (sg ((c :: r).filter fun x => !digC x)).isEmpty = (c :: r).all digC := by
      unfold sg
      rw [Bool.eq_iff_iff, List.isEmpty_iff, List.map_eq_nil_iff, List.filter_eq_nil_iff, List.all_eq_true]
      simp
    have cl := szT (show (c :: r).length ≤ 16777216 by omega)
    rw [List.length_cons] at cl
    have hb : optB (c :: r) = ((c :: r).all digC && !(decide (c = 48) && !decide (c :: r = [48]))) := by unfold optB; simp
    have c2 : ((r.length : Int) + 1 > 2) = ¬ (r.length + 1 ≤ 2) := propext (by omega)
    unfold optN
    rw [hb]
    have pi := fun h h2 => int_any (a := c :: r) h (by simp) h2
    generalize sg ((c :: r).filter fun x => !digC x) = F at *
    generalize hA : (c :: r).all digC = A at *
    by_cases l2 : r.length + 1 ≤ 2
    · have l2' : ¬ (2 < (r.length : Int) + 1) := by omega
      cases A with
      | false => simp [F_law_option_of, b_law_option_of, cl, e, hs, eqv_nil, ie, l2']
      | true =>
        have pi := pi rfl (by rw [List.length_cons]; omega)
        by_cases h1 : c = 48
        · by_cases h2 : r = []
          · subst h1 h2
            generalize NumText.digitsVal [48] = v at *
            by_cases h3 : n ≤ (v : Int)
            · have h4 : ¬ ((v : Int) < n) := by omega
              simp [F_law_option_of, b_law_option_of, cl, e, hs, eqv_nil, ie, l2', pi, szT, h3, h4]
            · have h4 : (v : Int) < n := by omega
              simp [F_law_option_of, b_law_option_of, cl, e, hs, eqv_nil, ie, l2', pi, szT, h3, h4]
          · subst h1
            simp [F_law_option_of, b_law_option_of, cl, e, hs, eqv_nil, ie, l2', h2]
        · generalize NumText.digitsVal (c :: r) = v at *
          by_cases h3 : n ≤ (v : Int)
          · have h4 : ¬ ((v : Int) < n) := by omega
            simp [F_law_option_of, b_law_option_of, cl, e, hs, eqv_nil, ie, l2', pi, h1, h3, h4]
          · have h4 : (v : Int) < n := by omega
            simp [F_law_option_of, b_law_option_of, cl, e, hs, eqv_nil, ie, l2', pi, h1, h3, h4, l2]
    · have l2' : 2 < (r.length : Int) + 1 := by omega
      simp [F_law_option_of, b_law_option_of, cl, l2', l2]
/-! splitting at one sign, and back -/
theorem pre_one {c x : Nat} {r : List Nat} : pre [c] (x :: r) = decide (x = c) := by
  rw [Bool.eq_iff_iff, pre1, decide_eq_true_iff]
  simp
theorem spl_cons {c x : Nat} {acc r : List Nat} : spl [c] 0 acc (x :: r) = if x = c then acc :: spl [c] 0 [] r else spl [c] 0 (acc ++ [x]) r := by
  by_cases h : x = c
  · rw [if_pos h, spl_hit (by rw [pre_one]; exact decide_eq_true h)]
    rfl
  · rw [if_neg h, spl_miss (by rw [pre_one]; exact decide_eq_false h)]
theorem spl_ne {c : Nat} : ∀ {l acc : List Nat}, spl [c] 0 acc l ≠ []
  | [], acc => by rw [spl_nil]; exact List.cons_ne_nil _ _
  | x :: r, acc => by
    rw [spl_cons]
    split
    · exact List.cons_ne_nil _ _
    · exact spl_ne
theorem join_spl {c : Nat} : ∀ {l acc : List Nat}, joinL [c] (spl [c] 0 acc l) = acc ++ l
  | [], acc => by rw [spl_nil, List.append_nil]; rfl
  | x :: r, acc => by
    rw [spl_cons]
    split
    · rename_i h
      rw [joinL_cons spl_ne, join_spl, h]
      rfl
    · rw [join_spl, List.append_assoc]
      rfl
theorem spl_free1 {c : Nat} : ∀ {l acc : List Nat}, c ∉ acc → ∀ p ∈ spl [c] 0 acc l, c ∉ p
  | [], acc, h, p, hp => by
    rw [spl_nil, List.mem_singleton] at hp
    exact hp ▸ h
  | x :: r, acc, h, p, hp => by
    rw [spl_cons] at hp
    split at hp
    · rcases List.mem_cons.mp hp with rfl | hp
      · exact h
      · exact spl_free1 List.not_mem_nil p hp
    · rename_i hx
      refine spl_free1 (fun z => ?_) p hp
      rcases List.mem_append.mp z with z | z
      · exact h z
      · exact hx (List.mem_singleton.mp z).symm
theorem spl_mem {c : Nat} : ∀ {l acc : List Nat}, ∀ p ∈ spl [c] 0 acc l, (∀ x ∈ p, x ∈ acc ∨ x ∈ l) ∧ p.length ≤ acc.length + l.length
  | [], acc, p, hp => by
    rw [spl_nil, List.mem_singleton] at hp
    subst hp
    exact ⟨fun x hx => .inl hx, Nat.le_add_right _ _⟩
  | y :: r, acc, p, hp => by
    rw [spl_cons] at hp
    rw [List.length_cons]
    split at hp
    · rcases List.mem_cons.mp hp with rfl | hp
      · exact ⟨fun x hx => .inl hx, by omega⟩
      · obtain ⟨h1, h2⟩ := spl_mem p hp
        refine ⟨fun x hx => .inr ?_, by simp at h2; omega⟩
        rcases h1 x hx with z | z
        · cases z
        · exact List.mem_cons_of_mem _ z
    · obtain ⟨h1, h2⟩ := spl_mem p hp
      refine ⟨fun x hx => ?_, by simp at h2; omega⟩
      rcases h1 x hx with z | z
      · rcases List.mem_append.mp z with z | z
        · exact .inl z
        · rw [List.mem_singleton.mp z]; exact .inr (by simp)
      · exact .inr (List.mem_cons_of_mem _ z)
theorem spl_count {c : Nat} : ∀ {l acc : List Nat}, (spl [c] 0 acc l).length ≤ l.length + 1
  | [], acc => by rw [spl_nil]; simp
  | y :: r, acc => by
    rw [spl_cons, List.length_cons]
    split
    · rw [List.length_cons]
      have := spl_count (c := c) (l := r) (acc := [])
      omega
    · have := spl_count (c := c) (l := r) (acc := acc ++ [y])
      omega
theorem spl_cnt {c : Nat} : ∀ {l acc : List Nat}, (spl [c] 0 acc l).length = l.count c + 1
  | [], acc => by rw [spl_nil]; simp
  | y :: r, acc => by
    rw [spl_cons]
    split
    · rename_i h
      subst h
      rw [List.length_cons, spl_cnt, List.count_cons_self]
    · rename_i h
      rw [spl_cnt, List.count_cons_of_ne h]
/-- a text of a line: its signs and its length -/
abbrev Ln6 (a : List Nat) : Prop := OkS 5000 a
theorem spl_ok {m c : Nat} {a : List Nat} (h : OkS m a) : ∀ p ∈ spl [c] 0 [] a, OkS m p := fun p hp => by
  obtain ⟨h1, h2⟩ := spl_mem p hp
  refine ⟨fun x hx => ?_, by have := h.len; simp at h2; omega⟩
  rcases h1 x hx with z | z
  · cases z
  · exact h.lt x z
/-- no long run of figures -/
def Runs (m : Nat) (a : List Nat) : Prop := ∀ u v w, a = u ++ (v ++ w) → v.all digC = true → v.length ≤ m
theorem Runs.block {m : Nat} {a u p w : List Nat} (h : Runs m a) (e : a = u ++ (p ++ w)) : Runs m p := fun x v y e2 hv => h (u ++ x) v (y ++ w) (by rw [e, e2]; simp) hv
theorem Runs.all {a : List Nat} (h : Runs 29 a) (hd : a.all digC = true) : a.length ≤ 640 := by
  have := h [] a [] (by simp) hd
  omega
/-- what option_read tells of some words -/
def optD (a : List Nat) : PyData := if optB a = true then .int ((NumText.digitsVal a : Nat) : Int) else .none
theorem optsR_e {ρ : Rho} {ws : List (List Nat)} {te : EF} (hw : ∀ p ∈ ws, OkS 5000 p ∧ Runs 29 p) (he : ∀ p ∈ ws, ∃ ρ1, gN 8 (.d (.str (S p))) ρ [] = some (ρ1, []) ∧ te ρ1 [] = callF F_option_read 1 [.d (.str (S p))] []) :
    compL (gN 8) sYes te ρ (sts ws) [] = some (ws.map optD, []) := by
  unfold sts
  refine compL_all (fun l => PyData.str (S l)) optD fun p hp => ?_
  obtain ⟨ρ1, e1, e2⟩ := he p hp
  exact ⟨ρ1, e1, rfl, by rw [e2]; exact option_any (hw p hp).1.len (hw p hp).2.all⟩
open TL
theorem up_adj : ∀ {l : List Nat}, adj l = true → l.Pairwise (· < ·)
  | [], _ => .nil
  | [x], _ => List.pairwise_singleton _ _
  | x :: y :: r, h => by
    have h2 : decide (x < y) = true ∧ adj (y :: r) = true := by
      unfold adj at h ⊢
      rw [List.all_eq_true] at h ⊢
      refine ⟨h 0 (List.mem_range.mpr (by simp)), fun p hp => ?_⟩
      have := h (p + 1) (List.mem_range.mpr (by have := List.mem_range.mp hp; simp at this ⊢; omega))
      exact this
    have ih := up_adj h2.2
    have hxy := of_decide_eq_true h2.1
    refine List.pairwise_cons.mpr ⟨fun z hz => ?_, ih⟩
    rcases List.mem_cons.mp hz with rfl | hz
    · exact hxy
    · exact Nat.lt_trans hxy ((List.pairwise_cons.mp ih).1 z hz)
theorem are_up {n : Int} {x : PyData} (h : areO n x = true) : ∃ l, x = .tuple (oi l) ∧ Up n l := by
  obtain ⟨l, rfl, hl⟩ := areO_inv h
  rw [areO_oi hl] at h
  exact ⟨l, rfl, hl, up_adj h⟩
/-- a right pair, and what it is -/
def RP (n : Int) (p : Pr2) : Prop := Up n p.1 ∧ ∀ r, p.2 = some r → Up n r
theorem pairB_rp {n : Int} {x : PyData} (h : pairB n x = true) : ∃ p, x = pd p ∧ RP n p := by
  unfold pairB at h
  split at h
  · rename_i l r
    rw [Bool.and_eq_true, Bool.or_eq_true] at h
    obtain ⟨h1, h2⟩ := h
    obtain ⟨a, rfl, ha⟩ := are_up h1
    rcases h2 with h2 | h2
    · cases r with
      | none => exact ⟨(a, none), rfl, ha, fun r e => by cases e⟩
      | _ => cases h2
    · obtain ⟨b, rfl, hb⟩ := are_up h2
      exact ⟨(a, some b), rfl, ha, fun r e => by cases e; exact hb⟩
  · cases h
theorem RP.b {n : Int} {p : Pr2} (h : RP n p) : pairB n (pd p) = true := by
  obtain ⟨l, r⟩ := p
  cases r with
  | none => simp [pairB, pd, dOpt, h.1.are, isNone]
  | some r => simp [pairB, pd, dOpt, h.1.are, (h.2 r rfl).are]
theorem Up.opts {n : Int} {l : List Nat} (h : Up n l) (h1 : n ≤ 30) : Opts l := ⟨fun k hk => by have := h.lt k hk; omega, by
  rcases h.len with q | rfl
  · omega
  · simp⟩
theorem RP.opt {n : Int} {p : Pr2} (h : RP n p) (h1 : n ≤ 30) : OptP p := ⟨h.1.opts h1, fun r e => (h.2 r e).opts h1⟩
/-- texts taken apart are blocks -/
theorem par_join {s : List Nat} (hs : s ≠ []) : ∀ {l acc x y : List Nat}, par s acc l = some (x, y) → acc ++ l = x ++ (s ++ y)
  | [], acc, x, y, h => by cases h
  | c :: r, acc, x, y, h => by
    by_cases hp : pre s (c :: r) = true
    · rw [par_hit hp] at h
      cases h
      have : (c :: r).take s.length = s := eq_of_beq hp
      conv => lhs; rw [← List.take_append_drop s.length (c :: r), this]
    · rw [par_miss (by simpa using hp)] at h
      have := par_join hs h
      rw [← this, List.append_assoc]
      rfl
theorem spl_block {c : Nat} : ∀ {l acc p : List Nat}, p ∈ spl [c] 0 acc l → ∃ u w, acc ++ l = u ++ (p ++ w)
  | [], acc, p, h => by
    rw [spl_nil, List.mem_singleton] at h
    exact ⟨[], [], by rw [h]; simp⟩
  | x :: r, acc, p, h => by
    rw [spl_cons] at h
    split at h
    · rcases List.mem_cons.mp h with rfl | h
      · exact ⟨[], x :: r, rfl⟩
      · obtain ⟨u, w, e⟩ := spl_block h
        rw [List.nil_append] at e
        exact ⟨acc ++ x :: u, w, by rw [e]; simp⟩
    · obtain ⟨u, w, e⟩ := spl_block h
      exact ⟨u, w, by rw [← e]; simp⟩
theorem dv_lt0 : ∀ {a : List Nat} {acc : Nat}, a.all digC = true → a.foldl (fun acc c => acc * 10 + (c - 48)) acc + 1 ≤ (acc + 1) * 10 ^ a.length
  | [], acc, _ => by simp
  | c :: r, acc, h => by
    rw [List.all_cons, Bool.and_eq_true] at h
    have hc := digC_iff.mp h.1
    have ih := dv_lt0 (a := r) (acc := acc * 10 + (c - 48)) h.2
    rw [List.foldl_cons, List.length_cons, Nat.pow_succ, Nat.mul_comm (10 ^ r.length) 10, ← Nat.mul_assoc]
    exact Nat.le_trans ih (Nat.mul_le_mul_right _ (by omega))
theorem dv_lt {a : List Nat} (h : a.all digC = true) : NumText.digitsVal a < 10 ^ a.length := by
  have := dv_lt0 (acc := 0) h
  unfold NumText.digitsVal
  omega
theorem optD_sm {a : List Nat} (h : Runs 29 a) : Sm 0 100 (optD a) := by
  unfold optD
  split
  · rename_i hb
    have hd : a.all digC = true := by
      unfold optB at hb
      simp only [Bool.and_eq_true] at hb
      exact hb.2.1
    have hl := h [] a [] (by simp) hd
    have := dv_lt hd
    have h2 : 10 ^ a.length ≤ 10 ^ 29 := Nat.pow_le_pow_right (by decide) hl
    refine Sm.int ?_
    rw [Int.natAbs_natCast]
    exact Nat.lt_of_lt_of_le this (Nat.le_trans h2 (by decide +kernel))
  · exact Sm.none.mono (by decide) (by decide)
/-- what a reader tells of a text: the right pair whose text it is, or nothing -/
def Rd (n : Int) (a : List Nat) (R : PyData) : Prop := (∃ p, RP n p ∧ R = pd p ∧ pairT p = a) ∨ (R = .none ∧ ∀ p, RP n p → pairT p ≠ a)
theorem Rd.uniq {n : Int} {a : List Nat} {R R' : PyData} (h1 : n ≤ 30) (h : Rd n a R) (h' : Rd n a R') : R = R' := by
  rcases h with ⟨p, hp, rfl, e⟩ | ⟨rfl, h⟩
  · rcases h' with ⟨q, hq, rfl, e'⟩ | ⟨rfl, h'⟩
    · have r1 := read_pair_e (M := []) (n := n) (hp.opt h1)
      have r2 := read_pair_e (M := []) (n := n) (hq.opt h1)
      rw [e, if_pos hp.b] at r1
      rw [e', if_pos hq.b] at r2
      have := r1.symm.trans r2
      injection this with z
      injection z
    · exact absurd e (h' p hp)
  · rcases h' with ⟨q, hq, rfl, e'⟩ | ⟨rfl, h'⟩
    · exact absurd e' (h q hq)
    · rfl
theorem isN_pd {p : Pr2} : pIsN [pd p] = some (.bool false) := rfl
theorem map_cut {α β : Type} {f : α → β} {l : List α} {lo hi : Option Int} : cutL (l.map f) lo hi = (cutL l lo hi).map f := by
  unfold cutL
  rw [List.map_take, List.map_drop, List.length_map]
theorem cutM {α : Type} {l : List α} {lo hi : Option Int} {x : α} (h : x ∈ cutL l lo hi) : x ∈ l := List.mem_of_mem_drop (List.mem_of_mem_take h)
theorem cut_len {α : Type} {l : List α} {lo hi : Option Int} : (cutL l lo hi).length ≤ l.length := by
  unfold cutL
  rw [List.length_take, List.length_drop]
  omega
theorem pair_any {M : List MO} {n : Int} {a : List Nat} (h1 : n ≤ 30) (ha : OkS 5000 a) (hr : Runs 29 a) (hc : a.count 32 ≤ 640) : ∃ R, callF F_pair_read 2 [.d (.int n), .d (.str (S a))] M = .ok (.d R) M ∧ Rd n a R := by
  by_cases hx : ∃ p, RP n p ∧ pairT p = a
  · obtain ⟨p, hp, rfl⟩ := hx
    have := read_pair_e (M := M) (n := n) (hp.opt h1)
    rw [if_pos hp.b] at this
    exact ⟨_, this, .inl ⟨p, hp, rfl, rfl⟩⟩
  have hno : ∀ p, RP n p → pairT p ≠ a := fun p hp e => hx ⟨p, hp, e⟩
  refine ⟨.none, callF_dx (J := []) ?_, .inr ⟨rfl, hno⟩⟩
  have la := ha.len
  have pt := pPart_S (a := a) (b := [45, 62]) (by simp) (by omega)
  cases hp : par [45, 62] [] a with
  | none =>
    rw [hp] at pt
    simp only at pt
    have sl := pSplit_S (a := a) (b := [32]) (by simp) (by decide) (by omega)
    have ws : ∀ p ∈ cutL (spl [32] 0 [] a) none (some (-1)), OkS 5000 p ∧ Runs 29 p := fun p hp => ⟨spl_ok ha p (cutM hp), by
      obtain ⟨u, w, e⟩ := spl_block (cutM hp)
      exact hr.block e⟩
    have ct : cutL (sts (spl [32] 0 [] a)) none (some (-1)) = sts (cutL (spl [32] 0 [] a) none (some (-1))) := map_cut
    have lc : (cutL (spl [32] 0 [] a) none (some (-1))).length ≤ 641 := by
      have := cut_len (l := spl [32] 0 [] a) (lo := none) (hi := some (-1))
      have := spl_cnt (c := 32) (l := a) (acc := [])
      omega
    generalize cutL (spl [32] 0 [] a) none (some (-1)) = ws' at *
    have e1 : compL (gN 8) sYes x1_pair_read [some (.d (.int n)), some (.d (.str (S a))), some (.d (.str (S a))), some (.d (.str (S []))), some (.d (.str (S []))), none, none, none, none] (sts ws') [] = some (ws'.map optD, []) := optsR_e ws fun p hp => ⟨_, rfl, by simp [x1_pair_read]⟩
    have z1 := szT (show (sts ws').length ≤ 16777216 by unfold sts; rw [List.length_map]; omega)
    have z2 := szT (show (ws'.map optD).length ≤ 16777216 by rw [List.length_map]; omega)
    generalize ws'.map optD = xs at *
    generalize sts ws' = T at *
    simp [F_pair_read, b_pair_read, b_pair_read_1, b_pair_read_2, pt, sl, ct, z1, z2, e1, szT]
  | some xy =>
    obtain ⟨x, y⟩ := xy
    rw [hp] at pt
    simp only at pt
    have ej := par_join (by simp) hp
    rw [List.nil_append] at ej
    have hxb : OkS 5000 x := ⟨fun c hc => ha.lt c (by rw [ej]; simp [hc]), by have := congrArg List.length ej; simp at this; omega⟩
    have hyb : OkS 5000 y := ⟨fun c hc => ha.lt c (by rw [ej]; simp [hc]), by have := congrArg List.length ej; simp at this; omega⟩
    have rx : Runs 29 x := hr.block (u := []) (w := [45, 62] ++ y) (by rw [ej]; rfl)
    have ry : Runs 29 y := hr.block (u := x ++ [45, 62]) (w := []) (by rw [ej]; simp)
    have cx : x.count 32 ≤ 640 ∧ y.count 32 ≤ 640 := by
      have := congrArg (List.count 32) ej
      rw [List.count_append, List.count_append] at this
      omega
    have lx := hxb.len
    have ly := hyb.len
    have sl := pSplit_S (a := x) (b := [32]) (by simp) (by decide) (by omega)
    have ws : ∀ p ∈ cutL (spl [32] 0 [] x) none (some (-1)), OkS 5000 p ∧ Runs 29 p := fun p hp => ⟨spl_ok hxb p (cutM hp), by
      obtain ⟨u, w, e⟩ := spl_block (cutM hp)
      exact rx.block e⟩
    have ct : cutL (sts (spl [32] 0 [] x)) none (some (-1)) = sts (cutL (spl [32] 0 [] x) none (some (-1))) := map_cut
    have lc : (cutL (spl [32] 0 [] x) none (some (-1))).length ≤ 641 := by
      have := cut_len (l := spl [32] 0 [] x) (lo := none) (hi := some (-1))
      have := spl_cnt (c := 32) (l := x) (acc := [])
      omega
    generalize cutL (spl [32] 0 [] x) none (some (-1)) = ws' at *
    have e1 : compL (gN 8) sYes x1_pair_read [some (.d (.int n)), some (.d (.str (S a))), some (.d (.str (S x))), some (.d (.str (S [45, 62]))), some (.d (.str (S y))), none, none, none, none] (sts ws') [] = some (ws'.map optD, []) := optsR_e ws fun p hp => ⟨_, rfl, by simp [x1_pair_read]⟩
    have z1 := szT (show (sts ws').length ≤ 16777216 by unfold sts; rw [List.length_map]; omega)
    have z2 := szT (show (ws'.map optD).length ≤ 16777216 by rw [List.length_map]; omega)
    have f1 : Sm 1 64741 (.tuple (ws'.map optD)) := (Sm.tuple (n := 641) (D := 0) (B := 100) (fun d hd => by
      obtain ⟨p, hp, rfl⟩ := List.mem_map.mp hd
      exact optD_sm (ws p hp).2) (by rw [List.length_map]; exact lc)).mono (by decide) (by decide)
    have fin2 : ∀ {E : PyData}, Sm 1 64741 E → (pairB n (.tuple [.tuple (ws'.map optD), E]) = true → ∃ b, callF F_pair_text 1 [.d (.tuple [.tuple (ws'.map optD), E])] [] = .ok (.d (.str (S b))) [] ∧ b ≠ a) ∧ callF F_is_right_pair 2 [.d (.int n), .d (.tuple [.tuple (ws'.map optD), E])] [] = .ok (.d (.bool (pairB n (.tuple [.tuple (ws'.map optD), E])))) [] := fun {E} hE => by
      have fp : Fine (.tuple [.tuple (ws'.map optD), E]) := (Sm.tuple (n := 2) (D := 1) (B := 64741) (fun d hd => by
        simp only [List.mem_cons, List.not_mem_nil, or_false] at hd
        rcases hd with rfl | rfl
        · exact f1
        · exact hE) (Nat.le_refl _)).fine (by decide) (by decide)
      refine ⟨fun hb => ?_, right_pair_e (M := []) (n := n) fp⟩
      obtain ⟨p, e, hp⟩ := pairB_rp hb
      rw [e]
      exact ⟨pairT p, pair_text_e (M := []) (hp.opt h1), hno p hp⟩
    generalize ws'.map optD = xs at *
    generalize sts ws' = T at *
    by_cases hn : y = [32, 110, 101, 118, 101, 114]
    · subst hn
      obtain ⟨t1, t2⟩ := fin2 (E := .none) (Sm.none.mono (by decide) (by decide))
      cases hb : pairB n (.tuple [.tuple xs, .none]) with
      | false =>
        rw [hb] at t2
        simp [F_pair_read, b_pair_read, b_pair_read_1, b_pair_read_2, b_pair_read_3, b_pair_read_4, b_pair_read_5, b_pair_read_6, pt, sl, ct, z1, z2, e1, szT, t2]
      | true =>
        rw [hb] at t2
        obtain ⟨b, e3, e4⟩ := t1 hb
        simp [F_pair_read, b_pair_read, b_pair_read_1, b_pair_read_2, b_pair_read_3, b_pair_read_4, b_pair_read_5, b_pair_read_6, pt, sl, ct, z1, z2, e1, szT, t2, e3, e4]
    · have sr := pSplit_S (a := y) (b := [32]) (by simp) (by decide) (by omega)
      have vs : ∀ p ∈ cutL (spl [32] 0 [] y) (some 1) none, OkS 5000 p ∧ Runs 29 p := fun p hp => ⟨spl_ok hyb p (cutM hp), by
        obtain ⟨u, w, e⟩ := spl_block (cutM hp)
        exact ry.block e⟩
      have cr : cutL (sts (spl [32] 0 [] y)) (some 1) none = sts (cutL (spl [32] 0 [] y) (some 1) none) := map_cut
      have lv : (cutL (spl [32] 0 [] y) (some 1) none).length ≤ 641 := by
        have := cut_len (l := spl [32] 0 [] y) (lo := some 1) (hi := none)
        have := spl_cnt (c := 32) (l := y) (acc := [])
        omega
      generalize cutL (spl [32] 0 [] y) (some 1) none = vs' at *
      have e2 : compL (gN 8) sYes x2_pair_read [some (.d (.int n)), some (.d (.str (S a))), some (.d (.str (S x))), some (.d (.str (S [45, 62]))), some (.d (.str (S y))), some (.d (.tuple xs)), none, none, none] (sts vs') [] = some (vs'.map optD, []) := optsR_e vs fun p hp => ⟨_, rfl, by simp [x2_pair_read]⟩
      have z3 := szT (show (sts vs').length ≤ 16777216 by unfold sts; rw [List.length_map]; omega)
      have z4 := szT (show (vs'.map optD).length ≤ 16777216 by rw [List.length_map]; omega)
      obtain ⟨t1, t2⟩ := fin2 (E := .tuple (vs'.map optD)) ((Sm.tuple (n := 641) (D := 0) (B := 100) (fun d hd => by
        obtain ⟨p, hp, rfl⟩ := List.mem_map.mp hd
        exact optD_sm (vs p hp).2) (by rw [List.length_map]; exact lv)).mono (by decide) (by decide))
      generalize vs'.map optD = ys at *
      generalize sts vs' = V at *
      cases hb : pairB n (.tuple [.tuple xs, .tuple ys]) with
      | false =>
        rw [hb] at t2
        simp [F_pair_read, b_pair_read, b_pair_read_1, b_pair_read_2, b_pair_read_3, b_pair_read_4, b_pair_read_5, b_pair_read_6, pt, sl, ct, z1, z2, e1, szT, hn, sr, cr, z3, z4, e2, t2]
      | true =>
        rw [hb] at t2
        obtain ⟨b, e3, e4⟩ := t1 hb
        simp [F_pair_read, b_pair_read, b_pair_read_1, b_pair_read_2, b_pair_read_3, b_pair_read_4, b_pair_read_5, b_pair_read_6, pt, sl, ct, z1, z2, e1, szT, hn, sr, cr, z3, z4, e2, t2, e3, e4]
open TL
abbrev arrow : List Nat := [45, 62]
/-- a number's word -/
theorem optN_num {n : Int} {w : List Nat} (h1 : n ≤ 30) (h : optN n w = true) : w = numL (NumText.digitsVal w) ∧ ((NumText.digitsVal w : Nat) : Int) < n := by
  unfold optN optB at h
  simp only [Bool.and_eq_true, decide_eq_true_eq] at h
  obtain ⟨⟨h2, h3, h4⟩, h5, h6⟩ := h
  refine ⟨?_, h6⟩
  match w, h2, h3, h4, h5 with
  | [c], _, h3, _, _ =>
    have hc := digC_iff.mp (by simpa using h3 : digC c = true)
    have key : ∀ d, d < 10 → [48 + d] = numL (NumText.digitsVal [48 + d]) := by decide +kernel
    have := key (c - 48) (by omega)
    rwa [show 48 + (c - 48) = c by omega] at this
  | [c, d], _, h3, h4, _ =>
    have h3' : digC c = true ∧ digC d = true := by simpa using h3
    have hc := digC_iff.mp h3'.1
    have hd := digC_iff.mp h3'.2
    have hc0 : c ≠ 48 := fun z => by
      subst z
      simp at h4
    have key : ∀ c, c < 9 → ∀ d, d < 10 → [49 + c, 48 + d] = numL (NumText.digitsVal [49 + c, 48 + d]) := by decide +kernel
    have := key (c - 49) (by omega) (d - 48) (by omega)
    rwa [show 49 + (c - 49) = c by omega, show 48 + (d - 48) = d by omega] at this
theorem num_optN {n : Int} {k : Nat} (h : k < 100) (hk : (k : Int) < n) : optN n (numL k) = true ∧ NumText.digitsVal (numL k) = k := by
  have key : ∀ k, k < 100 → (optB (numL k) && decide ((numL k).length ≤ 2)) = true ∧ NumText.digitsVal (numL k) = k := by decide +kernel
  obtain ⟨a, b⟩ := key k h
  refine ⟨?_, b⟩
  unfold optN
  rw [b]
  rw [Bool.and_eq_true] at a
  simp only [a.1, a.2, Bool.true_and, decide_eq_true_eq]
  exact hk
def lawD (n : Int) (a : List Nat) : PyData := if optN n a = true then .int ((NumText.digitsVal a : Nat) : Int) else .none
/-- words that are numbers -/
theorem lawD_all {n : Int} (h1 : n ≤ 30) : ∀ {ws : List (List Nat)}, (∀ w ∈ ws, optN n w = true) → ws.map (lawD n) = oi (ws.map NumText.digitsVal) ∧ ws = (ws.map NumText.digitsVal).map numL
  | [], _ => ⟨rfl, rfl⟩
  | w :: ws, h => by
    obtain ⟨i1, i2⟩ := lawD_all h1 (ws := ws) fun x hx => h x (List.mem_cons_of_mem _ hx)
    have hw := h w (by simp)
    refine ⟨?_, ?_⟩
    · show lawD n w :: ws.map (lawD n) = .int _ :: oi (ws.map NumText.digitsVal)
      rw [i1]
      unfold lawD
      rw [if_pos hw]
    · show w :: ws = numL (NumText.digitsVal w) :: (ws.map NumText.digitsVal).map numL
      rw [← i2, ← (optN_num h1 hw).1]
theorem words_of {n : Int} {l : List Nat} (h : Up n l) (h1 : n ≤ 30) : (l.map numL).map (lawD n) = oi l ∧ ∀ w ∈ l.map numL, optN n w = true := by
  have key : ∀ k ∈ l, optN n (numL k) = true ∧ NumText.digitsVal (numL k) = k := fun k hk => by
    have := h.lt k hk
    exact num_optN (by omega) this
  refine ⟨?_, fun w hw => ?_⟩
  · rw [List.map_map]
    unfold oi
    refine List.map_congr_left fun k hk => ?_
    obtain ⟨a, b⟩ := key k hk
    show lawD n (numL k) = _
    unfold lawD
    rw [if_pos a, b]
  · obtain ⟨k, hk, rfl⟩ := List.mem_map.mp hw
    exact (key k hk).1
theorem lawD_none {n : Int} {ws : List (List Nat)} : (ws.map (lawD n)).any (fun z => PyData.eqv z .none) = ws.any fun w => !optN n w := by
  rw [List.any_map]
  congr 1
  funext w
  show PyData.eqv (lawD n w) .none = _
  unfold lawD
  cases optN n w <;> rfl
theorem count_str {W : List (List Nat)} {w : List Nat} : (sts W).countP (fun z => PyData.eqv z (.str (S w))) = W.count w := by
  unfold sts
  rw [List.countP_map, List.count]
  refine List.countP_congr fun x _ => ?_
  show PyData.eqv (.str (S x)) (.str (S w)) = true ↔ _
  rw [eqv_s]
  simp
theorem find_at {A B : List (List Nat)} {w : List Nat} (h : w ∉ A) : findJ (sts (A ++ w :: B)) (.str (S w)) = some A.length := by
  induction A with
  | nil =>
    show List.findIdx? _ (PyData.str (S w) :: sts B) = some 0
    rw [List.findIdx?_cons, eqv_s]
    simp
  | cons x A ih =>
    rw [List.mem_cons, not_or] at h
    show List.findIdx? _ (PyData.str (S x) :: sts (A ++ w :: B)) = some (A.length + 1)
    rw [List.findIdx?_cons, eqv_s]
    have hx : ¬ x = w := fun z => h.1 z.symm
    have := ih h.2
    unfold findJ at this
    simp [hx, this]
theorem one_at {W : List (List Nat)} {w : List Nat} (h : W.count w = 1) : ∃ A B, W = A ++ w :: B ∧ w ∉ A ∧ w ∉ B := by
  have hm : w ∈ W := List.count_pos_iff.mp (by omega)
  obtain ⟨A, B, e, hA⟩ := List.append_of_mem hm |> fun ⟨s, t, e⟩ => (⟨s, t, e, trivial⟩ : ∃ s t, W = s ++ w :: t ∧ True)
  refine ⟨A, B, e, fun z => ?_, fun z => ?_⟩
  · have := List.count_pos_iff.mpr z
    rw [e, List.count_append, List.count_cons_self] at h
    omega
  · have := List.count_pos_iff.mpr z
    rw [e, List.count_append, List.count_cons_self] at h
    omega
theorem law_core {M : List MO} {n : Int} {a : List Nat} {A B : List (List Nat)} (h1 : n ≤ 30) (ha : OkS 5000 a) (h6 : a.count 32 ≤ 640) (hW : spl [32] 0 [] a = A ++ arrow :: B) (hA : arrow ∉ A) (hB : arrow ∉ B) :
    callF F_law_pair_of 2 [.d (.int n), .d (.str (S a))] M = .ok (.d (if (A.all (optN n) && ((decide (B = [never]) || B.all (optN n)) && (areO n (.tuple (A.map (lawD n))) && (decide (B = [never]) || areO n (.tuple (B.map (lawD n))))))) = true then .tuple [.tuple (A.map (lawD n)), if B = [never] then .none else .tuple (B.map (lawD n))] else .none)) M := by
  refine callF_dx (J := []) ?_
  have la := ha.len
  have ws := spl_ok (c := 32) ha
  have sp := pSplit_S (a := a) (b := [32]) (by simp) (by decide) (by omega)
  have lW := spl_cnt (c := 32) (l := a) (acc := [])
  rw [hW] at ws sp lW
  rw [List.length_append, List.length_cons] at lW
  have wA : ∀ p ∈ A, OkS 5000 p := fun p hp => ws p (by simp [hp])
  have wB : ∀ p ∈ B, OkS 5000 p := fun p hp => ws p (by simp [hp])
  have shW : SeqAt.shaped (.list (sts (A ++ arrow :: B))) = true := shaped_sts fun l hl c hc => (ws l hl).lt c hc
  have shB : SeqAt.shaped (.list (sts B)) = true := shaped_sts fun l hl c hc => (wB l hl).lt c hc
  have shr : SeqAt.shaped (.str (S arrow)) = true := ((Sm.str (n := 2) (show ∀ c ∈ arrow, c < 1114112 by decide) (by decide)).fine (by decide) (by decide)).shaped
  have shn : SeqAt.shaped (.list (sts [never])) = true := shaped_sts (by decide)
  have ct := pCountL_e shW shr
  have ix := pIndexL_e shW shr
  have hc : (A ++ arrow :: B).count arrow = 1 := by
    rw [List.count_append, List.count_cons_self, List.count_eq_zero.mpr hA, List.count_eq_zero.mpr hB]
  rw [count_str, hc] at ct
  rw [find_at hA] at ix
  have c1 : cutL (sts (A ++ arrow :: B)) none (some (A.length : Int)) = sts A := by
    rw [cut_to]
    unfold sts
    rw [← List.map_take, List.take_left']
    rfl
  have c2 : cutL (sts (A ++ arrow :: B)) (some ((A.length : Int) + 1)) none = sts B := by
    rw [show ((A.length : Int) + 1) = ((A.length + 1 : Nat) : Int) by omega, cut_from]
    unfold sts
    rw [← List.map_drop]
    congr 1
    rw [show A.length + 1 = (A ++ [arrow]).length by simp, show A ++ arrow :: B = (A ++ [arrow]) ++ B by simp, List.drop_left']
    rfl
  have sm : ∀ w, Sm 0 100 (lawD n w) := fun w => by
    unfold lawD
    split
    · rename_i h
      have := (optN_num h1 h).2
      refine Sm.int ?_
      rw [Int.natAbs_natCast]
      exact Nat.lt_of_lt_of_le (m := 30) (by omega) (by decide +kernel)
    · exact Sm.none.mono (by decide) (by decide)
  have fT : ∀ X : List (List Nat), X.length ≤ 641 → Sm 1 64741 (.tuple (X.map (lawD n))) := fun X hX => (Sm.tuple (n := 641) (D := 0) (B := 100) (fun d hd => by
    obtain ⟨p, hp, rfl⟩ := List.mem_map.mp hd
    exact sm p) (by rw [List.length_map]; exact hX)).mono (by decide) (by decide)
  have oA := law_options_e (M := []) (n := n) ((fT A (by omega)).fine (by decide) (by decide))
  have oB := law_options_e (M := []) (n := n) ((fT B (by omega)).fine (by decide) (by decide))
  have o0 := law_options_e (M := []) (n := n) ((fT [] (by simp)).fine (by decide) (by decide))
  have a0 : areO n (.tuple (([] : List (List Nat)).map (lawD n))) = true := rfl
  rw [a0] at o0
  have e1 : compL (gN 7) sYes x1_law_pair_of [some (.d (.int n)), some (.d (.str (S a))), some (.d (.list (sts (A ++ arrow :: B)))), some (.d (.int (A.length : Int))), none, none, none, none] (sts A) [] = some (A.map (lawD n), []) := by
    unfold sts
    refine compL_all (fun l => PyData.str (S l)) (lawD n) fun p hp => ⟨_, rfl, rfl, ?_⟩
    have := law_option_any (M := []) (n := n) (wA p hp).lt (by have := (wA p hp).len; omega)
    generalize (A ++ arrow :: B).map (fun l => PyData.str (S l)) = SW at *
    simp [x1_law_pair_of, this, lawD]
  have e2 : compL (gN 7) sYes x2_law_pair_of [some (.d (.int n)), some (.d (.str (S a))), some (.d (.list (sts (A ++ arrow :: B)))), some (.d (.int (A.length : Int))), some (.d (.list (A.map (lawD n)))), none, none, none] (sts B) [] = some (B.map (lawD n), []) := by
    unfold sts
    refine compL_all (fun l => PyData.str (S l)) (lawD n) fun p hp => ⟨_, rfl, rfl, ?_⟩
    have := law_option_any (M := []) (n := n) (wB p hp).lt (by have := (wB p hp).len; omega)
    generalize (A ++ arrow :: B).map (fun l => PyData.str (S l)) = SW at *
    generalize A.map (lawD n) = LA at *
    simp [x2_law_pair_of, this, lawD]
  have ne := eqv_sts (a := B) (b := [never])
  have en : sts [never] = [.str (S [110, 101, 118, 101, 114])] := rfl
  rw [en] at shn ne
  have inn : ∀ X : List (List Nat), X.length ≤ 1300 → inB .none (.list (X.map (lawD n))) = some (!X.all (optN n)) := fun X hX => by
    have q := Sm.list (n := (X.map (lawD n)).length) (D := 0) (B := 100) (fun d hd => by
      obtain ⟨p, hp, rfl⟩ := List.mem_map.mp hd
      exact sm p) (Nat.le_refl _)
    have sh : SeqAt.shaped (.list (X.map (lawD n))) = true := shaped_of q.nice (by have := q.dep; omega)
    have s0 : SeqAt.shaped .none = true := rfl
    have hb : inB .none (.list (X.map (lawD n))) = some ((X.map (lawD n)).any fun z => PyData.eqv z .none) := if_pos ⟨s0, sh⟩
    have hq : (X.any fun w => !optN n w) = !X.all (optN n) := by rw [List.not_all_eq_any_not]
    rw [hb, lawD_none, hq]
  have lA : (A.map (lawD n)).length ≤ 641 := by rw [List.length_map]; omega
  have lB : (B.map (lawD n)).length ≤ 641 := by rw [List.length_map]; omega
  have zA := szT (show (A.map (lawD n)).length ≤ 16777216 by omega)
  have zB := szT (show (B.map (lawD n)).length ≤ 16777216 by omega)
  have zAB := szT (show (A.map (lawD n)).length + (B.map (lawD n)).length ≤ 16777216 by omega)
  have zsA := szT (show (sts A).length ≤ 16777216 by unfold sts; rw [List.length_map]; omega)
  have zsB := szT (show (sts B).length ≤ 16777216 by unfold sts; rw [List.length_map]; omega)
  have iAB := inn (A ++ B) (by rw [List.length_append]; omega)
  have iA := inn A (by omega)
  rw [List.map_append, List.all_append] at iAB
  by_cases hn : B = [never]
  · have dn : decide (B = [never]) = true := decide_eq_true hn
    rw [dn] at ne
    rw [if_pos hn, dn]
    rw [List.map_nil] at o0
    clear iAB zAB inn
    simp only [Bool.true_or, Bool.true_and, Bool.and_true]
    generalize areO n (.tuple (B.map (lawD n))) = ob at *
    generalize areO n (.tuple (A.map (lawD n))) = oa at *
    generalize A.all (optN n) = aa at *
    generalize B.all (optN n) = ba at *
    generalize A.map (lawD n) = LA at *
    generalize B.map (lawD n) = LB at *
    generalize sts (A ++ arrow :: B) = SW at *
    generalize sts A = SA at *
    generalize sts B = SB at *
    cases aa <;> cases oa <;> simp [F_law_pair_of, b_law_pair_of, b_law_pair_of_1, b_law_pair_of_2, b_law_pair_of_3, b_law_pair_of_4, b_law_pair_of_5, b_law_pair_of_6, b_law_pair_of_7, b_law_pair_of_8, b_law_pair_of_9, sp, ct, ix, c1, c2, e1, e2, zA, zB, zsA, zsB, szT, shB, shn, ne, iA, oA, o0]
  · have dn : decide (B = [never]) = false := decide_eq_false hn
    rw [dn] at ne
    rw [if_neg hn, dn]
    clear iA inn
    simp only [Bool.false_or]
    generalize areO n (.tuple (B.map (lawD n))) = ob at *
    generalize areO n (.tuple (A.map (lawD n))) = oa at *
    generalize A.all (optN n) = aa at *
    generalize B.all (optN n) = ba at *
    generalize A.map (lawD n) = LA at *
    generalize B.map (lawD n) = LB at *
    generalize sts (A ++ arrow :: B) = SW at *
    generalize sts A = SA at *
    generalize sts B = SB at *
    cases aa <;> cases ba <;> cases oa <;> cases ob <;> simp [F_law_pair_of, b_law_pair_of, b_law_pair_of_1, b_law_pair_of_2, b_law_pair_of_3, b_law_pair_of_4, b_law_pair_of_5, b_law_pair_of_6, b_law_pair_of_7, b_law_pair_of_8, b_law_pair_of_9, sp, ct, ix, c1, c2, e1, e2, zA, zB, zAB, zsA, zsB, szT, shB, shn, ne, iAB, oA, oB]
open TL
theorem num_no {k c : Nat} (hc : c < 48 ∨ 57 < c) : c ∉ numL k := fun h => by
  have := num_sign h
  omega
theorem num_arrow {k : Nat} : numL k ≠ arrow := fun e => num_no (k := k) (c := 45) (.inl (by decide)) (by rw [e]; simp)
theorem num_never {k : Nat} : numL k ≠ never := fun e => num_no (k := k) (c := 110) (.inr (by decide)) (by rw [e]; simp [never])
theorem words_pair {p : Pr2} : spl [32] 0 [] (pairT p) = p.1.map numL ++ arrow :: endT p.2 := by
  have e : pairW p = p.1.map numL ++ arrow :: endT p.2 := by unfold pairW; simp
  unfold pairT
  rw [spl_join (by rw [e]; simp) fun w hw => ?_, e]
  rw [e] at hw
  rcases List.mem_append.mp hw with hw | hw
  · obtain ⟨k, hk, rfl⟩ := List.mem_map.mp hw
    exact num_no (.inl (by decide))
  · rcases List.mem_cons.mp hw with rfl | hw
    · decide
    · cases hp : p.2 with
      | none =>
        rw [hp] at hw
        rw [List.mem_singleton.mp hw]
        decide
      | some r =>
        rw [hp] at hw
        obtain ⟨k, hk, rfl⟩ := List.mem_map.mp hw
        exact num_no (.inl (by decide))
theorem no_arrow {p : Pr2} : arrow ∉ p.1.map numL ∧ arrow ∉ endT p.2 := by
  have key : ∀ l : List Nat, arrow ∉ l.map numL := fun l h => by
    obtain ⟨k, hk, e⟩ := List.mem_map.mp h
    exact num_arrow e
  refine ⟨key _, fun h => ?_⟩
  cases hp : p.2 with
  | none =>
    rw [hp] at h
    have := List.mem_singleton.mp h
    cases this
  | some r =>
    rw [hp] at h
    exact key r h
theorem end_never {r : List Nat} : r.map numL ≠ [never] := fun e => by
  obtain ⟨k, rfl, e2⟩ := List.map_eq_singleton_iff.mp e
  exact num_never e2
theorem oi_inj : ∀ {a b : List Nat}, oi a = oi b → a = b
  | [], [], _ => rfl
  | [], y :: b, h => by cases h
  | x :: a, [], h => by cases h
  | x :: a, y :: b, h => by
    have h : PyData.int (x : Int) :: oi a = PyData.int (y : Int) :: oi b := h
    injection h with h1 h2
    injection h1 with h1
    rw [oi_inj h2, Int.ofNat.inj h1]
theorem split_uniq {w : List Nat} : ∀ {A A' B B' : List (List Nat)}, A ++ w :: B = A' ++ w :: B' → w ∉ A → w ∉ A' → A = A' ∧ B = B'
  | [], [], _, _, h, _, _ => ⟨rfl, by injection h⟩
  | [], y :: A', _, _, h, _, h' => by
    injection h with h1 h2
    exact absurd (by rw [h1]; simp) h'
  | x :: A, [], _, _, h, h', _ => by
    injection h with h1 h2
    exact absurd (by rw [← h1]; simp) h'
  | x :: A, y :: A', _, _, h, h1, h2 => by
    injection h with e1 e2
    rw [List.mem_cons, not_or] at h1 h2
    obtain ⟨i1, i2⟩ := split_uniq e2 h1.2 h2.2
    exact ⟨by rw [e1, i1], i2⟩
theorem join_words {a : List Nat} : joinL [32] (spl [32] 0 [] a) = a := by rw [join_spl]; rfl
theorem law_pair_any {M : List MO} {n : Int} {a : List Nat} (h1 : n ≤ 30) (ha : OkS 5000 a) (h6 : a.count 32 ≤ 640) : ∃ R, callF F_law_pair_of 2 [.d (.int n), .d (.str (S a))] M = .ok (.d R) M ∧ Rd n a R := by
  by_cases hc : (spl [32] 0 [] a).count arrow = 1
  · obtain ⟨A, B, hW, hA, hB⟩ := one_at hc
    have core := law_core (M := M) h1 ha h6 hW hA hB
    refine ⟨_, core, ?_⟩
    by_cases hx : ∃ p, RP n p ∧ pairT p = a
    · obtain ⟨p, hp, rfl⟩ := hx
      -- the words are the pair's
      obtain ⟨e1, e2⟩ : A = p.1.map numL ∧ B = endT p.2 := by
        rw [words_pair] at hW
        obtain ⟨i1, i2⟩ := split_uniq hW no_arrow.1 hA
        exact ⟨i1.symm, i2.symm⟩
      refine .inl ⟨p, hp, ?_, rfl⟩
      subst e1 e2
      obtain ⟨w1, w2⟩ := words_of hp.1 h1
      have d1 : (p.1.map numL).all (optN n) = true := List.all_eq_true.mpr w2
      rw [w1, d1, hp.1.are]
      obtain ⟨l, r⟩ := p
      cases r with
      | none => rfl
      | some r =>
        obtain ⟨w3, w4⟩ := words_of (hp.2 r rfl) h1
        have d2 : (r.map numL).all (optN n) = true := List.all_eq_true.mpr w4
        have ne := decide_eq_false (end_never (r := r))
        show (if (true && ((decide (r.map numL = [never]) || (r.map numL).all (optN n)) && (true && (decide (r.map numL = [never]) || areO n (.tuple ((r.map numL).map (lawD n))))))) = true then PyData.tuple [.tuple (oi l), if r.map numL = [never] then .none else .tuple ((r.map numL).map (lawD n))] else .none) = _
        rw [ne, d2, w3, (hp.2 r rfl).are, if_neg end_never]
        rfl
    · have hno : ∀ p, RP n p → pairT p ≠ a := fun p hp e => hx ⟨p, hp, e⟩
      refine .inr ⟨?_, hno⟩
      rw [if_neg]
      intro hh
      simp only [Bool.and_eq_true, Bool.or_eq_true, decide_eq_true_eq] at hh
      obtain ⟨q1, q2, q3, q4⟩ := hh
      obtain ⟨u1, u2⟩ := lawD_all h1 (List.all_eq_true.mp q1)
      rw [u1] at q3
      obtain ⟨l, el, hl⟩ := are_up q3
      have el' : oi (A.map NumText.digitsVal) = oi l := by injection el
      have el2 : A.map NumText.digitsVal = l := oi_inj el'
      have ej := join_words (a := a)
      rw [hW] at ej
      by_cases hb : B = [never]
      · refine hno (l, none) ⟨hl, fun r e => by cases e⟩ ?_
        rw [← ej, u2, el2, hb]
        unfold pairT pairW
        simp [endT]
      · obtain ⟨v1, v2⟩ := lawD_all h1 (List.all_eq_true.mp (q2.resolve_left hb))
        have q4 := q4.resolve_left hb
        rw [v1] at q4
        obtain ⟨r, er, hr⟩ := are_up q4
        have er' : oi (B.map NumText.digitsVal) = oi r := by injection er
        have er2 : B.map NumText.digitsVal = r := oi_inj er'
        refine hno (l, some r) ⟨hl, fun r' e => by cases e; exact hr⟩ ?_
        rw [← ej, u2, el2, v2, er2]
        unfold pairT pairW
        simp [endT]
  · refine ⟨.none, callF_dx (J := []) ?_, .inr ⟨rfl, fun p hp e => hc ?_⟩⟩
    · have la := ha.len
      have ws := spl_ok (c := 32) ha
      have sp := pSplit_S (a := a) (b := [32]) (by simp) (by decide) (by omega)
      have shW : SeqAt.shaped (.list (sts (spl [32] 0 [] a))) = true := shaped_sts fun l hl c hc => (ws l hl).lt c hc
      have shr : SeqAt.shaped (.str (S arrow)) = true := ((Sm.str (n := 2) (show ∀ c ∈ arrow, c < 1114112 by decide) (by decide)).fine (by decide) (by decide)).shaped
      have ct := pCountL_e shW shr
      rw [count_str] at ct
      have hc' : ¬ (((spl [32] 0 [] a).count arrow : Nat) : Int) = 1 := by omega
      generalize (spl [32] 0 [] a).count arrow = m at *
      generalize sts (spl [32] 0 [] a) = SW at *
      simp [F_law_pair_of, b_law_pair_of, b_law_pair_of_1, sp, ct, hc']
    · rw [← e, words_pair, List.count_append, List.count_cons_self, List.count_eq_zero.mpr no_arrow.1, List.count_eq_zero.mpr no_arrow.2]
open TL Classical in
noncomputable def rdF (n : Int) (a : List Nat) : PyData := if h : ∃ p, RP n p ∧ pairT p = a then pd h.choose else .none
theorem rdF_ok {n : Int} {a : List Nat} : Rd n a (rdF n a) := by
  unfold rdF
  split
  · rename_i h
    exact .inl ⟨_, h.choose_spec.1, rfl, h.choose_spec.2⟩
  · rename_i h
    exact .inr ⟨rfl, fun p hp e => h ⟨p, hp, e⟩⟩
theorem nxt_er {e : Ex} {ρ : Rho} {M : List MO} {k : SF} : (SR.er e ρ M).nxt k = .er e ρ M := rfl
theorem go_er' {e : Ex} {ρ : Rho} {M : List MO} {k : SF} : (SR.er e ρ M).go k = .er e ρ M := rfl
/-- a line that can be read or not -/
structure LineOk6 (a : List Nat) : Prop where
  ok : OkS 5000 a
  rn : Runs 29 a
  sp : a.count 32 ≤ 640
theorem pair_rd {M : List MO} {n : Int} {a : List Nat} (h1 : n ≤ 30) (h : LineOk6 a) : callF F_pair_read 2 [.d (.int n), .d (.str (S a))] M = .ok (.d (rdF n a)) M := by
  obtain ⟨R, e, hR⟩ := pair_any (M := M) h1 h.ok h.rn h.sp
  rw [e, hR.uniq h1 rdF_ok]
theorem law_rd {M : List MO} {n : Int} {a : List Nat} (h1 : n ≤ 30) (h : LineOk6 a) : callF F_law_pair_of 2 [.d (.int n), .d (.str (S a))] M = .ok (.d (rdF n a)) M := by
  obtain ⟨R, e, hR⟩ := law_pair_any (M := M) h1 h.ok h.sp
  rw [e, hR.uniq h1 rdF_ok]
theorem rdF_isN {n : Int} {a : List Nat} : pIsN [rdF n a] = some (.bool (isNone (rdF n a))) := by
  rcases rdF_ok (n := n) (a := a) with ⟨p, _, e, _⟩ | ⟨e, _⟩
  · rw [e]; rfl
  · rw [e]; rfl
theorem one_rd {M : List MO} {n : Int} {a : List Nat} (h1 : n ≤ 30) (h : LineOk6 a) : callF F_one_read 3 [.fn "pair_read", .d (.int n), .d (.str (S a))] M = if isNone (rdF n a) = true then .err ⟨"NoText", some 1⟩ M else .ok (.d (rdF n a)) M := by
  have v := fun (fs : List EF) => sCallV_e (i := 0) (tab := [("pair_read", F_pair_read, 2)]) (fs := fs) (ρ := [some (.fn "pair_read"), some (.d (.int n)), some (.d (.str (S a))), none]) (M := []) (x := "pair_read") (mf := F_pair_read) (n := 2) rfl rfl
  have hp := pair_rd (M := []) h1 h
  have hn := rdF_isN (n := n) (a := a)
  generalize rdF n a = R at *
  split
  · rename_i hb
    rw [hb] at hn
    refine callF_dr (J := []) ?_
    have r := fun ρ : Rho => sRaiseL_e (f := sC (.int 1)) (ρ := ρ) (M := []) (j := 1) rfl
    simp [F_one_read, b_one_read, v, hp, hn, r]
  · rename_i hb
    rw [Bool.not_eq_true] at hb
    rw [hb] at hn
    refine callF_dx (J := []) ?_
    simp [F_one_read, b_one_read, v, hp, hn]
theorem prs_cons {i : Int} {m : Nat} {x : PyData} {xs : List PyData} : prs (rng i (m + 1)) (x :: xs) = .tuple [.int i, x] :: prs (rng (i + 1) m) xs := by
  rw [rng_cons]
  rfl
theorem set_same {M : List MO} {m : Nat} {o : MO} (h : M[m]? = some o) : M.set m o = M := by
  refine List.ext_getElem? fun i => ?_
  by_cases e : m = i
  · subst e
    rw [List.getElem?_set_self (List.getElem?_eq_some_iff.mp h).1, h]
  · rw [List.getElem?_set_ne e]
/-- the program's lines -/
theorem read_loop {n : Int} {m : Nat} {t : List Nat} (h1 : n ≤ 30) : ∀ {ls : List (List Nat)} {acc : List PyData} {i : Int} {M : List MO} {y4 y5 y6 : Option W}, M[m]? = some (.lst acc) → (∀ l ∈ ls, LineOk6 l) → acc.length + ls.length ≤ 5000 → 0 ≤ i → i + ls.length ≤ 5000 →
    (∃ z4 z5 z6, (∀ l ∈ ls, isNone (rdF n l) = false) ∧ forL (gT ((gN 4) :: ((gN 5) :: []))) f1_lines_read (prs (rng i ls.length) (sts ls)) [some (.fn "pair_read"), some (.d (.int n)), some (.d (.str (S t))), some (.loc m), y4, y5, y6] M = .nx [some (.fn "pair_read"), some (.d (.int n)), some (.d (.str (S t))), some (.loc m), z4, z5, z6] (M.set m (.lst (acc ++ ls.map (rdF n))))) ∨
    ∃ (j : Nat) (ρ' : Rho) (M' : List MO), ls.findIdx? (fun l => isNone (rdF n l)) = some j ∧ forL (gT ((gN 4) :: ((gN 5) :: []))) f1_lines_read (prs (rng i ls.length) (sts ls)) [some (.fn "pair_read"), some (.d (.int n)), some (.d (.str (S t))), some (.loc m), y4, y5, y6] M = .er ⟨"NoText", some (i + j + 1)⟩ ρ' M'
  | [], acc, i, M, y4, y5, y6, hM, _, _, _, _ => .inl ⟨y4, y5, y6, (fun _ h => nomatch h), by
    show SR.nx _ _ = _
    rw [List.map_nil, List.append_nil, set_same hM]⟩
  | l :: ls, acc, i, M, y4, y5, y6, hM, hl, ha, hi, hj => by
    have e0 : prs (rng i (l :: ls).length) (sts (l :: ls)) = .tuple [.int i, .str (S l)] :: prs (rng (i + 1) ls.length) (sts ls) := prs_cons
    rw [e0]
    rw [List.length_cons] at ha hj
    have hp := pair_rd (M := M) h1 (hl l (by simp))
    have hn := rdF_isN (n := n) (a := l)
    have v := fun (fs : List EF) (y6 : Option W) => sCallV_e (i := 0) (tab := [("pair_read", F_pair_read, 2)]) (fs := fs) (ρ := [some (.fn "pair_read"), some (.d (.int n)), some (.d (.str (S t))), some (.loc m), some (.d (.int i)), some (.d (.str (S l))), y6]) (M := M) (x := "pair_read") (mf := F_pair_read) (n := 2) rfl rfl
    have ty := tyW_l (M := M) (i := m) (ds := acc) hM
    have ap := pAppend_e (M := M) (i := m) (ds := acc) (x := rdF n l) hM (by rw [sizeLine_eq]; omega)
    cases hb : isNone (rdF n l) with
    | true =>
      refine .inr ⟨0, [some (.fn "pair_read"), some (.d (.int n)), some (.d (.str (S t))), some (.loc m), some (.d (.int i)), some (.d (.str (S l))), some (.d (rdF n l))], M, by rw [List.findIdx?_cons, hb]; rfl, ?_⟩
      rw [hb] at hn
      have r := fun (y6 : Option W) => sRaiseL_e (f := sPr (dpr pAdd) [sV 4, sC (.int 1)]) (ρ := [some (.fn "pair_read"), some (.d (.int n)), some (.d (.str (S t))), some (.loc m), some (.d (.int i)), some (.d (.str (S l))), y6]) (M := M) (j := i + 1) (by simp)
      generalize rdF n l = R at *
      generalize prs (rng (i + 1) ls.length) (sts ls) = P at *
      simp [forL_cons, f1_lines_read, f1_lines_read_1, f1_lines_read_2, v, hp, hn, r, nxt_er, go_er']
    | false =>
      rw [hb] at hn
      have step : f1_lines_read [some (.fn "pair_read"), some (.d (.int n)), some (.d (.str (S t))), some (.loc m), some (.d (.int i)), some (.d (.str (S l))), y6] M = .nx [some (.fn "pair_read"), some (.d (.int n)), some (.d (.str (S t))), some (.loc m), some (.d (.int i)), some (.d (.str (S l))), some (.d (rdF n l))] (M.set m (.lst (acc ++ [rdF n l]))) := by
        generalize rdF n l = R at *
        simp [f1_lines_read, f1_lines_read_1, f1_lines_read_2, v, hp, hn, ty, ap]
      have tgt : gT ((gN 4) :: ((gN 5) :: [])) (.d (.tuple [.int i, .str (S l)])) [some (.fn "pair_read"), some (.d (.int n)), some (.d (.str (S t))), some (.loc m), y4, y5, y6] M = some ([some (.fn "pair_read"), some (.d (.int n)), some (.d (.str (S t))), some (.loc m), some (.d (.int i)), some (.d (.str (S l))), y6], M) := rfl
      rw [forL_cons, tgt]
      simp only [step, nxt_nx]
      rcases read_loop h1 (ls := ls) (acc := acc ++ [rdF n l]) (i := i + 1) (y4 := some (.d (.int i))) (y5 := some (.d (.str (S l)))) (y6 := some (.d (rdF n l))) (set_at hM) (fun x hx => hl x (List.mem_cons_of_mem _ hx)) (by rw [List.length_append]; simp; omega) (by omega) (by omega) with ⟨z4, z5, z6, q, e⟩ | ⟨j, ρ', M', q, e⟩
      · refine .inl ⟨z4, z5, z6, fun x hx => ?_, ?_⟩
        · rcases List.mem_cons.mp hx with rfl | hx
          · exact hb
          · exact q x hx
        · rw [e, List.set_set, List.append_assoc]
          rfl
      · refine .inr ⟨j + 1, ρ', M', by rw [List.findIdx?_cons, hb, q]; rfl, ?_⟩
        rw [e]
        have : i + 1 + (j : Int) + 1 = i + ((j + 1 : Nat) : Int) + 1 := by omega
        rw [this]
open TL
def linesT (t : List Nat) : List (List Nat) := if t = [] then [] else spl [10] 0 [] t
/-- a text whose lines can be read or not -/
structure TextOk (t : List Nat) : Prop where
  len : t.length ≤ 4900
  ln : ∀ l ∈ spl [10] 0 [] t, LineOk6 l
theorem TextOk.lines {t : List Nat} (h : TextOk t) : (∀ l ∈ linesT t, LineOk6 l) ∧ (linesT t).length ≤ 4901 := by
  unfold linesT
  split
  · exact ⟨(fun _ h => nomatch h), Nat.zero_le _⟩
  · have := spl_count (c := 10) (l := t) (acc := [])
    have := h.len
    exact ⟨h.ln, by omega⟩
theorem lines_e {M : List MO} {n : Int} {t : List Nat} (h1 : n ≤ 30) (h : TextOk t) :
    ((∀ l ∈ linesT t, isNone (rdF n l) = false) ∧ F_lines_read [.fn "pair_read", .d (.int n), .d (.str (S t))] M = .ok (.loc M.length) (M ++ [.lst ((linesT t).map (rdF n))])) ∨
    ∃ (j : Nat) (M' : List MO), (linesT t).findIdx? (fun l => isNone (rdF n l)) = some j ∧ F_lines_read [.fn "pair_read", .d (.int n), .d (.str (S t))] M = .err ⟨"NoText", some ((j : Int) + 1)⟩ M' := by
  have lt := h.len
  obtain ⟨hl, ll⟩ := h.lines
  have sp := pSplit_S (a := t) (b := [10]) (by simp) (by decide) (by omega)
  have hM : (M ++ [MO.lst []])[M.length]? = some (.lst []) := by simp
  have hset : ∀ o : MO, (M ++ [MO.lst []]).set M.length o = M ++ [o] := fun o => by simp
  have rl := read_loop (n := n) (m := M.length) (t := t) h1 (ls := linesT t) (acc := []) (i := 0) (M := M ++ [.lst []]) (y4 := none) (y5 := none) (y6 := none) hM hl (by simp; omega) (by omega) (by omega)
  have ed : enu (sts (linesT t)) = prs (rng 0 (linesT t).length) (sts (linesT t)) := by unfold enu; rw [show (sts (linesT t)).length = (linesT t).length from List.length_map _]
  have zl := szT (show (sts (linesT t)).length ≤ 16777216 by unfold sts; rw [List.length_map]; omega)
  have key : ∀ (k : SF), (sFor (itEL [(sIte (sVal (sPr (dpr pNe) [(sV 2), (sC (.str (S [])))])) (sMeth .str (dpr pSplit) (sV 2) [(sC (.str (S [10])))]) (sLst lNil))]) (gT ((gN 4) :: ((gN 5) :: []))) f1_lines_read) [some (.fn "pair_read"), some (.d (.int n)), some (.d (.str (S t))), some (.loc M.length), none, none, none] (M ++ [.lst []]) = forL (gT ((gN 4) :: ((gN 5) :: []))) f1_lines_read (prs (rng 0 (linesT t).length) (sts (linesT t))) [some (.fn "pair_read"), some (.d (.int n)), some (.d (.str (S t))), some (.loc M.length), none, none, none] (M ++ [.lst []]) := fun _ => by
    rw [← ed]
    unfold linesT at zl ⊢
    by_cases ht : t = []
    · subst ht
      simp [szT, sts]
    · rw [if_neg ht] at zl ⊢
      generalize sts (spl [10] 0 [] t) = SL at *
      simp [ht, sp, zl]
  rcases rl with ⟨z4, z5, z6, q, e⟩ | ⟨j, ρ', M', q, e⟩
  · refine .inl ⟨q, ?_⟩
    rw [hset, List.nil_append] at e
    have k := key sNx
    rw [e] at k
    generalize (linesT t).map (rdF n) = R at *
    clear e key sp hset hM
    unfold F_lines_read b_lines_read b_lines_read_1 b_lines_read_2
    generalize sFor (itEL [(sIte (sVal (sPr (dpr pNe) [(sV 2), (sC (.str (S [])))])) (sMeth .str (dpr pSplit) (sV 2) [(sC (.str (S [10])))]) (sLst lNil))]) (gT ((gN 4) :: ((gN 5) :: []))) f1_lines_read = FF at *
    simp [szT, k]
  · refine .inr ⟨j, M', q, ?_⟩
    have k := key sNx
    rw [e] at k
    clear e key sp hset hM
    unfold F_lines_read b_lines_read b_lines_read_1 b_lines_read_2
    generalize sFor (itEL [(sIte (sVal (sPr (dpr pNe) [(sV 2), (sC (.str (S [])))])) (sMeth .str (dpr pSplit) (sV 2) [(sC (.str (S [10])))]) (sLst lNil))]) (gT ((gN 4) :: ((gN 5) :: []))) f1_lines_read = FF at *
    simp [szT, k, go_er']
theorem read_pairs_e {M : List MO} {n : Int} {t : List Nat} (h0 : 1 ≤ n) (h1 : n ≤ 30) (h : TextOk t) :
    ((∀ l ∈ linesT t, isNone (rdF n l) = false) ∧ F_read_pairs [.d (.int n), .d (.str (S t))] M = .ok (.loc M.length) (M ++ [.lst ((linesT t).map (rdF n))])) ∨
    ∃ (j : Nat) (M' : List MO), (linesT t).findIdx? (fun l => isNone (rdF n l)) = some j ∧ F_read_pairs [.d (.int n), .d (.str (S t))] M = .err ⟨"NoText", some ((j : Int) + 1)⟩ M' := by
  have lz := look_size_e (M := M) h0 h1
  rcases lines_e (M := M) (n := n) h1 h with ⟨q, e⟩ | ⟨j, M', q, e⟩
  · exact .inl ⟨q, by simp [F_read_pairs, b_read_pairs, lz, e]⟩
  · exact .inr ⟨j, M', q, by simp [F_read_pairs, b_read_pairs, lz, e]⟩
open TL
theorem law_loop {n : Int} {t : List Nat} (h1 : n ≤ 30) {Wl : List (List Nat)} (hW : Wl.length ≤ 5000) : ∀ {ls pre : List (List Nat)} {acc : List PyData} {y5 y6 : Option W}, Wl = pre ++ ls → (∀ l ∈ ls, LineOk6 l) → acc.length + ls.length ≤ 5000 →
    (∃ z5 z6, (∀ l ∈ ls, isNone (rdF n l) = false) ∧ forL (gN 5) f1_law_lines_of (rng (pre.length : Int) ls.length) [some (.d (.str (S [112, 97, 105, 114]))), some (.d (.int n)), some (.d (.str (S t))), some (.loc 0), some (.d (.list (sts Wl))), y5, y6] [.lst acc] = .nx [some (.d (.str (S [112, 97, 105, 114]))), some (.d (.int n)), some (.d (.str (S t))), some (.loc 0), some (.d (.list (sts Wl))), z5, z6] [.lst (acc ++ ls.map (rdF n))]) ∨
    ∃ (j : Nat) (M' : List MO), ls.findIdx? (fun l => isNone (rdF n l)) = some j ∧ forL (gN 5) f1_law_lines_of (rng (pre.length : Int) ls.length) [some (.d (.str (S [112, 97, 105, 114]))), some (.d (.int n)), some (.d (.str (S t))), some (.loc 0), some (.d (.list (sts Wl))), y5, y6] [.lst acc] = .ret (.d (.int ((pre.length : Int) + j + 1))) M'
  | [], pre, acc, y5, y6, _, _, _ => .inl ⟨y5, y6, (fun _ h => nomatch h), by
    show SR.nx _ _ = _
    rw [List.map_nil, List.append_nil]⟩
  | l :: ls, pre, acc, y5, y6, e, hl, ha => by
    rw [List.length_cons] at ha
    rw [List.length_cons, rng_cons]
    have hp := law_rd (M := [.lst acc]) h1 (hl l (by simp))
    have hn := rdF_isN (n := n) (a := l)
    have hat : atI (sts Wl) (pre.length : Int) = some (.str (S l)) := by
      rw [atI_e (by omega), Int.toNat_natCast, e]
      unfold sts
      rw [List.getElem?_map, List.getElem?_append_right (Nat.le_refl _), Nat.sub_self]
      rfl
    have zW := szT (show (sts Wl).length ≤ 16777216 by unfold sts; rw [List.length_map]; omega)
    have ty := tyW_l (M := [.lst acc]) (i := 0) (ds := acc) rfl
    have ap := pAppend_e (M := [.lst acc]) (i := 0) (ds := acc) (x := rdF n l) rfl (by rw [sizeLine_eq]; omega)
    generalize hG : sts Wl = SW at *
    cases hb : isNone (rdF n l) with
    | true =>
      refine .inr ⟨0, [.lst acc], by rw [List.findIdx?_cons, hb]; rfl, ?_⟩
      rw [hb] at hn
      generalize rdF n l = R at *
      generalize rng ((pre.length : Int) + 1) ls.length = P at *
      generalize (pre.length : Int) = i at *
      simp [forL_cons, f1_law_lines_of, f1_law_lines_of_1, f1_law_lines_of_2, hat, hp, hn, zW]
    | false =>
      rw [hb] at hn
      have step : f1_law_lines_of [some (.d (.str (S [112, 97, 105, 114]))), some (.d (.int n)), some (.d (.str (S t))), some (.loc 0), some (.d (.list SW)), some (.d (.int (pre.length : Int))), y6] [.lst acc] = .nx [some (.d (.str (S [112, 97, 105, 114]))), some (.d (.int n)), some (.d (.str (S t))), some (.loc 0), some (.d (.list SW)), some (.d (.int (pre.length : Int))), some (.d (rdF n l))] [.lst (acc ++ [rdF n l])] := by
        generalize rdF n l = R at *
        generalize (pre.length : Int) = i at *
        simp [f1_law_lines_of, f1_law_lines_of_1, f1_law_lines_of_2, hat, hp, hn, zW, ty, ap]
      have tgt : gN 5 (.d (.int (pre.length : Int))) [some (.d (.str (S [112, 97, 105, 114]))), some (.d (.int n)), some (.d (.str (S t))), some (.loc 0), some (.d (.list SW)), y5, y6] [.lst acc] = some ([some (.d (.str (S [112, 97, 105, 114]))), some (.d (.int n)), some (.d (.str (S t))), some (.loc 0), some (.d (.list SW)), some (.d (.int (pre.length : Int))), y6], [.lst acc]) := rfl
      rw [forL_cons, tgt]
      simp only [step, nxt_nx]
      have ih := law_loop (n := n) (t := t) h1 hW (ls := ls) (pre := pre ++ [l]) (acc := acc ++ [rdF n l]) (y5 := some (.d (.int (pre.length : Int)))) (y6 := some (.d (rdF n l))) (by rw [e]; simp) (fun x hx => hl x (List.mem_cons_of_mem _ hx)) (by rw [List.length_append]; simp; omega)
      rw [hG, show ((pre ++ [l]).length : Int) = (pre.length : Int) + 1 by simp] at ih
      rcases ih with ⟨z5, z6, q, e2⟩ | ⟨j, M', q, e2⟩
      · refine .inl ⟨z5, z6, fun x hx => ?_, ?_⟩
        · rcases List.mem_cons.mp hx with rfl | hx
          · exact hb
          · exact q x hx
        · rw [e2, List.append_assoc]
          rfl
      · refine .inr ⟨j + 1, M', by rw [List.findIdx?_cons, hb, q]; rfl, ?_⟩
        rw [e2]
        have : (pre.length : Int) + 1 + (j : Int) + 1 = (pre.length : Int) + ((j + 1 : Nat) : Int) + 1 := by omega
        rw [this]
/-- what both tell of the lines -/
noncomputable def linesD (n : Int) (t : List Nat) : PyData := match (linesT t).findIdx? (fun l => isNone (rdF n l)) with
  | some j => .int ((j : Int) + 1)
  | none => .list ((linesT t).map (rdF n))
theorem all_find {n : Int} {ls : List (List Nat)} (h : ∀ l ∈ ls, isNone (rdF n l) = false) : ls.findIdx? (fun l => isNone (rdF n l)) = none := List.findIdx?_eq_none_iff.mpr h
theorem law_lines_e {M : List MO} {n : Int} {t : List Nat} (h1 : n ≤ 30) (h : TextOk t) : callF F_law_lines_of 3 [.d (.str (S [112, 97, 105, 114])), .d (.int n), .d (.str (S t))] M = .ok (.d (linesD n t)) M := by
  have lt := h.len
  have cm1 : ∀ i : Int, cMul i 1 = true := fun i => cMul_s (by decide)
  have cm0 : ∀ i : Int, cMul i 0 = true := fun i => cMul_s (by decide)
  have sp := pSplit_S (a := t) (b := [10]) (by simp) (by decide) (by omega)
  have cs := spl_count (c := 10) (l := t) (acc := [])
  have zs := szT (show (sts (spl [10] 0 [] t)).length ≤ 16777216 by unfold sts; rw [List.length_map]; omega)
  have ls : (sts (spl [10] 0 [] t)).length = (spl [10] 0 [] t).length := List.length_map _
  by_cases ht : t = []
  · subst ht
    have e0 : spl [10] 0 [] [] = [[]] := rfl
    have el : linesD n [] = .list [] := by
      unfold linesD linesT
      rw [if_pos rfl]
      rfl
    rw [el]
    rw [e0] at sp
    have es : sts [[]] = [.str (S [])] := rfl
    rw [es] at sp
    refine callF_d (w := .loc 0) (J := [.lst []]) ?_ rfl
    have a := asR1_c (M := [MO.lst []]) (j := 0) (by decide)
    have r0 : rng 0 (0 : Int).toNat = [] := rfl
    rw [r0] at a
    simp [F_law_lines_of, b_law_lines_of, b_law_lines_of_1, b_law_lines_of_2, b_law_lines_of_3, sp, szT, a, cm0]
  · have eL : linesT t = spl [10] 0 [] t := if_neg ht
    have ll := law_loop (n := n) (t := t) h1 (Wl := spl [10] 0 [] t) (by omega) (ls := spl [10] 0 [] t) (pre := []) (acc := []) (y5 := none) (y6 := none) rfl h.ln (by simp; omega)
    have a := asR1_c (M := [MO.lst []]) (j := ((spl [10] 0 [] t).length : Int)) (by omega)
    rw [Int.toNat_natCast] at a
    have lr := szT (show (rng 0 (spl [10] 0 [] t).length).length ≤ 16777216 by rw [rng_len]; omega)
    have p0 : ((([] : List (List Nat)).length : Nat) : Int) = 0 := rfl
    rw [p0] at ll
    rcases ll with ⟨z5, z6, q, e⟩ | ⟨j, M', q, e⟩
    · have el : linesD n t = .list ((spl [10] 0 [] t).map (rdF n)) := by
        unfold linesD
        rw [eL, all_find q]
      rw [el]
      rw [List.nil_append] at e
      refine callF_d (w := .loc 0) (J := [.lst ((spl [10] 0 [] t).map (rdF n))]) ?_ rfl
      generalize (spl [10] 0 [] t).map (rdF n) = R at *
      generalize rng 0 (spl [10] 0 [] t).length = P at *
      generalize hS : sts (spl [10] 0 [] t) = SL at *
      generalize (spl [10] 0 [] t).length = m at *
      simp [F_law_lines_of, b_law_lines_of, b_law_lines_of_1, b_law_lines_of_2, b_law_lines_of_3, sp, szT, a, ht, zs, ls, lr, e, cm1]
    · have el : linesD n t = .int ((j : Int) + 1) := by
        unfold linesD
        rw [eL, q]
      rw [el]
      rw [Int.zero_add] at e
      refine callF_dx (J := M') ?_
      generalize rng 0 (spl [10] 0 [] t).length = P at *
      generalize hS : sts (spl [10] 0 [] t) = SL at *
      generalize (spl [10] 0 [] t).length = m at *
      simp [F_law_lines_of, b_law_lines_of, b_law_lines_of_1, b_law_lines_of_2, b_law_lines_of_3, sp, szT, a, ht, zs, ls, lr, e, cm1]
open TL
theorem lerr_text {M : List MO} {i : Int} : callF F_law_error 1 [.exc ⟨"NoText", some i⟩] M = .ok (.d (.str (S [116, 101, 120, 116]))) M := callF_dx (J := []) (by rfl)
theorem xline_e {f : EF} {ρ : Rho} {M : List MO} {i : Int} (h : f ρ M = .ok (.exc ⟨"NoText", some i⟩) M) : sXLine f ρ M = .ok (.d (.int i)) M := by
  unfold sXLine
  rw [h]
  rfl
theorem read_pair1 {M : List MO} {n : Int} {t : List Nat} (h0 : 1 ≤ n) (h1 : n ≤ 30) (h : LineOk6 t) : callF F_read_pair 2 [.d (.int n), .d (.str (S t))] M = if isNone (rdF n t) = true then .err ⟨"NoText", some 1⟩ M else .ok (.d (rdF n t)) M := by
  have lz := look_size_e (M := []) h0 h1
  have o := one_rd (M := []) h1 h
  split
  · rename_i hb
    rw [if_pos hb] at o
    refine callF_dr (J := []) ?_
    simp [F_read_pair, b_read_pair, lz, o]
  · rename_i hb
    rw [if_neg hb] at o
    refine callF_dx (J := []) ?_
    generalize rdF n t = R at *
    simp [F_read_pair, b_read_pair, lz, o]
theorem answer_0 {M : List MO} {n : Int} {t : List Nat} (h0 : 1 ≤ n) (h1 : n ≤ 30) (h : TextOk t) : callF F_law_answer 3 [.d (.int 0), .d (.int n), .d (.str (S t))] M = .ok (.d (linesD n t)) M := by
  rcases read_pairs_e (M := []) h0 h1 h with ⟨q, e⟩ | ⟨j, M', q, e⟩
  · have el : linesD n t = .list ((linesT t).map (rdF n)) := by
      unfold linesD
      rw [all_find q]
    rw [el]
    refine callF_d (w := .loc 0) (J := [.lst ((linesT t).map (rdF n))]) ?_ rfl
    generalize (linesT t).map (rdF n) = R at *
    simp [F_law_answer, b_law_answer, b_law_answer_1, b_law_answer_2, b_law_answer_3, f1_law_answer, e]
  · have el : linesD n t = .int ((j : Int) + 1) := by
      unfold linesD
      rw [q]
    rw [el]
    refine callF_dx (J := M') ?_
    have tr := tr_er (xs := xs_) (i := 5) (j := 3) (e := ⟨"NoText", some ((j : Int) + 1)⟩) (ρ := [some (.d (.int 0)), some (.d (.int n)), some (.d (.str (S t))), some (.d .none), some (.d .none), none]) (M := M') (show ("NoText" : Str) ∈ xs_ by decide) (by simp) (by decide)
    simp only [List.set_cons_succ, List.set_cons_zero] at tr
    have le := lerr_text (M := M') (i := (j : Int) + 1)
    have xl := fun y4 y5 => xline_e (f := sV 3) (ρ := [some (.d (.int 0)), some (.d (.int n)), some (.d (.str (S t))), some (.exc ⟨"NoText", some ((j : Int) + 1)⟩), y4, y5]) (M := M') (i := (j : Int) + 1) rfl
    simp [F_law_answer, b_law_answer, b_law_answer_1, b_law_answer_2, b_law_answer_3, b_law_answer_4, b_law_answer_5, f1_law_answer, e, tr, le, xl, law_whole_e, whole]
def oneD (R : PyData) : PyData := if isNone R = true then .int 1 else R
theorem answer_1 {M : List MO} {n : Int} {t : List Nat} (h0 : 1 ≤ n) (h1 : n ≤ 30) (h : LineOk6 t) : callF F_law_answer 3 [.d (.int 1), .d (.int n), .d (.str (S t))] M = .ok (.d (oneD (rdF n t))) M := by
  have e := read_pair1 (M := []) h0 h1 h
  unfold oneD
  refine callF_dx (J := []) ?_
  split
  · rename_i hb
    rw [if_pos hb] at e
    have tr := tr_er (xs := xs_) (i := 5) (j := 3) (e := ⟨"NoText", some 1⟩) (ρ := [some (.d (.int 1)), some (.d (.int n)), some (.d (.str (S t))), some (.d .none), some (.d .none), none]) (M := []) (by decide) (by simp) (by decide)
    simp only [List.set_cons_succ, List.set_cons_zero] at tr
    have le := lerr_text (M := []) (i := 1)
    have xl := fun y4 y5 => xline_e (f := sV 3) (ρ := [some (.d (.int 1)), some (.d (.int n)), some (.d (.str (S t))), some (.exc ⟨"NoText", some 1⟩), y4, y5]) (M := []) (i := 1) rfl
    simp [F_law_answer, b_law_answer, b_law_answer_1, b_law_answer_2, b_law_answer_3, b_law_answer_4, b_law_answer_5, f1_law_answer, e, tr, le, xl, law_whole_e, whole]
  · rename_i hb
    rw [if_neg hb] at e
    generalize rdF n t = R at *
    simp [F_law_answer, b_law_answer, b_law_answer_1, b_law_answer_2, b_law_answer_3, f1_law_answer, e]
theorem okShow_bulk {d : PyData} (h : nice d = true) (h2 : d.depth ≤ 60) (h3 : d.bulk ≤ 390000) : okShow d = true := by
  obtain ⟨a, b, c⟩ := nice_show d h
  have e := PyData.shown_le_bulk 40 (by decide) d c
  unfold okShow
  rw [a, b, decide_eq_true h2]
  show (true && true && decide (d.shown.length ≤ sizeLine)) = true
  rw [decide_eq_true (by rw [sizeLine_eq]; omega)]
  rfl
theorem bulkA_le {B : Nat} : ∀ {ds : List PyData}, (∀ d ∈ ds, d.bulk ≤ B) → PyData.bulkAll ds ≤ ds.length * (B + 1)
  | [], _ => Nat.zero_le _
  | d :: ds, h => by
    have h1 := h d List.mem_cons_self
    have h2 := bulkA_le (B := B) (ds := ds) fun x hx => h x (List.mem_cons_of_mem _ hx)
    simp only [PyData.bulkAll, List.length_cons, Nat.add_mul, Nat.one_mul]
    omega
theorem oi_bulk {ks : List Nat} : PyData.bulkAll (oi ks) = ks.length := by
  induction ks with
  | nil => rfl
  | cons k ks ih =>
    show 0 + 1 + PyData.bulkAll (oi ks) = _
    rw [ih, List.length_cons]
    omega
theorem rd_small {n : Int} {a : List Nat} (h1 : n ≤ 30) : Sm 2 70000 (rdF n a) ∧ (rdF n a).bulk ≤ 62 := by
  rcases rdF_ok (n := n) (a := a) with ⟨p, hp, e, _⟩ | ⟨e, _⟩
  · rw [e]
    obtain ⟨l, r⟩ := p
    have ho := hp.opt h1
    have f : ∀ l : List Nat, Opts l → Sm 1 4000 (.tuple (oi l)) := fun l h => (Sm.tuple (n := 30) (oi_nice fun k hk => by have := h.lt k hk; omega) (by rw [oi_len]; exact h.len)).mono (by decide) (by decide)
    refine ⟨(Sm.tuple (n := 2) (D := 1) (B := 4000) (fun d hd => ?_) (Nat.le_refl _)).mono (by decide) (by decide), ?_⟩
    · simp only [List.mem_cons, List.not_mem_nil, or_false] at hd
      rcases hd with rfl | rfl
      · exact f l ho.l
      · cases r with
        | none => exact Sm.none.mono (by decide) (by decide)
        | some r => exact f r (ho.r r rfl)
    · have l1 : l.length ≤ 30 := ho.l.len
      cases r with
      | none =>
        simp only [pd, dOpt, PyData.bulk, PyData.bulkAll, oi_bulk]
        omega
      | some r =>
        have l2 : r.length ≤ 30 := (ho.r r rfl).len
        simp only [pd, dOpt, PyData.bulk, PyData.bulkAll, oi_bulk]
        omega
  · rw [e]
    exact ⟨Sm.none.mono (by decide) (by decide), Nat.zero_le _⟩
theorem both_show {n : Int} {t : List Nat} (h1 : n ≤ 30) (h : TextOk t) : okShow (.list [linesD n t, oneD (rdF n t)]) = true := by
  have hl := h.lines.2
  obtain ⟨s1, s2⟩ := rd_small (n := n) (a := t) h1
  have o : nice (oneD (rdF n t)) = true ∧ (oneD (rdF n t)).depth ≤ 2 ∧ (oneD (rdF n t)).bulk ≤ 62 := by
    unfold oneD
    split
    · exact ⟨by decide, by decide, by decide⟩
    · exact ⟨s1.nice, s1.dep, s2⟩
  have l : nice (linesD n t) = true ∧ (linesD n t).depth ≤ 3 ∧ (linesD n t).bulk ≤ 308763 := by
    unfold linesD
    split
    · rename_i j hj
      have hj : j < (linesT t).length := (List.findIdx?_eq_some_iff_getElem.mp hj).1
      have := (Sm.int (i := (j : Int) + 1) (by omega)).nice
      exact ⟨this, Nat.zero_le _, Nat.zero_le _⟩
    · have q := Sm.list (n := ((linesT t).map (rdF n)).length) (D := 2) (B := 70000) (fun d hd => by
        obtain ⟨a, ha, rfl⟩ := List.mem_map.mp hd
        exact (rd_small h1).1) (Nat.le_refl _)
      refine ⟨q.nice, q.dep, ?_⟩
      have := bulkA_le (B := 62) (ds := (linesT t).map (rdF n)) fun d hd => by
        obtain ⟨a, ha, rfl⟩ := List.mem_map.mp hd
        exact (rd_small h1).2
      rw [List.length_map] at this
      have : PyData.bulk (.list ((linesT t).map (rdF n))) = PyData.bulkAll ((linesT t).map (rdF n)) := rfl
      omega
  refine okShow_bulk ?_ ?_ ?_
  · show (nice (linesD n t) && (nice (oneD (rdF n t)) && true)) = true
    rw [l.1, o.1]
    rfl
  · have := l.2.1
    have := o.2.1
    simp only [PyData.depth, PyData.depthAll]
    omega
  · have := l.2.2
    have := o.2.2
    simp only [PyData.bulk, PyData.bulkAll]
    omega
theorem both_e {M : List MO} {n : Int} {t : List Nat} (h0 : 1 ≤ n) (h1 : n ≤ 30) (h : TextOk t) (hw : LineOk6 t) : callF F_law_both 2 [.d (.int n), .d (.str (S t))] M = .ok (.d (.bool true)) M := by
  have e1 := law_rd (M := []) h1 hw
  have e2 := answer_0 (M := []) h0 h1 h
  have e3 := answer_1 (M := []) h0 h1 hw
  have e4 := law_lines_e (M := []) h1 h
  have hn := rdF_isN (n := n) (a := t)
  have ok := both_show (n := n) h1 h
  have er : pRepr [.list [linesD n t, oneD (rdF n t)]] = some (.str (PyData.list [linesD n t, oneD (rdF n t)]).shown) := if_pos ok
  refine callF_dx (J := []) ?_
  generalize (PyData.list [linesD n t, oneD (rdF n t)]).shown = z at er
  generalize linesD n t = LD at *
  unfold oneD at *
  generalize rdF n t = R at *
  cases hb : isNone R with
  | true =>
    rw [hb] at hn
    rw [hb, if_pos rfl] at er e3
    simp [F_law_both, b_law_both, e1, e2, e3, e4, hn, er, szT]
  | false =>
    rw [hb] at hn
    rw [hb, if_neg (by decide)] at er e3
    simp [F_law_both, b_law_both, e1, e2, e3, e4, hn, er, szT]
open TL
/-! texts bent: what stays within bounds -/
theorem runs_nil {m : Nat} : Runs m [] := fun u v w e hv => by
  have := congrArg List.length e
  simp at this
  omega
theorem app_split {α : Type} : ∀ {a b u v : List α}, a ++ b = u ++ v → (∃ x, u = a ++ x ∧ b = x ++ v) ∨ ∃ x, a = u ++ x ∧ v = x ++ b
  | a, b, u, v, h => by
    rcases List.append_eq_append_iff.mp h with ⟨x, h1, h2⟩ | ⟨x, h1, h2⟩
    · exact .inl ⟨x, h1, h2⟩
    · exact .inr ⟨x, h1, h2⟩
theorem Runs.app {m k : Nat} {a b : List Nat} (ha : Runs m a) (hb : Runs k b) : Runs (m + k) (a ++ b) := fun u v w e hv => by
  rcases app_split e with ⟨x, h1, h2⟩ | ⟨x, h1, h2⟩
  · have := hb x v w h2 hv
    omega
  · rcases app_split h2.symm with ⟨y, h3, h4⟩ | ⟨y, h3, h4⟩
    · subst h3
      rw [List.all_append, Bool.and_eq_true] at hv
      have r1 := ha u x [] (by rw [h1]; simp) hv.1
      have r2 := hb [] y w (by rw [h4]; simp) hv.2
      rw [List.length_append]
      omega
    · have := ha u v y (by rw [h1, h3]) hv
      omega
/-- a sign that is no figure parts runs -/
theorem Runs.sep {m c : Nat} {a b : List Nat} (hc : digC c = false) (ha : Runs m a) (hb : Runs m b) : Runs m (a ++ c :: b) := fun u v w e hv => by
  rcases app_split e with ⟨x, h1, h2⟩ | ⟨x, h1, h2⟩
  · match x, h2 with
    | [], h2 =>
      match v, h2, hv with
      | [], _, _ => exact Nat.zero_le _
      | d :: v, h2, hv =>
        injection h2 with h3 h4
        subst h3
        rw [List.all_cons, hc] at hv
        cases hv
    | d :: x, h2 =>
      injection h2 with h3 h4
      exact hb x v w h4 hv
  · rcases app_split h2.symm with ⟨y, h3, h4⟩ | ⟨y, h3, h4⟩
    · subst h3
      match y, h4 with
      | [], h4 =>
        rw [List.append_nil] at hv ⊢
        exact ha u x [] (by rw [h1]; simp) hv
      | d :: y, h4 =>
        injection h4 with h5 h6
        subst h5
        rw [List.all_append, List.all_cons, hc] at hv
        simp at hv
    · exact ha u v y (by rw [h1, h3]) hv
theorem Runs.join {m c : Nat} (hc : digC c = false) : ∀ {ls : List (List Nat)}, (∀ l ∈ ls, Runs m l) → Runs m (joinL [c] ls)
  | [], _ => runs_nil
  | [l], h => h l (by simp)
  | l :: k :: r, h => by
    show Runs m (l ++ ([c] ++ joinL [c] (k :: r)))
    exact Runs.sep hc (h l (by simp)) (Runs.join hc fun x hx => h x (List.mem_cons_of_mem _ hx))
theorem Runs.mono {m k : Nat} {a : List Nat} (h : Runs m a) (hk : m ≤ k) : Runs k a := fun u v w e hv => Nat.le_trans (h u v w e hv) hk
theorem runs_len {a : List Nat} : Runs a.length a := fun u v w e _ => by
  have := congrArg List.length e
  simp at this
  omega
/-- what a list of texts weighs -/
def wtL (ls : List (List Nat)) : Nat := (ls.map fun l => l.length + 1).sum
theorem wtL_app {a b : List (List Nat)} : wtL (a ++ b) = wtL a + wtL b := by unfold wtL; rw [List.map_append, List.sum_append]
theorem wtL_cons {l : List Nat} {b : List (List Nat)} : wtL (l :: b) = l.length + 1 + wtL b := by unfold wtL; rw [List.map_cons, List.sum_cons]
theorem join_wt {c : Nat} : ∀ {ls : List (List Nat)}, (joinL [c] ls).length ≤ wtL ls
  | [] => Nat.zero_le _
  | [l] => by
    show l.length ≤ _
    rw [wtL_cons]
    omega
  | l :: k :: r => by
    have := join_wt (c := c) (ls := k :: r)
    show (l ++ ([c] ++ joinL [c] (k :: r))).length ≤ _
    rw [List.length_append, List.length_append, wtL_cons, List.length_singleton]
    omega
theorem spl_wt {c : Nat} : ∀ {l acc : List Nat}, wtL (spl [c] 0 acc l) = acc.length + l.length + 1
  | [], acc => by rw [spl_nil]; rfl
  | y :: r, acc => by
    rw [spl_cons, List.length_cons]
    split
    · rw [wtL_cons, spl_wt]
      simp
      omega
    · rw [spl_wt, List.length_append]
      simp
      omega
theorem wt_take {ls : List (List Nat)} {k : Nat} : wtL (ls.take k) ≤ wtL ls ∧ wtL (ls.drop k) ≤ wtL ls := by
  have := congrArg wtL (List.take_append_drop k ls)
  rw [wtL_app] at this
  omega
theorem wt_mem : ∀ {ls : List (List Nat)} {l : List Nat}, l ∈ ls → l.length + 1 ≤ wtL ls
  | k :: ls, l, h => by
    rw [wtL_cons]
    rcases List.mem_cons.mp h with rfl | h
    · omega
    · have := wt_mem h
      omega
open TL
/-- the blanks in a list of texts -/
def cntL (ls : List (List Nat)) : Nat := (ls.map fun l => l.count 32).sum
theorem cntL_app {a b : List (List Nat)} : cntL (a ++ b) = cntL a + cntL b := by unfold cntL; rw [List.map_append, List.sum_append]
theorem cntL_cons {l : List Nat} {b : List (List Nat)} : cntL (l :: b) = l.count 32 + cntL b := by unfold cntL; rw [List.map_cons, List.sum_cons]
theorem join_cnt {c : Nat} (hc : c ≠ 32) : ∀ {ls : List (List Nat)}, (joinL [c] ls).count 32 = cntL ls
  | [] => rfl
  | [l] => by
    show l.count 32 = _
    rw [cntL_cons]
    rfl
  | l :: k :: r => by
    have := join_cnt hc (ls := k :: r)
    show (l ++ (c :: joinL [c] (k :: r))).count 32 = _
    rw [List.count_append, List.count_cons_of_ne hc, this, cntL_cons (l := l)]
theorem join_cnt32 : ∀ {ls : List (List Nat)}, (joinL [32] ls).count 32 ≤ cntL ls + ls.length
  | [] => Nat.zero_le _
  | [l] => by
    show l.count 32 ≤ _
    rw [cntL_cons]
    omega
  | l :: k :: r => by
    have := join_cnt32 (ls := k :: r)
    show (l ++ (32 :: joinL [32] (k :: r))).count 32 ≤ _
    rw [List.count_append, List.count_cons_self, cntL_cons (l := l)]
    simp only [List.length_cons] at this ⊢
    omega
theorem cnt_take {ls : List (List Nat)} {k : Nat} : cntL (ls.take k) ≤ cntL ls ∧ cntL (ls.drop k) ≤ cntL ls ∧ cntL (ls.take k) + cntL (ls.drop k) = cntL ls := by
  have := congrArg cntL (List.take_append_drop k ls)
  rw [cntL_app] at this
  omega
theorem cnt_mem : ∀ {ls : List (List Nat)} {l : List Nat}, l ∈ ls → l.count 32 ≤ cntL ls
  | k :: ls, l, h => by
    rw [cntL_cons]
    rcases List.mem_cons.mp h with rfl | h
    · omega
    · have := cnt_mem h
      omega
theorem spl_cnt10 {t : List Nat} : cntL (spl [10] 0 [] t) = t.count 32 := by
  rw [← join_cnt (c := 10) (by decide), join_spl]
  rfl
theorem free_cnt : ∀ {ls : List (List Nat)}, (∀ l ∈ ls, 32 ∉ l) → cntL ls = 0
  | [], _ => rfl
  | l :: ls, h => by
    rw [cntL_cons, List.count_eq_zero.mpr (h l (by simp)), free_cnt fun x hx => h x (List.mem_cons_of_mem _ hx)]
theorem OkS.join {c N : Nat} (hc : c < 1114112) {ls : List (List Nat)} (h : ∀ l ∈ ls, ∀ x ∈ l, x < 1114112) (hw : wtL ls ≤ N) : OkS N (joinL [c] ls) := ⟨fun x hx => by
  rcases joinL_mem hx with z | ⟨l, hl, z⟩
  · rw [List.mem_singleton.mp z]; exact hc
  · exact h l hl x z, Nat.le_trans join_wt hw⟩
/-- a text within bounds: its length, its runs, its blanks -/
structure TB (L m s : Nat) (t : List Nat) : Prop where
  ok : OkS L t
  rn : Runs m t
  bl : t.count 32 ≤ s
theorem TB.mono {L m s L' m' s' : Nat} {t : List Nat} (h : TB L m s t) (h1 : L ≤ L') (h2 : m ≤ m') (h3 : s ≤ s') : TB L' m' s' t := ⟨⟨h.ok.lt, Nat.le_trans h.ok.len h1⟩, h.rn.mono h2, Nat.le_trans h.bl h3⟩
theorem TB.block {L m s : Nat} {t u p w : List Nat} (h : TB L m s t) (e : t = u ++ (p ++ w)) : TB L m s p := by
  refine ⟨⟨fun x hx => h.ok.lt x (by rw [e]; simp [hx]), ?_⟩, h.rn.block e, ?_⟩
  · have := congrArg List.length e
    have := h.ok.len
    simp at *
    omega
  · have := congrArg (List.count 32) e
    have := h.bl
    rw [List.count_append, List.count_append] at *
    omega
theorem TB.app {L m s L' m' s' : Nat} {a b : List Nat} (h : TB L m s a) (k : TB L' m' s' b) : TB (L + L') (m + m') (s + s') (a ++ b) := ⟨h.ok.app k.ok, h.rn.app k.rn, by
  rw [List.count_append]
  have := h.bl
  have := k.bl
  omega⟩
theorem TB.line {L m s : Nat} {t : List Nat} (h : TB L m s t) (h1 : L ≤ 4900) (h2 : m ≤ 29) (h3 : s ≤ 640) : LineOk6 t ∧ TextOk t := by
  have ln : ∀ {p : List Nat}, TB L m s p → LineOk6 p := fun k => ⟨⟨k.ok.lt, Nat.le_trans k.ok.len (by omega)⟩, k.rn.mono h2, Nat.le_trans k.bl h3⟩
  refine ⟨ln h, Nat.le_trans h.ok.len h1, fun l hl => ?_⟩
  obtain ⟨u, w, e⟩ := spl_block hl
  exact ln (h.block e)
open TL
/-! the closing texts -/
theorem TB.of {a : List Nat} (h : ∀ c ∈ a, c < 1114112) (hl : a.length ≤ 29) : TB 29 29 29 a := ⟨⟨h, hl⟩, runs_len.mono hl, Nat.le_trans List.count_le_length hl⟩
theorem wtL_rep {a : List Nat} : ∀ {k : Nat}, wtL (List.replicate k a) = k * (a.length + 1)
  | 0 => by simp [wtL]
  | k + 1 => by rw [List.replicate_succ, wtL_cons, wtL_rep, Nat.succ_mul]; omega
theorem cntL_rep {a : List Nat} (h : 32 ∉ a) {k : Nat} : cntL (List.replicate k a) = 0 := free_cnt fun l hl => by rw [List.eq_of_mem_replicate hl]; exact h
theorem long_ok {k : Nat} {q : List (List Nat)} (hk : k ≤ 1333) (hq : q = [] ∨ q = [[45]]) : TB 4100 2 0 (joinL [10] (List.replicate k arrow ++ q)) := by
  have hm : ∀ l ∈ List.replicate k arrow ++ q, l = arrow ∨ l = [45] := fun l hl => by
    rcases List.mem_append.mp hl with z | z
    · exact .inl (List.eq_of_mem_replicate z)
    · rcases hq with rfl | rfl
      · cases z
      · exact .inr (List.mem_singleton.mp z)
  refine ⟨OkS.join (by decide) (fun l hl => ?_) ?_, Runs.join (by decide) fun l hl => ?_, ?_⟩
  · rcases hm l hl with rfl | rfl <;> decide
  · rw [wtL_app, wtL_rep]
    rcases hq with rfl | rfl
    · show k * 3 + 0 ≤ _
      omega
    · show k * 3 + 2 ≤ _
      omega
  · rcases hm l hl with rfl | rfl
    · exact runs_len
    · exact runs_len.mono (by decide)
  · rw [join_cnt (by decide), cntL_app, cntL_rep (by decide)]
    rcases hq with rfl | rfl <;> decide
open TL
/-! bent texts -/
theorem cutN_to {α : Type} {l : List α} {i : Int} (h : 0 ≤ i) : cutL l none (some i) = l.take i.toNat := by
  obtain ⟨k, rfl⟩ := Int.eq_ofNat_of_zero_le h
  rw [cut_to]
  rfl
theorem cutN_from {α : Type} {l : List α} {i : Int} (h : 0 ≤ i) : cutL l (some i) none = l.drop i.toNat := by
  obtain ⟨k, rfl⟩ := Int.eq_ofNat_of_zero_le h
  rw [cut_from]
  rfl
theorem cut_block {α : Type} (l : List α) (lo hi : Option Int) : ∃ u w, l = u ++ (cutL l lo hi ++ w) := by
  unfold cutL
  exact ⟨l.take _, _, by rw [List.take_append_drop, List.take_append_drop]⟩
theorem TB.cut {L m s : Nat} {t : List Nat} {lo hi : Option Int} (h : TB L m s t) : TB L m s (cutL t lo hi) := by
  obtain ⟨u, w, e⟩ := cut_block t lo hi
  exact h.block e
theorem TB.one {c : Nat} (h : c < 1114112) : TB 1 1 1 [c] := ⟨⟨fun x hx => by rw [List.mem_singleton.mp hx]; exact h, Nat.le_refl _⟩, runs_len, List.count_le_length⟩
/-- rows within bounds -/
structure RB (L m s : Nat) (ls : List (List Nat)) : Prop where
  lt : ∀ l ∈ ls, ∀ c ∈ l, c < 1114112
  rn : ∀ l ∈ ls, Runs m l
  wt : wtL ls ≤ L
  bl : cntL ls ≤ s
theorem TB.rows {L m s : Nat} {t : List Nat} (h : TB L m s t) : RB (L + 1) m s (spl [10] 0 [] t) := by
  refine ⟨fun l hl c hc => ?_, fun l hl => ?_, ?_, by rw [spl_cnt10]; exact h.bl⟩
  · obtain ⟨h1, h2⟩ := spl_mem l hl
    rcases h1 c hc with z | z
    · cases z
    · exact h.ok.lt c z
  · obtain ⟨u, w, e⟩ := spl_block hl
    exact h.rn.block e
  · rw [spl_wt]
    have := h.ok.len
    simp
    omega
theorem RB.text {L m s : Nat} {ls : List (List Nat)} (h : RB L m s ls) : TB L m s (joinL [10] ls) :=
  ⟨OkS.join (by decide) h.lt h.wt, Runs.join (by decide) h.rn, by rw [join_cnt (by decide)]; exact h.bl⟩
theorem RB.three {L m s a : Nat} {o : List Nat} {ls : List (List Nat)} (h : RB L m s ls) (ho : o ∈ ls) : RB (2 * L) m (2 * s) (ls.take a ++ o :: ls.drop a) := by
  have hm : ∀ l ∈ ls.take a ++ o :: ls.drop a, l ∈ ls := fun l hl => by
    rcases List.mem_append.mp hl with z | z
    · exact List.mem_of_mem_take z
    · rcases List.mem_cons.mp z with rfl | z
      · exact ho
      · exact List.mem_of_mem_drop z
  refine ⟨fun l hl => h.lt l (hm l hl), fun l hl => h.rn l (hm l hl), ?_, ?_⟩
  · have e := congrArg wtL (List.take_append_drop a ls)
    have := wt_mem ho
    have := h.wt
    rw [wtL_app] at e
    rw [wtL_app, wtL_cons]
    omega
  · have e := congrArg cntL (List.take_append_drop a ls)
    have := cnt_mem ho
    have := h.bl
    rw [cntL_app] at e
    rw [cntL_app, cntL_cons]
    omega
theorem wt_drop1 {ls : List (List Nat)} {a : Nat} : wtL (ls.drop (a + 1)) ≤ wtL (ls.drop a) := by
  rw [← List.drop_drop]
  have := (wt_take (ls := ls.drop a) (k := 1)).2
  exact this
theorem cnt_drop1 {ls : List (List Nat)} {a : Nat} : cntL (ls.drop (a + 1)) ≤ cntL (ls.drop a) := by
  rw [← List.drop_drop]
  have := (cnt_take (ls := ls.drop a) (k := 1)).2.1
  exact this
theorem RB.less {L m s a : Nat} {ls : List (List Nat)} (h : RB L m s ls) : RB L m s (ls.take a ++ ls.drop (a + 1)) := by
  have hm : ∀ l ∈ ls.take a ++ ls.drop (a + 1), l ∈ ls := fun l hl => by
    rcases List.mem_append.mp hl with z | z
    · exact List.mem_of_mem_take z
    · exact List.mem_of_mem_drop z
  refine ⟨fun l hl => h.lt l (hm l hl), fun l hl => h.rn l (hm l hl), ?_, ?_⟩
  · have e := congrArg wtL (List.take_append_drop a ls)
    have := wt_drop1 (ls := ls) (a := a)
    have := h.wt
    rw [wtL_app] at e ⊢
    omega
  · have e := congrArg cntL (List.take_append_drop a ls)
    have := cnt_drop1 (ls := ls) (a := a)
    have := h.bl
    rw [cntL_app] at e ⊢
    omega
theorem wt_set {x : List Nat} : ∀ {ls : List (List Nat)} {i : Nat}, wtL (ls.set i x) ≤ wtL ls + (x.length + 1)
  | [], _ => Nat.le_add_right _ _
  | l :: ls, 0 => by rw [List.set_cons_zero, wtL_cons, wtL_cons]; omega
  | l :: ls, i + 1 => by
    have := wt_set (x := x) (ls := ls) (i := i)
    rw [List.set_cons_succ, wtL_cons, wtL_cons]
    omega
theorem cnt_set {x : List Nat} : ∀ {ls : List (List Nat)} {i : Nat}, cntL (ls.set i x) ≤ cntL ls + x.count 32
  | [], _ => Nat.le_add_right _ _
  | l :: ls, 0 => by rw [List.set_cons_zero, cntL_cons, cntL_cons]; omega
  | l :: ls, i + 1 => by
    have := cnt_set (x := x) (ls := ls) (i := i)
    rw [List.set_cons_succ, cntL_cons, cntL_cons]
    omega
theorem RB.put {L m s L' s' i : Nat} {x : List Nat} {ls : List (List Nat)} (h : RB L m s ls) (hx : TB L' m s' x) : RB (L + (L' + 1)) m (s + s') (ls.set i x) := by
  have hm : ∀ l ∈ ls.set i x, l ∈ ls ∨ l = x := fun l hl => List.mem_or_eq_of_mem_set hl
  refine ⟨fun l hl => ?_, fun l hl => ?_, ?_, ?_⟩
  · rcases hm l hl with z | rfl
    · exact h.lt l z
    · exact hx.ok.lt
  · rcases hm l hl with z | rfl
    · exact h.rn l z
    · exact hx.rn
  · have := wt_set (x := x) (ls := ls) (i := i)
    have := h.wt
    have := hx.ok.len
    omega
  · have := cnt_set (x := x) (ls := ls) (i := i)
    have := h.bl
    have := hx.bl
    omega
/-- words without blanks -/
structure WB (N k m : Nat) (ws : List (List Nat)) : Prop where
  lt : ∀ l ∈ ws, ∀ c ∈ l, c < 1114112
  rn : ∀ l ∈ ws, Runs m l
  no : ∀ l ∈ ws, 32 ∉ l
  wt : wtL ws ≤ N
  len : ws.length ≤ k
theorem WB.mono {N k m N' k' : Nat} {ws : List (List Nat)} (h : WB N k m ws) (h1 : N ≤ N') (h2 : k ≤ k') : WB N' k' m ws := ⟨h.lt, h.rn, h.no, Nat.le_trans h.wt h1, Nat.le_trans h.len h2⟩
theorem WB.text {N k m : Nat} {ws : List (List Nat)} (h : WB N k m ws) : TB N m k (joinL [32] ws) := by
  refine ⟨OkS.join (by decide) h.lt h.wt, Runs.join (by decide) h.rn, ?_⟩
  have a := join_cnt32 (ls := ws)
  have b := free_cnt h.no
  have := h.len
  omega
theorem RB.words {L m s : Nat} {ls : List (List Nat)} {l : List Nat} (h : RB L m s ls) (hl : l ∈ ls) : WB L (s + 1) m (spl [32] 0 [] l) := by
  refine ⟨fun w hw c hc => ?_, fun w hw => ?_, fun w hw => spl_free1 List.not_mem_nil w hw, ?_, ?_⟩
  · obtain ⟨h1, h2⟩ := spl_mem w hw
    rcases h1 c hc with z | z
    · cases z
    · exact h.lt l hl c z
  · obtain ⟨u, v, e⟩ := spl_block hw
    exact (h.rn l hl).block e
  · rw [spl_wt]
    have := wt_mem hl
    have := h.wt
    simp
    omega
  · rw [spl_cnt]
    have := cnt_mem hl
    have := h.bl
    omega
theorem WB.set {N k m i : Nat} {x : List Nat} {ws : List (List Nat)} (h : WB N k m ws) (hx : OkS 5 x) (hb : 32 ∉ x) (hm : 5 ≤ m) : WB (N + 6) k m (ws.set i x) := by
  have hq : ∀ l ∈ ws.set i x, l ∈ ws ∨ l = x := fun l hl => List.mem_or_eq_of_mem_set hl
  have lx := hx.len
  refine ⟨fun l hl => ?_, fun l hl => ?_, fun l hl => ?_, ?_, by rw [List.length_set]; exact h.len⟩
  · rcases hq l hl with z | rfl
    · exact h.lt l z
    · exact hx.lt
  · rcases hq l hl with z | rfl
    · exact h.rn l z
    · exact runs_len.mono (by omega)
  · rcases hq l hl with z | rfl
    · exact h.no l z
    · exact hb
  · have := wt_set (x := x) (ls := ws) (i := i)
    have := h.wt
    omega
theorem WB.twice {N k m a : Nat} {ws : List (List Nat)} (h : WB N k m ws) : WB (2 * N) (k + 1) m (ws.take (a + 1) ++ ws.drop a) := by
  have hm : ∀ l ∈ ws.take (a + 1) ++ ws.drop a, l ∈ ws := fun l hl => by
    rcases List.mem_append.mp hl with z | z
    · exact List.mem_of_mem_take z
    · exact List.mem_of_mem_drop z
  refine ⟨fun l hl => h.lt l (hm l hl), fun l hl => h.rn l (hm l hl), fun l hl => h.no l (hm l hl), ?_, ?_⟩
  · have := (wt_take (ls := ws) (k := a + 1)).1
    have := (wt_take (ls := ws) (k := a)).2
    have := h.wt
    rw [wtL_app]
    omega
  · have := h.len
    rw [List.length_append, List.length_take, List.length_drop]
    omega
theorem WB.less {N k m a : Nat} {ws : List (List Nat)} (h : WB N k m ws) : WB N k m (ws.take a ++ ws.drop (a + 1)) := by
  have hm : ∀ l ∈ ws.take a ++ ws.drop (a + 1), l ∈ ws := fun l hl => by
    rcases List.mem_append.mp hl with z | z
    · exact List.mem_of_mem_take z
    · exact List.mem_of_mem_drop z
  refine ⟨fun l hl => h.lt l (hm l hl), fun l hl => h.rn l (hm l hl), fun l hl => h.no l (hm l hl), ?_, ?_⟩
  · have e := congrArg wtL (List.take_append_drop a ws)
    have := wt_drop1 (ls := ws) (a := a)
    have := h.wt
    rw [wtL_app] at e ⊢
    omega
  · have := h.len
    rw [List.length_append, List.length_take, List.length_drop]
    omega
theorem pJoin_w {c : Nat} {ls : List (List Nat)} (h : wtL ls ≤ 100000) : pJoin [.str (S [c]), .list (sts ls)] = some (.str (S (joinL [c] ls))) := pJoin_S (by
  have : ∀ ls : List (List Nat), (ls.map List.length).sum + ls.length = wtL ls := by
    intro ls
    induction ls with
    | nil => rfl
    | cons l ls ih => rw [wtL_cons, List.map_cons, List.sum_cons, List.length_cons, ← ih]; omega
  have := this ls
  simp only [List.length_singleton, Nat.mul_one]
  omega)
theorem wt_len {ls : List (List Nat)} : ls.length ≤ wtL ls := by
  induction ls with
  | nil => exact Nat.zero_le _
  | cons l ls ih => rw [wtL_cons, List.length_cons]; omega
theorem sts_set {ls : List (List Nat)} {i : Nat} {x : List Nat} : (sts ls).set i (.str (S x)) = sts (ls.set i x) := by unfold sts; rw [List.map_set]
theorem sts_len {ls : List (List Nat)} : (sts ls).length = ls.length := List.length_map _
theorem sts_cut {ls : List (List Nat)} {lo hi : Option Int} : cutL (sts ls) lo hi = sts (cutL ls lo hi) := map_cut
theorem sts_app {a b : List (List Nat)} : sts (a ++ b) = sts a ++ sts b := List.map_append
theorem ixN_in {n : Nat} {i : Int} (h0 : 0 ≤ i) (h1 : i < n) : ixN n i = some i.toNat := by
  unfold ixN
  rw [if_pos h0, if_pos h1]
/-- the row is put back -/
theorem bt13 {way one : Int} {y1 y2 y3 y5 y6 y9 y11 : Option W} {P : MO} {rows ws : List (List Nat)} {J : List MO} {j : Nat} (hj : (P :: .lst (sts rows) :: J)[j]? = some (.lst (sts ws))) (h0 : 0 ≤ one) (h1 : one < rows.length) (hw : wtL ws ≤ 100000) (hr : wtL (rows.set one.toNat (joinL [32] ws)) ≤ 100000) :
    b_law_bent_text_13 [some (.loc 0), y1, y2, y3, some (.d (.int way)), y5, y6, some (.loc 1), some (.d (.int one)), y9, some (.loc j), y11] (P :: .lst (sts rows) :: J) = .ret (.d (.str (S (joinL [10] (rows.set one.toNat (joinL [32] ws)) ++ if way = 8 then [10] else [])))) (P :: .lst (sts (rows.set one.toNat (joinL [32] ws))) :: J) := by
  have j1 := pJoin_w (c := 32) hw
  have j2 := pJoin_w (c := 10) hr
  have lj : (joinL [10] (rows.set one.toNat (joinL [32] ws))).length ≤ 100000 := Nat.le_trans join_wt hr
  have g := gS_e (fo := sV 7) (fi := sV 8) (x := .str (S (joinL [32] ws))) (ρ := [some (.loc 0), y1, y2, y3, some (.d (.int way)), y5, y6, some (.loc 1), some (.d (.int one)), y9, some (.loc j), y11]) (M := P :: .lst (sts rows) :: J) (n := 1) (j := one.toNat) (k := one) (M1 := P :: .lst (sts rows) :: J) (M2 := P :: .lst (sts rows) :: J) (ds := sts rows) rfl rfl rfl (ixN_in h0 (by rw [sts_len]; exact h1))
  rw [sts_set] at g
  simp only [List.set_cons_succ, List.set_cons_zero] at g
  generalize joinL [32] ws = r at *
  generalize rows.set one.toNat r = R at *
  generalize joinL [10] R = T at *
  have z1 := szT (show T.length + 1 ≤ 16777216 by omega)
  have z0 := szT (show T.length ≤ 16777216 by omega)
  by_cases c : way = 8
  · subst c
    simp [b_law_bent_text_13, b_law_bent_text_14, hj, j1, j2, g, z1, z0]
  · simp [b_law_bent_text_13, b_law_bent_text_14, hj, j1, j2, g, z1, z0, c]
theorem pSplitLive_S {a b : List Nat} {M : List MO} (hb : b ≠ []) (h : ∀ x ∈ b, x < 256) (ha : a.length ≤ 100000) : pSplitLive [.d (.str (S a)), .d (.str (S b))] M = some (.loc M.length, M ++ [.lst (sts (spl b 0 [] a))]) := by
  have h1 := pSplit_S hb h ha
  have h2 : (if ((S b).length == 0) = false ∧ (S a).length + 2 ≤ sizeLine then some (PyData.list (strD (Txt.split (S a) (S b)))) else none) = some (.list (sts (spl b 0 [] a))) := h1
  show (if ((S b).length == 0) = false ∧ (S a).length + 2 ≤ sizeLine then some (W.loc M.length, M ++ [MO.lst (strD (Txt.split (S a) (S b)))]) else none) = _
  split at h2
  · rename_i c
    rw [if_pos c]
    injection h2 with h2
    injection h2 with h2
    rw [h2]
  · cases h2
def wdOk (wd : List (List Nat)) : Prop := wd ≠ [] ∧ wd.length ≤ 1000 ∧ ∀ w ∈ wd, OkS 5 w ∧ 32 ∉ w
theorem at_sts {ls : List (List Nat)} {i : Int} (h0 : 0 ≤ i) (h1 : i < ls.length) : ∃ l, l ∈ ls ∧ atI (sts ls) i = some (.str (S l)) := by
  have : i.toNat < ls.length := by omega
  refine ⟨ls[i.toNat], List.getElem_mem this, ?_⟩
  rw [atI_e h0]
  unfold sts
  rw [List.getElem?_map, List.getElem?_eq_getElem this]
  rfl
/-- a row's words are bent -/
theorem bt8 {q way one at' other : Int} {t sg : List Nat} {cg : PyData} {rows wd : List (List Nat)} {L m s : Nat} (hr : RB L m s rows) (hL : L ≤ 10000) (hm : 5 ≤ m) (hd : wdOk wd) (h0 : 0 ≤ one) (h1 : one < rows.length) :
    ∃ ws q' J, WB (2 * L + 6) (s + 2) m ws ∧ b_law_bent_text_8 [some (.loc 0), some (.d (.str (S t))), some (.d (.str (S sg))), some (.d (.list (sts wd))), some (.d (.int way)), some (.d (.int at')), some (.d cg), some (.loc 1), some (.d (.int one)), some (.d (.int other)), none, none] [.lst [.int q], .lst (sts rows)] = .ret (.d (.str (S (joinL [10] (rows.set one.toNat (joinL [32] ws)) ++ if way = 8 then [10] else [])))) (.lst [.int q'] :: J) := by
  obtain ⟨row, hrow, eat⟩ := at_sts h0 h1
  have hw := hr.words hrow
  have lrow : row.length ≤ 10000 := by have := wt_mem hrow; have := hr.wt; omega
  have ps := pSplitLive_S (a := row) (b := [32]) (M := [.lst [.int q], .lst (sts rows)]) (by simp) (by decide) (by omega)
  have ne := spl_ne (c := 32) (l := row) (acc := [])
  generalize spl [32] 0 [] row = ws at *
  have lw0 : 0 < ws.length := List.length_pos_iff.mpr ne
  have lw : ws.length ≤ 10000 := by have := wt_len (ls := ws); have := hw.wt; omega
  have zs := szT (show (sts ws).length ≤ 16777216 by rw [sts_len]; omega)
  have zw := szT (show (sts wd).length ≤ 16777216 by rw [sts_len]; have := hd.2.1; omega)
  have ls := sts_len (ls := ws)
  have t1 := take_e (M := [.lst [.int q], .lst (sts rows), .lst (sts ws)]) (n := 0) (p := q) (k := (ws.length : Int)) rfl (by omega) (by omega)
  simp only [List.set_cons_zero] at t1
  have p0 : 0 ≤ q % (ws.length : Int) := Int.emod_nonneg _ (by omega)
  have p1 : q % (ws.length : Int) < ws.length := Int.emod_lt_of_pos _ (by omega)
  generalize q % (ws.length : Int) = sp at *
  generalize q / (ws.length : Int) = q1 at *
  have fin : ∀ {ws' : List (List Nat)}, WB (2 * L + 6) (s + 2) m ws' → wtL ws' ≤ 100000 ∧ wtL (rows.set one.toNat (joinL [32] ws')) ≤ 100000 := fun {ws'} h => by
    have a := h.wt
    have b := (hr.put (i := one.toNat) h.text).wt
    omega
  by_cases c5 : way = 5
  · subst c5
    have hwd : 0 < wd.length := List.length_pos_iff.mpr hd.1
    have lwd := hd.2.1
    have t2 := take_e (M := [.lst [.int q1], .lst (sts rows), .lst (sts ws)]) (n := 0) (p := q1) (k := (wd.length : Int)) rfl (by omega) (by omega)
    simp only [List.set_cons_zero] at t2
    have r0 : 0 ≤ q1 % (wd.length : Int) := Int.emod_nonneg _ (by omega)
    have r1 : q1 % (wd.length : Int) < wd.length := Int.emod_lt_of_pos _ (by omega)
    obtain ⟨w, hwm, ewd⟩ := at_sts r0 r1
    have lwd2 := sts_len (ls := wd)
    generalize q1 % (wd.length : Int) = d at *
    generalize q1 / (wd.length : Int) = q2 at *
    have hx := hd.2.2 w hwm
    have W5 : WB (2 * L + 6) (s + 2) m (ws.set sp.toNat w) := (hw.set (i := sp.toNat) hx.1 hx.2 hm).mono (by omega) (by omega)
    have f := fin W5
    have b := bt13 (way := 5) (one := one) (y1 := some (.d (.str (S t)))) (y2 := some (.d (.str (S sg)))) (y3 := some (.d (.list (sts wd)))) (y5 := some (.d (.int at'))) (y6 := some (.d cg)) (y9 := some (.d (.int other))) (y11 := some (.d (.int sp))) (P := .lst [.int q2]) (rows := rows) (ws := ws.set sp.toNat w) (J := [.lst (sts (ws.set sp.toNat w))]) (j := 2) rfl h0 h1 f.1 f.2
    have g := gS_e (fo := sV 10) (fi := sV 11) (x := .str (S w)) (ρ := [some (.loc 0), some (.d (.str (S t))), some (.d (.str (S sg))), some (.d (.list (sts wd))), some (.d (.int 5)), some (.d (.int at')), some (.d cg), some (.loc 1), some (.d (.int one)), some (.d (.int other)), some (.loc 2), some (.d (.int sp))]) (M := [.lst [.int q2], .lst (sts rows), .lst (sts ws)]) (n := 2) (j := sp.toNat) (k := sp) (M1 := [.lst [.int q2], .lst (sts rows), .lst (sts ws)]) (M2 := [.lst [.int q2], .lst (sts rows), .lst (sts ws)]) (ds := sts ws) rfl rfl rfl (ixN_in p0 (by rw [sts_len]; exact p1))
    rw [sts_set] at g
    simp only [List.set_cons_succ, List.set_cons_zero] at g
    refine ⟨_, q2, [.lst (sts (rows.set one.toNat (joinL [32] (ws.set sp.toNat w)))), .lst (sts (ws.set sp.toNat w))], W5, ?_⟩
    generalize hw' : ws.set sp.toNat w = ws' at *
    generalize joinL [10] (rows.set one.toNat (joinL [32] ws')) = T at *
    generalize sts (rows.set one.toNat (joinL [32] ws')) = R2 at *
    generalize sts rows = SR at *
    generalize sts ws = SW at *
    generalize sts wd = SD at *
    simp [b_law_bent_text_8, b_law_bent_text_9, b_law_bent_text_10, b_law_bent_text_11, b_law_bent_text_12, eat, ps, zs, zw, ls, t1, t2, lwd2, ewd, g, b]
  · by_cases c6 : way = 6
    · subst c6
      have W6 : WB (2 * L + 6) (s + 2) m (ws.take (sp.toNat + 1) ++ ws.drop sp.toNat) := (hw.twice (a := sp.toNat)).mono (by omega) (by omega)
      have f := fin W6
      have e1 : cutL (sts ws) none (some (sp + 1)) = sts (ws.take (sp.toNat + 1)) := by rw [sts_cut, cutN_to (by omega), show (sp + 1).toNat = sp.toNat + 1 by omega]
      have e2 : cutL (sts ws) (some sp) none = sts (ws.drop sp.toNat) := by rw [sts_cut, cutN_from p0]
      have ea := sts_app (a := ws.take (sp.toNat + 1)) (b := ws.drop sp.toNat)
      have z2 := szT (show (sts (ws.take (sp.toNat + 1))).length + (sts (ws.drop sp.toNat)).length ≤ 16777216 by rw [sts_len, sts_len, List.length_take, List.length_drop]; omega)
      have b := bt13 (way := 6) (one := one) (y1 := some (.d (.str (S t)))) (y2 := some (.d (.str (S sg)))) (y3 := some (.d (.list (sts wd)))) (y5 := some (.d (.int at'))) (y6 := some (.d cg)) (y9 := some (.d (.int other))) (y11 := some (.d (.int sp))) (P := .lst [.int q1]) (rows := rows) (ws := ws.take (sp.toNat + 1) ++ ws.drop sp.toNat) (J := [.lst (sts ws), .lst (sts (ws.take (sp.toNat + 1) ++ ws.drop sp.toNat))]) (j := 3) rfl h0 h1 f.1 f.2
      refine ⟨_, q1, [.lst (sts (rows.set one.toNat (joinL [32] (ws.take (sp.toNat + 1) ++ ws.drop sp.toNat)))), .lst (sts ws), .lst (sts (ws.take (sp.toNat + 1) ++ ws.drop sp.toNat))], W6, ?_⟩
      generalize joinL [10] (rows.set one.toNat (joinL [32] (ws.take (sp.toNat + 1) ++ ws.drop sp.toNat))) = T at *
      generalize sts (rows.set one.toNat (joinL [32] (ws.take (sp.toNat + 1) ++ ws.drop sp.toNat))) = R2 at *
      rw [ea] at b ⊢
      generalize sts (ws.take (sp.toNat + 1)) = A at *
      generalize sts (ws.drop sp.toNat) = B at *
      generalize sts rows = SR at *
      generalize sts ws = SW at *
      simp [b_law_bent_text_8, b_law_bent_text_9, b_law_bent_text_10, b_law_bent_text_11, b_law_bent_text_12, eat, ps, zs, ls, t1, e1, e2, z2, b]
    · by_cases c7 : way = 7
      · subst c7
        have W7 : WB (2 * L + 6) (s + 2) m (ws.take sp.toNat ++ ws.drop (sp.toNat + 1)) := (hw.less (a := sp.toNat)).mono (by omega) (by omega)
        have f := fin W7
        have e1 : cutL (sts ws) none (some sp) = sts (ws.take sp.toNat) := by rw [sts_cut, cutN_to p0]
        have e2 : cutL (sts ws) (some (sp + 1)) none = sts (ws.drop (sp.toNat + 1)) := by rw [sts_cut, cutN_from (by omega), show (sp + 1).toNat = sp.toNat + 1 by omega]
        have ea := sts_app (a := ws.take sp.toNat) (b := ws.drop (sp.toNat + 1))
        have z2 := szT (show (sts (ws.take sp.toNat)).length + (sts (ws.drop (sp.toNat + 1))).length ≤ 16777216 by rw [sts_len, sts_len, List.length_take, List.length_drop]; omega)
        have b := bt13 (way := 7) (one := one) (y1 := some (.d (.str (S t)))) (y2 := some (.d (.str (S sg)))) (y3 := some (.d (.list (sts wd)))) (y5 := some (.d (.int at'))) (y6 := some (.d cg)) (y9 := some (.d (.int other))) (y11 := some (.d (.int sp))) (P := .lst [.int q1]) (rows := rows) (ws := ws.take sp.toNat ++ ws.drop (sp.toNat + 1)) (J := [.lst (sts ws), .lst (sts (ws.take sp.toNat ++ ws.drop (sp.toNat + 1)))]) (j := 3) rfl h0 h1 f.1 f.2
        refine ⟨_, q1, [.lst (sts (rows.set one.toNat (joinL [32] (ws.take sp.toNat ++ ws.drop (sp.toNat + 1))))), .lst (sts ws), .lst (sts (ws.take sp.toNat ++ ws.drop (sp.toNat + 1)))], W7, ?_⟩
        generalize joinL [10] (rows.set one.toNat (joinL [32] (ws.take sp.toNat ++ ws.drop (sp.toNat + 1)))) = T at *
        generalize sts (rows.set one.toNat (joinL [32] (ws.take sp.toNat ++ ws.drop (sp.toNat + 1)))) = R2 at *
        rw [ea] at b ⊢
        generalize sts (ws.take sp.toNat) = A at *
        generalize sts (ws.drop (sp.toNat + 1)) = B at *
        generalize sts rows = SR at *
        generalize sts ws = SW at *
        simp [b_law_bent_text_8, b_law_bent_text_9, b_law_bent_text_10, b_law_bent_text_11, b_law_bent_text_12, eat, ps, zs, ls, t1, e1, e2, z2, b]
      · have W8 : WB (2 * L + 6) (s + 2) m ws := hw.mono (by omega) (by omega)
        have f := fin W8
        have b := bt13 (way := way) (one := one) (y1 := some (.d (.str (S t)))) (y2 := some (.d (.str (S sg)))) (y3 := some (.d (.list (sts wd)))) (y5 := some (.d (.int at'))) (y6 := some (.d cg)) (y9 := some (.d (.int other))) (y11 := some (.d (.int sp))) (P := .lst [.int q1]) (rows := rows) (ws := ws) (J := [.lst (sts ws)]) (j := 2) rfl h0 h1 f.1 f.2
        refine ⟨_, q1, [.lst (sts (rows.set one.toNat (joinL [32] ws))), .lst (sts ws)], W8, ?_⟩
        generalize joinL [10] (rows.set one.toNat (joinL [32] ws)) = T at *
        generalize sts (rows.set one.toNat (joinL [32] ws)) = R2 at *
        generalize sts rows = SR at *
        generalize sts ws = SW at *
        simp [b_law_bent_text_8, b_law_bent_text_9, b_law_bent_text_10, b_law_bent_text_11, b_law_bent_text_12, eat, ps, zs, ls, t1, c5, c6, c7, b]
theorem bent_e {M : List MO} {k : Nat} {p : Int} {t sg : List Nat} {wd : List (List Nat)} {L m s : Nat} (hM : M[k]? = some (.lst [.int p])) (ht : TB L m s t) (hL : L ≤ 4900) (hm : 5 ≤ m) (hd : wdOk wd) (hg : sg ≠ []) (hg2 : OkS 1000 sg) :
    ∃ t' q, callF F_law_bent_text 4 [.loc k, .d (.str (S t)), .d (.str (S sg)), .d (.list (sts wd))] M = .ok (.d (.str (S t'))) (M.set k (.lst [.int q])) ∧ TB (3 * L + 11) (2 * m + 1) (2 * s + 2) t' := by
  have lt := ht.ok.len
  have t1 := take_e (M := [.lst [.int p]]) (n := 0) (p := p) (k := 9) rfl (by decide) (by decide)
  simp only [List.set_cons_zero] at t1
  have w0 : 0 ≤ p % 9 := Int.emod_nonneg _ (by decide)
  have w1 : p % 9 < 9 := Int.emod_lt_of_pos _ (by decide)
  generalize p % 9 = way at *
  generalize p / 9 = q1 at *
  have t2 := take_e (M := [.lst [.int q1]]) (n := 0) (p := q1) (k := (t.length : Int) + 1) rfl (by omega) (by omega)
  simp only [List.set_cons_zero] at t2
  have a0 : 0 ≤ q1 % ((t.length : Int) + 1) := Int.emod_nonneg _ (by omega)
  generalize q1 % ((t.length : Int) + 1) = at' at *
  generalize q1 / ((t.length : Int) + 1) = q2 at *
  have lg : 0 < sg.length := List.length_pos_iff.mpr hg
  have lg2 := hg2.len
  have t3 := take_e (M := [.lst [.int q2]]) (n := 0) (p := q2) (k := (sg.length : Int)) rfl (by omega) (by omega)
  simp only [List.set_cons_zero] at t3
  obtain ⟨c, ec, hc⟩ := atI_mem (xs := sg) (i := q2 % (sg.length : Int)) (Int.emod_nonneg _ (by omega)) (Int.emod_lt_of_pos _ (by omega))
  generalize q2 % (sg.length : Int) = gi at *
  generalize q2 / (sg.length : Int) = q3 at *
  have hcT := TB.one (hg2.lt c hc)
  have sp := pSplitLive_S (a := t) (b := [10]) (M := [.lst [.int q3]]) (by simp) (by decide) (by omega)
  have hR := ht.rows
  have ne := spl_ne (c := 10) (l := t) (acc := [])
  generalize spl [10] 0 [] t = rows at *
  have lr0 : 0 < rows.length := List.length_pos_iff.mpr ne
  have lr : rows.length ≤ 10000 := by have := wt_len (ls := rows); have := hR.wt; omega
  have ls := sts_len (ls := rows)
  have zs := szT (show (sts rows).length ≤ 16777216 by rw [sts_len]; omega)
  have t4 := take_e (M := [.lst [.int q3], .lst (sts rows)]) (n := 0) (p := q3) (k := (rows.length : Int)) rfl (by omega) (by omega)
  simp only [List.set_cons_zero] at t4
  have o0 : 0 ≤ q3 % (rows.length : Int) := Int.emod_nonneg _ (by omega)
  have o1 : q3 % (rows.length : Int) < rows.length := Int.emod_lt_of_pos _ (by omega)
  generalize q3 % (rows.length : Int) = one at *
  generalize q3 / (rows.length : Int) = q4 at *
  have t5 := take_e (M := [.lst [.int q4], .lst (sts rows)]) (n := 0) (p := q4) (k := (rows.length : Int)) rfl (by omega) (by omega)
  simp only [List.set_cons_zero] at t5
  have r0 : 0 ≤ q4 % (rows.length : Int) := Int.emod_nonneg _ (by omega)
  have r1 : q4 % (rows.length : Int) < rows.length := Int.emod_lt_of_pos _ (by omega)
  generalize q4 % (rows.length : Int) = other at *
  generalize q4 / (rows.length : Int) = q5 at *
  have zt := szT (show t.length ≤ 16777216 by omega)
  have zg := szT (show sg.length ≤ 16777216 by omega)
  have lc : ∀ lo hi, (cutL t lo hi).length ≤ 4900 := fun lo hi => Nat.le_trans cut_len (by omega)
  have pre : ∀ {R : SR}, b_law_bent_text_5 [some (.loc 0), some (.d (.str (S t))), some (.d (.str (S sg))), some (.d (.list (sts wd))), some (.d (.int way)), some (.d (.int at')), some (.d (.str (S [c]))), some (.loc 1), some (.d (.int one)), some (.d (.int other)), none, none] [.lst [.int q5], .lst (sts rows)] = R → b_law_bent_text [some (.loc 0), some (.d (.str (S t))), some (.d (.str (S sg))), some (.d (.list (sts wd))), none, none, none, none, none, none, none, none] [.lst [.int p]] = R := fun {R} h => by
    generalize sts rows = SR at *
    generalize sts wd = SD at *
    rw [← h]
    simp [b_law_bent_text, b_law_bent_text_1, b_law_bent_text_2, b_law_bent_text_3, b_law_bent_text_4, t1, t2, t3, t4, t5, ec, sp, zt, zg, zs, ls]
  have wrap : ∀ {x : List Nat} {q : Int} {J : List MO}, b_law_bent_text_5 [some (.loc 0), some (.d (.str (S t))), some (.d (.str (S sg))), some (.d (.list (sts wd))), some (.d (.int way)), some (.d (.int at')), some (.d (.str (S [c]))), some (.loc 1), some (.d (.int one)), some (.d (.int other)), none, none] [.lst [.int q5], .lst (sts rows)] = .ret (.d (.str (S x))) (.lst [.int q] :: J) → callF F_law_bent_text 4 [.loc k, .d (.str (S t)), .d (.str (S sg)), .d (.list (sts wd))] M = .ok (.d (.str (S x))) (M.set k (.lst [.int q])) := fun {x q J} h => by
    refine callF_px (J := J) hM ?_
    have := pre h
    generalize sts wd = SD at *
    simp [F_law_bent_text, this]
  clear pre t1 t2 t3 t4 t5 sp
  by_cases c0 : way < 3
  · have hb : ∀ {x y z : List Nat}, TB L m s x → TB 1 1 1 y → TB L m s z → TB (3 * L + 11) (2 * m + 1) (2 * s + 2) (x ++ (y ++ z)) := fun hx hy hz => (hx.app (hy.app hz)).mono (by omega) (by omega) (by omega)
    have hn : TB 1 1 1 [] := ⟨⟨(fun _ h => nomatch h), Nat.zero_le _⟩, runs_nil, Nat.zero_le _⟩
    have l1 := lc none (some at')
    rcases (show way = 0 ∨ way = 1 ∨ way = 2 by omega) with rfl | rfl | rfl
    · have l2 := lc (some (at' + 1)) none
      have z1 := szT (show (cutL t none (some at')).length ≤ 16777216 by omega)
      have z2 := szT (show (cutL t none (some at')).length + (cutL t (some (at' + 1)) none).length ≤ 16777216 by omega)
      refine ⟨cutL t none (some at') ++ ([] ++ cutL t (some (at' + 1)) none), q5, wrap (J := [.lst (sts rows)]) ?_, hb ht.cut hn ht.cut⟩
      generalize sts rows = SR at *
      generalize sts wd = SD at *
      simp [b_law_bent_text_5, zt, z1, z2, szT]
    · have l2 := lc (some at') none
      have z1 := szT (show (cutL t none (some at')).length + 1 ≤ 16777216 by omega)
      have z2 := szT (show (cutL t none (some at')).length + 1 + (cutL t (some at') none).length ≤ 16777216 by omega)
      refine ⟨cutL t none (some at') ++ ([c] ++ cutL t (some at') none), q5, wrap (J := [.lst (sts rows)]) ?_, hb ht.cut hcT ht.cut⟩
      generalize sts rows = SR at *
      generalize sts wd = SD at *
      simp [b_law_bent_text_5, zt, z1, z2, szT]
    · have l2 := lc (some (at' + 1)) none
      have z1 := szT (show (cutL t none (some at')).length + 1 ≤ 16777216 by omega)
      have z2 := szT (show (cutL t none (some at')).length + 1 + (cutL t (some (at' + 1)) none).length ≤ 16777216 by omega)
      refine ⟨cutL t none (some at') ++ ([c] ++ cutL t (some (at' + 1)) none), q5, wrap (J := [.lst (sts rows)]) ?_, hb ht.cut hcT ht.cut⟩
      generalize sts rows = SR at *
      generalize sts wd = SD at *
      simp [b_law_bent_text_5, zt, z1, z2, szT]
  · have ct : cutL (sts rows) none (some one) = sts (rows.take one.toNat) := by rw [sts_cut, cutN_to o0]
    by_cases c3 : way = 3
    · subst c3
      obtain ⟨o, ho, eo⟩ := at_sts r0 r1
      have hT := hR.three (a := one.toNat) ho
      have cd : cutL (sts rows) (some one) none = sts (rows.drop one.toNat) := by rw [sts_cut, cutN_from o0]
      have j := pJoin_w (c := 10) (ls := rows.take one.toNat ++ o :: rows.drop one.toNat) (by have := hT.wt; omega)
      rw [sts_app, show sts (o :: rows.drop one.toNat) = .str (S o) :: sts (rows.drop one.toNat) from rfl] at j
      have z1 := szT (show (sts (rows.take one.toNat)).length + 1 ≤ 16777216 by rw [sts_len, List.length_take]; omega)
      have z2 := szT (show (sts (rows.take one.toNat)).length + 1 + (sts (rows.drop one.toNat)).length ≤ 16777216 by rw [sts_len, sts_len, List.length_take, List.length_drop]; omega)
      refine ⟨_, q5, wrap (J := [.lst (sts rows)]) ?_, hT.text.mono (by omega) (by omega) (by omega)⟩
      generalize joinL [10] (rows.take one.toNat ++ o :: rows.drop one.toNat) = T at *
      generalize sts (rows.take one.toNat) = A at *
      generalize sts (rows.drop one.toNat) = B at *
      generalize sts rows = SR at *
      generalize sts wd = SD at *
      simp [b_law_bent_text_5, b_law_bent_text_6, ct, cd, eo, j, z1, z2, szT]
    · by_cases c4 : way = 4
      · subst c4
        have hT := hR.less (a := one.toNat)
        have cd : cutL (sts rows) (some (one + 1)) none = sts (rows.drop (one.toNat + 1)) := by rw [sts_cut, cutN_from (by omega), show (one + 1).toNat = one.toNat + 1 by omega]
        have j := pJoin_w (c := 10) (ls := rows.take one.toNat ++ rows.drop (one.toNat + 1)) (by have := hT.wt; omega)
        rw [sts_app] at j
        have z1 := szT (show (sts (rows.take one.toNat)).length + (sts (rows.drop (one.toNat + 1))).length ≤ 16777216 by rw [sts_len, sts_len, List.length_take, List.length_drop]; omega)
        refine ⟨_, q5, wrap (J := [.lst (sts rows)]) ?_, hT.text.mono (by omega) (by omega) (by omega)⟩
        generalize joinL [10] (rows.take one.toNat ++ rows.drop (one.toNat + 1)) = T at *
        generalize sts (rows.take one.toNat) = A at *
        generalize sts (rows.drop (one.toNat + 1)) = B at *
        generalize sts rows = SR at *
        generalize sts wd = SD at *
        simp [b_law_bent_text_5, b_law_bent_text_6, b_law_bent_text_7, ct, cd, j, z1]
      · obtain ⟨ws, q', J, hW, e⟩ := bt8 (q := q5) (way := way) (one := one) (at' := at') (other := other) (t := t) (sg := sg) (cg := .str (S [c])) (rows := rows) (wd := wd) hR (by omega) hm hd o0 o1
        have hP := (hR.put (i := one.toNat) hW.text).text
        have h8 : TB 1 1 1 (if way = 8 then [10] else []) := by
          split
          · exact TB.one (by decide)
          · exact ⟨⟨(fun _ h => nomatch h), Nat.zero_le _⟩, runs_nil, Nat.zero_le _⟩
        have hr8 : TB 1 m 0 (if way = 8 then [10] else []) := by
          split
          · exact ⟨(TB.one (by decide)).ok, runs_len.mono (by simp; omega), by decide⟩
          · exact ⟨⟨(fun _ h => nomatch h), Nat.zero_le _⟩, runs_nil, Nat.zero_le _⟩
        refine ⟨_, q', wrap (J := J) ?_, (hP.app hr8).mono (by omega) (by omega) (by omega)⟩
        have c3' : ¬ (way < 3) := c0
        generalize sts rows = SR at *
        generalize sts wd = SD at *
        simp [b_law_bent_text_5, b_law_bent_text_6, b_law_bent_text_7, c0, c3, c4, e]
/-! drawn pairs and their texts -/
structure PP (n : Int) (p : Pr2) : Prop where
  rp : RP n p
  ll : p.1.length ≤ 10
  rl : ∀ r, p.2 = some r → r.length ≤ 10
theorem pair_e2 {M : List MO} {m : Nat} {q n : Int} (h : M[m]? = some (.lst [.int q])) (h0 : 1 ≤ n) (h1 : n ≤ 30) : ∃ (p : Pr2) (q' : Int), callF F_law_pair 2 [.loc m, .d (.int n)] M = .ok (.d (pd p)) (M.set m (.lst [.int q'])) ∧ PP n p := by
  have tn : ∀ {l : List Nat}, (l.length : Int) ≤ 10 ∨ l = [] → l.length ≤ 10 := fun h => by
    rcases h with h | rfl
    · omega
    · exact Nat.zero_le _
  obtain ⟨l1, q1, e1, u1, k1⟩ := some_f (M := [.lst [.int q]]) (n := 0) (p := q) (k := n) (m := 10) rfl (by omega) (by omega)
  simp only [List.set_cons_zero] at e1
  obtain ⟨l2, q2, e2, u2, k2⟩ := some_f (M := [.lst [.int q1]]) (n := 0) (p := q1) (k := n) (m := 10) rfl (by omega) (by omega)
  simp only [List.set_cons_zero] at e2
  have t := take_e (M := [.lst [.int q2]]) (n := 0) (p := q2) (k := 4) rfl (by decide) (by decide)
  simp only [List.set_cons_zero] at t
  by_cases c : q2 % 4 = 0
  · refine ⟨(l1, none), q2 / 4, callF_px (J := []) h ?_, ⟨u1, fun r hr => by cases hr⟩, tn k1, fun r hr => by cases hr⟩
    simp [F_law_pair, b_law_pair, e1, e2, t, c, pd, dOpt]
  · refine ⟨(l1, some l2), q2 / 4, callF_px (J := []) h ?_, ⟨u1, fun r hr => by cases hr; exact u2⟩, tn k1, fun r hr => by cases hr; exact tn k2⟩
    simp [F_law_pair, b_law_pair, e1, e2, t, c, pd, dOpt]
theorem num2 : ∀ k, k < 100 → (numL k).length ≤ 2 := by decide +kernel
theorem wt_le {n : Nat} : ∀ {ls : List (List Nat)}, (∀ l ∈ ls, l.length ≤ n) → wtL ls ≤ ls.length * (n + 1)
  | [], _ => Nat.zero_le _
  | l :: ls, h => by
    have h1 := h l List.mem_cons_self
    have h2 := wt_le (ls := ls) fun x hx => h x (List.mem_cons_of_mem _ hx)
    rw [wtL_cons, List.length_cons, Nat.succ_mul]
    omega
theorem pair_tb {n : Int} {p : Pr2} (h1 : n ≤ 30) (h : PP n p) : TB 126 5 21 (pairT p) := by
  have hw : ∀ w ∈ pairW p, (∃ k, k < 100 ∧ w = numL k) ∨ w = [45, 62] ∨ w = never := fun w hw => by
    rcases List.mem_append.mp hw with z | z
    · rcases List.mem_append.mp z with z | z
      · obtain ⟨k, hk, rfl⟩ := List.mem_map.mp z
        exact .inl ⟨k, (h.rp.1.opts h1).lt k hk, rfl⟩
      · exact .inr (.inl (List.mem_singleton.mp z))
    · cases e : p.2 with
      | none => rw [e] at z; exact .inr (.inr (List.mem_singleton.mp z))
      | some r =>
        rw [e] at z
        obtain ⟨k, hk, rfl⟩ := List.mem_map.mp z
        exact .inl ⟨k, ((h.rp.2 r e).opts h1).lt k hk, rfl⟩
  have hl : (pairW p).length ≤ 21 := by
    have := h.ll
    unfold pairW
    rw [List.length_append, List.length_append, List.length_map, List.length_singleton]
    cases e : p.2 with
    | none => show _ + 1 ≤ _; omega
    | some r =>
      have := h.rl r e
      show _ + (r.map numL).length ≤ _
      rw [List.length_map]
      omega
  have h5 : ∀ w ∈ pairW p, w.length ≤ 5 := fun w hx => by
    rcases hw w hx with ⟨k, hk, rfl⟩ | rfl | rfl
    · have := num2 k hk; omega
    · decide
    · decide
  have W : WB 126 21 5 (pairW p) := by
    refine ⟨fun w hx c hc => ?_, fun w hx => runs_len.mono (h5 w hx), fun w hx => ?_, ?_, hl⟩
    · rcases hw w hx with ⟨k, hk, rfl⟩ | rfl | rfl
      · have := num_sign hc; omega
      · revert c; decide
      · revert c; decide
    · rcases hw w hx with ⟨k, hk, rfl⟩ | rfl | rfl
      · exact num_no (.inl (by decide))
      · decide
      · decide
    · have := wt_le h5
      omega
  exact W.text
theorem pairs_tb {n : Int} (h1 : n ≤ 30) : ∀ {ps : List Pr2}, (∀ p ∈ ps, PP n p) → RB (127 * ps.length) 5 (21 * ps.length) (ps.map pairT)
  | [], _ => ⟨(fun _ h => nomatch h), (fun _ h => nomatch h), Nat.le_refl _, Nat.le_refl _⟩
  | p :: ps, h => by
    have t := pair_tb h1 (h p (by simp))
    have r := pairs_tb h1 (ps := ps) fun x hx => h x (List.mem_cons_of_mem _ hx)
    refine ⟨fun l hl => ?_, fun l hl => ?_, ?_, ?_⟩
    · rcases List.mem_cons.mp hl with rfl | hl
      · exact t.ok.lt
      · exact r.lt l hl
    · rcases List.mem_cons.mp hl with rfl | hl
      · exact t.rn
      · exact r.rn l hl
    · have := r.wt
      have := t.ok.len
      rw [List.map_cons, wtL_cons, List.length_cons]
      omega
    · have := r.bl
      have := t.bl
      rw [List.map_cons, cntL_cons, List.length_cons]
      omega
/-- the text of drawn pairs -/
def textP (ps : List Pr2) : List Nat := joinL [10] (ps.map pairT)
theorem textP_tb {n : Int} (h1 : n ≤ 30) {ps : List Pr2} (h : ∀ p ∈ ps, PP n p) (hl : ps.length ≤ 4) : TB 508 5 84 (textP ps) := (pairs_tb h1 h).text.mono (by omega) (by omega) (by omega)
theorem lines_textP {ps : List Pr2} : linesT (textP ps) = ps.map pairT := by
  unfold linesT textP
  cases ps with
  | nil => rfl
  | cons p ps =>
    rw [if_neg, spl_join (by simp) fun w hw => ?_]
    · obtain ⟨q, _, rfl⟩ := List.mem_map.mp hw
      exact pairT_ok.2
    · intro e
      have := (pairT_ok (p := p)).1
      rw [List.map_cons] at e
      cases hp : pairT p with
      | nil => exact this hp
      | cons c r =>
        obtain ⟨z, ez⟩ := join_head (b := [10]) (r := ps.map pairT) hp
        rw [ez] at e
        cases e
theorem rd_pair {n : Int} {p : Pr2} (h1 : n ≤ 30) (h : RP n p) : rdF n (pairT p) = pd p := Rd.uniq h1 rdF_ok (.inl ⟨p, h, rfl, rfl⟩)
theorem pd_sm {n : Int} {p : Pr2} (h1 : n ≤ 30) (h : RP n p) : Sm 2 8002 (pd p) := by
  have f : ∀ l : List Nat, Opts l → Sm 1 4000 (.tuple (oi l)) := fun l h => (Sm.tuple (n := 30) (oi_nice fun k hk => by have := h.lt k hk; omega) (by rw [oi_len]; exact h.len)).mono (by decide) (by decide)
  obtain ⟨l, r⟩ := p
  refine Sm.tuple (n := 2) (D := 1) (B := 4000) (fun d hd => ?_) (Nat.le_refl _)
  simp only [List.mem_cons, List.not_mem_nil, or_false] at hd
  rcases hd with rfl | rfl
  · exact f l (h.1.opts h1)
  · cases r with
    | none => exact Sm.none.mono (by decide) (by decide)
    | some r => exact f r ((h.2 r rfl).opts h1)
theorem good_e {M : List MO} {n : Int} {ps : List Pr2} (h0 : 1 ≤ n) (h1 : n ≤ 30) (h : ∀ p ∈ ps, PP n p) (hl : ps.length ≤ 4) : callF F_law_good 2 [.d (.int n), .d (.list (ps.map pd))] M = .ok (.d (.bool true)) M := by
  have sD : Sm 3 32012 (.list (ps.map pd)) := (Sm.list (n := 4) (D := 2) (B := 8002) (fun d hd => by
    obtain ⟨p, hp, rfl⟩ := List.mem_map.mp hd
    exact pd_sm h1 (h p hp).rp) (by rw [List.length_map]; exact hl)).mono (by decide) (by decide)
  have fD := sD.fine (by decide) (by decide)
  have er : pRepr [.list (ps.map pd)] = some (.str (PyData.list (ps.map pd)).shown) := if_pos fD.show
  have es := fD.shaped
  have ee : PyData.eqv (.list (ps.map pd)) (.list (ps.map pd)) = true := SeqAt.eqv_refl _ (nice_lay _ fD.nice)
  have e1 : ∀ ρ : Rho, ρ.length = 8 → compL (gN 6) sYes x1_law_good ρ (ps.map pd) [] = some (sts (ps.map pairT), []) := fun ρ hρ => by
    unfold sts
    rw [List.map_map]
    refine compL_all _ _ fun p hp => ⟨_, rfl, rfl, ?_⟩
    have v : (ρ.set 6 (some (.d (pd p))))[6]? = some (some (.d (pd p))) := List.getElem?_set_self (by omega)
    simp [x1_law_good, v, law_ptext_e ((h p hp).rp.opt h1)]
  have e2 : ∀ ρ : Rho, ρ.length = 8 → compL (gN 6) sYes x2_law_good ρ (ps.map pd) [] = some (sts (ps.map pairT), []) := fun ρ hρ => by
    unfold sts
    rw [List.map_map]
    refine compL_all _ _ fun p hp => ⟨_, rfl, rfl, ?_⟩
    have v : (ρ.set 6 (some (.d (pd p))))[6]? = some (some (.d (pd p))) := List.getElem?_set_self (by omega)
    simp [x2_law_good, v, pair_text_e ((h p hp).rp.opt h1)]
  have e3 : ∀ ρ : Rho, ρ.length = 2 → compL (gN 1) sYes x1_pairs_text ρ (ps.map pd) [] = some (sts (ps.map pairT), []) := fun ρ hρ => by
    unfold sts
    rw [List.map_map]
    refine compL_all _ _ fun p hp => ⟨_, rfl, rfl, ?_⟩
    have v : (ρ.set 1 (some (.d (pd p))))[1]? = some (some (.d (pd p))) := List.getElem?_set_self (by omega)
    simp [x1_pairs_text, v, pair_text_e ((h p hp).rp.opt h1)]
  have tb := textP_tb h1 h hl
  have to := tb.line (by decide) (by decide) (by decide)
  have pb := pairs_tb h1 h
  have j := pJoin_w (c := 10) (ls := ps.map pairT) (by have := pb.wt; omega)
  have rp : ∀ N, F_read_pairs [.d (.int n), .d (.str (S (textP ps)))] N = .ok (.loc N.length) (N ++ [.lst (ps.map pd)]) := fun N => by
    have em : (linesT (textP ps)).map (rdF n) = ps.map pd := by
      rw [lines_textP, List.map_map]
      exact List.map_congr_left fun p hp => rd_pair h1 (h p hp).rp
    rcases read_pairs_e (M := N) h0 h1 to.2 with ⟨_, e⟩ | ⟨j, M', q, e⟩
    · rw [e, em]
    · exfalso
      rw [lines_textP, List.findIdx?_eq_some_iff_getElem] at q
      obtain ⟨hj, hb, _⟩ := q
      have hm := List.getElem_mem hj
      obtain ⟨p, hp, ep⟩ := List.mem_map.mp hm
      rw [← ep, rd_pair h1 (h p hp).rp] at hb
      cases hb
  have e4 : ∀ (ρ : Rho) (N : List MO), ρ.length = 8 → ρ[0]? = some (some (.d (.int n))) → compL (gN 7) sYes x3_law_good ρ (sts (ps.map pairT)) N = some (ps.map pd, N) := fun ρ N hρ hz => by
    unfold sts
    rw [List.map_map]
    refine compL_all _ _ fun p hp => ⟨_, rfl, rfl, ?_⟩
    have v : (ρ.set 7 (some (.d (.str (S (pairT p))))))[7]? = some (some (.d (.str (S (pairT p))))) := List.getElem?_set_self (by omega)
    have v0 : (ρ.set 7 (some (.d (.str (S (pairT p))))))[0]? = some (some (.d (.int n))) := by rw [List.getElem?_set_ne (by decide)]; exact hz
    have lp := to.2.ln
    have tp := (pair_tb h1 (h p hp)).line (by decide) (by decide) (by decide)
    have r := read_pair1 (M := N) h0 h1 tp.1
    rw [rd_pair h1 (h p hp).rp, if_neg (show ¬ (isNone (pd p) = true) from fun z => by cases z)] at r
    simp [x3_law_good, v, v0, r]
  have jt : joinL [10] (ps.map pairT) = textP ps := rfl
  rw [jt] at j
  have zp := szT (show (ps.map pd).length ≤ 16777216 by rw [List.length_map]; omega)
  have zt := szT (show (sts (ps.map pairT)).length ≤ 16777216 by rw [sts_len, List.length_map]; omega)
  have et : PyData.eqv (.list (sts (ps.map pairT))) (.list (sts (ps.map pairT))) = true := by rw [eqv_sts]; exact decide_eq_true rfl
  have sht : SeqAt.shaped (.list (sts (ps.map pairT))) = true := shaped_sts pb.lt
  have lD : (ps.map pd).length ≤ 4 := by rw [List.length_map]; exact hl
  clear pb tb to
  generalize sts (ps.map pairT) = T at *
  generalize textP ps = X at *
  generalize ps.map pd = D at *
  generalize (PyData.list D).shown = K at *
  have pt : callF F_pairs_text 1 [.d (.list D)] [] = .ok (.d (.str (S X))) [] := by
    refine callF_dx (J := []) ?_
    simp [F_pairs_text, b_pairs_text, zp, e3, zt, j]
  have body : ∀ (N : List MO) (y4 y5 : Option W), f1_law_good [some (.d (.int n)), some (.d (.list D)), some (.d (.str K)), some (.d (.list T)), y4, y5, none, none] N = .nx [some (.d (.int n)), some (.d (.list D)), some (.d (.str K)), some (.d (.list T)), y4, some (.loc N.length), none, none] (N ++ [.lst (D ++ [.none])]) := fun N y4 y5 => by
    have hN : (N ++ [MO.lst D])[N.length]? = some (.lst D) := by simp
    have hs : ∀ o, (N ++ [MO.lst D]).set N.length o = N ++ [o] := fun o => by simp
    have ty := tyW_l (M := N ++ [.lst D]) (i := N.length) (ds := D) hN
    have ap := pAppend_e (M := N ++ [.lst D]) (i := N.length) (ds := D) (x := .none) hN (by rw [sizeLine_eq]; omega)
    rw [hs] at ap
    simp [f1_law_good, f1_law_good_1, f1_law_good_2, j, rp, hN, er, ty, ap, show isT Ty.list (PyData.list D) = true from rfl]
  have loop : ∃ N y4 y5, forL (gN 4) f1_law_good (rng 0 2) [some (.d (.int n)), some (.d (.list D)), some (.d (.str K)), some (.d (.list T)), none, none, none, none] [] = .nx [some (.d (.int n)), some (.d (.list D)), some (.d (.str K)), some (.d (.list T)), y4, y5, none, none] N := by
    refine ⟨[.lst (D ++ [.none]), .lst (D ++ [.none])], some (.d (.int 1)), some (.loc 1), ?_⟩
    have r2 : rng 0 2 = [.int 0, .int 1] := rfl
    rw [r2]
    simp [forL_cons, body]
  obtain ⟨N, y4, y5, el⟩ := loop
  refine callF_dx (J := N) ?_
  have a := asR1_c (M := []) (j := 2) (by decide)
  rw [show (2 : Int).toNat = 2 from rfl] at a
  generalize rng 0 2 = P at *
  simp [F_law_good, b_law_good, b_law_good_1, b_law_good_2, b_law_good_3, b_law_good_4, er, e1, e2, e4, zp, zt, pt, j, et, sht, es, ee, a, el]
/-! the law -/
def wdsL : List (List Nat) := [[45, 62], never, [48], [57], [49, 48], [50, 57], [51, 48], [], [45, 49], [48, 48], [45], [62], [78, 101, 118, 101, 114]]
def sgnL : List Nat := [32, 10, 48, 49, 50, 51, 52, 53, 54, 55, 56, 57, 45, 62, 110, 101, 118, 114, 78]
theorem wdsL_ok : wdOk wdsL := by
  refine ⟨by decide, by decide, fun w hw => ?_⟩
  have : ∀ w ∈ wdsL, (w.all fun c => decide (c < 1114112)) = true ∧ w.length ≤ 5 ∧ 32 ∉ w := by decide
  obtain ⟨a, b, c⟩ := this w hw
  exact ⟨⟨fun x hx => of_decide_eq_true (List.all_eq_true.mp a x hx), b⟩, c⟩
theorem sgnL_ok : sgnL ≠ [] ∧ OkS 1000 sgnL := ⟨by decide, by decide, by decide⟩
theorem f2_e {n : Int} {m : Nat} {q i : Int} {t : List Nat} {y0 y2 y5 y8 y9 y10 y11 : Option W} {N : List MO} (h0 : 1 ≤ n) (h1 : n ≤ 30) (hN : N[m]? = some (.lst [.int q])) (ht : TB 508 5 84 t) :
    ∃ x8 q', f2_law [y0, some (.d (.list (sts wdsL))), y2, some (.loc m), some (.d (.int n)), y5, some (.d (.str (S t))), some (.d (.int i)), y8, y9, y10, y11] N = .nx [y0, some (.d (.list (sts wdsL))), y2, some (.loc m), some (.d (.int n)), y5, some (.d (.str (S t))), some (.d (.int i)), x8, y9, y10, y11] (N.set m (.lst [.int q'])) := by
  obtain ⟨t1, q1, e1, b1⟩ := bent_e hN ht (by decide) (by decide) wdsL_ok sgnL_ok.1 sgnL_ok.2
  have hN1 := set_at (o' := .lst [.int q1]) hN
  obtain ⟨t2, q2, e2, b2⟩ := bent_e hN1 b1 (by decide) (by decide) wdsL_ok sgnL_ok.1 sgnL_ok.2
  rw [List.set_set] at e2
  have o1 := b1.line (by decide) (by decide) (by decide)
  have o2 := b2.line (by decide) (by decide) (by decide)
  have r1 := both_e (M := N.set m (.lst [.int q1])) h0 h1 o1.2 o1.1
  have r2 := both_e (M := N.set m (.lst [.int q2])) h0 h1 o2.2 o2.1
  unfold sgnL at e1 e2
  generalize sts wdsL = SD at *
  by_cases c : 5 < i
  · refine ⟨some (.d (.str (S t2))), q2, ?_⟩
    simp [f2_law, f2_law_1, f2_law_2, e1, e2, c, r2]
  · refine ⟨some (.d (.str (S t1))), q1, ?_⟩
    simp [f2_law, f2_law_1, f2_law_2, e1, c, r1]
theorem all2_pp {n : Int} : ∀ {ds xs : List PyData}, All2 (fun _ x => ∃ p, x = pd p ∧ PP n p) ds xs → ∃ ps : List Pr2, xs = ps.map pd ∧ ps.length = ds.length ∧ ∀ p ∈ ps, PP n p
  | _, _, .nil => ⟨[], rfl, rfl, fun _ h => nomatch h⟩
  | _, _, .cons ⟨c, hc, pc⟩ t => by
    obtain ⟨l, e, hl, hp⟩ := all2_pp t
    refine ⟨c :: l, by rw [hc, e]; rfl, by simp [hl], fun x hx => ?_⟩
    rcases List.mem_cons.mp hx with rfl | hx
    · exact pc
    · exact hp x hx
theorem f1_e {ns : List Int} {k : Int} {y3 y4 y5 y6 y7 y8 y9 : Option W} {N : List MO} (h0 : 0 ≤ k) :
    ∃ ρ2 M2, f1_law [some (.scr ns), some (.d (.list (sts wdsL))), some (.d (.int k)), y3, y4, y5, y6, y7, y8, y9, none, none] N = .nx ρ2 M2 ∧ ∃ y2 y3 y4 y5 y6 y7 y8, ρ2 = [some (.scr ns), some (.d (.list (sts wdsL))), y2, y3, y4, y5, y6, y7, y8, y9, none, none] := by
  obtain ⟨p, e0⟩ := pile_e ns h0 N
  have hM : (N ++ [.lst [.int p]])[N.length]? = some (.lst [.int p]) := by simp
  generalize N ++ [MO.lst [.int p]] = N1 at e0 hM
  generalize N.length = m at e0 hM
  obtain ⟨n, q1, e1, n0, n1⟩ := wide_e hM
  have hM1 := set_at (o' := .lst [.int q1]) hM
  generalize N1.set m (.lst [.int q1]) = N2 at e1 hM1
  have t := take_e (k := 5) hM1 (by decide) (by decide)
  have hM2 := set_at (o' := .lst [.int (q1 / 5)]) hM1
  have k0 : 0 ≤ q1 % 5 := Int.emod_nonneg _ (by decide)
  have k1 : q1 % 5 < 5 := Int.emod_lt_of_pos _ (by decide)
  generalize N2.set m (.lst [.int (q1 / 5)]) = N3 at t hM2
  generalize q1 / 5 = q2 at hM2
  generalize q1 % 5 = j at t k0 k1
  obtain ⟨xs, N4, ec, ⟨q3, hM4⟩, hq⟩ := compL_inv (gt := gN 10) (tt := sYes) (te := x1_law) (ρ := [some (.scr ns), some (.d (.list (sts wdsL))), some (.d (.int k)), some (.loc m), some (.d (.int n)), y5, y6, y7, y8, y9, none, none]) (fun N => ∃ q : Int, N[m]? = some (.lst [.int q])) (fun _ x => ∃ p, x = pd p ∧ PP n p) (ds := rng 0 j.toNat) (M := N3)
    (fun d hd M ⟨q, hM⟩ => by
      obtain ⟨p, q', e, hp⟩ := pair_e2 hM n0 n1
      refine ⟨_, _, rfl, pd p, _, rfl, ?_, ⟨q', set_at hM⟩, p, rfl, hp⟩
      generalize sts wdsL = SD at *
      simp [x1_law, e]) ⟨_, hM2⟩
  obtain ⟨ps, rfl, hl, hp⟩ := all2_pp hq
  rw [rng_len] at hl
  have hl4 : ps.length ≤ 4 := by omega
  have g := good_e (M := N4) n0 n1 hp hl4
  have ct : ∀ (ρ : Rho) (M : List MO), ρ.length = 12 → compL (gN 11) sYes x2_law ρ (ps.map pd) M = some (sts (ps.map pairT), M) := fun ρ M hρ => by
    unfold sts
    rw [List.map_map]
    refine compL_all _ _ fun p hp' => ⟨_, rfl, rfl, ?_⟩
    have v : (ρ.set 11 (some (.d (pd p))))[11]? = some (some (.d (pd p))) := List.getElem?_set_self (by omega)
    simp [x2_law, v, law_ptext_e ((hp p hp').rp.opt n1)]
  have tb := textP_tb n1 hp hl4
  have jn := pJoin_w (c := 10) (ls := ps.map pairT) (by have := (pairs_tb n1 hp).wt; omega)
  rw [show joinL [10] (ps.map pairT) = textP ps from rfl] at jn
  have zt := szT (show (sts (ps.map pairT)).length ≤ 16777216 by rw [sts_len, List.length_map]; omega)
  have zp := szT (show (ps.map pd).length ≤ 16777216 by rw [List.length_map]; omega)
  generalize sts (ps.map pairT) = T at *
  generalize textP ps = X at *
  generalize hD : ps.map pd = D at *
  obtain ⟨ρ', M', e, ⟨z7, z8, rfl⟩, _⟩ := forL_inv (gt := gN 7) (body := f2_law) (fun ρ M => (∃ z7 z8 : Option W, ρ = [some (.scr ns), some (.d (.list (sts wdsL))), some (.d (.int k)), some (.loc m), some (.d (.int n)), some (.d (.list D)), some (.d (.str (S X))), z7, z8, y9, none, none]) ∧ ∃ q : Int, M[m]? = some (.lst [.int q])) (fun d => ∃ w : Int, d = .int w)
    (fun d ρ M ⟨w, hd⟩ ⟨⟨z7, z8, hρ⟩, q, hM⟩ => by
      subst hρ hd
      obtain ⟨x8, q', e⟩ := f2_e (i := w) (y0 := some (.scr ns)) (y2 := some (.d (.int k))) (y5 := some (.d (.list D))) (y8 := z8) (y9 := y9) (y10 := none) (y11 := none) n0 n1 hM tb
      exact ⟨_, _, rfl, _, _, e, ⟨_, _, rfl⟩, q', set_at hM⟩)
    (ds := rng 0 8) (ρ := [some (.scr ns), some (.d (.list (sts wdsL))), some (.d (.int k)), some (.loc m), some (.d (.int n)), some (.d (.list D)), some (.d (.str (S X))), y7, y8, y9, none, none]) (M := N4) (fun d hd => by obtain ⟨i, rfl, _, _⟩ := mem_rng hd; exact ⟨i, rfl⟩) ⟨⟨_, _, rfl⟩, q3, hM4⟩
  have c3 := asR1_c (M := N4) (j := 8) (by decide)
  rw [show (rng 0 (8 : Int).toNat) = rng 0 8 from rfl] at c3
  have c2 := asR1_c (M := N3) (j := j) (by omega)
  have zr := szT (show (rng 0 j.toNat).length ≤ 16777216 by rw [rng_len]; omega)
  generalize rng 0 8 = R at *
  generalize rng 0 j.toNat = R2 at *
  generalize sts wdsL = SD at *
  refine ⟨[some (.scr ns), some (.d (.list SD)), some (.d (.int k)), some (.loc m), some (.d (.int n)), some (.d (.list D)), some (.d (.str (S X))), z7, z8, y9, none, none], M', ?_, _, _, _, _, _, _, _, rfl⟩
  simp [f1_law, f1_law_1, f1_law_2, f1_law_3, f1_law_4, f1_law_5, e0, e1, t, c2, zr, ec, zp, g, ct, zt, jn, c3, e]
theorem cells_at {ns : List Int} {f1 : SF} {lo hi : Int} {v : Nat} (h0 : 0 ≤ lo ∧ lo ≤ 1000) (h1 : 0 ≤ hi ∧ hi ≤ 1000) (I : Rho → List MO → Prop) {ρ0 : Rho} {M0 : List MO} (hs : ρ0[0]? = some (some (.scr ns))) (hI : I ρ0 M0)
    (step : ∀ (k : Int) (ρ : Rho) (N : List MO), 0 ≤ k → I ρ N → ∃ ρ2 M2, f1 (ρ.set v (some (.d (.int k)))) N = .nx ρ2 M2 ∧ I ρ2 M2) :
    ∃ ρ' M', sFor (itR1 [(sPr (dpr pMax) [(sC (.int lo)), (sPr (dpr pMin) [(sPr pLenS [(sV 0)]), (sC (.int hi))])])]) (gN v) f1 ρ0 M0 = .nx ρ' M' ∧ I ρ' M' := by
  obtain ⟨m, hm, m0, m1⟩ : ∃ m : Int, m = (if (if hi < (ns.length : Int) then hi else (ns.length : Int)) > lo then (if hi < (ns.length : Int) then hi else (ns.length : Int)) else lo) ∧ 0 ≤ m ∧ m ≤ 1000 := by
    refine ⟨_, rfl, ?_, ?_⟩ <;> split <;> split <;> omega
  obtain ⟨ρ', M', e, h⟩ := forL_inv (gt := gN v) (body := f1) I (fun d => ∃ k : Int, d = .int k ∧ 0 ≤ k)
    (fun d ρ N ⟨k, hd, k0⟩ hi => by
      subst hd
      exact ⟨_, _, rfl, step k ρ N k0 hi⟩)
    (ds := rng 0 m.toNat) (ρ := ρ0) (M := M0) (fun d hd => by obtain ⟨i, rfl, a, b⟩ := mem_rng hd; exact ⟨i, rfl, a⟩) hI
  have q2 : (itR1 [(sPr (dpr pMax) [(sC (.int lo)), (sPr (dpr pMin) [(sPr pLenS [(sV 0)]), (sC (.int hi))])])]) ρ0 M0 = .ok (rng 0 m.toNat) M0 := by
    simp only [itR1_e, sPr_d, sPr_lenS, evs_cons, evs_nil, sC_e, sV_e, bind_ok, hs, optW_s, pLenS, ans_some, vws_cons, vws_nil, vw_d, Option.bind_some, Option.map_some, rd_s, pMin_i, asD_s, pMax_i]
    rw [← hm, asR1_c ⟨by omega, by omega⟩]
  refine ⟨ρ', M', ?_, h⟩
  rw [sFor_e, q2, fo_ok, e]
def oddA : List (List Nat) := [[], [10], [45, 62], [45, 62, 32], [32, 45, 62], [45, 62, 32, 110, 101, 118, 101, 114], [48, 32, 45, 62], [48, 32, 45, 62, 32], [48, 45, 62, 49], [48, 32, 45, 62, 32, 49], [48, 32, 49, 32, 45, 62, 32, 50], [49, 32, 48, 32, 45, 62, 32, 50]]
def oddB : List (List Nat) := [[48, 32, 45, 62, 32, 110, 101, 118, 101, 114, 32, 49], [110, 101, 118, 101, 114, 32, 45, 62, 32, 48], [48, 32, 45, 62, 32, 49, 32, 110, 101, 118, 101, 114], [48, 32, 45, 62, 32, 45, 62, 32, 49], [48, 32, 45, 62, 32, 51], [51, 32, 45, 62, 32, 48], [48, 32, 32, 45, 62, 32, 49], [48, 32, 45, 62, 32, 32, 49]]
def oddC : List (List Nat) := [[48, 32, 45, 62, 32, 48], [45, 62, 32, 48, 10, 48], [45, 62, 32, 48, 10, 45, 62, 32, 120], [48, 32, 45, 62, 32, 78, 101, 118, 101, 114], [48, 48, 32, 45, 62, 32, 49], [48, 32, 45, 32, 62, 32, 49], [48, 32, 45, 62, 32, 49, 32], [32, 48, 32, 45, 62, 32, 49]]
def oddD : List (List Nat) := [[45, 62, 32, 48, 32, 49, 32, 50], [48, 32, 48, 32, 45, 62, 32, 49], [48, 32, 45, 62, 32, 50, 32, 49]]
def long1 : List Nat := joinL [10] (List.replicate 1333 arrow ++ [])
def long2 : List Nat := joinL [10] (List.replicate 1300 arrow ++ [[45]])
theorem odd_ok : ∀ t ∈ oddA ++ oddB ++ oddC ++ oddD ++ [long1] ++ [long2], TextOk t ∧ LineOk6 t := fun t ht => by
  have key : ∀ t ∈ oddA ++ oddB ++ oddC ++ oddD, (t.all fun c => decide (c < 1114112)) = true ∧ t.length ≤ 29 := by decide
  rw [List.mem_append, List.mem_append] at ht
  rcases ht with (ht | ht) | ht
  · obtain ⟨a, b⟩ := key t ht
    have := (TB.of (fun c hc => of_decide_eq_true (List.all_eq_true.mp a c hc)) b).line (by decide) (by decide) (by decide)
    exact ⟨this.2, this.1⟩
  · rw [List.mem_singleton.mp ht]
    have := (long_ok (k := 1333) (q := []) (by decide) (.inl rfl)).line (by decide) (by decide) (by decide)
    exact ⟨this.2, this.1⟩
  · rw [List.mem_singleton.mp ht]
    have := (long_ok (k := 1300) (q := [[45]]) (by decide) (.inr rfl)).line (by decide) (by decide) (by decide)
    exact ⟨this.2, this.1⟩
theorem rep_arrow {k : Nat} : (List.replicate k [PyData.str (S [45, 62])]).flatten = sts (List.replicate k arrow) := by
  induction k with
  | zero => rfl
  | succ k ih => rw [List.replicate_succ, List.flatten_cons, ih]; rfl
theorem al_step {i n : Nat} {f : EF} {ds es : List PyData} {ρ : Rho} {M : List MO} (h : ρ[i]? = some (some (.loc n))) (hn : M[n]? = some (.lst ds)) (hf : f ρ M = .ok (.d (.list es)) M) (hl : ds.length + es.length ≤ 16777216) :
    sSet i (sPr pAddLive [sV i, f]) ρ M = .nx (ρ.set i (some (.loc M.length))) (M ++ [.lst (ds ++ es)]) := by
  simp [h, hf, pAddLive_l hn, sz hl]
theorem compL_non {gt : GF} {tt : TF} {te : EF} {ρ : Rho} {M : List MO} {α : Type} (h : α → PyData) : ∀ {l : List α}, (∀ a ∈ l, ∃ ρ1, gt (.d (h a)) ρ M = some (ρ1, M) ∧ tt ρ1 M = .ok false M) → compL gt tt te ρ (l.map h) M = some ([], M)
  | [], _ => rfl
  | a :: l, k => by
    obtain ⟨ρ1, e1, e2⟩ := k a (by simp)
    rw [List.map_cons, compL_cons, e1]
    simp only [e2]
    exact compL_non h fun x hx => k x (List.mem_cons_of_mem _ hx)
section
variable {y0 y1 y2 y3 y4 y5 y6 y7 y8 y9 y10 y11 : Option W} {M : List MO} {j : Nat} {A : List (List Nat)}
theorem last_at {M : List MO} {o : MO} : (M ++ [o])[M.length]? = some o := by simp
theorem c8 (hM : M[j]? = some (.lst (sts A))) (h : ∀ t ∈ A, TextOk t ∧ LineOk6 t) (hA : A.length ≤ 1000) : b_law_8 [y0, y1, y2, y3, y4, y5, y6, y7, y8, some (.loc j), y10, y11] M = .ret (.d (.bool true)) (M.set j .dead) := by
  have e : ∀ (ρ : Rho) (N : List MO), ρ.length = 12 → compL (gN 6) y3_law x3_law ρ (sts A) N = some ([], N) := fun ρ N hρ => by
    unfold sts
    refine compL_non _ fun t ht => ⟨_, rfl, ?_⟩
    have v : (ρ.set 6 (some (.d (.str (S t)))))[6]? = some (some (.d (.str (S t)))) := List.getElem?_set_self (by omega)
    simp [y3_law, v, both_e (n := 3) (by decide) (by decide) (h t ht).1 (h t ht).2]
  have zA := szT (show (sts A).length ≤ 16777216 by rw [sts_len]; omega)
  generalize sts A = SA at *
  simp [b_law_8, hM, asItA, e, zA, szT, eqv_nil]
theorem app_e {f : EF} {a : List Nat} {ρ : Rho} (h9 : ρ[9]? = some (some (.loc j))) (hM : M[j]? = some (.lst (sts A))) (hA : A.length ≤ 1000) (hf : f ρ M = .ok (.d (.str (S a))) M) : sExpr (sMeth .list pAppend (sV 9) [f]) ρ M = .nx ρ (M.set j (.lst (sts (A ++ [a])))) := by
  have ty := tyW_l (M := M) (i := j) (ds := sts A) hM
  have ap := pAppend_e (M := M) (i := j) (ds := sts A) (x := .str (S a)) hM (by rw [sizeLine_eq, sts_len]; omega)
  have ea : sts (A ++ [a]) = sts A ++ [.str (S a)] := sts_app
  rw [ea]
  generalize sts A = SA at *
  simp [h9, ty, hf, ap]
theorem rep_e {k : Nat} (hk : k ≤ 2000) : pMulA [.list [.str (S [45, 62])], .int (k : Int)] = some (.list (sts (List.replicate k arrow))) := by
  rw [pMulA_l, if_pos, Int.toNat_natCast, rep_arrow]
  refine ⟨by omega, ?_, ?_⟩
  · have : (2 : Int) ^ 63 = 9223372036854775808 := by decide +kernel
    rw [this]
    omega
  · rw [Int.toNat_natCast, sizeLine_eq, List.length_singleton]
    omega
theorem c6 (hM : M[j]? = some (.lst (sts A))) (hA : A.length ≤ 900) : b_law_6 [y0, y1, y2, y3, y4, y5, y6, y7, y8, some (.loc j), y10, y11] M = b_law_8 [y0, y1, y2, y3, y4, y5, y6, y7, y8, some (.loc j), y10, y11] (M.set j (.lst (sts (A ++ [long1] ++ [long2])))) := by
  have r1 := rep_e (k := 1333) (by decide)
  have r2 := rep_e (k := 1300) (by decide)
  have j1 := pJoin_w (c := 10) (ls := List.replicate 1333 arrow) (by rw [wtL_rep]; decide)
  have j2 := pJoin_w (c := 10) (ls := List.replicate 1300 arrow ++ [[45]]) (by rw [wtL_app, wtL_rep]; decide)
  have l1 : long1 = joinL [10] (List.replicate 1333 arrow) := by unfold long1; rw [List.append_nil]
  have l2 : long2 = joinL [10] (List.replicate 1300 arrow ++ [[45]]) := rfl
  rw [← l1] at j1
  rw [← l2, sts_app] at j2
  have n2 : (sts (List.replicate 1300 arrow)).length = 1300 := by rw [sts_len, List.length_replicate]
  generalize sts (List.replicate 1333 arrow) = P at *
  generalize sts (List.replicate 1300 arrow) = Q at *
  generalize long1 = t1 at *
  generalize long2 = t2 at *
  clear l1 l2
  have es : sts [[45]] = [.str (S [45])] := rfl
  rw [es] at j2
  have z2 := szT (show Q.length + 1 ≤ 16777216 by omega)
  unfold b_law_6 b_law_7
  rw [sSeq_e, app_e (a := t1) rfl hM (by omega) (by
    have e : ((1333 : Nat) : Int) = 1333 := rfl
    rw [e] at r1
    simp [szT, r1, j1]), go_nx, sSeq_e, app_e (a := t2) (A := A ++ [t1]) rfl (set_at hM) (by rw [List.length_append]; simp; omega) (by
    have e : ((1300 : Nat) : Int) = 1300 := rfl
    rw [e] at r2
    simp [szT, r2, z2, j2]), go_nx, List.set_set]
theorem al_s {es : List (List Nat)} {f : EF} {k : SF} (hM : M[j]? = some (.lst (sts A))) (hA : A.length + es.length ≤ 1000) (hf : f [y0, y1, y2, y3, y4, y5, y6, y7, y8, some (.loc j), y10, y11] M = .ok (.d (.list (sts es))) M) :
    sSeq (sSet 9 (sPr pAddLive [sV 9, f])) k [y0, y1, y2, y3, y4, y5, y6, y7, y8, some (.loc j), y10, y11] M = k [y0, y1, y2, y3, y4, y5, y6, y7, y8, some (.loc M.length), y10, y11] (M ++ [.lst (sts (A ++ es))]) := by
  rw [sSeq_e, al_step (n := j) (ds := sts A) (es := sts es) rfl hM hf (by rw [sts_len, sts_len]; omega), go_nx, sts_app]
  rfl
end
theorem closing {y0 y1 y2 y3 y4 y5 y6 y7 y8 y9 y10 y11 : Option W} {M : List MO} : ∃ M', b_law_2 [y0, y1, y2, y3, y4, y5, y6, y7, y8, y9, y10, y11] M = .ret (.d (.bool true)) M' := by
  have s2 : b_law_2 [y0, y1, y2, y3, y4, y5, y6, y7, y8, y9, y10, y11] M = b_law_3 [y0, y1, y2, y3, y4, y5, y6, y7, y8, some (.loc M.length), y10, y11] (M ++ [.lst (sts oddA)]) := by
    simp [b_law_2, szT, oddA, sts]
  have s3 : ∀ (M : List MO) (j : Nat), M[j]? = some (.lst (sts oddA)) → b_law_3 [y0, y1, y2, y3, y4, y5, y6, y7, y8, some (.loc j), y10, y11] M = b_law_4 [y0, y1, y2, y3, y4, y5, y6, y7, y8, some (.loc M.length), y10, y11] (M ++ [.lst (sts (oddA ++ oddB))]) := fun M j hM => by
    unfold b_law_3
    exact al_s hM (by decide) (by simp [szT, oddB, sts])
  have s4 : ∀ (M : List MO) (j : Nat), M[j]? = some (.lst (sts (oddA ++ oddB))) → b_law_4 [y0, y1, y2, y3, y4, y5, y6, y7, y8, some (.loc j), y10, y11] M = b_law_5 [y0, y1, y2, y3, y4, y5, y6, y7, y8, some (.loc M.length), y10, y11] (M ++ [.lst (sts (oddA ++ oddB ++ oddC))]) := fun M j hM => by
    unfold b_law_4
    exact al_s hM (by decide) (by simp [szT, oddC, sts])
  have s5 : ∀ (M : List MO) (j : Nat), M[j]? = some (.lst (sts (oddA ++ oddB ++ oddC))) → b_law_5 [y0, y1, y2, y3, y4, y5, y6, y7, y8, some (.loc j), y10, y11] M = b_law_6 [y0, y1, y2, y3, y4, y5, y6, y7, y8, some (.loc M.length), y10, y11] (M ++ [.lst (sts (oddA ++ oddB ++ oddC ++ oddD))]) := fun M j hM => by
    unfold b_law_5
    exact al_s hM (by decide) (by simp [szT, oddD, sts])
  rw [s2, s3 _ _ last_at, s4 _ _ last_at, s5 _ _ last_at, c6 last_at (by decide), c8 (set_at last_at) odd_ok (by decide)]
  exact ⟨_, rfl⟩
theorem law_true : ∀ ns : List Int, ns.length ≤ 63 → ∃ M, F_law [.scr ns] [] = .ok (.d (.bool true)) M := by
  intro ns _
  obtain ⟨ρ', M', e, y2, y3, y4, y5, y6, y7, y8, rfl⟩ := cells_at (ns := ns) (f1 := f1_law) (lo := 2) (hi := 8) (v := 2) (M0 := []) (by decide) (by decide) (fun ρ N => ∃ y2 y3 y4 y5 y6 y7 y8, ρ = [some (.scr ns), some (.d (.list (sts wdsL))), y2, y3, y4, y5, y6, y7, y8, none, none, none]) (ρ0 := [some (.scr ns), some (.d (.list (sts wdsL))), none, none, none, none, none, none, none, none, none, none]) rfl ⟨_, _, _, _, _, _, _, rfl⟩
    (fun k ρ N k0 ⟨y2, y3, y4, y5, y6, y7, y8, hρ⟩ => by
      subst hρ
      exact f1_e k0)
  obtain ⟨M2, ec⟩ := closing (y0 := some (.scr ns)) (y1 := some (.d (.list (sts wdsL)))) (y2 := y2) (y3 := y3) (y4 := y4) (y5 := y5) (y6 := y6) (y7 := y7) (y8 := y8) (y9 := none) (y10 := none) (y11 := none) (M := M')
  refine ⟨M2, ?_⟩
  have e0 : b_law [some (.scr ns), none, none, none, none, none, none, none, none, none, none, none] [] = b_law_1 [some (.scr ns), some (.d (.list (sts wdsL))), none, none, none, none, none, none, none, none, none, none] [] := by
    simp [b_law, wdsL, sts, szT, never]
  simp only [F_law, defF_e, start0_cons, start0_nil, List.replicate]
  rw [e0]
  simp only [b_law_1, sSeq_e]
  rw [e]
  simp [ec]
end K61
namespace K61
open PySem PySem.Spec PyProof.Rows L2 Y
def topS (i : Nat) : Stmt := PySem.Challenge.pw_seensettings_k61_pairs_written.main.body.getD i (.Pass ⟨0, 0, 0, 0⟩)
structure Txt (K : PySem.W.Frag) (Pm : Params) (mg : Str → Option Value) : Prop where
  f_is_whole : Txt1 K mg "is_whole" (topS 19) ["thing"]
  f_is_below : Txt1 K mg "is_below" (topS 20) ["thing", "many"]
  f_is_size : Txt1 K mg "is_size" (topS 21) ["thing"]
  f_look_at_size : Txt1 K mg "look_at_size" (topS 22) ["size"]
  f_are_options : Txt1 K mg "are_options" (topS 24) ["size", "thing"]
  f_is_right_pair : Txt1 K mg "is_right_pair" (topS 26) ["size", "thing"]
  f_pair_text : Txt1 K mg "pair_text" (topS 29) ["pair"]
  f_pairs_text : Txt1 K mg "pairs_text" (topS 30) ["pairs"]
  f_option_read : Txt1 K mg "option_read" (topS 31) ["word"]
  f_pair_read : Txt1 K mg "pair_read" (topS 32) ["size", "text"]
  f_lines_read : Txt1 K mg "lines_read" (topS 33) ["reader", "size", "text"]
  f_one_read : Txt1 K mg "one_read" (topS 34) ["reader", "size", "text"]
  f_read_pair : Txt1 K mg "read_pair" (topS 35) ["size", "text"]
  f_read_pairs : Txt1 K mg "read_pairs" (topS 36) ["size", "text"]
  f_law_mixed : Txt1 K mg "_law_mixed" (topS 38) ["_law_cell", "_law_k"]
  f_law_pile : Txt1 K mg "_law_pile" (topS 39) ["_law_script", "_law_k"]
  f_law_take : Txt1 K mg "_law_take" (topS 40) ["_law_pile_here", "_law_size"]
  f_law_wide_size : Txt1 K mg "_law_wide_size" (topS 41) ["_law_pile_here"]
  f_law_some : Txt1 K mg "_law_some" (topS 42) ["_law_pile_here", "_law_size", "_law_most"]
  f_law_whole : Txt1 K mg "_law_whole" (topS 43) ["_law_thing"]
  f_law_options : Txt1 K mg "_law_options" (topS 44) ["_law_size", "_law_thing"]
  f_law_is_rule : Txt1 K mg "_law_is_rule" (topS 45) ["_law_size", "_law_thing"]
  f_law_flags : Txt1 K mg "_law_flags" (topS 46) ["_law_caught"]
  f_law_error : Txt1 K mg "_law_error" (topS 47) ["_law_caught"]
  f_law_pair_text : Txt1 K mg "_law_pair_text" (topS 48) ["_law_pair_here"]
  f_law_option_of : Txt1 K mg "_law_option_of" (topS 49) ["_law_size", "_law_word"]
  f_law_any_of : Txt1 K mg "_law_any_of" (topS 50) ["_law_size", "_law_text"]
  f_law_sum_of : Txt1 K mg "_law_sum_of" (topS 51) ["_law_size", "_law_text"]
  f_law_rule_of : Txt1 K mg "_law_rule_of" (topS 52) ["_law_size", "_law_text"]
  f_law_pair_of : Txt1 K mg "_law_pair_of" (topS 53) ["_law_size", "_law_text"]
  f_law_bent_text : Txt1 K mg "_law_bent_text" (topS 54) ["_law_pile_here", "_law_text", "_law_signs", "_law_words"]
  f_law_lines_of : Txt1 K mg "_law_lines_of" (topS 55) ["_law_reader_kind", "_law_size", "_law_text"]
  f_law_pair : Txt1 K mg "_law_pair" (topS 56) ["_law_pile_here", "_law_size"]
  f_law_answer : Txt1 K mg "_law_answer" (topS 57) ["_law_which", "_law_size", "_law_text"]
  f_law_both : Txt1 K mg "_law_both" (topS 58) ["_law_size", "_law_text"]
  f_law_good : Txt1 K mg "_law_good" (topS 59) ["_law_size", "_law_pairs"]
  f_law : Txt1 K mg "law" (topS 60) ["_law_script"]
  b_ValueError : mg "ValueError" = none
  b_all : mg "all" = none
  b_bool : mg "bool" = none
  b_enumerate : mg "enumerate" = none
  b_int : mg "int" = none
  b_isinstance : mg "isinstance" = none
  b_len : mg "len" = none
  b_list : mg "list" = none
  b_max : mg "max" = none
  b_min : mg "min" = none
  b_range : mg "range" = none
  b_repr : mg "repr" = none
  b_str : mg "str" = none
  b_tuple : mg "tuple" = none
  x : XT K mg xs_
  c_FIGURES : ∃ t, mg "FIGURES" = some (.str (S [48, 49, 50, 51, 52, 53, 54, 55, 56, 57]) t)
  c_MOST_OPTIONS : ∃ t, mg "MOST_OPTIONS" = some (.int 30 t)
  v_pair_read : FnV K mg "pair_read"
  nt : NTx K mg "NoText.__init__" (inClass (topS 16) 0)
  xl : XLn K
section
variable {P : Program} {w : World} {K : PySem.W.Frag} {mg : Str → Option Value} {base : Heap}
theorem sc_nt : FnScope ["self", "line"] ["self", "line"] (defScope (inClass (topS 16) 0)) := ⟨rfl, rfl, rfl, by decide +kernel, rfl, by decide +kernel, by decide +kernel⟩
theorem sc_is_whole : FnScope ["thing"] ["thing"] (defScope (topS 19)) := ⟨rfl, rfl, rfl, by decide +kernel, rfl, by decide +kernel, by decide +kernel⟩
theorem c_is_whole (T : Txt K w.params mg) : Cal P w K mg base 1 "is_whole" ["thing"] F_is_whole := cal_of T.f_is_whole sc_is_whole fun f cdv A outer s H E C =>
    (mss_one (ms_ret (me_and (me_isi .int (me_v 0) T.b_isinstance T.b_int) (me_one (me_not (me_isi .bool (me_v 0) T.b_isinstance T.b_bool))))))
theorem sc_is_below : FnScope ["thing", "many"] ["thing", "many"] (defScope (topS 20)) := ⟨rfl, rfl, rfl, by decide +kernel, rfl, by decide +kernel, by decide +kernel⟩
theorem c_is_below (T : Txt K w.params mg) : Cal P w K mg base 2 "is_below" ["thing", "many"] F_is_below := cal_of T.f_is_below sc_is_below fun f cdv A outer s H E C =>
    (mss_one (ms_ret (me_and (me_callF C ((c_is_whole T).mono (by decide)) (ma_cons (me_v 0) ma_nil)) (me_and (me_le me_int (me_v 0)) (me_one (me_lt (me_v 0) (me_v 1)))))))
theorem sc_is_size : FnScope ["thing"] ["thing"] (defScope (topS 21)) := ⟨rfl, rfl, rfl, by decide +kernel, rfl, by decide +kernel, by decide +kernel⟩
theorem c_is_size (T : Txt K w.params mg) : Cal P w K mg base 2 "is_size" ["thing"] F_is_size := cal_of T.f_is_size sc_is_size fun f cdv A outer s H E C =>
    (mss_one (ms_ret (me_and (me_callF C ((c_is_whole T).mono (by decide)) (ma_cons (me_v 0) ma_nil)) (me_and (me_le me_int (me_v 0)) (me_one (me_le (me_v 0) (me_gInt T.c_MOST_OPTIONS)))))))
theorem sc_look_at_size : FnScope ["size"] ["size"] (defScope (topS 22)) := ⟨rfl, rfl, rfl, by decide +kernel, rfl, by decide +kernel, by decide +kernel⟩
theorem c_look_at_size (T : Txt K w.params mg) : Cal P w K mg base 3 "look_at_size" ["size"] F_look_at_size := cal_of T.f_look_at_size sc_look_at_size fun f cdv A outer s H E C =>
    (mss_one (ms_if (mt_not (mt_val (me_callF C ((c_is_size T).mono (by decide)) (ma_cons (me_v 0) ma_nil)))) (mss_one (mx_raise C T.x)) mss_nil))
theorem sc_are_options : FnScope ["size", "thing", "place", "option"] ["size", "thing"] (defScope (topS 24)) := ⟨rfl, rfl, rfl, by decide +kernel, rfl, by decide +kernel, by decide +kernel⟩
theorem c_are_options (T : Txt K w.params mg) : Cal P w K mg base 3 "are_options" ["size", "thing"] F_are_options := cal_of T.f_are_options sc_are_options fun f cdv A outer s H E C =>
    (mss_cons (ms_if (mt_w (mw_or (mt_not (mt_val (me_isi .tuple (me_v 1) T.b_isinstance T.b_tuple))) (mw_or1 (mt_not (mt_val (me_all C (ma_cons (me_lc C (mi_seq (me_v 1)) (blkOk_by (own := [("option", 3)]) (by rfl)) (fun s1 H1 A1 cl1 fp1 C1 => (mg_name 3 C1.nd)) (fun s1 H1 A1 cl1 fp1 C1 => mts_nil) (fun s1 H1 A1 cl1 fp1 C1 => (me_callF C1 ((c_is_below T).mono (by decide)) (ma_cons (me_v 3) (ma_cons (me_v 0) ma_nil))))) ma_nil) T.b_all)))))) (mss_one (ms_ret me_bl)) mss_nil)
    (mss_one (ms_ret (me_all C (ma_cons (me_lc C (mi_range1 (ma_cons (me_sub (me_len (ma_cons (me_v 1) ma_nil) T.b_len) me_int) ma_nil) T.b_range) (blkOk_by (own := [("place", 2)]) (by rfl)) (fun s1 H1 A1 cl1 fp1 C1 => (mg_name 2 C1.nd)) (fun s1 H1 A1 cl1 fp1 C1 => mts_nil) (fun s1 H1 A1 cl1 fp1 C1 => (me_lt (me_sub1 (me_v 1) (me_v 2)) (me_sub1 (me_v 1) (me_add (me_v 2) me_int))))) ma_nil) T.b_all))))
theorem sc_is_right_pair : FnScope ["size", "thing"] ["size", "thing"] (defScope (topS 26)) := ⟨rfl, rfl, rfl, by decide +kernel, rfl, by decide +kernel, by decide +kernel⟩
theorem c_is_right_pair (T : Txt K w.params mg) : Cal P w K mg base 4 "is_right_pair" ["size", "thing"] F_is_right_pair := cal_of T.f_is_right_pair sc_is_right_pair fun f cdv A outer s H E C =>
    (mss_cons (ms_if (mt_w (mw_or (mt_not (mt_val (me_isi .tuple (me_v 1) T.b_isinstance T.b_tuple))) (mw_or (mt_ne C (me_len (ma_cons (me_v 1) ma_nil) T.b_len) me_int) (mw_or1 (mt_not (mt_val (me_callF C ((c_are_options T).mono (by decide)) (ma_cons (me_v 0) (ma_cons (me_sub1 (me_v 1) me_int) ma_nil))))))))) (mss_one (ms_ret me_bl)) mss_nil)
    (mss_one (ms_ret (me_or (me_isN (me_sub1 (me_v 1) me_int)) (me_one (me_callF C ((c_are_options T).mono (by decide)) (ma_cons (me_v 0) (ma_cons (me_sub1 (me_v 1) me_int) ma_nil))))))))
theorem sc_pair_text : FnScope ["pair", "words", "option"] ["pair"] (defScope (topS 29)) := ⟨rfl, rfl, rfl, by decide +kernel, rfl, by decide +kernel, by decide +kernel⟩
theorem c_pair_text (T : Txt K w.params mg) : Cal P w K mg base 1 "pair_text" ["pair"] F_pair_text := cal_of T.f_pair_text sc_pair_text fun f cdv A outer s H E C =>
    (mss_cons (ms_set (i := 1) C.nd (me_add (me_lc C (mi_seq (me_sub1 (me_v 0) me_int)) (blkOk_by (own := [("option", 2)]) (by rfl)) (fun s1 H1 A1 cl1 fp1 C1 => (mg_name 2 C1.nd)) (fun s1 H1 A1 cl1 fp1 C1 => mts_nil) (fun s1 H1 A1 cl1 fp1 C1 => (me_str1 C1 (ma_cons (me_v 2) ma_nil) T.b_str))) (me_lst (ml_cons me_str ml_nil))))
    (mss_cons (ms_if (mt_isN (me_sub1 (me_v 0) me_int)) (mss_one (ms_ret (me_join me_str (ma_cons (me_lst (ml_star (me_v 1) (ml_cons me_str ml_nil))) ma_nil)))) mss_nil)
    (mss_one (ms_ret (me_join me_str (ma_cons (me_add (me_v 1) (me_lc C (mi_seq (me_sub1 (me_v 0) me_int)) (blkOk_by (own := [("option", 2)]) (by rfl)) (fun s1 H1 A1 cl1 fp1 C1 => (mg_name 2 C1.nd)) (fun s1 H1 A1 cl1 fp1 C1 => mts_nil) (fun s1 H1 A1 cl1 fp1 C1 => (me_str1 C1 (ma_cons (me_v 2) ma_nil) T.b_str)))) ma_nil))))))
theorem sc_pairs_text : FnScope ["pairs", "pair"] ["pairs"] (defScope (topS 30)) := ⟨rfl, rfl, rfl, by decide +kernel, rfl, by decide +kernel, by decide +kernel⟩
theorem c_pairs_text (T : Txt K w.params mg) : Cal P w K mg base 2 "pairs_text" ["pairs"] F_pairs_text := cal_of T.f_pairs_text sc_pairs_text fun f cdv A outer s H E C =>
    (mss_one (ms_ret (me_join me_str (ma_cons (me_lc C (mi_seq (me_v 0)) (blkOk_by (own := [("pair", 1)]) (by rfl)) (fun s1 H1 A1 cl1 fp1 C1 => (mg_name 1 C1.nd)) (fun s1 H1 A1 cl1 fp1 C1 => mts_nil) (fun s1 H1 A1 cl1 fp1 C1 => (me_callF C1 ((c_pair_text T).mono (by decide)) (ma_cons (me_v 1) ma_nil)))) ma_nil))))
theorem sc_option_read : FnScope ["word", "figure"] ["word"] (defScope (topS 31)) := ⟨rfl, rfl, rfl, by decide +kernel, rfl, by decide +kernel, by decide +kernel⟩
theorem c_option_read (T : Txt K w.params mg) : Cal P w K mg base 1 "option_read" ["word"] F_option_read := cal_of T.f_option_read sc_option_read fun f cdv A outer s H E C =>
    (mss_cons (ms_if (mt_w (mw_or (mt_eq C (me_v 0) me_str) (mw_or (mt_not (mt_val (me_all C (ma_cons (me_lc C (mi_seq (me_v 0)) (blkOk_by (own := [("figure", 1)]) (by rfl)) (fun s1 H1 A1 cl1 fp1 C1 => (mg_name 1 C1.nd)) (fun s1 H1 A1 cl1 fp1 C1 => mts_nil) (fun s1 H1 A1 cl1 fp1 C1 => (me_in C1 (me_v 1) (me_gStr T.c_FIGURES)))) ma_nil) T.b_all))) (mw_or1 (mt_w (mw_and (mt_eq C (me_sub1 (me_v 0) me_int) me_str) (mw_and1 (mt_ne C (me_v 0) me_str)))))))) (mss_one (ms_ret me_non)) mss_nil)
    (mss_one (ms_ret (me_int1 (ma_cons (me_v 0) ma_nil) T.b_int))))
theorem sc_pair_read : FnScope ["size", "text", "left", "arrow", "right", "ons", "ends", "pair", "word"] ["size", "text"] (defScope (topS 32)) := ⟨rfl, rfl, rfl, by decide +kernel, rfl, by decide +kernel, by decide +kernel⟩
theorem c_pair_read (T : Txt K w.params mg) : Cal P w K mg base 5 "pair_read" ["size", "text"] F_pair_read := cal_of T.f_pair_read sc_pair_read fun f cdv A outer s H E C =>
    (mss_cons (ms_asg (me_part (me_v 1) (ma_cons me_str ma_nil)) (mg_tup C.calm (mgs_cons (mg_name 2 C.nd) (mgs_cons (mg_name 3 C.nd) (mgs_cons (mg_name 4 C.nd) mgs_nil)))))
    (mss_cons (ms_set (i := 5) C.nd (me_tuple1 C (ma_cons (me_lc C (mi_seq (me_sl (me_split (me_v 2) (ma_cons me_str ma_nil)) mo_none (mo_some (me_neg me_int)))) (blkOk_by (own := [("word", 8)]) (by rfl)) (fun s1 H1 A1 cl1 fp1 C1 => (mg_name 8 C1.nd)) (fun s1 H1 A1 cl1 fp1 C1 => mts_nil) (fun s1 H1 A1 cl1 fp1 C1 => (me_callF C1 ((c_option_read T).mono (by decide)) (ma_cons (me_v 8) ma_nil)))) ma_nil) T.b_tuple))
    (mss_cons (ms_if (mt_eq C (me_v 3) me_str) (mss_one (ms_ret me_non)) mss_nil)
    (mss_cons (ms_set (i := 6) C.nd (me_ite (mt_eq C (me_v 4) me_str) me_non (me_tuple1 C (ma_cons (me_lc C (mi_seq (me_sl (me_split (me_v 4) (ma_cons me_str ma_nil)) (mo_some me_int) mo_none)) (blkOk_by (own := [("word", 8)]) (by rfl)) (fun s1 H1 A1 cl1 fp1 C1 => (mg_name 8 C1.nd)) (fun s1 H1 A1 cl1 fp1 C1 => mts_nil) (fun s1 H1 A1 cl1 fp1 C1 => (me_callF C1 ((c_option_read T).mono (by decide)) (ma_cons (me_v 8) ma_nil)))) ma_nil) T.b_tuple)))
    (mss_cons (ms_set (i := 7) C.nd (me_tup (ml_cons (me_v 5) (ml_cons (me_v 6) ml_nil))))
    (mss_cons (ms_if (mt_w (mw_and (mt_val (me_callF C ((c_is_right_pair T).mono (by decide)) (ma_cons (me_v 0) (ma_cons (me_v 7) ma_nil)))) (mw_and1 (mt_eq C (me_callF C ((c_pair_text T).mono (by decide)) (ma_cons (me_v 7) ma_nil)) (me_v 1))))) (mss_one (ms_ret (me_v 7))) mss_nil)
    (mss_one (ms_ret me_non))))))))
theorem sc_lines_read : FnScope ["reader", "size", "text", "found", "number", "line", "thing"] ["reader", "size", "text"] (defScope (topS 33)) := ⟨rfl, rfl, rfl, by decide +kernel, rfl, by decide +kernel, by decide +kernel⟩
theorem c_lines_read (T : Txt K w.params mg) : Cal P w K mg base 6 "lines_read" ["reader", "size", "text"] F_lines_read := cal_of T.f_lines_read sc_lines_read fun f cdv A outer s H E C =>
    (mss_cons (ms_set (i := 3) C.nd (me_live ml_nil))
    (mss_cons (ms_for C (mi_enumL C (ma_cons (me_ite (mt_ne C (me_v 2) me_str) (me_split (me_v 2) (ma_cons me_str ma_nil)) (me_lst ml_nil)) ma_nil) T.b_enumerate) (mg_tup C.calm (mgs_cons (mg_name 4 C.nd) (mgs_cons (mg_name 5 C.nd) mgs_nil))) (mss_cons (ms_set (i := 6) C.nd (me_callV C (.cons ((c_pair_read T).mono (by decide)) T.v_pair_read .nil) (ma_cons (me_v 1) (ma_cons (me_v 5) ma_nil)) 0))
    (mss_cons (ms_if (mt_isN (me_v 6)) (mss_one (mx_raiseL (k := 0) (C.mono (by decide)) T.nt sc_nt rfl (ma_cons (me_add (me_v 4) me_int) ma_nil))) mss_nil)
    (mss_one (ms_expr (me_append (me_v 3) (ma_cons (me_v 6) ma_nil)))))))
    (mss_one (ms_ret (me_v 3)))))
theorem sc_one_read : FnScope ["reader", "size", "text", "thing"] ["reader", "size", "text"] (defScope (topS 34)) := ⟨rfl, rfl, rfl, by decide +kernel, rfl, by decide +kernel, by decide +kernel⟩
theorem c_one_read (T : Txt K w.params mg) : Cal P w K mg base 6 "one_read" ["reader", "size", "text"] F_one_read := cal_of T.f_one_read sc_one_read fun f cdv A outer s H E C =>
    (mss_cons (ms_set (i := 3) C.nd (me_callV C (.cons ((c_pair_read T).mono (by decide)) T.v_pair_read .nil) (ma_cons (me_v 1) (ma_cons (me_v 2) ma_nil)) 0))
    (mss_cons (ms_if (mt_isN (me_v 3)) (mss_one (mx_raiseL (k := 0) (C.mono (by decide)) T.nt sc_nt rfl (ma_cons me_int ma_nil))) mss_nil)
    (mss_one (ms_ret (me_v 3)))))
theorem sc_read_pair : FnScope ["size", "text"] ["size", "text"] (defScope (topS 35)) := ⟨rfl, rfl, rfl, by decide +kernel, rfl, by decide +kernel, by decide +kernel⟩
theorem c_read_pair (T : Txt K w.params mg) : Cal P w K mg base 7 "read_pair" ["size", "text"] F_read_pair := cal_of T.f_read_pair sc_read_pair fun f cdv A outer s H E C =>
    (mss_cons (ms_expr (me_callF C ((c_look_at_size T).mono (by decide)) (ma_cons (me_v 0) ma_nil)))
    (mss_one (ms_ret (me_callF C ((c_one_read T).mono (by decide)) (ma_cons (me_fn T.v_pair_read) (ma_cons (me_v 0) (ma_cons (me_v 1) ma_nil)))))))
theorem sc_read_pairs : FnScope ["size", "text"] ["size", "text"] (defScope (topS 36)) := ⟨rfl, rfl, rfl, by decide +kernel, rfl, by decide +kernel, by decide +kernel⟩
theorem c_read_pairs (T : Txt K w.params mg) : Cal P w K mg base 7 "read_pairs" ["size", "text"] F_read_pairs := cal_of T.f_read_pairs sc_read_pairs fun f cdv A outer s H E C =>
    (mss_cons (ms_expr (me_callF C ((c_look_at_size T).mono (by decide)) (ma_cons (me_v 0) ma_nil)))
    (mss_one (ms_ret (me_callW C ((c_lines_read T).mono (by decide)) (ma_cons (me_fn T.v_pair_read) (ma_cons (me_v 0) (ma_cons (me_v 1) ma_nil)))))))
theorem sc_law_mixed : FnScope ["_law_cell", "_law_k", "_law_number"] ["_law_cell", "_law_k"] (defScope (topS 38)) := ⟨rfl, rfl, rfl, by decide +kernel, rfl, by decide +kernel, by decide +kernel⟩
theorem c_law_mixed (T : Txt K w.params mg) : Cal P w K mg base 1 "_law_mixed" ["_law_cell", "_law_k"] F_law_mixed := cal_of T.f_law_mixed sc_law_mixed fun f cdv A outer s H E C =>
    (mss_cons (ms_set (i := 2) C.nd (me_mod (me_int1 (ma_cons (me_add (me_add (me_mulA (me_mod (me_int1 (ma_cons (me_v 0) ma_nil) T.b_int) me_int) me_int) (me_mulA (me_v 1) me_int)) me_int) ma_nil) T.b_int) me_int))
    (mss_cons (ms_set (i := 2) C.nd (me_mod (me_int1 (ma_cons (me_mulA (me_v 2) (me_v 2)) ma_nil) T.b_int) me_int))
    (mss_one (ms_ret (me_mod (me_int1 (ma_cons (me_mulA (me_v 2) (me_add (me_v 2) me_int)) ma_nil) T.b_int) me_int)))))
theorem sc_law_pile : FnScope ["_law_script", "_law_k", "_law_cell", "_law_found", "_law_j"] ["_law_script", "_law_k"] (defScope (topS 39)) := ⟨rfl, rfl, rfl, by decide +kernel, rfl, by decide +kernel, by decide +kernel⟩
theorem c_law_pile (T : Txt K w.params mg) : Cal P w K mg base 2 "_law_pile" ["_law_script", "_law_k"] F_law_pile := cal_of T.f_law_pile sc_law_pile fun f cdv A outer s H E C =>
    (mss_cons (ms_set (i := 2) C.nd me_int)
    (mss_cons (ms_if (mt_lt (me_v 1) (me_lenS (ma_cons (me_v 0) ma_nil) T.b_len)) (mss_one (ms_set (i := 2) C.nd (me_ixS (me_v 0) (me_v 1)))) mss_nil)
    (mss_cons (ms_if (mt_ge (me_v 2) (me_pow me_int me_int)) (mss_one (ms_ret (me_live (ml_cons (me_mod (me_int1 (ma_cons (me_sub (me_v 2) (me_pow me_int me_int)) ma_nil) T.b_int) (me_mulA (me_mulA (me_mulA (me_pow me_int me_int) (me_pow me_int me_int)) (me_pow me_int me_int)) (me_pow me_int me_int))) ml_nil)))) mss_nil)
    (mss_cons (ms_set (i := 3) C.nd me_int)
    (mss_cons (ms_for C (mi_range1 (ma_cons me_int ma_nil) T.b_range) (mg_name 4 C.nd) (mss_one (ms_set (i := 3) C.nd (me_add (me_mulA (me_v 3) me_int) (me_callF C ((c_law_mixed T).mono (by decide)) (ma_cons (me_v 2) (ma_cons (me_add (me_add (me_mulA me_int (me_v 1)) (me_mulA me_int (me_v 4))) (me_mulA (me_v 4) (me_v 4))) ma_nil)))))))
    (mss_one (ms_ret (me_live (ml_cons (me_v 3) ml_nil)))))))))
theorem sc_law_take : FnScope ["_law_pile_here", "_law_size", "_law_digit"] ["_law_pile_here", "_law_size"] (defScope (topS 40)) := ⟨rfl, rfl, rfl, by decide +kernel, rfl, by decide +kernel, by decide +kernel⟩
theorem c_law_take (T : Txt K w.params mg) : Cal P w K mg base 1 "_law_take" ["_law_pile_here", "_law_size"] F_law_take := cal_of T.f_law_take sc_law_take fun f cdv A outer s H E C =>
    (mss_cons (ms_set (i := 2) C.nd (me_mod (me_int1 (ma_cons (me_sub1 (me_v 0) me_int) ma_nil) T.b_int) (me_v 1)))
    (mss_cons (ms_asg (me_fdiv (me_sub1 (me_v 0) me_int) (me_v 1)) (mg_sub (me_v 0) me_int))
    (mss_one (ms_ret (me_v 2)))))
theorem sc_law_wide_size : FnScope ["_law_pile_here"] ["_law_pile_here"] (defScope (topS 41)) := ⟨rfl, rfl, rfl, by decide +kernel, rfl, by decide +kernel, by decide +kernel⟩
theorem c_law_wide_size (T : Txt K w.params mg) : Cal P w K mg base 2 "_law_wide_size" ["_law_pile_here"] F_law_wide_size := cal_of T.f_law_wide_size sc_law_wide_size fun f cdv A outer s H E C =>
    (mss_one (ms_ret (me_sub1 (me_lst (ml_cons me_int (ml_cons me_int (ml_cons me_int (ml_cons me_int (ml_cons me_int (ml_cons me_int (ml_cons me_int (ml_cons me_int (ml_cons me_int (ml_cons me_int ml_nil))))))))))) (me_callF C ((c_law_take T).mono (by decide)) (ma_cons (me_v 0) (ma_cons me_int ma_nil))))))
theorem sc_law_some : FnScope ["_law_pile_here", "_law_size", "_law_most", "_law_found", "_law_k"] ["_law_pile_here", "_law_size", "_law_most"] (defScope (topS 42)) := ⟨rfl, rfl, rfl, by decide +kernel, rfl, by decide +kernel, by decide +kernel⟩
theorem c_law_some (T : Txt K w.params mg) : Cal P w K mg base 2 "_law_some" ["_law_pile_here", "_law_size", "_law_most"] F_law_some := cal_of T.f_law_some sc_law_some fun f cdv A outer s H E C =>
    (mss_cons (ms_set (i := 3) C.nd (me_live ml_nil))
    (mss_cons (ms_for C (mi_range1 (ma_cons (me_v 1) ma_nil) T.b_range) (mg_name 4 C.nd) (mss_one (ms_if (mt_w (mw_and (mt_lt (me_len (ma_cons (me_v 3) ma_nil) T.b_len) (me_v 2)) (mw_and1 (mt_eq C (me_callF C ((c_law_take T).mono (by decide)) (ma_cons (me_v 0) (ma_cons me_int ma_nil))) me_int)))) (mss_one (ms_expr (me_append (me_v 3) (ma_cons (me_v 4) ma_nil)))) mss_nil)))
    (mss_one (ms_ret (me_tuple1 C (ma_cons (me_v 3) ma_nil) T.b_tuple)))))
theorem sc_law_whole : FnScope ["_law_thing"] ["_law_thing"] (defScope (topS 43)) := ⟨rfl, rfl, rfl, by decide +kernel, rfl, by decide +kernel, by decide +kernel⟩
theorem c_law_whole (T : Txt K w.params mg) : Cal P w K mg base 1 "_law_whole" ["_law_thing"] F_law_whole := cal_of T.f_law_whole sc_law_whole fun f cdv A outer s H E C =>
    (mss_one (ms_ret (me_and (me_isi .int (me_v 0) T.b_isinstance T.b_int) (me_one (me_not (me_isi .bool (me_v 0) T.b_isinstance T.b_bool))))))
theorem sc_law_options : FnScope ["_law_size", "_law_thing", "_law_k"] ["_law_size", "_law_thing"] (defScope (topS 44)) := ⟨rfl, rfl, rfl, by decide +kernel, rfl, by decide +kernel, by decide +kernel⟩
theorem c_law_options (T : Txt K w.params mg) : Cal P w K mg base 2 "_law_options" ["_law_size", "_law_thing"] F_law_options := cal_of T.f_law_options sc_law_options fun f cdv A outer s H E C =>
    (mss_cons (ms_if (mt_not (mt_val (me_isi .tuple (me_v 1) T.b_isinstance T.b_tuple))) (mss_one (ms_ret me_bl)) mss_nil)
    (mss_cons (ms_if (mt_ne C (me_lc C (mi_seq (me_v 1)) (blkOk_by (own := [("_law_k", 2)]) (by rfl)) (fun s1 H1 A1 cl1 fp1 C1 => (mg_name 2 C1.nd)) (fun s1 H1 A1 cl1 fp1 C1 => (mts_one (mt_w (mw_or (mt_not (mt_val (me_callF C1 ((c_law_whole T).mono (by decide)) (ma_cons (me_v 2) ma_nil)))) (mw_or (mt_lt (me_v 2) me_int) (mw_or1 (mt_ge (me_v 2) (me_v 0)))))))) (fun s1 H1 A1 cl1 fp1 C1 => (me_v 2))) (me_lst ml_nil)) (mss_one (ms_ret me_bl)) mss_nil)
    (mss_one (ms_ret (me_eq C (me_lc C (mi_range2 (ma_cons me_int (ma_cons (me_len (ma_cons (me_v 1) ma_nil) T.b_len) ma_nil)) T.b_range) (blkOk_by (own := [("_law_k", 2)]) (by rfl)) (fun s1 H1 A1 cl1 fp1 C1 => (mg_name 2 C1.nd)) (fun s1 H1 A1 cl1 fp1 C1 => (mts_one (mt_ge (me_sub1 (me_v 1) (me_sub (me_v 2) me_int)) (me_sub1 (me_v 1) (me_v 2))))) (fun s1 H1 A1 cl1 fp1 C1 => (me_v 2))) (me_lst ml_nil))))))
theorem sc_law_is_rule : FnScope ["_law_size", "_law_thing", "_law_k"] ["_law_size", "_law_thing"] (defScope (topS 45)) := ⟨rfl, rfl, rfl, by decide +kernel, rfl, by decide +kernel, by decide +kernel⟩
theorem c_law_is_rule (T : Txt K w.params mg) : Cal P w K mg base 3 "_law_is_rule" ["_law_size", "_law_thing"] F_law_is_rule := cal_of T.f_law_is_rule sc_law_is_rule fun f cdv A outer s H E C =>
    (mss_cons (ms_if (mt_w (mw_or (mt_not (mt_val (me_isi .tuple (me_v 1) T.b_isinstance T.b_tuple))) (mw_or (mt_ne C (me_len (ma_cons (me_v 1) ma_nil) T.b_len) me_int) (mw_or1 (mt_not (mt_val (me_isi .str (me_sub1 (me_v 1) me_int) T.b_isinstance T.b_str))))))) (mss_one (ms_ret me_bl)) mss_nil)
    (mss_cons (ms_if (mt_eq C (me_sub1 (me_v 1) me_int) me_str) (mss_one (ms_ret (me_and (me_callF C ((c_law_options T).mono (by decide)) (ma_cons (me_v 0) (ma_cons (me_sub1 (me_v 1) me_int) ma_nil))) (me_and (me_callF C ((c_law_whole T).mono (by decide)) (ma_cons (me_sub1 (me_v 1) me_int) ma_nil)) (me_one (me_in C (me_sub1 (me_v 1) me_int) (me_lst (ml_cons me_int (ml_cons me_int ml_nil))))))))) mss_nil)
    (mss_cons (ms_if (mt_w (mw_or (mt_ne C (me_sub1 (me_v 1) me_int) me_str) (mw_or (mt_not (mt_val (me_callF C ((c_law_options T).mono (by decide)) (ma_cons (me_v 0) (ma_cons (me_sub1 (me_v 1) me_int) ma_nil))))) (mw_or1 (mt_not (mt_val (me_callF C ((c_law_options T).mono (by decide)) (ma_cons (me_v 0) (ma_cons (me_sub1 (me_v 1) me_int) ma_nil))))))))) (mss_one (ms_ret me_bl)) mss_nil)
    (mss_one (ms_ret (me_eq C (me_lc C (mi_seq (me_sub1 (me_v 1) me_int)) (blkOk_by (own := [("_law_k", 2)]) (by rfl)) (fun s1 H1 A1 cl1 fp1 C1 => (mg_name 2 C1.nd)) (fun s1 H1 A1 cl1 fp1 C1 => (mts_one (mt_in C1 (me_v 2) (me_sub1 (me_v 1) me_int)))) (fun s1 H1 A1 cl1 fp1 C1 => (me_v 2))) (me_lst ml_nil)))))))
theorem sc_law_flags : FnScope ["_law_caught", "_law_flags_here"] ["_law_caught"] (defScope (topS 46)) := ⟨rfl, rfl, rfl, by decide +kernel, rfl, by decide +kernel, by decide +kernel⟩
theorem c_law_flags (T : Txt K w.params mg) : Cal P w K mg base 1 "_law_flags" ["_law_caught"] F_law_flags := cal_of T.f_law_flags sc_law_flags fun f cdv A outer s H E C =>
    (mss_cons (ms_set (i := 1) C.nd (me_lst (ml_cons (mx_is T.x (me_v 0) T.b_isinstance) (ml_cons (mx_is T.x (me_v 0) T.b_isinstance) (ml_cons (mx_is T.x (me_v 0) T.b_isinstance) ml_nil)))))
    (mss_cons (ms_set (i := 1) C.nd (me_add (me_v 1) (me_lst (ml_cons (mx_is T.x (me_v 0) T.b_isinstance) (ml_cons (mx_is T.x (me_v 0) T.b_isinstance) (ml_cons (mx_is T.x (me_v 0) T.b_isinstance) ml_nil))))))
    (mss_cons (ms_set (i := 1) C.nd (me_add (me_v 1) (me_lst (ml_cons (mx_is T.x (me_v 0) T.b_isinstance) (ml_cons (mx_is T.x (me_v 0) T.b_isinstance) (ml_cons (mx_is T.x (me_v 0) T.b_isinstance) ml_nil))))))
    (mss_cons (ms_set (i := 1) C.nd (me_add (me_v 1) (me_lst (ml_cons (mx_is T.x (me_v 0) T.b_isinstance) (ml_cons (mx_is T.x (me_v 0) T.b_isinstance) (ml_cons (mx_is T.x (me_v 0) T.b_isinstance) ml_nil))))))
    (mss_one (ms_ret (me_add (me_v 1) (me_lst (ml_cons (mx_is T.x (me_v 0) T.b_isinstance) (ml_cons (mx_is T.x (me_v 0) T.b_isinstance) (ml_cons (mx_is T.x (me_v 0) T.b_isinstance) ml_nil)))))))))))
theorem sc_law_error : FnScope ["_law_caught", "_law_flags_here", "_law_names"] ["_law_caught"] (defScope (topS 47)) := ⟨rfl, rfl, rfl, by decide +kernel, rfl, by decide +kernel, by decide +kernel⟩
theorem c_law_error (T : Txt K w.params mg) : Cal P w K mg base 2 "_law_error" ["_law_caught"] F_law_error := cal_of T.f_law_error sc_law_error fun f cdv A outer s H E C =>
    (mss_cons (ms_if (mt_isNX (me_v 0)) (mss_one (ms_ret me_str)) mss_nil)
    (mss_cons (ms_set (i := 1) C.nd (me_callF C ((c_law_flags T).mono (by decide)) (ma_cons (me_v 0) ma_nil)))
    (mss_cons (ms_if (mt_w (mw_or (mt_ne C (me_countL C (me_v 1) (ma_cons me_bl ma_nil)) me_int) (mw_or (mt_not (mt_val (mx_isS T.x (me_v 0) T.b_isinstance))) (mw_or1 (mt_not (mt_val (mx_isV T.x (me_v 0) T.b_isinstance T.b_ValueError))))))) (mss_one (ms_ret me_str)) mss_nil)
    (mss_cons (ms_set (i := 2) C.nd (me_lst (ml_cons me_str (ml_cons me_str (ml_cons me_str (ml_cons me_str (ml_cons me_str (ml_cons me_str (ml_cons me_str (ml_cons me_str (ml_cons me_str (ml_cons me_str (ml_cons me_str ml_nil)))))))))))))
    (mss_one (ms_ret (me_sub1 (me_add (me_v 2) (me_lst (ml_cons me_str (ml_cons me_str (ml_cons me_str (ml_cons me_str ml_nil)))))) (me_indexL C (me_v 1) (ma_cons me_bl ma_nil)))))))))
theorem sc_law_pair_text : FnScope ["_law_pair_here", "_law_words", "_law_k"] ["_law_pair_here"] (defScope (topS 48)) := ⟨rfl, rfl, rfl, by decide +kernel, rfl, by decide +kernel, by decide +kernel⟩
theorem c_law_pair_text (T : Txt K w.params mg) : Cal P w K mg base 1 "_law_pair_text" ["_law_pair_here"] F_law_pair_text := cal_of T.f_law_pair_text sc_law_pair_text fun f cdv A outer s H E C =>
    (mss_cons (ms_set (i := 1) C.nd (me_add (me_lc C (mi_seq (me_sub1 (me_v 0) me_int)) (blkOk_by (own := [("_law_k", 2)]) (by rfl)) (fun s1 H1 A1 cl1 fp1 C1 => (mg_name 2 C1.nd)) (fun s1 H1 A1 cl1 fp1 C1 => mts_nil) (fun s1 H1 A1 cl1 fp1 C1 => (me_str1 C1 (ma_cons (me_v 2) ma_nil) T.b_str))) (me_lst (ml_cons me_str ml_nil))))
    (mss_cons (ms_if (mt_isN (me_sub1 (me_v 0) me_int)) (mss_one (ms_ret (me_join me_str (ma_cons (me_add (me_v 1) (me_lst (ml_cons me_str ml_nil))) ma_nil)))) mss_nil)
    (mss_one (ms_ret (me_join me_str (ma_cons (me_add (me_v 1) (me_lc C (mi_seq (me_sub1 (me_v 0) me_int)) (blkOk_by (own := [("_law_k", 2)]) (by rfl)) (fun s1 H1 A1 cl1 fp1 C1 => (mg_name 2 C1.nd)) (fun s1 H1 A1 cl1 fp1 C1 => mts_nil) (fun s1 H1 A1 cl1 fp1 C1 => (me_str1 C1 (ma_cons (me_v 2) ma_nil) T.b_str)))) ma_nil))))))
theorem sc_law_option_of : FnScope ["_law_size", "_law_word", "_law_sign"] ["_law_size", "_law_word"] (defScope (topS 49)) := ⟨rfl, rfl, rfl, by decide +kernel, rfl, by decide +kernel, by decide +kernel⟩
theorem c_law_option_of (T : Txt K w.params mg) : Cal P w K mg base 1 "_law_option_of" ["_law_size", "_law_word"] F_law_option_of := cal_of T.f_law_option_of sc_law_option_of fun f cdv A outer s H E C =>
    (mss_cons (ms_if (mt_w (mw_or (mt_eq C (me_v 1) me_str) (mw_or (mt_gt (me_len (ma_cons (me_v 1) ma_nil) T.b_len) me_int) (mw_or1 (mt_ne C (me_lc C (mi_seq (me_v 1)) (blkOk_by (own := [("_law_sign", 2)]) (by rfl)) (fun s1 H1 A1 cl1 fp1 C1 => (mg_name 2 C1.nd)) (fun s1 H1 A1 cl1 fp1 C1 => (mts_one (mt_notIn C1 (me_v 2) me_str))) (fun s1 H1 A1 cl1 fp1 C1 => (me_v 2))) (me_lst ml_nil)))))) (mss_one (ms_ret me_non)) mss_nil)
    (mss_cons (ms_if (mt_w (mw_or (mt_w (mw_and (mt_eq C (me_sub1 (me_v 1) me_int) me_str) (mw_and1 (mt_ne C (me_v 1) me_str)))) (mw_or1 (mt_ge (me_int1 (ma_cons (me_v 1) ma_nil) T.b_int) (me_v 0))))) (mss_one (ms_ret me_non)) mss_nil)
    (mss_one (ms_ret (me_int1 (ma_cons (me_v 1) ma_nil) T.b_int)))))
theorem sc_law_any_of : FnScope ["_law_size", "_law_text", "_law_parts", "_law_signs", "_law_options_here", "_law_many", "_law_rule", "_law_part"] ["_law_size", "_law_text"] (defScope (topS 50)) := ⟨rfl, rfl, rfl, by decide +kernel, rfl, by decide +kernel, by decide +kernel⟩
theorem c_law_any_of (T : Txt K w.params mg) : Cal P w K mg base 4 "_law_any_of" ["_law_size", "_law_text"] F_law_any_of := cal_of T.f_law_any_of sc_law_any_of fun f cdv A outer s H E C =>
    (mss_cons (ms_setLc C (mi_seq (me_split (me_v 1) (ma_cons me_str ma_nil))) (blkOk_by (own := [("_law_part", 7)]) (by rfl)) (fun s1 H1 A1 cl1 fp1 C1 => (mg_name 7 C1.nd)) (fun s1 H1 A1 cl1 fp1 C1 => mts_nil) (fun s1 H1 A1 cl1 fp1 C1 => (me_split (me_v 7) (ma_cons me_str ma_nil))))
    (mss_cons (ms_if (mt_ne C (me_lc C (mi_seq (me_v 2)) (blkOk_by (own := [("_law_part", 7)]) (by rfl)) (fun s1 H1 A1 cl1 fp1 C1 => (mg_name 7 C1.nd)) (fun s1 H1 A1 cl1 fp1 C1 => (mts_one (mt_w (mw_or (mt_ne C1 (me_len (ma_cons (me_v 7) ma_nil) T.b_len) me_int) (mw_or1 (mt_notIn C1 (me_sub1 (me_v 7) me_int) (me_lst (ml_cons me_str (ml_cons me_str ml_nil))))))))) (fun s1 H1 A1 cl1 fp1 C1 => (me_v 7))) (me_lst ml_nil)) (mss_one (ms_ret me_non)) mss_nil)
    (mss_cons (ms_setLc C (mi_seq (me_v 2)) (blkOk_by (own := [("_law_part", 7)]) (by rfl)) (fun s1 H1 A1 cl1 fp1 C1 => (mg_name 7 C1.nd)) (fun s1 H1 A1 cl1 fp1 C1 => mts_nil) (fun s1 H1 A1 cl1 fp1 C1 => (me_sub1 (me_v 7) me_int)))
    (mss_cons (ms_setLc C (mi_seq (me_v 2)) (blkOk_by (own := [("_law_part", 7)]) (by rfl)) (fun s1 H1 A1 cl1 fp1 C1 => (mg_name 7 C1.nd)) (fun s1 H1 A1 cl1 fp1 C1 => mts_nil) (fun s1 H1 A1 cl1 fp1 C1 => (me_callF C1 ((c_law_option_of T).mono (by decide)) (ma_cons (me_v 0) (ma_cons (me_sub1 (me_v 7) me_int) ma_nil)))))
    (mss_cons (ms_set (i := 5) C.nd (me_countL C (me_v 3) (ma_cons me_str ma_nil)))
    (mss_cons (ms_if (mt_ne C (me_v 3) (me_add (me_mulA (me_lst (ml_cons me_str ml_nil)) (me_v 5)) (me_mulA (me_lst (ml_cons me_str ml_nil)) (me_sub (me_len (ma_cons (me_v 3) ma_nil) T.b_len) (me_v 5))))) (mss_one (ms_ret me_non)) mss_nil)
    (mss_cons (ms_set (i := 6) C.nd (me_tup (ml_cons me_str (ml_cons (me_tuple1 C (ma_cons (me_sl (me_v 4) mo_none (mo_some (me_v 5))) ma_nil) T.b_tuple) (ml_cons (me_tuple1 C (ma_cons (me_sl (me_v 4) (mo_some (me_v 5)) mo_none) ma_nil) T.b_tuple) ml_nil)))))
    (mss_cons (ms_if (mt_w (mw_or (mt_in C me_non (me_v 4)) (mw_or1 (mt_not (mt_val (me_callF C ((c_law_is_rule T).mono (by decide)) (ma_cons (me_v 0) (ma_cons (me_v 6) ma_nil)))))))) (mss_one (ms_ret me_non)) mss_nil)
    (mss_one (ms_ret (me_v 6)))))))))))
theorem sc_law_sum_of : FnScope ["_law_size", "_law_text", "_law_parity", "_law_word", "_law_front", "_law_options_here", "_law_rule", "_law_part"] ["_law_size", "_law_text"] (defScope (topS 51)) := ⟨rfl, rfl, rfl, by decide +kernel, rfl, by decide +kernel, by decide +kernel⟩
theorem c_law_sum_of (T : Txt K w.params mg) : Cal P w K mg base 4 "_law_sum_of" ["_law_size", "_law_text"] F_law_sum_of := cal_of T.f_law_sum_of sc_law_sum_of fun f cdv A outer s H E C =>
    (mss_cons (ms_for C (mi_seq (me_lst (ml_cons me_int (ml_cons me_int ml_nil)))) (mg_name 2 C.nd) (mss_cons (ms_set (i := 3) C.nd (me_sub1 (me_lst (ml_cons me_str (ml_cons me_str ml_nil))) (me_v 2)))
    (mss_one (ms_if (mt_w (mw_and (mt_eq C (me_sl (me_v 1) (mo_some (me_sub (me_len (ma_cons (me_v 1) ma_nil) T.b_len) (me_len (ma_cons (me_v 3) ma_nil) T.b_len))) mo_none) (me_v 3)) (mw_and1 (mt_gt (me_len (ma_cons (me_v 1) ma_nil) T.b_len) (me_len (ma_cons (me_v 3) ma_nil) T.b_len))))) (mss_cons (ms_set (i := 4) C.nd (me_sl (me_v 1) mo_none (mo_some (me_sub (me_len (ma_cons (me_v 1) ma_nil) T.b_len) (me_len (ma_cons (me_v 3) ma_nil) T.b_len)))))
    (mss_cons (ms_if (mt_eq C (me_v 4) me_str) (mss_one (ms_ret (me_tup (ml_cons me_str (ml_cons (me_tup ml_nil) (ml_cons (me_v 2) ml_nil)))))) mss_nil)
    (mss_cons (ms_setLc C (mi_seq (me_split (me_v 4) (ma_cons me_str ma_nil))) (blkOk_by (own := [("_law_part", 7)]) (by rfl)) (fun s1 H1 A1 cl1 fp1 C1 => (mg_name 7 C1.nd)) (fun s1 H1 A1 cl1 fp1 C1 => mts_nil) (fun s1 H1 A1 cl1 fp1 C1 => (me_callF C1 ((c_law_option_of T).mono (by decide)) (ma_cons (me_v 0) (ma_cons (me_v 7) ma_nil)))))
    (mss_cons (ms_set (i := 6) C.nd (me_tup (ml_cons me_str (ml_cons (me_tuple1 C (ma_cons (me_v 5) ma_nil) T.b_tuple) (ml_cons (me_v 2) ml_nil)))))
    (mss_one (ms_if (mt_w (mw_and (mt_notIn C me_non (me_v 5)) (mw_and1 (mt_val (me_callF C ((c_law_is_rule T).mono (by decide)) (ma_cons (me_v 0) (ma_cons (me_v 6) ma_nil))))))) (mss_one (ms_ret (me_v 6))) mss_nil)))))) mss_nil))))
    (mss_one (ms_ret me_non)))
theorem sc_law_rule_of : FnScope ["_law_size", "_law_text", "_law_found"] ["_law_size", "_law_text"] (defScope (topS 52)) := ⟨rfl, rfl, rfl, by decide +kernel, rfl, by decide +kernel, by decide +kernel⟩
theorem c_law_rule_of (T : Txt K w.params mg) : Cal P w K mg base 5 "_law_rule_of" ["_law_size", "_law_text"] F_law_rule_of := cal_of T.f_law_rule_of sc_law_rule_of fun f cdv A outer s H E C =>
    (mss_cons (ms_if (mt_eq C (me_v 1) me_str) (mss_one (ms_ret (me_tup (ml_cons me_str (ml_cons (me_tup ml_nil) (ml_cons (me_tup ml_nil) ml_nil)))))) mss_nil)
    (mss_cons (ms_set (i := 2) C.nd (me_callF C ((c_law_sum_of T).mono (by decide)) (ma_cons (me_v 0) (ma_cons (me_v 1) ma_nil))))
    (mss_cons (ms_if (mt_isN (me_v 2)) (mss_one (ms_set (i := 2) C.nd (me_callF C ((c_law_any_of T).mono (by decide)) (ma_cons (me_v 0) (ma_cons (me_v 1) ma_nil))))) mss_nil)
    (mss_one (ms_ret (me_v 2))))))
theorem sc_law_pair_of : FnScope ["_law_size", "_law_text", "_law_words", "_law_at", "_law_left", "_law_right", "_law_pair_here", "_law_word"] ["_law_size", "_law_text"] (defScope (topS 53)) := ⟨rfl, rfl, rfl, by decide +kernel, rfl, by decide +kernel, by decide +kernel⟩
theorem c_law_pair_of (T : Txt K w.params mg) : Cal P w K mg base 3 "_law_pair_of" ["_law_size", "_law_text"] F_law_pair_of := cal_of T.f_law_pair_of sc_law_pair_of fun f cdv A outer s H E C =>
    (mss_cons (ms_set (i := 2) C.nd (me_split (me_v 1) (ma_cons me_str ma_nil)))
    (mss_cons (ms_if (mt_ne C (me_countL C (me_v 2) (ma_cons me_str ma_nil)) me_int) (mss_one (ms_ret me_non)) mss_nil)
    (mss_cons (ms_set (i := 3) C.nd (me_indexL C (me_v 2) (ma_cons me_str ma_nil)))
    (mss_cons (ms_setLc C (mi_seq (me_sl (me_v 2) mo_none (mo_some (me_v 3)))) (blkOk_by (own := [("_law_word", 7)]) (by rfl)) (fun s1 H1 A1 cl1 fp1 C1 => (mg_name 7 C1.nd)) (fun s1 H1 A1 cl1 fp1 C1 => mts_nil) (fun s1 H1 A1 cl1 fp1 C1 => (me_callF C1 ((c_law_option_of T).mono (by decide)) (ma_cons (me_v 0) (ma_cons (me_v 7) ma_nil)))))
    (mss_cons (ms_setLc C (mi_seq (me_sl (me_v 2) (mo_some (me_add (me_v 3) me_int)) mo_none)) (blkOk_by (own := [("_law_word", 7)]) (by rfl)) (fun s1 H1 A1 cl1 fp1 C1 => (mg_name 7 C1.nd)) (fun s1 H1 A1 cl1 fp1 C1 => mts_nil) (fun s1 H1 A1 cl1 fp1 C1 => (me_callF C1 ((c_law_option_of T).mono (by decide)) (ma_cons (me_v 0) (ma_cons (me_v 7) ma_nil)))))
    (mss_cons (ms_if (mt_eq C (me_sl (me_v 2) (mo_some (me_add (me_v 3) me_int)) mo_none) (me_lst (ml_cons me_str ml_nil))) (mss_one (ms_set (i := 5) C.nd (me_lst ml_nil))) mss_nil)
    (mss_cons (ms_set (i := 6) C.nd (me_tup (ml_cons (me_tuple1 C (ma_cons (me_v 4) ma_nil) T.b_tuple) (ml_cons (me_tuple1 C (ma_cons (me_v 5) ma_nil) T.b_tuple) ml_nil))))
    (mss_cons (ms_if (mt_w (mw_or (mt_in C me_non (me_add (me_v 4) (me_v 5))) (mw_or (mt_not (mt_val (me_callF C ((c_law_options T).mono (by decide)) (ma_cons (me_v 0) (ma_cons (me_sub1 (me_v 6) me_int) ma_nil))))) (mw_or1 (mt_not (mt_val (me_callF C ((c_law_options T).mono (by decide)) (ma_cons (me_v 0) (ma_cons (me_sub1 (me_v 6) me_int) ma_nil))))))))) (mss_one (ms_ret me_non)) mss_nil)
    (mss_cons (ms_if (mt_eq C (me_sl (me_v 2) (mo_some (me_add (me_v 3) me_int)) mo_none) (me_lst (ml_cons me_str ml_nil))) (mss_one (ms_ret (me_tup (ml_cons (me_sub1 (me_v 6) me_int) (ml_cons me_non ml_nil))))) mss_nil)
    (mss_one (ms_ret (me_v 6))))))))))))
theorem sc_law_bent_text : FnScope ["_law_pile_here", "_law_text", "_law_signs", "_law_words", "_law_way", "_law_at", "_law_sign", "_law_rows", "_law_one", "_law_other", "_law_some_here", "_law_spot"] ["_law_pile_here", "_law_text", "_law_signs", "_law_words"] (defScope (topS 54)) := ⟨rfl, rfl, rfl, by decide +kernel, rfl, by decide +kernel, by decide +kernel⟩
theorem c_law_bent_text (T : Txt K w.params mg) : Cal P w K mg base 2 "_law_bent_text" ["_law_pile_here", "_law_text", "_law_signs", "_law_words"] F_law_bent_text := cal_of T.f_law_bent_text sc_law_bent_text fun f cdv A outer s H E C =>
    (mss_cons (ms_set (i := 4) C.nd (me_callF C ((c_law_take T).mono (by decide)) (ma_cons (me_v 0) (ma_cons me_int ma_nil))))
    (mss_cons (ms_set (i := 5) C.nd (me_callF C ((c_law_take T).mono (by decide)) (ma_cons (me_v 0) (ma_cons (me_add (me_len (ma_cons (me_v 1) ma_nil) T.b_len) me_int) ma_nil))))
    (mss_cons (ms_set (i := 6) C.nd (me_sub1 (me_v 2) (me_callF C ((c_law_take T).mono (by decide)) (ma_cons (me_v 0) (ma_cons (me_len (ma_cons (me_v 2) ma_nil) T.b_len) ma_nil)))))
    (mss_cons (ms_set (i := 7) C.nd (me_splitLive (me_v 1) (ma_cons me_str ma_nil)))
    (mss_cons (ms_par2 C 8 9 (ma_cons (me_callF C ((c_law_take T).mono (by decide)) (ma_cons (me_v 0) (ma_cons (me_len (ma_cons (me_v 7) ma_nil) T.b_len) ma_nil))) (ma_cons (me_callF C ((c_law_take T).mono (by decide)) (ma_cons (me_v 0) (ma_cons (me_len (ma_cons (me_v 7) ma_nil) T.b_len) ma_nil))) ma_nil)))
    (mss_cons (ms_if (mt_lt (me_v 4) me_int) (mss_one (ms_ret (me_add (me_add (me_sl (me_v 1) mo_none (mo_some (me_v 5))) (me_sub1 (me_lst (ml_cons me_str (ml_cons (me_v 6) (ml_cons (me_v 6) ml_nil)))) (me_v 4))) (me_sl (me_v 1) (mo_some (me_add (me_v 5) (me_sub1 (me_lst (ml_cons me_int (ml_cons me_int (ml_cons me_int ml_nil)))) (me_v 4)))) mo_none)))) mss_nil)
    (mss_cons (ms_if (mt_eq C (me_v 4) me_int) (mss_one (ms_ret (me_join me_str (ma_cons (me_add (me_add (me_sl (me_v 7) mo_none (mo_some (me_v 8))) (me_lst (ml_cons (me_sub1 (me_v 7) (me_v 9)) ml_nil))) (me_sl (me_v 7) (mo_some (me_v 8)) mo_none)) ma_nil)))) mss_nil)
    (mss_cons (ms_if (mt_eq C (me_v 4) me_int) (mss_one (ms_ret (me_join me_str (ma_cons (me_add (me_sl (me_v 7) mo_none (mo_some (me_v 8))) (me_sl (me_v 7) (mo_some (me_add (me_v 8) me_int)) mo_none)) ma_nil)))) mss_nil)
    (mss_cons (ms_set (i := 10) C.nd (me_splitLive (me_sub1 (me_v 7) (me_v 8)) (ma_cons me_str ma_nil)))
    (mss_cons (ms_set (i := 11) C.nd (me_callF C ((c_law_take T).mono (by decide)) (ma_cons (me_v 0) (ma_cons (me_len (ma_cons (me_v 10) ma_nil) T.b_len) ma_nil))))
    (mss_cons (ms_if (mt_eq C (me_v 4) me_int) (mss_one (ms_asg (me_sub1 (me_v 3) (me_callF C ((c_law_take T).mono (by decide)) (ma_cons (me_v 0) (ma_cons (me_len (ma_cons (me_v 3) ma_nil) T.b_len) ma_nil)))) (mg_sub (me_v 10) (me_v 11)))) mss_nil)
    (mss_cons (ms_if (mt_eq C (me_v 4) me_int) (mss_one (ms_set (i := 10) C.nd (me_addLive (me_sl (me_v 10) mo_none (mo_some (me_add (me_v 11) me_int))) (me_sl (me_v 10) (mo_some (me_v 11)) mo_none)))) mss_nil)
    (mss_cons (ms_if (mt_eq C (me_v 4) me_int) (mss_one (ms_set (i := 10) C.nd (me_addLive (me_sl (me_v 10) mo_none (mo_some (me_v 11))) (me_sl (me_v 10) (mo_some (me_add (me_v 11) me_int)) mo_none)))) mss_nil)
    (mss_cons (ms_asg (me_join me_str (ma_cons (me_v 10) ma_nil)) (mg_sub (me_v 7) (me_v 8)))
    (mss_one (ms_ret (me_add (me_join me_str (ma_cons (me_v 7) ma_nil)) (me_mulA me_str (me_int1 (ma_cons (me_eq C (me_v 4) me_int) ma_nil) T.b_int)))))))))))))))))))
theorem sc_law_lines_of : FnScope ["_law_reader_kind", "_law_size", "_law_text", "_law_found", "_law_lines", "_law_k", "_law_thing"] ["_law_reader_kind", "_law_size", "_law_text"] (defScope (topS 55)) := ⟨rfl, rfl, rfl, by decide +kernel, rfl, by decide +kernel, by decide +kernel⟩
theorem c_law_lines_of (T : Txt K w.params mg) : Cal P w K mg base 6 "_law_lines_of" ["_law_reader_kind", "_law_size", "_law_text"] F_law_lines_of := cal_of T.f_law_lines_of sc_law_lines_of fun f cdv A outer s H E C =>
    (mss_cons (ms_set (i := 3) C.nd (me_live ml_nil))
    (mss_cons (ms_set (i := 4) C.nd (me_split (me_v 2) (ma_cons me_str ma_nil)))
    (mss_cons (ms_for C (mi_range1 (ma_cons (me_mulA (me_len (ma_cons (me_v 4) ma_nil) T.b_len) (me_int1 (ma_cons (me_ne C (me_v 2) me_str) ma_nil) T.b_int)) ma_nil) T.b_range) (mg_name 5 C.nd) (mss_cons (ms_if (mt_eq C (me_v 0) me_str) (mss_one (ms_set (i := 6) C.nd (me_callF C ((c_law_rule_of T).mono (by decide)) (ma_cons (me_v 1) (ma_cons (me_sub1 (me_v 4) (me_v 5)) ma_nil))))) (mss_one (ms_set (i := 6) C.nd (me_callF C ((c_law_pair_of T).mono (by decide)) (ma_cons (me_v 1) (ma_cons (me_sub1 (me_v 4) (me_v 5)) ma_nil))))))
    (mss_cons (ms_if (mt_isN (me_v 6)) (mss_one (ms_ret (me_add (me_v 5) me_int))) mss_nil)
    (mss_one (ms_expr (me_append (me_v 3) (ma_cons (me_v 6) ma_nil)))))))
    (mss_one (ms_ret (me_v 3))))))
theorem sc_law_pair : FnScope ["_law_pile_here", "_law_size", "_law_left", "_law_right"] ["_law_pile_here", "_law_size"] (defScope (topS 56)) := ⟨rfl, rfl, rfl, by decide +kernel, rfl, by decide +kernel, by decide +kernel⟩
theorem c_law_pair (T : Txt K w.params mg) : Cal P w K mg base 3 "_law_pair" ["_law_pile_here", "_law_size"] F_law_pair := cal_of T.f_law_pair sc_law_pair fun f cdv A outer s H E C =>
    (mss_cons (ms_set (i := 2) C.nd (me_callF C ((c_law_some T).mono (by decide)) (ma_cons (me_v 0) (ma_cons (me_v 1) (ma_cons me_int ma_nil)))))
    (mss_cons (ms_set (i := 3) C.nd (me_callF C ((c_law_some T).mono (by decide)) (ma_cons (me_v 0) (ma_cons (me_v 1) (ma_cons me_int ma_nil)))))
    (mss_cons (ms_if (mt_eq C (me_callF C ((c_law_take T).mono (by decide)) (ma_cons (me_v 0) (ma_cons me_int ma_nil))) me_int) (mss_one (ms_ret (me_tup (ml_cons (me_v 2) (ml_cons me_non ml_nil))))) mss_nil)
    (mss_one (ms_ret (me_tup (ml_cons (me_v 2) (ml_cons (me_v 3) ml_nil))))))))
theorem sc_law_answer : FnScope ["_law_which", "_law_size", "_law_text", "_law_caught", "_law_found", "e"] ["_law_which", "_law_size", "_law_text"] (defScope (topS 57)) := ⟨rfl, rfl, rfl, by decide +kernel, rfl, by decide +kernel, by decide +kernel⟩
theorem c_law_answer (T : Txt K w.params mg) : Cal P w K mg base 8 "_law_answer" ["_law_which", "_law_size", "_law_text"] F_law_answer := cal_of T.f_law_answer sc_law_answer fun f cdv A outer s H E C =>
    (mss_cons (ms_set (i := 3) C.nd me_non)
    (mss_cons (ms_set (i := 4) C.nd me_non)
    (mss_cons (mx_try C T.x 5 (fun W1 pn1 xe1 C1 => (mss_one (ms_if (mt_eq C1 (me_v 0) me_int) (mss_one (ms_set (i := 4) C1.nd (me_callW C1 ((c_read_pairs T).mono (by decide)) (ma_cons (me_v 1) (ma_cons (me_v 2) ma_nil))))) (mss_one (ms_set (i := 4) C1.nd (me_callF C1 ((c_read_pair T).mono (by decide)) (ma_cons (me_v 1) (ma_cons (me_v 2) ma_nil)))))))) (fun a1 pn1 => (mss_one (ms_set (i := 3) C.nd (me_v 5)))))
    (mss_cons (ms_if (mt_isNX (me_v 3)) (mss_one (ms_ret (me_v 4))) mss_nil)
    (mss_cons (ms_if (mt_w (mw_or (mt_ne C (me_callF C ((c_law_error T).mono (by decide)) (ma_cons (me_v 3) ma_nil)) me_str) (mw_or1 (mt_not (mt_val (me_callF C ((c_law_whole T).mono (by decide)) (ma_cons (me_xline T.xl (me_v 3)) ma_nil))))))) (mss_one (ms_ret me_str)) mss_nil)
    (mss_one (ms_ret (me_xline T.xl (me_v 3)))))))))
theorem sc_law_both : FnScope ["_law_size", "_law_text", "_law_one", "_law_told"] ["_law_size", "_law_text"] (defScope (topS 58)) := ⟨rfl, rfl, rfl, by decide +kernel, rfl, by decide +kernel, by decide +kernel⟩
theorem c_law_both (T : Txt K w.params mg) : Cal P w K mg base 9 "_law_both" ["_law_size", "_law_text"] F_law_both := cal_of T.f_law_both sc_law_both fun f cdv A outer s H E C =>
    (mss_cons (ms_set (i := 2) C.nd (me_callF C ((c_law_pair_of T).mono (by decide)) (ma_cons (me_v 0) (ma_cons (me_v 1) ma_nil))))
    (mss_cons (ms_if (mt_isN (me_v 2)) (mss_one (ms_set (i := 2) C.nd me_int)) mss_nil)
    (mss_cons (ms_set (i := 3) C.nd (me_lst (ml_cons (me_callF C ((c_law_answer T).mono (by decide)) (ma_cons me_int (ma_cons (me_v 0) (ma_cons (me_v 1) ma_nil)))) (ml_cons (me_callF C ((c_law_answer T).mono (by decide)) (ma_cons me_int (ma_cons (me_v 0) (ma_cons (me_v 1) ma_nil)))) ml_nil))))
    (mss_one (ms_ret (me_eq C (me_repr1 C (ma_cons (me_v 3) ma_nil) T.b_repr) (me_repr1 C (ma_cons (me_lst (ml_cons (me_callF C ((c_law_lines_of T).mono (by decide)) (ma_cons me_str (ma_cons (me_v 0) (ma_cons (me_v 1) ma_nil)))) (ml_cons (me_v 2) ml_nil))) ma_nil) T.b_repr)))))))
theorem sc_law_good : FnScope ["_law_size", "_law_pairs", "_law_kept", "_law_texts", "_law_turn", "_law_told", "_law_pair_here", "_law_text"] ["_law_size", "_law_pairs"] (defScope (topS 59)) := ⟨rfl, rfl, rfl, by decide +kernel, rfl, by decide +kernel, by decide +kernel⟩
theorem c_law_good (T : Txt K w.params mg) : Cal P w K mg base 8 "_law_good" ["_law_size", "_law_pairs"] F_law_good := cal_of T.f_law_good sc_law_good fun f cdv A outer s H E C =>
    (mss_cons (ms_set (i := 2) C.nd (me_repr1 C (ma_cons (me_v 1) ma_nil) T.b_repr))
    (mss_cons (ms_setLc C (mi_seq (me_v 1)) (blkOk_by (own := [("_law_pair_here", 6)]) (by rfl)) (fun s1 H1 A1 cl1 fp1 C1 => (mg_name 6 C1.nd)) (fun s1 H1 A1 cl1 fp1 C1 => mts_nil) (fun s1 H1 A1 cl1 fp1 C1 => (me_callF C1 ((c_law_pair_text T).mono (by decide)) (ma_cons (me_v 6) ma_nil))))
    (mss_cons (ms_if (mt_w (mw_or (mt_ne C (me_callF C ((c_pairs_text T).mono (by decide)) (ma_cons (me_v 1) ma_nil)) (me_join me_str (ma_cons (me_v 3) ma_nil))) (mw_or (mt_ne C (me_lc C (mi_seq (me_v 1)) (blkOk_by (own := [("_law_pair_here", 6)]) (by rfl)) (fun s1 H1 A1 cl1 fp1 C1 => (mg_name 6 C1.nd)) (fun s1 H1 A1 cl1 fp1 C1 => mts_nil) (fun s1 H1 A1 cl1 fp1 C1 => (me_callF C1 ((c_pair_text T).mono (by decide)) (ma_cons (me_v 6) ma_nil)))) (me_v 3)) (mw_or1 (mt_ne C (me_repr1 C (ma_cons (me_v 1) ma_nil) T.b_repr) (me_v 2)))))) (mss_one (ms_ret me_bl)) mss_nil)
    (mss_cons (ms_for C (mi_range1 (ma_cons me_int ma_nil) T.b_range) (mg_name 4 C.nd) (mss_cons (ms_set (i := 5) C.nd (me_callW C ((c_read_pairs T).mono (by decide)) (ma_cons (me_v 0) (ma_cons (me_join me_str (ma_cons (me_v 3) ma_nil)) ma_nil))))
    (mss_cons (ms_if (mt_w (mw_or (mt_not (mt_val (me_isi .list (me_v 5) T.b_isinstance T.b_list))) (mw_or1 (mt_ne C (me_repr1 C (ma_cons (me_v 5) ma_nil) T.b_repr) (me_v 2))))) (mss_one (ms_ret me_bl)) mss_nil)
    (mss_one (ms_expr (me_append (me_v 5) (ma_cons me_non ma_nil)))))))
    (mss_one (ms_ret (me_eq C (me_lc C (mi_seq (me_v 3)) (blkOk_by (own := [("_law_text", 7)]) (by rfl)) (fun s1 H1 A1 cl1 fp1 C1 => (mg_name 7 C1.nd)) (fun s1 H1 A1 cl1 fp1 C1 => mts_nil) (fun s1 H1 A1 cl1 fp1 C1 => (me_callF C1 ((c_read_pair T).mono (by decide)) (ma_cons (me_v 0) (ma_cons (me_v 7) ma_nil))))) (me_v 1))))))))
theorem sc_law : FnScope ["_law_script", "_law_words", "_law_k", "_law_pile_here", "_law_size", "_law_pairs", "_law_text", "_law_turn", "_law_bent", "_law_odd", "_law_j", "_law_pair_here"] ["_law_script"] (defScope (topS 60)) := ⟨rfl, rfl, rfl, by decide +kernel, rfl, by decide +kernel, by decide +kernel⟩
theorem c_law (T : Txt K w.params mg) : Cal P w K mg base 10 "law" ["_law_script"] F_law := cal_of T.f_law sc_law fun f cdv A outer s H E C =>
    (mss_cons (ms_set (i := 1) C.nd (me_lst (ml_cons me_str (ml_cons me_str (ml_cons me_str (ml_cons me_str (ml_cons me_str (ml_cons me_str (ml_cons me_str (ml_cons me_str (ml_cons me_str (ml_cons me_str (ml_cons me_str (ml_cons me_str (ml_cons me_str ml_nil)))))))))))))))
    (mss_cons (ms_for C (mi_range1 (ma_cons (me_max C (ma_cons me_int (ma_cons (me_min C (ma_cons (me_lenS (ma_cons (me_v 0) ma_nil) T.b_len) (ma_cons me_int ma_nil)) T.b_min) ma_nil)) T.b_max) ma_nil) T.b_range) (mg_name 2 C.nd) (mss_cons (ms_set (i := 3) C.nd (me_callW C ((c_law_pile T).mono (by decide)) (ma_cons (me_v 0) (ma_cons (me_v 2) ma_nil))))
    (mss_cons (ms_set (i := 4) C.nd (me_callF C ((c_law_wide_size T).mono (by decide)) (ma_cons (me_v 3) ma_nil)))
    (mss_cons (ms_setLc C (mi_range1 (ma_cons (me_callF C ((c_law_take T).mono (by decide)) (ma_cons (me_v 3) (ma_cons me_int ma_nil))) ma_nil) T.b_range) (blkOk_by (own := [("_law_j", 10)]) (by rfl)) (fun s1 H1 A1 cl1 fp1 C1 => (mg_name 10 C1.nd)) (fun s1 H1 A1 cl1 fp1 C1 => mts_nil) (fun s1 H1 A1 cl1 fp1 C1 => (me_callF C1 ((c_law_pair T).mono (by decide)) (ma_cons (me_v 3) (ma_cons (me_v 4) ma_nil)))))
    (mss_cons (ms_if (mt_not (mt_val (me_callF C ((c_law_good T).mono (by decide)) (ma_cons (me_v 4) (ma_cons (me_v 5) ma_nil))))) (mss_one (ms_ret me_bl)) mss_nil)
    (mss_cons (ms_set (i := 6) C.nd (me_join me_str (ma_cons (me_lc C (mi_seq (me_v 5)) (blkOk_by (own := [("_law_pair_here", 11)]) (by rfl)) (fun s1 H1 A1 cl1 fp1 C1 => (mg_name 11 C1.nd)) (fun s1 H1 A1 cl1 fp1 C1 => mts_nil) (fun s1 H1 A1 cl1 fp1 C1 => (me_callF C1 ((c_law_pair_text T).mono (by decide)) (ma_cons (me_v 11) ma_nil)))) ma_nil)))
    (mss_one (ms_for C (mi_range1 (ma_cons me_int ma_nil) T.b_range) (mg_name 7 C.nd) (mss_cons (ms_set (i := 8) C.nd (me_callF C ((c_law_bent_text T).mono (by decide)) (ma_cons (me_v 3) (ma_cons (me_v 6) (ma_cons me_str (ma_cons (me_v 1) ma_nil))))))
    (mss_cons (ms_if (mt_gt (me_v 7) me_int) (mss_one (ms_set (i := 8) C.nd (me_callF C ((c_law_bent_text T).mono (by decide)) (ma_cons (me_v 3) (ma_cons (me_v 8) (ma_cons me_str (ma_cons (me_v 1) ma_nil))))))) mss_nil)
    (mss_one (ms_if (mt_not (mt_val (me_callF C ((c_law_both T).mono (by decide)) (ma_cons (me_v 4) (ma_cons (me_v 8) ma_nil))))) (mss_one (ms_ret me_bl)) mss_nil))))))))))))
    (mss_cons (ms_set (i := 9) C.nd (me_live (ml_cons me_str (ml_cons me_str (ml_cons me_str (ml_cons me_str (ml_cons me_str (ml_cons me_str (ml_cons me_str (ml_cons me_str (ml_cons me_str (ml_cons me_str (ml_cons me_str (ml_cons me_str ml_nil))))))))))))))
    (mss_cons (ms_set (i := 9) C.nd (me_addLive (me_v 9) (me_lst (ml_cons me_str (ml_cons me_str (ml_cons me_str (ml_cons me_str (ml_cons me_str (ml_cons me_str (ml_cons me_str (ml_cons me_str ml_nil)))))))))))
    (mss_cons (ms_set (i := 9) C.nd (me_addLive (me_v 9) (me_lst (ml_cons me_str (ml_cons me_str (ml_cons me_str (ml_cons me_str (ml_cons me_str (ml_cons me_str (ml_cons me_str (ml_cons me_str ml_nil)))))))))))
    (mss_cons (ms_set (i := 9) C.nd (me_addLive (me_v 9) (me_lst (ml_cons me_str (ml_cons me_str (ml_cons me_str ml_nil))))))
    (mss_cons (ms_expr (me_append (me_v 9) (ma_cons (me_join me_str (ma_cons (me_mulA (me_lst (ml_cons me_str ml_nil)) me_int) ma_nil)) ma_nil)))
    (mss_cons (ms_expr (me_append (me_v 9) (ma_cons (me_join me_str (ma_cons (me_add (me_mulA (me_lst (ml_cons me_str ml_nil)) me_int) (me_lst (ml_cons me_str ml_nil))) ma_nil)) ma_nil)))
    (mss_one (ms_ret (me_eq C (me_lc C (mi_seqA (me_v 9)) (blkOk_by (own := [("_law_text", 6)]) (by rfl)) (fun s1 H1 A1 cl1 fp1 C1 => (mg_name 6 C1.nd)) (fun s1 H1 A1 cl1 fp1 C1 => (mts_one (mt_not (mt_val (me_callF C1 ((c_law_both T).mono (by decide)) (ma_cons me_int (ma_cons (me_v 6) ma_nil))))))) (fun s1 H1 A1 cl1 fp1 C1 => (me_v 6))) (me_lst ml_nil))))))))))))
end
end K61
namespace K61
open PySem PySem.Spec PyProof.Rows L2 Y
set_option maxHeartbeats 0 in
theorem txt_mk {K : PySem.W.Frag} {Pm : Params} {h : Heap} {mg : Str → Option Value} (X : K.In h) (G : h.Ns mainGlobals mg)
    {p0 : Addr} {od0 an0 : Option Addr} {sl0 : Array (Option Value)} {oc0 kV0 dc0 pm0 cd0 ct0 : Value}
    (a0 : PySem.W.nsIn K mainGlobals "is_whole" = some (some (.ref p0))) (l0 : K.lookup p0 = some ⟨oc0, od0, .func (PySem.W.fnOf "is_whole" "is_whole" (defArgs (topS 19)) (defBody (topS 19)) (defScope (topS 19)) .none kV0 dc0 pm0 an0 cd0 ct0), sl0⟩) (c0 : PySem.W.codeIn K cd0 "is_whole" = true) (k0 : PySem.W.keepIn K (.ref p0) = true)
    {p1 : Addr} {od1 an1 : Option Addr} {sl1 : Array (Option Value)} {oc1 kV1 dc1 pm1 cd1 ct1 : Value}
    (a1 : PySem.W.nsIn K mainGlobals "is_below" = some (some (.ref p1))) (l1 : K.lookup p1 = some ⟨oc1, od1, .func (PySem.W.fnOf "is_below" "is_below" (defArgs (topS 20)) (defBody (topS 20)) (defScope (topS 20)) .none kV1 dc1 pm1 an1 cd1 ct1), sl1⟩) (c1 : PySem.W.codeIn K cd1 "is_below" = true) (k1 : PySem.W.keepIn K (.ref p1) = true)
    {p2 : Addr} {od2 an2 : Option Addr} {sl2 : Array (Option Value)} {oc2 kV2 dc2 pm2 cd2 ct2 : Value}
    (a2 : PySem.W.nsIn K mainGlobals "is_size" = some (some (.ref p2))) (l2 : K.lookup p2 = some ⟨oc2, od2, .func (PySem.W.fnOf "is_size" "is_size" (defArgs (topS 21)) (defBody (topS 21)) (defScope (topS 21)) .none kV2 dc2 pm2 an2 cd2 ct2), sl2⟩) (c2 : PySem.W.codeIn K cd2 "is_size" = true) (k2 : PySem.W.keepIn K (.ref p2) = true)
    {p3 : Addr} {od3 an3 : Option Addr} {sl3 : Array (Option Value)} {oc3 kV3 dc3 pm3 cd3 ct3 : Value}
    (a3 : PySem.W.nsIn K mainGlobals "look_at_size" = some (some (.ref p3))) (l3 : K.lookup p3 = some ⟨oc3, od3, .func (PySem.W.fnOf "look_at_size" "look_at_size" (defArgs (topS 22)) (defBody (topS 22)) (defScope (topS 22)) .none kV3 dc3 pm3 an3 cd3 ct3), sl3⟩) (c3 : PySem.W.codeIn K cd3 "look_at_size" = true) (k3 : PySem.W.keepIn K (.ref p3) = true)
    {p4 : Addr} {od4 an4 : Option Addr} {sl4 : Array (Option Value)} {oc4 kV4 dc4 pm4 cd4 ct4 : Value}
    (a4 : PySem.W.nsIn K mainGlobals "are_options" = some (some (.ref p4))) (l4 : K.lookup p4 = some ⟨oc4, od4, .func (PySem.W.fnOf "are_options" "are_options" (defArgs (topS 24)) (defBody (topS 24)) (defScope (topS 24)) .none kV4 dc4 pm4 an4 cd4 ct4), sl4⟩) (c4 : PySem.W.codeIn K cd4 "are_options" = true) (k4 : PySem.W.keepIn K (.ref p4) = true)
    {p5 : Addr} {od5 an5 : Option Addr} {sl5 : Array (Option Value)} {oc5 kV5 dc5 pm5 cd5 ct5 : Value}
    (a5 : PySem.W.nsIn K mainGlobals "is_right_pair" = some (some (.ref p5))) (l5 : K.lookup p5 = some ⟨oc5, od5, .func (PySem.W.fnOf "is_right_pair" "is_right_pair" (defArgs (topS 26)) (defBody (topS 26)) (defScope (topS 26)) .none kV5 dc5 pm5 an5 cd5 ct5), sl5⟩) (c5 : PySem.W.codeIn K cd5 "is_right_pair" = true) (k5 : PySem.W.keepIn K (.ref p5) = true)
    {p6 : Addr} {od6 an6 : Option Addr} {sl6 : Array (Option Value)} {oc6 kV6 dc6 pm6 cd6 ct6 : Value}
    (a6 : PySem.W.nsIn K mainGlobals "pair_text" = some (some (.ref p6))) (l6 : K.lookup p6 = some ⟨oc6, od6, .func (PySem.W.fnOf "pair_text" "pair_text" (defArgs (topS 29)) (defBody (topS 29)) (defScope (topS 29)) .none kV6 dc6 pm6 an6 cd6 ct6), sl6⟩) (c6 : PySem.W.codeIn K cd6 "pair_text" = true) (k6 : PySem.W.keepIn K (.ref p6) = true)
    {p7 : Addr} {od7 an7 : Option Addr} {sl7 : Array (Option Value)} {oc7 kV7 dc7 pm7 cd7 ct7 : Value}
    (a7 : PySem.W.nsIn K mainGlobals "pairs_text" = some (some (.ref p7))) (l7 : K.lookup p7 = some ⟨oc7, od7, .func (PySem.W.fnOf "pairs_text" "pairs_text" (defArgs (topS 30)) (defBody (topS 30)) (defScope (topS 30)) .none kV7 dc7 pm7 an7 cd7 ct7), sl7⟩) (c7 : PySem.W.codeIn K cd7 "pairs_text" = true) (k7 : PySem.W.keepIn K (.ref p7) = true)
    {p8 : Addr} {od8 an8 : Option Addr} {sl8 : Array (Option Value)} {oc8 kV8 dc8 pm8 cd8 ct8 : Value}
    (a8 : PySem.W.nsIn K mainGlobals "option_read" = some (some (.ref p8))) (l8 : K.lookup p8 = some ⟨oc8, od8, .func (PySem.W.fnOf "option_read" "option_read" (defArgs (topS 31)) (defBody (topS 31)) (defScope (topS 31)) .none kV8 dc8 pm8 an8 cd8 ct8), sl8⟩) (c8 : PySem.W.codeIn K cd8 "option_read" = true) (k8 : PySem.W.keepIn K (.ref p8) = true)
    {p9 : Addr} {od9 an9 : Option Addr} {sl9 : Array (Option Value)} {oc9 kV9 dc9 pm9 cd9 ct9 : Value}
    (a9 : PySem.W.nsIn K mainGlobals "pair_read" = some (some (.ref p9))) (l9 : K.lookup p9 = some ⟨oc9, od9, .func (PySem.W.fnOf "pair_read" "pair_read" (defArgs (topS 32)) (defBody (topS 32)) (defScope (topS 32)) .none kV9 dc9 pm9 an9 cd9 ct9), sl9⟩) (c9 : PySem.W.codeIn K cd9 "pair_read" = true) (k9 : PySem.W.keepIn K (.ref p9) = true)
    {p10 : Addr} {od10 an10 : Option Addr} {sl10 : Array (Option Value)} {oc10 kV10 dc10 pm10 cd10 ct10 : Value}
    (a10 : PySem.W.nsIn K mainGlobals "lines_read" = some (some (.ref p10))) (l10 : K.lookup p10 = some ⟨oc10, od10, .func (PySem.W.fnOf "lines_read" "lines_read" (defArgs (topS 33)) (defBody (topS 33)) (defScope (topS 33)) .none kV10 dc10 pm10 an10 cd10 ct10), sl10⟩) (c10 : PySem.W.codeIn K cd10 "lines_read" = true) (k10 : PySem.W.keepIn K (.ref p10) = true)
    {p11 : Addr} {od11 an11 : Option Addr} {sl11 : Array (Option Value)} {oc11 kV11 dc11 pm11 cd11 ct11 : Value}
    (a11 : PySem.W.nsIn K mainGlobals "one_read" = some (some (.ref p11))) (l11 : K.lookup p11 = some ⟨oc11, od11, .func (PySem.W.fnOf "one_read" "one_read" (defArgs (topS 34)) (defBody (topS 34)) (defScope (topS 34)) .none kV11 dc11 pm11 an11 cd11 ct11), sl11⟩) (c11 : PySem.W.codeIn K cd11 "one_read" = true) (k11 : PySem.W.keepIn K (.ref p11) = true)
    {p12 : Addr} {od12 an12 : Option Addr} {sl12 : Array (Option Value)} {oc12 kV12 dc12 pm12 cd12 ct12 : Value}
    (a12 : PySem.W.nsIn K mainGlobals "read_pair" = some (some (.ref p12))) (l12 : K.lookup p12 = some ⟨oc12, od12, .func (PySem.W.fnOf "read_pair" "read_pair" (defArgs (topS 35)) (defBody (topS 35)) (defScope (topS 35)) .none kV12 dc12 pm12 an12 cd12 ct12), sl12⟩) (c12 : PySem.W.codeIn K cd12 "read_pair" = true) (k12 : PySem.W.keepIn K (.ref p12) = true)
    {p13 : Addr} {od13 an13 : Option Addr} {sl13 : Array (Option Value)} {oc13 kV13 dc13 pm13 cd13 ct13 : Value}
    (a13 : PySem.W.nsIn K mainGlobals "read_pairs" = some (some (.ref p13))) (l13 : K.lookup p13 = some ⟨oc13, od13, .func (PySem.W.fnOf "read_pairs" "read_pairs" (defArgs (topS 36)) (defBody (topS 36)) (defScope (topS 36)) .none kV13 dc13 pm13 an13 cd13 ct13), sl13⟩) (c13 : PySem.W.codeIn K cd13 "read_pairs" = true) (k13 : PySem.W.keepIn K (.ref p13) = true)
    {p14 : Addr} {od14 an14 : Option Addr} {sl14 : Array (Option Value)} {oc14 kV14 dc14 pm14 cd14 ct14 : Value}
    (a14 : PySem.W.nsIn K mainGlobals "_law_mixed" = some (some (.ref p14))) (l14 : K.lookup p14 = some ⟨oc14, od14, .func (PySem.W.fnOf "_law_mixed" "_law_mixed" (defArgs (topS 38)) (defBody (topS 38)) (defScope (topS 38)) .none kV14 dc14 pm14 an14 cd14 ct14), sl14⟩) (c14 : PySem.W.codeIn K cd14 "_law_mixed" = true) (k14 : PySem.W.keepIn K (.ref p14) = true)
    {p15 : Addr} {od15 an15 : Option Addr} {sl15 : Array (Option Value)} {oc15 kV15 dc15 pm15 cd15 ct15 : Value}
    (a15 : PySem.W.nsIn K mainGlobals "_law_pile" = some (some (.ref p15))) (l15 : K.lookup p15 = some ⟨oc15, od15, .func (PySem.W.fnOf "_law_pile" "_law_pile" (defArgs (topS 39)) (defBody (topS 39)) (defScope (topS 39)) .none kV15 dc15 pm15 an15 cd15 ct15), sl15⟩) (c15 : PySem.W.codeIn K cd15 "_law_pile" = true) (k15 : PySem.W.keepIn K (.ref p15) = true)
    {p16 : Addr} {od16 an16 : Option Addr} {sl16 : Array (Option Value)} {oc16 kV16 dc16 pm16 cd16 ct16 : Value}
    (a16 : PySem.W.nsIn K mainGlobals "_law_take" = some (some (.ref p16))) (l16 : K.lookup p16 = some ⟨oc16, od16, .func (PySem.W.fnOf "_law_take" "_law_take" (defArgs (topS 40)) (defBody (topS 40)) (defScope (topS 40)) .none kV16 dc16 pm16 an16 cd16 ct16), sl16⟩) (c16 : PySem.W.codeIn K cd16 "_law_take" = true) (k16 : PySem.W.keepIn K (.ref p16) = true)
    {p17 : Addr} {od17 an17 : Option Addr} {sl17 : Array (Option Value)} {oc17 kV17 dc17 pm17 cd17 ct17 : Value}
    (a17 : PySem.W.nsIn K mainGlobals "_law_wide_size" = some (some (.ref p17))) (l17 : K.lookup p17 = some ⟨oc17, od17, .func (PySem.W.fnOf "_law_wide_size" "_law_wide_size" (defArgs (topS 41)) (defBody (topS 41)) (defScope (topS 41)) .none kV17 dc17 pm17 an17 cd17 ct17), sl17⟩) (c17 : PySem.W.codeIn K cd17 "_law_wide_size" = true) (k17 : PySem.W.keepIn K (.ref p17) = true)
    {p18 : Addr} {od18 an18 : Option Addr} {sl18 : Array (Option Value)} {oc18 kV18 dc18 pm18 cd18 ct18 : Value}
    (a18 : PySem.W.nsIn K mainGlobals "_law_some" = some (some (.ref p18))) (l18 : K.lookup p18 = some ⟨oc18, od18, .func (PySem.W.fnOf "_law_some" "_law_some" (defArgs (topS 42)) (defBody (topS 42)) (defScope (topS 42)) .none kV18 dc18 pm18 an18 cd18 ct18), sl18⟩) (c18 : PySem.W.codeIn K cd18 "_law_some" = true) (k18 : PySem.W.keepIn K (.ref p18) = true)
    {p19 : Addr} {od19 an19 : Option Addr} {sl19 : Array (Option Value)} {oc19 kV19 dc19 pm19 cd19 ct19 : Value}
    (a19 : PySem.W.nsIn K mainGlobals "_law_whole" = some (some (.ref p19))) (l19 : K.lookup p19 = some ⟨oc19, od19, .func (PySem.W.fnOf "_law_whole" "_law_whole" (defArgs (topS 43)) (defBody (topS 43)) (defScope (topS 43)) .none kV19 dc19 pm19 an19 cd19 ct19), sl19⟩) (c19 : PySem.W.codeIn K cd19 "_law_whole" = true) (k19 : PySem.W.keepIn K (.ref p19) = true)
    {p20 : Addr} {od20 an20 : Option Addr} {sl20 : Array (Option Value)} {oc20 kV20 dc20 pm20 cd20 ct20 : Value}
    (a20 : PySem.W.nsIn K mainGlobals "_law_options" = some (some (.ref p20))) (l20 : K.lookup p20 = some ⟨oc20, od20, .func (PySem.W.fnOf "_law_options" "_law_options" (defArgs (topS 44)) (defBody (topS 44)) (defScope (topS 44)) .none kV20 dc20 pm20 an20 cd20 ct20), sl20⟩) (c20 : PySem.W.codeIn K cd20 "_law_options" = true) (k20 : PySem.W.keepIn K (.ref p20) = true)
    {p21 : Addr} {od21 an21 : Option Addr} {sl21 : Array (Option Value)} {oc21 kV21 dc21 pm21 cd21 ct21 : Value}
    (a21 : PySem.W.nsIn K mainGlobals "_law_is_rule" = some (some (.ref p21))) (l21 : K.lookup p21 = some ⟨oc21, od21, .func (PySem.W.fnOf "_law_is_rule" "_law_is_rule" (defArgs (topS 45)) (defBody (topS 45)) (defScope (topS 45)) .none kV21 dc21 pm21 an21 cd21 ct21), sl21⟩) (c21 : PySem.W.codeIn K cd21 "_law_is_rule" = true) (k21 : PySem.W.keepIn K (.ref p21) = true)
    {p22 : Addr} {od22 an22 : Option Addr} {sl22 : Array (Option Value)} {oc22 kV22 dc22 pm22 cd22 ct22 : Value}
    (a22 : PySem.W.nsIn K mainGlobals "_law_flags" = some (some (.ref p22))) (l22 : K.lookup p22 = some ⟨oc22, od22, .func (PySem.W.fnOf "_law_flags" "_law_flags" (defArgs (topS 46)) (defBody (topS 46)) (defScope (topS 46)) .none kV22 dc22 pm22 an22 cd22 ct22), sl22⟩) (c22 : PySem.W.codeIn K cd22 "_law_flags" = true) (k22 : PySem.W.keepIn K (.ref p22) = true)
    {p23 : Addr} {od23 an23 : Option Addr} {sl23 : Array (Option Value)} {oc23 kV23 dc23 pm23 cd23 ct23 : Value}
    (a23 : PySem.W.nsIn K mainGlobals "_law_error" = some (some (.ref p23))) (l23 : K.lookup p23 = some ⟨oc23, od23, .func (PySem.W.fnOf "_law_error" "_law_error" (defArgs (topS 47)) (defBody (topS 47)) (defScope (topS 47)) .none kV23 dc23 pm23 an23 cd23 ct23), sl23⟩) (c23 : PySem.W.codeIn K cd23 "_law_error" = true) (k23 : PySem.W.keepIn K (.ref p23) = true)
    {p24 : Addr} {od24 an24 : Option Addr} {sl24 : Array (Option Value)} {oc24 kV24 dc24 pm24 cd24 ct24 : Value}
    (a24 : PySem.W.nsIn K mainGlobals "_law_pair_text" = some (some (.ref p24))) (l24 : K.lookup p24 = some ⟨oc24, od24, .func (PySem.W.fnOf "_law_pair_text" "_law_pair_text" (defArgs (topS 48)) (defBody (topS 48)) (defScope (topS 48)) .none kV24 dc24 pm24 an24 cd24 ct24), sl24⟩) (c24 : PySem.W.codeIn K cd24 "_law_pair_text" = true) (k24 : PySem.W.keepIn K (.ref p24) = true)
    {p25 : Addr} {od25 an25 : Option Addr} {sl25 : Array (Option Value)} {oc25 kV25 dc25 pm25 cd25 ct25 : Value}
    (a25 : PySem.W.nsIn K mainGlobals "_law_option_of" = some (some (.ref p25))) (l25 : K.lookup p25 = some ⟨oc25, od25, .func (PySem.W.fnOf "_law_option_of" "_law_option_of" (defArgs (topS 49)) (defBody (topS 49)) (defScope (topS 49)) .none kV25 dc25 pm25 an25 cd25 ct25), sl25⟩) (c25 : PySem.W.codeIn K cd25 "_law_option_of" = true) (k25 : PySem.W.keepIn K (.ref p25) = true)
    {p26 : Addr} {od26 an26 : Option Addr} {sl26 : Array (Option Value)} {oc26 kV26 dc26 pm26 cd26 ct26 : Value}
    (a26 : PySem.W.nsIn K mainGlobals "_law_any_of" = some (some (.ref p26))) (l26 : K.lookup p26 = some ⟨oc26, od26, .func (PySem.W.fnOf "_law_any_of" "_law_any_of" (defArgs (topS 50)) (defBody (topS 50)) (defScope (topS 50)) .none kV26 dc26 pm26 an26 cd26 ct26), sl26⟩) (c26 : PySem.W.codeIn K cd26 "_law_any_of" = true) (k26 : PySem.W.keepIn K (.ref p26) = true)
    {p27 : Addr} {od27 an27 : Option Addr} {sl27 : Array (Option Value)} {oc27 kV27 dc27 pm27 cd27 ct27 : Value}
    (a27 : PySem.W.nsIn K mainGlobals "_law_sum_of" = some (some (.ref p27))) (l27 : K.lookup p27 = some ⟨oc27, od27, .func (PySem.W.fnOf "_law_sum_of" "_law_sum_of" (defArgs (topS 51)) (defBody (topS 51)) (defScope (topS 51)) .none kV27 dc27 pm27 an27 cd27 ct27), sl27⟩) (c27 : PySem.W.codeIn K cd27 "_law_sum_of" = true) (k27 : PySem.W.keepIn K (.ref p27) = true)
    {p28 : Addr} {od28 an28 : Option Addr} {sl28 : Array (Option Value)} {oc28 kV28 dc28 pm28 cd28 ct28 : Value}
    (a28 : PySem.W.nsIn K mainGlobals "_law_rule_of" = some (some (.ref p28))) (l28 : K.lookup p28 = some ⟨oc28, od28, .func (PySem.W.fnOf "_law_rule_of" "_law_rule_of" (defArgs (topS 52)) (defBody (topS 52)) (defScope (topS 52)) .none kV28 dc28 pm28 an28 cd28 ct28), sl28⟩) (c28 : PySem.W.codeIn K cd28 "_law_rule_of" = true) (k28 : PySem.W.keepIn K (.ref p28) = true)
    {p29 : Addr} {od29 an29 : Option Addr} {sl29 : Array (Option Value)} {oc29 kV29 dc29 pm29 cd29 ct29 : Value}
    (a29 : PySem.W.nsIn K mainGlobals "_law_pair_of" = some (some (.ref p29))) (l29 : K.lookup p29 = some ⟨oc29, od29, .func (PySem.W.fnOf "_law_pair_of" "_law_pair_of" (defArgs (topS 53)) (defBody (topS 53)) (defScope (topS 53)) .none kV29 dc29 pm29 an29 cd29 ct29), sl29⟩) (c29 : PySem.W.codeIn K cd29 "_law_pair_of" = true) (k29 : PySem.W.keepIn K (.ref p29) = true)
    {p30 : Addr} {od30 an30 : Option Addr} {sl30 : Array (Option Value)} {oc30 kV30 dc30 pm30 cd30 ct30 : Value}
    (a30 : PySem.W.nsIn K mainGlobals "_law_bent_text" = some (some (.ref p30))) (l30 : K.lookup p30 = some ⟨oc30, od30, .func (PySem.W.fnOf "_law_bent_text" "_law_bent_text" (defArgs (topS 54)) (defBody (topS 54)) (defScope (topS 54)) .none kV30 dc30 pm30 an30 cd30 ct30), sl30⟩) (c30 : PySem.W.codeIn K cd30 "_law_bent_text" = true) (k30 : PySem.W.keepIn K (.ref p30) = true)
    {p31 : Addr} {od31 an31 : Option Addr} {sl31 : Array (Option Value)} {oc31 kV31 dc31 pm31 cd31 ct31 : Value}
    (a31 : PySem.W.nsIn K mainGlobals "_law_lines_of" = some (some (.ref p31))) (l31 : K.lookup p31 = some ⟨oc31, od31, .func (PySem.W.fnOf "_law_lines_of" "_law_lines_of" (defArgs (topS 55)) (defBody (topS 55)) (defScope (topS 55)) .none kV31 dc31 pm31 an31 cd31 ct31), sl31⟩) (c31 : PySem.W.codeIn K cd31 "_law_lines_of" = true) (k31 : PySem.W.keepIn K (.ref p31) = true)
    {p32 : Addr} {od32 an32 : Option Addr} {sl32 : Array (Option Value)} {oc32 kV32 dc32 pm32 cd32 ct32 : Value}
    (a32 : PySem.W.nsIn K mainGlobals "_law_pair" = some (some (.ref p32))) (l32 : K.lookup p32 = some ⟨oc32, od32, .func (PySem.W.fnOf "_law_pair" "_law_pair" (defArgs (topS 56)) (defBody (topS 56)) (defScope (topS 56)) .none kV32 dc32 pm32 an32 cd32 ct32), sl32⟩) (c32 : PySem.W.codeIn K cd32 "_law_pair" = true) (k32 : PySem.W.keepIn K (.ref p32) = true)
    {p33 : Addr} {od33 an33 : Option Addr} {sl33 : Array (Option Value)} {oc33 kV33 dc33 pm33 cd33 ct33 : Value}
    (a33 : PySem.W.nsIn K mainGlobals "_law_answer" = some (some (.ref p33))) (l33 : K.lookup p33 = some ⟨oc33, od33, .func (PySem.W.fnOf "_law_answer" "_law_answer" (defArgs (topS 57)) (defBody (topS 57)) (defScope (topS 57)) .none kV33 dc33 pm33 an33 cd33 ct33), sl33⟩) (c33 : PySem.W.codeIn K cd33 "_law_answer" = true) (k33 : PySem.W.keepIn K (.ref p33) = true)
    {p34 : Addr} {od34 an34 : Option Addr} {sl34 : Array (Option Value)} {oc34 kV34 dc34 pm34 cd34 ct34 : Value}
    (a34 : PySem.W.nsIn K mainGlobals "_law_both" = some (some (.ref p34))) (l34 : K.lookup p34 = some ⟨oc34, od34, .func (PySem.W.fnOf "_law_both" "_law_both" (defArgs (topS 58)) (defBody (topS 58)) (defScope (topS 58)) .none kV34 dc34 pm34 an34 cd34 ct34), sl34⟩) (c34 : PySem.W.codeIn K cd34 "_law_both" = true) (k34 : PySem.W.keepIn K (.ref p34) = true)
    {p35 : Addr} {od35 an35 : Option Addr} {sl35 : Array (Option Value)} {oc35 kV35 dc35 pm35 cd35 ct35 : Value}
    (a35 : PySem.W.nsIn K mainGlobals "_law_good" = some (some (.ref p35))) (l35 : K.lookup p35 = some ⟨oc35, od35, .func (PySem.W.fnOf "_law_good" "_law_good" (defArgs (topS 59)) (defBody (topS 59)) (defScope (topS 59)) .none kV35 dc35 pm35 an35 cd35 ct35), sl35⟩) (c35 : PySem.W.codeIn K cd35 "_law_good" = true) (k35 : PySem.W.keepIn K (.ref p35) = true)
    {p36 : Addr} {od36 an36 : Option Addr} {sl36 : Array (Option Value)} {oc36 kV36 dc36 pm36 cd36 ct36 : Value}
    (a36 : PySem.W.nsIn K mainGlobals "law" = some (some (.ref p36))) (l36 : K.lookup p36 = some ⟨oc36, od36, .func (PySem.W.fnOf "law" "law" (defArgs (topS 60)) (defBody (topS 60)) (defScope (topS 60)) .none kV36 dc36 pm36 an36 cd36 ct36), sl36⟩) (c36 : PySem.W.codeIn K cd36 "law" = true) (k36 : PySem.W.keepIn K (.ref p36) = true)
    {C_SettingsError : Addr} {e_SettingsError : ClassData} (xa_SettingsError : PySem.W.nsIn K mainGlobals "SettingsError" = some (some (.ref C_SettingsError))) (xm_SettingsError : PySem.W.clsIn K C_SettingsError = some e_SettingsError) (xr_SettingsError : e_SettingsError.mro = .ref C_SettingsError :: veMro) (xd_SettingsError : e_SettingsError.hasDict = true) (xt_SettingsError : PySem.W.typeIn K (.ref C_SettingsError) = some (.type "type"))
    {C_NoKind : Addr} {e_NoKind : ClassData} (xa_NoKind : PySem.W.nsIn K mainGlobals "NoKind" = some (some (.ref C_NoKind))) (xm_NoKind : PySem.W.clsIn K C_NoKind = some e_NoKind) (xr_NoKind : e_NoKind.mro = .ref C_NoKind :: .ref C_SettingsError :: veMro) (xd_NoKind : e_NoKind.hasDict = true) (xt_NoKind : PySem.W.typeIn K (.ref C_NoKind) = some (.type "type"))
    (xk_NoKind : PySem.W.keepIn K (.ref C_NoKind) = true) (xg_NoKind : PySem.W.findIn K (.ref C_NoKind) "__getattribute__" = some (some (.builtin "BaseException.__getattribute__"))) (xh_NoKind : PySem.W.findIn K (.ref C_NoKind) "__getattr__" = some none) (xc_NoKind : PySem.W.findIn K (.ref C_NoKind) "__class__" = some (some (.builtin "object.__class__")))
    (xq_NoKind : PySem.W.excIn K C_NoKind veMro "ValueError.__new__" = true)
    {C_NoSize : Addr} {e_NoSize : ClassData} (xa_NoSize : PySem.W.nsIn K mainGlobals "NoSize" = some (some (.ref C_NoSize))) (xm_NoSize : PySem.W.clsIn K C_NoSize = some e_NoSize) (xr_NoSize : e_NoSize.mro = .ref C_NoSize :: .ref C_SettingsError :: veMro) (xd_NoSize : e_NoSize.hasDict = true) (xt_NoSize : PySem.W.typeIn K (.ref C_NoSize) = some (.type "type"))
    (xk_NoSize : PySem.W.keepIn K (.ref C_NoSize) = true) (xg_NoSize : PySem.W.findIn K (.ref C_NoSize) "__getattribute__" = some (some (.builtin "BaseException.__getattribute__"))) (xh_NoSize : PySem.W.findIn K (.ref C_NoSize) "__getattr__" = some none) (xc_NoSize : PySem.W.findIn K (.ref C_NoSize) "__class__" = some (some (.builtin "object.__class__")))
    (xq_NoSize : PySem.W.excIn K C_NoSize veMro "ValueError.__new__" = true)
    {C_NoDeed : Addr} {e_NoDeed : ClassData} (xa_NoDeed : PySem.W.nsIn K mainGlobals "NoDeed" = some (some (.ref C_NoDeed))) (xm_NoDeed : PySem.W.clsIn K C_NoDeed = some e_NoDeed) (xr_NoDeed : e_NoDeed.mro = .ref C_NoDeed :: .ref C_SettingsError :: veMro) (xd_NoDeed : e_NoDeed.hasDict = true) (xt_NoDeed : PySem.W.typeIn K (.ref C_NoDeed) = some (.type "type"))
    (xk_NoDeed : PySem.W.keepIn K (.ref C_NoDeed) = true) (xg_NoDeed : PySem.W.findIn K (.ref C_NoDeed) "__getattribute__" = some (some (.builtin "BaseException.__getattribute__"))) (xh_NoDeed : PySem.W.findIn K (.ref C_NoDeed) "__getattr__" = some none) (xc_NoDeed : PySem.W.findIn K (.ref C_NoDeed) "__class__" = some (some (.builtin "object.__class__")))
    (xq_NoDeed : PySem.W.excIn K C_NoDeed veMro "ValueError.__new__" = true)
    {C_NoSettings : Addr} {e_NoSettings : ClassData} (xa_NoSettings : PySem.W.nsIn K mainGlobals "NoSettings" = some (some (.ref C_NoSettings))) (xm_NoSettings : PySem.W.clsIn K C_NoSettings = some e_NoSettings) (xr_NoSettings : e_NoSettings.mro = .ref C_NoSettings :: .ref C_SettingsError :: veMro) (xd_NoSettings : e_NoSettings.hasDict = true) (xt_NoSettings : PySem.W.typeIn K (.ref C_NoSettings) = some (.type "type"))
    (xk_NoSettings : PySem.W.keepIn K (.ref C_NoSettings) = true) (xg_NoSettings : PySem.W.findIn K (.ref C_NoSettings) "__getattribute__" = some (some (.builtin "BaseException.__getattribute__"))) (xh_NoSettings : PySem.W.findIn K (.ref C_NoSettings) "__getattr__" = some none) (xc_NoSettings : PySem.W.findIn K (.ref C_NoSettings) "__class__" = some (some (.builtin "object.__class__")))
    (xq_NoSettings : PySem.W.excIn K C_NoSettings veMro "ValueError.__new__" = true)
    {C_NoSetting : Addr} {e_NoSetting : ClassData} (xa_NoSetting : PySem.W.nsIn K mainGlobals "NoSetting" = some (some (.ref C_NoSetting))) (xm_NoSetting : PySem.W.clsIn K C_NoSetting = some e_NoSetting) (xr_NoSetting : e_NoSetting.mro = .ref C_NoSetting :: .ref C_SettingsError :: veMro) (xd_NoSetting : e_NoSetting.hasDict = true) (xt_NoSetting : PySem.W.typeIn K (.ref C_NoSetting) = some (.type "type"))
    (xk_NoSetting : PySem.W.keepIn K (.ref C_NoSetting) = true) (xg_NoSetting : PySem.W.findIn K (.ref C_NoSetting) "__getattribute__" = some (some (.builtin "BaseException.__getattribute__"))) (xh_NoSetting : PySem.W.findIn K (.ref C_NoSetting) "__getattr__" = some none) (xc_NoSetting : PySem.W.findIn K (.ref C_NoSetting) "__class__" = some (some (.builtin "object.__class__")))
    (xq_NoSetting : PySem.W.excIn K C_NoSetting veMro "ValueError.__new__" = true)
    {C_NoPartial : Addr} {e_NoPartial : ClassData} (xa_NoPartial : PySem.W.nsIn K mainGlobals "NoPartial" = some (some (.ref C_NoPartial))) (xm_NoPartial : PySem.W.clsIn K C_NoPartial = some e_NoPartial) (xr_NoPartial : e_NoPartial.mro = .ref C_NoPartial :: .ref C_SettingsError :: veMro) (xd_NoPartial : e_NoPartial.hasDict = true) (xt_NoPartial : PySem.W.typeIn K (.ref C_NoPartial) = some (.type "type"))
    (xk_NoPartial : PySem.W.keepIn K (.ref C_NoPartial) = true) (xg_NoPartial : PySem.W.findIn K (.ref C_NoPartial) "__getattribute__" = some (some (.builtin "BaseException.__getattribute__"))) (xh_NoPartial : PySem.W.findIn K (.ref C_NoPartial) "__getattr__" = some none) (xc_NoPartial : PySem.W.findIn K (.ref C_NoPartial) "__class__" = some (some (.builtin "object.__class__")))
    (xq_NoPartial : PySem.W.excIn K C_NoPartial veMro "ValueError.__new__" = true)
    {C_NoRule : Addr} {e_NoRule : ClassData} (xa_NoRule : PySem.W.nsIn K mainGlobals "NoRule" = some (some (.ref C_NoRule))) (xm_NoRule : PySem.W.clsIn K C_NoRule = some e_NoRule) (xr_NoRule : e_NoRule.mro = .ref C_NoRule :: .ref C_SettingsError :: veMro) (xd_NoRule : e_NoRule.hasDict = true) (xt_NoRule : PySem.W.typeIn K (.ref C_NoRule) = some (.type "type"))
    (xk_NoRule : PySem.W.keepIn K (.ref C_NoRule) = true) (xg_NoRule : PySem.W.findIn K (.ref C_NoRule) "__getattribute__" = some (some (.builtin "BaseException.__getattribute__"))) (xh_NoRule : PySem.W.findIn K (.ref C_NoRule) "__getattr__" = some none) (xc_NoRule : PySem.W.findIn K (.ref C_NoRule) "__class__" = some (some (.builtin "object.__class__")))
    (xq_NoRule : PySem.W.excIn K C_NoRule veMro "ValueError.__new__" = true)
    {C_NoOptions : Addr} {e_NoOptions : ClassData} (xa_NoOptions : PySem.W.nsIn K mainGlobals "NoOptions" = some (some (.ref C_NoOptions))) (xm_NoOptions : PySem.W.clsIn K C_NoOptions = some e_NoOptions) (xr_NoOptions : e_NoOptions.mro = .ref C_NoOptions :: .ref C_SettingsError :: veMro) (xd_NoOptions : e_NoOptions.hasDict = true) (xt_NoOptions : PySem.W.typeIn K (.ref C_NoOptions) = some (.type "type"))
    (xk_NoOptions : PySem.W.keepIn K (.ref C_NoOptions) = true) (xg_NoOptions : PySem.W.findIn K (.ref C_NoOptions) "__getattribute__" = some (some (.builtin "BaseException.__getattribute__"))) (xh_NoOptions : PySem.W.findIn K (.ref C_NoOptions) "__getattr__" = some none) (xc_NoOptions : PySem.W.findIn K (.ref C_NoOptions) "__class__" = some (some (.builtin "object.__class__")))
    (xq_NoOptions : PySem.W.excIn K C_NoOptions veMro "ValueError.__new__" = true)
    {C_NoPairs : Addr} {e_NoPairs : ClassData} (xa_NoPairs : PySem.W.nsIn K mainGlobals "NoPairs" = some (some (.ref C_NoPairs))) (xm_NoPairs : PySem.W.clsIn K C_NoPairs = some e_NoPairs) (xr_NoPairs : e_NoPairs.mro = .ref C_NoPairs :: .ref C_SettingsError :: veMro) (xd_NoPairs : e_NoPairs.hasDict = true) (xt_NoPairs : PySem.W.typeIn K (.ref C_NoPairs) = some (.type "type"))
    (xk_NoPairs : PySem.W.keepIn K (.ref C_NoPairs) = true) (xg_NoPairs : PySem.W.findIn K (.ref C_NoPairs) "__getattribute__" = some (some (.builtin "BaseException.__getattribute__"))) (xh_NoPairs : PySem.W.findIn K (.ref C_NoPairs) "__getattr__" = some none) (xc_NoPairs : PySem.W.findIn K (.ref C_NoPairs) "__class__" = some (some (.builtin "object.__class__")))
    (xq_NoPairs : PySem.W.excIn K C_NoPairs veMro "ValueError.__new__" = true)
    {C_Fitted : Addr} {e_Fitted : ClassData} (xa_Fitted : PySem.W.nsIn K mainGlobals "Fitted" = some (some (.ref C_Fitted))) (xm_Fitted : PySem.W.clsIn K C_Fitted = some e_Fitted) (xr_Fitted : e_Fitted.mro = .ref C_Fitted :: .ref C_SettingsError :: veMro) (xd_Fitted : e_Fitted.hasDict = true) (xt_Fitted : PySem.W.typeIn K (.ref C_Fitted) = some (.type "type"))
    (xk_Fitted : PySem.W.keepIn K (.ref C_Fitted) = true) (xg_Fitted : PySem.W.findIn K (.ref C_Fitted) "__getattribute__" = some (some (.builtin "BaseException.__getattribute__"))) (xh_Fitted : PySem.W.findIn K (.ref C_Fitted) "__getattr__" = some none) (xc_Fitted : PySem.W.findIn K (.ref C_Fitted) "__class__" = some (some (.builtin "object.__class__")))
    (xq_Fitted : PySem.W.excIn K C_Fitted veMro "ValueError.__new__" = true)
    {C_Unfit : Addr} {e_Unfit : ClassData} (xa_Unfit : PySem.W.nsIn K mainGlobals "Unfit" = some (some (.ref C_Unfit))) (xm_Unfit : PySem.W.clsIn K C_Unfit = some e_Unfit) (xr_Unfit : e_Unfit.mro = .ref C_Unfit :: .ref C_SettingsError :: veMro) (xd_Unfit : e_Unfit.hasDict = true) (xt_Unfit : PySem.W.typeIn K (.ref C_Unfit) = some (.type "type"))
    (xk_Unfit : PySem.W.keepIn K (.ref C_Unfit) = true) (xg_Unfit : PySem.W.findIn K (.ref C_Unfit) "__getattribute__" = some (some (.builtin "BaseException.__getattribute__"))) (xh_Unfit : PySem.W.findIn K (.ref C_Unfit) "__getattr__" = some none) (xc_Unfit : PySem.W.findIn K (.ref C_Unfit) "__class__" = some (some (.builtin "object.__class__")))
    (xq_Unfit : PySem.W.excIn K C_Unfit veMro "ValueError.__new__" = true)
    {C_NoBook : Addr} {e_NoBook : ClassData} (xa_NoBook : PySem.W.nsIn K mainGlobals "NoBook" = some (some (.ref C_NoBook))) (xm_NoBook : PySem.W.clsIn K C_NoBook = some e_NoBook) (xr_NoBook : e_NoBook.mro = .ref C_NoBook :: .ref C_SettingsError :: veMro) (xd_NoBook : e_NoBook.hasDict = true) (xt_NoBook : PySem.W.typeIn K (.ref C_NoBook) = some (.type "type"))
    (xk_NoBook : PySem.W.keepIn K (.ref C_NoBook) = true) (xg_NoBook : PySem.W.findIn K (.ref C_NoBook) "__getattribute__" = some (some (.builtin "BaseException.__getattribute__"))) (xh_NoBook : PySem.W.findIn K (.ref C_NoBook) "__getattr__" = some none) (xc_NoBook : PySem.W.findIn K (.ref C_NoBook) "__class__" = some (some (.builtin "object.__class__")))
    (xq_NoBook : PySem.W.excIn K C_NoBook veMro "ValueError.__new__" = true)
    {C_NoNumber : Addr} {e_NoNumber : ClassData} (xa_NoNumber : PySem.W.nsIn K mainGlobals "NoNumber" = some (some (.ref C_NoNumber))) (xm_NoNumber : PySem.W.clsIn K C_NoNumber = some e_NoNumber) (xr_NoNumber : e_NoNumber.mro = .ref C_NoNumber :: .ref C_SettingsError :: veMro) (xd_NoNumber : e_NoNumber.hasDict = true) (xt_NoNumber : PySem.W.typeIn K (.ref C_NoNumber) = some (.type "type"))
    (xk_NoNumber : PySem.W.keepIn K (.ref C_NoNumber) = true) (xg_NoNumber : PySem.W.findIn K (.ref C_NoNumber) "__getattribute__" = some (some (.builtin "BaseException.__getattribute__"))) (xh_NoNumber : PySem.W.findIn K (.ref C_NoNumber) "__getattr__" = some none) (xc_NoNumber : PySem.W.findIn K (.ref C_NoNumber) "__class__" = some (some (.builtin "object.__class__")))
    (xq_NoNumber : PySem.W.excIn K C_NoNumber veMro "ValueError.__new__" = true)
    {C_Unlike : Addr} {e_Unlike : ClassData} (xa_Unlike : PySem.W.nsIn K mainGlobals "Unlike" = some (some (.ref C_Unlike))) (xm_Unlike : PySem.W.clsIn K C_Unlike = some e_Unlike) (xr_Unlike : e_Unlike.mro = .ref C_Unlike :: .ref C_SettingsError :: veMro) (xd_Unlike : e_Unlike.hasDict = true) (xt_Unlike : PySem.W.typeIn K (.ref C_Unlike) = some (.type "type"))
    (xk_Unlike : PySem.W.keepIn K (.ref C_Unlike) = true) (xg_Unlike : PySem.W.findIn K (.ref C_Unlike) "__getattribute__" = some (some (.builtin "BaseException.__getattribute__"))) (xh_Unlike : PySem.W.findIn K (.ref C_Unlike) "__getattr__" = some none) (xc_Unlike : PySem.W.findIn K (.ref C_Unlike) "__class__" = some (some (.builtin "object.__class__")))
    (xq_Unlike : PySem.W.excIn K C_Unlike veMro "ValueError.__new__" = true)
    {C_NoText : Addr} {e_NoText : ClassData} (xa_NoText : PySem.W.nsIn K mainGlobals "NoText" = some (some (.ref C_NoText))) (xm_NoText : PySem.W.clsIn K C_NoText = some e_NoText) (xr_NoText : e_NoText.mro = .ref C_NoText :: .ref C_SettingsError :: veMro) (xd_NoText : e_NoText.hasDict = true) (xt_NoText : PySem.W.typeIn K (.ref C_NoText) = some (.type "type"))
    (xk_NoText : PySem.W.keepIn K (.ref C_NoText) = true) (xg_NoText : PySem.W.findIn K (.ref C_NoText) "__getattribute__" = some (some (.builtin "BaseException.__getattribute__"))) (xh_NoText : PySem.W.findIn K (.ref C_NoText) "__getattr__" = some none) (xc_NoText : PySem.W.findIn K (.ref C_NoText) "__class__" = some (some (.builtin "object.__class__")))
    (xg1 : PySem.W.specialIn K (.builtin "object.__class__") "__get__" = some (some (.builtin "getset_descriptor.__get__"))) (xt1 : PySem.W.takesIn K (.builtin "object.__class__") = some true)
    (xnd : ([C_NoKind, C_NoSize, C_NoDeed, C_NoSettings, C_NoSetting, C_NoPartial, C_NoRule, C_NoOptions, C_NoPairs, C_Fitted, C_Unfit, C_NoBook, C_NoNumber, C_Unlike, C_NoText] : List Addr).Nodup) (xns : C_SettingsError ∉ ([C_NoKind, C_NoSize, C_NoDeed, C_NoSettings, C_NoSetting, C_NoPartial, C_NoRule, C_NoOptions, C_NoPairs, C_Fitted, C_Unfit, C_NoBook, C_NoNumber, C_Unlike, C_NoText] : List Addr))
    (z_ValueError : PySem.W.nsIn K mainGlobals "ValueError" = some none)
    (z_all : PySem.W.nsIn K mainGlobals "all" = some none)
    (z_bool : PySem.W.nsIn K mainGlobals "bool" = some none)
    (z_enumerate : PySem.W.nsIn K mainGlobals "enumerate" = some none)
    (z_int : PySem.W.nsIn K mainGlobals "int" = some none)
    (z_isinstance : PySem.W.nsIn K mainGlobals "isinstance" = some none)
    (z_len : PySem.W.nsIn K mainGlobals "len" = some none)
    (z_list : PySem.W.nsIn K mainGlobals "list" = some none)
    (z_max : PySem.W.nsIn K mainGlobals "max" = some none)
    (z_min : PySem.W.nsIn K mainGlobals "min" = some none)
    (z_range : PySem.W.nsIn K mainGlobals "range" = some none)
    (z_repr : PySem.W.nsIn K mainGlobals "repr" = some none)
    (z_str : PySem.W.nsIn K mainGlobals "str" = some none)
    (z_tuple : PySem.W.nsIn K mainGlobals "tuple" = some none)
    {t_FIGURES : Tok} (g_FIGURES : PySem.W.nsIn K mainGlobals "FIGURES" = some (some (.str "0123456789" t_FIGURES)))
    {t_MOST_OPTIONS : Tok} (g_MOST_OPTIONS : PySem.W.nsIn K mainGlobals "MOST_OPTIONS" = some (some (.int 30 t_MOST_OPTIONS)))
    {fI : Addr} {odI anI : Option Addr} {slI : Array (Option Value)} {ocI kVI dcI pmI cdI ctI : Value} (nI : PySem.W.findIn K (.ref C_NoText) "__init__" = some (some (.ref fI))) (nT : PySem.W.typeIn K (.ref fI) = some (.type "function"))
    (nL : K.lookup fI = some ⟨ocI, odI, .func (PySem.W.fnOf "__init__" "NoText.__init__" (defArgs (inClass (topS 16) 0)) (defBody (inClass (topS 16) 0)) (defScope (inClass (topS 16) 0)) .none kVI dcI pmI anI cdI ctI), slI⟩) (nC : PySem.W.codeIn K cdI "NoText.__init__" = true) (nK : PySem.W.keepIn K (.ref fI) = true)
    (nN : PySem.W.findIn K (.ref C_NoText) "line" = some none) (nS : PySem.W.findIn K (.ref C_NoText) "__setattr__" = some (some (.builtin "object.__setattr__")))
    {nmN qN : Str} {NN : Addr} {bsN bmN : List Value} {snN : List Str} {subN : List Value} {abN : Bool} {colN : Option Bool} {ddN : Option Addr} {k0N k1N k2N k3N k5N : Option Value} (nO : K.lookup C_NoText = some (excClassObj nmN qN C_NoText NN bsN bmN true snN subN abN colN ddN k0N k1N k2N k3N k5N "ValueError.__new__")) (nV : PySem.HandSPX.refsVE bmN = true)
    (nH : PySem.W.hasDictIn K C_NoText = true) : Txt K Pm mg := by
  constructor
  · exact ⟨_, _, fun_mk (st := topS 19) l0 c0 k0, PySem.W.mg_of X G a0, (fun_mk (st := topS 19) l0 c0 k0).binds (ps := ["thing"]) fun _ _ _ _ _ _ us hl => match us, hl with | [_], _ => rfl⟩
  · exact ⟨_, _, fun_mk (st := topS 20) l1 c1 k1, PySem.W.mg_of X G a1, (fun_mk (st := topS 20) l1 c1 k1).binds (ps := ["thing", "many"]) fun _ _ _ _ _ _ us hl => match us, hl with | [_, _], _ => rfl⟩
  · exact ⟨_, _, fun_mk (st := topS 21) l2 c2 k2, PySem.W.mg_of X G a2, (fun_mk (st := topS 21) l2 c2 k2).binds (ps := ["thing"]) fun _ _ _ _ _ _ us hl => match us, hl with | [_], _ => rfl⟩
  · exact ⟨_, _, fun_mk (st := topS 22) l3 c3 k3, PySem.W.mg_of X G a3, (fun_mk (st := topS 22) l3 c3 k3).binds (ps := ["size"]) fun _ _ _ _ _ _ us hl => match us, hl with | [_], _ => rfl⟩
  · exact ⟨_, _, fun_mk (st := topS 24) l4 c4 k4, PySem.W.mg_of X G a4, (fun_mk (st := topS 24) l4 c4 k4).binds (ps := ["size", "thing"]) fun _ _ _ _ _ _ us hl => match us, hl with | [_, _], _ => rfl⟩
  · exact ⟨_, _, fun_mk (st := topS 26) l5 c5 k5, PySem.W.mg_of X G a5, (fun_mk (st := topS 26) l5 c5 k5).binds (ps := ["size", "thing"]) fun _ _ _ _ _ _ us hl => match us, hl with | [_, _], _ => rfl⟩
  · exact ⟨_, _, fun_mk (st := topS 29) l6 c6 k6, PySem.W.mg_of X G a6, (fun_mk (st := topS 29) l6 c6 k6).binds (ps := ["pair"]) fun _ _ _ _ _ _ us hl => match us, hl with | [_], _ => rfl⟩
  · exact ⟨_, _, fun_mk (st := topS 30) l7 c7 k7, PySem.W.mg_of X G a7, (fun_mk (st := topS 30) l7 c7 k7).binds (ps := ["pairs"]) fun _ _ _ _ _ _ us hl => match us, hl with | [_], _ => rfl⟩
  · exact ⟨_, _, fun_mk (st := topS 31) l8 c8 k8, PySem.W.mg_of X G a8, (fun_mk (st := topS 31) l8 c8 k8).binds (ps := ["word"]) fun _ _ _ _ _ _ us hl => match us, hl with | [_], _ => rfl⟩
  · exact ⟨_, _, fun_mk (st := topS 32) l9 c9 k9, PySem.W.mg_of X G a9, (fun_mk (st := topS 32) l9 c9 k9).binds (ps := ["size", "text"]) fun _ _ _ _ _ _ us hl => match us, hl with | [_, _], _ => rfl⟩
  · exact ⟨_, _, fun_mk (st := topS 33) l10 c10 k10, PySem.W.mg_of X G a10, (fun_mk (st := topS 33) l10 c10 k10).binds (ps := ["reader", "size", "text"]) fun _ _ _ _ _ _ us hl => match us, hl with | [_, _, _], _ => rfl⟩
  · exact ⟨_, _, fun_mk (st := topS 34) l11 c11 k11, PySem.W.mg_of X G a11, (fun_mk (st := topS 34) l11 c11 k11).binds (ps := ["reader", "size", "text"]) fun _ _ _ _ _ _ us hl => match us, hl with | [_, _, _], _ => rfl⟩
  · exact ⟨_, _, fun_mk (st := topS 35) l12 c12 k12, PySem.W.mg_of X G a12, (fun_mk (st := topS 35) l12 c12 k12).binds (ps := ["size", "text"]) fun _ _ _ _ _ _ us hl => match us, hl with | [_, _], _ => rfl⟩
  · exact ⟨_, _, fun_mk (st := topS 36) l13 c13 k13, PySem.W.mg_of X G a13, (fun_mk (st := topS 36) l13 c13 k13).binds (ps := ["size", "text"]) fun _ _ _ _ _ _ us hl => match us, hl with | [_, _], _ => rfl⟩
  · exact ⟨_, _, fun_mk (st := topS 38) l14 c14 k14, PySem.W.mg_of X G a14, (fun_mk (st := topS 38) l14 c14 k14).binds (ps := ["_law_cell", "_law_k"]) fun _ _ _ _ _ _ us hl => match us, hl with | [_, _], _ => rfl⟩
  · exact ⟨_, _, fun_mk (st := topS 39) l15 c15 k15, PySem.W.mg_of X G a15, (fun_mk (st := topS 39) l15 c15 k15).binds (ps := ["_law_script", "_law_k"]) fun _ _ _ _ _ _ us hl => match us, hl with | [_, _], _ => rfl⟩
  · exact ⟨_, _, fun_mk (st := topS 40) l16 c16 k16, PySem.W.mg_of X G a16, (fun_mk (st := topS 40) l16 c16 k16).binds (ps := ["_law_pile_here", "_law_size"]) fun _ _ _ _ _ _ us hl => match us, hl with | [_, _], _ => rfl⟩
  · exact ⟨_, _, fun_mk (st := topS 41) l17 c17 k17, PySem.W.mg_of X G a17, (fun_mk (st := topS 41) l17 c17 k17).binds (ps := ["_law_pile_here"]) fun _ _ _ _ _ _ us hl => match us, hl with | [_], _ => rfl⟩
  · exact ⟨_, _, fun_mk (st := topS 42) l18 c18 k18, PySem.W.mg_of X G a18, (fun_mk (st := topS 42) l18 c18 k18).binds (ps := ["_law_pile_here", "_law_size", "_law_most"]) fun _ _ _ _ _ _ us hl => match us, hl with | [_, _, _], _ => rfl⟩
  · exact ⟨_, _, fun_mk (st := topS 43) l19 c19 k19, PySem.W.mg_of X G a19, (fun_mk (st := topS 43) l19 c19 k19).binds (ps := ["_law_thing"]) fun _ _ _ _ _ _ us hl => match us, hl with | [_], _ => rfl⟩
  · exact ⟨_, _, fun_mk (st := topS 44) l20 c20 k20, PySem.W.mg_of X G a20, (fun_mk (st := topS 44) l20 c20 k20).binds (ps := ["_law_size", "_law_thing"]) fun _ _ _ _ _ _ us hl => match us, hl with | [_, _], _ => rfl⟩
  · exact ⟨_, _, fun_mk (st := topS 45) l21 c21 k21, PySem.W.mg_of X G a21, (fun_mk (st := topS 45) l21 c21 k21).binds (ps := ["_law_size", "_law_thing"]) fun _ _ _ _ _ _ us hl => match us, hl with | [_, _], _ => rfl⟩
  · exact ⟨_, _, fun_mk (st := topS 46) l22 c22 k22, PySem.W.mg_of X G a22, (fun_mk (st := topS 46) l22 c22 k22).binds (ps := ["_law_caught"]) fun _ _ _ _ _ _ us hl => match us, hl with | [_], _ => rfl⟩
  · exact ⟨_, _, fun_mk (st := topS 47) l23 c23 k23, PySem.W.mg_of X G a23, (fun_mk (st := topS 47) l23 c23 k23).binds (ps := ["_law_caught"]) fun _ _ _ _ _ _ us hl => match us, hl with | [_], _ => rfl⟩
  · exact ⟨_, _, fun_mk (st := topS 48) l24 c24 k24, PySem.W.mg_of X G a24, (fun_mk (st := topS 48) l24 c24 k24).binds (ps := ["_law_pair_here"]) fun _ _ _ _ _ _ us hl => match us, hl with | [_], _ => rfl⟩
  · exact ⟨_, _, fun_mk (st := topS 49) l25 c25 k25, PySem.W.mg_of X G a25, (fun_mk (st := topS 49) l25 c25 k25).binds (ps := ["_law_size", "_law_word"]) fun _ _ _ _ _ _ us hl => match us, hl with | [_, _], _ => rfl⟩
  · exact ⟨_, _, fun_mk (st := topS 50) l26 c26 k26, PySem.W.mg_of X G a26, (fun_mk (st := topS 50) l26 c26 k26).binds (ps := ["_law_size", "_law_text"]) fun _ _ _ _ _ _ us hl => match us, hl with | [_, _], _ => rfl⟩
  · exact ⟨_, _, fun_mk (st := topS 51) l27 c27 k27, PySem.W.mg_of X G a27, (fun_mk (st := topS 51) l27 c27 k27).binds (ps := ["_law_size", "_law_text"]) fun _ _ _ _ _ _ us hl => match us, hl with | [_, _], _ => rfl⟩
  · exact ⟨_, _, fun_mk (st := topS 52) l28 c28 k28, PySem.W.mg_of X G a28, (fun_mk (st := topS 52) l28 c28 k28).binds (ps := ["_law_size", "_law_text"]) fun _ _ _ _ _ _ us hl => match us, hl with | [_, _], _ => rfl⟩
  · exact ⟨_, _, fun_mk (st := topS 53) l29 c29 k29, PySem.W.mg_of X G a29, (fun_mk (st := topS 53) l29 c29 k29).binds (ps := ["_law_size", "_law_text"]) fun _ _ _ _ _ _ us hl => match us, hl with | [_, _], _ => rfl⟩
  · exact ⟨_, _, fun_mk (st := topS 54) l30 c30 k30, PySem.W.mg_of X G a30, (fun_mk (st := topS 54) l30 c30 k30).binds (ps := ["_law_pile_here", "_law_text", "_law_signs", "_law_words"]) fun _ _ _ _ _ _ us hl => match us, hl with | [_, _, _, _], _ => rfl⟩
  · exact ⟨_, _, fun_mk (st := topS 55) l31 c31 k31, PySem.W.mg_of X G a31, (fun_mk (st := topS 55) l31 c31 k31).binds (ps := ["_law_reader_kind", "_law_size", "_law_text"]) fun _ _ _ _ _ _ us hl => match us, hl with | [_, _, _], _ => rfl⟩
  · exact ⟨_, _, fun_mk (st := topS 56) l32 c32 k32, PySem.W.mg_of X G a32, (fun_mk (st := topS 56) l32 c32 k32).binds (ps := ["_law_pile_here", "_law_size"]) fun _ _ _ _ _ _ us hl => match us, hl with | [_, _], _ => rfl⟩
  · exact ⟨_, _, fun_mk (st := topS 57) l33 c33 k33, PySem.W.mg_of X G a33, (fun_mk (st := topS 57) l33 c33 k33).binds (ps := ["_law_which", "_law_size", "_law_text"]) fun _ _ _ _ _ _ us hl => match us, hl with | [_, _, _], _ => rfl⟩
  · exact ⟨_, _, fun_mk (st := topS 58) l34 c34 k34, PySem.W.mg_of X G a34, (fun_mk (st := topS 58) l34 c34 k34).binds (ps := ["_law_size", "_law_text"]) fun _ _ _ _ _ _ us hl => match us, hl with | [_, _], _ => rfl⟩
  · exact ⟨_, _, fun_mk (st := topS 59) l35 c35 k35, PySem.W.mg_of X G a35, (fun_mk (st := topS 59) l35 c35 k35).binds (ps := ["_law_size", "_law_pairs"]) fun _ _ _ _ _ _ us hl => match us, hl with | [_, _], _ => rfl⟩
  · exact ⟨_, _, fun_mk (st := topS 60) l36 c36 k36, PySem.W.mg_of X G a36, (fun_mk (st := topS 60) l36 c36 k36).binds (ps := ["_law_script"]) fun _ _ _ _ _ _ us hl => match us, hl with | [_], _ => rfl⟩
  · exact PySem.W.mg_none_of X G z_ValueError
  · exact PySem.W.mg_none_of X G z_all
  · exact PySem.W.mg_none_of X G z_bool
  · exact PySem.W.mg_none_of X G z_enumerate
  · exact PySem.W.mg_none_of X G z_int
  · exact PySem.W.mg_none_of X G z_isinstance
  · exact PySem.W.mg_none_of X G z_len
  · exact PySem.W.mg_none_of X G z_list
  · exact PySem.W.mg_none_of X G z_max
  · exact PySem.W.mg_none_of X G z_min
  · exact PySem.W.mg_none_of X G z_range
  · exact PySem.W.mg_none_of X G z_repr
  · exact PySem.W.mg_none_of X G z_str
  · exact PySem.W.mg_none_of X G z_tuple
  · exact ⟨C_SettingsError, [("NoKind", C_NoKind), ("NoSize", C_NoSize), ("NoDeed", C_NoDeed), ("NoSettings", C_NoSettings), ("NoSetting", C_NoSetting), ("NoPartial", C_NoPartial), ("NoRule", C_NoRule), ("NoOptions", C_NoOptions), ("NoPairs", C_NoPairs), ("Fitted", C_Fitted), ("Unfit", C_Unfit), ("NoBook", C_NoBook), ("NoNumber", C_NoNumber), ("Unlike", C_Unlike), ("NoText", C_NoText)], ⟨(.cons (xcls_mk X G xa_NoKind xm_NoKind xr_NoKind xd_NoKind xt_NoKind xk_NoKind xg_NoKind xh_NoKind xc_NoKind) (.inl xq_NoKind) (.cons (xcls_mk X G xa_NoSize xm_NoSize xr_NoSize xd_NoSize xt_NoSize xk_NoSize xg_NoSize xh_NoSize xc_NoSize) (.inl xq_NoSize) (.cons (xcls_mk X G xa_NoDeed xm_NoDeed xr_NoDeed xd_NoDeed xt_NoDeed xk_NoDeed xg_NoDeed xh_NoDeed xc_NoDeed) (.inl xq_NoDeed) (.cons (xcls_mk X G xa_NoSettings xm_NoSettings xr_NoSettings xd_NoSettings xt_NoSettings xk_NoSettings xg_NoSettings xh_NoSettings xc_NoSettings) (.inl xq_NoSettings) (.cons (xcls_mk X G xa_NoSetting xm_NoSetting xr_NoSetting xd_NoSetting xt_NoSetting xk_NoSetting xg_NoSetting xh_NoSetting xc_NoSetting) (.inl xq_NoSetting) (.cons (xcls_mk X G xa_NoPartial xm_NoPartial xr_NoPartial xd_NoPartial xt_NoPartial xk_NoPartial xg_NoPartial xh_NoPartial xc_NoPartial) (.inl xq_NoPartial) (.cons (xcls_mk X G xa_NoRule xm_NoRule xr_NoRule xd_NoRule xt_NoRule xk_NoRule xg_NoRule xh_NoRule xc_NoRule) (.inl xq_NoRule) (.cons (xcls_mk X G xa_NoOptions xm_NoOptions xr_NoOptions xd_NoOptions xt_NoOptions xk_NoOptions xg_NoOptions xh_NoOptions xc_NoOptions) (.inl xq_NoOptions) (.cons (xcls_mk X G xa_NoPairs xm_NoPairs xr_NoPairs xd_NoPairs xt_NoPairs xk_NoPairs xg_NoPairs xh_NoPairs xc_NoPairs) (.inl xq_NoPairs) (.cons (xcls_mk X G xa_Fitted xm_Fitted xr_Fitted xd_Fitted xt_Fitted xk_Fitted xg_Fitted xh_Fitted xc_Fitted) (.inl xq_Fitted) (.cons (xcls_mk X G xa_Unfit xm_Unfit xr_Unfit xd_Unfit xt_Unfit xk_Unfit xg_Unfit xh_Unfit xc_Unfit) (.inl xq_Unfit) (.cons (xcls_mk X G xa_NoBook xm_NoBook xr_NoBook xd_NoBook xt_NoBook xk_NoBook xg_NoBook xh_NoBook xc_NoBook) (.inl xq_NoBook) (.cons (xcls_mk X G xa_NoNumber xm_NoNumber xr_NoNumber xd_NoNumber xt_NoNumber xk_NoNumber xg_NoNumber xh_NoNumber xc_NoNumber) (.inl xq_NoNumber) (.cons (xcls_mk X G xa_Unlike xm_Unlike xr_Unlike xd_Unlike xt_Unlike xk_Unlike xg_Unlike xh_Unlike xc_Unlike) (.inl xq_Unlike) (.cons (xcls_mk X G xa_NoText xm_NoText xr_NoText xd_NoText xt_NoText xk_NoText xg_NoText xh_NoText xc_NoText) (.inr rfl) .nil))))))))))))))), rfl, xnd, xns, PySem.W.mg_of X G xa_SettingsError, ⟨_, xm_SettingsError, xr_SettingsError, xd_SettingsError⟩, xt_SettingsError, xg1, xt1⟩⟩
  · exact ⟨_, PySem.W.mg_of X G g_FIGURES⟩
  · exact ⟨_, PySem.W.mg_of X G g_MOST_OPTIONS⟩
  · exact ⟨_, a9, PySem.W.mg_of X G a9⟩
  · exact ⟨_, _, _, xa_NoText, PySem.W.mg_of X G xa_NoText, ⟨⟨_, _, _, _, _, _, _, _, _, _, _, _, _, _, _, nO, nV⟩, nS, ((xcls_mk X G xa_NoText xm_NoText xr_NoText xd_NoText xt_NoText xk_NoText xg_NoText xh_NoText xc_NoText).sub _).trans rfl, xt_NoText, xk_NoText⟩, nI, nT, fun_mk (st := (inClass (topS 16) 0)) nL nC nK, (fun_mk (st := (inClass (topS 16) 0)) nL nC nK).binds (ps := ["self", "line"]) fun _ _ _ _ _ _ us hl => match us, hl with | [_, _], _ => rfl, nN⟩
  · exact ⟨⟨_, xa_NoText, ⟨xg_NoText, xh_NoText, ((xcls_mk X G xa_NoText xm_NoText xr_NoText xd_NoText xt_NoText xk_NoText xg_NoText xh_NoText xc_NoText).sub _).trans rfl, nH⟩, nN⟩⟩
end K61
open PySem PySem.W PyProof.Rows
set_option maxHeartbeats 0 in
theorem PySem.Challenge.cw_seensettings_k61_pairs_written_holds : PySem.Challenge.rw_seensettings_k61_pairs_written.Holds := by
  w_on; o_law; k_head; (case hw => w_witness2)
  k_fill
  refine Y.walk_ofM (l := PySem.Challenge.rw_seensettings_k61_pairs_written) (n := 63) (k := 10) (x := "_law_script") (mf := K61.F_law) rfl (by decide) rfl ⟨rfl, by decide, by decide⟩ (fun w h Y => PySem.W.kIn_of Y) ?F K61.law_true
  case F =>
    intro w mg fa h KX G hmg base
    refine K61.c_law ?T
    refine' K61.txt_mk KX G ?a0 ?l0 ?c0 ?k0 ?a1 ?l1 ?c1 ?k1 ?a2 ?l2 ?c2 ?k2 ?a3 ?l3 ?c3 ?k3 ?a4 ?l4 ?c4 ?k4 ?a5 ?l5 ?c5 ?k5 ?a6 ?l6 ?c6 ?k6 ?a7 ?l7 ?c7 ?k7 ?a8 ?l8 ?c8 ?k8 ?a9 ?l9 ?c9 ?k9 ?a10 ?l10 ?c10 ?k10 ?a11 ?l11 ?c11 ?k11 ?a12 ?l12 ?c12 ?k12 ?a13 ?l13 ?c13 ?k13 ?a14 ?l14 ?c14 ?k14 ?a15 ?l15 ?c15 ?k15 ?a16 ?l16 ?c16 ?k16 ?a17 ?l17 ?c17 ?k17 ?a18 ?l18 ?c18 ?k18 ?a19 ?l19 ?c19 ?k19 ?a20 ?l20 ?c20 ?k20 ?a21 ?l21 ?c21 ?k21 ?a22 ?l22 ?c22 ?k22 ?a23 ?l23 ?c23 ?k23 ?a24 ?l24 ?c24 ?k24 ?a25 ?l25 ?c25 ?k25 ?a26 ?l26 ?c26 ?k26 ?a27 ?l27 ?c27 ?k27 ?a28 ?l28 ?c28 ?k28 ?a29 ?l29 ?c29 ?k29 ?a30 ?l30 ?c30 ?k30 ?a31 ?l31 ?c31 ?k31 ?a32 ?l32 ?c32 ?k32 ?a33 ?l33 ?c33 ?k33 ?a34 ?l34 ?c34 ?k34 ?a35 ?l35 ?c35 ?k35 ?a36 ?l36 ?c36 ?k36 ?xa_SettingsError ?xm_SettingsError ?xr_SettingsError ?xd_SettingsError ?xt_SettingsError ?xa_NoKind ?xm_NoKind ?xr_NoKind ?xd_NoKind ?xt_NoKind ?xk_NoKind ?xg_NoKind ?xh_NoKind ?xc_NoKind ?xq_NoKind ?xa_NoSize ?xm_NoSize ?xr_NoSize ?xd_NoSize ?xt_NoSize ?xk_NoSize ?xg_NoSize ?xh_NoSize ?xc_NoSize ?xq_NoSize ?xa_NoDeed ?xm_NoDeed ?xr_NoDeed ?xd_NoDeed ?xt_NoDeed ?xk_NoDeed ?xg_NoDeed ?xh_NoDeed ?xc_NoDeed ?xq_NoDeed ?xa_NoSettings ?xm_NoSettings ?xr_NoSettings ?xd_NoSettings ?xt_NoSettings ?xk_NoSettings ?xg_NoSettings ?xh_NoSettings ?xc_NoSettings ?xq_NoSettings ?xa_NoSetting ?xm_NoSetting ?xr_NoSetting ?xd_NoSetting ?xt_NoSetting ?xk_NoSetting ?xg_NoSetting ?xh_NoSetting ?xc_NoSetting ?xq_NoSetting ?xa_NoPartial ?xm_NoPartial ?xr_NoPartial ?xd_NoPartial ?xt_NoPartial ?xk_NoPartial ?xg_NoPartial ?xh_NoPartial ?xc_NoPartial ?xq_NoPartial ?xa_NoRule ?xm_NoRule ?xr_NoRule ?xd_NoRule ?xt_NoRule ?xk_NoRule ?xg_NoRule ?xh_NoRule ?xc_NoRule ?xq_NoRule ?xa_NoOptions ?xm_NoOptions ?xr_NoOptions ?xd_NoOptions ?xt_NoOptions ?xk_NoOptions ?xg_NoOptions ?xh_NoOptions ?xc_NoOptions ?xq_NoOptions ?xa_NoPairs ?xm_NoPairs ?xr_NoPairs ?xd_NoPairs ?xt_NoPairs ?xk_NoPairs ?xg_NoPairs ?xh_NoPairs ?xc_NoPairs ?xq_NoPairs ?xa_Fitted ?xm_Fitted ?xr_Fitted ?xd_Fitted ?xt_Fitted ?xk_Fitted ?xg_Fitted ?xh_Fitted ?xc_Fitted ?xq_Fitted ?xa_Unfit ?xm_Unfit ?xr_Unfit ?xd_Unfit ?xt_Unfit ?xk_Unfit ?xg_Unfit ?xh_Unfit ?xc_Unfit ?xq_Unfit ?xa_NoBook ?xm_NoBook ?xr_NoBook ?xd_NoBook ?xt_NoBook ?xk_NoBook ?xg_NoBook ?xh_NoBook ?xc_NoBook ?xq_NoBook ?xa_NoNumber ?xm_NoNumber ?xr_NoNumber ?xd_NoNumber ?xt_NoNumber ?xk_NoNumber ?xg_NoNumber ?xh_NoNumber ?xc_NoNumber ?xq_NoNumber ?xa_Unlike ?xm_Unlike ?xr_Unlike ?xd_Unlike ?xt_Unlike ?xk_Unlike ?xg_Unlike ?xh_Unlike ?xc_Unlike ?xq_Unlike ?xa_NoText ?xm_NoText ?xr_NoText ?xd_NoText ?xt_NoText ?xk_NoText ?xg_NoText ?xh_NoText ?xc_NoText ?xg1 ?xt1 ?xnd ?xns ?z_ValueError ?z_all ?z_bool ?z_enumerate ?z_int ?z_isinstance ?z_len ?z_list ?z_max ?z_min ?z_range ?z_repr ?z_str ?z_tuple ?g_FIGURES ?g_MOST_OPTIONS ?nI ?nT ?nL ?nC ?nK ?nN ?nS ?nO ?nV ?nH
    (case a0 => k_is)
    (case l0 => k_is)
    (case c0 => k_is)
    (case k0 => k_is)
    (case a1 => k_is)
    (case l1 => k_is)
    (case c1 => k_is)
    (case k1 => k_is)
    (case a2 => k_is)
    (case l2 => k_is)
    (case c2 => k_is)
    (case k2 => k_is)
    (case a3 => k_is)
    (case l3 => k_is)
    (case c3 => k_is)
    (case k3 => k_is)
    (case a4 => k_is)
    (case l4 => k_is)
    (case c4 => k_is)
    (case k4 => k_is)
    (case a5 => k_is)
    (case l5 => k_is)
    (case c5 => k_is)
    (case k5 => k_is)
    (case a6 => k_is)
    (case l6 => k_is)
    (case c6 => k_is)
    (case k6 => k_is)
    (case a7 => k_is)
    (case l7 => k_is)
    (case c7 => k_is)
    (case k7 => k_is)
    (case a8 => k_is)
    (case l8 => k_is)
    (case c8 => k_is)
    (case k8 => k_is)
    (case a9 => k_is)
    (case l9 => k_is)
    (case c9 => k_is)
    (case k9 => k_is)
    (case a10 => k_is)
    (case l10 => k_is)
    (case c10 => k_is)
    (case k10 => k_is)
    (case a11 => k_is)
    (case l11 => k_is)
    (case c11 => k_is)
    (case k11 => k_is)
    (case a12 => k_is)
    (case l12 => k_is)
    (case c12 => k_is)
    (case k12 => k_is)
    (case a13 => k_is)
    (case l13 => k_is)
    (case c13 => k_is)
    (case k13 => k_is)
    (case a14 => k_is)
    (case l14 => k_is)
    (case c14 => k_is)
    (case k14 => k_is)
    (case a15 => k_is)
    (case l15 => k_is)
    (case c15 => k_is)
    (case k15 => k_is)
    (case a16 => k_is)
    (case l16 => k_is)
    (case c16 => k_is)
    (case k16 => k_is)
    (case a17 => k_is)
    (case l17 => k_is)
    (case c17 => k_is)
    (case k17 => k_is)
    (case a18 => k_is)
    (case l18 => k_is)
    (case c18 => k_is)
    (case k18 => k_is)
    (case a19 => k_is)
    (case l19 => k_is)
    (case c19 => k_is)
    (case k19 => k_is)
    (case a20 => k_is)
    (case l20 => k_is)
    (case c20 => k_is)
    (case k20 => k_is)
    (case a21 => k_is)
    (case l21 => k_is)
    (case c21 => k_is)
    (case k21 => k_is)
    (case a22 => k_is)
    (case l22 => k_is)
    (case c22 => k_is)
    (case k22 => k_is)
    (case a23 => k_is)
    (case l23 => k_is)
    (case c23 => k_is)
    (case k23 => k_is)
    (case a24 => k_is)
    (case l24 => k_is)
    (case c24 => k_is)
    (case k24 => k_is)
    (case a25 => k_is)
    (case l25 => k_is)
    (case c25 => k_is)
    (case k25 => k_is)
    (case a26 => k_is)
    (case l26 => k_is)
    (case c26 => k_is)
    (case k26 => k_is)
    (case a27 => k_is)
    (case l27 => k_is)
    (case c27 => k_is)
    (case k27 => k_is)
    (case a28 => k_is)
    (case l28 => k_is)
    (case c28 => k_is)
    (case k28 => k_is)
    (case a29 => k_is)
    (case l29 => k_is)
    (case c29 => k_is)
    (case k29 => k_is)
    (case a30 => k_is)
    (case l30 => k_is)
    (case c30 => k_is)
    (case k30 => k_is)
    (case a31 => k_is)
    (case l31 => k_is)
    (case c31 => k_is)
    (case k31 => k_is)
    (case a32 => k_is)
    (case l32 => k_is)
    (case c32 => k_is)
    (case k32 => k_is)
    (case a33 => k_is)
    (case l33 => k_is)
    (case c33 => k_is)
    (case k33 => k_is)
    (case a34 => k_is)
    (case l34 => k_is)
    (case c34 => k_is)
    (case k34 => k_is)
    (case a35 => k_is)
    (case l35 => k_is)
    (case c35 => k_is)
    (case k35 => k_is)
    (case a36 => k_is)
    (case l36 => k_is)
    (case c36 => k_is)
    (case k36 => k_is)
    (case xa_SettingsError => k_is)
    (case xm_SettingsError => k_is)
    (case xr_SettingsError => rfl)
    (case xd_SettingsError => rfl)
    (case xt_SettingsError => k_is)
    (case xa_NoKind => k_is)
    (case xm_NoKind => k_is)
    (case xr_NoKind => rfl)
    (case xd_NoKind => rfl)
    (case xt_NoKind => k_is)
    (case xk_NoKind => k_is)
    (case xg_NoKind => k_is)
    (case xh_NoKind => k_is)
    (case xc_NoKind => k_is)
    (case xq_NoKind => k_exc)
    (case xa_NoSize => k_is)
    (case xm_NoSize => k_is)
    (case xr_NoSize => rfl)
    (case xd_NoSize => rfl)
    (case xt_NoSize => k_is)
    (case xk_NoSize => k_is)
    (case xg_NoSize => k_is)
    (case xh_NoSize => k_is)
    (case xc_NoSize => k_is)
    (case xq_NoSize => k_exc)
    (case xa_NoDeed => k_is)
    (case xm_NoDeed => k_is)
    (case xr_NoDeed => rfl)
    (case xd_NoDeed => rfl)
    (case xt_NoDeed => k_is)
    (case xk_NoDeed => k_is)
    (case xg_NoDeed => k_is)
    (case xh_NoDeed => k_is)
    (case xc_NoDeed => k_is)
    (case xq_NoDeed => k_exc)
    (case xa_NoSettings => k_is)
    (case xm_NoSettings => k_is)
    (case xr_NoSettings => rfl)
    (case xd_NoSettings => rfl)
    (case xt_NoSettings => k_is)
    (case xk_NoSettings => k_is)
    (case xg_NoSettings => k_is)
    (case xh_NoSettings => k_is)
    (case xc_NoSettings => k_is)
    (case xq_NoSettings => k_exc)
    (case xa_NoSetting => k_is)
    (case xm_NoSetting => k_is)
    (case xr_NoSetting => rfl)
    (case xd_NoSetting => rfl)
    (case xt_NoSetting => k_is)
    (case xk_NoSetting => k_is)
    (case xg_NoSetting => k_is)
    (case xh_NoSetting => k_is)
    (case xc_NoSetting => k_is)
    (case xq_NoSetting => k_exc)
    (case xa_NoPartial => k_is)
    (case xm_NoPartial => k_is)
    (case xr_NoPartial => rfl)
    (case xd_NoPartial => rfl)
    (case xt_NoPartial => k_is)
    (case xk_NoPartial => k_is)
    (case xg_NoPartial => k_is)
    (case xh_NoPartial => k_is)
    (case xc_NoPartial => k_is)
    (case xq_NoPartial => k_exc)
    (case xa_NoRule => k_is)
    (case xm_NoRule => k_is)
    (case xr_NoRule => rfl)
    (case xd_NoRule => rfl)
    (case xt_NoRule => k_is)
    (case xk_NoRule => k_is)
    (case xg_NoRule => k_is)
    (case xh_NoRule => k_is)
    (case xc_NoRule => k_is)
    (case xq_NoRule => k_exc)
    (case xa_NoOptions => k_is)
    (case xm_NoOptions => k_is)
    (case xr_NoOptions => rfl)
    (case xd_NoOptions => rfl)
    (case xt_NoOptions => k_is)
    (case xk_NoOptions => k_is)
    (case xg_NoOptions => k_is)
    (case xh_NoOptions => k_is)
    (case xc_NoOptions => k_is)
    (case xq_NoOptions => k_exc)
    (case xa_NoPairs => k_is)
    (case xm_NoPairs => k_is)
    (case xr_NoPairs => rfl)
    (case xd_NoPairs => rfl)
    (case xt_NoPairs => k_is)
    (case xk_NoPairs => k_is)
    (case xg_NoPairs => k_is)
    (case xh_NoPairs => k_is)
    (case xc_NoPairs => k_is)
    (case xq_NoPairs => k_exc)
    (case xa_Fitted => k_is)
    (case xm_Fitted => k_is)
    (case xr_Fitted => rfl)
    (case xd_Fitted => rfl)
    (case xt_Fitted => k_is)
    (case xk_Fitted => k_is)
    (case xg_Fitted => k_is)
    (case xh_Fitted => k_is)
    (case xc_Fitted => k_is)
    (case xq_Fitted => k_exc)
    (case xa_Unfit => k_is)
    (case xm_Unfit => k_is)
    (case xr_Unfit => rfl)
    (case xd_Unfit => rfl)
    (case xt_Unfit => k_is)
    (case xk_Unfit => k_is)
    (case xg_Unfit => k_is)
    (case xh_Unfit => k_is)
    (case xc_Unfit => k_is)
    (case xq_Unfit => k_exc)
    (case xa_NoBook => k_is)
    (case xm_NoBook => k_is)
    (case xr_NoBook => rfl)
    (case xd_NoBook => rfl)
    (case xt_NoBook => k_is)
    (case xk_NoBook => k_is)
    (case xg_NoBook => k_is)
    (case xh_NoBook => k_is)
    (case xc_NoBook => k_is)
    (case xq_NoBook => k_exc)
    (case xa_NoNumber => k_is)
    (case xm_NoNumber => k_is)
    (case xr_NoNumber => rfl)
    (case xd_NoNumber => rfl)
    (case xt_NoNumber => k_is)
    (case xk_NoNumber => k_is)
    (case xg_NoNumber => k_is)
    (case xh_NoNumber => k_is)
    (case xc_NoNumber => k_is)
    (case xq_NoNumber => k_exc)
    (case xa_Unlike => k_is)
    (case xm_Unlike => k_is)
    (case xr_Unlike => rfl)
    (case xd_Unlike => rfl)
    (case xt_Unlike => k_is)
    (case xk_Unlike => k_is)
    (case xg_Unlike => k_is)
    (case xh_Unlike => k_is)
    (case xc_Unlike => k_is)
    (case xq_Unlike => k_exc)
    (case xa_NoText => k_is)
    (case xm_NoText => k_is)
    (case xr_NoText => rfl)
    (case xd_NoText => rfl)
    (case xt_NoText => k_is)
    (case xk_NoText => k_is)
    (case xg_NoText => k_is)
    (case xh_NoText => k_is)
    (case xc_NoText => k_is)
    (case xg1 => k_is)
    (case xt1 => k_is)
    (case xnd => decide)
    (case xns => decide)
    (case z_ValueError => k_is)
    (case z_all => k_is)
    (case z_bool => k_is)
    (case z_enumerate => k_is)
    (case z_int => k_is)
    (case z_isinstance => k_is)
    (case z_len => k_is)
    (case z_list => k_is)
    (case z_max => k_is)
    (case z_min => k_is)
    (case z_range => k_is)
    (case z_repr => k_is)
    (case z_str => k_is)
    (case z_tuple => k_is)
    (case g_FIGURES => k_is)
    (case g_MOST_OPTIONS => k_is)
    (case nI => k_is)
    (case nT => k_is)
    (case nL => k_is)
    (case nC => k_is)
    (case nK => k_is)
    (case nN => k_is)
    (case nS => k_is)
    (case nO => k_is)
    (case nV => rfl)
    (case nH => k_is)
